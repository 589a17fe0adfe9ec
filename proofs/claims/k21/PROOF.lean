import PyProof.Rows.All
import Wide.All
import OpenK.AllK
import Wide.FinOn
import HandS.ForMost
import HandS.ForExc
import HandS.TupSets
import HandS.Strs
import HandS.Wide
import HandS.Codes
import HandS.Star
import HandS.IsInst
import HandS.Property
import HandS.Defaults
import HandS.OwnEq
import HandS.SetFor
import HandS.TupLe
import HandS.Style
import HandS.HeadHook2
import HandS.Head2
import HandS.HeadEnd
import HandS.ClsMeth
import KE.GoesEnum
import KE.KOpsOwn
import KE.DataMinMax
import HandS.SortKw
import HandS.Walk
import HandS.HeadHook3
import HandS.TupAny
import KE.KRevSl
import HandS.ExcInit
import HandS.Nested
import KE.KExcSuper
import HandS.TryOnly
import HandS.TryMany
import HandS.ExcOwn
import HandS.ExcField
import HandS.ExcIs
import KE.DataCmp
import KE.SortData
import KE.KCallOwn
import HandS.Lambda
import HandS.Deep
import HandS.MakeKw
import HandS.MakeKwOnly
import PyProof.StrBlock2
import HandS.FStr
import HandS.CallLocal
import KE.IntTextLaws
import HandS.Flt
import HandS.Conv
import PySem.Challenge.RW_turnrings_k21_rings_by_common_divisors
set_option Elab.async false
set_option linter.all false
set_option maxRecDepth 100000
set_option maxHeartbeats 4000000
/-! # My layer over HandS: defs by name (Cal), own operators. -/
namespace Tr
open PySem L2
open PyProof.Rows (envOfC)

theorem units_of {A : Around} {k : Nat} (hr : Room k A) : A.units + 64 < cLine := hr.units

/-- a def that may be called by its name -/
structure Cal (P : Program) (w : World) (K : PySem.W.Frag) (mg : Str → Option Value) (base : Heap) (k : Nat) (x : Str) (sp : Sp) (dvs : List V) : Prop where
  ex : ∃ (f : Addr) (fd : FuncData) (ps : List Str) (ds : List Value), FnOk P w K mg base (L2.CX P w) k f fd ps sp ∧ mg x = some (.ref f) ∧ PySem.W.keepIn K (.ref f) = true ∧ Binds K fd ps ds ∧ Vals dvs ds
/-- a method of the class at C -/
structure Met (P : Program) (w : World) (K : PySem.W.Frag) (mg : Str → Option Value) (base : Heap) (k : Nat) (C : Addr) (m : Str) (sp : Sp) (dvs : List V) : Prop where
  ex : ∃ (f : Addr) (fd : FuncData) (ps : List Str) (ds : List Value), Cls K C ∧ Meth K C m f ∧ FnOk P w K mg base (L2.CX P w) k f fd ps sp ∧ Binds K fd ps ds ∧ Vals dvs ds
/-- a class that may be made by its name; sp: its __init__ -/
structure Mak (P : Program) (w : World) (K : PySem.W.Frag) (mg : Str → Option Value) (base : Heap) (k : Nat) (x : Str) (C : Addr) (sp : Sp) (dvs : List V) : Prop where
  ex : ∃ (f : Addr) (fd : FuncData) (ps : List Str) (ds : List Value), Mk K C f ∧ FnOk P w K mg base (L2.CX P w) k f fd ps sp ∧ mg x = some (.ref C) ∧ Binds K fd ps ds ∧ Vals dvs ds
/-- a def of the module, as the top has left it -/
def Dfn (K : PySem.W.Frag) (mg : Str → Option Value) (x : Str) (st : Stmt) : Prop := ∃ f fd, Fun K x x st f fd ∧ mg x = some (.ref f)

section
variable {P : Program} {w : World} {K : PySem.W.Frag} {mg : Str → Option Value} {base : Heap}
theorem Cal.mono {j k : Nat} {x : Str} {sp : Sp} {dvs : List V} (c : Cal P w K mg base j x sp dvs) (h : j ≤ k) : Cal P w K mg base k x sp dvs :=
  let ⟨f, fd, ps, ds, F, r⟩ := c.ex
  ⟨f, fd, ps, ds, F.mono h, r⟩
theorem Cal.imp {k : Nat} {x : Str} {sp sp' : Sp} {dvs : List V} (c : Cal P w K mg base k x sp dvs) (h : ∀ vs H Q E, sp' vs H Q E → sp vs H Q E) : Cal P w K mg base k x sp' dvs :=
  let ⟨f, fd, ps, ds, F, r⟩ := c.ex
  ⟨f, fd, ps, ds, F.imp h, r⟩
/-- a def that raises nothing, by its body -/
theorem okN {x qual : Str} {st : Stmt} {f : Addr} {fd : FuncData} {N ps : List Str} {k : Nat} {sp : Sp} (F : Fun K x qual st f fd) (S : FnScope N ps (defScope st)) (len : ∀ vs H Q E, sp vs H Q E → vs.length = ps.length)
    (hbody : ∀ (cdv : Value) (A : Around) (outer : List Env) (s : Shared) (H : Hp) (vs : List V) (Q : VK) (E : XK), Room k (A.deeper (envOfC qual (defScope st) s.heap.objs.size f cdv)) → sp vs H Q E →
      ∃ t, PSs (cxOf (L2.CX P w) P w K mg base N qual (defScope st) f cdv A outer s H E).nox (defBody st) t ∧ t { nx := fun _ H' => Q .non H', rt := Q } (start N vs) H) : FnOk P w K mg base (L2.CX P w) (k + 1) f fd ps sp :=
  F.okX S len fun cdv A outer s H vs Q E hr h =>
    let ⟨t, h1, h2⟩ := hbody cdv A outer s H vs Q E hr h
    ⟨t, h1.nox, h2⟩
theorem calN {x : Str} {st : Stmt} {N ps : List Str} {k : Nat} {sp : Sp} (D : Dfn K mg x st) (S : FnScope N ps (defScope st)) (len : ∀ vs H Q E, sp vs H Q E → vs.length = ps.length)
    (hb : ∀ (kV doc pm : Value) (an : Option Addr) (cdv ct : Value) (us : List Value), us.length = ps.length → bindArgs (PySem.W.fnOf x x (defArgs st) (defBody st) (defScope st) .none kV doc pm an cdv ct) ⟨us, []⟩ = pure (ps.zip us))
    (hbody : ∀ (f : Addr) (cdv : Value) (A : Around) (outer : List Env) (s : Shared) (H : Hp) (vs : List V) (Q : VK) (E : XK), Room k (A.deeper (envOfC x (defScope st) s.heap.objs.size f cdv)) → sp vs H Q E →
      ∃ t, PSs (cxOf (L2.CX P w) P w K mg base N x (defScope st) f cdv A outer s H E).nox (defBody st) t ∧ t { nx := fun _ H' => Q .non H', rt := Q } (start N vs) H) : Cal P w K mg base (k + 1) x sp [] :=
  let ⟨f, fd, F, hm⟩ := D
  ⟨f, fd, ps, [], okN F S len (hbody f), hm, F.kp, F.binds hb, .nil⟩
/-- a def that may raise -/
theorem calX {x : Str} {st : Stmt} {N ps : List Str} {k : Nat} {sp : Sp} (D : Dfn K mg x st) (S : FnScope N ps (defScope st)) (len : ∀ vs H Q E, sp vs H Q E → vs.length = ps.length)
    (hb : ∀ (kV doc pm : Value) (an : Option Addr) (cdv ct : Value) (us : List Value), us.length = ps.length → bindArgs (PySem.W.fnOf x x (defArgs st) (defBody st) (defScope st) .none kV doc pm an cdv ct) ⟨us, []⟩ = pure (ps.zip us))
    (hbody : ∀ (f : Addr) (cdv : Value) (A : Around) (outer : List Env) (s : Shared) (H : Hp) (vs : List V) (Q : VK) (E : XK), Room k (A.deeper (envOfC x (defScope st) s.heap.objs.size f cdv)) → sp vs H Q E →
      ∃ t, PSs (cxOf (L2.CX P w) P w K mg base N x (defScope st) f cdv A outer s H E) (defBody st) t ∧ t { nx := fun _ H' => Q .non H', rt := Q } (start N vs) H) : Cal P w K mg base (k + 1) x sp [] :=
  let ⟨f, fd, F, hm⟩ := D
  ⟨f, fd, ps, [], F.okX S len (hbody f), hm, F.kp, F.binds hb, .nil⟩
theorem dfn_of {h : Heap} {x : Str} {st : Stmt} {f : Addr} {oc : Value} {od an : Option Addr} {osl : Array (Option Value)} {kV doc pm cdv ct : Value} (X : K.In h) (G : h.Ns mainGlobals mg)
    (a : PySem.W.nsIn K mainGlobals x = some (some (.ref f))) (l : K.lookup f = some ⟨oc, od, .func (PySem.W.fnOf x x (defArgs st) (defBody st) (defScope st) .none kV doc pm an cdv ct), osl⟩)
    (c : PySem.W.codeIn K cdv x = true) (k : PySem.W.keepIn K (.ref f) = true) : Dfn K mg x st := ⟨f, _, fun_mk l c k, PySem.W.mg_of X G a⟩
end

section
variable {X : Cx} {k j : Nat} {C : Addr} {x m : Str} {sp : Sp} {dvs : List V} {p pos apos : Pos} {e o : Expr} {es : List Expr} {ta : TE} {t : TA} {E : XK}
theorem pe_cx (c : Cal X.prog X.w X.K X.mg X.base k x sp dvs) (hr : Room j X.A) (hk : k ≤ j) (hg : Gl X x) (hx : Passes (L2.CX X.prog X.w) X E) (ha : PA X (e :: es) t)
    (hdb : (x == ("__debug__" : Str)) = false := by decide) (he : starEach (e :: es) X.env = (false, eval e X.env) :: starEach es X.env := by rfl) (hpl : (backTo pos (starEach es X.env)).any (·.1) = false := by rfl) :
    PE X (.Call (.Name x p) (e :: es) [] pos) (tCall sp dvs E t) := by
  obtain ⟨f, fd, ps, ds, F, hm, kp, b, d⟩ := c.ex
  exact pe_call F (hr.mono hk) hg hm kp b d hx ha hdb he hpl
theorem pe_cx0 (c : Cal X.prog X.w X.K X.mg X.base k x sp dvs) (hr : Room j X.A) (hk : k ≤ j) (hg : Gl X x) (hx : Passes (L2.CX X.prog X.w) X E)
    (hdb : (x == ("__debug__" : Str)) = false := by decide) : PE X (.Call (.Name x p) [] [] pos) (tCall sp dvs E tNil) := by
  obtain ⟨f, fd, ps, ds, F, hm, kp, b, d⟩ := c.ex
  exact pe_call0 F (hr.mono hk) hg hm kp b d hx hdb
end
end Tr

/-! # Lists of pairs, loops and comprehensions over them. -/
namespace Tr
open PySem L2

/-- two lists, item by item -/
inductive P2 {α β : Type} (R : α → β → Prop) : List α → List β → Prop where
  | nil : P2 R [] []
  | cons {a : α} {b : β} {l : List α} {m : List β} : R a b → P2 R l m → P2 R (a :: l) (b :: m)
namespace P2
variable {α β γ : Type} {R S : α → β → Prop}
theorem len {l : List α} {m : List β} (h : P2 R l m) : l.length = m.length := by
  induction h with
  | nil => rfl
  | cons _ _ ih => simp only [List.length_cons, ih]
theorem mono {l : List α} {m : List β} (h : P2 R l m) (f : ∀ a b, R a b → S a b) : P2 S l m := by
  induction h with
  | nil => exact .nil
  | cons r _ ih => exact .cons (f _ _ r) ih
theorem monoM {l : List α} {m : List β} (h : P2 R l m) (f : ∀ a b, a ∈ l → b ∈ m → R a b → S a b) : P2 S l m := by
  induction h with
  | nil => exact .nil
  | cons r _ ih => exact .cons (f _ _ List.mem_cons_self List.mem_cons_self r) (ih fun a b ha hb => f a b (List.mem_cons_of_mem _ ha) (List.mem_cons_of_mem _ hb))
theorem app {l l' : List α} {m m' : List β} (h : P2 R l m) (h' : P2 R l' m') : P2 R (l ++ l') (m ++ m') := by
  induction h with
  | nil => exact h'
  | cons r _ ih => exact .cons r ih
theorem snoc {l : List α} {m : List β} {a : α} {b : β} (h : P2 R l m) (r : R a b) : P2 R (l ++ [a]) (m ++ [b]) := h.app (.cons r .nil)
theorem get {l : List α} {m : List β} (h : P2 R l m) {i : Nat} {b : β} (e : m[i]? = some b) : ∃ a, l[i]? = some a ∧ R a b := by
  induction h generalizing i with
  | nil => simp at e
  | cons r _ ih =>
    cases i with
    | zero =>
      simp only [List.getElem?_cons_zero, Option.some.injEq] at e
      subst e
      exact ⟨_, rfl, r⟩
    | succ i => exact ih (by simpa using e)
theorem getl {l : List α} {m : List β} (h : P2 R l m) {i : Nat} {a : α} (e : l[i]? = some a) : ∃ b, m[i]? = some b ∧ R a b := by
  induction h generalizing i with
  | nil => simp at e
  | cons r _ ih =>
    cases i with
    | zero =>
      simp only [List.getElem?_cons_zero, Option.some.injEq] at e
      subst e
      exact ⟨_, rfl, r⟩
    | succ i => exact ih (by simpa using e)
theorem eq_map {g : β → α} {l : List α} {m : List β} (h : P2 (fun a b => a = g b) l m) : l = m.map g := by
  induction h with
  | nil => rfl
  | cons r _ ih => rw [r, ih]; rfl
theorem of_map {g : β → α} (m : List β) (h : ∀ b ∈ m, R (g b) b) : P2 R (m.map g) m := by
  induction m with
  | nil => exact .nil
  | cons b m ih => exact .cons (h b List.mem_cons_self) (ih fun c hc => h c (List.mem_cons_of_mem _ hc))
theorem mapr {f : γ → β} {l : List α} {m : List γ} (h : P2 (fun a c => R a (f c)) l m) : P2 R l (m.map f) := by
  induction h with
  | nil => exact .nil
  | cons r _ ih => exact .cons r ih
theorem memr {l : List α} {m : List β} (h : P2 R l m) {b : β} (hb : b ∈ m) : ∃ a ∈ l, R a b := by
  induction h with
  | nil => cases hb
  | cons r _ ih =>
    rcases List.mem_cons.mp hb with e | hb
    · rw [e]; exact ⟨_, List.mem_cons_self, r⟩
    · obtain ⟨a, ha, r⟩ := ih hb
      exact ⟨a, List.mem_cons_of_mem _ ha, r⟩
theorem meml {l : List α} {m : List β} (h : P2 R l m) {a : α} (ha : a ∈ l) : ∃ b ∈ m, R a b := by
  induction h with
  | nil => cases ha
  | cons r _ ih =>
    rcases List.mem_cons.mp ha with e | ha
    · rw [e]; exact ⟨_, List.mem_cons_self, r⟩
    · obtain ⟨b, hb, r⟩ := ih ha
      exact ⟨b, List.mem_cons_of_mem _ hb, r⟩
theorem ref {f : α → V} {l : List V} {m : List β} {T : V → β → Prop} (h : P2 T l m) (hf : ∀ v b, T v b → ∃ a, v = f a) : ∃ as : List α, l = as.map f := by
  induction h with
  | nil => exact ⟨[], rfl⟩
  | cons r _ ih =>
    obtain ⟨as, e⟩ := ih
    obtain ⟨a, e2⟩ := hf _ _ r
    exact ⟨a :: as, by rw [e2, e]; rfl⟩
theorem map_l {f : α → γ} {T : γ → β → Prop} {l : List α} {m : List β} : P2 T (l.map f) m ↔ P2 (fun a b => T (f a) b) l m := by
  constructor
  · intro h
    generalize hl : l.map f = k at h
    induction h generalizing l with
    | nil =>
      cases l with
      | nil => exact .nil
      | cons a l => cases hl
    | cons r _ ih =>
      cases l with
      | nil => cases hl
      | cons a l =>
        simp only [List.map_cons, List.cons.injEq] at hl
        obtain ⟨e1, e2⟩ := hl
        subst e1
        exact .cons r (ih e2)
  · intro h
    induction h with
    | nil => exact .nil
    | cons r _ ih => exact .cons r ih
theorem take {l : List α} {m : List β} (h : P2 R l m) (n : Nat) : P2 R (l.take n) (m.take n) := by
  induction h generalizing n with
  | nil => simp only [List.take_nil]; exact .nil
  | cons r _ ih =>
    cases n with
    | zero => exact .nil
    | succ n => exact .cons r (ih n)
theorem drop {l : List α} {m : List β} (h : P2 R l m) (n : Nat) : P2 R (l.drop n) (m.drop n) := by
  induction h generalizing n with
  | nil => simp only [List.drop_nil]; exact .nil
  | cons r h ih =>
    cases n with
    | zero => exact .cons r h
    | succ n => exact ih n
theorem rev {l : List α} {m : List β} (h : P2 R l m) : P2 R l.reverse m.reverse := by
  induction h with
  | nil => exact .nil
  | cons r _ ih => rw [List.reverse_cons, List.reverse_cons]; exact ih.snoc r
end P2

theorem take_snoc {α : Type} {l : List α} {i : Nat} {x : α} (h : l[i]? = some x) : l.take (i + 1) = l.take i ++ [x] := by
  obtain ⟨hi, e⟩ := List.getElem?_eq_some_iff.mp h
  rw [← e]
  exact List.take_succ_eq_append_getElem hi
theorem mem_of_at {α : Type} {l : List α} {i : Nat} {x : α} (h : l[i]? = some x) : x ∈ l := List.mem_of_getElem? h

theorem nodup_len {α : Type} [DecidableEq α] : ∀ (l m : List α), l.Nodup → (∀ x ∈ l, x ∈ m) → l.length ≤ m.length
  | [], _, _, _ => Nat.zero_le _
  | a :: l, m, nd, h => by
    have ha := h a List.mem_cons_self
    obtain ⟨n1, n2⟩ := List.nodup_cons.mp nd
    have := nodup_len l (m.erase a) n2 fun x hx => (List.mem_erase_of_ne (fun e => n1 (by rw [← e]; exact hx))).mpr (h x (List.mem_cons_of_mem _ hx))
    rw [List.length_erase_of_mem ha] at this
    have : 0 < m.length := List.length_pos_of_mem ha
    simp only [List.length_cons]
    omega
/-! ### heaps -/
theorem same_upd {H : Hp} {p : Addr} {o : HO} (h : H p = none) : Same H (upd H p o) := fun b u e => by rw [upd_ne (ne_of_none e h)]; exact e
theorem _root_.L2.Same.upd' {H H1 : Hp} {p : Addr} {o : HO} (s : Same H H1) (h : H1 p = none) : Same H (L2.upd H1 p o) := s.trans (same_upd h)
/-- an object made since is written -/
theorem _root_.L2.Same.wr {H H1 : Hp} {p : Addr} {o : HO} (s : Same H H1) (h : H p = none) : Same H (L2.upd H1 p o) := fun b u e => by
  rw [upd_ne (ne_of_none e h)]
  exact s b u e
theorem _root_.L2.Same.seqT {K : PySem.W.Frag} {H H' : Hp} {a : Addr} {xs : List V} (e : Same H H') (h : SqT K H a xs) : SqT K H' a xs :=
  h.elim (fun h => .inl (h.elim (fun h => .inl (e _ _ h)) fun ⟨o, h⟩ => .inr ⟨o, e _ _ h⟩)) fun h => .inr h

/-- all but what stands at D is as it was -/
def Kp (D : Addr) (H H' : Hp) : Prop := ∀ b o, H b = some o → b ≠ D → H' b = some o
theorem Kp.refl (D : Addr) (H : Hp) : Kp D H H := fun _ _ e _ => e
theorem Kp.trans {D : Addr} {H H1 H2 : Hp} (a : Kp D H H1) (b : Kp D H1 H2) : Kp D H H2 := fun c o e n => b c o (a c o e n) n
theorem _root_.L2.Same.kp {D : Addr} {H H' : Hp} (s : Same H H') : Kp D H H' := fun b o e _ => s b o e
theorem kp_upd (D : Addr) (H : Hp) (o : HO) : Kp D H (L2.upd H D o) := fun b u e n => by rw [upd_ne n]; exact e

/-- a pair (r, m) stands at t -/
def PrT (H : Hp) (t : Addr) (c : Int × Int) : Prop := H t = some (.tup [.int c.1, .int c.2])
/-- a list of pairs stands at p -/
def PL (H : Hp) (p : Addr) (cs : List (Int × Int)) : Prop := ∃ ts : List Addr, H p = some (.lst (ts.map V.ref)) ∧ P2 (PrT H) ts cs
theorem PrT.ne {H : Hp} {t D : Addr} {c : Int × Int} {xs : List V} (h : PrT H t c) (hD : H D = some (.lst xs)) : t ≠ D := ne_of h hD (by intro z; cases z)
theorem P2.same {H H' : Hp} (s : Same H H') {ts : List Addr} {cs : List (Int × Int)} (h : P2 (PrT H) ts cs) : P2 (PrT H') ts cs := h.mono fun _ _ e => s _ _ e
theorem PL.same {H H' : Hp} {p : Addr} {cs : List (Int × Int)} (s : Same H H') (h : PL H p cs) : PL H' p cs :=
  let ⟨ts, a, b⟩ := h
  ⟨ts, s _ _ a, b.same s⟩

/-! ### loops -/
section
variable {K : PySem.W.Frag}
theorem wh {c : TT} {tb : TS} {D : Ends} {σ : St} {H : Hp} (Pv : St → Hp → Prop) (μ : St → Hp → Nat) (h0 : Pv σ H)
    (hs : ∀ σ H, Pv σ H → c σ H fun b H1 => if b = true then ∃ N : St → Hp → Prop, (∀ σ' H', N σ' H' → Pv σ' H' ∧ μ σ' H' < μ σ H) ∧ tb { D with nx := N, ct := N, bk := D.nx } σ H1 else D.nx σ H1)
    (mono : ∀ σ H Q Q', (∀ b H1, Q b H1 → Q' b H1) → c σ H Q → c σ H Q') : tWhile c tb D σ H := by
  refine ⟨fun m σ H => m = μ σ H ∧ Pv σ H, ⟨_, rfl, h0⟩, ?_⟩
  rintro m σ H ⟨rfl, p⟩
  refine mono σ H _ _ (fun b H1 q => ?_) (hs σ H p)
  cases b with
  | true =>
    obtain ⟨N, hN, q⟩ := q
    exact ⟨N, fun σ' H' n => ⟨_, (hN σ' H' n).2, rfl, (hN σ' H' n).1⟩, q⟩
  | false => exact q

/-- for a, b in pairs -/
theorem for_pairs {a : Addr} {i1 i2 : Nat} {tb : TS} {D : Ends} {σ : St} {H : Hp} {cs : List (Int × Int)} {ts : List Addr} (Pv : Nat → St → Hp → Prop) (h0 : Pv 0 σ H)
    (hl : ∀ i σ H, i ≤ cs.length → Pv i σ H → SqL K H a (ts.map V.ref) ∧ P2 (PrT H) ts cs)
    (hs : ∀ i c σ H, cs[i]? = some c → Pv i σ H → tb { D with nx := Pv (i + 1), ct := Pv (i + 1), bk := D.nx } ((σ.set i1 (some (.int c.1))).set i2 (some (.int c.2))) H)
    (hd : ∀ σ H, Pv cs.length σ H → D.nx σ H) :
    ∃ W : Nat → Nat → St → Hp → Prop, (∃ m, W 0 m σ H) ∧ ∀ i m σ H, W i m σ H →
      ((Itl K a).stop i H ∧ D.nx σ H) ∨ ((Itl K a).go i H ∧ ∃ N : St → Hp → Prop, (∀ σ' H', N σ' H' → ∃ m', m' < m ∧ W (i + 1) m' σ' H') ∧ ∀ x H', (Itl K a).yld i H x H' → gTup K 2 (gCons (gName i1) (gCons (gName i2) gNil)) x σ H' fun σ2 H2 => tb { D with nx := N, ct := N, bk := D.nx } σ2 H2) := by
  have hlen := (hl 0 σ H (Nat.zero_le _) h0).2.len
  have e : (ts.map V.ref).length = cs.length := by rw [List.length_map, hlen]
  refine for_list (K := K) (a := a) (xs := ts.map V.ref) Pv h0 (fun i σ H hi p => (hl i σ H (by omega) p).1) ?_ (fun σ H p => hd σ H (by rw [← e]; exact p))
  intro i x σ H hx p
  rw [List.getElem?_map] at hx
  cases ht : ts[i]? with
  | none => rw [ht] at hx; cases hx
  | some t =>
    rw [ht] at hx
    cases hx
    have hi : i < ts.length := (List.getElem?_eq_some_iff.mp ht).1
    obtain ⟨c, hc, r⟩ := (hl i σ H (by omega) p).2.getl ht
    exact ⟨t, _, rfl, SqT.of r, rfl, _, _, rfl, _, _, rfl, rfl, hs i c σ H hc p⟩

/-- the end of a comprehension -/
def LcG (J : It) (g : TG) (tt : TT) (te : TE) (vs : List Nat) (σ : St) (H1 : Hp) (D : Addr) (Qd : Hp → Prop) : Prop :=
    ∃ W : Nat → Nat → Hp → Prop, (∃ m, W 0 m (upd H1 D (.lst []))) ∧ ∀ i m H, W i m H →
      (J.stop i H ∧ Qd H) ∨ (J.go i H ∧ ∃ Nx : Hp → Prop, (∀ H', Nx H' → ∃ m', m' < m ∧ W (i + 1) m' H') ∧ ∀ x H', J.yld i H x H' → g x (wipe σ vs) H' fun σ2 H2 => wipe σ2 vs = wipe σ vs ∧ tt σ2 H2 fun b H3 =>
        if b = true then te σ2 H3 fun y H4 => ∃ acc, H4 D = some (.lst acc) ∧ acc.length < sizeLine ∧ Nx (upd H4 D (.lst (acc ++ [y]))) else Nx H3)

theorem small_app {n m : Nat} (h : n ≤ m) (hm : m ≤ 100000) : n < sizeLine := Nat.lt_of_le_of_lt (Nat.le_trans h hm) (by decide)

/-- [e for x in xs if p]: over a list of values; what stood stands, each item has the relation R to its source -/
theorem lc_vals {α : Type} {a : Addr} {xs : List V} {cs : List α} {i1 : Nat} {tt : TT} {te : TE} {vs : List Nat} {σ : St} {H1 : Hp} {D : Addr} {Qd : Hp → Prop} (p : α → Bool) (val : α → V) (R : V → α → Hp → Prop)
    (hR : ∀ y c H H' acc, H D = some (.lst acc) → Kp D H H' → R y c H → R y c H') (hD : H1 D = none) (hL : SqL K H1 a (cs.map val)) (hsz : cs.length ≤ 100000)
    (hw : ∀ x, wipe ((wipe σ vs).set i1 x) vs = wipe σ vs)
    (ht : ∀ c ∈ cs, ∀ H Q, Same H1 H → (∀ H', Same H H' → Q (p c) H') → tt ((wipe σ vs).set i1 (some (val c))) H Q)
    (he : ∀ c ∈ cs, p c = true → ∀ H Q, Same H1 H → (∀ y H', Same H H' → R y c H' → Q y H') → te ((wipe σ vs).set i1 (some (val c))) H Q)
    (hd : ∀ ys H, Same H1 H → H D = some (.lst ys) → P2 (fun y c => R y c H) ys (cs.filter p) → Qd H) : LcG (Itl K a) (gName i1) tt te vs σ H1 D Qd := by
  refine lc_list (K := K) (a := a) (xs := cs.map val) (fun i H => Same H1 H ∧ ∃ ys, H D = some (.lst ys) ∧ P2 (fun y c => R y c H) ys ((cs.take i).filter p)) ⟨same_upd hD, [], upd_same, .nil⟩ (fun i H _ ⟨s, _⟩ => s.seq hL) ?_ ?_
  · rintro i x H hx ⟨s, ys, hy, py⟩
    rw [List.getElem?_map] at hx
    cases hc : cs[i]? with
    | none => rw [hc] at hx; cases hx
    | some c =>
      rw [hc] at hx
      cases hx
      have hi : i < cs.length := (List.getElem?_eq_some_iff.mp hc).1
      have ll : ys.length ≤ 100000 := by
        have h1 := py.len
        have h2 := List.length_filter_le p (cs.take i)
        rw [List.length_take] at h2
        omega
      refine ⟨hw _, ht c (mem_of_at hc) H _ s fun H2 s2 => ?_⟩
      have py2 := py.mono fun v b rb => hR v b H H2 _ hy s2.kp rb
      have hy2 := s2 _ _ hy
      by_cases hp : p c = true
      · rw [if_pos hp]
        refine he c (mem_of_at hc) hp H2 _ (s.trans s2) fun y H' s' r => ⟨ys, s' _ _ hy2, small_app (Nat.le_refl _) ll, ((s.trans s2).trans s').wr hD, ys ++ [y], upd_same, ?_⟩
        rw [take_snoc hc, List.filter_append, List.filter_cons, if_pos hp, List.filter_nil]
        exact (py2.mono fun v b rb => hR v b H' _ _ (s' _ _ hy2) (kp_upd D H' _) (hR v b H2 H' _ hy2 s'.kp rb)).snoc (hR y c H' _ _ (s' _ _ hy2) (kp_upd D H' _) r)
      · rw [if_neg hp]
        refine ⟨s.trans s2, ys, hy2, ?_⟩
        rw [take_snoc hc, List.filter_append, List.filter_cons, if_neg hp, List.filter_nil, List.append_nil]
        exact py2
  · rintro H ⟨s, ys, hy, py⟩
    rw [List.length_map, List.take_length] at py
    exact hd ys H s hy py

/-- [e for a, b in pairs if p] -/
theorem lc_pairs {a : Addr} {ts : List Addr} {cs : List (Int × Int)} {i1 i2 : Nat} {tt : TT} {te : TE} {vs : List Nat} {σ : St} {H1 : Hp} {D : Addr} {Qd : Hp → Prop} (p : Int × Int → Bool) (R : V → Int × Int → Hp → Prop)
    (hR : ∀ y c H H' acc, H D = some (.lst acc) → Kp D H H' → R y c H → R y c H') (hD : H1 D = none) (hL : SqL K H1 a (ts.map V.ref)) (hP : P2 (PrT H1) ts cs) (hsz : cs.length ≤ 100000)
    (hw : ∀ x y, wipe (((wipe σ vs).set i1 x).set i2 y) vs = wipe σ vs)
    (ht : ∀ c ∈ cs, ∀ H Q, Same H1 H → (∀ H', Same H H' → Q (p c) H') → tt (((wipe σ vs).set i1 (some (.int c.1))).set i2 (some (.int c.2))) H Q)
    (he : ∀ c ∈ cs, p c = true → ∀ H Q, Same H1 H → (∀ y H', Same H H' → R y c H' → Q y H') → te (((wipe σ vs).set i1 (some (.int c.1))).set i2 (some (.int c.2))) H Q)
    (hd : ∀ ys H, Same H1 H → H D = some (.lst ys) → P2 (fun y c => R y c H) ys (cs.filter p) → Qd H) : LcG (Itl K a) (gTup K 2 (gCons (gName i1) (gCons (gName i2) gNil))) tt te vs σ H1 D Qd := by
  have hlen := hP.len
  refine lc_list (K := K) (a := a) (xs := ts.map V.ref) (fun i H => Same H1 H ∧ ∃ ys, H D = some (.lst ys) ∧ P2 (fun y c => R y c H) ys ((cs.take i).filter p)) ⟨same_upd hD, [], upd_same, .nil⟩ (fun i H _ ⟨s, _⟩ => s.seq hL) ?_ ?_
  · rintro i x H hx ⟨s, ys, hy, py⟩
    rw [List.getElem?_map] at hx
    cases ht' : ts[i]? with
    | none => rw [ht'] at hx; cases hx
    | some t =>
      rw [ht'] at hx
      cases hx
      obtain ⟨c, hc, r⟩ := hP.getl ht'
      have hi : i < cs.length := (List.getElem?_eq_some_iff.mp hc).1
      have ll : ys.length ≤ 100000 := by
        have h1 := py.len
        have h2 := List.length_filter_le p (cs.take i)
        rw [List.length_take] at h2
        omega
      refine ⟨t, _, rfl, SqT.of (s _ _ r), rfl, _, _, rfl, _, _, rfl, rfl, hw _ _, ht c (mem_of_at hc) H _ s fun H2 s2 => ?_⟩
      have py2 := py.mono fun v b rb => hR v b H H2 _ hy s2.kp rb
      have hy2 := s2 _ _ hy
      by_cases hp : p c = true
      · rw [if_pos hp]
        refine he c (mem_of_at hc) hp H2 _ (s.trans s2) fun y H' s' r => ⟨ys, s' _ _ hy2, small_app (Nat.le_refl _) ll, ((s.trans s2).trans s').wr hD, ys ++ [y], upd_same, ?_⟩
        rw [take_snoc hc, List.filter_append, List.filter_cons, if_pos hp, List.filter_nil]
        exact (py2.mono fun v b rb => hR v b H' _ _ (s' _ _ hy2) (kp_upd D H' _) (hR v b H2 H' _ hy2 s'.kp rb)).snoc (hR y c H' _ _ (s' _ _ hy2) (kp_upd D H' _) r)
      · rw [if_neg hp]
        refine ⟨s.trans s2, ys, hy2, ?_⟩
        rw [take_snoc hc, List.filter_append, List.filter_cons, if_neg hp, List.filter_nil, List.append_nil]
        exact py2
  · rintro H ⟨s, ys, hy, py⟩
    rw [List.length_map, hlen, List.take_length] at py
    exact hd ys H s hy py
/-- [e for i in range(lo, lo + n) if p] -/
theorem lc_rng {lo : Int} {n : Nat} {i1 : Nat} {tt : TT} {te : TE} {vs : List Nat} {σ : St} {H1 : Hp} {D : Addr} {Qd : Hp → Prop} (p : Nat → Bool) (R : V → Nat → Hp → Prop)
    (hR : ∀ y c H H' acc, H D = some (.lst acc) → Kp D H H' → R y c H → R y c H') (hD : H1 D = none) (hsz : n ≤ 100000)
    (hw : ∀ x, wipe ((wipe σ vs).set i1 x) vs = wipe σ vs)
    (ht : ∀ i, i < n → ∀ H Q, Same H1 H → (∀ H', Same H H' → Q (p i) H') → tt ((wipe σ vs).set i1 (some (.int (lo + i)))) H Q)
    (he : ∀ i, i < n → p i = true → ∀ H Q, Same H1 H → (∀ y H', Same H H' → R y i H' → Q y H') → te ((wipe σ vs).set i1 (some (.int (lo + i)))) H Q)
    (hd : ∀ ys H, Same H1 H → H D = some (.lst ys) → P2 (fun y c => R y c H) ys ((List.range n).filter p) → Qd H) : LcG (Itr lo n) (gName i1) tt te vs σ H1 D Qd := by
  refine lc_range (fun i H => Same H1 H ∧ ∃ ys, H D = some (.lst ys) ∧ P2 (fun y c => R y c H) ys ((List.range i).filter p)) ⟨same_upd hD, [], upd_same, .nil⟩ ?_ ?_
  · rintro i H hi ⟨s, ys, hy, py⟩
    have ll : ys.length ≤ 100000 := by
      have h1 := py.len
      have h2 := List.length_filter_le p (List.range i)
      rw [List.length_range] at h2
      omega
    refine ⟨hw _, ht i hi H _ s fun H2 s2 => ?_⟩
    have py2 := py.mono fun v b rb => hR v b H H2 _ hy s2.kp rb
    have hy2 := s2 _ _ hy
    by_cases hp : p i = true
    · rw [if_pos hp]
      refine he i hi hp H2 _ (s.trans s2) fun y H' s' r => ⟨ys, s' _ _ hy2, small_app (Nat.le_refl _) ll, ((s.trans s2).trans s').wr hD, ys ++ [y], upd_same, ?_⟩
      rw [List.range_succ, List.filter_append, List.filter_cons, if_pos hp, List.filter_nil]
      exact (py2.mono fun v b rb => hR v b H' _ _ (s' _ _ hy2) (kp_upd D H' _) (hR v b H2 H' _ hy2 s'.kp rb)).snoc (hR y i H' _ _ (s' _ _ hy2) (kp_upd D H' _) r)
    · rw [if_neg hp]
      refine ⟨s.trans s2, ys, hy2, ?_⟩
      rw [List.range_succ, List.filter_append, List.filter_cons, if_neg hp, List.filter_nil, List.append_nil]
      exact py2
  · rintro H ⟨s, ys, hy, py⟩
    exact hd ys H s hy py
theorem filter_all {α : Type} (l : List α) : l.filter (fun _ => true) = l := List.filter_eq_self.mpr fun _ _ => rfl
end
end Tr

namespace Tr
/-! Arithmetic behind common_divisor, combination, inverse. -/

theorem gcd_step {a b : Int} (hb : 0 < b) : Int.gcd b (a % b) = Int.gcd a b := by
  rw [Int.gcd_comm a b]
  have h : a = a % b + b * (a / b) := by have := Int.emod_add_mul_ediv a b; omega
  conv => rhs; rw [h]
  rw [Int.gcd_add_mul_left_right]

structure Comb (a b x0 u0 v0 x1 u1 v1 : Int) : Prop where
  h0 : u0 * a + v0 * b = x0
  h1 : u1 * a + v1 * b = x1
  n0 : 0 ≤ x0
  n1 : 0 ≤ x1
  g : Int.gcd x0 x1 = Int.gcd a b
  sg : (0 ≤ u0 ∧ u1 ≤ 0 ∧ v0 ≤ 0 ∧ 0 ≤ v1 ∧ u0 * x1 - u1 * x0 = b ∧ v1 * x0 - v0 * x1 = a) ∨
       (u0 ≤ 0 ∧ 0 ≤ u1 ∧ 0 ≤ v0 ∧ v1 ≤ 0 ∧ u1 * x0 - u0 * x1 = b ∧ v0 * x1 - v1 * x0 = a)
  bu0 : u0.natAbs ≤ b.natAbs
  bu1 : u1.natAbs ≤ b.natAbs
  bv0 : v0.natAbs ≤ a.natAbs + 1
  bv1 : v1.natAbs ≤ a.natAbs + 1
  bx : x0.natAbs ≤ a.natAbs + b.natAbs
  by_ : x1.natAbs ≤ a.natAbs + b.natAbs

theorem comb_start {a b : Int} (ha : 0 ≤ a) (hb : 0 < b) : Comb a b a 1 0 b 0 1 where
  h0 := by omega
  h1 := by omega
  n0 := ha
  n1 := Int.le_of_lt hb
  g := rfl
  sg := .inl ⟨by omega, by omega, by omega, by omega, by omega, by omega⟩
  bu0 := by omega
  bu1 := by omega
  bv0 := by omega
  bv1 := by omega
  bx := by omega
  by_ := by omega

theorem mul_bound {x y c : Int} (hx : 0 < x) (hy : 0 ≤ y) (h : y * x ≤ c) : y ≤ c := by
  have h1 : y * 1 ≤ y * x := Int.mul_le_mul_of_nonneg_left (by omega) hy
  omega

theorem comb_step {a b x0 u0 v0 x1 u1 v1 : Int} (ha : 0 ≤ a) (hb : 0 < b) (c : Comb a b x0 u0 v0 x1 u1 v1) (hx : x1 ≠ 0) :
    Comb a b x1 u1 v1 (x0 - x0 / x1 * x1) (u0 - x0 / x1 * u1) (v0 - x0 / x1 * v1) := by
  have px : 0 < x1 := by have := c.n1; omega
  have e2 : x0 - x0 / x1 * x1 = x0 % x1 := by
    have := Int.emod_add_mul_ediv x0 x1
    rw [Int.mul_comm] at this
    omega
  have q0 : 0 ≤ x0 / x1 := Int.ediv_nonneg c.n0 c.n1
  have r0 : 0 ≤ x0 % x1 := Int.emod_nonneg _ hx
  have r1 : x0 % x1 < x1 := Int.emod_lt_of_pos _ px
  generalize hq : x0 / x1 = q at *
  have n2 : 0 ≤ x0 - q * x1 := by omega
  have key : (0 ≤ u1 ∧ (u0 - q * u1) ≤ 0 ∧ v1 ≤ 0 ∧ 0 ≤ (v0 - q * v1) ∧ u1 * (x0 - q * x1) - (u0 - q * u1) * x1 = b ∧ (v0 - q * v1) * x1 - v1 * (x0 - q * x1) = a) ∨
       (u1 ≤ 0 ∧ 0 ≤ (u0 - q * u1) ∧ 0 ≤ v1 ∧ (v0 - q * v1) ≤ 0 ∧ (u0 - q * u1) * x1 - u1 * (x0 - q * x1) = b ∧ v1 * (x0 - q * x1) - (v0 - q * v1) * x1 = a) := by
    rcases c.sg with ⟨s1, s2, s3, s4, s5, s6⟩ | ⟨s1, s2, s3, s4, s5, s6⟩
    · refine .inr ⟨s2, ?_, s4, ?_, ?_, ?_⟩
      · have := Int.mul_nonneg q0 (show 0 ≤ -u1 by omega)
        rw [Int.mul_neg] at this
        omega
      · have := Int.mul_nonneg q0 s4
        omega
      · rw [← s5]
        simp only [Int.sub_mul, Int.mul_sub]
        have : q * u1 * x1 = u1 * (q * x1) := by rw [Int.mul_comm q u1, Int.mul_assoc]
        omega
      · rw [← s6]
        simp only [Int.sub_mul, Int.mul_sub]
        have : q * v1 * x1 = v1 * (q * x1) := by rw [Int.mul_comm q v1, Int.mul_assoc]
        omega
    · refine .inl ⟨s2, ?_, s4, ?_, ?_, ?_⟩
      · have := Int.mul_nonneg q0 s2
        omega
      · have := Int.mul_nonneg q0 (show 0 ≤ -v1 by omega)
        rw [Int.mul_neg] at this
        omega
      · rw [← s5]
        simp only [Int.sub_mul, Int.mul_sub]
        have : q * u1 * x1 = u1 * (q * x1) := by rw [Int.mul_comm q u1, Int.mul_assoc]
        omega
      · rw [← s6]
        simp only [Int.sub_mul, Int.mul_sub]
        have : q * v1 * x1 = v1 * (q * x1) := by rw [Int.mul_comm q v1, Int.mul_assoc]
        omega
  have bnd : (u0 - q * u1).natAbs ≤ b.natAbs ∧ (v0 - q * v1).natAbs ≤ a.natAbs + 1 := by
    rcases key with ⟨s1, s2, s3, s4, s5, s6⟩ | ⟨s1, s2, s3, s4, s5, s6⟩
    · have t1 : 0 ≤ u1 * (x0 - q * x1) := Int.mul_nonneg s1 n2
      have t2 : -(u0 - q * u1) * x1 ≤ b := by rw [Int.neg_mul]; omega
      have t3 := mul_bound px (by omega) t2
      have t4 : 0 ≤ -v1 * (x0 - q * x1) := Int.mul_nonneg (by omega) n2
      rw [Int.neg_mul] at t4
      have t5 : (v0 - q * v1) * x1 ≤ a := by omega
      have t6 := mul_bound px s4 t5
      omega
    · have t1 : 0 ≤ -u1 * (x0 - q * x1) := Int.mul_nonneg (by omega) n2
      rw [Int.neg_mul] at t1
      have t2 : (u0 - q * u1) * x1 ≤ b := by omega
      have t3 := mul_bound px s2 t2
      have t4 : 0 ≤ v1 * (x0 - q * x1) := Int.mul_nonneg s3 n2
      have t5 : -(v0 - q * v1) * x1 ≤ a := by rw [Int.neg_mul]; omega
      have t6 := mul_bound px (by omega) t5
      omega
  exact {
    h0 := c.h1
    h1 := by
      have e0 := c.h0
      have e1 := c.h1
      simp only [Int.sub_mul, Int.mul_assoc]
      have : q * x1 = q * (u1 * a) + q * (v1 * b) := by rw [← e1, Int.mul_add]
      omega
    n0 := c.n1
    n1 := n2
    g := by rw [e2, gcd_step px]; exact c.g
    sg := key.elim .inl .inr
    bu0 := c.bu1
    bu1 := bnd.1
    bv0 := c.bv1
    bv1 := bnd.2
    bx := c.by_
    by_ := by have := c.by_; omega }

/-- the quotient of a step is bounded -/
theorem comb_q {a b x0 u0 v0 x1 u1 v1 : Int} (c : Comb a b x0 u0 v0 x1 u1 v1) (hx : x1 ≠ 0) : (x0 / x1).natAbs ≤ a.natAbs + b.natAbs := by
  have px : 0 < x1 := by have := c.n1; omega
  have q0 : 0 ≤ x0 / x1 := Int.ediv_nonneg c.n0 c.n1
  have : x0 / x1 ≤ x0 := Int.ediv_le_self _ c.n0
  have := c.bx
  omega
end Tr
namespace Tr
/-! Classes (r, m): what they cover. -/
abbrev Cl := Int × Int
/-- n lies in one of the classes -/
def cov (cs : List Cl) (n : Int) : Prop := ∃ c ∈ cs, c.2 ∣ n - c.1
theorem cov_nil (n : Int) : ¬ cov [] n := fun ⟨_, h, _⟩ => by cases h
theorem cov_app {a b : List Cl} {n : Int} : cov (a ++ b) n ↔ cov a n ∨ cov b n := by
  constructor
  · rintro ⟨c, h, d⟩
    rcases List.mem_append.mp h with h | h
    · exact .inl ⟨c, h, d⟩
    · exact .inr ⟨c, h, d⟩
  · rintro (⟨c, h, d⟩ | ⟨c, h, d⟩)
    · exact ⟨c, List.mem_append_left _ h, d⟩
    · exact ⟨c, List.mem_append_right _ h, d⟩
/-- every class of the one lies within a class of the other -/
def within (cs ds : List Cl) : Prop := ∀ c ∈ cs, ∃ d ∈ ds, d.2 ∣ c.2 ∧ d.2 ∣ c.1 - d.1
theorem dvd_chain {k m n r s : Int} (h1 : k ∣ m) (h2 : k ∣ r - s) (h3 : m ∣ n - r) : k ∣ n - s := by
  have h4 : k ∣ n - r := Int.dvd_trans h1 h3
  have h5 : n - s = (n - r) + (r - s) := by omega
  rw [h5]
  exact Int.dvd_add h4 h2
theorem cov_within {cs ds : List Cl} (h : within cs ds) {n : Int} (c : cov cs n) : cov ds n := by
  obtain ⟨c, hc, d⟩ := c
  obtain ⟨e, he, h1, h2⟩ := h c hc
  exact ⟨e, he, dvd_chain h1 h2 d⟩
theorem within_refl (cs : List Cl) : within cs cs := fun c hc => ⟨c, hc, Int.dvd_refl _, by rw [Int.sub_self]; exact Int.dvd_zero _⟩
/-- what tidy_classes hands back -/
structure Tidy (cs ds : List Cl) : Prop where
  from_ : ∀ d ∈ ds, ∃ c ∈ cs, d.2 = c.2 ∧ d.1 = c.1 % c.2
  to : within cs ds
  len : ds.length ≤ cs.length
theorem emod_sub_dvd (r m : Int) : m ∣ r - r % m := by
  have := Int.emod_add_mul_ediv r m
  exact ⟨r / m, by omega⟩
theorem Tidy.back {cs ds : List Cl} (t : Tidy cs ds) : within ds cs := fun d hd => by
  obtain ⟨c, hc, e1, e2⟩ := t.from_ d hd
  refine ⟨c, hc, by rw [e1]; exact Int.dvd_refl _, ?_⟩
  rw [e2]
  have := emod_sub_dvd c.1 c.2
  obtain ⟨k, hk⟩ := this
  exact ⟨-k, by rw [Int.mul_neg]; omega⟩
theorem Tidy.cov {cs ds : List Cl} (t : Tidy cs ds) (n : Int) : cov ds n ↔ cov cs n := ⟨cov_within t.back, cov_within t.to⟩
theorem Tidy.pos {cs ds : List Cl} (t : Tidy cs ds) (h : ∀ c ∈ cs, 0 < c.2) : ∀ d ∈ ds, 0 < d.2 ∧ 0 ≤ d.1 ∧ d.1 < d.2 := fun d hd => by
  obtain ⟨c, hc, e1, e2⟩ := t.from_ d hd
  have p := h c hc
  rw [e1, e2]
  exact ⟨p, Int.emod_nonneg _ (by omega), Int.emod_lt_of_pos _ p⟩
theorem Tidy.nil {ds : List Cl} (t : Tidy [] ds) : ds = [] := List.eq_nil_of_length_eq_zero (by have := t.len; simp at this; exact this ▸ rfl)
theorem Tidy.ne {cs ds : List Cl} (t : Tidy cs ds) (h : cs ≠ []) : ds ≠ [] := by
  rintro rfl
  cases cs with
  | nil => exact h rfl
  | cons c r =>
    obtain ⟨d, hd, _⟩ := t.to c List.mem_cons_self
    cases hd
/-- inverse: a * x - 1 is a multiple of m -/
def Inv1 (a m x : Int) : Prop := 0 ≤ x ∧ x < m ∧ m ∣ a * x - 1
theorem inv_of {a m u v : Int} (hm : 0 < m) (h : u * (a % m) + v * m = 1) : Inv1 a m (u % m) := by
  refine ⟨Int.emod_nonneg _ (by omega), Int.emod_lt_of_pos _ hm, ?_⟩
  have e1 := Int.emod_add_mul_ediv u m
  have e2 := Int.emod_add_mul_ediv a m
  -- a * (u % m) - 1 = u * (a % m) + v * m  modulo m
  refine ⟨a / m * u - v - a * (u / m), ?_⟩
  have k1 : u % m = u - m * (u / m) := by omega
  have k2 : u * a = u * (a % m) + u * (m * (a / m)) := by rw [← Int.mul_add, e2]
  rw [k1, Int.mul_sub, Int.mul_comm a u, k2]
  have k3 : u * (m * (a / m)) = m * (a / m * u) := by rw [Int.mul_left_comm, Int.mul_comm u]
  have k4 : a * (m * (u / m)) = m * (a * (u / m)) := by rw [Int.mul_left_comm]
  rw [k3, k4, Int.mul_sub, Int.mul_sub, Int.mul_comm m v]
  omega

/-- the classes of refined, ahead of tidying: of (s, k) the t with r + m * t in it -/
structure Ref1 (s k r m t j : Int) : Prop where
  pos : 0 < j
  bd : j ≤ k
  lo : 0 ≤ t
  hi : t < j
  iff : ∀ x : Int, j ∣ x - t ↔ k ∣ r + m * x - s
theorem gcd_pos' {m k : Int} (hk : 0 < k) : 0 < (Int.gcd m k : Int) := by
  have : Int.gcd m k ≠ 0 := fun h => by
    have := (Int.gcd_eq_zero_iff.mp h).2
    omega
  omega
theorem ediv_gcd {m k : Int} (hk : 0 < k) : ∃ m' k', m = Int.gcd m k * m' ∧ k = Int.gcd m k * k' ∧ 0 < k' ∧ m / Int.gcd m k = m' ∧ k / Int.gcd m k = k' ∧ Int.gcd m' k' = 1 := by
  have g0 := gcd_pos' (m := m) hk
  obtain ⟨m', hm⟩ := Int.gcd_dvd_left m k
  obtain ⟨k', hk'⟩ := Int.gcd_dvd_right m k
  have p : 0 < k' := by
    rcases Int.lt_trichotomy k' 0 with h | h | h
    · have := Int.mul_neg_of_pos_of_neg g0 h
      omega
    · rw [h] at hk'; omega
    · exact h
  have e1 : m / Int.gcd m k = m' := Int.ediv_eq_of_eq_mul_right (by omega) hm
  have e2 : k / Int.gcd m k = k' := Int.ediv_eq_of_eq_mul_right (by omega) hk'
  refine ⟨m', k', hm, hk', p, e1, e2, ?_⟩
  have gn : 0 < Int.gcd m k := by omega
  have e3 : Int.gcd m k = Int.gcd m k * Int.gcd m' k' := by
    have := Int.gcd_mul_left (Int.gcd m k : Int) m' k'
    rw [← hm, ← hk'] at this
    simpa using this
  have e4 : Int.gcd m k * Int.gcd m' k' = Int.gcd m k * 1 := by rw [Nat.mul_one]; exact e3.symm
  exact Nat.eq_of_mul_eq_mul_left gn e4
theorem ref_no {s k r m : Int} (h : ¬ (Int.gcd m k : Int) ∣ s - r) (x : Int) : ¬ k ∣ r + m * x - s := fun d => h (by
  have h1 : (Int.gcd m k : Int) ∣ r + m * x - s := Int.dvd_trans (Int.gcd_dvd_right m k) d
  have h2 : (Int.gcd m k : Int) ∣ m * x := Int.dvd_trans (Int.gcd_dvd_left m k) (Int.dvd_mul_right _ _)
  have h3 : s - r = m * x - (r + m * x - s) := by omega
  rw [h3]
  exact Int.dvd_sub h2 h1)
/-- the case small > 1 -/
theorem ref_yes {s k r m i : Int} (hk : 0 < k) (hd : (Int.gcd m k : Int) ∣ s - r) (hi : Inv1 (m / Int.gcd m k) (k / Int.gcd m k) i) :
    Ref1 s k r m ((s - r) / Int.gcd m k * i % (k / Int.gcd m k)) (k / Int.gcd m k) := by
  obtain ⟨m', k', e1, e2, p, d1, d2, co⟩ := ediv_gcd (m := m) hk
  have g0 := gcd_pos' (m := m) hk
  generalize hg : (Int.gcd m k : Int) = g at *
  obtain ⟨q, hq⟩ := hd
  have dq : (s - r) / g = q := Int.ediv_eq_of_eq_mul_right (by omega) hq
  rw [d1, d2] at hi
  rw [dq, d2]
  obtain ⟨i0, i1, z, hz⟩ := hi
  refine ⟨p, ?_, Int.emod_nonneg _ (by omega), Int.emod_lt_of_pos _ p, fun x => ?_⟩
  · rw [e2]
    have := Int.mul_le_mul_of_nonneg_right (show 1 ≤ g by omega) (Int.le_of_lt p)
    omega
  · -- k | r + m x - s  iff  k' | m' x - q  iff  k' | x - q i
    have a1 : r + m * x - s = g * (m' * x - q) := by
      rw [Int.mul_sub, ← Int.mul_assoc, ← e1, ← hq]
      omega
    have a2 : k ∣ r + m * x - s ↔ k' ∣ m' * x - q := by
      rw [a1]
      constructor
      · rintro ⟨c, hc⟩
        refine ⟨c, ?_⟩
        rw [e2, Int.mul_assoc] at hc
        exact Int.eq_of_mul_eq_mul_left (by omega) hc
      · rintro ⟨c, hc⟩
        exact ⟨c, by rw [hc, ← Int.mul_assoc, ← e2]⟩
    rw [a2]
    have b1 : k' ∣ q * i - q * i % k' := emod_sub_dvd _ _
    constructor
    · intro h
      have h1 : k' ∣ x - q * i := by
        have : x - q * i = (x - q * i % k') - (q * i - q * i % k') := by omega
        rw [this]
        exact Int.dvd_sub h b1
      have h2 : k' ∣ m' * (x - q * i) := Int.dvd_trans h1 (Int.dvd_mul_left _ _)
      have h3 : k' ∣ q * (m' * i - 1) := Int.dvd_trans ⟨z, hz⟩ (Int.dvd_mul_left _ _)
      have h4 : m' * x - q = m' * (x - q * i) + q * (m' * i - 1) := by
        simp only [Int.mul_sub, Int.mul_one]
        have : m' * (q * i) = q * (m' * i) := Int.mul_left_comm _ _ _
        omega
      rw [h4]
      exact Int.dvd_add h2 h3
    · intro h
      have h1 : k' ∣ i * (m' * x - q) := Int.dvd_trans h (Int.dvd_mul_left _ _)
      have h3 : k' ∣ x * (m' * i - 1) := Int.dvd_trans ⟨z, hz⟩ (Int.dvd_mul_left _ _)
      have h4 : x - q * i = i * (m' * x - q) - x * (m' * i - 1) := by
        simp only [Int.mul_sub, Int.mul_one]
        have : i * (m' * x) = x * (m' * i) := by rw [Int.mul_left_comm, Int.mul_comm i x, Int.mul_left_comm]
        have : i * q = q * i := Int.mul_comm _ _
        omega
      have h5 : x - q * i % k' = (x - q * i) + (q * i - q * i % k') := by omega
      rw [h5]
      refine Int.dvd_add ?_ b1
      rw [h4]
      exact Int.dvd_sub h1 h3
/-- the case small = 1 -/
theorem ref_one {s k r m : Int} (hk : 0 < k) (hd : (Int.gcd m k : Int) ∣ s - r) (h1 : ¬ k / Int.gcd m k > 1) : Ref1 s k r m 0 (k / Int.gcd m k) := by
  obtain ⟨m', k', e1, e2, p, d1, d2, co⟩ := ediv_gcd (m := m) hk
  have e : k / Int.gcd m k = 1 := by rw [d2] at h1 ⊢; omega
  have ek : k = (Int.gcd m k : Int) := by
    rw [d2] at e
    rw [e, Int.mul_one] at e2
    exact e2
  rw [e]
  refine ⟨by omega, by omega, by omega, by omega, fun x => ⟨fun _ => ?_, fun _ => Int.one_dvd _⟩⟩
  have h2 : k ∣ m * x := by
    rw [ek]
    exact Int.dvd_trans (Int.gcd_dvd_left m k) (Int.dvd_mul_right _ _)
  have h3 : k ∣ s - r := by rw [ek]; exact hd
  have h4 : r + m * x - s = m * x - (s - r) := by omega
  rw [h4]
  exact Int.dvd_sub h2 h3

/-- what refined builds ahead of tidying -/
inductive RefL (r m : Int) : List Cl → List Cl → Prop where
  | nil : RefL r m [] []
  | no {s k : Int} {cs ds : List Cl} : ¬ (Int.gcd m k : Int) ∣ s - r → RefL r m cs ds → RefL r m ((s, k) :: cs) ds
  | yes {s k t : Int} {cs ds : List Cl} : (Int.gcd m k : Int) ∣ s - r → Ref1 s k r m t (k / Int.gcd m k) → RefL r m cs ds → RefL r m ((s, k) :: cs) ((t, k / Int.gcd m k) :: ds)
theorem RefL.cov {r m : Int} {cs ds : List Cl} (h : RefL r m cs ds) (x : Int) : cov ds x ↔ Tr.cov cs (r + m * x) := by
  induction h with
  | nil => exact ⟨fun c => (cov_nil _ c).elim, fun c => (cov_nil _ c).elim⟩
  | @no s k cs ds hn _ ih =>
    constructor
    · intro c
      obtain ⟨c, hc, d⟩ := ih.mp c
      exact ⟨c, List.mem_cons_of_mem _ hc, d⟩
    · rintro ⟨c, hc, d⟩
      rcases List.mem_cons.mp hc with rfl | hc
      · exact (ref_no hn x d).elim
      · exact ih.mpr ⟨c, hc, d⟩
  | @yes s k t cs ds hd hr _ ih =>
    constructor
    · rintro ⟨c, hc, d⟩
      rcases List.mem_cons.mp hc with rfl | hc
      · exact ⟨(s, k), List.mem_cons_self, (hr.iff x).mp d⟩
      · obtain ⟨c', hc', d'⟩ := ih.mp ⟨c, hc, d⟩
        exact ⟨c', List.mem_cons_of_mem _ hc', d'⟩
    · rintro ⟨c, hc, d⟩
      rcases List.mem_cons.mp hc with rfl | hc
      · exact ⟨_, List.mem_cons_self, (hr.iff x).mpr d⟩
      · obtain ⟨c', hc', d'⟩ := ih.mpr ⟨c, hc, d⟩
        exact ⟨c', List.mem_cons_of_mem _ hc', d'⟩
theorem RefL.snoc_no {r m : Int} {cs ds : List Cl} (h : RefL r m cs ds) {s k : Int} (hn : ¬ (Int.gcd m k : Int) ∣ s - r) : RefL r m (cs ++ [(s, k)]) ds := by
  induction h with
  | nil => exact .no hn .nil
  | no a _ ih => exact .no a ih
  | yes a b _ ih => exact .yes a b ih
theorem RefL.snoc_yes {r m : Int} {cs ds : List Cl} (h : RefL r m cs ds) {s k t : Int} (hn : (Int.gcd m k : Int) ∣ s - r) (hr : Ref1 s k r m t (k / Int.gcd m k)) : RefL r m (cs ++ [(s, k)]) (ds ++ [(t, k / Int.gcd m k)]) := by
  induction h with
  | nil => exact .yes hn hr .nil
  | no a _ ih => exact .no a ih
  | yes a b _ ih => exact .yes a b ih
theorem RefL.len {r m : Int} {cs ds : List Cl} (h : RefL r m cs ds) : ds.length ≤ cs.length := by
  induction h with
  | nil => exact Nat.le_refl _
  | no _ _ ih => simp only [List.length_cons]; omega
  | yes _ _ _ ih => simp only [List.length_cons]; omega
theorem RefL.pos {r m : Int} {cs ds : List Cl} (h : RefL r m cs ds) : ∀ d ∈ ds, 0 < d.2 ∧ 0 ≤ d.1 ∧ d.1 < d.2 := by
  induction h with
  | nil => intro d hd; cases hd
  | no _ _ ih => exact ih
  | yes _ hr _ ih =>
    intro d hd
    rcases List.mem_cons.mp hd with rfl | hd
    · exact ⟨hr.pos, hr.lo, hr.hi⟩
    · exact ih d hd
theorem RefL.bd {r m B : Int} {cs ds : List Cl} (h : RefL r m cs ds) (hb : ∀ c ∈ cs, c.2 ≤ B) : ∀ d ∈ ds, d.2 ≤ B := by
  induction h with
  | nil => intro d hd; cases hd
  | no _ _ ih => exact ih fun c hc => hb c (List.mem_cons_of_mem _ hc)
  | yes _ hr _ ih =>
    intro d hd
    rcases List.mem_cons.mp hd with rfl | hd
    · exact Int.le_trans hr.bd (hb _ List.mem_cons_self)
    · exact ih (fun c hc => hb c (List.mem_cons_of_mem _ hc)) d hd
/-- a class with the modulus m either meets r + m * Z in all of it, or falls away -/
theorem RefL.less {r m : Int} {cs ds : List Cl} (hm : 0 < m) (h : RefL r m cs ds) (hc : ∃ c ∈ cs, c.2 = m) : (∃ d ∈ ds, d.2 = 1) ∨ ds.length < cs.length := by
  induction h with
  | nil => obtain ⟨c, hc, _⟩ := hc; cases hc
  | no _ h' ih => exact .inr (by have := h'.len; simp only [List.length_cons]; omega)
  | @yes s k t cs ds hd hr h' ih =>
    by_cases e : k = m
    · subst e
      refine .inl ⟨_, List.mem_cons_self, ?_⟩
      have : (Int.gcd k k : Int) = k := by rw [Int.gcd_self]; omega
      show k / (Int.gcd k k : Int) = 1
      rw [this]
      exact Int.ediv_self (by omega)
    · obtain ⟨c, hc, ec⟩ := hc
      rcases List.mem_cons.mp hc with rfl | hc
      · exact (e ec).elim
      · rcases ih ⟨c, hc, ec⟩ with ⟨d, hd, ed⟩ | hl
        · exact .inl ⟨d, List.mem_cons_of_mem _ hd, ed⟩
        · exact .inr (by simp only [List.length_cons]; omega)
theorem Tidy.one {cs ds : List Cl} (t : Tidy cs ds) (hp : ∀ c ∈ cs, 0 < c.2) (h : ∃ c ∈ cs, c.2 = 1) : ∃ d ∈ ds, d.2 = 1 := by
  obtain ⟨c, hc, e⟩ := h
  obtain ⟨d, hd, h1, _⟩ := t.to c hc
  refine ⟨d, hd, ?_⟩
  have p := (t.pos hp d hd).1
  rw [e] at h1
  have := Int.le_of_dvd (by omega) h1
  omega

/-- the answer of bare_number -/
def Bare (cs : List Cl) : Option Int → Prop
  | none => ∀ n, cov cs n
  | some b => 0 ≤ b ∧ ¬ cov cs b
/-- a number within the first ones that none of the classes has: their moduli are above their number -/
theorem pigeon : ∀ (cs : List Cl), (∀ c ∈ cs, (cs.length : Int) < c.2) → ∃ n : Int, 0 ≤ n ∧ n ≤ cs.length ∧ ¬ cov cs n := by
  intro cs h
  -- each class has at most one of 0 .. length
  have gen : ∀ (ds : List Cl) (L : List Int) (N : Int), L.Nodup → (∀ x ∈ L, 0 ≤ x ∧ x ≤ N) → (∀ c ∈ ds, N < c.2) → ds.length < L.length → ∃ n ∈ L, ¬ cov ds n := by
    intro ds
    induction ds with
    | nil =>
      intro L N _ _ _ hl
      cases L with
      | nil => simp at hl
      | cons x L => exact ⟨x, List.mem_cons_self, cov_nil _⟩
    | cons d ds ih =>
      intro L N nd hL hc hl
      -- at most one member of L lies in d
      have one : ∀ x ∈ L, ∀ y ∈ L, d.2 ∣ x - d.1 → d.2 ∣ y - d.1 → x = y := by
        intro x hx y hy h1 h2
        have h3 : d.2 ∣ x - y := by
          have : x - y = (x - d.1) - (y - d.1) := by omega
          rw [this]
          exact Int.dvd_sub h1 h2
        have b := hc d List.mem_cons_self
        have bx := hL x hx
        have b_y := hL y hy
        obtain ⟨q, hq⟩ := h3
        have q0 : q = 0 := by
          rcases Int.lt_trichotomy q 0 with z | z | z
          · have := Int.mul_le_mul_of_nonneg_left (show q ≤ -1 by omega) (show 0 ≤ d.2 by omega)
            omega
          · exact z
          · have := Int.mul_le_mul_of_nonneg_left (show 1 ≤ q by omega) (show 0 ≤ d.2 by omega)
            omega
        rw [q0] at hq
        omega
      by_cases ex : ∃ x ∈ L, d.2 ∣ x - d.1
      · obtain ⟨x, hx, hd⟩ := ex
        obtain ⟨n, hn, hn2⟩ := ih (L.erase x) N (nd.erase _) (fun y hy => hL y (List.mem_of_mem_erase hy)) (fun c hc' => hc c (List.mem_cons_of_mem _ hc'))
          (by rw [List.length_erase_of_mem hx]; simp only [List.length_cons] at hl; omega)
        have hnL := List.mem_of_mem_erase hn
        refine ⟨n, hnL, ?_⟩
        rintro ⟨c, hc', hcd⟩
        rcases List.mem_cons.mp hc' with rfl | hc'
        · have e := one n hnL x hx hcd hd
          subst e
          exact (List.Nodup.not_mem_erase nd) hn
        · exact hn2 ⟨c, hc', hcd⟩
      · obtain ⟨n, hn, hn2⟩ := ih L N nd hL (fun c hc' => hc c (List.mem_cons_of_mem _ hc')) (by simp only [List.length_cons] at hl; omega)
        refine ⟨n, hn, ?_⟩
        rintro ⟨c, hc', hcd⟩
        rcases List.mem_cons.mp hc' with rfl | hc'
        · exact ex ⟨n, hn, hcd⟩
        · exact hn2 ⟨c, hc', hcd⟩
  obtain ⟨n, hn, hc⟩ := gen cs ((List.range (cs.length + 1)).map (fun i : Nat => (i : Int))) cs.length (by
      refine List.Pairwise.map _ (fun a b (h : a ≠ b) e => h (by omega)) List.nodup_range) (fun x hx => by
      obtain ⟨i, hi, rfl⟩ := List.mem_map.mp hx
      have := List.mem_range.mp hi
      omega) h (by simp)
  obtain ⟨i, hi, rfl⟩ := List.mem_map.mp hn
  have := List.mem_range.mp hi
  exact ⟨i, by omega, by omega, hc⟩
end Tr

namespace Tr
open PySem L2
/-! ### bounds -/
def Bd (n : Nat) (x : Int) : Prop := x.natAbs < 2 ^ n
theorem Bd.mono {n m : Nat} {x : Int} (h : Bd n x) (l : n ≤ m) : Bd m x := Nat.lt_of_lt_of_le h (Nat.pow_le_pow_right (by decide) l)
theorem Bd.le {n : Nat} {x y : Int} (h : Bd n x) (l : y.natAbs ≤ x.natAbs) : Bd n y := Nat.lt_of_le_of_lt l h
theorem Bd.mul {n m : Nat} {x y : Int} (h : Bd n x) (k : Bd m y) : Bd (n + m) (x * y) := wide_lt h k
theorem Bd.add {n m : Nat} {x y : Int} (h : Bd n x) (k : Bd n y) (l : n < m) : Bd m (x + y) := by
  refine Bd.mono (n := n + 1) ?_ l
  have h' : x.natAbs < 2 ^ n := h
  have k' : y.natAbs < 2 ^ n := k
  show (x + y).natAbs < 2 ^ (n + 1)
  have := Int.natAbs_add_le x y
  rw [Nat.pow_succ]
  omega
theorem Bd.neg {n : Nat} {x : Int} (h : Bd n x) : Bd n (-x) := h.le (by simp)
theorem Bd.sub {n m : Nat} {x y : Int} (h : Bd n x) (k : Bd n y) (l : n < m) : Bd m (x - y) := by
  rw [Int.sub_eq_add_neg]
  exact h.add k.neg l
theorem Bd.div {n : Nat} {x y : Int} (h : Bd n x) (hy : 0 < y) : Bd n (x / y) := h.le (Int.natAbs_ediv_le_natAbs x y)
theorem Bd.mod {n : Nat} {x y : Int} (h : Bd n y) (hy : 0 < y) : Bd n (x % y) := by
  have := Int.emod_nonneg x (show y ≠ 0 by omega)
  have := Int.emod_lt_of_pos x hy
  exact h.le (by omega)
theorem Bd.two {n : Nat} {a b x : Int} (h : Bd n a) (k : Bd n b) (l : x.natAbs ≤ a.natAbs + b.natAbs) : Bd (n + 1) x := by
  have h' : a.natAbs < 2 ^ n := h
  have k' : b.natAbs < 2 ^ n := k
  show x.natAbs < 2 ^ (n + 1)
  rw [Nat.pow_succ]
  omega
theorem Bd.one {n : Nat} {a x : Int} (h : Bd n a) (l : x.natAbs ≤ a.natAbs + 1) : Bd (n + 1) x := by
  have h' : a.natAbs < 2 ^ n := h
  show x.natAbs < 2 ^ (n + 1)
  rw [Nat.pow_succ]
  have := Nat.two_pow_pos n
  omega
theorem cmulw {n m : Nat} {x y : Int} (h : Bd n x) (k : Bd m y) (l : n + m ≤ 900000) : CMulW x y :=
  wide_mul (a := n + 1) (b := m + 1) (h.mono (Nat.le_succ _)) (k.mono (Nat.le_succ _)) (Nat.succ_pos _) (Nat.succ_pos _) (by omega)
theorem cdivw {m : Nat} {x y : Int} (hy : 0 < y) (k : Bd m y) (l : m ≤ 8999) : CDivW x y :=
  wide_div (b := m + 1) hy (k.mono (Nat.le_succ _)) (Nat.succ_pos _) (by omega)

theorem dI (a b : Int) : decide (V.int a = V.int b) = decide (a = b) := by
  rw [dec_int, Bool.beq_eq_decide_eq]
theorem iteB {b : Bool} {A B : Prop} (h1 : b = true → A) (h2 : b = false → B) : if b = true then A else B := by
  cases b
  · rw [if_neg Bool.false_ne_true]; exact h2 rfl
  · rw [if_pos rfl]; exact h1 rfl
theorem of_dI {a b : Int} (h : decide (V.int a = V.int b) = true) : a = b := by rw [dI] at h; exact of_decide_eq_true h
theorem of_dI' {a b : Int} (h : decide (V.int a = V.int b) = false) : a ≠ b := by rw [dI] at h; exact of_decide_eq_false h
end Tr

/-! # Classes: their making, methods, own operators. -/
namespace Tr
open PySem PySem.Spec PyProof.Rows L2

/-- a method of the class at C, as the top has left it -/
structure Mth (K : PySem.W.Frag) (C : Addr) (m qual : Str) (st : Stmt) : Prop where
  cls : Cls K C
  ex : ∃ f fd, Meth K C m f ∧ Fun K m qual st f fd
/-- a property -/
structure Prp (K : PySem.W.Frag) (C : Addr) (m qual : Str) (st : Stmt) : Prop where
  cls : Cls K C
  ex : ∃ p g fd, PropOf K C m p g ∧ Fun K m qual st g fd
/-- a class that is made by its name, n defaults -/
structure Ini (K : PySem.W.Frag) (mg : Str → Option Value) (x qual : Str) (C : Addr) (st : Stmt) (n : Nat) : Prop where
  ex : ∃ f fd dvs, Mk K C f ∧ mg x = some (.ref C) ∧ FunD K "__init__" qual (defArgs st) (defBody st) (defScope st) dvs [] f fd ∧ dvs.length = n
/-- a property that may be read -/
structure Pro (P : Program) (w : World) (K : PySem.W.Frag) (mg : Str → Option Value) (base : Heap) (k : Nat) (C : Addr) (m : Str) (sp : Sp) : Prop where
  ex : ∃ (p g : Addr) (fd : FuncData) (ps : List Str), Cls K C ∧ PropOf K C m p g ∧ FnOk P w K mg base (L2.CX P w) k g fd ps sp ∧ Binds K fd ps []

section
variable {P : Program} {w : World} {K : PySem.W.Frag} {mg : Str → Option Value} {base : Heap}
theorem Met.mono {j k : Nat} {C : Addr} {x : Str} {sp : Sp} {dvs : List V} (c : Met P w K mg base j C x sp dvs) (h : j ≤ k) : Met P w K mg base k C x sp dvs :=
  let ⟨f, fd, ps, ds, a, b, F, r⟩ := c.ex
  ⟨f, fd, ps, ds, a, b, F.mono h, r⟩
theorem Mak.mono {j k : Nat} {C : Addr} {x : Str} {sp : Sp} {dvs : List V} (c : Mak P w K mg base j x C sp dvs) (h : j ≤ k) : Mak P w K mg base k x C sp dvs :=
  let ⟨f, fd, ps, ds, a, F, r⟩ := c.ex
  ⟨f, fd, ps, ds, a, F.mono h, r⟩
theorem metN {m qual : Str} {C : Addr} {st : Stmt} {N ps : List Str} {k : Nat} {sp : Sp} (D : Mth K C m qual st) (S : FnScope N ps (defScope st)) (len : ∀ vs H Q E, sp vs H Q E → vs.length = ps.length)
    (hb : ∀ (kV doc pm : Value) (an : Option Addr) (cdv ct : Value) (us : List Value), us.length = ps.length → bindArgs (PySem.W.fnOf m qual (defArgs st) (defBody st) (defScope st) .none kV doc pm an cdv ct) ⟨us, []⟩ = pure (ps.zip us))
    (hbody : ∀ (f : Addr) (cdv : Value) (A : Around) (outer : List Env) (s : Shared) (H : Hp) (vs : List V) (Q : VK) (E : XK), Room k (A.deeper (envOfC qual (defScope st) s.heap.objs.size f cdv)) → sp vs H Q E →
      ∃ t, PSs (cxOf (L2.CX P w) P w K mg base N qual (defScope st) f cdv A outer s H E).nox (defBody st) t ∧ t { nx := fun _ H' => Q .non H', rt := Q } (start N vs) H) : Met P w K mg base (k + 1) C m sp [] :=
  let ⟨f, fd, M, F⟩ := D.ex
  ⟨f, fd, ps, [], D.cls, M, okN F S len (hbody f), F.binds hb, .nil⟩
theorem metX {m qual : Str} {C : Addr} {st : Stmt} {N ps : List Str} {k : Nat} {sp : Sp} (D : Mth K C m qual st) (S : FnScope N ps (defScope st)) (len : ∀ vs H Q E, sp vs H Q E → vs.length = ps.length)
    (hb : ∀ (kV doc pm : Value) (an : Option Addr) (cdv ct : Value) (us : List Value), us.length = ps.length → bindArgs (PySem.W.fnOf m qual (defArgs st) (defBody st) (defScope st) .none kV doc pm an cdv ct) ⟨us, []⟩ = pure (ps.zip us))
    (hbody : ∀ (f : Addr) (cdv : Value) (A : Around) (outer : List Env) (s : Shared) (H : Hp) (vs : List V) (Q : VK) (E : XK), Room k (A.deeper (envOfC qual (defScope st) s.heap.objs.size f cdv)) → sp vs H Q E →
      ∃ t, PSs (cxOf (L2.CX P w) P w K mg base N qual (defScope st) f cdv A outer s H E) (defBody st) t ∧ t { nx := fun _ H' => Q .non H', rt := Q } (start N vs) H) : Met P w K mg base (k + 1) C m sp [] :=
  let ⟨f, fd, M, F⟩ := D.ex
  ⟨f, fd, ps, [], D.cls, M, F.okX S len (hbody f), F.binds hb, .nil⟩
theorem proN {m qual : Str} {C : Addr} {st : Stmt} {N ps : List Str} {k : Nat} {sp : Sp} (D : Prp K C m qual st) (S : FnScope N ps (defScope st)) (len : ∀ vs H Q E, sp vs H Q E → vs.length = ps.length)
    (hb : ∀ (kV doc pm : Value) (an : Option Addr) (cdv ct : Value) (us : List Value), us.length = ps.length → bindArgs (PySem.W.fnOf m qual (defArgs st) (defBody st) (defScope st) .none kV doc pm an cdv ct) ⟨us, []⟩ = pure (ps.zip us))
    (hbody : ∀ (f : Addr) (cdv : Value) (A : Around) (outer : List Env) (s : Shared) (H : Hp) (vs : List V) (Q : VK) (E : XK), Room k (A.deeper (envOfC qual (defScope st) s.heap.objs.size f cdv)) → sp vs H Q E →
      ∃ t, PSs (cxOf (L2.CX P w) P w K mg base N qual (defScope st) f cdv A outer s H E).nox (defBody st) t ∧ t { nx := fun _ H' => Q .non H', rt := Q } (start N vs) H) : Pro P w K mg base (k + 1) C m sp :=
  let ⟨p, g, fd, M, F⟩ := D.ex
  ⟨p, g, fd, ps, D.cls, M, okN F S len (hbody g), F.binds hb⟩
/-- all parameters written -/
theorem binds_all {x qual : Str} {params : Arguments} {body : List Stmt} {scope : Scope} {dvs : List V} {f : Addr} {fd : FuncData} {ps : List Str} (F : FunD K x qual params body scope dvs [] f fd) (n : Nat) (hn : n = ps.length)
    (h : ∀ (T : Addr) (kV doc pm : Value) (an : Option Addr) (cdv ct : Value) (us its : List Value), us.length = n → its.length = dvs.length →
      ∃ k, bindArgs (PySem.W.fnOf x qual params body scope (.ref T) kV doc pm an cdv ct) ⟨us, []⟩ = seqItems? (.ref T) >>= k ∧ k (some its.toArray) = pure (ps.zip (us ++ []))) (hd : dvs ≠ []) : Binds K fd ps [] := by
  obtain ⟨ds, r, b⟩ := F.binds1 (ps := ps) n dvs.length hd (by omega) (fun T kV doc pm an cdv ct us its h1 h2 => by
    obtain ⟨k, e1, e2⟩ := h T kV doc pm an cdv ct us its h1 h2
    refine ⟨k, e1, ?_⟩
    rw [e2, ← h2, List.drop_length])
  rw [List.drop_length] at r
  cases r
  exact b
theorem makN {x qual : Str} {C : Addr} {st : Stmt} {n : Nat} {N ps : List Str} {k : Nat} {sp : Sp} (D : Ini K mg x qual C st n) (S : FnScope N ps (defScope st)) (len : ∀ vs H Q E, sp vs H Q E → vs.length = ps.length)
    (hb : ∀ dvs f fd, dvs.length = n → FunD K "__init__" qual (defArgs st) (defBody st) (defScope st) dvs [] f fd → Binds K fd ps [])
    (hbody : ∀ (f : Addr) (cdv : Value) (A : Around) (outer : List Env) (s : Shared) (H : Hp) (vs : List V) (Q : VK) (E : XK), Room k (A.deeper (envOfC qual (defScope st) s.heap.objs.size f cdv)) → sp vs H Q E →
      ∃ t, PSs (cxOf (L2.CX P w) P w K mg base N qual (defScope st) f cdv A outer s H E).nox (defBody st) t ∧ t { nx := fun _ H' => Q .non H', rt := Q } (start N vs) H) : Mak P w K mg base (k + 1) x C sp [] :=
  let ⟨f, fd, dvs, M, hm, F, hl⟩ := D.ex
  ⟨f, fd, ps, [], M, F.ok S len (fun cdv A outer s H vs Q E hr h =>
    let ⟨t, h1, h2⟩ := hbody f cdv A outer s H vs Q E hr h
    ⟨t, h1.nox, h2⟩), hm, hb dvs f fd hl F, .nil⟩
end

section
variable {X : Cx} {k j : Nat} {C : Addr} {x m : Str} {sp : Sp} {dvs : List V} {p pos apos : Pos} {e o : Expr} {es : List Expr} {ta : TE} {t : TA} {E : XK}
theorem pe_mkx (c : Mak X.prog X.w X.K X.mg X.base k x C sp dvs) (hr : Room j X.A) (hk : k + 1 ≤ j) (hg : Gl X x) (hx : Passes (L2.CX X.prog X.w) X E) (ha : PA X (e :: es) t)
    (hdb : (x == ("__debug__" : Str)) = false := by decide) (he : starEach (e :: es) X.env = (false, eval e X.env) :: starEach es X.env := by rfl) (hpl : (backTo pos (starEach es X.env)).any (·.1) = false := by rfl) :
    PE X (.Call (.Name x p) (e :: es) [] pos) (tMake C sp dvs E t) := by
  obtain ⟨f, fd, ps, ds, M, F, hm, b, d⟩ := c.ex
  exact pe_make M F (hr.mono hk) hg hm b d hx ha hdb he hpl
theorem pe_mtx {pl : Sem Bool} (c : Met X.prog X.w X.K X.mg X.base k C m sp dvs) (hr : Room j X.A) (hk : k ≤ j) (hx : Passes (L2.CX X.prog X.w) X E) (he : PE X o ta) (ha : PA X (e :: es) t)
    (hst : starEach (e :: es) X.env = (false, eval e X.env) :: starEach es X.env := by rfl) (hpl : (backTo pos (starEach es X.env)).any (·.1) = false := by rfl)
    (ht : eval (.Call (.Attribute o m apos) (e :: es) [] pos) X.env = (do
      let ov ← eval o X.env
      standAt apos.atName
      let (f, first) ← holding [ov] (getMethod ov m pl)
      callWith pos f first (backTo pos (starEach (e :: es) X.env)) (backToKw pos (keywordEach [] X.env))) := by rfl) :
    PE X (.Call (.Attribute o m apos) (e :: es) [] pos) (tMeth C m sp dvs E ta t) := by
  obtain ⟨f, fd, ps, ds, hc, hm, F, b, d⟩ := c.ex
  exact pe_meth (pl := pl) he hc hm F (hr.mono hk) b d hx ha hst hpl ht
theorem pe_mtx0 {pl : Sem Bool} (c : Met X.prog X.w X.K X.mg X.base k C m sp dvs) (hr : Room j X.A) (hk : k ≤ j) (hx : Passes (L2.CX X.prog X.w) X E) (he : PE X o ta)
    (ht : eval (.Call (.Attribute o m apos) [] [] pos) X.env = (do
      let ov ← eval o X.env
      standAt apos.atName
      let (f, first) ← holding [ov] (getMethod ov m pl)
      callWith pos f first (backTo pos (starEach [] X.env)) (backToKw pos (keywordEach [] X.env))) := by rfl) :
    PE X (.Call (.Attribute o m apos) [] [] pos) (tMeth C m sp dvs E ta tNil) := by
  obtain ⟨f, fd, ps, ds, hc, hm, F, b, d⟩ := c.ex
  exact pe_meth0 (pl := pl) he hc hm F (hr.mono hk) b d hx ht
theorem pe_px (c : Pro X.prog X.w X.K X.mg X.base k C m sp) (hr : Room j X.A) (hk : k + 1 ≤ j) (he : PE X e ta) (hx : Passes (L2.CX X.prog X.w) X.nox E)
    (hab : attributeBase e m X.env (eval e X.env) = eval e X.env := by rfl) : PE X (.Attribute e m pos) (tProp C sp [] E ta) := by
  obtain ⟨p, g, fd, ps, hc, hp, F, b⟩ := c.ex
  exact pe_prop he hc hp F (hr.mono hk) b .nil hx hab
end

/-! ### own operators -/
section
variable {X : Cx} {k : Nat} {C : Addr} {sp : Sp} {E : XK}
theorem run_at {CX : CXT} {f : Addr} {fd : FuncData} {ps : List Str} {pins : List (Addr × Obj)} {σ : L2.St} {H : Hp} {s : Shared} {Q : VK} {us : List Value} {vs : List V} {A : Around} (F : FnOk X.prog X.w X.K X.mg X.base CX k f fd ps sp) (hr : Room k A) (hf : A.frames = X.A.frames)
    (hb : Binds X.K fd ps []) (hx : Passes CX X E) (I : Inv X pins σ H s) (r : Vals vs us) (h : sp vs H Q E) : wpAny (model X.prog X.w) A (call (.ref f) us) (EP X pins σ Q) X.xe s := by
  have e0 : Env0 X.prog X.w X.K X.mg X.base A X.stack s H := by
    have e := I.env0
    exact ⟨by rw [hf]; exact e.frames, e.mod, e.bs, e.bsz, e.funs, e.frf, e.hok, e.bare⟩
  have hl : (us ++ []).length = ps.length := by rw [List.append_nil, ← r.length]; exact F.len _ _ _ _ h
  have b := hb s us I.kIn hl
  rw [List.append_nil] at b
  refine wpAny_call (codeAny_mono (F.run A X.stack s H ⟨us, []⟩ us vs Q E hr e0 b r h) fun r s' hq => ?_)
  cases r with
  | error e => exact hx pins σ H s e s' I hq
  | ok fl =>
    cases fl with
    | ret u => exact I.after hq
    | next => exact False.elim hq
    | brk => exact False.elim hq
    | cont => exact False.elim hq
/-- the reading of an own operator -/
def rOwn (C : Addr) (sp : Sp) (E : XK) (g : V → V → List V) (out : Bool → V) : V → V → V → Hp → VK → Prop := fun o x y H Q => ∃ a dx fs, o = .ref a ∧ H a = some (.ins C dx fs) ∧ sp (g x y) H (fun v H' => ∃ b, v = .bl b ∧ Q (out b) H') E
def rInO (C : Addr) (sp : Sp) (E : XK) (out : Bool → V) : R2 := fun x y H Q => ∃ a dx fs, y = .ref a ∧ H a = some (.ins C dx fs) ∧ sp [y, x] H (fun v H' => ∃ b, v = .bl b ∧ Q (out b) H') E
theorem or_inO (c : Met X.prog X.w X.K X.mg X.base k C "__contains__" sp []) {j : Nat} (hr : Room j X.A) (hk : k ≤ j) (hx : Passes (L2.CX X.prog X.w) X E) : OpR X (compareOp .In) (rInO C sp E .bl) := by
  obtain ⟨f, fd, ps, ds, hc, hm, F, b, d⟩ := c.ex
  cases d
  intro pins s σ H x y v u Q I rx ry h
  obtain ⟨a, dx, fs, rfl, ha, h⟩ := h
  cases ry
  obtain ⟨mA, J, _⟩ := ins_get I.hok ha
  obtain ⟨od, J, _⟩ := J.look
  obtain ⟨m, hF⟩ := I.fr
  refine PySem.W.in_K hF I.ok.mod.kin J hm.at_ hm.fn ?_
  refine wpAny_mono (run_at F (hr.mono hk) rfl b hx I (us := [.ref a, v]) (vs := [.ref a, x]) (.cons rfl (.cons rx .nil)) h) (fun r s' q => ?_) fun _ _ z => z
  obtain ⟨z, H', I', rz, b', rfl, q⟩ := q
  cases rz
  exact wpAny_truthy_bool ⟨.bl b', H', I', rfl, q⟩
theorem or_notInO (c : Met X.prog X.w X.K X.mg X.base k C "__contains__" sp []) {j : Nat} (hr : Room j X.A) (hk : k ≤ j) (hx : Passes (L2.CX X.prog X.w) X E) : OpR X (compareOp .NotIn) (rInO C sp E fun b => .bl (!b)) := by
  obtain ⟨f, fd, ps, ds, hc, hm, F, b, d⟩ := c.ex
  cases d
  intro pins s σ H x y v u Q I rx ry h
  obtain ⟨a, dx, fs, rfl, ha, h⟩ := h
  cases ry
  obtain ⟨mA, J, _⟩ := ins_get I.hok ha
  obtain ⟨od, J, _⟩ := J.look
  obtain ⟨m, hF⟩ := I.fr
  refine PySem.W.notIn_K hF I.ok.mod.kin J hm.at_ hm.fn ?_
  refine wpAny_mono (run_at F (hr.mono hk) rfl b hx I (us := [.ref a, v]) (vs := [.ref a, x]) (.cons rfl (.cons rx .nil)) h) (fun r s' q => ?_) fun _ _ z => z
  obtain ⟨z, H', I', rz, b', rfl, q⟩ := q
  cases rz
  exact wpAny_truthy_bool ⟨.bl (!b'), H', I', rfl, q⟩
/-- == of two instances of one class -/
def rEqO (C : Addr) (sp : Sp) (E : XK) (out : Bool → V) : R2 := fun x y H Q => ∃ a dx fs b dy gs, x = .ref a ∧ y = .ref b ∧ H a = some (.ins C dx fs) ∧ H b = some (.ins C dy gs) ∧ sp [x, y] H (fun v H' => ∃ b, v = .bl b ∧ Q (out b) H') E
theorem or_eqO (c : Met X.prog X.w X.K X.mg X.base k C "__eq__" sp []) {j : Nat} (hr : Room j X.A) (hk : k ≤ j) (hx : Passes (L2.CX X.prog X.w) X E) : OpR X (compareOp .Eq) (rEqO C sp E .bl) := by
  obtain ⟨f, fd, ps, ds, hc, hm, F, b, d⟩ := c.ex
  cases d
  intro pins s σ H x y v u Q I rx ry h
  obtain ⟨a, dx, fs, c, dy, gs, rfl, rfl, ha, hc', h⟩ := h
  cases rx
  cases ry
  obtain ⟨mA, J, _⟩ := ins_get I.hok ha
  obtain ⟨mB, J', _⟩ := ins_get I.hok hc'
  obtain ⟨od, J, _⟩ := J.look
  obtain ⟨od', J', _⟩ := J'.look
  obtain ⟨m, hF⟩ := I.fr
  show wpAny (model X.prog X.w) X.A (richCompare .Eq (.ref a) (.ref c)) _ _ s
  refine PySem.W.cmp_K (op := .Eq) (tb := .ref C) hr.units0 hF I.ok.mod.kin J J'.type (by simp [PySem.W.notFirst]) hm.at_ hm.fn ?_
  refine wpAny_mono (run_at F (hr.mono hk) rfl b hx I (us := [.ref a, .ref c]) (vs := [.ref a, .ref c]) (.cons rfl (.cons rfl .nil)) h) (fun r s' q => ?_) fun _ _ z => z
  obtain ⟨z, H', I', rz, b', rfl, q⟩ := q
  cases rz
  exact ⟨.bl b', H', I', rfl, q⟩

/-- what != of a class without own __ne__ leans on -/
structure NeOf (K : PySem.W.Frag) (C : Addr) : Prop where
  ne : PySem.W.findIn K (.ref C) "__ne__" = some (some (.builtin "object.__ne__"))
  mro : PySem.W.mroIn K C (.type "object") = some true
theorem ifBound_ne {M : Model} {A : Around} {E : Value → Shared → Prop} {s : Shared} {K : PySem.W.Frag} {x C : Addr} {ox : Obj} {od : Option Obj} {args : List Value} {Q : Option Value → Shared → Prop} (X : K.In s.heap) (I : PySem.W.InstAt s.heap x ox C od) (hs : PySem.W.findIn K (.ref C) "__ne__" = some (some (.builtin "object.__ne__")))
    (h : wpAny M A (call (.builtin "object.__ne__") (.ref x :: args)) (fun v => Q (some v)) E s) : wpAny M A (callSpecialIfBound? (.ref x) "__ne__" args) Q E s := by
  simp only [callSpecialIfBound?, bindSpecialIfBound?]
  refine wpAny_holding (wpAny_bind (wpAny_bind (wpAny_bind (I.type.here ((PySem.W.looks_findIn X hs).here ?_)))))
  refine wpAny_bind (wpAny_askSetting (wpAny_ite ?_))
  have fin : wpAny M A (call (.builtin "object.__ne__") ([.ref x] ++ args) >>= fun v => pure (some v)) Q E s := wpAny_bind (wpAny_mono h (fun v s' h' => wpAny_pure h') fun _ _ h' => h')
  split
  · exact wpAny_bind (wpAny_of_eq (F.cmp_object.ne.bind _) (wpAny_pure (by exact fin)))
  · exact wpAny_tryCatch (wpAny_bind (wpAny_of_eq (F.cmp_object.ne.bind _) (wpAny_pure (by exact fin))))
theorem entry_ne {prog : Program} {w : World} {A : Around} {E : Value → Shared → Prop} {s : Shared} {K : PySem.W.Frag} {x C f : Addr} {b : Value} {ox : Obj} {od : Option Obj} {Q : Fin → Shared → Prop} (hu : A.units < cLine) (X : K.In s.heap) (I : PySem.W.InstAt s.heap x ox C od)
    (hs : PySem.W.findIn K (.ref C) "__eq__" = some (some (.ref f))) (hf : PySem.W.isFn K (.ref f) = true)
    (h : wpAny (model prog w) A (call (.ref f) [.ref x, b]) (fun v s' => ∃ b, v = .bool b ∧ Q (.done (.ret (.bool (!b)))) s') E s) : wpAny (model prog w) A (Builtin.«object.__ne__» ⟨[.ref x, b], []⟩) Q E s := by
  unfold Builtin.«object.__ne__»
  repeat (first
    | with_reducible refine wpAny_cRoomFor hu ?_
    | (refine wpAny_bind (m := callSpecialIfBound? (.ref x) (Str.ofString "__eq__") [b]) (PySem.W.ifBound_K X I hs hf (wpAny_mono h (fun r s' hr => by
          obtain ⟨b, rfl, hq⟩ := hr
          repeat (first | exact hq | exact wpAny_pure hq | exact wpAny_truthy_bool hq | (refine wpAny_bind (m := truthy (.bool _)) (wpAny_truthy_bool ?_)) | wp_step)) fun _ _ e => e)))
    | wp_step)
theorem ne_K {prog : Program} {w : World} {A : Around} {E : Value → Shared → Prop} {s : Shared} {K : PySem.W.Frag} {x C L f : Addr} {h₀ : Heap} {m : Str → Option Value} {ox : Obj} {od : Option Obj} {b tb : Value} {Q : Value → Shared → Prop} (hu : A.units + 1 < cLine) (FF : Fr h₀ L s.heap m) (X₀ : K.In h₀) (I : PySem.W.InstAt s.heap x ox C od) (hb : PySem.W.Looks (model prog w) s.heap (typeOf b) tb)
    (hn : PySem.W.notFirst K C tb = true) (n : NeOf K C) (hs : PySem.W.findIn K (.ref C) "__eq__" = some (some (.ref f))) (hf : PySem.W.isFn K (.ref f) = true)
    (h : wpAny (model prog w) A.in1 (call (.ref f) [.ref x, b]) (fun v s' => ∃ b, v = .bool b ∧ Q (.bool (!b)) s') E s) : wpAny (model prog w) A (richCompare .NotEq (.ref x) b) Q E s := by
  have X := X₀.keeps FF.keep
  have one : wpAny (model prog w) A (tryCompare (.ref x) (cmpInfo .NotEq).2.1 b) (fun r s' => ∃ v, r = some v ∧ Q v s') E s := by
    unfold tryCompare
    refine wpAny_bind (ifBound_ne X I n.ne (wpAny_call (codeAny_call_builtin F.cmp_object.ne.plain F.cmpEntry_ne (PySem.W.check_slot F.cmpKind_ne F.cmpSplit_ne (I.type.andThen (PySem.W.looks_mroIn X n.mro)) (F.cmpArgs_ne _ _)
      (entry_ne (A := A.in1) hu X I hs hf (wpAny_mono h (fun v s' hv => ?_) fun _ _ e => e))))))
    obtain ⟨c, rfl, hq⟩ := hv
    exact ⟨c, rfl, wpAny_pure ⟨_, rfl, hq⟩⟩
  unfold richCompare
  simp only [oneThing_ref]
  refine wpAny_holding (wpAny_bind (wpAny_cRoomFor (Nat.lt_of_succ_lt hu) ?_))
  refine wpAny_bind (I.type.here (wpAny_bind (hb.here ?_)))
  split
  · rename_i q
    have e : PySem.W.subIn K tb (.ref C) = some false := by
      rcases Bool.or_eq_true_iff.mp hn with e | e
      · rw [beq_iff_eq.mp e] at q; simp at q
      · exact beq_iff_eq.mp e
    refine wpAny_bind ((PySem.W.looks_subIn X e).here ?_)
    simp only [Bool.false_eq_true, if_false]
    refine wpAny_bind (wpAny_mono one (fun r s' z => ?_) fun _ _ e => e)
    obtain ⟨v, rfl, hq⟩ := z
    exact wpAny_pure hq
  · refine wpAny_bind (wpAny_pure ?_)
    simp only [Bool.false_eq_true, if_false]
    refine wpAny_bind (wpAny_mono one (fun r s' z => ?_) fun _ _ e => e)
    obtain ⟨v, rfl, hq⟩ := z
    exact wpAny_pure hq
theorem or_neO (c : Met X.prog X.w X.K X.mg X.base k C "__eq__" sp []) (n : NeOf X.K C) {j : Nat} (hr : Room j X.A) (hk : k + 1 ≤ j) (hx : Passes (L2.CX X.prog X.w) X E) : OpR X (compareOp .NotEq) (rEqO C sp E fun b => .bl (!b)) := by
  obtain ⟨f, fd, ps, ds, hc, hm, F, b, d⟩ := c.ex
  cases d
  intro pins s σ H x y v u Q I rx ry h
  obtain ⟨a, dx, fs, c, dy, gs, rfl, rfl, ha, hc', h⟩ := h
  cases rx
  cases ry
  obtain ⟨mA, J, _⟩ := ins_get I.hok ha
  obtain ⟨mB, J', _⟩ := ins_get I.hok hc'
  obtain ⟨od, J, _⟩ := J.look
  obtain ⟨od', J', _⟩ := J'.look
  obtain ⟨m, hF⟩ := I.fr
  show wpAny (model X.prog X.w) X.A (richCompare .NotEq (.ref a) (.ref c)) _ _ s
  refine ne_K (tb := .ref C) (by have := hr.units; omega) hF I.ok.mod.kin J J'.type (by simp [PySem.W.notFirst]) n hm.at_ hm.fn ?_
  refine wpAny_mono (run_at (A := X.A.in1) F (hr.mono hk).in1 rfl b hx I (us := [.ref a, .ref c]) (vs := [.ref a, .ref c]) (.cons rfl (.cons rfl .nil)) h) (fun r s' q => ?_) fun _ _ z => z
  obtain ⟨z, H', I', rz, b', rfl, q⟩ := q
  cases rz
  exact ⟨_, rfl, .bl (!b'), H', I', rfl, q⟩
/-- bool(o) by an own __bool__ -/
theorem call_bool_own {prog : Program} {w : World} {A : Around} {E : Value → Shared → Prop} {s : Shared} {x : Addr} {Q : Value → Shared → Prop} (h : wpAny (model prog w) A.in1.in1 (truthy (.ref x)) (fun b s' => Q (.bool b) s') E s) :
    wpAny (model prog w) A (call (.type "bool") [.ref x]) Q E s := by
  have ft := F.called_bool
  have hct := F.typeCall_bool_1 (.ref x)
  obtain ⟨c, tl, hmro⟩ := ft.mro
  have hmade := ft.made
  have hsub := ft.sub
  refine wpAny_call (codeAny_of_tree ?_)
  show wpAny _ _ (callAny (.type "bool") _) _ _ _
  refine wpAny_pure ⟨Code.quiet_builtin _ (by decide +kernel), codeAny_builtin F.entry_type_call ?_⟩
  rw [Around.under_plain (weight_type_call_type "bool" [.ref x] []) (units_type_call_type "bool" [.ref x] [])]
  have h1 := ft.notType
  have h2 := ft.canCreate
  repeat (any_goals (first | assumption | wp_step))

  refine codeAny_mono (codeAny_call_builtin (R := wants (fun obj s₁ => ∃ b, obj = .bool b ∧ Q (.bool b) s₁) E) ft.plain F.entry_bool_new (wpAny_of_eq (F.newCall_bool_1 _) ?_)) fun r s₁ hr => ?_
  · unfold Builtin.«bool.__new__»
    have f1 := F.conv_sub_bool
    repeat (any_goals (first | assumption | (with_reducible refine wpAny_bind (m := truthy (.ref x)) (wpAny_mono h (fun b s' hq => ?_) fun _ _ e => e)) | wp_step))
    all_goals exact ⟨_, rfl, hq⟩
  cases r with
  | error e => exact hr
  | ok fl =>
    cases fl with
    | ret obj =>
      obtain ⟨bb, rfl, hr⟩ := hr
      have hT : s₁.TypeIs (.bool bb) "bool" := rfl
      have hli := ft.init.lookup
      have hbi := ft.init.bind (.bool bb)
      repeat (any_goals (first | assumption | wp_step))

      refine codeAny_mono (codeAny_call_builtin ft.init.plain F.entry_object_init (ft.init.check _ _ _ _ _ _ _ _ hT (F.args_object_init_2 _ _) (object_init_meets (self := .bool bb) (rest := [.ref x]) ft.init.lookup ft.made F.newNe_bool prog w A.in1 (wants (fun r s₂ => r = .none ∧ Q (.bool bb) s₂) E) s₁ ⟨hT, rfl, hr⟩))) fun r₂ s₂ hr₂ => ?_
      cases r₂ with
      | error e => exact hr₂
      | ok fl₂ =>
        cases fl₂ with
        | ret r =>
          obtain ⟨rfl, hq⟩ := hr₂
          repeat (any_goals (first | assumption | wp_step))
        | _ => exact hr₂.elim
    | _ => exact hr.elim
theorem cr_boolO (c : Met X.prog X.w X.K X.mg X.base k C "__bool__" sp []) {j : Nat} (hr : Room j X.A) (hk : k + 2 ≤ j) (hx : Passes (L2.CX X.prog X.w) X E) :
    CallR X (.type "bool") (fun xs H Q => ∃ a dx fs, xs = [.ref a] ∧ H a = some (.ins C dx fs) ∧ sp [.ref a] H (fun v H' => ∃ b, v = .bl b ∧ Q (.bl b) H') E) := by
  obtain ⟨f, fd, ps, ds, hc, hm, F, b, d⟩ := c.ex
  cases d
  intro pins s σ H xs us Q I r h
  obtain ⟨a, dx, fs, rfl, ha, h⟩ := h
  rw [Vals.ref1 r]
  obtain ⟨mA, J, _⟩ := ins_get I.hok ha
  obtain ⟨od, J, _⟩ := J.look
  obtain ⟨m, hF⟩ := I.fr
  refine call_bool_own (PySem.W.truthy_K hF I.ok.mod.kin J hm.at_ hm.fn ?_)
  refine wpAny_mono (run_at (A := X.A.in1.in1) F (hr.mono hk).in1.in1 rfl b hx I (us := [.ref a]) (vs := [.ref a]) (.cons rfl .nil) h) (fun r s' q => ?_) fun _ _ z => z
  obtain ⟨z, H', I', rz, b', rfl, q⟩ := q
  cases rz
  exact ⟨.bl b', H', I', rfl, q⟩
end
end Tr

/-! # enumerate, isinstance of own things, fields. -/
namespace Tr
open PySem L2
section
variable {K : PySem.W.Frag}
/-- for i, x in enumerate(list) -/
theorem for_enum {a : Addr} {xs : List V} {i1 i2 : Nat} {tb : TS} {D : Ends} {σ : St} {H : Hp} (Pv : Nat → St → Hp → Prop) (h0 : Pv 0 σ H) (hl : ∀ i σ H, i ≤ xs.length → Pv i σ H → SqL K H a xs)
    (hs : ∀ i x σ H, xs[i]? = some x → Pv i σ H → ∀ T, H T = none → tb { D with nx := Pv (i + 1), ct := Pv (i + 1), bk := D.nx } ((σ.set i1 (some (.int (i : Nat)))).set i2 (some x)) (upd H T (.tup [.int (i : Nat), x]))) (hd : ∀ σ H, Pv xs.length σ H → D.nx σ H) :
    ∃ W : Nat → Nat → St → Hp → Prop, (∃ m, W 0 m σ H) ∧ ∀ i m σ H, W i m σ H →
      ((Ite K a).stop i H ∧ D.nx σ H) ∨ ((Ite K a).go i H ∧ ∃ N : St → Hp → Prop, (∀ σ' H', N σ' H' → ∃ m', m' < m ∧ W (i + 1) m' σ' H') ∧ ∀ x H', (Ite K a).yld i H x H' → gTup K 2 (gCons (gName i1) (gCons (gName i2) gNil)) x σ H' fun σ2 H2 => tb { D with nx := N, ct := N, bk := D.nx } σ2 H2) := by
  refine ⟨fun i m σ H => m = xs.length - i ∧ i ≤ xs.length ∧ Pv i σ H, ⟨xs.length, by simp, Nat.zero_le _, h0⟩, ?_⟩
  rintro i m σ H ⟨rfl, hi, p⟩
  have q := hl i σ H hi p
  by_cases hlt : i < xs.length
  · refine .inr ⟨⟨xs, xs[i], q, by simp [hlt]⟩, Pv (i + 1), fun σ' H' p' => ⟨xs.length - (i + 1), by omega, rfl, hlt, p'⟩, fun x H' y => ?_⟩
    obtain ⟨T, z, rfl, nT, rfl, y⟩ := y
    exact ⟨T, _, rfl, SqT.of upd_same, rfl, _, _, rfl, _, _, rfl, rfl, hs i z σ H (y xs q) p T nT⟩
  · have e : i = xs.length := by omega
    subst e
    exact .inl ⟨⟨xs, q, Nat.le_refl _⟩, hd σ H p⟩
end
/-- e.f, K by its name (inside a comprehension X.K would hold what is bound there) -/
theorem pe_fldK {X : Cx} (K : PySem.W.Frag) {e : Expr} {ta : TE} {f : Str} {pos : Pos} (he : PE X e ta) (hb : attributeBase e f X.env (eval e X.env) = eval e X.env) (hk : X.K = K := by rfl) : PE X (.Attribute e f pos) (tFld K ta f) := by
  subst hk
  exact pe_fld he hb
theorem pi_listK {X : Cx} (K : PySem.W.Frag) {tg l : Expr} {tl : TE} (hl : PE X l tl) (hk : X.K = K := by rfl) : PI X tg l (iList K tl) := by
  subst hk
  exact pi_list hl
/-- a walk over a list, whatever is done at each turn -/
theorem it_list {K : PySem.W.Frag} {a : Addr} {xs : List V} {Hs : Hp} {Qd : Hp → Prop} {F : V → Hp → (Hp → Prop) → Prop} (Pv : Nat → Hp → Prop) (h0 : Pv 0 Hs) (hl : ∀ i H, i ≤ xs.length → Pv i H → SqL K H a xs)
    (hs : ∀ i x H, xs[i]? = some x → Pv i H → F x H (Pv (i + 1))) (hd : ∀ H, Pv xs.length H → Qd H) :
    ∃ W : Nat → Nat → Hp → Prop, (∃ m, W 0 m Hs) ∧ ∀ i m H, W i m H → ((Itl K a).stop i H ∧ Qd H) ∨ ((Itl K a).go i H ∧ ∃ Nx : Hp → Prop, (∀ H', Nx H' → ∃ m', m' < m ∧ W (i + 1) m' H') ∧ ∀ x H', (Itl K a).yld i H x H' → F x H' Nx) := by
  refine ⟨fun i m H => m = xs.length - i ∧ i ≤ xs.length ∧ Pv i H, ⟨xs.length, by simp, Nat.zero_le _, h0⟩, ?_⟩
  rintro i m H ⟨rfl, hi, p⟩
  have q := hl i H hi p
  by_cases hlt : i < xs.length
  · refine .inr ⟨⟨xs, xs[i], q, by simp [hlt]⟩, Pv (i + 1), fun H' p' => ⟨xs.length - (i + 1), by omega, rfl, hlt, p'⟩, fun x H' y => ?_⟩
    obtain ⟨e, y⟩ := y
    subst e
    exact hs i x _ (y xs q) p
  · have e : i = xs.length := by omega
    subst e
    exact .inl ⟨⟨xs, q, Nat.le_refl _⟩, hd H p⟩
/-- another reading of the same -/
theorem pe_imp {X : Cx} {e : Expr} {t t' : TE} (h : PE X e t) (f : ∀ σ H Q, t' σ H Q → t σ H Q) : PE X e t' := ⟨fun pins s σ H Q I q => h.run pins s σ H Q I (f σ H Q q)⟩
/-- what isinstance of an instance of the class leans on -/
structure IsO (K : PySem.W.Frag) (C : Addr) : Prop where
  ha : PySem.W.findIn K (.ref C) "__class__" = some (some (.builtin "object.__class__"))
  hn : PySem.W.specialIn K (.builtin "object.__class__") "__get__" = some (some (.builtin "getset_descriptor.__get__"))
  ht : PySem.W.takesIn K (.builtin "object.__class__") = some true
  hm : PySem.W.mroIn K C (.type "object") = some true
theorem IsO.ty {K : PySem.W.Frag} {C a dx : Addr} {H : Hp} {fs : List (Str × V)} (o : IsO K C) (c : Cls K C) (e : H a = some (.ins C dx fs)) : TyX K H (.ref a) (.ref C) := .base (.ins e c o.ha o.hn o.ht o.hm)
theorem kit_self {K : PySem.W.Frag} {t : Value} : PySem.W.kitOne K t t = some true := by
  unfold PySem.W.kitOne
  first
    | rfl
    | simp
/-- isinstance(x, int) and not isinstance(x, bool) -/
structure IsW (K : PySem.W.Frag) (H : Hp) (x : V) (b : Bool) : Prop where
  ex : ∃ t b1 b2, TyX K H x t ∧ PySem.W.kitOne K t (.type "int") = some b1 ∧ PySem.W.kitOne K t (.type "bool") = some b2 ∧ b = (b1 && !b2)
theorem isW_int {K : PySem.W.Frag} {H : Hp} (i : Int) : IsW K H (.int i) true := ⟨_, true, false, .base (.int i), kit_ty (by decide +kernel), kit_ty (by decide +kernel), rfl⟩
end Tr

/-! # Static methods, own binary operators, own truth, two ways to iterate. -/
namespace Tr
open PySem PySem.Spec PyProof.Rows L2
/-- C.m is a static method: its record at p, its def at g -/
structure SMet (K : PySem.W.Frag) (C : Addr) (m : Str) (p g : Addr) : Prop where
  rd : PySem.W.readsIn K C (.type "type") = true
  ga : PySem.W.specialIn K (.ref C) "__getattribute__" = some (some (.builtin "type.__getattribute__"))
  at_ : PySem.W.findCls K (.ref C) (.type "type") m = some (.get (.builtin "staticmethod.__get__") (.ref p) .none (.ref C))
  rc : ∃ rest, PySem.W.recIn K p "staticmethod" = some (.ref g :: rest)
  kp : PySem.W.keepIn K (.ref g) = true
structure Smt (K : PySem.W.Frag) (C : Addr) (m qual : Str) (st : Stmt) : Prop where
  ex : ∃ p g fd, SMet K C m p g ∧ Fun K m qual st g fd
/-- a static method that may be called -/
structure Sta (P : Program) (w : World) (K : PySem.W.Frag) (mg : Str → Option Value) (base : Heap) (k : Nat) (C : Addr) (m : Str) (sp : Sp) : Prop where
  ex : ∃ (p g : Addr) (fd : FuncData) (ps : List Str), SMet K C m p g ∧ FnOk P w K mg base (L2.CX P w) k g fd ps sp ∧ Binds K fd ps []
section
variable {P : Program} {w : World} {K : PySem.W.Frag} {mg : Str → Option Value} {base : Heap}
theorem staN {m qual : Str} {C : Addr} {st : Stmt} {N ps : List Str} {k : Nat} {sp : Sp} (D : Smt K C m qual st) (S : FnScope N ps (defScope st)) (len : ∀ vs H Q E, sp vs H Q E → vs.length = ps.length)
    (hb : ∀ (kV doc pm : Value) (an : Option Addr) (cdv ct : Value) (us : List Value), us.length = ps.length → bindArgs (PySem.W.fnOf m qual (defArgs st) (defBody st) (defScope st) .none kV doc pm an cdv ct) ⟨us, []⟩ = pure (ps.zip us))
    (hbody : ∀ (f : Addr) (cdv : Value) (A : Around) (outer : List Env) (s : Shared) (H : Hp) (vs : List V) (Q : VK) (E : XK), Room k (A.deeper (envOfC qual (defScope st) s.heap.objs.size f cdv)) → sp vs H Q E →
      ∃ t, PSs (cxOf (L2.CX P w) P w K mg base N qual (defScope st) f cdv A outer s H E).nox (defBody st) t ∧ t { nx := fun _ H' => Q .non H', rt := Q } (start N vs) H) : Sta P w K mg base (k + 1) C m sp :=
  let ⟨p, g, fd, M, F⟩ := D.ex
  ⟨p, g, fd, ps, M, okN F S len (hbody g), F.binds hb⟩
end
section
variable {X : Cx} {k j : Nat} {C : Addr} {m : Str} {sp : Sp} {p pos apos : Pos} {e o : Expr} {es : List Expr} {ta : TE} {t : TA} {E : XK}
theorem getsm_ok {pins : List (Addr × Obj)} {σ : L2.St} {H : Hp} {s : Shared} {A : Around} {E' : Value → Shared → Prop} {p g : Addr} {pl : Sem Bool} {Q : Value × List Value → Shared → Prop} (I : Inv X pins σ H s) (c : SMet X.K C m p g)
    (h : ∀ s', Inv X pins σ H s' → Q (.ref g, []) s') : wpAny (model X.prog X.w) A (getMethod (.ref C) m pl) Q E' s := by
  obtain ⟨rest, hp⟩ := c.rc
  exact PySem.W.method_cls I.kIn c.ga (PySem.W.cls_bind I.kIn c.rd c.at_ (wpAny_call (PySem.W.sm_get (s := { s with toks := s.toks + 1 }) I.kIn hp (PySem.W.handed_on rfl (h _ (I.tok _))))))
/-- C.m(e, ..) of a static method -/
def tSta (C : Addr) (sp : Sp) (E : XK) (ta : TE) (t : TA) : TE := fun σ H Q => ta σ H fun x H1 => x = .ref C ∧ t σ H1 fun vs H2 => sp vs H2 Q E
theorem pe_sta {pl : Sem Bool} (c : Sta X.prog X.w X.K X.mg X.base k C m sp) (hr : Room j X.A) (hk : k ≤ j) (hx : Passes (L2.CX X.prog X.w) X E) (he : PE X o ta) (ha : PA X (e :: es) t)
    (hst : starEach (e :: es) X.env = (false, eval e X.env) :: starEach es X.env := by rfl) (hpl : (backTo pos (starEach es X.env)).any (·.1) = false := by rfl)
    (ht : eval (.Call (.Attribute o m apos) (e :: es) [] pos) X.env = (do
      let ov ← eval o X.env
      standAt apos.atName
      let (f, first) ← holding [ov] (getMethod ov m pl)
      callWith pos f first (backTo pos (starEach (e :: es) X.env)) (backToKw pos (keywordEach [] X.env))) := by rfl) :
    PE X (.Call (.Attribute o m apos) (e :: es) [] pos) (tSta C sp E ta t) := by
  obtain ⟨p, g, fd, ps, M, F, b⟩ := c.ex
  refine ⟨fun pins s σ H Q I h => ?_⟩
  refine PySem.W.methodCall_KW (pl := pl) (thn (he.run pins s σ H _ I h) fun u s1 ⟨x, H1, I1, rx, ex, q⟩ => ?_) ht
  subst ex
  obtain rfl : u = Value.ref C := rx
  refine getsm_ok I1 M fun s2 I2 => ?_
  refine PySem.W.callWith_K (first := []) (h₀ := X.base) I.ok.mod.kin M.kp (thn (ha.run pos pins s2 σ H1 _ I2 q) fun us s3 ⟨vs, H2, I3, r, q2⟩ => ⟨I3.kIn, ?_⟩) hst hpl
  exact run_fn F (hr.mono hk) b .nil hx I3 r (by rw [List.append_nil]; exact q2)
theorem pe_sta0 {pl : Sem Bool} (c : Sta X.prog X.w X.K X.mg X.base k C m sp) (hr : Room j X.A) (hk : k ≤ j) (hx : Passes (L2.CX X.prog X.w) X E) (he : PE X o ta)
    (ht : eval (.Call (.Attribute o m apos) [] [] pos) X.env = (do
      let ov ← eval o X.env
      standAt apos.atName
      let (f, first) ← holding [ov] (getMethod ov m pl)
      callWith pos f first (backTo pos (starEach [] X.env)) (backToKw pos (keywordEach [] X.env))) := by rfl) :
    PE X (.Call (.Attribute o m apos) [] [] pos) (tSta C sp E ta tNil) := by
  obtain ⟨p, g, fd, ps, M, F, b⟩ := c.ex
  refine ⟨fun pins s σ H Q I h => ?_⟩
  refine PySem.W.methodCall_KW (pl := pl) (thn (he.run pins s σ H _ I h) fun u s1 ⟨x, H1, I1, rx, ex, q⟩ => ?_) ht
  subst ex
  obtain rfl : u = Value.ref C := rx
  refine getsm_ok I1 M fun s2 I2 => ?_
  exact PySem.W.callWith_K0 (first := []) I2.kIn M.kp (run_fn (us := []) (vs := []) F (hr.mono hk) b .nil hx I2 .nil q)
/-- a binary operator of two instances of one class -/
def rBinO (C : Addr) (sp : Sp) (E : XK) : R2 := fun x y H Q => ∃ a dx fs b dy gs, x = .ref a ∧ y = .ref b ∧ H a = some (.ins C dx fs) ∧ H b = some (.ins C dy gs) ∧ sp [x, y] H (fun v H' => ∃ z, v = .ref z ∧ Q (.ref z) H') E
theorem or_binO {op : Operator} (c : Met X.prog X.w X.K X.mg X.base k C m sp []) (hm : PySem.dunder op.info.2 = m) (hs : PySem.W.selfFirst X.K C = true) (hr : Room j X.A) (hk : k ≤ j) (hx : Passes (L2.CX X.prog X.w) X E) : OpR X (binaryOp op) (rBinO C sp E) := by
  subst hm
  obtain ⟨f, fd, ps, ds, hc, hm, F, b, d⟩ := c.ex
  cases d
  intro pins s σ H x y v u Q I rx ry h
  obtain ⟨a, dx, fs, c, dy, gs, rfl, rfl, ha, hc', h⟩ := h
  cases rx
  cases ry
  obtain ⟨mA, J, _⟩ := ins_get I.hok ha
  obtain ⟨mB, J', _⟩ := ins_get I.hok hc'
  obtain ⟨od, J, _⟩ := J.look
  obtain ⟨od', J', _⟩ := J'.look
  obtain ⟨m, hF⟩ := I.fr
  refine PySem.W.binop_K hF I.ok.mod.kin J J'.type hs hm.at_ hm.fn ?_
  refine wpAny_mono (run_at F (hr.mono hk) rfl b hx I (us := [.ref a, .ref c]) (vs := [.ref a, .ref c]) (.cons rfl (.cons rfl .nil)) h) (fun r s' q => ?_) fun _ _ z => z
  obtain ⟨z, H', I', rz, b', rfl, q⟩ := q
  cases rz
  exact ⟨.ref b', H', I', rfl, q⟩
/-- the truth of an instance -/
theorem pt_truO {C : Addr} {sp : Sp} (c : Met X.prog X.w X.K X.mg X.base k C "__bool__" sp []) (hr : Room j X.A) (hk : k ≤ j) (hx : Passes (L2.CX X.prog X.w) X E) (ha : PE X e ta) (he : ∀ whole, isTrue e X.env whole = (do let v ← whole; standAt e.pos; holding [v] (truthy v))) :
    PT X e (fun σ H Q => ta σ H fun x H1 => ∃ a dx fs, x = .ref a ∧ H1 a = some (.ins C dx fs) ∧ sp [.ref a] H1 (fun v H2 => ∃ b, v = .bl b ∧ Q b H2) E) := by
  obtain ⟨f, fd, ps, ds, hc, hm, F, b, d⟩ := c.ex
  cases d
  refine ⟨fun pins s σ H Q I h => ?_⟩
  refine isTrue_plain (thn (ha.run pins s σ H _ I h) fun v s1 ⟨x, H1, I1, r1, a, dx, fs, ex, ea, q1⟩ => ?_) (he _)
  subst ex
  cases r1
  obtain ⟨mA, J, _⟩ := ins_get I1.hok ea
  obtain ⟨od, J, _⟩ := J.look
  obtain ⟨m, hF⟩ := I1.fr
  refine PySem.W.truthy_K hF I1.ok.mod.kin J hm.at_ hm.fn ?_
  refine wpAny_mono (run_at F (hr.mono hk) rfl b hx I1 (us := [.ref a]) (vs := [.ref a]) (.cons rfl .nil) q1) (fun r s' q => ?_) fun _ _ z => z
  obtain ⟨z, H', I', rz, b', rfl, q⟩ := q
  cases rz
  exact ⟨H', I', q⟩
theorem pi_or {tg e : Expr} {w1 w2 : TI} (h1 : PI X tg e w1) (h2 : PI X tg e w2) : PI X tg e (fun σ H R => w1 σ H R ∨ w2 σ H R) := ⟨fun pins s σ H R I h => h.elim (h1.run pins s σ H R I) (h2.run pins s σ H R I)⟩
end
end Tr

/-! # Small words. -/
namespace Tr
open PySem L2
theorem iteNe {x y : V} {A B : Prop} (h : x = y) (b : B) : if (!decide (x = y)) = true then A else B := by
  rw [if_neg (by rw [decide_eq_true h]; exact Bool.false_ne_true)]
  exact b
theorem iteEq {x y : V} {A B : Prop} (h : x = y) (b : A) : if decide (x = y) = true then A else B := by
  rw [if_pos (decide_eq_true h)]
  exact b
theorem iteOr {b1 b2 : Bool} {σ : St} {j : Nat} {H : Hp} {Q : VK} (e : σ[j]? = some (some (.bl b2))) (h : Q (.bl (b1 || b2)) H) : if b1 = true then Q (.bl true) H else tVar j σ H Q := by
  cases b1
  · rw [if_neg Bool.false_ne_true]
    exact ⟨_, e, h⟩
  · rw [if_pos rfl]
    exact h
theorem iteAnd {b1 b2 : Bool} {σ : St} {j : Nat} {H : Hp} {Q : VK} (e : σ[j]? = some (some (.bl b2))) (h : Q (.bl (b1 && b2)) H) : if b1 = true then tVar j σ H Q else Q (.bl false) H := by
  cases b1
  · rw [if_neg Bool.false_ne_true]
    exact h
  · rw [if_pos rfl]
    exact ⟨_, e, h⟩
end Tr

/-! # enumerate over a tuple; loops and comprehensions over a tuple of pairs. -/
namespace Tr
open PySem PySem.Spec PyProof.Rows L2
abbrev enumO (it : Addr) : Obj := { cls := .type "enumerate", data := .fields #[.none, .bool false, .ref it, rawInt 0, .none, .none] }
theorem meets_enum1 {v : Value} {o : Obj} {W : Heap → Prop} (B : Begins v o W) :
    Meets (Builtin.«enumerate.__new__» ⟨[.type "enumerate", v], []⟩) (fun _ R s => W s.heap ∧ R (.ok (.ret (.ref (s.heap.push o).objs.size))) { s with heap := (s.heap.push o).push (enumO s.heap.objs.size) }) := .of_wp fun prog w A R s h => by
  obtain ⟨hp, g, d, tk, os⟩ := s
  obtain ⟨h1, h⟩ := h
  have hsub := sub_enumerate
  have q1 : ∀ {A' : Around} {E : Value → Shared → Prop} {Q : Value → Shared → Prop}, Q (.ref hp.objs.size) ⟨hp.push o, g, d, tk, os⟩ → wpAny (model prog w) A' (pyIter v) Q E ⟨hp, g, d, tk, os⟩ := fun q => B.iter prog w _ _ ⟨hp, g, d, tk, os⟩ _ h1 q
  wp_walk using q1
  refine wpAny_stack_any fun st => wpAny_pure ?_
  split
  · rename_i c _ _ _ _ _
    cases (c == Value.type "enumerate") <;> (wp_walk using q1; exact ⟨_, rfl, h⟩)
  · wp_walk using q1
    exact ⟨_, rfl, h⟩
section
variable {prog : Program} {w : World} {A : Around} {E : Value → Shared → Prop} {s : Shared}
theorem call_enum1 {v : Value} {o : Obj} {W : Heap → Prop} {Q : Value → Shared → Prop} (B : Begins v o W) (h1 : W s.heap)
    (h : ∀ h', IsEnum h' (s.heap.objs.size + 1) s.heap.objs.size 0 .none → h'.get? s.heap.objs.size = some o → (∀ b o, s.heap.get? b = some o → h'.get? b = some o) → Q (.ref (s.heap.objs.size + 1)) { s with heap := h' }) :
    wpAny (model prog w) A (call (.type "enumerate") [v]) Q E s := by
  refine callType_new F.called_enumerate (by decide) (F.typeCall_enumerate_1 _) (F.newCall_enumerate_1 _) (fun obj => F.args_object_init_2 obj _) F.entry_enumerate_new (meets_enum1 B) ⟨h1, ?_⟩
  have hz : (s.heap.push o).objs.size = s.heap.objs.size + 1 := Heap.size_push ..
  show _ ∧ _
  rw [hz]
  have he : IsEnum ((s.heap.push o).push (enumO s.heap.objs.size)) (s.heap.objs.size + 1) s.heap.objs.size 0 .none := by
    have := Heap.get?_push_size (s.heap.push o) (o := enumO s.heap.objs.size) rfl
    rw [hz] at this
    exact this
  exact ⟨⟨_, he, rfl⟩, h _ he (Heap.get?_push_of_some _ (Heap.get?_push_size _ B.free)) fun b o x => Heap.get?_push_of_some _ (Heap.get?_push_of_some _ x)⟩
end
/-- the tuple at a, each item in a new pair with its index -/
def IteT (K : PySem.W.Frag) (a : Addr) : It :=
  ⟨fun i H => ∃ (xs : List V) (x : V), SqT K H a xs ∧ xs[i]? = some x, fun i H v H' => ∃ T x, v = .ref T ∧ H T = none ∧ H' = upd H T (.tup [.int (i : Nat), x]) ∧ ∀ xs, SqT K H a xs → xs[i]? = some x, fun i H => ∃ xs : List V, SqT K H a xs ∧ xs.length = i⟩
theorem turn_enumT {P : Program} {w : World} {K : PySem.W.Frag} {elts : List Expr} {kk : Nat} {tpos : Pos} (a e it : Addr) :
    Turn P w K (.Tuple elts kk tpos) (IteT K a) [e, it] e (fun i h => (∃ old, IsEnum h e it ((i : Nat) : Int) old) ∧ h.IsTupleIter it a i ∧ e ≠ it) where
  mem := by simp
  obj := fun i h st b hb => by
    obtain ⟨⟨old, he⟩, ⟨o, ho, hc, hd⟩, _⟩ := st
    rcases (show b = e ∨ b = it by simpa using hb) with z | z
    · rw [z]; exact ⟨_, he, fun v q => nomatch q⟩
    · rw [z]; exact ⟨o, ho, fun v q => by rw [hd] at q; cases q⟩
  keep := fun i h h' ⟨⟨old, he⟩, hi, hne⟩ k => ⟨⟨old, k e (by simp) _ he⟩, hi.at fun o q => k it (by simp) o q, hne⟩
  item := by
    intro X hP hw hK hc i pins s σ H E I hf st hg
    subst hP hw hK
    obtain ⟨⟨old, he⟩, hit, hne⟩ := st
    obtain ⟨xs, x, hq, hx⟩ := hg
    obtain ⟨its, rv, p, hz⟩ := I.tuple hq
    obtain ⟨u, hu, ru⟩ := rv.get hx
    have p' : s.heap.IsTuple a its.toArray := p
    have hel : e < s.heap.objs.size := Heap.lt_size he
    have hil : it < s.heap.objs.size := by obtain ⟨_, q, _⟩ := hit; exact Heap.lt_size q
    have ait : a ≠ it := by
      rintro rfl
      obtain ⟨o, q1, q2, _⟩ := hit
      obtain ⟨o', q3, q4, _⟩ := p'
      rw [q1] at q3
      cases q3
      rw [q2] at q4
      injection q4 with q4
      exact absurd q4 (by decide)
    have ae : a ≠ e := by
      rintro rfl
      obtain ⟨o', q3, q4, _⟩ := p'
      rw [he] at q3
      cases q3
      injection q4 with q4
      exact absurd q4 (by decide)
    have hh : X.A.in1.handled = none := I.ok.hd hc
    have hi : i < its.toArray.size := by
      have := (List.getElem?_eq_some_iff.mp hu).1
      simpa using this
    refine wpAny_pyNext_enum_itemC (Draws.tuple hh it a ait its.toArray) he ⟨hit, p'⟩ hi hne (by simp [hne, ae.symm]) fun x' h' tk hP ho hst hT hsz hk => ?_
    obtain ⟨hit', _⟩ := hst
    have ex : x' = u := by
      have : its[i]? = some x' := by simpa using hP
      rw [hu] at this
      exact (Option.some.inj this).symm
    subst ex
    refine ⟨_, rfl, wpAny_letOwnedTupleGo_enum (s := { s with heap := h', toks := tk + 1 }) ho fun h'' he' sb => ?_⟩
    have hT2 : h''.get? s.heap.objs.size = some { cls := .type "tuple", data := .seq #[.int i tk, x'] } := (sb.2 _ (Nat.ne_of_gt hel)).trans hT
    have new : ObjOk X.prog X.w (upd H s.heap.objs.size (.tup [.int (i : Nat), x])) h'' s.heap.objs.size (.tup [.int (i : Nat), x]) :=
      ⟨by show 2 ≤ sizeLine; decide, [.int i tk, x'], .cons ⟨_, rfl⟩ (.cons ru .nil), ⟨_, hT2, rfl, _, rfl⟩⟩
    have I1 : Inv X pins σ (upd H s.heap.objs.size (.tup [.int (i : Nat), x])) { s with heap := h'', toks := tk + 1 } :=
      I.turnedNew (ch := [e, it]) (fun b ob hb q => (sb.2 b (fun z => hb (by simp [z]))).trans (hk b ob (fun z => hb (by simp [z])) (fun z => hb (by simp [z])) q)) hf (Nat.le_refl _) new
    refine ⟨.ref s.heap.objs.size, _, I1, rfl, ⟨_, x, rfl, I.hok.fresh (Nat.le_refl _), rfl, fun ys hy => by rw [I.tuple_inj hy hq]; exact hx⟩, ⟨⟨x', ?_⟩, hit'.at fun o q => (sb.2 it (Ne.symm hne)).trans q, hne⟩, fun b hb => ?_⟩
    · have e1 : ((i + 1 : Nat) : Int) = (i : Int) + 1 := by omega
      rw [e1]
      exact he'
    · have hb' : b < s.heap.objs.size := by
        rcases (show b = e ∨ b = it by simpa using hb) with z | z
        · rw [z]; exact hel
        · rw [z]; exact hil
      rw [upd_ne (Nat.ne_of_lt hb')]
      exact (hf b hb).1
  done := by
    intro X hP hw hK hc i pins s σ H E I hf st hg
    subst hP hw hK
    obtain ⟨⟨old, he⟩, hit, hne⟩ := st
    obtain ⟨xs, hq, hx⟩ := hg
    obtain ⟨its, rv, p, hz⟩ := I.tuple hq
    obtain ⟨f0, f1, f2, f3, f4, f5⟩ := hf it (by simp)
    have p' : s.heap.IsTuple a its.toArray := p
    have ait : a ≠ it := by
      rintro rfl
      obtain ⟨o, q1, q2, _⟩ := hit
      obtain ⟨o', q3, q4, _⟩ := p'
      rw [q1] at q3
      cases q3
      rw [q2] at q4
      injection q4 with q4
      exact absurd q4 (by decide)
    have hh : X.A.in1.handled = none := I.ok.hd hc
    have hl : i = its.toArray.size := by
      have := rv.length
      simp
      omega
    subst hl
    exact wpAny_pyNext_enum_endD (Draws.tuple hh it a ait its.toArray) he ⟨hit, p'⟩ fun h' eb => ⟨rfl, I.turned (t' := s.toks) (fun b o hb q => eb b o hb q) f0 f1 f3 f4 f5⟩
  self := fun A i s Q E ⟨⟨_, he⟩, _⟩ h => wpAny_pyIter_enum he h
def iEnumT (K : PySem.W.Frag) (ta : TA) : TI := fun σ H R => ta σ H fun vs H1 => ∃ a xs, vs = [.ref a] ∧ SqT K H1 a xs ∧ R (IteT K a) H1
theorem pi_enumT {X : Cx} {e : Expr} {ta : TA} {p pos tpos : Pos} {elts : List Expr} {kk : Nat} (hg : Gl X "enumerate") (hm : X.mg "enumerate" = none) (ha : PA X [e] ta) (hs : starEach [e] X.env = [(false, eval e X.env)] := by rfl) :
    PI X (.Tuple elts kk tpos) (.Call (.Name "enumerate" p) [e] [] pos) (iEnumT X.K ta) := by
  refine ⟨fun pins s σ H R I h => ?_⟩
  refine Call_ (ld_blt I hg hm boot_enumerate (PyProof.Rows.callWith_type1 (thn (ha.run pos pins s σ H _ I h) fun us s1 ⟨vs, H1, I1, r1, q1⟩ => ?_) hs rfl))
  obtain ⟨a, xs, ex, hq, q⟩ := q1
  subst ex
  cases r1 with
  | cons r rr =>
    cases rr
    cases r
    obtain ⟨its, rv, p', hz⟩ := I1.tuple hq
    have p2 : s1.heap.IsTuple a its.toArray := p'
    refine call_enum1 (begins_tuple a its.toArray) p2 fun h' he hit hk => wpAny_pyIter_enum he ?_
    have I2 : Inv X pins σ H1 { s1 with heap := h' } := I1.kept (t' := s1.toks) hk
    refine ⟨s1.heap.objs.size + 1, [s1.heap.objs.size + 1, s1.heap.objs.size], _, _, H1, rfl, I2, turn_enumT a (s1.heap.objs.size + 1) s1.heap.objs.size, ⟨⟨.none, he⟩, ⟨_, hit, rfl, rfl⟩, Nat.succ_ne_self _⟩, fun b hb => ?_, q⟩
    have hle : s1.heap.objs.size ≤ b := by
      rcases (show b = s1.heap.objs.size + 1 ∨ b = s1.heap.objs.size by simpa using hb) with z | z
      · rw [z]; exact Nat.le_add_right _ _
      · rw [z]; exact Nat.le_refl _
    exact I1.fpOk hle (I1.hok.fresh hle)
/-- for i, x in enumerate(tuple) -/
theorem for_enumT {K : PySem.W.Frag} {a : Addr} {xs : List V} {i1 i2 : Nat} {tb : TS} {D : Ends} {σ : L2.St} {H : Hp} (Pv : Nat → L2.St → Hp → Prop) (h0 : Pv 0 σ H) (hl : ∀ i σ H, i ≤ xs.length → Pv i σ H → SqT K H a xs)
    (hs : ∀ i x σ H, xs[i]? = some x → Pv i σ H → ∀ T, H T = none → tb { D with nx := Pv (i + 1), ct := Pv (i + 1), bk := D.nx } ((σ.set i1 (some (.int (i : Nat)))).set i2 (some x)) (upd H T (.tup [.int (i : Nat), x]))) (hd : ∀ σ H, Pv xs.length σ H → D.nx σ H) :
    ∃ W : Nat → Nat → L2.St → Hp → Prop, (∃ m, W 0 m σ H) ∧ ∀ i m σ H, W i m σ H →
      ((IteT K a).stop i H ∧ D.nx σ H) ∨ ((IteT K a).go i H ∧ ∃ N : L2.St → Hp → Prop, (∀ σ' H', N σ' H' → ∃ m', m' < m ∧ W (i + 1) m' σ' H') ∧ ∀ x H', (IteT K a).yld i H x H' → gTup K 2 (gCons (gName i1) (gCons (gName i2) gNil)) x σ H' fun σ2 H2 => tb { D with nx := N, ct := N, bk := D.nx } σ2 H2) := by
  refine ⟨fun i m σ H => m = xs.length - i ∧ i ≤ xs.length ∧ Pv i σ H, ⟨xs.length, by simp, Nat.zero_le _, h0⟩, ?_⟩
  rintro i m σ H ⟨rfl, hi, p⟩
  have q := hl i σ H hi p
  by_cases hlt : i < xs.length
  · refine .inr ⟨⟨xs, xs[i], q, by simp [hlt]⟩, Pv (i + 1), fun σ' H' p' => ⟨xs.length - (i + 1), by omega, rfl, hlt, p'⟩, fun x H' y => ?_⟩
    obtain ⟨T, z, rfl, nT, rfl, y⟩ := y
    exact ⟨T, _, rfl, SqT.of upd_same, rfl, _, _, rfl, _, _, rfl, rfl, hs i z σ H (y xs q) p T nT⟩
  · have e : i = xs.length := by omega
    subst e
    exact .inl ⟨⟨xs, q, rfl⟩, hd σ H p⟩
/-- [e for a, b in tuple of pairs if p] -/
theorem lc_pairsT {K : PySem.W.Frag} {a : Addr} {ts : List Addr} {cs : List (Int × Int)} {i1 i2 : Nat} {tt : TT} {te : TE} {vs : List Nat} {σ : L2.St} {H1 : Hp} {D : Addr} {Qd : Hp → Prop} (p : Int × Int → Bool) (R : V → Int × Int → Hp → Prop)
    (hR : ∀ y c H H' acc, H D = some (.lst acc) → Kp D H H' → R y c H → R y c H') (hD : H1 D = none) (hL : SqT K H1 a (ts.map V.ref)) (hP : P2 (PrT H1) ts cs) (hsz : cs.length ≤ 100000)
    (hw : ∀ x y, wipe (((wipe σ vs).set i1 x).set i2 y) vs = wipe σ vs)
    (ht : ∀ c ∈ cs, ∀ H Q, Same H1 H → (∀ H', Same H H' → Q (p c) H') → tt (((wipe σ vs).set i1 (some (.int c.1))).set i2 (some (.int c.2))) H Q)
    (he : ∀ c ∈ cs, p c = true → ∀ H Q, Same H1 H → (∀ y H', Same H H' → R y c H' → Q y H') → te (((wipe σ vs).set i1 (some (.int c.1))).set i2 (some (.int c.2))) H Q)
    (hd : ∀ ys H, Same H1 H → H D = some (.lst ys) → P2 (fun y c => R y c H) ys (cs.filter p) → Qd H) : LcG (Itt K a) (gTup K 2 (gCons (gName i1) (gCons (gName i2) gNil))) tt te vs σ H1 D Qd := by
  have hlen := hP.len
  refine lc_tup (K := K) (a := a) (xs := ts.map V.ref) (fun i H => Same H1 H ∧ ∃ ys, H D = some (.lst ys) ∧ P2 (fun y c => R y c H) ys ((cs.take i).filter p)) ⟨same_upd hD, [], upd_same, .nil⟩ (fun i H _ ⟨s, _⟩ => s.seqT hL) ?_ ?_
  · rintro i x H hx ⟨s, ys, hy, py⟩
    rw [List.getElem?_map] at hx
    cases ht' : ts[i]? with
    | none => rw [ht'] at hx; cases hx
    | some t =>
      rw [ht'] at hx
      cases hx
      obtain ⟨c, hc, r⟩ := hP.getl ht'
      have hi : i < cs.length := (List.getElem?_eq_some_iff.mp hc).1
      have ll : ys.length ≤ 100000 := by
        have h1 := py.len
        have h2 := List.length_filter_le p (cs.take i)
        rw [List.length_take] at h2
        omega
      refine ⟨t, _, rfl, SqT.of (s _ _ r), rfl, _, _, rfl, _, _, rfl, rfl, hw _ _, ht c (mem_of_at hc) H _ s fun H2 s2 => ?_⟩
      have py2 := py.mono fun v b rb => hR v b H H2 _ hy s2.kp rb
      have hy2 := s2 _ _ hy
      by_cases hp : p c = true
      · rw [if_pos hp]
        refine he c (mem_of_at hc) hp H2 _ (s.trans s2) fun y H' s' r => ⟨ys, s' _ _ hy2, small_app (Nat.le_refl _) ll, ((s.trans s2).trans s').wr hD, ys ++ [y], upd_same, ?_⟩
        rw [take_snoc hc, List.filter_append, List.filter_cons, if_pos hp, List.filter_nil]
        exact (py2.mono fun v b rb => hR v b H' _ _ (s' _ _ hy2) (kp_upd D H' _) (hR v b H2 H' _ hy2 s'.kp rb)).snoc (hR y c H' _ _ (s' _ _ hy2) (kp_upd D H' _) r)
      · rw [if_neg hp]
        refine ⟨s.trans s2, ys, hy2, ?_⟩
        rw [take_snoc hc, List.filter_append, List.filter_cons, if_neg hp, List.filter_nil, List.append_nil]
        exact py2
  · rintro H ⟨s, ys, hy, py⟩
    rw [List.length_map, hlen, List.take_length] at py
    exact hd ys H s hy py
/-- a class that is made by its name, one default: an empty tuple -/
structure Ini0 (K : PySem.W.Frag) (mg : Str → Option Value) (x qual : Str) (C : Addr) (st : Stmt) : Prop where
  ex : ∃ f fd d, Mk K C f ∧ mg x = some (.ref C) ∧ FunD K "__init__" qual (defArgs st) (defBody st) (defScope st) [.ref d] [] f fd ∧ ∀ H, SqT K H d []
def empB (a : PySem.W.Frag → Addr) (K : PySem.W.Frag) : Bool := match K.lookup (a K) with
  | some ⟨.type c, _, .seq its _, _⟩ => decide (c = "tuple") && its.toList.isEmpty
  | _ => false
theorem empB_ok {a : PySem.W.Frag → Addr} {K : PySem.W.Frag} (h : empB a K = true) : ∀ H, SqT K H (a K) [] := by
  intro H
  unfold empB at h
  split at h
  · rename_i c od its n osl e
    obtain ⟨h1, h2⟩ := He.ba h
    have e2 : its.toList = [] := List.isEmpty_iff.mp h2
    refine .inr ⟨_, its, n, e, by rw [of_decide_eq_true h1], rfl, ?_, by rw [e2]; exact .nil⟩
    have : its.size = 0 := by rw [← Array.length_toList, e2]; rfl
    rw [this]
    exact Nat.zero_le _
  · cases h
/-- a class made without an argument, a default kept -/
theorem pe_mkx0 {X : Cx} {k j : Nat} {C : Addr} {x : Str} {sp : Sp} {dvs : List V} {p pos : Pos} {E : XK} (c : Mak X.prog X.w X.K X.mg X.base k x C sp dvs) (hr : Room j X.A) (hk : k + 1 ≤ j) (hg : Gl X x) (hx : Passes (L2.CX X.prog X.w) X E)
    (hdb : (x == ("__debug__" : Str)) = false := by decide) : PE X (.Call (.Name x p) [] [] pos) (tMake C sp dvs E tNil) := by
  obtain ⟨f, fd, ps, ds, M, F, hm, b, d⟩ := c.ex
  exact pe_make0 M F (hr.mono hk) hg hm b d hx hdb
theorem pi_tupK {X : Cx} (K : PySem.W.Frag) {tg l : Expr} {tl : TE} (hl : PE X l tl) (hk : X.K = K := by rfl) : PI X tg l (iTup K tl) := by
  subst hk
  exact pi_tup hl
end Tr

/-! # Own operators with an int: o + n, n + o, -o. -/
namespace Tr
open PySem PySem.Spec PyProof.Rows L2
/-- what o + n leans on -/
structure IntOp (K : PySem.W.Frag) (C : Addr) (nm : String) : Prop where
  hc : PySem.W.selfFirst K C = true
  hr : ∃ rc, PySem.W.findIn K (.ref C) (dunderR nm) = some rc ∧ (rc = none ∨ ∃ g : Addr, rc = some (.ref g))
  h1 : ∃ fo, PySem.W.findIn K (.type "int") (PySem.dunder nm) = some fo
  h2 : ∃ ro, PySem.W.findIn K (.type "int") (dunderR nm) = some ro
  hs : PySem.W.subIn K (.type "int") (.ref C) = some false
  hs' : PySem.W.subIn K (.ref C) (.type "int") = some false
def intOpB (x : Str) (nm : String) (K : PySem.W.Frag) : Bool :=
  PySem.W.selfFirst K (He.ga K x) && ((match PySem.W.findIn K (.ref (He.ga K x)) (dunderR nm) with
    | some none => true
    | some (some (.ref _)) => true
    | _ => false) && ((PySem.W.findIn K (.type "int") (PySem.dunder nm)).isSome && ((PySem.W.findIn K (.type "int") (dunderR nm)).isSome &&
      (decide (PySem.W.subIn K (.type "int") (.ref (He.ga K x)) = some false) && decide (PySem.W.subIn K (.ref (He.ga K x)) (.type "int") = some false)))))
theorem intOpB_ok {x : Str} {nm : String} {K : PySem.W.Frag} (h : intOpB x nm K = true) : IntOp K (He.ga K x) nm := by
  obtain ⟨h1, h⟩ := He.ba h
  obtain ⟨h2, h⟩ := He.ba h
  obtain ⟨h3, h⟩ := He.ba h
  obtain ⟨h4, h⟩ := He.ba h
  obtain ⟨h5, h6⟩ := He.ba h
  refine ⟨h1, ?_, Option.isSome_iff_exists.mp h3, Option.isSome_iff_exists.mp h4, of_decide_eq_true h5, of_decide_eq_true h6⟩
  split at h2
  · rename_i e
    exact ⟨none, e, .inl rfl⟩
  · rename_i g e
    exact ⟨_, e, .inr ⟨g, rfl⟩⟩
  · cases h2
section
variable {prog : Program} {w : World} {A : Around} {E : Value → Shared → Prop} {s : Shared} {K : PySem.W.Frag} {x C L f f0 : Addr} {h₀ : Heap} {m : Str → Option Value} {ox : Obj} {od : Option Obj}
theorem int_add_no (a : Int) (t : Tok) (x C dx : Addr) : Meets (Builtin.«int.__add__» ⟨[.int a t, .ref x], []⟩) (fun _ R s => s.heap.get? x = some (PySem.W.instObj C dx) ∧ R (.ok (.ret Value.notImplemented)) s) := .of_wp fun prog w A R s h => by
  obtain ⟨hp, g, d, tk, os⟩ := s
  obtain ⟨hl, h⟩ := h
  unfold PySem.W.instObj at hl
  wp_walk
  exact ⟨_, rfl, h⟩
theorem int_mul_no (a : Int) (t : Tok) (x C dx : Addr) : Meets (Builtin.«int.__mul__» ⟨[.int a t, .ref x], []⟩) (fun _ R s => s.heap.get? x = some (PySem.W.instObj C dx) ∧ R (.ok (.ret Value.notImplemented)) s) := .of_wp fun prog w A R s h => by
  obtain ⟨hp, g, d, tk, os⟩ := s
  obtain ⟨hl, h⟩ := h
  unfold PySem.W.instObj at hl
  wp_walk
  exact ⟨_, rfl, h⟩
/-- int op o, by the class's reflected method -/
theorem binop_R {op : Operator} {a : Int} {t : Tok} {id : String} {Q : Value → Shared → Prop} (F : Fr h₀ L s.heap m) (X₀ : K.In h₀) (I : PySem.W.InstAt s.heap x ox C od) (i : IntOp K C op.info.2)
    (hs : PySem.W.findIn K (.ref C) (PySem.dunder op.info.2) = some (some (.ref f0))) (hr : PySem.W.findIn K (.ref C) (dunderR op.info.2) = some (some (.ref f))) (hf : PySem.W.isFn K (.ref f) = true)
    (hfT : fillsNumberSlot (.type "int") op.info.2 = pure true) (sl : Slot "int" (PySem.dunder op.info.2) id) (hd : ∀ E', wpAny (model prog w) A (call (.builtin id) [.int a t, .ref x]) (fun v s' => v = .notImplemented ∧ s' = s) E' s)
    (h : wpAny (model prog w) A (call (.ref f) [.ref x, .int a t]) (PySem.W.CmpBack Q) E s) : wpAny (model prog w) A (binaryOp op (.int a t) (.ref x)) Q E s := by
  have X := X₀.keeps F.keep
  obtain ⟨cd, rest, hcd, hm⟩ := PySem.W.ksp_first i.hc
  have one := PySem.W.ksp_try X I hr hf h
  have two : wpAny (model prog w) A (tryMethod (.int a t) (PySem.dunder op.info.2) (.ref x)) (fun r s' => r = none ∧ s' = s) E s :=
    wpAny_tryMethod_declines (T := "int") rfl sl (wpAny_mono (hd E) (fun v s' q => ⟨q.1, rfl, q.2⟩) fun _ _ z => z)
  rcases hi : op.info with ⟨sym, nm'⟩
  have i' := i
  rw [hi] at hs hr hfT sl one two i'
  dsimp only at hs hr hfT sl one two i'
  have L1 : PySem.W.Looks (model prog w) s.heap (typeOf (.ref x)) (.ref C) := I.type
  have L3 : PySem.W.Looks (model prog w) s.heap (fillsNumberSlot (.ref C) nm') true := PySem.W.fills_K X hcd hm hs
  have L5 : PySem.W.Looks (model prog w) s.heap (isSubtype (.ref C) (.type "int")) false := PySem.W.looks_subIn X i'.hs'
  have hne : (Value.type "int" == Value.ref C) = false := Bool.eq_false_iff.mpr fun q => by cases beq_iff_eq.mp q
  simp only [binaryOp, hi]
  refine wpAny_holding (wpAny_bind ?_)
  unfold binaryOp1
  refine wpAny_bind (wpAny_of_eq (a := Value.type "int") rfl (wpAny_bind (L1.here (wpAny_bind (wpAny_of_eq hfT ?_)))))
  simp only [hne, Bool.false_eq_true, if_false]
  refine wpAny_bind (L3.here ?_)
  simp only [Bool.and_self, if_true]
  refine wpAny_bind (L5.here ?_)
  simp only [Bool.false_eq_true, if_false, Bool.not_false, Bool.and_self, if_true]
  refine wpAny_bind (wpAny_of_eq (a := false) rfl ?_)
  simp only [Bool.false_eq_true, if_false, Bool.not_false, Bool.and_self, if_true]
  refine wpAny_bind (wpAny_mono two (fun r s' q => ?_) fun _ _ z => z)
  obtain ⟨rfl, rfl⟩ := q
  refine wpAny_bind (wpAny_mono one (fun r s' q => ?_) fun _ _ z => z)
  obtain ⟨v, rfl, q⟩ := q
  exact wpAny_bind (wpAny_rule (wpAny_pure (wpAny_pure q)))
end
section
variable {X : Cx} {k : Nat} {C : Addr} {m : Str} {sp : Sp} {E : XK}
/-- o op n -/
def rBinI (C : Addr) (sp : Sp) (E : XK) : R2 := fun x y H Q => ∃ a dx fs i, x = .ref a ∧ y = .int i ∧ H a = some (.ins C dx fs) ∧ sp [x, y] H (fun v H' => ∃ z, v = .ref z ∧ Q (.ref z) H') E
/-- n op o -/
def rBinR (C : Addr) (sp : Sp) (E : XK) : R2 := fun x y H Q => ∃ a dx fs i, x = .int i ∧ y = .ref a ∧ H a = some (.ins C dx fs) ∧ sp [y, x] H (fun v H' => ∃ z, v = .ref z ∧ Q (.ref z) H') E
theorem or_binI {op : Operator} (c : Met X.prog X.w X.K X.mg X.base k C m sp []) (hm : PySem.dunder op.info.2 = m) (i : IntOp X.K C op.info.2) {j : Nat} (hr : Room j X.A) (hk : k ≤ j) (hx : Passes (L2.CX X.prog X.w) X E) : OpR X (binaryOp op) (rBinI C sp E) := by
  subst hm
  obtain ⟨f, fd, ps, ds, hc, hm, F, b, d⟩ := c.ex
  cases d
  intro pins s σ H x y v u Q I rx ry h
  obtain ⟨a, dx, fs, n, rfl, rfl, ha, h⟩ := h
  cases rx
  obtain ⟨tk, rfl⟩ := ry
  obtain ⟨mA, J, _⟩ := ins_get I.hok ha
  obtain ⟨od, J, _⟩ := J.look
  obtain ⟨m, hF⟩ := I.fr
  obtain ⟨rc, hr1, hr2⟩ := i.hr
  obtain ⟨fo, h1⟩ := i.h1
  obtain ⟨ro, h2⟩ := i.h2
  refine PySem.W.ksp_binT (T := "int") hF I.ok.mod.kin J rfl i.hc hm.at_ hm.fn hr1 hr2 h1 h2 i.hs ?_
  refine wpAny_mono (run_at F (hr.mono hk) rfl b hx I (us := [.ref a, .int n tk]) (vs := [.ref a, .int n]) (.cons rfl (.cons ⟨_, rfl⟩ .nil)) h) (fun r s' q => ?_) fun _ _ z => z
  obtain ⟨z, H', I', rz, b', rfl, q⟩ := q
  cases rz
  exact ⟨.ref b', H', I', rfl, q⟩
/-- the left int's own method says no -/
structure IntNo (op : Operator) : Prop where
  fills : fillsNumberSlot (.type "int") op.info.2 = pure true
  ex : ∃ id b, Slot "int" (PySem.dunder op.info.2) id ∧ entryFor table id = some b ∧ (∀ x y, argsOk id ⟨[x, y], []⟩) ∧ ∀ (a : Int) (t : Tok) (x C dx : Addr), Meets (b ⟨[.int a t, .ref x], []⟩) (fun _ R s => s.heap.get? x = some (PySem.W.instObj C dx) ∧ R (.ok (.ret Value.notImplemented)) s)
theorem intNo_add : IntNo .Add := ⟨F.fills_int_add, _, _, F.slot_int_add, F.entry_int_add, F.args_int_add_2, int_add_no⟩
theorem intNo_mul : IntNo .Mult := ⟨F.fills_int_mul, _, _, F.slot_int_mul, F.entry_int_mul, F.args_int_mul_2, int_mul_no⟩
theorem or_binR {op : Operator} {m0 : Str} {sp0 : Sp} {k0 : Nat} (c : Met X.prog X.w X.K X.mg X.base k C m sp []) (c0 : Met X.prog X.w X.K X.mg X.base k0 C m0 sp0 []) (hm : dunderR op.info.2 = m) (hm0 : PySem.dunder op.info.2 = m0) (i : IntOp X.K C op.info.2) (no : IntNo op) {j : Nat} (hr : Room j X.A) (hk : k ≤ j) (hx : Passes (L2.CX X.prog X.w) X E) : OpR X (binaryOp op) (rBinR C sp E) := by
  subst hm hm0
  obtain ⟨f0, _, _, _, _, hm0, _, _, _⟩ := c0.ex
  obtain ⟨f, fd, ps, ds, hc, hm, F, b, d⟩ := c.ex
  cases d
  intro pins s σ H x y v u Q I rx ry h
  obtain ⟨a, dx, fs, n, rfl, rfl, ha, h⟩ := h
  obtain ⟨tk, rfl⟩ := rx
  cases ry
  obtain ⟨mA, J0, _⟩ := ins_get I.hok ha
  obtain ⟨od, J, _⟩ := J0.look
  obtain ⟨m, hF⟩ := I.fr
  obtain ⟨fills, id, bb, sl, en, ar, me⟩ := no
  refine binop_R hF I.ok.mod.kin J i hm0.at_ hm.at_ hm.fn fills sl (fun E' => ?_) ?_
  · exact call_meets sl (show s.TypeIs (.int n tk) "int" from rfl) en (ar _ _) (me n tk a C dx) ⟨J0.obj, rfl, rfl⟩
  · refine wpAny_mono (run_at F (hr.mono hk) rfl b hx I (us := [.ref a, .int n tk]) (vs := [.ref a, .int n]) (.cons rfl (.cons ⟨_, rfl⟩ .nil)) h) (fun r s' q => ?_) fun _ _ z => z
    obtain ⟨z, H', I', rz, b', rfl, q⟩ := q
    cases rz
    exact ⟨.ref b', H', I', rfl, q⟩
/-- -o -/
def rNegO (C : Addr) (sp : Sp) (E : XK) (x : V) (H : Hp) (Q : VK) : Prop := ∃ a dx fs, x = .ref a ∧ H a = some (.ins C dx fs) ∧ sp [x] H Q E
theorem pe_unO {u : UnaryOp} {j : Nat} {e : Expr} {ta : TE} {pos : Pos} (c : Met X.prog X.w X.K X.mg X.base k C m sp []) (hu : (u = .USub ∧ m = "__neg__") ∨ (u = .Invert ∧ m = "__invert__")) (hr : Room j X.A) (hk : k ≤ j) (hx : Passes (L2.CX X.prog X.w) X E) (ha : PE X e ta) :
    PE X (.UnaryOp u e pos) (fun σ H Q => ta σ H fun x H1 => rNegO C sp E x H1 Q) := by
  obtain ⟨f, fd, ps, ds, hc, hm, F, b, d⟩ := c.ex
  cases d
  refine ⟨fun pins s σ H Q I h => ?_⟩
  refine UnaryOp_ (thn (ha.run pins s σ H _ I h) fun v s1 ⟨x, H1, I1, r1, a, dx, fs, ex, ea, q1⟩ => ?_)
  subst ex
  cases r1
  obtain ⟨mA, J, _⟩ := ins_get I1.hok ea
  obtain ⟨od, J, _⟩ := J.look
  obtain ⟨m, hF⟩ := I1.fr
  have go := run_at (A := X.A) F (hr.mono hk) rfl b hx I1 (us := [.ref a]) (vs := [.ref a]) (.cons rfl .nil) q1
  rcases hu with ⟨rfl, rfl⟩ | ⟨rfl, rfl⟩
  · exact PySem.W.ksp_neg hF I1.ok.mod.kin J hm.at_ hm.fn go
  · exact PySem.W.ksp_inv hF I1.ok.mod.kin J hm.at_ hm.fn go
end
end Tr

/-! # min, max of a list of ints with a default. -/
namespace Tr
open PySem PySem.Spec PyProof.Rows L2 PySem.W
def rMinD (K : PySem.W.Frag) : List V → List V → Hp → VK → Prop := fun vs zs H Q => ∃ (a : Addr) (ns : List Int) (d : V), vs = [V.ref a] ∧ zs = [d] ∧ SqL K H a (ns.map V.int) ∧ (ns = [] → Q d H) ∧ ∀ m, m ∈ ns → (∀ y, y ∈ ns → m ≤ y) → Q (.int m) H
def rMaxD (K : PySem.W.Frag) : List V → List V → Hp → VK → Prop := fun vs zs H Q => ∃ (a : Addr) (ns : List Int) (d : V), vs = [V.ref a] ∧ zs = [d] ∧ SqL K H a (ns.map V.int) ∧ (ns = [] → Q d H) ∧ ∀ m, m ∈ ns → (∀ y, y ∈ ns → y ≤ m) → Q (.int m) H
theorem reads_ints {h : Heap} {ns : List Int} {its : List Value} (r : Vals (ns.map V.int) its) : ReadsAll h its (ns.map PyData.int) [] := by
  induction ns generalizing its with
  | nil =>
    cases r
    exact .nil
  | cons n ns ih =>
    cases r with
    | cons r rr =>
      obtain ⟨t, rfl⟩ := r
      exact .cons (as := []) (.int n t) (ih rr)
theorem alike_ints (ns : List Int) : AlikeAll (ns.map PyData.int) := by
  refine ⟨fun x hx y hy => ?_, fun x hx => ?_⟩
  · obtain ⟨a, _, rfl⟩ := List.mem_map.mp hx
    obtain ⟨b, _, rfl⟩ := List.mem_map.mp hy
    rfl
  · obtain ⟨a, _, rfl⟩ := List.mem_map.mp hx
    intro z
    cases z
theorem depth_ints0 : ∀ ns : List Int, PyData.depthAll (ns.map PyData.int) ≤ 0
  | [] => Nat.zero_le _
  | c :: cs => by
    have h := depth_ints0 cs
    show max 0 (PyData.depthAll (cs.map PyData.int)) ≤ 0
    omega
theorem fold_min (n : Int) : ∀ ns : List Int, (ns.foldl min n) ∈ n :: ns ∧ ∀ y ∈ n :: ns, ns.foldl min n ≤ y := by
  intro ns
  induction ns generalizing n with
  | nil => exact ⟨List.mem_cons_self, fun y hy => by rw [List.mem_singleton.mp hy]; exact Int.le_refl _⟩
  | cons k r ih =>
    obtain ⟨h1, h2⟩ := ih (min n k)
    rw [List.foldl_cons]
    have h3 := h2 _ List.mem_cons_self
    refine ⟨?_, fun y hy => ?_⟩
    · rcases List.mem_cons.mp h1 with e | h
      · rw [e]
        rcases Int.le_total n k with z | z
        · rw [Int.min_eq_left z]; exact List.mem_cons_self
        · rw [Int.min_eq_right z]; exact List.mem_cons_of_mem _ List.mem_cons_self
      · exact List.mem_cons_of_mem _ (List.mem_cons_of_mem _ h)
    · rcases List.mem_cons.mp hy with rfl | hy
      · omega
      · rcases List.mem_cons.mp hy with rfl | hy
        · omega
        · exact h2 y (List.mem_cons_of_mem _ hy)
theorem fold_max (n : Int) : ∀ ns : List Int, (ns.foldl max n) ∈ n :: ns ∧ ∀ y ∈ n :: ns, y ≤ ns.foldl max n := by
  intro ns
  induction ns generalizing n with
  | nil => exact ⟨List.mem_cons_self, fun y hy => by rw [List.mem_singleton.mp hy]; exact Int.le_refl _⟩
  | cons k r ih =>
    obtain ⟨h1, h2⟩ := ih (max n k)
    rw [List.foldl_cons]
    have h3 := h2 _ List.mem_cons_self
    refine ⟨?_, fun y hy => ?_⟩
    · rcases List.mem_cons.mp h1 with e | h
      · rw [e]
        rcases Int.le_total n k with z | z
        · rw [Int.max_eq_right z]; exact List.mem_cons_of_mem _ List.mem_cons_self
        · rw [Int.max_eq_left z]; exact List.mem_cons_self
      · exact List.mem_cons_of_mem _ (List.mem_cons_of_mem _ h)
    · rcases List.mem_cons.mp hy with rfl | hy
      · omega
      · rcases List.mem_cons.mp hy with rfl | hy
        · omega
        · exact h2 y (List.mem_cons_of_mem _ hy)
theorem cr_minD {X : Cx} (hc : X.calm = true) (hu : X.A.units + 64 < cLine) : CallRK X (.builtin "min") ["default"] (rMinD X.K) := by
  intro pins s σ H xs zs us ws Q I r rz h
  obtain ⟨a, ns, d, rfl, rfl, hs, q0, q⟩ := h
  obtain ⟨its, rv, hl, _⟩ := I.list hs
  rw [Vals.ref1 r]
  cases rz with
  | cons rd rr =>
    cases rr
    refine min_list_default (I.ok.hd hc) hl.isList (by simpa using reads_ints rv) (alike_ints ns) ?_ (fun e h' tk hk => ?_) fun y ys i v h' tk bs e hv hr hk => ?_
    · have := depth_ints0 ns
      omega
    · exact ⟨d, H, I.kept hk, rd, q0 (by cases ns with | nil => rfl | cons _ _ => cases e)⟩
    · cases ns with
      | nil => cases e
      | cons n ns =>
        rw [List.map_cons] at e
        injection e with e1 e2
        subst e1 e2
        rw [minD_ints] at hr
        cases hr
        obtain ⟨m1, m2⟩ := fold_min n ns
        exact ⟨.int _, H, I.kept hk, ⟨_, rfl⟩, q _ m1 m2⟩
theorem cr_maxD {X : Cx} (hc : X.calm = true) (hu : X.A.units + 64 < cLine) : CallRK X (.builtin "max") ["default"] (rMaxD X.K) := by
  intro pins s σ H xs zs us ws Q I r rz h
  obtain ⟨a, ns, d, rfl, rfl, hs, q0, q⟩ := h
  obtain ⟨its, rv, hl, _⟩ := I.list hs
  rw [Vals.ref1 r]
  cases rz with
  | cons rd rr =>
    cases rr
    refine max_list_default (I.ok.hd hc) hl.isList (by simpa using reads_ints rv) (alike_ints ns) ?_ (fun e h' tk hk => ?_) fun y ys i v h' tk bs e hv hr hk => ?_
    · have := depth_ints0 ns
      omega
    · exact ⟨d, H, I.kept hk, rd, q0 (by cases ns with | nil => rfl | cons _ _ => cases e)⟩
    · cases ns with
      | nil => cases e
      | cons n ns =>
        rw [List.map_cons] at e
        injection e with e1 e2
        subst e1 e2
        rw [maxD_ints] at hr
        cases hr
        obtain ⟨m1, m2⟩ := fold_max n ns
        exact ⟨.int _, H, I.kept hk, ⟨_, rfl⟩, q _ m1 m2⟩
end Tr

/-! # Constants of the module and of classes; comprehensions over any walk. -/
namespace Tr
open PySem PySem.Spec PyProof.Rows L2
/-- the module's name x holds the constant v -/
def GCon (mg : Str → Option Value) (x : Str) (v : V) : Prop := ∃ u, mg x = some u ∧ RelV v u
theorem gconS {mg : Str → Option Value} {x z : Str} (h : ∃ t, mg x = some (.str z t)) : GCon mg x (.str z) :=
  let ⟨t, e⟩ := h
  ⟨_, e, ⟨t, rfl⟩⟩
theorem gconI {mg : Str → Option Value} {x : Str} {i : Int} (h : ∃ t, mg x = some (.int i t)) : GCon mg x (.int i) :=
  let ⟨t, e⟩ := h
  ⟨_, e, ⟨t, rfl⟩⟩
theorem pe_gcon {X : Cx} {x : Str} {v : V} {pos : Pos} (h : GCon X.mg x v) (hg : Gl X x) (hd : (x == ("__debug__" : Str)) = false := by decide) : PE X (.Name x pos) (tC v) := by
  obtain ⟨u, hm, r⟩ := h
  exact pe_glob hg hm r hd
/-- C.f is the constant v -/
def CCon (K : PySem.W.Frag) (C : Addr) (f : Str) (v : V) : Prop := ∃ u, ClX.CRead K C (.type "type") ∧ ClX.CVal K C (.type "type") f v u
/-- e.f, e the class at C -/
def tCCon (C : Addr) (v : V) (ta : TE) : TE := fun σ H Q => ta σ H fun x H1 => x = .ref C ∧ Q v H1
theorem pe_ccon {X : Cx} {C : Addr} {e : Expr} {ta : TE} {f : Str} {v : V} {pos : Pos} (h : CCon X.K C f v) (he : PE X e ta) (hb : attributeBase e f X.env (eval e X.env) = eval e X.env := by rfl) : PE X (.Attribute e f pos) (tCCon C v ta) := by
  obtain ⟨w, r, k⟩ := h
  refine ⟨fun pins s σ H Q I h => ?_⟩
  refine attr_of hb (thn (he.run pins s σ H _ I h) fun u s1 ⟨x, H1, I1, rx, ex, q⟩ => ?_)
  subst ex
  obtain rfl : u = Value.ref C := rx
  exact ClX.getcval_ok I1 r k fun s2 I2 => ⟨v, H1, I2, k.rel, q⟩
theorem funD0 {K : PySem.W.Frag} {x qual : Str} {st : Stmt} {f : Addr} {fd : FuncData} (F : FunD K x qual (defArgs st) (defBody st) (defScope st) [] [] f fd) : Fun K x qual st f fd := by
  obtain ⟨oc, od, dV, kV, doc, pm, an, cdv, ct, osl, e, lk, hcd, hD, _⟩ := F.ex
  rcases hD with ⟨_, rfl⟩ | ⟨e, _⟩
  · exact ⟨⟨oc, od, kV, doc, pm, an, cdv, ct, osl, e, lk, hcd⟩, F.kp⟩
  · exact absurd rfl e
/-- a class method -/
structure Cmt (K : PySem.W.Frag) (C : Addr) (m qual : Str) (st : Stmt) : Prop where
  ex : ∃ p g fd, (ClX.CRead K C (.type "type") ∧ ClX.CMet K C (.type "type") m p g) ∧ Fun K m qual st g fd
/-- a class method that may be called -/
structure Cme (P : Program) (w : World) (K : PySem.W.Frag) (mg : Str → Option Value) (base : Heap) (k : Nat) (C : Addr) (m : Str) (sp : Sp) : Prop where
  ex : ∃ (p g : Addr), ClX.CRead K C (.type "type") ∧ ClX.CMet K C (.type "type") m p g ∧ FnR P w K mg base (L2.CX P w) k g sp
section
variable {P : Program} {w : World} {K : PySem.W.Frag} {mg : Str → Option Value} {base : Heap}
theorem cmeN {m qual : Str} {C : Addr} {st : Stmt} {N ps : List Str} {k : Nat} {sp : Sp} (D : Cmt K C m qual st) (S : FnScope N ps (defScope st)) (len : ∀ vs H Q E, sp vs H Q E → vs.length = ps.length)
    (hb : ∀ (kV doc pm : Value) (an : Option Addr) (cdv ct : Value) (us : List Value), us.length = ps.length → bindArgs (PySem.W.fnOf m qual (defArgs st) (defBody st) (defScope st) .none kV doc pm an cdv ct) ⟨us, []⟩ = pure (ps.zip us))
    (hbody : ∀ (f : Addr) (cdv : Value) (A : Around) (outer : List Env) (s : Shared) (H : Hp) (vs : List V) (Q : VK) (E : XK), Room k (A.deeper (envOfC qual (defScope st) s.heap.objs.size f cdv)) → sp vs H Q E →
      ∃ t, PSs (cxOf (L2.CX P w) P w K mg base N qual (defScope st) f cdv A outer s H E).nox (defBody st) t ∧ t { nx := fun _ H' => Q .non H', rt := Q } (start N vs) H) : Cme P w K mg base (k + 1) C m sp :=
  let ⟨p, g, fd, ⟨r, c⟩, F⟩ := D.ex
  ⟨p, g, r, c, ((okN F S len (hbody g)).raw (F.binds hb) .nil).imp fun vs H Q E h => by rw [List.append_nil]; exact h⟩
theorem cmeX {m qual : Str} {C : Addr} {st : Stmt} {N ps : List Str} {k : Nat} {sp : Sp} (D : Cmt K C m qual st) (S : FnScope N ps (defScope st)) (len : ∀ vs H Q E, sp vs H Q E → vs.length = ps.length)
    (hb : ∀ (kV doc pm : Value) (an : Option Addr) (cdv ct : Value) (us : List Value), us.length = ps.length → bindArgs (PySem.W.fnOf m qual (defArgs st) (defBody st) (defScope st) .none kV doc pm an cdv ct) ⟨us, []⟩ = pure (ps.zip us))
    (hbody : ∀ (f : Addr) (cdv : Value) (A : Around) (outer : List Env) (s : Shared) (H : Hp) (vs : List V) (Q : VK) (E : XK), Room k (A.deeper (envOfC qual (defScope st) s.heap.objs.size f cdv)) → sp vs H Q E →
      ∃ t, PSs (cxOf (L2.CX P w) P w K mg base N qual (defScope st) f cdv A outer s H E) (defBody st) t ∧ t { nx := fun _ H' => Q .non H', rt := Q } (start N vs) H) : Cme P w K mg base (k + 1) C m sp :=
  let ⟨p, g, fd, ⟨r, c⟩, F⟩ := D.ex
  ⟨p, g, r, c, ((F.okX S len (hbody g)).raw (F.binds hb) .nil).imp fun vs H Q E h => by rw [List.append_nil]; exact h⟩
end
/-- C.m(e, ..), m a class method -/
theorem pe_cme {X : Cx} {k j : Nat} {C : Addr} {m : Str} {sp : Sp} {pos apos : Pos} {e o : Expr} {es : List Expr} {ta : TE} {t : TA} {E : XK} {pl : Sem Bool} (c : Cme X.prog X.w X.K X.mg X.base k C m sp) (hr : Room j X.A) (hk : k ≤ j) (hx : Passes (L2.CX X.prog X.w) X E) (he : PE X o ta) (ha : PA X (e :: es) t)
    (hst : starEach (e :: es) X.env = (false, eval e X.env) :: starEach es X.env := by rfl) (hpl : (backTo pos (starEach es X.env)).any (·.1) = false := by rfl)
    (ht : eval (.Call (.Attribute o m apos) (e :: es) [] pos) X.env = (do
      let ov ← eval o X.env
      standAt apos.atName
      let (f, first) ← holding [ov] (getMethod ov m pl)
      callWith pos f first (backTo pos (starEach (e :: es) X.env)) (backToKw pos (keywordEach [] X.env))) := by rfl) :
    PE X (.Call (.Attribute o m apos) (e :: es) [] pos) (ClX.tCMeth C sp E ta t) := by
  obtain ⟨p, g, r, cm, F⟩ := c.ex
  exact ClX.pe_cmeth (pl := pl) he r cm F (hr.mono hk) hx ha hst hpl ht
/-- any comprehension over a walk of items of cs -/
theorem lc_gen {α : Type} {J : It} {G : Hp → Prop} {Y : Nat → Hp → V → Hp → Prop} {cs : List α} {g : TG} {tt : TT} {te : TE} {vs : List Nat} {σ : L2.St} {H1 : Hp} {D : Addr} {Qd : Hp → Prop} (w : Walk J cs.length G Y) (S : α → L2.St) (p : α → Bool) (R : V → α → Hp → Prop)
    (hR : ∀ y c H H' acc, H D = some (.lst acc) → Kp D H H' → R y c H → R y c H') (hD : H1 D = none) (hsz : cs.length ≤ 100000)
    (hG : ∀ H, Same H1 H → G H)
    (hY : ∀ i H x H' c, cs[i]? = some c → Same H1 H → Y i H x H' → Same H H' ∧ ∀ Q : L2.St → Hp → Prop, Q (S c) H' → g x (wipe σ vs) H' Q)
    (hw : ∀ c ∈ cs, wipe (S c) vs = wipe σ vs)
    (ht : ∀ c ∈ cs, ∀ H Q, Same H1 H → (∀ H', Same H H' → Q (p c) H') → tt (S c) H Q)
    (he : ∀ c ∈ cs, p c = true → ∀ H Q, Same H1 H → (∀ y H', Same H H' → R y c H' → Q y H') → te (S c) H Q)
    (hd : ∀ ys H, Same H1 H → H D = some (.lst ys) → P2 (fun y c => R y c H) ys (cs.filter p) → Qd H) : LcG J g tt te vs σ H1 D Qd := by
  refine lc_it w (fun i H => Same H1 H ∧ ∃ ys, H D = some (.lst ys) ∧ P2 (fun y c => R y c H) ys ((cs.take i).filter p)) ⟨same_upd hD, [], upd_same, .nil⟩ (fun i H _ ⟨s, _⟩ => hG H s) ?_ ?_
  · rintro i x H H0 hi ⟨s, ys, hy, py⟩ hyl
    have hc : cs[i]? = some cs[i] := List.getElem?_eq_getElem hi
    generalize cs[i] = c at hc
    obtain ⟨s0, hg⟩ := hY i H x H0 c hc s hyl
    have ll : ys.length ≤ 100000 := by
      have h1 := py.len
      have h2 := List.length_filter_le p (cs.take i)
      rw [List.length_take] at h2
      omega
    refine hg _ ⟨hw c (mem_of_at hc), ht c (mem_of_at hc) H0 _ (s.trans s0) fun H2 s2' => ?_⟩
    have s2 := s0.trans s2'
    have py2 := py.mono fun v b rb => hR v b H H2 _ hy s2.kp rb
    have hy2 := s2 _ _ hy
    by_cases hp : p c = true
    · rw [if_pos hp]
      refine he c (mem_of_at hc) hp H2 _ (s.trans s2) fun y H' s' r => ⟨ys, s' _ _ hy2, small_app (Nat.le_refl _) ll, ((s.trans s2).trans s').wr hD, ys ++ [y], upd_same, ?_⟩
      rw [take_snoc hc, List.filter_append, List.filter_cons, if_pos hp, List.filter_nil]
      exact (py2.mono fun v b rb => hR v b H' _ _ (s' _ _ hy2) (kp_upd D H' _) (hR v b H2 H' _ hy2 s'.kp rb)).snoc (hR y c H' _ _ (s' _ _ hy2) (kp_upd D H' _) r)
    · rw [if_neg hp]
      refine ⟨s.trans s2, ys, hy2, ?_⟩
      rw [take_snoc hc, List.filter_append, List.filter_cons, if_neg hp, List.filter_nil, List.append_nil]
      exact py2
  · rintro H ⟨s, ys, hy, py⟩
    rw [List.take_length] at py
    exact hd ys H s hy py
/-- a text's signs, as a walk of items -/
theorem walk_txt {z : Str} : Walk (Its z) (TL.tl z).length (fun _ => True) (fun i H v H' => H' = H ∧ ∃ c, (TL.tl z)[i]? = some c ∧ v = .str ⟨#[c]⟩) := by
  have e : (TL.tl z).length = z.cps.size := Array.length_toList
  rw [e]
  refine walk_str.mono (fun _ h => h) fun i H x H' hi _ y => ⟨y.1, ?_⟩
  obtain ⟨c, h1, h2⟩ := y.2
  exact ⟨c, by show z.cps.toList[i]? = _; rw [Array.getElem?_toList]; exact h1, h2⟩
/-! ### facts of the head -/
def creadB (x : Str) (K : PySem.W.Frag) : Bool := PySem.W.readsIn K (He.ga K x) (.type "type") && He.eqO (PySem.W.specialIn K (.ref (He.ga K x)) "__getattribute__") (some (some (.builtin "type.__getattribute__")))
theorem creadB_ok {x : Str} {K : PySem.W.Frag} (h : creadB x K = true) : ClX.CRead K (He.ga K x) (.type "type") := by
  obtain ⟨h1, h2⟩ := He.ba h
  exact ⟨h1, He.eqO_ok h2⟩
def cvalB (r : Option PySem.W.CFound) (v : V) : Bool := match r with
  | some (.val u) => He.relB v u
  | _ => false
def cconB (x f : Str) (v : V) (K : PySem.W.Frag) : Bool := creadB x K && cvalB (PySem.W.findCls K (.ref (He.ga K x)) (.type "type") f) v
theorem cconB_ok {x f : Str} {v : V} {K : PySem.W.Frag} (h : cconB x f v K = true) : CCon K (He.ga K x) f v := by
  obtain ⟨h1, h2⟩ := He.ba h
  unfold cvalB at h2
  split at h2
  · rename_i u e
    exact ⟨u, creadB_ok h1, e, He.relB_ok h2⟩
  · cases h2
def cmfB (r : Option PySem.W.CFound) (p C : Addr) : Bool := match r with
  | some (.get (.builtin b) (.ref q) .none (.ref D)) => decide (b = "classmethod.__get__") && (decide (q = p) && decide (D = C))
  | _ => false
def gofC (K : PySem.W.Frag) (p : Addr) : Addr := match PySem.W.recIn K p "classmethod" with
  | some (.ref g :: _) => g
  | _ => 0
def cmB (x m : Str) (K : PySem.W.Frag) : Bool := creadB x K && (cmfB (PySem.W.findCls K (.ref (He.ga K x)) (.type "type") m) (He.ma K (He.ga K x) m) (He.ga K x) && ((match PySem.W.recIn K (He.ma K (He.ga K x) m) "classmethod" with
    | some (.ref _ :: _) => true
    | _ => false) && PySem.W.fnIn K (gofC K (He.ma K (He.ga K x) m))))
theorem cmB_ok {x m : Str} {K : PySem.W.Frag} (h : cmB x m K = true) : ClX.CRead K (He.ga K x) (.type "type") ∧ ClX.CMet K (He.ga K x) (.type "type") m (He.ma K (He.ga K x) m) (gofC K (He.ma K (He.ga K x) m)) := by
  obtain ⟨h1, h⟩ := He.ba h
  obtain ⟨h2, h⟩ := He.ba h
  obtain ⟨h3, h4⟩ := He.ba h
  refine ⟨creadB_ok h1, ?_, ?_, h4⟩
  · unfold cmfB at h2
    split at h2
    · rename_i b q D e
      obtain ⟨k1, k⟩ := He.ba h2
      obtain ⟨k2, k3⟩ := He.ba k
      rw [e, of_decide_eq_true k1, of_decide_eq_true k2, of_decide_eq_true k3]
    · cases h2
  · unfold gofC
    split at h3
    · rename_i g r e
      rw [e]
      exact ⟨r, rfl⟩
    · cases h3
end Tr

/-! # Slices with a step, of lists and tuples; parts that may be None. -/
namespace Tr
open PySem PySem.Spec PyProof.Rows L2 HT
theorem same_made {H : Hp} {x dx : Addr} {o o2 : HO} (nx : H x = none) (ndx : H dx = none) : Same H (upd (upd H dx o2) x o) := fun b u e => by
  rw [upd_ne (ne_of_none e nx), upd_ne (ne_of_none e ndx)]
  exact e
theorem mk_same {H H' : Hp} {x dx : Addr} {o o2 : HO} (k : ∀ b u, upd (upd H dx o2) x o b = some u → b ≠ x → H' b = some u) (nx : H x = none) (ndx : H dx = none) : Same H H' := fun b u e => k b u (same_made nx ndx _ _ e) (ne_of_none e nx)
/-- first place, step, number of places -/
def slB (lo hi st : Option Int) (n : Nat) : Int × Int × Nat := ((Builtin.Slice.sliceAdjust lo hi (st.getD 1) (n : Int)).1, st.getD 1, Builtin.Slice.slicePlaces (Builtin.Slice.sliceAdjust lo hi (st.getD 1) (n : Int)).1 (Builtin.Slice.sliceAdjust lo hi (st.getD 1) (n : Int)).2 (st.getD 1))
def slP {α : Type} (xs : List α) (b : Int × Int × Nat) : List α := (List.range b.2.2).filterMap fun (m : Nat) => xs[(b.1 + (m : Int) * b.2.1).toNat]?
/-- xs[lo:hi:st] -/
def slV {α : Type} (xs : List α) (lo hi st : Option Int) : List α := slP xs (slB lo hi st xs.length)
theorem slV_map {α β : Type} (f : α → β) (xs : List α) (lo hi st : Option Int) : slV (xs.map f) lo hi st = (slV xs lo hi st).map f := by
  unfold slV slP
  rw [List.length_map, List.map_filterMap]
  congr 1
  funext m
  rw [List.getElem?_map]
theorem slV_mem {α : Type} {xs : List α} {lo hi st : Option Int} {x : α} (h : x ∈ slV xs lo hi st) : x ∈ xs := by
  unfold slV slP at h
  obtain ⟨m, _, e⟩ := List.mem_filterMap.mp h
  exact List.mem_of_getElem? e
theorem slV_len {α : Type} (xs : List α) (lo hi st : Option Int) : (slV xs lo hi st).length ≤ (slB lo hi st xs.length).2.2 := by
  unfold slV slP
  exact Nat.le_trans (List.length_filterMap_le _ _) (by rw [List.length_range]; exact Nat.le_refl _)
theorem P2.sl {α β : Type} {R : α → β → Prop} {l : List α} {m : List β} (h : P2 R l m) (lo hi st : Option Int) : P2 R (slV l lo hi st) (slV m lo hi st) := by
  unfold slV
  rw [h.len]
  generalize slB lo hi st m.length = b
  unfold slP
  generalize b.2.2 = k
  induction k with
  | zero => exact .nil
  | succ k ih =>
    rw [List.range_succ, List.filterMap_append, List.filterMap_append]
    refine ih.app ?_
    rw [List.filterMap_cons, List.filterMap_cons, List.filterMap_nil, List.filterMap_nil]
    cases e : l[(b.1 + (k : Int) * b.2.1).toNat]? with
    | none =>
      have : m[(b.1 + (k : Int) * b.2.1).toNat]? = none := by
        rw [List.getElem?_eq_none_iff] at e ⊢
        rw [← h.len]
        exact e
      rw [this]
      exact .nil
    | some x =>
      obtain ⟨y, ey, r⟩ := h.getl e
      rw [ey]
      exact .cons r .nil
theorem slB_eq (lo hi st : Option Int) (n : Nat) (h0 : st ≠ some 0) :
    (sliceRange (sliceBounds lo hi st n).1 (sliceBounds lo hi st n).2.1 (sliceBounds lo hi st n).2.2) = (List.range (slB lo hi st n).2.2).map fun (m : Nat) => ((slB lo hi st n).1 + (m : Int) * (slB lo hi st n).2.1).toNat := by
  have hs : st.getD 1 ≠ 0 := by
    cases st with
    | none => decide
    | some i => exact fun z => h0 (by show some i = some 0; rw [show i = 0 from z])
  have b1 : (sliceBounds lo hi st n).1 = (slB lo hi st n).1 := by
    unfold sliceBounds slB Builtin.Slice.sliceAdjust
    dsimp only
    generalize st.getD 1 = c at hs
    by_cases hc : c > 0
    · have : ¬ c < 0 := by omega
      simp only [hc, this, if_true, if_false]
      cases lo with
      | none => rfl
      | some v => dsimp only; split <;> omega
    · have : c < 0 := by omega
      simp only [hc, this, if_true, if_false]
      cases lo with
      | none => rfl
      | some v => dsimp only; split <;> omega
  have b2 : (sliceBounds lo hi st n).2.1 = (Builtin.Slice.sliceAdjust lo hi (st.getD 1) (n : Int)).2 := by
    unfold sliceBounds Builtin.Slice.sliceAdjust
    dsimp only
    generalize st.getD 1 = c at hs
    by_cases hc : c > 0
    · have : ¬ c < 0 := by omega
      simp only [hc, this, if_true, if_false]
      cases hi with
      | none => rfl
      | some v => dsimp only; split <;> omega
    · have : c < 0 := by omega
      simp only [hc, this, if_true, if_false]
      cases hi with
      | none => rfl
      | some v => dsimp only; split <;> omega
  have b3 : (sliceBounds lo hi st n).2.2 = st.getD 1 := rfl
  have e1 : (slB lo hi st n).1 = (Builtin.Slice.sliceAdjust lo hi (st.getD 1) (n : Int)).1 := rfl
  have e2 : (slB lo hi st n).2.1 = st.getD 1 := rfl
  have e3 : (slB lo hi st n).2.2 = Builtin.Slice.slicePlaces (Builtin.Slice.sliceAdjust lo hi (st.getD 1) (n : Int)).1 (Builtin.Slice.sliceAdjust lo hi (st.getD 1) (n : Int)).2 (st.getD 1) := rfl
  rw [b1, b2, b3, e3, ← e1, e2]
  generalize (slB lo hi st n).1 = a
  generalize (Builtin.Slice.sliceAdjust lo hi (st.getD 1) (n : Int)).2 = b
  generalize st.getD 1 = c at hs
  unfold sliceRange Builtin.Slice.slicePlaces
  dsimp only
  have ec : (if c > 0 then (if a < b then (b - a + c - 1) / c else 0) else (if a > b then (a - b - c - 1) / (-c) else 0)) = (if c > 0 then (if a < b then (b - a - 1) / c + 1 else 0) else (if a > b then (a - b - 1) / (-c) + 1 else 0)) := by
    split
    · split
      · rw [show b - a + c - 1 = (b - a - 1) + c by omega, Int.add_ediv_of_dvd_right ⟨1, (Int.mul_one c).symm⟩, Int.ediv_self hs]
      · rfl
    · split
      · rw [show a - b - c - 1 = (a - b - 1) + (-c) by omega, Int.add_ediv_of_dvd_right ⟨1, (Int.mul_one (-c)).symm⟩, Int.ediv_self (by omega)]
      · rfl
  rw [ec]
  congr 1
  funext k
  rw [Int.mul_comm]
theorem slicePick_eq (items : Array Value) (lo hi st : Option Int) (h0 : st ≠ some 0) : slicePick items lo hi st = (slV items.toList lo hi st).toArray := by
  unfold slicePick slV slP
  rw [slB_eq lo hi st items.size h0, List.filterMap_map, Array.length_toList]
  congr 2
  funext m
  show items[_]? = items.toList[_]?
  rw [Array.getElem?_toList]
/-- none of the places is beyond the ends -/
theorem slV_le {α : Type} (xs : List α) (lo hi st : Option Int) (h0 : st ≠ some 0) : (slV xs lo hi st).length ≤ xs.length := by
  have h := slB_eq lo hi st xs.length h0
  have h2 : (slV xs lo hi st) = (sliceRange (sliceBounds lo hi st xs.length).1 (sliceBounds lo hi st xs.length).2.1 (sliceBounds lo hi st xs.length).2.2).filterMap fun i => xs[i]? := by
    rw [h, List.filterMap_map]
    rfl
  rw [h2]
  refine Nat.le_trans (List.length_filterMap_le _ _) (sliceRange_length_le _ _ _ _ (fun hc => ?_) fun hc => ?_)
  · simp only [sliceBounds] at hc ⊢
    simp only [hc, if_true]
    constructor
    · cases lo with
      | none => simp
      | some i => dsimp only; omega
    · cases hi with
      | none => simp
      | some i => dsimp only; omega
  · simp only [sliceBounds] at hc ⊢
    simp only [hc, if_false]
    constructor
    · cases lo with
      | none => simp
      | some i => dsimp only; omega
    · cases hi with
      | none => simp
      | some i => dsimp only; omega
theorem slP_whole {α : Type} (xs : List α) : slP xs (0, 1, xs.length) = xs := by
  unfold slP
  show (List.range xs.length).filterMap (fun (m : Nat) => xs[((0 : Int) + (m : Int) * 1).toNat]?) = xs
  have e : (fun (m : Nat) => xs[((0 : Int) + (m : Int) * 1).toNat]?) = fun m => xs[m]? := by
    funext m
    have : ((0 : Int) + (m : Int) * 1).toNat = m := by omega
    rw [this]
  rw [e]
  have key : ∀ (ys zs : List α), (List.range zs.length).filterMap (fun m => (zs ++ ys)[m]?) = zs := by
    intro ys zs
    rcases List.eq_nil_or_concat zs with rfl | ⟨l, x, rfl⟩
    · rfl
    · induction l generalizing ys x with
      | nil => simp
      | cons a l ih =>
        rw [List.concat_eq_append] at *
        rw [List.cons_append, List.length_cons, List.range_succ_eq_map, List.filterMap_cons]
        simp only [List.cons_append, List.getElem?_cons_zero, List.filterMap_map]
        have := ih ys x
        rw [List.concat_eq_append] at this
        congr 1
  have := key [] xs
  rwa [List.append_nil] at this
section
variable {prog : Program} {w : World} {A : Around} {E : Value → Shared → Prop} {s : Shared}
theorem sliceApplied_any {sl : Addr} {vl vu vs : Value} {lo hi st : Option Int} {n : Nat} {Q : Int × Int × Nat → Shared → Prop} (hs : s.heap.IsSliceOf sl vl vu vs) (pl : IsPart vl lo) (pu : IsPart vu hi) (ps : IsPart vs st) (h0 : st ≠ some 0)
    (h : Q (slB lo hi st n) s) : wpAny (model prog w) A (Builtin.Slice.sliceApplied (.ref sl) (pure (n : Int))) Q E s := by
  have hst : st.getD 1 ≠ 0 := by
    cases st with
    | none => decide
    | some i => exact fun z => h0 (by show some i = some 0; rw [show i = 0 from z])
  obtain ⟨os, hos, hcs, hds⟩ := id hs
  unfold Builtin.Slice.sliceApplied Builtin.Slice.sliceFields
  refine wpAny_bind (wpAny_bind (wpAny_field hos hds (x := vl) rfl (wpAny_bind (wpAny_field hos hds (x := vu) rfl (wpAny_bind (wpAny_field hos hds (x := vs) rfl (wpAny_pure ?_)))))))
  refine wpAny_bind (slicePart_ ps ?_)
  show wpAny _ _ (if ((st.getD 1) == 0) = true then _ else _) _ _ s
  rw [if_neg (by simpa using hst)]
  refine wpAny_bind (slicePart_ pl (wpAny_bind (slicePart_ pu (wpAny_bind (wpAny_pure ?_)))))
  exact wpAny_pure h
theorem getItem_tuple_any {t sl : Addr} {items : Array Value} {vl vu vs : Value} {lo hi st : Option Int} {Q : Value → Shared → Prop} (ht : IsTup s.heap t items) (hs : s.heap.IsSliceOf sl vl vu vs) (pl : IsPart vl lo) (pu : IsPart vu hi) (ps : IsPart vs st) (h0 : st ≠ some 0)
    (h1 : slB lo hi st items.size = (0, 1, items.size) → Q (.ref t) s) (h2 : Q (.ref s.heap.objs.size) { s with heap := s.heap.push { cls := .type "tuple", data := .seq (slV items.toList lo hi st).toArray } })
    (hsz : items.size ≤ sizeLine) : wpAny (model prog w) A (getItem (.ref t) (.ref sl)) Q E s := by
  have htake : sizeOk (.seq (slV items.toList lo hi st).toArray) := by
    show (slV items.toList lo hi st).toArray.size ≤ sizeLine
    rw [List.size_toArray]
    exact Nat.le_trans (slV_le _ _ _ _ h0) (by rw [Array.length_toList]; exact hsz)
  obtain ⟨os, hos, hcs, hds⟩ := id hs
  have hTs : s.TypeIs (.ref sl) "slice" := ⟨os, hos, hcs⟩
  unfold getItem
  try with_reducible refine wpAny_holding ?_
  first | refine wpAny_bind (wpAny_pure ?_) | skip
  refine wpAny_bind (wpAny_sequenceKey ht.typeIs (by decide) ?_)
  refine wpAny_bind (wpAny_callSpecial?_slot (name := Str.ofString "__getitem__") ht.typeIs PyProof.Rows.slot_tuple_getitem
    (wpAny_call_entry PyProof.Rows.slot_tuple_getitem ht.typeIs entry_tuple_getitem ?_ (args_tuple_getitem _ _)))
  show wpAny _ _ (Builtin.Tuple.tupleItemsOf (.ref t) >>= _) _ _ s
  refine wpAny_bind (tupleItemsOf_ ht ?_)
  refine wpAny_bind (wpAny_typeOf hTs ?_)
  rw [if_pos (by decide)]
  refine wpAny_bind (sliceApplied_any hs pl pu ps h0 ?_)
  have ev : slV items.toList lo hi st = slP items.toList (slB lo hi st items.size) := by unfold slV; rw [Array.length_toList]
  rw [ev] at h2 htake
  generalize slB lo hi st items.size = b at *
  obtain ⟨b1, b2, b3⟩ := b
  show wpAny _ _ (if ((b1 : Int) == 0 && b2 == 1 && b3 == items.size) = true then _ else _) _ _ s
  by_cases hw : ((b1 : Int) == 0 && b2 == 1 && b3 == items.size) = true
  · rw [if_pos hw]
    rw [Bool.and_eq_true, Bool.and_eq_true] at hw
    have e1 : b1 = 0 := eq_of_beq hw.1.1
    have e2 : b2 = 1 := eq_of_beq hw.1.2
    have e3 : b3 = items.size := eq_of_beq hw.2
    subst e1 e2 e3
    have h := h1 rfl
    refine wpAny_bind ?_
    show wpAny _ _ (typeOf (.ref t) >>= fun T => pure (T == .type "tuple")) _ _ s
    refine wpAny_bind (wpAny_typeOf ht.typeIs (wpAny_pure ?_))
    first
      | rw [if_pos (by decide)]
      | simp only [beq_self_eq_true, if_true]
    first
      | exact wpAny_bind (wpAny_rule (wpAny_pure ⟨_, rfl, wpAny_pure h⟩))
      | exact wpAny_bind (wpAny_rule (wpAny_bind (wpAny_pure (wpAny_pure ⟨_, rfl, wpAny_pure h⟩))))
  · rw [if_neg hw]
    have ep : ((List.range b3).filterMap fun (m : Nat) => items[(b1 + (m : Int) * b2).toNat]?).toArray = (slP items.toList (b1, b2, b3)).toArray := by
      unfold slP
      congr 2
      funext m
      show items[_]? = items.toList[_]?
      rw [Array.getElem?_toList]
    rw [ep]
    first
      | exact wpAny_bind (m := Builtin.Tuple.tupleExact _) (wpAny_newObj_type (wpAny_pure ⟨_, rfl, wpAny_pure h2⟩) htake)
      | exact wpAny_bind (m := Builtin.Tuple.tupleExact _) (wpAny_newObj_type (wpAny_bind (wpAny_pure (wpAny_pure ⟨_, rfl, wpAny_pure h2⟩))) htake)
      | exact wpAny_bind (wpAny_bind (m := Builtin.Tuple.tupleExact _) (wpAny_newObj_type (wpAny_pure (wpAny_pure ⟨_, rfl, wpAny_pure h2⟩)) htake))
      | exact wpAny_bind (wpAny_bind (m := Builtin.Tuple.tupleExact _) (wpAny_newObj_type (wpAny_pure ⟨_, rfl, wpAny_pure h2⟩) htake))
end
section
variable {X : Cx} {e se : Expr} {te ts : TE} {lo hi : Option Expr} {tl th tst : TO} {pos p2 p3 : Pos}
/-- a part that is an int or None -/
def tPartN (t : TE) : TO := fun σ H Q => t σ H fun x H1 => (∃ i, x = .int i ∧ Q (some i) H1) ∨ (x = .non ∧ Q none H1)
theorem po_someN (h : PE X e te) : PO X (some e) (tPartN te) := by
  refine ⟨fun pins s σ H Q I hw => ?_⟩
  rw [evalPart_some]
  refine thn (h.run pins s σ H _ I hw) fun u s1 ⟨x, H1, I1, r1, q1⟩ => ?_
  rcases q1 with ⟨i, rfl, q⟩ | ⟨rfl, q⟩
  · obtain ⟨t, rfl⟩ := r1
    exact ⟨some i, H1, I1, .int i t, q⟩
  · cases r1
    exact ⟨none, H1, I1, .none, q⟩
/-- x[lo:hi:st] by values -/
abbrev R3s := V → Option Int → Option Int → Option Int → Hp → VK → Prop
def tSl3 (r : R3s) (te : TE) (tl th tst : TO) : TE := fun σ H Q => te σ H fun x H1 => tl σ H1 fun l H2 => th σ H2 fun u H3 => tst σ H3 fun c H4 => r x l u c H4 Q
def rSl3L (K : PySem.W.Frag) : R3s := fun x lo hi st H Q => ∃ a xs, x = .ref a ∧ SqL K H a xs ∧ st ≠ some 0 ∧ ∀ p, H p = none → Q (.ref p) (upd H p (.lst (slV xs lo hi st)))
def rSl3T (K : PySem.W.Frag) : R3s := fun x lo hi st H Q => ∃ a xs, x = .ref a ∧ SqT K H a xs ∧ st ≠ some 0 ∧ ∀ p H', Same H H' → SqT K H' p (slV xs lo hi st) → Q (.ref p) H'
theorem vals_sl {xs : List V} {us : List Value} (r : Vals xs us) (lo hi st : Option Int) : Vals (slV xs lo hi st) (slV us lo hi st) := by
  have hlen := r.length
  unfold slV
  rw [hlen]
  generalize slB lo hi st us.length = b
  unfold slP
  generalize b.2.2 = k
  induction k with
  | zero => exact .nil
  | succ k ih =>
    rw [List.range_succ, List.filterMap_append, List.filterMap_append]
    refine ih.append ?_
    rw [List.filterMap_cons, List.filterMap_cons, List.filterMap_nil, List.filterMap_nil]
    cases e : xs[(b.1 + (k : Int) * b.2.1).toNat]? with
    | none =>
      have : us[(b.1 + (k : Int) * b.2.1).toNat]? = none := by
        rw [List.getElem?_eq_none_iff] at e ⊢
        rw [← hlen]
        exact e
      rw [this]
      exact .nil
    | some x =>
      obtain ⟨y, ey, ry⟩ := r.get e
      rw [ey]
      exact .cons ry .nil
theorem pe_sl3L (he : PE X e te) (hl : PO X lo tl) (hh : PO X hi th) (hst : PO X (some se) tst) : PE X (.Subscript e (.Slice lo hi (some se) p3) pos) (tSl3 (rSl3L X.K) te tl th tst) := by
  refine ⟨fun pins s σ H Q I h => ?_⟩
  refine Subscript_ (thn (he.run pins s σ H _ I h) fun v s1 ⟨x, H1, I1, r1, q1⟩ => ?_)
  refine wpAny_Slice (thn (hl.run pins s1 σ H1 _ I1 q1) fun vl s2 ⟨l, H2, I2, pl, q2⟩ => thn (hh.run pins s2 σ H2 _ I2 q2) fun vu s3 ⟨u, H3, I3, pu, q3⟩ => thn (hst.run pins s3 σ H3 _ I3 q3) fun vs s4 ⟨c, H4, I4, ps, q4⟩ => ?_)
  obtain ⟨a, xs, ex, hx, h0, q⟩ := q4
  subst ex
  cases r1
  have I5 : Inv X pins σ H4 { s4 with heap := s4.heap.push { cls := .type "slice", data := .fields #[vl, vu, vs] } } := I4.kept (t' := s4.toks) fun b ob q => Heap.get?_push_of_some _ q
  obtain ⟨its, r, ht, hz⟩ := I5.list hx
  have hlen := r.length
  show wpAny (model X.prog X.w) X.A (subscriptTail e (.Slice lo hi (some se) p3) (.ref a) (.ref s4.heap.objs.size)) (EP X pins σ Q) X.xe { s4 with heap := s4.heap.push { cls := .type "slice", data := .fields #[vl, vu, vs] } }
  refine tail_any (ops := [.ref a, .ref s4.heap.objs.size]) ht.isList.typeIs (PySem.slot_list_getitem.lookup) ?_ (by with_unfolding_all rfl)
  refine wpAny_getItem_list_slice ht.isList (Heap.IsSliceOf.new _ vl vu vs) pl pu ps h0 ?_ (by rw [List.size_toArray]; omega)
  rw [slicePick_eq _ _ _ _ h0]
  refine ⟨.ref _, _, I5.laid (t' := s4.toks) (o := .lst (slV xs l u c)) (fun b ob q => Heap.get?_push_of_some _ q) (Nat.le_refl _) ?_, rfl, q _ (I5.hok.fresh (Nat.le_refl _))⟩
  exact ⟨Nat.le_trans (slV_le _ _ _ _ h0) hz, _, 0, by simpa using vals_sl r l u c, Heap.get?_push_size _ rfl⟩
theorem pe_sl3T (he : PE X e te) (hl : PO X lo tl) (hh : PO X hi th) (hst : PO X (some se) tst) : PE X (.Subscript e (.Slice lo hi (some se) p3) pos) (tSl3 (rSl3T X.K) te tl th tst) := by
  refine ⟨fun pins s σ H Q I h => ?_⟩
  refine Subscript_ (thn (he.run pins s σ H _ I h) fun v s1 ⟨x, H1, I1, r1, q1⟩ => ?_)
  refine wpAny_Slice (thn (hl.run pins s1 σ H1 _ I1 q1) fun vl s2 ⟨l, H2, I2, pl, q2⟩ => thn (hh.run pins s2 σ H2 _ I2 q2) fun vu s3 ⟨u, H3, I3, pu, q3⟩ => thn (hst.run pins s3 σ H3 _ I3 q3) fun vs s4 ⟨c, H4, I4, ps, q4⟩ => ?_)
  obtain ⟨a, xs, ex, hx, h0, q⟩ := q4
  subst ex
  cases r1
  have I5 : Inv X pins σ H4 { s4 with heap := s4.heap.push { cls := .type "slice", data := .fields #[vl, vu, vs] } } := I4.kept (t' := s4.toks) fun b ob q => Heap.get?_push_of_some _ q
  obtain ⟨its, r, ht, hz⟩ := I5.tuple hx
  have hlen := r.length
  show wpAny (model X.prog X.w) X.A (subscriptTail e (.Slice lo hi (some se) p3) (.ref a) (.ref s4.heap.objs.size)) (EP X pins σ Q) X.xe { s4 with heap := s4.heap.push { cls := .type "slice", data := .fields #[vl, vu, vs] } }
  refine tail_any (ops := [.ref a, .ref s4.heap.objs.size]) ht.typeIs (PyProof.Rows.slot_tuple_getitem.lookup) ?_ (by with_unfolding_all rfl)
  refine getItem_tuple_any ht (Heap.IsSliceOf.new _ vl vu vs) pl pu ps h0 (fun ew => ?_) ?_ (by rw [List.size_toArray]; omega)
  · refine ⟨.ref a, H4, I5, rfl, q _ _ (Same.refl _) ?_⟩
    have e : slV xs l u c = xs := by
      rw [List.size_toArray, ← hlen] at ew
      unfold slV
      rw [ew]
      exact slP_whole xs
    rw [e]
    exact hx
  · refine ⟨.ref _, _, I5.laid (t' := s4.toks) (o := .tup (slV xs l u c)) (fun b ob q => Heap.get?_push_of_some _ q) (Nat.le_refl _) ?_, rfl, q _ _ (same_upd (I5.hok.fresh (Nat.le_refl _))) (SqT.of upd_same)⟩
    exact ⟨Nat.le_trans (slV_le _ _ _ _ h0) hz, _, by simpa using vals_sl r l u c, IsTup.new _ _⟩
end
end Tr

/-! # Slice objects as values; own subscripts. -/
namespace Tr
open PySem PySem.Spec PyProof.Rows L2 HT
section
theorem sk_lk : typeLookup (.type "slice") "__class__" = pure (some (.builtin "object.__class__")) := by rw [typeLookup_type, builtinLookup_eq_fast]; kernel_rfl
theorem sk_ga : Slot "slice" "__getattribute__" "slice.__getattribute__" :=
  .of (owner := "slice") (n := "__getattribute__") (by rw [typeLookup_type, builtinLookup_eq_fast]; kernel_rfl) (by decide +kernel) (by decide +kernel) (by decide +kernel) (by first | exact .inl (by decide +kernel) | exact .inr (by decide +kernel)) (by rw [isSubtype_type]; kernel_rfl)
theorem sk_en : entryFor table "slice.__getattribute__" = some Builtin.«object.__getattribute__» := entryFor_alias (id' := "object.__getattribute__") (by kernel_rfl) (by first | rfl | decide +kernel) (by decide +kernel) (by kernel_rfl)
theorem sk_ar (a b : Value) : argsOk "slice.__getattribute__" ⟨[a, b], []⟩ := by unfold argsOk; kernel_rfl
theorem sk_ow : isSubtype (.type "slice") (.type (".".intercalate ("object.__class__".cutAt '.').dropLast)) = pure true := by rw [F.owner_object_class, isSubtype_type]; kernel_rfl
variable {prog : Program} {w : World} {A : Around} {E : Value → Shared → Prop} {s : Shared} {a : Addr} {o : Obj}
theorem sk_get {R : Result → Shared → Prop} (hT : s.TypeIs (.ref a) "slice") (hq : R (.ok (.ret (.type "slice"))) s) : codeAny (model prog w) A (.call (.builtin "getset_descriptor.__get__") ⟨[.builtin "object.__class__", .ref a, .type "slice"], []⟩) R s := by
  obtain ⟨h, g, d, t, os⟩ := s
  have g1 : (⟨h, g, d, t, os⟩ : Shared).TypeIs (.builtin "object.__class__") "getset_descriptor" := F.typeOf_object_class
  have g2 := sk_ow
  refine codeAny_call_builtin F.slot_gs_get.plain F.entry_gs_get (F.slot_gs_get.check _ _ _ _ _ _ _ _ g1 (F.args_gs_get _ _ _) ?_)
  repeat (any_goals (first | assumption | wp_step))
  refine ⟨Code.quiet_builtin _ (by decide +kernel), codeAny_builtin F.entry_object_class ?_⟩
  repeat (any_goals (first | assumption | wp_step))
theorem sk_cls {Q : Option Value → Shared → Prop} (hT : s.TypeIs (.ref a) "slice") (hq : Q (some (.type "slice")) { s with toks := s.toks + 1 }) : wpAny (model prog w) A (getAttr? (.ref a) "__class__") Q E s := by
  obtain ⟨h, g, d, t, os⟩ := s
  have hT1 : (⟨h, g, d, t + 1, os⟩ : Shared).TypeIs (.ref a) "slice" := hT
  have one : ∀ {tk : Tok} {Q : Fin → Shared → Prop}, Q (.done (.ret (.type "slice"))) ⟨h, g, d, t + 1, os⟩ → ∀ A E, wpAny (model prog w) A (Builtin.«object.__getattribute__» ⟨[.ref a, .str "__class__" tk], []⟩) Q E ⟨h, g, d, t + 1, os⟩ := by
    intro tk Q hq A E
    have g1 := sk_lk
    have g2 := F.typeOf_object_class
    have g3 : (⟨h, g, d, t + 1, os⟩ : Shared).TypeIs (.builtin "object.__class__") "getset_descriptor" := F.typeOf_object_class
    have g4 := F.slot_gs_get.lookup
    have g5 := F.slot_gs_set.lookup
    repeat (any_goals (first | assumption | wp_step))
    refine sk_get hT1 ?_
    repeat (any_goals (first | assumption | wp_step))
  have two : ∀ {tk : Tok} {R : Result → Shared → Prop}, R (.ok (.ret (.type "slice"))) ⟨h, g, d, t + 1, os⟩ → ∀ A, codeAny (model prog w) A (.call (.builtin "slice.__getattribute__") ⟨[.ref a, .str "__class__" tk], []⟩) R ⟨h, g, d, t + 1, os⟩ := fun hq A =>
    codeAny_call_builtin sk_ga.plain sk_en (sk_ga.check _ _ _ _ _ _ _ _ hT1 (sk_ar _ _) (one hq _ _))
  have three : ∀ {tk : Tok} {Q : Value → Shared → Prop}, Q (.type "slice") ⟨h, g, d, t + 1, os⟩ → ∀ A E, wpAny (model prog w) A (getAttrBy (.ref a) (.str "__class__" tk) false) Q E ⟨h, g, d, t + 1, os⟩ := by
    intro tk Q hq A E
    have f2 := sk_ga.lookup
    have f3 := sk_ga.bind (.ref a)
    repeat (any_goals (first | assumption | wp_step))
    refine two ?_ _
    repeat (any_goals (first | assumption | wp_step))
  unfold getAttr? getAttrBy?
  repeat (any_goals (first | assumption | exact three (by assumption) _ _ | with_reducible apply three | wp_step))
end
/-- a slice object -/
def slO (a : Addr) (lo hi st : Option Int) : HO := .ext fun h => ∃ vl vu vs, h.IsSliceOf a vl vu vs ∧ IsPart vl lo ∧ IsPart vu hi ∧ IsPart vs st
section
variable {X : Cx} {pins : List (Addr × Obj)} {σ : L2.St} {H : Hp} {s : Shared}
theorem slO_at {a : Addr} {lo hi st : Option Int} (I : Inv X pins σ H s) (h : H a = some (slO a lo hi st)) : ∃ vl vu vs, s.heap.IsSliceOf a vl vu vs ∧ IsPart vl lo ∧ IsPart vu hi ∧ IsPart vs st :=
  (show ObjOk X.prog X.w H s.heap a (slO a lo hi st) from I.hok a _ h).1
/-- isinstance of a slice object -/
def rIsiSl (K : PySem.W.Frag) : List V → Hp → VK → Prop := fun xs H Q => ∃ (a : Addr) (lo hi st : Option Int) (c : V) (u : Value) (b : Bool), xs = [.ref a, c] ∧ H a = some (slO a lo hi st) ∧ ClsV c u ∧ PySem.W.kitOne K (.type "slice") u = some b ∧ Q (.bl b) H
theorem call_isiSl : CallR X (.builtin "isinstance") (rIsiSl X.K) := by
  intro pins s σ H xs us Q I r h
  obtain ⟨a, lo, hi, st, c, u, b, rfl, ha, k, e, q⟩ := h
  obtain ⟨u1, u2, rfl, r1, r2⟩ := vals2 r
  have e2 := k.eq r2
  subst e2
  cases (show u1 = Value.ref a from r1)
  obtain ⟨vl, vu, vs, ⟨o, ho, hc, hd⟩, _⟩ := slO_at I ha
  exact PySem.W.kia_one (K := X.K) (t := .type "slice") (H := PySem.W.KitAt a "slice") (PySem.W.kitx_of PySem.W.kitAt_ty fun p k => sk_cls p k) I.kIn ⟨o, ho, hc⟩ e (fun z => nomatch z) fun tk => ⟨.bl b, H, I.tok tk, rfl, q⟩
/-- t[k], k a slice object -/
def rIxTS (K : PySem.W.Frag) : R2 := fun x y H Q => ∃ (p sl : Addr) (lo hi st : Option Int) (xs : List V), x = .ref p ∧ y = .ref sl ∧ SqT K H p xs ∧ H sl = some (slO sl lo hi st) ∧ st ≠ some 0 ∧ ∀ q H', Same H H' → SqT K H' q (slV xs lo hi st) → Q (.ref q) H'
theorem ix_tupS : IxR X (rIxTS X.K) := by
  intro value slice pins s σ H x y v u Q I rx ry h hs
  obtain ⟨p, sl, lo, hi, st, xs, rfl, rfl, hq, hsl, h0, q⟩ := h
  cases rx
  cases ry
  obtain ⟨its, r, pl, hz⟩ := I.tuple hq
  have hlen := r.length
  obtain ⟨vl, vu, vs, hS, p1, p2, p3⟩ := slO_at I hsl
  refine tail_any pl.typeIs slot_tuple_getitem.lookup ?_ hs
  refine getItem_tuple_any pl hS p1 p2 p3 h0 (fun ew => ?_) ?_ (by rw [List.size_toArray]; omega)
  · refine ⟨.ref p, H, I, rfl, q _ _ (Same.refl _) ?_⟩
    have e : slV xs lo hi st = xs := by
      rw [List.size_toArray, ← hlen] at ew
      unfold slV
      rw [ew]
      exact slP_whole xs
    rw [e]
    exact hq
  · refine ⟨.ref _, _, I.laid (t' := s.toks) (o := .tup (slV xs lo hi st)) (fun b ob q => Heap.get?_push_of_some _ q) (Nat.le_refl _) ?_, rfl, q _ _ (same_upd (I.hok.fresh (Nat.le_refl _))) (SqT.of upd_same)⟩
    exact ⟨Nat.le_trans (slV_le _ _ _ _ h0) hz, _, by simpa using vals_sl r lo hi st, IsTup.new _ _⟩
/-- o[lo:hi] goes by getItem itself -/
theorem sub_two {prog : Program} {w : World} {A : Around} {E : Value → Shared → Prop} {s : Shared} {K : PySem.W.Frag} {x C L f : Addr} {h₀ : Heap} {m : Str → Option Value} {ox : Obj} {od : Option Obj} {value slice : Expr} {i : Value} {ops : List Value} {Q : Value → Shared → Prop} (FF : Fr h₀ L s.heap m) (X₀ : K.In h₀) (I : PySem.W.InstAt s.heap x ox C od) (hq : PySem.W.noSeq K C = true)
    (hs : PySem.W.findIn K (.ref C) "__getitem__" = some (some (.ref f))) (hf : PySem.W.fnIn K f = true) (hfn : PySem.W.isFn K (.ref f) = true) (h : wpAny (model prog w) A (call (.ref f) [.ref x, i]) Q E s) (hsl : subscripted slice true (.ref x) i = operate ops (getItem (.ref x) i)) :
    wpAny (model prog w) A (subscriptTail value slice (.ref x) i) Q E s := by
  have X := X₀.keeps FF.keep
  have go := PySem.W.getItem_K FF X₀ I hq hs hfn h
  unfold PySem.W.fnIn at hf
  split at hf
  · rename_i e
    unfold subscriptTail getitemInPython
    refine wpAny_bind (wpAny_bind (wpAny_bind (I.type.here ((PySem.W.looks_findIn X hs).here ?_))))
    dsimp only
    refine wpAny_bind (wpAny_load (X _ _ e) (wpAny_pure ?_))
    dsimp only
    rw [hsl]
    refine wpAny_bind (wpAny_operateT (wpAny_mono go (fun v s' z => ?_) fun _ _ z => z))
    show wpAny (model prog w) A (letTemporaryGo value (.ref x) v >>= fun _ => pure v) Q E s'
    exact wpAny_bind (wpAny_letTemporaryGo (wpAny_pure z))
  · cases hf
/-- what an own subscript leans on -/
structure GetO (K : PySem.W.Frag) (C : Addr) : Prop where
  nq : PySem.W.noSeq K C = true
  fi : ∀ f : Addr, PySem.W.findIn K (.ref C) "__getitem__" = some (some (.ref f)) → PySem.W.fnIn K f = true
def rGetO (C : Addr) (sp : Sp) (E : XK) : R2 := fun x y H Q => ∃ a dx fs, x = .ref a ∧ H a = some (.ins C dx fs) ∧ sp [x, y] H Q E
theorem pe_getO {C : Addr} {sp : Sp} {E : XK} {k j : Nat} {ea eb : Expr} {ta tb : TE} {pos : Pos} (c : Met X.prog X.w X.K X.mg X.base k C "__getitem__" sp []) (g : GetO X.K C) (hr : Room j X.A) (hk : k + 1 ≤ j) (hx : Passes (L2.CX X.prog X.w) X E) (he : PE X ea ta) (hb : PE X eb tb)
    (hsl : ∀ v i, subscripted eb true v i = runValue (.builtin "lifetime.subscript" ⟨[v, i], []⟩) := by intros; with_unfolding_all rfl) : PE X (.Subscript ea eb pos) (tOp (rGetO C sp E) ta tb) := by
  obtain ⟨f, fd, ps, ds, hc, hm, F, b, d⟩ := c.ex
  cases d
  refine ⟨fun pins s σ H Q I h => ?_⟩
  refine Subscript_ (binT he hb I h fun v u s2 x y H2 I2 rx ry q => ?_)
  obtain ⟨a, dx, fs, rfl, ha, h⟩ := q
  cases rx
  obtain ⟨mA, J, _⟩ := ins_get I2.hok ha
  obtain ⟨od, J, _⟩ := J.look
  obtain ⟨m, hF⟩ := I2.fr
  refine PySem.W.sub_K hF I2.ok.mod.kin J hm.at_ (g.fi _ hm.at_) hm.fn ?_ (hsl _ _)
  exact run_at (A := X.A.in1) F (hr.mono hk).in1 rfl b hx I2 (us := [.ref a, u]) (vs := [.ref a, y]) (.cons rfl (.cons ry .nil)) h
end
section
variable {X : Cx} {e : Expr} {te : TE} {lo hi st : Option Expr} {tl th tst : TO} {pos p3 : Pos} {C : Addr} {sp : Sp} {E : XK}
/-- o[lo:hi:st], o an instance with its own __getitem__ -/
def tGetS (C : Addr) (sp : Sp) (E : XK) (te : TE) (tl th tst : TO) : TE := fun σ H Q => te σ H fun x H1 => tl σ H1 fun l H2 => th σ H2 fun u H3 => tst σ H3 fun c H4 => ∃ a dx fs, x = .ref a ∧ H4 a = some (.ins C dx fs) ∧ ∀ q, H4 q = none → sp [.ref a, .ref q] (upd H4 q (slO q l u c)) Q E
theorem pe_getS {k j : Nat} (c : Met X.prog X.w X.K X.mg X.base k C "__getitem__" sp []) (g : GetO X.K C) (hr : Room j X.A) (hk : k + 1 ≤ j) (hx : Passes (L2.CX X.prog X.w) X E) (he : PE X e te) (hl : PO X lo tl) (hh : PO X hi th) (hst : PO X st tst)
    (hsl : ∀ v i, subscripted (.Slice lo hi st p3) true v i = runValue (.builtin "lifetime.subscript" ⟨[v, i], []⟩) := by intros; with_unfolding_all rfl) :
    PE X (.Subscript e (.Slice lo hi st p3) pos) (tGetS C sp E te tl th tst) := by
  obtain ⟨f, fd, ps, ds, hc, hm, F, b, d⟩ := c.ex
  cases d
  refine ⟨fun pins s σ H Q I h => ?_⟩
  refine Subscript_ (thn (he.run pins s σ H _ I h) fun v s1 ⟨x, H1, I1, r1, q1⟩ => ?_)
  refine wpAny_Slice (thn (hl.run pins s1 σ H1 _ I1 q1) fun vl s2 ⟨l, H2, I2, pl, q2⟩ => thn (hh.run pins s2 σ H2 _ I2 q2) fun vu s3 ⟨u, H3, I3, pu, q3⟩ => thn (hst.run pins s3 σ H3 _ I3 q3) fun vs s4 ⟨c, H4, I4, ps', q4⟩ => ?_)
  obtain ⟨a, dx, fs, ex, ha, q⟩ := q4
  subst ex
  cases r1
  have free := I4.hok.fresh (Nat.le_refl s4.heap.objs.size)
  have hS : (s4.heap.push { cls := .type "slice", data := .fields #[vl, vu, vs] }).IsSliceOf s4.heap.objs.size vl vu vs := Heap.IsSliceOf.new _ vl vu vs
  have I5 : Inv X pins σ (upd H4 s4.heap.objs.size (slO s4.heap.objs.size l u c)) { s4 with heap := s4.heap.push { cls := .type "slice", data := .fields #[vl, vu, vs] } } :=
    I4.laid (t' := s4.toks) (fun b ob q => Heap.get?_push_of_some _ q) (Nat.le_refl _) ⟨⟨vl, vu, vs, hS, pl, pu, ps'⟩, ⟨_, Heap.get?_push_size _ rfl⟩, fun h1 h2 ⟨a1, a2, a3, ⟨o, b1, b2⟩, c1⟩ k => ⟨a1, a2, a3, ⟨o, k o b1, b2⟩, c1⟩⟩
  have ha5 : upd H4 s4.heap.objs.size (slO s4.heap.objs.size l u c) a = some (.ins C dx fs) := by rw [upd_ne (ne_of_none ha free)]; exact ha
  obtain ⟨mA, J, _⟩ := ins_get I5.hok ha5
  obtain ⟨od, J, _⟩ := J.look
  obtain ⟨m, hF⟩ := I5.fr
  show wpAny (model X.prog X.w) X.A (subscriptTail e (.Slice lo hi st p3) (.ref a) (.ref s4.heap.objs.size)) (EP X pins σ Q) X.xe { s4 with heap := s4.heap.push { cls := .type "slice", data := .fields #[vl, vu, vs] } }
  refine PySem.W.sub_K hF I5.ok.mod.kin J hm.at_ (g.fi _ hm.at_) hm.fn ?_ (hsl _ _)
  exact run_at (A := X.A.in1) F (hr.mono hk).in1 rfl b hx I5 (us := [.ref a, .ref s4.heap.objs.size]) (vs := [.ref a, .ref s4.heap.objs.size]) (.cons rfl (.cons rfl .nil)) (q _ free)
theorem pe_getS2 {k j : Nat} (c : Met X.prog X.w X.K X.mg X.base k C "__getitem__" sp []) (g : GetO X.K C) (hr : Room j X.A) (hk : k ≤ j) (hx : Passes (L2.CX X.prog X.w) X E) (he : PE X e te) (hl : PO X lo tl) (hh : PO X hi th) :
    PE X (.Subscript e (.Slice lo hi none p3) pos) (tGetS C sp E te tl th tNoPart) := by
  obtain ⟨f, fd, ps, ds, hc, hm, F, b, d⟩ := c.ex
  cases d
  refine ⟨fun pins s σ H Q I h => ?_⟩
  refine Subscript_ (thn (he.run pins s σ H _ I h) fun v s1 ⟨x, H1, I1, r1, q1⟩ => ?_)
  refine wpAny_Slice (thn (hl.run pins s1 σ H1 _ I1 q1) fun vl s2 ⟨l, H2, I2, pl, q2⟩ => thn (hh.run pins s2 σ H2 _ I2 q2) fun vu s3 ⟨u, H3, I3, pu, q3⟩ => thn (po_none.run pins s3 σ H3 _ I3 q3) fun vs s4 ⟨c, H4, I4, ps', q4⟩ => ?_)
  obtain ⟨a, dx, fs, ex, ha, q⟩ := q4
  subst ex
  cases r1
  have free := I4.hok.fresh (Nat.le_refl s4.heap.objs.size)
  have hS : (s4.heap.push { cls := .type "slice", data := .fields #[vl, vu, vs] }).IsSliceOf s4.heap.objs.size vl vu vs := Heap.IsSliceOf.new _ vl vu vs
  have I5 : Inv X pins σ (upd H4 s4.heap.objs.size (slO s4.heap.objs.size l u c)) { s4 with heap := s4.heap.push { cls := .type "slice", data := .fields #[vl, vu, vs] } } :=
    I4.laid (t' := s4.toks) (fun b ob q => Heap.get?_push_of_some _ q) (Nat.le_refl _) ⟨⟨vl, vu, vs, hS, pl, pu, ps'⟩, ⟨_, Heap.get?_push_size _ rfl⟩, fun h1 h2 ⟨a1, a2, a3, ⟨o, b1, b2⟩, c1⟩ k => ⟨a1, a2, a3, ⟨o, k o b1, b2⟩, c1⟩⟩
  have ha5 : upd H4 s4.heap.objs.size (slO s4.heap.objs.size l u c) a = some (.ins C dx fs) := by rw [upd_ne (ne_of_none ha free)]; exact ha
  obtain ⟨mA, J, _⟩ := ins_get I5.hok ha5
  obtain ⟨od, J, _⟩ := J.look
  obtain ⟨m, hF⟩ := I5.fr
  show wpAny (model X.prog X.w) X.A (subscriptTail e (.Slice lo hi none p3) (.ref a) (.ref s4.heap.objs.size)) (EP X pins σ Q) X.xe { s4 with heap := s4.heap.push { cls := .type "slice", data := .fields #[vl, vu, vs] } }
  refine sub_two (ops := [.ref s4.heap.objs.size, .ref a]) hF I5.ok.mod.kin J g.nq hm.at_ (g.fi _ hm.at_) hm.fn ?_ (by with_unfolding_all rfl)
  exact run_at (A := X.A) F (hr.mono hk) rfl b hx I5 (us := [.ref a, .ref s4.heap.objs.size]) (vs := [.ref a, .ref s4.heap.objs.size]) (.cons rfl (.cons rfl .nil)) (q _ free)
end
def getOB (x : Str) (K : PySem.W.Frag) : Bool := PySem.W.noSeq K (He.ga K x) && match PySem.W.findIn K (.ref (He.ga K x)) "__getitem__" with
  | some (some (.ref f)) => PySem.W.fnIn K f
  | _ => true
theorem getOB_ok {x : Str} {K : PySem.W.Frag} (h : getOB x K = true) : GetO K (He.ga K x) := by
  obtain ⟨h1, h2⟩ := He.ba h
  refine ⟨h1, fun f e => ?_⟩
  rw [e] at h2
  exact h2
end Tr

/-! # Exceptions of the program's own, whose __init__ says super().__init__(text) first. -/
namespace Tr
open PySem PySem.Spec PyProof.Rows L2
/-- the main module: its file; «super» is not its own name -/
class PMain (P : Program) : Prop where
  file : P.main.file = ("/claim/cut.py" : Str)
  sup : (P.main.scope.names.lookup ("super" : Str)).isSome = false

section
variable {X : Cx} {pins : List (Addr × Obj)} {σ : L2.St} {H : Hp} {s : Shared} {body : List Stmt} {a C f cda cc : Addr} {z : Str} {kd : Nat} {p0 p1 p2 p3 p4 p5 : Pos} {fd : FuncData} {ar : Arg} {vs : Array Value} {tf : Tok} {oc ccl cl : Value} {od cdd cld : Option Addr} {osl ccs csl : Array (Option Value)}
  {Q : Flow → Shared → Prop} {E' : Value → Shared → Prop}
theorem sup_call {u : Addr} {rest : List Value} {Q : Value → Shared → Prop} {A : Around} (T : OexC X.K C) (I : Inv X pins σ H s) (e : H a = some (exo a C none)) (hu : s.heap.get? u = some (PySem.W.kxs_mw "ValueError.__init__" a)) (hz : rest.length ≤ sizeLine)
    (hq : ∀ s', Inv X pins σ H s' → Q .none s') : wpAny (model X.prog X.w) A (call (.ref u) rest) Q E' s := by
  obtain ⟨nm, q, N, bs, bm, sn, sub, ab, col, dd, k0, k1, k2, k3, k5, hC, hbm⟩ := T.cls
  obtain ⟨t1, he⟩ := exo_at I.hok e
  have hC' := I.kIn _ _ hC
  obtain ⟨hp, g, d, tk, os⟩ := s
  refine wpAny_call (codeAny_of_tree ?_)
  show wpAny _ A.in1 (callAny (.ref u) ⟨rest, []⟩) _ _ _
  simp only [callAny]
  refine wpAny_bind (wpAny_load hu ?_)
  simp only [PySem.W.kxs_mw, show (Value.type "method-wrapper" == Value.type "method" || Value.type "method-wrapper" == Value.type "builtin_function_or_method" || Value.type "method-wrapper" == Value.type "method-wrapper") = true by decide, if_true]
  refine PySem.W.KFB.if_so (by decide) ?_
  refine wpAny_bind (PySem.W.check_bound_init F.excBase_ValueError.toExcCallFacts hC' he rfl ?_)
  refine wpAny_bind (wpAny_pure (wpAny_pure ?_))
  refine ⟨plainId_quiet F.excBase_ValueError.init.plain _, codeAny_builtin F.excBase_ValueError.initEntry ?_⟩
  refine PySem.W.exc_init_tree (cls := .ref C) (t0 := t1) (dv := none) (c2 := .none) (c3 := .none) (b4 := .bool false) he hz fun h' k hx _ => ?_
  have J := I.write (t' := tk) (x := a) (e := a) (o := exo a C none) (by rw [e]; exact True.intro) (.inl rfl) k ⟨_, hx⟩ (exo_ok hx)
  have eu : upd H a (exo a C none) = H := by
    funext b
    by_cases hb : b = a
    · rw [hb, upd_same, e]
    · rw [upd_ne hb]
  rw [eu] at J
  exact hq _ J

theorem sup_ok (I : Inv X pins σ H s) [PM : PMain X.prog] (T : OexC X.K C) (e : H a = some (exo a C none)) (h0 : σ[0]? = some (some (.ref a))) (hN0 : X.N[0]? = some ("self" : Str)) (hself : X.env.scope.names.lookup ("self" : Str) = some .local)
    (hfu : X.env.func = some f) (lk : X.K.lookup f = some ⟨oc, od, .func fd, osl⟩) (hp : (fd.params.posonlyargs ++ fd.params.args).head? = some ar) (har : ar.arg = ("self" : Str))
    (hco : X.env.code = .ref cda) (hcode : X.K.lookup cda = some ⟨ccl, cdd, .fields vs, ccs⟩) (hvs : vs[2]? = some (.str "/claim/cut.py" tf))
    (hks : X.env.scope.names.lookup ("super" : Str) = some .globalImplicit) (hkc : X.env.scope.names.lookup ("__class__" : Str) = some .free) (hcl : X.env.cells.lookup ("__class__" : Str) = some cc) (hcell : X.K.lookup cc = some ⟨cl, cld, .cell (some (.ref C)), csl⟩)
    (hsuper : X.mg "super" = none) (ho : PySem.W.nsIn X.K cStatics "thirdparty.any" = some none) (hm : PySem.W.ks_superIn X.K C C "__init__" = some (some (.builtin "ValueError.__init__")))
    (hsub : PySem.W.mroIn X.K C (.ref C) = some true) (hB : PySem.W.subIn X.K (.ref C) (.type "ValueError") = some true)
    (hi : interactive X.env = false) (hs : swapsWith (.Call (.Attribute (.Call (.Name "super" p0) [] [] p1) "__init__" p2) [.Constant (.str z) kd p5] [] p3) none p4.line X.env = pure false)
    {pl : Sem Bool} (hev : eval (.Call (.Attribute (.Call (.Name "super" p0) [] [] p1) "__init__" p2) [.Constant (.str z) kd p5] [] p3) X.env = (do
      let ov ← attributeBase (.Call (.Name "super" p0) [] [] p1) "__init__" X.env (eval (.Call (.Name "super" p0) [] [] p1) X.env)
      standAt p2.atName
      let (f, first) ← holding [ov] (getMethod ov "__init__" pl)
      callWith p3 f first (backTo p3 (starEach [.Constant (.str z) kd p5] X.env)) []))
    (hq : ∀ s', Inv X pins σ H s' → Q .next s') :
    PySem.wpAt (model X.prog X.w) X.A (.func body X.env) (exec (.Expr (.Call (.Attribute (.Call (.Name "super" p0) [] [] p1) "__init__" p2) [.Constant (.str z) kd p5] [] p3) p4) X.env) Q E' s := by
  refine ks_wpAt_Expr_any ?_ hi hs
  refine ks_wpAt_MethodCall (pl := pl) ?_ hev
  refine ks_wpAt_super_base (attr := "__init__") (body := body) hks hkc (by decide) hfu (I.kIn _ _ lk) rfl hp hco (I.kIn _ _ hcode) rfl hvs (by rw [PM.file]; decide) PM.sup ?_
  obtain ⟨mb, h1, h2⟩ := I.mod.blt
  refine PySem.W.ks_loadName_global I.ok.kind hks (Calls.loadGlobal_builtin (by rw [I.ok.glob]; exact I.mod.glob.keeps I.bk) hsuper (by rw [I.ok.blt]; exact h1.keeps I.bk) ((h2 "super" (by decide)).trans PyProof.Rows.Boot.super) ⟨rfl, ?_⟩)
  refine wpAny_loadName_free I.ok.kind hkc hcl ⟨_, I.kIn _ _ hcell, rfl⟩ ?_
  obtain ⟨m, hn, hl⟩ := I.loc
  obtain ⟨u, r, l⟩ := hl 0 _ (.ref a) hN0 h0 (.inl hself)
  obtain rfl : u = Value.ref a := r
  have hv : m ("self" : Str) = some (.ref a) := by
    rcases l with ⟨_, z⟩ | ⟨z, _⟩
    · exact z
    · have z' : X.env.scope.names.lookup ("self" : Str) = some .cell ∨ X.env.scope.names.lookup ("self" : Str) = some .free := z
      rw [hself] at z'
      rcases z' with z' | z' <;> cases z'
  rw [har]
  refine wpAny_loadName_local I.ok.kind hself hn hv ?_
  obtain ⟨nm, q, N, bs, bm, sn, sub, ab, col, dd, k0, k1, k2, k3, k5, hC, hbm⟩ := T.cls
  have hcd : PySem.W.clsIn X.K C = some { name := nm, bases := bs, mro := .ref C :: bm, ns := N, qualname := q, hasDict := true, slotNames := sn, subclasses := sub, abstract := ab, collection := col, hasDel := false } := by unfold PySem.W.clsIn; rw [hC] <;> rfl
  have hC' := I.kIn _ _ hC
  obtain ⟨t1, he⟩ := exo_at I.hok e
  obtain ⟨hp0, g, d, tk, os⟩ := s
  refine ks_wpAny_isType_cls hC' rfl ⟨rfl, ?_⟩
  refine ks_wpAny_call_super hC' rfl he rfl (fun c z => by cases z) (PySem.W.looks_mroIn I.kIn hsub) (fun h1 es k => ?_)
  have I1 : Inv X pins σ H ⟨h1, g, d, tk, os⟩ := I.kept (t' := tk) k
  obtain ⟨t2, he1⟩ := exo_at I1.hok e
  have hxC : a ≠ C := fun y => by
    have hC1 := I1.kIn _ _ hC
    rw [← y] at hC1
    have w := hC1.symm.trans he1
    cases w
  unfold PySem.W.ks_superIn at hm
  rw [hcd] at hm
  have IA : PySem.W.InstAt h1 a { cls := .ref C, dict := none, data := .fields #[.ref t2, .none, .none, .none, .bool false, .none] } C none := ⟨he1, rfl, rfl, trivial⟩
  refine PySem.W.kxs_getMethod PySem.W.kxs_ValueError es (PySem.W.looks_opaque I1.kIn ho) (l₀ := .ref C :: bm) (fun A Q E s k q => wpAny_bind ((PySem.W.looks_clsIn I1.kIn hcd) A _ E s k (wpAny_pure q))) rfl I1.kIn hm (IA.type.andThen (PySem.W.looks_subIn I1.kIn hB)) hxC (by decide) ?_
  have I2 : Inv X pins σ H ⟨h1.push (PySem.W.kxs_mw "ValueError.__init__" a), g, d, tk + 1, os⟩ := I1.kept (t' := tk + 1) fun b o e => Heap.get?_push_of_some _ e
  have hu : (h1.push (PySem.W.kxs_mw "ValueError.__init__" a)).get? h1.objs.size = some (PySem.W.kxs_mw "ValueError.__init__" a) := Heap.get?_push_at rfl rfl
  refine PySem.W.kxs_callWith (i := "ValueError.__init__") (x := a) (by rfl) ?_
  have est : starEach [Expr.Constant (.str z) kd p5] X.env = (false, eval (.Constant (.str z) kd p5) X.env) :: starEach [] X.env := by rfl
  rw [est]
  refine Calls.evalArgs_plain ?_
  show wpAny _ _ (spliced ((false, eval (.Constant (.str z) kd p5) X.env) :: [])) _ _ _
  refine Calls.spliced_cons (Calls.Constant_str (Calls.spliced_nil ⟨hu, ?_⟩))
  exact sup_call T (I2.tok _) e hu (by rw [sizeLine_eq]; exact (by decide : 1 ≤ 16777216)) hq
end
abbrev exPs (fs : List Str) : List Str := "self" :: fs
abbrev exNs (fs : List Str) : List Str := exPs fs ++ [("__class__" : Str)]
abbrev exF (qual : Str) (st : Stmt) (cc cda : Addr) : NdefX.NF := ⟨"__init__", qual, defArgs st, defBody st, defScope st, [("__class__", cc)], cda⟩
/-- what the top has left of an own exception's class: its __init__ (a def with the cell of __class__), its fields' names -/
structure Exn (K : PySem.W.Frag) (mg : Str → Option Value) (x : Str) (C : Addr) (qual : Str) (st : Stmt) (fs : List Str) : Prop where
  oex : OexC K C
  glo : mg x = some (.ref C)
  sup : mg "super" = none
  fn : ∃ (f cc cda : Addr) (kV doc pm ct oc ccl cl : Value) (an od cdd cld : Option Addr) (osl ccs csl : Array (Option Value)) (vs : Array Value) (tf : Tok), PySem.W.findIn K (.ref C) "__init__" = some (some (.ref f)) ∧ PySem.W.typeIn K (.ref f) = some (.type "function") ∧
    K.lookup f = some ⟨oc, od, .func (PySem.W.fnX "__init__" qual (defArgs st) (defBody st) (defScope st) [("__class__", cc)] .none kV doc pm an (.ref cda) ct), osl⟩ ∧ PySem.W.codeIn K (.ref cda) qual = true ∧
    K.lookup cda = some ⟨ccl, cdd, .fields vs, ccs⟩ ∧ vs[2]? = some (.str "/claim/cut.py" tf) ∧ K.lookup cc = some ⟨cl, cld, .cell (some (.ref C)), csl⟩
  any : PySem.W.nsIn K cStatics "thirdparty.any" = some none
  up : PySem.W.ks_superIn K C C "__init__" = some (some (.builtin "ValueError.__init__"))
  sub : PySem.W.mroIn K C (.ref C) = some true
  ve : PySem.W.subIn K (.ref C) (.type "ValueError") = some true
  no : ∀ f ∈ fs, PySem.W.findIn K (.ref C) f = some none
  xf : XfC K C
/-- an own exception that may be made: sp its __init__ -/
structure Exm (P : Program) (w : World) (K : PySem.W.Frag) (mg : Str → Option Value) (base : Heap) (k : Nat) (x : Str) (C : Addr) (sp : Sp) : Prop where
  ex : ∃ (f : Addr) (fd : FuncData) (ps : List Str), OexC K C ∧ mg x = some (.ref C) ∧ PySem.W.findIn K (.ref C) "__init__" = some (some (.ref f)) ∧ PySem.W.typeIn K (.ref f) = some (.type "function") ∧ FnOk P w K mg base (L2.CX P w) k f fd ps sp ∧ Binds K fd ps []
theorem Exm.mono {P : Program} {w : World} {K : PySem.W.Frag} {mg : Str → Option Value} {base : Heap} {j k : Nat} {x : Str} {C : Addr} {sp : Sp} (c : Exm P w K mg base j x C sp) (h : j ≤ k) : Exm P w K mg base k x C sp :=
  let ⟨f, fd, ps, a, b, d, e, F, r⟩ := c.ex
  ⟨f, fd, ps, a, b, d, e, F.mono h, r⟩

section
variable {P : Program} [PM : PMain P] {w : World} {K : PySem.W.Frag} {mg : Str → Option Value} {base : Heap}
theorem exn_fn {x qual : Str} {C : Addr} {st : Stmt} {fs : List Str} {rest : List Stmt} {k : Nat} {sp : Sp} {ar : Arg} {z : Str} {kd : Nat} {p0 p1 p2 p3 p4 p5 : Pos} (D : Exn K mg x C qual st fs) (S : NdefX.NScope (exNs fs) (exPs fs) ["__class__"] (defScope st))
    (hbody : defBody st = .Expr (.Call (.Attribute (.Call (.Name "super" p0) [] [] p1) "__init__" p2) [.Constant (.str z) kd p5] [] p3) p4 :: rest)
    (hp : ((defArgs st).posonlyargs ++ (defArgs st).args).head? = some ar) (har : ar.arg = ("self" : Str)) (hks : (defScope st).names.lookup ("super" : Str) = some .globalImplicit)
    (hb : ∀ (kV doc pm : Value) (an : Option Addr) (cdv ct : Value) (cc : Addr) (us : List Value), us.length = (exPs fs).length → bindArgs (PySem.W.fnX "__init__" qual (defArgs st) (defBody st) (defScope st) [("__class__", cc)] .none kV doc pm an cdv ct) ⟨us, []⟩ = pure ((exPs fs).zip us))
    (hi : ∀ cc cda f L, interactive (NdefX.envF (exF qual st cc cda) f L) = false)
    (hev : ∀ cc cda f L, ∃ pl : Sem Bool, eval (.Call (.Attribute (.Call (.Name "super" p0) [] [] p1) "__init__" p2) [.Constant (.str z) kd p5] [] p3) (NdefX.envF (exF qual st cc cda) f L) = (do
      let ov ← attributeBase (.Call (.Name "super" p0) [] [] p1) "__init__" (NdefX.envF (exF qual st cc cda) f L) (eval (.Call (.Name "super" p0) [] [] p1) (NdefX.envF (exF qual st cc cda) f L))
      standAt p2.atName
      let (g, first) ← holding [ov] (getMethod ov "__init__" pl)
      callWith p3 g first (backTo p3 (starEach [.Constant (.str z) kd p5] (NdefX.envF (exF qual st cc cda) f L))) []))
    (len : ∀ vs H Q E, sp vs H Q E → ∃ a ws, vs = .ref a :: ws ∧ ws.length = fs.length ∧ H a = some (exo a C none))
    (hr : ∀ (cc cda f : Addr) (A : Around) (outer : List Env) (s : Shared) (H : Hp) (vs : List V) (Q : VK) (E : XK), sp vs H Q E →
      ∃ t, PSs (NdefX.ncx (L2.CX P w) P w K mg base (exNs fs) (exF qual st cc cda) f A outer s H E) rest t ∧ t { nx := fun _ H' => Q .non H', rt := Q } (NdefX.startF (exNs fs) vs [none]) H) : Exm P w K mg base (k + 1) x C sp := by
  obtain ⟨f, cc, cda, kV, doc, pm, ct, oc, ccl, cl, an, od, cdd, cld, osl, ccs, csl, cvs, tf, iC, tI, lk, hcd, hcode, hvs, hcell⟩ := D.fn
  refine ⟨f, PySem.W.fnX "__init__" qual (defArgs st) (defBody st) (defScope st) [("__class__", cc)] .none kV doc pm an (.ref cda) ct, exPs fs, D.oex, D.glo, iC, tI, ⟨fun vs H Q E h => ?_, fun A outer s H args us vs Q E hr0 e0 hbi r hsp => ?_⟩, Binds.all (hb kV doc pm an _ ct cc)⟩
  · obtain ⟨a, ws, rfl, h2, _⟩ := len _ _ _ _ h
    rw [List.length_cons, List.length_cons, h2]
  obtain ⟨a, ws, rfl, hwl, hea⟩ := len _ _ _ _ hsp
  have hl : (V.ref a :: ws).length = (exPs fs).length := by rw [List.length_cons, List.length_cons, hwl]
  have KX : K.In s.heap := e0.mod.kin.keeps fun b o e => (e0.bs b o e).1
  have lim : s.heap.NoLimit := e0.mod.nolimit.keeps fun b o e => (e0.bs b o e).1
  have hCn : H cc = none := (e0.bs cc _ (e0.mod.kin _ _ hcell)).2
  refine ks_codeAny_call_defAt (body := defBody st) (binds := (exPs fs).zip us) hr0.depth (KX _ _ lk) rfl lim (PySem.W.codeRec_of KX hcd) rfl hbi S.nocell (fun ⟨n, _⟩ hy => S.par n (List.of_mem_zip hy).1) (fun h₁ hns kp => ?_) S.co S.gen S.kind
  have CA : NdefX.CellsAt [("__class__", cc)] ["__class__"] [none] s.heap H := by
    have hx : ∀ (y : Str) (c : Addr), [(("__class__" : Str), cc)].lookup y = some c → c = cc := fun y c e => by
      simp only [List.lookup] at e
      split at e
      · exact (Option.some.inj e).symm
      · cases e
    refine ⟨rfl, fun y c e => ?_, fun x y c e1 e2 => ?_, fun i y e => ?_⟩
    · obtain rfl := hx y c e
      exact ⟨hCn, _, _, KX _ _ hcell, rfl⟩
    · have q : ∀ (y : Str) (c : Addr), [(("__class__" : Str), cc)].lookup y = some c → y = "__class__" := fun y c e => by
        simp only [List.lookup] at e
        split at e
        · rename_i hb
          exact eq_of_beq hb
        · cases e
      rw [q x c e1, q y c e2]
    · cases i with
      | zero =>
        obtain rfl := Option.some.inj (show some (("__class__" : Str)) = some y from e)
        refine ⟨cc, by rfl, fun v hv => ?_⟩
        have hv : some (none : Option V) = some (some v) := hv
        cases hv
      | succ i => cases (show (none : Option Str) = some y from e)
  have I := NdefX.inv_startN (CX := L2.CX P w) (E := E) (f := f) (tk := s.toks + ((exPs fs).zip us).length) (F := exF qual st cc cda) S hr0.hd e0 hl r CA hns kp
  obtain ⟨t, ht, hq⟩ := hr cc cda f A outer s H _ Q E hsp
  have fin : ∀ {σ' : L2.St} {H' : Hp} {v : V} {u : Value} {s' : Shared}, Inv (NdefX.ncx (L2.CX P w) P w K mg base (exNs fs) (exF qual st cc cda) f A outer s H E) [] σ' H' s' → L2.RelV v u → Q v H' → CE outer P w H s Q u s' :=
    fun {σ' H' v u s'} J rv q => ⟨v, H', J.os, J.bare, J.base, J.hok, rv, q⟩
  have key : ∀ b, b = defBody st → PySem.wpAt (model P w) (A.deeper (NdefX.envF (exF qual st cc cda) f s.heap.objs.size)) (.func b (NdefX.envF (exF qual st cc cda) f s.heap.objs.size)) (execs b (NdefX.envF (exF qual st cc cda) f s.heap.objs.size))
      (fun fl s' => CR (L2.CX P w) outer P w H s Q E (.ok (.ret (match fl with | .ret v => v | _ => .none))) s') (NdefX.ncx (L2.CX P w) P w K mg base (exNs fs) (exF qual st cc cda) f A outer s H E).xe { s with heap := h₁, toks := s.toks + ((exPs fs).zip us).length } := by
    intro b hbb
    rw [hbody] at hbb
    subst hbb
    refine ks_wpAt_execs_cons ?_
    obtain ⟨pl, hpl⟩ := hev cc cda f s.heap.objs.size
    refine sup_ok (PM := PM) (X := NdefX.ncx (L2.CX P w) P w K mg base (exNs fs) (exF qual st cc cda) f A outer s H E) (a := a) (C := C) (f := f) (cda := cda) (cc := cc) (ar := ar) I D.oex hea (by rfl) (by rfl) (S.par _ (List.mem_cons_self ..)) rfl lk hp har rfl hcode hvs hks (S.frk _ (List.mem_cons_self ..)) rfl hcell D.sup D.any D.up D.sub D.ve (hi ..) (by rfl) hpl fun s' J => ?_
    refine wpAt_of_wpAny (wpAny_mono (ht.run [] _ _ H _ J hq) (fun fl s' hs => ?_) fun e s' hs => hs)
    cases fl with
    | ret u =>
      obtain ⟨v, σ', H', J, rv, q⟩ := hs
      exact fin J rv q
    | next =>
      obtain ⟨σ', H', J, q⟩ := hs
      exact fin (v := V.non) (u := Value.none) J rfl q
    | brk =>
      obtain ⟨_, _, _, q⟩ := hs
      exact False.elim q
    | cont =>
      obtain ⟨_, _, _, q⟩ := hs
      exact False.elim q
  exact key _ rfl
end
/-- what the text has of such an __init__ -/
structure ExS (qual : Str) (st : Stmt) (fs : List Str) (rest : List Stmt) : Prop where
  S : NdefX.NScope (exNs fs) (exPs fs) ["__class__"] (defScope st)
  body : ∃ (z : Str) (kd : Nat) (p0 p1 p2 p3 p4 p5 : Pos), defBody st = .Expr (.Call (.Attribute (.Call (.Name "super" p0) [] [] p1) "__init__" p2) [.Constant (.str z) kd p5] [] p3) p4 :: rest ∧
    (∀ cc cda f L, interactive (NdefX.envF (exF qual st cc cda) f L) = false) ∧
    (∀ cc cda f L, ∃ pl : Sem Bool, eval (.Call (.Attribute (.Call (.Name "super" p0) [] [] p1) "__init__" p2) [.Constant (.str z) kd p5] [] p3) (NdefX.envF (exF qual st cc cda) f L) = (do
      let ov ← attributeBase (.Call (.Name "super" p0) [] [] p1) "__init__" (NdefX.envF (exF qual st cc cda) f L) (eval (.Call (.Name "super" p0) [] [] p1) (NdefX.envF (exF qual st cc cda) f L))
      standAt p2.atName
      let (g, first) ← holding [ov] (getMethod ov "__init__" pl)
      callWith p3 g first (backTo p3 (starEach [.Constant (.str z) kd p5] (NdefX.envF (exF qual st cc cda) f L))) []))
  ar : ∃ ar, ((defArgs st).posonlyargs ++ (defArgs st).args).head? = some ar ∧ ar.arg = ("self" : Str)
  ks : (defScope st).names.lookup ("super" : Str) = some .globalImplicit
  bind : ∀ (kV doc pm : Value) (an : Option Addr) (cdv ct : Value) (cc : Addr) (us : List Value), us.length = (exPs fs).length → bindArgs (PySem.W.fnX "__init__" qual (defArgs st) (defBody st) (defScope st) [("__class__", cc)] .none kV doc pm an cdv ct) ⟨us, []⟩ = pure ((exPs fs).zip us)
/-- the exception at a with its dict at dx -/
def exH (H : Hp) (a C dx : Addr) (l : List (Str × V)) : Hp := upd (upd H dx (exd dx l)) a (exo a C (some dx))
/-- what such an __init__ does -/
def spE (C : Addr) (fs : List Str) : Sp := fun vs H Q _ => ∃ a ws, vs = .ref a :: ws ∧ ws.length = fs.length ∧ H a = some (exo a C none) ∧ (fs = [] → Q .non H) ∧ (fs ≠ [] → ∀ dx, H dx = none → dx ≠ a → Q .non (exH H a C dx (fs.zip ws).reverse))
theorem exH_next {H : Hp} {a C dx : Addr} {l l' : List (Str × V)} (h : dx ≠ a) : upd (exH H a C dx l) dx (exd dx l') = exH H a C dx l' := by
  funext b
  unfold exH upd
  by_cases h1 : b = dx
  · subst h1
    rw [if_pos rfl, if_neg h, if_pos rfl]
  · rw [if_neg h1]
    by_cases h2 : b = a
    · rw [if_pos h2, if_pos h2]
    · rw [if_neg h2, if_neg h2, if_neg h1, if_neg h1]
section
variable {P : Program} [PM : PMain P] {w : World} {K : PySem.W.Frag} {mg : Str → Option Value} {base : Heap} {k : Nat} {x qual : Str} {C : Addr} {st : Stmt} {f1 f2 f3 : Str} {q1 q2 q3 q4 q5 q6 q7 q8 q9 q10 q11 q12 : Pos} {rest : List Stmt}
theorem exn0 (D : Exn K mg x C qual st []) (W : ExS qual st [] []) : Exm P w K mg base (k + 1) x C (spE C []) := by
  obtain ⟨z, kd, p0, p1, p2, p3, p4, p5, hb, hi, hev⟩ := W.body
  obtain ⟨ar, hp, har⟩ := W.ar
  refine exn_fn D W.S hb hp har W.ks W.bind hi hev (fun vs H Q E ⟨a, ws, e1, e2, e3, _⟩ => ⟨a, ws, e1, e2, e3⟩) fun cc cda f A outer s H vs Q E h => ?_
  obtain ⟨a, ws, e1, e2, e3, e4, _⟩ := h
  exact ⟨_, pss_nil, e4 rfl⟩
theorem exn1 (D : Exn K mg x C qual st [f1]) (W : ExS qual st [f1] rest) (hr : rest = [.Assign [.Attribute (.Name "self" q1) f1 q2] (.Name f1 q3) q4] := by rfl) (hd : (f1 == ("__debug__" : Str)) = false := by decide) (hc : (f1 == ("__classdict__" : Str)) = false := by decide) : Exm P w K mg base (k + 1) x C (spE C [f1]) := by
  subst hr
  obtain ⟨z, kd, p0, p1, p2, p3, p4, p5, hb, hi, hev⟩ := W.body
  obtain ⟨ar, hp, har⟩ := W.ar
  refine exn_fn D W.S hb hp har W.ks W.bind hi hev (fun vs H Q E ⟨a, ws, e1, e2, e3, _⟩ => ⟨a, ws, e1, e2, e3⟩) fun cc cda f A outer s H vs Q E h => ?_
  obtain ⟨a, ws, e1, e2, e3, _, e4⟩ := h
  subst e1
  obtain ⟨y, rfl⟩ : ∃ y, ws = [y] := by
    match ws, e2 with
    | [y], _ => exact ⟨y, rfl⟩
  refine ⟨_, pss_one (ps_ost (pe_var (i := 0) rfl (.inl (W.S.par _ (by simp)))) (pe_var (i := 1) rfl (.inl (W.S.par _ (by simp))) hd hc)), ?_⟩
  exact ⟨y, rfl, .ref a, rfl, a, C, rfl, D.oex, D.no _ (by simp), .inl ⟨e3, fun dx h1 h2 => e4 (by simp) dx h1 h2⟩⟩
theorem exn2 (D : Exn K mg x C qual st [f1, f2]) (W : ExS qual st [f1, f2] rest) (hr : rest = [.Assign [.Attribute (.Name "self" q1) f1 q2] (.Name f1 q3) q4, .Assign [.Attribute (.Name "self" q5) f2 q6] (.Name f2 q7) q8] := by rfl)
    (hd : (f1 == ("__debug__" : Str)) = false := by decide) (hc : (f1 == ("__classdict__" : Str)) = false := by decide) (hd2 : (f2 == ("__debug__" : Str)) = false := by decide) (hc2 : (f2 == ("__classdict__" : Str)) = false := by decide) : Exm P w K mg base (k + 1) x C (spE C [f1, f2]) := by
  subst hr
  obtain ⟨z, kd, p0, p1, p2, p3, p4, p5, hb, hi, hev⟩ := W.body
  obtain ⟨ar, hp, har⟩ := W.ar
  refine exn_fn D W.S hb hp har W.ks W.bind hi hev (fun vs H Q E ⟨a, ws, e1, e2, e3, _⟩ => ⟨a, ws, e1, e2, e3⟩) fun cc cda f A outer s H vs Q E h => ?_
  obtain ⟨a, ws, e1, e2, e3, _, e4⟩ := h
  subst e1
  obtain ⟨y1, y2, rfl⟩ : ∃ y1 y2, ws = [y1, y2] := by
    match ws, e2 with
    | [y1, y2], _ => exact ⟨y1, y2, rfl⟩
  refine ⟨_, pss_cons (ps_ost (pe_var (i := 0) rfl (.inl (W.S.par _ (by simp)))) (pe_var (i := 1) rfl (.inl (W.S.par _ (by simp))) hd hc)) (pss_one (ps_ost (pe_var (i := 0) rfl (.inl (W.S.par _ (by simp)))) (pe_var (i := 2) rfl (.inl (W.S.par _ (by simp))) hd2 hc2))), ?_⟩
  refine ⟨y1, rfl, .ref a, rfl, a, C, rfl, D.oex, D.no _ (by simp), .inl ⟨e3, fun dx h1 h2 => ?_⟩⟩
  refine ⟨y2, rfl, .ref a, rfl, a, C, rfl, D.oex, D.no _ (by simp), .inr ⟨dx, [(f1, y1)], upd_same, (upd_ne h2).trans upd_same, by simp, ?_⟩⟩
  have e := e4 (by simp) dx h1 h2
  rw [← exH_next (l := [(f1, y1)]) h2] at e
  exact e
theorem exn3 (D : Exn K mg x C qual st [f1, f2, f3]) (W : ExS qual st [f1, f2, f3] rest) (hr : rest = [.Assign [.Attribute (.Name "self" q1) f1 q2] (.Name f1 q3) q4, .Assign [.Attribute (.Name "self" q5) f2 q6] (.Name f2 q7) q8, .Assign [.Attribute (.Name "self" q9) f3 q10] (.Name f3 q11) q12] := by rfl)
    (hd : (f1 == ("__debug__" : Str)) = false := by decide) (hc : (f1 == ("__classdict__" : Str)) = false := by decide) (hd2 : (f2 == ("__debug__" : Str)) = false := by decide) (hc2 : (f2 == ("__classdict__" : Str)) = false := by decide)
    (hd3 : (f3 == ("__debug__" : Str)) = false := by decide) (hc3 : (f3 == ("__classdict__" : Str)) = false := by decide) : Exm P w K mg base (k + 1) x C (spE C [f1, f2, f3]) := by
  subst hr
  obtain ⟨z, kd, p0, p1, p2, p3, p4, p5, hb, hi, hev⟩ := W.body
  obtain ⟨ar, hp, har⟩ := W.ar
  refine exn_fn D W.S hb hp har W.ks W.bind hi hev (fun vs H Q E ⟨a, ws, e1, e2, e3, _⟩ => ⟨a, ws, e1, e2, e3⟩) fun cc cda f A outer s H vs Q E h => ?_
  obtain ⟨a, ws, e1, e2, e3, _, e4⟩ := h
  subst e1
  obtain ⟨y1, y2, y3, rfl⟩ : ∃ y1 y2 y3, ws = [y1, y2, y3] := by
    match ws, e2 with
    | [y1, y2, y3], _ => exact ⟨y1, y2, y3, rfl⟩
  refine ⟨_, pss_cons (ps_ost (pe_var (i := 0) rfl (.inl (W.S.par _ (by simp)))) (pe_var (i := 1) rfl (.inl (W.S.par _ (by simp))) hd hc)) (pss_cons (ps_ost (pe_var (i := 0) rfl (.inl (W.S.par _ (by simp)))) (pe_var (i := 2) rfl (.inl (W.S.par _ (by simp))) hd2 hc2))
    (pss_one (ps_ost (pe_var (i := 0) rfl (.inl (W.S.par _ (by simp)))) (pe_var (i := 3) rfl (.inl (W.S.par _ (by simp))) hd3 hc3)))), ?_⟩
  refine ⟨y1, rfl, .ref a, rfl, a, C, rfl, D.oex, D.no _ (by simp), .inl ⟨e3, fun dx h1 h2 => ?_⟩⟩
  refine ⟨y2, rfl, .ref a, rfl, a, C, rfl, D.oex, D.no _ (by simp), .inr ⟨dx, [(f1, y1)], upd_same, (upd_ne h2).trans upd_same, by simp, ?_⟩⟩
  rw [show upd (upd (upd H dx (exd dx [(f1, y1)])) a (exo a C (some dx))) dx (exd dx [(f2, y2), (f1, y1)]) = exH H a C dx [(f2, y2), (f1, y1)] from exH_next (l := [(f1, y1)]) h2]
  refine ⟨y3, rfl, .ref a, rfl, a, C, rfl, D.oex, D.no _ (by simp), .inr ⟨dx, [(f2, y2), (f1, y1)], upd_same, (upd_ne h2).trans upd_same, by simp, ?_⟩⟩
  have e := e4 (by simp) dx h1 h2
  rw [← exH_next (l := [(f2, y2), (f1, y1)]) h2] at e
  exact e
end
/-! ### C(e, ..) made to be raised -/
/-- a reading that may be weakened -/
def taW (ta : TA) : TA := fun σ H P => ∃ P0 : List V → Hp → Prop, ta σ H P0 ∧ ∀ vs H1, P0 vs H1 → P vs H1
theorem pa_w {X : Cx} {es : List Expr} {ta : TA} (ha : PA X es ta) : PA X es (taW ta) := ⟨fun pos pins s σ H Q I ⟨P0, h, hp⟩ => thn (ha.run pos pins s σ H P0 I h) fun us s' ⟨vs, H', J, r, q⟩ => ⟨vs, H', J, r, hp _ _ q⟩⟩
/-- C(e, ..), C an own exception with the fields fs: its dict has them -/
def tExn (C : Addr) (fs : List Str) (ta : TA) : L2.St → Hp → XK → Prop := fun σ H Q => ta σ H fun vs H1 => vs.length = fs.length ∧ ∀ d, H1 d = none → Q (.ref C) (some d) (upd H1 d (.xd (fs.zip vs).reverse))
def tExn0 (C : Addr) : L2.St → Hp → XK → Prop := fun _ H Q => Q (.ref C) none H
theorem exH_end {H : Hp} {a C d : Addr} {l : List (Str × V)} (ha : H a = none) (hd : d ≠ a) : upd (del (exH (upd H a (exo a C none)) a C d l) a) d (.xd l) = upd H d (.xd l) := by
  funext b
  unfold exH upd del
  by_cases h1 : b = d
  · rw [if_pos h1, if_pos h1]
  · rw [if_neg h1, if_neg h1]
    by_cases h2 : b = a
    · rw [h2, ha]
      exact if_pos rfl
    · show (if b = a then none else _) = _
      rw [if_neg h2]
      show (if b = a then _ else if b = d then _ else if b = a then _ else H b) = _
      rw [if_neg h2, if_neg h1, if_neg h2]
section
variable {X : Cx} {e : Expr} {es : List Expr} {ta : TA} {p pos : Pos} {x : Str} {C : Addr} {k j : Nat} {fs : List Str}
theorem pmk_exn (c : Exm X.prog X.w X.K X.mg X.base k x C (spE C fs)) (hr : Room j X.A) (hk : k + 1 ≤ j) (hg : Gl X x) (ha : PA X (e :: es) ta) (hn : fs ≠ []) (hn2 : fs.length ≤ 1000 := by decide)
    (hdb : (x == ("__debug__" : Str)) = false := by decide) (he : starEach (e :: es) X.env = (false, eval e X.env) :: starEach es X.env := by rfl) (hpl : (backTo pos (starEach es X.env)).any (·.1) = false := by rfl) :
    PMk X (.Call (.Name x p) (e :: es) [] pos) (tExn C fs ta) := by
  obtain ⟨f, fd, ps, T, hm, iC, tI, F, b⟩ := c.ex
  intro pins s σ H Q I h
  refine pmk_oex T iC tI F (hr.mono hk) b .nil (fun pins σ H s e s' I hq => ?_) hg hm (pa_w ha) hdb he hpl pins s σ H Q I ?_
  · obtain ⟨_, _, _, _, _, _, _, _, _, _, _, _, z⟩ := hq
    exact z.elim
  · refine ⟨_, h, fun vs H1 ⟨hl, q⟩ => ⟨by omega, fun a ha => ?_⟩⟩
    rw [List.append_nil]
    refine ⟨a, vs, rfl, hl, upd_same, fun z => absurd z hn, fun _ dx h1 h2 => ⟨rfl, dx, (fs.zip vs).reverse, upd_same, (upd_ne h2).trans upd_same, ?_, ?_⟩⟩
    · rw [upd_ne h2] at h1
      exact h1
    · rw [exH_end ha h2]
      rw [upd_ne h2] at h1
      exact q dx h1
end
section
variable {X : Cx} {p pos : Pos} {x : Str} {C : Addr} {k j : Nat}
/-- the end of C(), an exception without fields -/
theorem mk_endN {pins : List (Addr × Obj)} {σ : L2.St} {H1 : Hp} {hp hp2 h2 : Heap} {g1 g2 : Array GenState} {d1 d2 : Drawn} {t1 t2 : Nat} {os1 os2 : OsState} {a : Addr} (I1 : Inv X pins σ H1 ⟨hp, g1, d1, t1, os1⟩)
    (ha : hp.objs.size ≤ a) (k : ∀ b o, hp.get? b = some o → hp2.get? b = some o) (un : Un (frs X.stack) [] (upd H1 a (exo a C none)) (upd H1 a (exo a C none)) hp2 h2) (hok : HOk X.prog X.w (upd H1 a (exo a C none)) h2) (ho : os2 = os1) (hb : AllBare g2) :
    ∃ (t0 : Addr) (G : Heap), Inv X pins σ H1 ⟨G, g2, d2, t2, os2⟩ ∧ (∀ b o, G.get? b = some o → h2.get? b = some o) ∧ G.get? a = none ∧
      h2.get? a = some ({ cls := .ref C, dict := none, data := .fields #[.ref t0, .none, .none, .none, .bool false, .none] } : Obj) ∧ H1 a = none := by
  obtain ⟨t0, hoe⟩ := exo_at hok upd_same
  have hn : H1 a = none := I1.hok.fresh ha
  obtain ⟨G, g1', g2'⟩ := restrict h2 fun b => decide (b ≠ a)
  have gk : ∀ b, b ≠ a → G.get? b = h2.get? b := fun b hb => g1' b (decide_eq_true hb)
  have ge : G.get? a = none := g2' a (by simp)
  have nha : ∀ {b : Addr} {o : Obj}, hp.get? b = some o → b ≠ a := fun {b o} z => Nat.ne_of_lt (Nat.lt_of_lt_of_le (Heap.lt_size z) ha)
  have up : ∀ {b : Addr}, b ≠ a → H1 b = none → upd H1 a (exo a C none) b = none := fun {b} hb n => by rw [upd_ne hb]; exact n
  have U : Un (frs X.stack) [] H1 H1 hp G := {
    keep := fun b o z n hf hx => by
      rw [gk b (nha z)]
      exact un.keep b o (k b o z) (up (nha z) n) hf hx
    slot := fun b o z n hf hx => by
      rw [gk b (nha z)]
      exact un.slot b o (k b o z) (up (nha z) n) hf hx
    free := fun b o z n hx => n
    there := fun b o z hx => by
      rw [gk b (nha z)]
      exact un.there b o (k b o z) hx
    tups := fun b xs z => z
    frzs := fun b o v z => z
    tbls := fun b ps z => ⟨#[], by rw [z]; simp⟩ }
  have hok3 : HOk X.prog X.w H1 G := fun b o z => by
    have hba : b ≠ a := fun e => by
      rw [e, hn] at z
      cases z
    have z2 : upd H1 a (exo a C none) b = some o := by rw [upd_ne hba]; exact z
    have noa : ∀ {c : Addr} {u : HO}, H1 c = some u → c ≠ a := fun {c u} hc e => by
      rw [e, hn] at hc
      cases hc
    have nox : ∀ {c : Addr}, upd H1 a (exo a C none) c = some (.own b) → c ≠ a := fun {c} hc => at_ne upd_same hc exo_own
    exact (hok b o z2).stay (fun c v hc y => by
        have hca : c ≠ a := by
          rcases hc with hc | hc
          · rw [hc]
            exact hba
          · exact nox hc
        rw [gk c hca]
        exact y)
      (fun c hc => by
        have e := nox hc
        rw [upd_ne e] at hc
        exact hc)
      (fun c xs hc => by
        have e : c ≠ a := at_ne upd_same hc exo_tup
        rw [upd_ne e] at hc
        exact hc)
  have J : Inv X pins σ H1 ⟨G, g2, d2, t2, os2⟩ := I1.call' (ch := []) ho U hok3 hb (fun b z => absurd z (by simp))
  refine ⟨t0, G, J, fun b o z => ?_, ge, hoe, hn⟩
  by_cases hba : b = a
  · rw [hba, ge] at z
    cases z
  · exact (gk b hba).symm.trans z
/-- C(), C an own exception without fields -/
theorem pmk_exn0 (c : Exm X.prog X.w X.K X.mg X.base k x C (spE C [])) (hr : Room j X.A) (hk : k + 1 ≤ j) (hg : Gl X x)
    (hdb : (x == ("__debug__" : Str)) = false := by decide) : PMk X (.Call (.Name x p) [] [] pos) (tExn0 C) := by
  obtain ⟨f, fd, ps, T, hm, iC, tI, F1, hb⟩ := c.ex
  intro pins s σ H Q I h
  obtain ⟨nm, q, N, bs, bm, sn, sub, ab, col, dd, k0, k1, k2, k3, k5, hC, hbm⟩ := T.cls
  refine wpAny_Call_Name_kw (ld_glob I hg hm ?_ hdb)
  refine PySem.W.callWith_K0 I.kIn T.kC ?_
  show wpAny _ _ (call (.ref C) []) _ _ _
  obtain ⟨hp, g, dr, tk, os⟩ := s
  have hsz : hp.objs.size ≤ hp.objs.size + 1 := Nat.le_succ _
  have hn : H (hp.objs.size + 1) = none := I.hok.fresh hsz
  have kk : ∀ b o, hp.get? b = some o → ((hp.push (PySem.W.kdv_tup [])).push (PySem.HandSPX.excO C hp.objs.size)).get? b = some o := fun b o e => Heap.get?_push_of_some _ (Heap.get?_push_of_some _ e)
  have hget : ((hp.push (PySem.W.kdv_tup [])).push (PySem.HandSPX.excO C hp.objs.size)).get? (hp.objs.size + 1) = some (PySem.HandSPX.excO C hp.objs.size) := by heap_get
  have I2 : Inv X pins σ (upd H (hp.objs.size + 1) (exo (hp.objs.size + 1) C none)) ⟨(hp.push (PySem.W.kdv_tup [])).push (PySem.HandSPX.excO C hp.objs.size), g, dr, tk, os⟩ :=
    I.laid (t' := tk) (a := hp.objs.size + 1) (o := exo (hp.objs.size + 1) C none) (h' := (hp.push (PySem.W.kdv_tup [])).push (PySem.HandSPX.excO C hp.objs.size)) kk hsz (exo_ok hget)
  have hq : spE C [] [V.ref (hp.objs.size + 1)] (upd H (hp.objs.size + 1) (exo (hp.objs.size + 1) C none)) (fun v H2 => v = .non ∧ H2 = upd H (hp.objs.size + 1) (exo (hp.objs.size + 1) C none)) (fun _ _ _ => False) := ⟨_, [], rfl, rfl, upd_same, fun _ => ⟨rfl, rfl⟩, fun z => absurd rfl z⟩
  have r2 : Vals [V.ref (hp.objs.size + 1)] [Value.ref (hp.objs.size + 1)] := .cons rfl .nil
  have hl : ([Value.ref (hp.objs.size + 1)] ++ []).length = ps.length := by
    rw [← F1.len _ _ _ _ hq]
    rfl
  refine wpAny_call (PySem.HandSPX.call_own F.excBase_ValueError (fun Y => PySem.HandSPX.refsVE_contains Y bm hbm) (I.kIn _ _ hC) (PySem.W.looks_findIn I.kIn iC) (fun self => PySem.W.bind_fn I.kIn self tI) (by rw [sizeLine_eq]; exact Nat.zero_le _)
    (codeAny_mono (F1.run _ X.stack _ _ ⟨[Value.ref (hp.objs.size + 1)], []⟩ [Value.ref (hp.objs.size + 1)] _ _ (fun _ _ _ => False) ((hr.mono hk).make C [] []) (I2.env0.make C [] []) (hb _ _ I2.kIn hl) r2 hq) fun r s' hq' => ?_))
  cases r with
  | error er =>
    obtain ⟨_, _, _, _, _, _, _, _, _, _, _, _, z⟩ := hq'
    exact z.elim
  | ok fl =>
    cases fl with
    | ret u =>
      obtain ⟨v, H2, os2, bare2, un2, hok2, rv, ev, eH⟩ := hq'
      subst ev
      subst eH
      obtain ⟨h2, g2, d2, t2, os'⟩ := s'
      obtain ⟨t0, G, J, kG, ge, hoe, na⟩ := mk_endN (d2 := d2) (t2 := t2) I hsz kk un2 hok2 os2 bare2
      exact ⟨rv, _, _, _, ⟨G, g2, d2, t2, os'⟩, _, .ref C, none, rfl, J, kG, ge, hoe, ⟨rfl, rfl⟩, rfl, rfl, na, rfl, bare2, raises_own T.exC T.tyC, h⟩
    | next => exact False.elim hq'
    | brk => exact False.elim hq'
    | cont => exact False.elim hq'
end
/-! ### calls that may raise: in a def that lets it out (passE), in a try (passAt) -/
theorem passE {X : Cx} {E : XK} {E₁ : Value → Shared → Prop} (hs : X.stack = X.env :: X.outer) (hf : X.env.frame = some X.env.locals) (hex : X.ex = [])
    (hx : X.xe = fun e s' => wpAny (model X.prog X.w) X.A (leaving X.env e) (fun _ s'' => L2.CX X.prog X.w X.outer X.H_0 X.s_0 E e s'') E₁ s') : Passes (L2.CX X.prog X.w) X E :=
  fun _ _ _ _ e s' I c => takes_of hs hf hex hx e s' (XE.of_call I (fun _ _ _ h => h) c)
def tMethS (C : Addr) (m : Str) (sp : Sp) (E : L2.St → XK) (ta : TE) (t : TA) : TE := fun σ H Q => ta σ H fun x H1 => ∃ a dx fs, x = .ref a ∧ H1 a = some (.ins C dx fs) ∧ fs.lookup m = none ∧ t σ H1 fun vs H2 => sp (x :: vs) H2 Q (E σ)
def tMakeS (C : Addr) (sp : Sp) (E : L2.St → XK) (t : TA) : TE := fun σ H Q => t σ H fun vs H1 => ∀ x dx, H1 x = none → H1 dx = none → dx ≠ x →
  sp (.ref x :: vs) (upd (upd H1 dx (.own x)) x (.ins C dx [])) (fun v H2 => v = .non ∧ Q (.ref x) H2) (E σ)
section
variable {X : Cx} {k j : Nat} {C : Addr} {x m : Str} {sp : Sp} {p pos apos : Pos} {e o : Expr} {es : List Expr} {ta : TE} {t : TA} {E : L2.St → XK}
theorem pe_cxS (c : Cal X.prog X.w X.K X.mg X.base k x sp []) (hr : Room j X.A) (hk : k ≤ j) (hg : Gl X x) (hx : ∀ σ, PassesAt (L2.CX X.prog X.w) X σ (E σ)) (ha : PA X (e :: es) t)
    (hdb : (x == ("__debug__" : Str)) = false := by decide) (he : starEach (e :: es) X.env = (false, eval e X.env) :: starEach es X.env := by rfl) (hpl : (backTo pos (starEach es X.env)).any (·.1) = false := by rfl) :
    PE X (.Call (.Name x p) (e :: es) [] pos) (tCallS sp E t) := by
  obtain ⟨f, fd, ps, ds, F, hm, kp, b, d⟩ := c.ex
  cases d
  exact pe_callS F (hr.mono hk) hg hm kp b hx ha hdb he hpl
theorem pe_mtxS {pl : Sem Bool} (c : Met X.prog X.w X.K X.mg X.base k C m sp []) (hr : Room j X.A) (hk : k ≤ j) (hx : ∀ σ, PassesAt (L2.CX X.prog X.w) X σ (E σ)) (he : PE X o ta) (ha : PA X (e :: es) t)
    (hst : starEach (e :: es) X.env = (false, eval e X.env) :: starEach es X.env := by rfl) (hpl : (backTo pos (starEach es X.env)).any (·.1) = false := by rfl)
    (ht : eval (.Call (.Attribute o m apos) (e :: es) [] pos) X.env = (do
      let ov ← eval o X.env
      standAt apos.atName
      let (f, first) ← holding [ov] (getMethod ov m pl)
      callWith pos f first (backTo pos (starEach (e :: es) X.env)) (backToKw pos (keywordEach [] X.env))) := by rfl) :
    PE X (.Call (.Attribute o m apos) (e :: es) [] pos) (tMethS C m sp E ta t) := by
  obtain ⟨f, fd, ps, ds, hc, hm, F, b, d⟩ := c.ex
  cases d
  refine ⟨fun pins s σ H Q I h => ?_⟩
  refine PySem.W.methodCall_KW (pl := pl) (thn (he.run pins s σ H _ I h) fun u s1 ⟨x, H1, I1, rx, a, dx, fs, ex, ea, l, q⟩ => ?_) ht
  subst ex
  obtain rfl : u = Value.ref a := rx
  refine getmeth_ok I1 ea hc hm l ?_
  refine PySem.W.callWith_K (first := [.ref a]) (h₀ := X.base) I.ok.mod.kin hm.kp (thn (ha.run pos pins s1 σ H1 _ I1 q) fun us s2 ⟨vs, H2, I2, r, q2⟩ => ⟨I2.kIn, ?_⟩) hst hpl
  exact run_fnS (us := .ref a :: us) (vs := .ref a :: vs) F (hr.mono hk) b (hx σ) I2 (.cons rfl r) q2
theorem pe_mkxS (c : Mak X.prog X.w X.K X.mg X.base k x C sp []) (hr : Room j X.A) (hk : k + 1 ≤ j) (hg : Gl X x) (hx : ∀ σ, PassesAt (L2.CX X.prog X.w) X σ (E σ)) (ha : PA X (e :: es) t)
    (hdb : (x == ("__debug__" : Str)) = false := by decide) (he : starEach (e :: es) X.env = (false, eval e X.env) :: starEach es X.env := by rfl) (hpl : (backTo pos (starEach es X.env)).any (·.1) = false := by rfl) :
    PE X (.Call (.Name x p) (e :: es) [] pos) (tMakeS C sp E t) := by
  obtain ⟨f, fd, ps, ds, M, F, hm, b, d⟩ := c.ex
  cases d
  refine ⟨fun pins s σ H Q I h => ?_⟩
  refine wpAny_Call_Name_kw (ld_glob I hg hm ?_ hdb)
  refine PySem.W.callWith_K (h₀ := X.base) I.ok.mod.kin M.kp (thn (ha.run pos pins s σ H _ I h) fun us s1 ⟨vs, H1, I1, r, q⟩ => ⟨I1.kIn, ?_⟩) he hpl
  have hq := q (s1.heap.objs.size + 1) s1.heap.objs.size (I1.hok.fresh (Nat.le_succ _)) (I1.hok.fresh (Nat.le_refl _)) (Nat.ne_of_lt (Nat.lt_succ_self _))
  have I2 := Inv.made (C := C) I1
  have r2 : Vals (V.ref (s1.heap.objs.size + 1) :: vs) (Value.ref (s1.heap.objs.size + 1) :: us) := .cons rfl r
  have hl : (Value.ref (s1.heap.objs.size + 1) :: us ++ []).length = ps.length := by
    have e := r2.length
    rw [F.len _ _ _ _ hq] at e
    rw [List.append_nil]
    exact e.symm
  have bb := b _ (Value.ref (s1.heap.objs.size + 1) :: us) I2.kIn hl
  rw [List.append_nil] at bb
  refine wpAny_call (make_map (f := f) I1.kIn M.makes M.init (beq_iff_eq.mp M.fn) (codeAny_mono (F.run _ X.stack _ _ ⟨Value.ref (s1.heap.objs.size + 1) :: us, []⟩ (Value.ref (s1.heap.objs.size + 1) :: us) _ _ (E σ) ((hr.mono hk).make C us [])
    (I2.env0.make C us []) bb r2 hq) fun r s' hq' => ?_))
  cases r with
  | error e => exact hx σ pins _ _ e s' I2 hq'
  | ok fl =>
    cases fl with
    | ret u =>
      obtain ⟨v, H', I3, rv, ev, q3⟩ := I2.after hq'
      subst ev
      exact ⟨rv, ⟨V.ref (s1.heap.objs.size + 1), H', I3, rfl, q3⟩⟩
    | next => exact False.elim hq'
    | brk => exact False.elim hq'
    | cont => exact False.elim hq'
end
/-- no exception of the body goes further than the clauses -/
theorem takesN {X : Cx} : Takes X (fun _ _ _ _ => False) := fun _ _ x => by
  obtain ⟨_, _, _, _, _, _, _, _, _, _, _, _, _, _, _, _, z⟩ := x
  exact z.elim
/-- the clause of an own class tells of an exception of a class -/
theorem Exn.exm {K : PySem.W.Frag} {mg : Str → Option Value} {x qual : Str} {C : Addr} {st : Stmt} {fs : List Str} (D : Exn K mg x C qual st fs) {cls : Value} {b : Bool} (h : PySem.W.subIn K cls (.ref C) = some b) : PySem.W.exmOne K cls (.ref C) = some b :=
  PySem.W.exm_ref D.oex.exC (by
    obtain ⟨nm, q, N, bs, bm, sn, sub, ab, col, dd, k0, k1, k2, k3, k5, hC, hbm⟩ := D.oex.cls
    unfold PySem.W.hasDictIn PySem.W.clsIn
    rw [hC]
    rfl) D.oex.tyC h
theorem Exn.self {K : PySem.W.Frag} {mg : Str → Option Value} {x qual : Str} {C : Addr} {st : Stmt} {fs : List Str} (D : Exn K mg x C qual st fs) : PySem.W.exmOne K (.ref C) (.ref C) = some true := D.exm (by
  have e := D.sub
  unfold PySem.W.subIn
  first | exact e | (simp [e]))
end Tr

/-! # a, b = an item that is a tuple or a list. -/
namespace Tr
open PySem PySem.Spec PyProof.Rows L2
/-- a tuple or a list -/
def SqE (K : PySem.W.Frag) (H : Hp) (a : Addr) (xs : List V) : Prop := SqT K H a xs ∨ SqL K H a xs
/-- a, b, .. = a tuple or a list of that length -/
def gSeq (K : PySem.W.Frag) (n : Nat) (t : TGs) : TG := fun v σ H Q => ∃ a xs, v = .ref a ∧ SqE K H a xs ∧ xs.length = n ∧ t xs σ H Q
theorem pg_seq {X : Cx} {pos : Pos} {es : List Expr} {k : Nat} {t : TGs} {n : Nat} (hc : X.calm = true) (h : PGs X es t)
    (hn : (assignEach es X.env).length = n := by rfl) (hst : (assignEach es X.env).findIdx? (·.1) = none := by rfl) : PG X (.Tuple es k pos) (gSeq X.K n t) := by
  refine ⟨fun pins s σ H v u Q I r hw => ?_⟩
  obtain ⟨a, xs, e1, hq, hl, hw⟩ := hw
  rcases hq with hq | hq
  · exact (pg_tup hc h hn hst).run pins s σ H v u Q I r ⟨a, xs, e1, hq, hl, hw⟩
  · exact (pg_lst hc h hn hst).run pins s σ H v u Q I r ⟨a, xs, e1, hq, hl, hw⟩
end Tr

/-! # A method that answers NotImplemented; == of an object and a thing of another kind. -/
namespace Tr
open PySem PySem.Spec PyProof.Rows L2
/-- statements that end by NotImplemented, the heap as it was -/
structure PNi (X : Cx) (st : List Stmt) (t : L2.St → Hp → Prop) : Prop where
  run : ∀ (pins : List (Addr × Obj)) (s : Shared) (σ : L2.St) (H : Hp), Inv X pins σ H s → t σ H → wpAny (model X.prog X.w) X.A (execs st X.env) (fun f s' => f = .ret .notImplemented ∧ ∃ σ', Inv X pins σ' H s') X.xe s
theorem pni_ret {X : Cx} {pos p2 : Pos} {rest : List Stmt} (hg : Gl X "NotImplemented") (hm : X.mg "NotImplemented" = none) : PNi X (.Return (some (.Name "NotImplemented" pos)) p2 :: rest) fun _ _ => True := by
  refine ⟨fun pins s σ H I _ => ?_⟩
  refine wpAny_execs_cons (wpAny_Return_some (ld_blt I hg hm (u := .notImplemented) (by rfl) ?_))
  exact ⟨rfl, σ, I⟩
theorem pni_if {X : Cx} {c : Expr} {a b : List Stmt} {pos : Pos} {rest : List Stmt} {tc : TT} {t : L2.St → Hp → Prop} (hc : PT X c tc) (ha : PNi X a t) : PNi X (.If c a b pos :: rest) fun σ H => tc σ H fun d H' => d = true ∧ H' = H ∧ t σ H := by
  refine ⟨fun pins s σ H I h => ?_⟩
  refine wpAny_execs_cons (wpAny_If (thn (hc.run pins s σ H _ I h) fun d s1 ⟨H1, I1, q1⟩ => ?_))
  obtain ⟨rfl, rfl, q⟩ := q1
  refine thn (ha.run pins s1 σ H1 I1 q) fun f s2 q2 => ?_
  obtain ⟨rfl, q2⟩ := q2
  exact ⟨rfl, q2⟩
theorem PNi.nox {X : Cx} {st : List Stmt} {t : L2.St → Hp → Prop} (h : PNi X.nox st t) : PNi X st t := ⟨fun pins s σ H I q => wpAny_mono (h.run pins s σ H (I.wish _) q) (fun _ _ ⟨e, σ', I'⟩ => ⟨e, σ', I'.unwish⟩) fun _ _ z => False.elim z⟩
/-- the end of such a call -/
def CNi (outer : List Env) (P : Program) (w : World) (H : Hp) (s : Shared) (r : Result) (s' : Shared) : Prop :=
  r = .ok (.ret .notImplemented) ∧ s'.os = s.os ∧ AllBare s'.gens ∧ Un (frs outer) [] H H s.heap s'.heap ∧ HOk P w H s'.heap
structure FnNi (P : Program) (w : World) (K : PySem.W.Frag) (mg : Str → Option Value) (base : Heap) (k : Nat) (f : Addr) (fd : FuncData) (ps : List Str) (sp : List V → Hp → Prop) : Prop where
  len : ∀ vs H, sp vs H → vs.length = ps.length
  run : ∀ (A : Around) (outer : List Env) (s : Shared) (H : Hp) (args : Args) (us : List Value) (vs : List V), Room k A → Env0 P w K mg base A outer s H → BindsTo s fd args (ps.zip us) → Vals vs us → sp vs H →
    codeAny (model P w) A (.call (.ref f) args) (CNi outer P w H s) s
/-- a method that answers NotImplemented -/
structure NiMet (P : Program) (w : World) (K : PySem.W.Frag) (mg : Str → Option Value) (base : Heap) (k : Nat) (C : Addr) (m : Str) (sp : List V → Hp → Prop) : Prop where
  ex : ∃ (f : Addr) (fd : FuncData) (ps : List Str), Cls K C ∧ Meth K C m f ∧ FnNi P w K mg base k f fd ps sp ∧ Binds K fd ps []
section
variable {P : Program} {w : World} {K : PySem.W.Frag} {mg : Str → Option Value} {base : Heap}
theorem fni_of {k : Nat} {f : Addr} {name qual : Str} {params : Arguments} {body : List Stmt} {scope : Scope} {dV kV doc pm cdv ct oc : Value} {an od : Option Addr}
    {osl : Array (Option Value)} {N ps : List Str} {sp : List V → Hp → Prop} (lk : K.lookup f = some ⟨oc, od, .func (PySem.W.fnOf name qual params body scope dV kV doc pm an cdv ct), osl⟩) (hcd : PySem.W.codeIn K cdv qual = true) (S : FnScope N ps scope)
    (len : ∀ vs H, sp vs H → vs.length = ps.length)
    (hbody : ∀ (A : Around) (outer : List Env) (s : Shared) (H : Hp) (vs : List V) (E : XK), Room k (A.deeper (envOfC qual scope s.heap.objs.size f cdv)) → sp vs H →
      ∃ t, PNi (cxOf (L2.CX P w) P w K mg base N qual scope f cdv A outer s H E).nox body t ∧ t (start N vs) H) :
    FnNi P w K mg base (k + 1) f (PySem.W.fnOf name qual params body scope dV kV doc pm an cdv ct) ps sp := by
  refine ⟨len, fun A outer s H args us vs hr e0 hb r hsp => ?_⟩
  have stands : ∀ b o, base.get? b = some o → s.heap.get? b = some o := fun b o e => (e0.bs b o e).1
  have inK := e0.mod.kin.keeps stands
  obtain ⟨t, body_, start_⟩ := hbody A outer s H vs (fun _ _ _ => False) (hr.deeper _) hsp
  refine codeAny_call_function hr.depth (inK _ _ lk) rfl S.co S.gen rfl (PySem.W.codeRec_of inK hcd) (hb _ _ _ _ (wpAny_newFunctionEnv_cells S.kind (fun y hy => ?_) fun env he s1 x => ?_))
  · exact (S.par y.1 (List.of_mem_zip hy).1).imp id fun q => ⟨q, PySem.W.cellsFrom_some _ _ _ (.inl q)⟩
  · subst he
    refine ⟨(e0.mod.nolimit.keeps stands).keeps x.toInCall.keep, codeAny_func ?_⟩
    have begun := inv_start (CX := L2.CX P w) (E := fun _ _ _ => False) S hr.hd e0 (len _ _ hsp) r x
    refine wpAny_mono (body_.run [] s1 _ H (begun.wish _) start_) (fun fl s' ended => ?_) fun _ _ z => False.elim z
    obtain ⟨rfl, σ', J⟩ := ended
    exact ⟨rfl, J.os, J.bare, J.base, J.hok⟩
theorem niN {m qual : Str} {C : Addr} {st : Stmt} {N ps : List Str} {k : Nat} {sp : List V → Hp → Prop} (D : Mth K C m qual st) (S : FnScope N ps (defScope st)) (len : ∀ vs H, sp vs H → vs.length = ps.length)
    (hb : ∀ (kV doc pm : Value) (an : Option Addr) (cdv ct : Value) (us : List Value), us.length = ps.length → bindArgs (PySem.W.fnOf m qual (defArgs st) (defBody st) (defScope st) .none kV doc pm an cdv ct) ⟨us, []⟩ = pure (ps.zip us))
    (hbody : ∀ (f : Addr) (cdv : Value) (A : Around) (outer : List Env) (s : Shared) (H : Hp) (vs : List V) (E : XK), Room k (A.deeper (envOfC qual (defScope st) s.heap.objs.size f cdv)) → sp vs H →
      ∃ t, PNi (cxOf (L2.CX P w) P w K mg base N qual (defScope st) f cdv A outer s H E).nox (defBody st) t ∧ t (start N vs) H) : NiMet P w K mg base (k + 1) C m sp := by
  obtain ⟨f, fd, hm, F⟩ := D.ex
  have F0 := F
  obtain ⟨oc, od, kV, doc, pm, an, cdv, ct, osl, rfl, lk, hcd⟩ := F.ex
  exact ⟨f, _, ps, D.cls, hm, fni_of lk hcd S len fun A outer s H vs E hr h => hbody f cdv A outer s H vs E hr h, F0.binds hb⟩
end
/-! ## richCompare -/
section
variable {M : Model} {A : Around} {E : Value → Shared → Prop} {s : Shared}
/-- == where both decline -/
theorem eq_ni {prog : Program} {w : World} {K : PySem.W.Frag} {x C f : Addr} {tb : String} {b : Value} {ox : Obj} {od : Option Obj} {R R2 : Shared → Prop} {Q : Value → Shared → Prop} (hu : A.units < cLine) (X : K.In s.heap) (I : PySem.W.InstAt s.heap x ox C od)
    (hb : PySem.W.Looks (model prog w) s.heap (typeOf b) (.type tb)) (hn : PySem.W.subIn K (.type tb) (.ref C) = some false) (hs : PySem.W.findIn K (.ref C) "__eq__" = some (some (.ref f))) (hf : PySem.W.isFn K (.ref f) = true)
    (h1 : wpAny (model prog w) A (call (.ref f) [.ref x, b]) (fun v s' => v = .notImplemented ∧ R s') E s)
    (h2 : ∀ s', R s' → wpAny (model prog w) A (tryCompare b "__eq__" (.ref x)) (fun r s' => r = none ∧ R2 s') E s')
    (h3 : ∀ s', R2 s' → wpAny (model prog w) A (isSame (.ref x) b) (fun c s'' => Q (.bool c) s'') E s') : wpAny (model prog w) A (richCompare .Eq (.ref x) b) Q E s := by
  have one : wpAny (model prog w) A (tryCompare (.ref x) "__eq__" b) (fun r s' => r = none ∧ R s') E s := by
    unfold tryCompare
    refine wpAny_bind (PySem.W.ifBound_K X I hs hf (wpAny_mono h1 (fun v s' hv => ?_) fun _ _ e => e))
    obtain ⟨rfl, hv⟩ := hv
    exact wpAny_pure ⟨rfl, hv⟩
  simp only [richCompare, cmpInfo_Eq, oneThing_ref]
  refine wpAny_holding (wpAny_bind (wpAny_cRoomFor hu ?_))
  refine wpAny_bind (I.type.here (wpAny_bind (hb.here ?_)))
  split
  · refine wpAny_bind ((PySem.W.looks_subIn X hn).here ?_)
    simp only [Bool.false_eq_true, if_false, Bool.not_false, if_true]
    refine wpAny_bind (wpAny_mono one (fun r s1 z => ?_) fun _ _ e => e)
    obtain ⟨rfl, z2⟩ := z
    refine wpAny_bind (wpAny_mono (h2 s1 z2) (fun r s2 z => ?_) fun _ _ e => e)
    obtain ⟨rfl, z2⟩ := z
    exact wpAny_bind (wpAny_rule (wpAny_bind (wpAny_mono (h3 _ z2) (fun _ _ q => wpAny_pure q) fun _ _ e => e)))
  · rename_i q
    exact absurd (by simp) q
theorem list_ni (l x : Addr) (items : Array Value) (n : Nat) (dd : Option Addr) (sl : Array (Option Value)) {prog : Program} {w : World} {A : Around} {R : Fin → Shared → Prop} {s : Shared} (hl : s.heap.get? l = some { cls := .type "list", dict := dd, data := .seq items n, slots := sl })
    (hi : PySem.W.Looks (model prog w) s.heap (isInstance (.ref x) (.type "list")) false) (h : R (.done (.ret .notImplemented)) s) {E : Value → Shared → Prop} : wpAny (model prog w) A (Builtin.«list.__eq__» ⟨[.ref l, .ref x], []⟩) R E s := by
  repeat (first | with_reducible refine hi.here ?_ | wp_step)
  exact h
end
/-- a class that is apart from the built-in ones -/
def bNames : List String := ["list", "tuple", "dict", "int", "str", "NoneType", "bool", "set"]
structure KindO (K : PySem.W.Frag) (C : Addr) : Prop where
  one : ∀ n ∈ bNames, PySem.W.kitOne K (.type n) (.ref C) = some false
  sub : ∀ n ∈ bNames, PySem.W.subIn K (.type n) (.ref C) = some false
  mro : ∀ n ∈ bNames, PySem.W.subIn K (.ref C) (.type n) = some false
section
variable {X : Cx} {k : Nat} {C : Addr}
theorem run_ni {f : Addr} {fd : FuncData} {ps : List Str} {sp : List V → Hp → Prop} {pins : List (Addr × Obj)} {σ : L2.St} {H : Hp} {s : Shared} {us : List Value} {vs : List V} {A : Around} {E : Value → Shared → Prop} (F : FnNi X.prog X.w X.K X.mg X.base k f fd ps sp) (hr : Room k A) (hf : A.frames = X.A.frames)
    (hb : Binds X.K fd ps []) (I : Inv X pins σ H s) (r : Vals vs us) (h : sp vs H) : wpAny (model X.prog X.w) A (call (.ref f) us) (fun v s' => v = .notImplemented ∧ Inv X pins σ H s') E s := by
  have there := I.env0
  have e0 : Env0 X.prog X.w X.K X.mg X.base A X.stack s H := { there with frames := hf.trans there.frames }
  have bound := hb s us I.kIn (by rw [List.append_nil]; exact r.length.symm.trans (F.len _ _ h))
  rw [List.append_nil] at bound
  refine wpAny_call (codeAny_mono (F.run A X.stack s H ⟨us, []⟩ us vs hr e0 bound r h) fun r s' hq => ?_)
  obtain ⟨rfl, os, bare, un, hok⟩ := hq
  obtain ⟨v, H', I', _, _, rfl⟩ := I.after (Q := fun v H' => v = .non ∧ H' = H) (u := Value.none) ⟨.non, H, os, bare, un, hok, rfl, rfl, rfl⟩
  exact ⟨rfl, I'⟩
/-- an object == a list: the object's __eq__ declines -/
def rEqNi (C : Addr) (sp : List V → Hp → Prop) (out : Bool → V) : R2 := fun x y H Q => ∃ a dx fs l xs, x = .ref a ∧ y = .ref l ∧ H a = some (.ins C dx fs) ∧ H l = some (.lst xs) ∧ sp [x, y] H ∧ Q (out false) H
theorem or_eqNi {sp : List V → Hp → Prop} (c : NiMet X.prog X.w X.K X.mg X.base k C "__eq__" sp) (kd : KindO X.K C) {j : Nat} (hr : Room j X.A) (hk : k ≤ j) : OpR X (compareOp .Eq) (rEqNi C sp .bl) := by
  obtain ⟨f, fd, ps, hc, hm, F1, b⟩ := c.ex
  intro pins s σ H x y v u Q I rx ry h
  obtain ⟨a, dx, fs, l, xs, rfl, rfl, ha, hl, h, q⟩ := h
  cases rx
  cases ry
  obtain ⟨mA, J, _⟩ := ins_get I.hok ha
  obtain ⟨od, J, _⟩ := J.look
  obtain ⟨its, rv, hL, _⟩ := I.list (SqL.of hl)
  obtain ⟨⟨cls0, dd0, data0, sl0⟩, ho0, hc0, n0, hd0⟩ := hL.isList
  simp only at hc0 hd0
  subst hc0 hd0
  show wpAny (model X.prog X.w) X.A (richCompare .Eq (.ref a) (.ref l)) _ _ s
  refine eq_ni (R := fun s' => Inv X pins σ H s') (R2 := fun s' => Inv X pins σ H s') hr.units0 I.kIn J (tb := "list") ?_ (kd.sub _ (by decide)) hm.at_ hm.fn ?_ ?_ ?_
  · exact (PySem.W.Looks.ld ho0).andThen .now
  · exact run_ni F1 (hr.mono hk) rfl b I (us := [.ref a, .ref l]) (vs := [.ref a, .ref l]) (.cons rfl (.cons rfl .nil)) h
  · intro s' I'
    obtain ⟨its, rv, hL, _⟩ := I'.list (SqL.of hl)
    obtain ⟨mA, J, _⟩ := ins_get I'.hok ha
    obtain ⟨od, J, _⟩ := J.look
    obtain ⟨⟨cls, dd, data, sl⟩, ho, hc, n, hd⟩ := hL.isList
    simp only at hc hd
    subst hc hd
    refine wpAny_tryCompare_declines ⟨_, ho, rfl⟩ F.slot_list_eq_refl (wpAny_call (codeAny_call_builtin F.slot_list_eq_refl.plain F.entry_list_eq (F.slot_list_eq_refl.check _ _ _ _ _ _ _ _ ⟨_, ho, rfl⟩ (F.args_list_eq_2 _ _) ?_)))
    exact list_ni l a _ n dd sl ho (J.type.andThen (PySem.W.looks_subIn I'.kIn (kd.mro _ (by decide)))) ⟨rfl, rfl, I'⟩
  · intro s' I'
    have ne : a ≠ l := ne_of ha hl (by intro z; cases z)
    obtain ⟨its, rv, hL, _⟩ := I'.list (SqL.of hl)
    obtain ⟨mA, J, _⟩ := ins_get I'.hok ha
    obtain ⟨od, J, _⟩ := J.look
    obtain ⟨o2, ho2, hc2, _⟩ := hL.isList
    exact wpAny_isSame_ref_other ne J.at_ ho2 (by rw [J.cls]; intro z; cases z) ⟨.bl false, H, I', rfl, q⟩
end
end Tr

/-! # try with several clauses, each with or without a name. -/
namespace Tr
open PySem PySem.Spec PyProof.Rows L2
/-- a clause: the class it names, the slot of its name, its suite's reading -/
structure Clz where
  cls : Value
  slot : Option Nat
  ts : Addr → Value → Option Addr → TS
/-- behind the suite the name is gone -/
def goneD (D : Ends) : Option Nat → Ends
  | none => D
  | some i => { nx := fun σ H => D.nx (σ.set i none) H, rt := D.rt, bk := fun σ H => D.bk (σ.set i none) H, ct := fun σ H => D.ct (σ.set i none) H }
def heldS (σ : L2.St) (a : Addr) : Option Nat → L2.St
  | none => σ
  | some i => σ.set i (some (.ref a))
/-- what the clauses wish -/
def wAny (K : PySem.W.Frag) (Wout : WX) (D : Ends) : List Clz → WX
  | [] => Wout
  | z :: r => fun cls d σ H => ∃ b, PySem.W.exmOne K cls z.cls = some b ∧ (b = true → ∀ a, H a = none → z.ts a cls d (goneD D z.slot) (heldS σ a z.slot) H) ∧ (b = false → wAny K Wout D r cls d σ H)
/-- a suite, of any such exception -/
def SuiteOk (X : Cx) (b : List Stmt) (ts : Addr → Value → Option Addr → TS) : Prop :=
  ∀ (a : Addr) (oe : Obj) (cls : Value) (d : Option Addr) (pn : List (Addr × Obj)), Zc cls d oe → (∃ vs, oe.data = .fields vs) → PSs (X.suite a ((a, oe) :: pn)) b (ts a cls d)
inductive ClzOk (X : Cx) : List ExceptHandler → List Clz → Prop
  | nil : ClzOk X [] []
  | bare {x : Str} {c : Value} {ts : Addr → Value → Option Addr → TS} {b : Stmt} {bs : List Stmt} {p q : Pos} {hs : List ExceptHandler} {l : List Clz} (n : Names X x c) (s : SuiteOk X (b :: bs) ts) (r : ClzOk X hs l) :
      ClzOk X (.ExceptHandler (some (.Name x p)) none (b :: bs) q :: hs) (⟨c, none, ts⟩ :: l)
  | named {x y : Str} {i : Nat} {c : Value} {ts : Addr → Value → Option Addr → TS} {b : Stmt} {bs : List Stmt} {p q : Pos} {hs : List ExceptHandler} {l : List Clz} (nd : X.N.Nodup) (hi : X.N[i]? = some y) (hk : X.env.kindOf y = some .local) (n : Names X x c) (s : SuiteOk X (b :: bs) ts) (r : ClzOk X hs l) :
      ClzOk X (.ExceptHandler (some (.Name x p)) (some y) (b :: bs) q :: hs) (⟨c, some i, ts⟩ :: l)
section
variable {X : Cx}
theorem sp_off {pins : List (Addr × Obj)} {D : Ends} {f : Flow} {s : Shared} {pn : List (Addr × Obj)} {xe : Value → Shared → Prop} (ok : X.Ok) (h : SP (X.tr pn xe) [] D f s) (hx : pn = X.pn ++ pins) : SP X pins D f s := by
  subst hx
  cases f with
  | ret u => exact let ⟨v, σ, H, J, r, q⟩ := h; ⟨v, σ, H, J.ofTry ok, r, q⟩
  | next => exact let ⟨σ, H, J, q⟩ := h; ⟨σ, H, J.ofTry ok, q⟩
  | brk => exact let ⟨σ, H, J, q⟩ := h; ⟨σ, H, J.ofTry ok, q⟩
  | cont => exact let ⟨σ, H, J, q⟩ := h; ⟨σ, H, J.ofTry ok, q⟩
/-- the value of a class's name in a suite -/
theorem name_in {x : Str} {c : Value} {np : Pos} {a : Addr} {oe : Obj} {pn pins : List (Addr × Obj)} {σ : L2.St} {H : Hp} {s : Shared} {Q : Value → Shared → Prop} {E : Value → Shared → Prop} (n : Names X x c) (S : Inv (X.suite a ((a, oe) :: pn)) pins σ H s) (q : Q c s) :
    wpAny (model X.prog X.w) (X.A.mark (some (.ref a))) (eval (.Name x np) X.env) Q E s := by
  rcases n with ⟨g, nd, m | ⟨m, v, nn⟩⟩
  · exact ld_glob (X := X.suite a ((a, oe) :: pn)) S g m q nd
  · exact ld_blt (X := X.suite a ((a, oe) :: pn)) S g m v q nn nd
theorem sp_suite {pins : List (Addr × Obj)} {D : Ends} {f : Flow} {s : Shared} {a : Addr} {oe : Obj} (ok : X.Ok) (h : SP (X.suite a ((a, oe) :: (X.pn ++ pins))) [] D f s) : SP X pins D f s := by
  cases f with
  | ret u => exact let ⟨v, σ, H, S, r, q⟩ := h; ⟨v, σ, H, S.unsuite ok, r, q⟩
  | next => exact let ⟨σ, H, S, q⟩ := h; ⟨σ, H, S.unsuite ok, q⟩
  | brk => exact let ⟨σ, H, S, q⟩ := h; ⟨σ, H, S.unsuite ok, q⟩
  | cont => exact let ⟨σ, H, S, q⟩ := h; ⟨σ, H, S.unsuite ok, q⟩
variable {body : List Stmt} {h₀ : ExceptHandler} {hds : List ExceptHandler} {l : List Clz} {pos : Pos} {tb : WX → TS} {Wout : WX}
theorem ps_try_any (st : X.stack = X.env :: X.outer) (fr : X.env.frame = some X.env.locals) (tk : Takes X Wout)
    (hb : ∀ (W : WX) (pn : List (Addr × Obj)) (xe : Value → Shared → Prop), Takes (X.tr pn xe) W → PassesOwn (model X.prog X.w) X.A X.env xe → PSs (X.tr pn xe) body (tb W))
    (cl : ClzOk X (h₀ :: hds) l) : PS X (.Try body (h₀ :: hds) [] [] pos) (fun D σ H => tb (wAny X.K Wout D l) D σ H) := by
  refine ⟨fun pins s σ H D I h => wpAny_Try_except ?_⟩
  have ok := I.ok
  have afr : X.A.frames = some (X.env :: X.outer) := ok.frames.trans (congrArg some st)
  refine wpAny_mono ((hb (wAny X.K Wout D l) (X.pn ++ pins) (fun e s1 => wpAny (model X.prog X.w) X.A (noteFrame e X.env) (fun _ s2 => wpAny (model X.prog X.w) X.A (setFlight e none)
    (fun _ s3 => wpAny (model X.prog X.w) X.A (handleBy e X.env (h₀ :: hds)) (SP X pins D) X.xe s3) X.xe s2) X.xe s1) (fun u s' caught => ?_) PassesOwn.looking).run [] s σ H D (I.toTry _) h) (fun f s1 r => ?_) fun _ _ z => z
  · obtain ⟨a, B, sI, pins', σ1, H1, cls, d, rfl, J1, nb, up, sky, na, os, ag, w⟩ := caught
    have J := J1.ofTry ok
    rw [st] at sky
    refine (show wpAny (model X.prog X.w) X.A (noteFrame (.ref a) X.env) _ _ _ from Sky.land Zc.steady afr fr sky fun h3 fl up3 => ?_)
    obtain ⟨o3, v3, at3, z3, dt3⟩ := fl.there
    have off : a ∉ frs (X.env :: X.outer) := fun hm => by
      obtain ⟨_, o, e, no⟩ := fl.2.2.1.mem hm
      rw [at3] at e
      cases e
      exact no _ dt3
    have off1 : a ≠ X.env.locals := fun z => off (List.mem_filterMap.mpr ⟨X.env, .head _, by rw [fr, z]⟩)
    have off2 : a ∉ X.fs := fun hm => let ⟨e, me, q⟩ := List.mem_filterMap.mp hm; off (List.mem_filterMap.mpr ⟨e, .tail _ me, q⟩)
    have J3 : Inv X pins σ1 H1 { s' with heap := h3 } := J.landed nb fl.1 (up.trans up3) os ag
    have S3 := J3.suite at3 dt3 na off1 off2
    suffices go : ∀ {hs' : List ExceptHandler} {l' : List Clz}, ClzOk X hs' l' → wAny X.K Wout D l' cls d σ1 H1 → wpAny (model X.prog X.w) X.A (handleBy (.ref a) X.env hs') (SP X pins D) X.xe { s' with heap := h3 } from go cl w
    intro hs' l' k
    induction k with
    | nil =>
      intro w
      refine wpAny_handleBy_nil ?_
      obtain ⟨_, _, _, oe, vs, T, _, _, eT, _, dT, fT, _⟩ := id fl
      have away : wpAny (model X.prog X.w) X.A (setFlight (.ref a) X.env.frame) (fun _ s4 => wpAny (model X.prog X.w) X.A (throw (.ref a) : Sem Flow) (SP X pins D) X.xe s4) X.xe { s' with heap := h3 } := by
        rw [fr]
        exact HandSPX.setFlight_upZ fl fun h4 sky4 up4 => wpAny_throw (tk _ _ ⟨a, B, sI, pins, σ1, H1, cls, d, rfl, J, nb, (up.trans up3).trans up4, .inr (.inr (st ▸ sky4)), na, os, ag, w⟩)
      unfold PySem.passOn
      refine wpAny_bind (wpAny_field eT dT fT ?_)
      rw [if_neg (by simp : ¬ ((Value.ref T == Value.none) = true))]
      first
        | exact wpAny_bind away
        | exact wpAny_bind (wpAny_pure (wpAny_bind away))
    | @bare x c ts b bs p q hs2 l2 n su r ih =>
      rintro ⟨y, e, yes, no⟩
      refine wpAny_handleBy_cons (codeAny_handlers_test (name_in n S3 ((PySem.W.exm_one (M := model X.prog X.w) J3.kIn (fun A Q E s k q => wpAny_typeOf_ref (k _ _ at3) (by rw [z3.1]; exact q)) e).here ?_))) (by intro z; cases z)
      cases y with
      | false => exact ih (no rfl)
      | true =>
        refine codeAny_handlers_suite (HandSPX.lands_againZ fl fun h4 fl4 up4 => ?_)
        obtain ⟨o4, v4, at4, z4, dt4⟩ := fl4.there
        have S4 := (J.landed nb fl4.1 ((up.trans up3).trans up4) os ag : Inv X pins σ1 H1 { s' with heap := h4 }).suite at4 dt4 na off1 off2
        exact wpAny_mono ((su a o4 cls d (X.pn ++ pins) z4 ⟨_, dt4⟩).run [] _ _ H1 _ S4 (yes rfl a na)) (fun f s6 r6 => by cases f <;> exact sp_suite ok r6) fun _ _ z => z.elim
    | @named x yn i c ts b bs p q hs2 l2 nd hi hk n su r ih =>
      rintro ⟨y, e, yes, no⟩
      refine wpAny_handleBy_cons (codeAny_handlers_test (name_in n S3 ((PySem.W.exm_one (M := model X.prog X.w) J3.kIn (fun A Q E s k q => wpAny_typeOf_ref (k _ _ at3) (by rw [z3.1]; exact q)) e).here ?_))) (by intro z; cases z)
      cases y with
      | false => exact ih (no rfl)
      | true =>
        refine codeAny_handlers_suite_as (HandSPX.lands_againZ fl fun h4 fl4 up4 => ?_)
        obtain ⟨o4, v4, at4, z4, dt4⟩ := fl4.there
        have S4 := (J.landed nb fl4.1 ((up.trans up3).trans up4) os ag : Inv X pins σ1 H1 { s' with heap := h4 }).suite at4 dt4 na off1 off2
        refine store_ok (X := X.suite a ((a, o4) :: (X.pn ++ pins))) (v := .ref a) S4 nd hi (.inl hk) rfl (fun s5 S5 => ?_) (.inr hk)
        refine wpAny_mono ((su a o4 cls d (X.pn ++ pins) z4 ⟨_, dt4⟩).run [] s5 _ H1 _ S5 (yes rfl a na)) (fun f s6 r6 => ?_) fun _ _ z => z.elim
        cases f with
        | ret u =>
          obtain ⟨v6, σ6, H6, S6, rv, q6⟩ := r6
          exact gone_ok (S6.unsuite ok) nd hi hk fun s7 J7 => ⟨_, _, _, J7, rv, q6⟩
        | next =>
          obtain ⟨σ6, H6, S6, q6⟩ := r6
          exact gone_ok (S6.unsuite ok) nd hi hk fun s7 J7 => ⟨_, _, J7, q6⟩
        | brk =>
          obtain ⟨σ6, H6, S6, q6⟩ := r6
          exact gone_ok (S6.unsuite ok) nd hi hk fun s7 J7 => ⟨_, _, J7, q6⟩
        | cont =>
          obtain ⟨σ6, H6, S6, q6⟩ := r6
          exact gone_ok (S6.unsuite ok) nd hi hk fun s7 J7 => ⟨_, _, J7, q6⟩
  · have r2 := sp_off ok r rfl
    cases f with
    | next => exact wpAny_execs_nil r2
    | ret u => exact r2
    | brk => exact r2
    | cont => exact r2
end
end Tr

/-! # < and > of alike data; the order of triples and of lists of triples. -/
namespace Tr
open PySem PySem.Spec PyProof.Rows L2
def rCmpD (K : PySem.W.Frag) (f : PyData → PyData → Bool) : R2 := fun x y H Q => ∃ d e, Dp K H x d ∧ Dp K H y e ∧ PySem.W.alike d e = true ∧ d ≠ .none ∧ d.depth ≤ 64 ∧ Q (.bl (f d e)) H
section
variable {X : Cx}
theorem op_ltD (hu : X.A.units + 64 < cLine) : OpR X (compareOp .Lt) (rCmpD X.K fun d e => PySem.W.dataLt d e) := by
  intro pins s σ H x y v u Q I rx ry h
  obtain ⟨d, e, hd, he, al, nn, dp, q⟩ := h
  obtain ⟨as, r1⟩ := Dp.reads I d x v hd rx
  obtain ⟨bs, r2⟩ := Dp.reads I e y u he ry
  exact PySem.W.rcLt_alike d e X.A s v u as bs r1 r2 al nn (by omega) _ _ _ _ ⟨.bl _, H, I, rfl, q⟩
theorem op_gtD (hu : X.A.units + 64 < cLine) : OpR X (compareOp .Gt) (rCmpD X.K fun d e => PySem.W.dataLt e d) := by
  intro pins s σ H x y v u Q I rx ry h
  obtain ⟨d, e, hd, he, al, nn, dp, q⟩ := h
  obtain ⟨as, r1⟩ := Dp.reads I d x v hd rx
  obtain ⟨bs, r2⟩ := Dp.reads I e y u he ry
  exact PySem.W.rcGt_alike d e X.A s v u as bs r1 r2 al nn (by omega) _ _ _ _ ⟨.bl _, H, I, rfl, q⟩
end
theorem ix_tupK {X : Cx} (K : PySem.W.Frag) (h : X.K = K := by rfl) : IxR X (rIxT K) := by
  subst h
  exact ix_tup
theorem ix_listK {X : Cx} (K : PySem.W.Frag) (h : X.K = K := by rfl) : IxR X (rIxL K) := by
  subst h
  exact ix_list
abbrev T3 := Int × Int × Int
def t3D (t : T3) : PyData := .tuple [.int t.1, .int t.2.1, .int t.2.2]
/-- the order of triples -/
def lt3 (a b : T3) : Bool := if a.1 = b.1 then (if a.2.1 = b.2.1 then decide (a.2.2 < b.2.2) else decide (a.2.1 < b.2.1)) else decide (a.1 < b.1)
/-- the order of lists of triples -/
def lexT : List T3 → List T3 → Bool
  | [], [] => false
  | [], _ :: _ => true
  | _ :: _, [] => false
  | a :: as, b :: bs => if a = b then lexT as bs else lt3 a b
/-- by the length, then place by place -/
def ltR (a b : List T3) : Bool := if a.length = b.length then lexT a b else decide (a.length < b.length)
theorem lt3_asym {a b : T3} (h : lt3 a b = true) : lt3 b a = false := by
  unfold lt3 at *
  obtain ⟨a1, a2, a3⟩ := a
  obtain ⟨b1, b2, b3⟩ := b
  dsimp only at *
  repeat' split at h
  all_goals repeat' split
  all_goals simp at *
  all_goals omega
theorem lt3_total {a b : T3} (h : a ≠ b) : lt3 a b = true ∨ lt3 b a = true := by
  unfold lt3
  obtain ⟨a1, a2, a3⟩ := a
  obtain ⟨b1, b2, b3⟩ := b
  dsimp only
  have : ¬ (a1 = b1 ∧ a2 = b2 ∧ a3 = b3) := fun ⟨x, y, z⟩ => h (by rw [x, y, z])
  by_cases h1 : a1 = b1
  · by_cases h2 : a2 = b2
    · rw [if_pos h1, if_pos h2, if_pos h1.symm, if_pos h2.symm, decide_eq_true_eq, decide_eq_true_eq]
      omega
    · rw [if_pos h1, if_neg h2, if_pos h1.symm, if_neg fun e => h2 e.symm, decide_eq_true_eq, decide_eq_true_eq]
      omega
  · rw [if_neg h1, if_neg fun e => h1 e.symm, decide_eq_true_eq, decide_eq_true_eq]
    omega
theorem lexT_irr : ∀ a : List T3, lexT a a = false
  | [] => rfl
  | x :: a => by
    unfold lexT
    rw [if_pos rfl]
    exact lexT_irr a
theorem lexT_asym : ∀ {a b : List T3}, lexT a b = true → lexT b a = false
  | [], [], h => rfl
  | [], _ :: _, h => rfl
  | _ :: _, [], h => by cases h
  | x :: a, y :: b, h => by
    unfold lexT at h ⊢
    by_cases e : x = y
    · rw [if_pos e] at h
      rw [if_pos e.symm]
      exact lexT_asym h
    · rw [if_neg e] at h
      rw [if_neg fun z => e z.symm]
      exact lt3_asym h
theorem lexT_total : ∀ {a b : List T3}, a ≠ b → lexT a b = true ∨ lexT b a = true
  | [], [], h => (h rfl).elim
  | [], _ :: _, h => .inl rfl
  | _ :: _, [], h => .inr rfl
  | x :: a, y :: b, h => by
    unfold lexT
    by_cases e : x = y
    · rw [if_pos e, if_pos e.symm]
      exact lexT_total fun z => h (by rw [e, z])
    · rw [if_neg e, if_neg fun z => e z.symm]
      exact lt3_total e
theorem ltR_irr (a : List T3) : ltR a a = false := by
  unfold ltR
  rw [if_pos rfl]
  exact lexT_irr a
theorem ltR_asym {a b : List T3} (h : ltR a b = true) : ltR b a = false := by
  unfold ltR at *
  by_cases e : a.length = b.length
  · rw [if_pos e] at h
    rw [if_pos e.symm]
    exact lexT_asym h
  · rw [if_neg e, decide_eq_true_eq] at h
    rw [if_neg fun z => e z.symm, decide_eq_false_iff_not]
    omega
theorem ltR_total {a b : List T3} (h : a ≠ b) : ltR a b = true ∨ ltR b a = true := by
  unfold ltR
  by_cases e : a.length = b.length
  · rw [if_pos e, if_pos e.symm]
    exact lexT_total h
  · rw [if_neg e, if_neg fun z => e z.symm, decide_eq_true_eq, decide_eq_true_eq]
    omega
/-! ### what the model's comparison tells of such data -/
theorem eqv_t3 (a b : T3) : PyData.eqv (t3D a) (t3D b) = decide (a = b) := by
  obtain ⟨a1, a2, a3⟩ := a
  obtain ⟨b1, b2, b3⟩ := b
  show ((a1 == b1) && ((a2 == b2) && ((a3 == b3) && true))) = _
  rw [Bool.and_true, Bool.eq_iff_iff, Bool.and_eq_true, Bool.and_eq_true, decide_eq_true_eq, beq_iff_eq, beq_iff_eq, beq_iff_eq, Prod.mk.injEq, Prod.mk.injEq]
theorem alike_t3 (a b : T3) : PySem.W.alike (t3D a) (t3D b) = true := by
  unfold t3D
  simp [PySem.W.alike, PySem.W.alikeAll]
theorem alike_t3s : ∀ a b : List T3, PySem.W.alikeAll (a.map t3D) (b.map t3D) = true
  | [], _ => by simp [PySem.W.alikeAll]
  | _ :: _, [] => by simp [PySem.W.alikeAll]
  | x :: a, y :: b => by
    rw [List.map_cons, List.map_cons, PySem.W.alikeAll, alike_t3, alike_t3s a b]
    rfl
theorem lt_t3 (a b : T3) : PySem.W.dataLt (t3D a) (t3D b) = if a = b then false else lt3 a b := by
  obtain ⟨a1, a2, a3⟩ := a
  obtain ⟨b1, b2, b3⟩ := b
  have ei : ∀ x y : Int, PyData.eqv (.int x) (.int y) = decide (x = y) := fun x y => by
    show (x == y) = _
    rw [Bool.eq_iff_iff, beq_iff_eq, decide_eq_true_eq]
  have ai : ∀ x y : Int, PySem.W.alike (.int x) (.int y) = true := fun x y => by simp [PySem.W.alike]
  unfold t3D lt3
  rw [PySem.W.dataLt_tuple, PySem.W.dataLt_cons (ai _ _), PySem.W.dataLt_cons (ai _ _), PySem.W.dataLt_cons (ai _ _), ei, ei, ei, PySem.W.dataLt_int, PySem.W.dataLt_int, PySem.W.dataLt_int]
  dsimp only
  have e0 : PyProof.Rows.lexLt itemOrd (PySem.W.keyToksAll []) (PySem.W.keyToksAll []) = false := lex_irrefl _
  rw [e0]
  by_cases h1 : a1 = b1 <;> by_cases h2 : a2 = b2 <;> by_cases h3 : a3 = b3 <;> simp [h1, h2, h3]
theorem toks_t3 : ∀ a b : List T3, PyProof.Rows.lexLt itemOrd (PySem.W.keyToksAll (a.map t3D)) (PySem.W.keyToksAll (b.map t3D)) = lexT a b
  | [], [] => lex_irrefl _
  | [], y :: b => by
    simp [PySem.W.keyToksAll, lexT, PyProof.Rows.lexLt, itemOrd, itemLt]
  | x :: a, [] => by
    simp [PySem.W.keyToksAll, lexT, PyProof.Rows.lexLt, itemOrd, itemLt]
  | x :: a, y :: b => by
    rw [List.map_cons, List.map_cons, PySem.W.dataLt_cons (alike_t3 x y), eqv_t3, lt_t3, toks_t3 a b]
    rw [show lexT (x :: a) (y :: b) = if x = y then lexT a b else lt3 x y by rw [lexT]]
    by_cases h : x = y
    · rw [decide_eq_true h, if_pos rfl, if_pos h]
    · rw [decide_eq_false h, if_neg Bool.false_ne_true, if_neg h, if_neg h]
end Tr

/-! # o(e, ..), o an object of a class with __call__. -/
namespace Tr
open PySem PySem.Spec PyProof.Rows L2
/-- a method whose function stands in the written part -/
structure MetF (P : Program) (w : World) (K : PySem.W.Frag) (mg : Str → Option Value) (base : Heap) (k : Nat) (C : Addr) (m : Str) (sp : Sp) : Prop where
  ex : ∃ (f : Addr) (fd : FuncData) (ps : List Str), Meth K C m f ∧ PySem.W.fnIn K f = true ∧ FnOk P w K mg base (L2.CX P w) k f fd ps sp ∧ Binds K fd ps []
section
variable {P : Program} {w : World} {K : PySem.W.Frag} {mg : Str → Option Value} {base : Heap}
theorem metF {m qual : Str} {C : Addr} {st : Stmt} {N ps : List Str} {k : Nat} {sp : Sp} (D : Mth K C m qual st) (S : FnScope N ps (defScope st)) (len : ∀ vs H Q E, sp vs H Q E → vs.length = ps.length)
    (hb : ∀ (kV doc pm : Value) (an : Option Addr) (cdv ct : Value) (us : List Value), us.length = ps.length → bindArgs (PySem.W.fnOf m qual (defArgs st) (defBody st) (defScope st) .none kV doc pm an cdv ct) ⟨us, []⟩ = pure (ps.zip us))
    (hbody : ∀ (f : Addr) (cdv : Value) (A : Around) (outer : List Env) (s : Shared) (H : Hp) (vs : List V) (Q : VK) (E : XK), Room k (A.deeper (envOfC qual (defScope st) s.heap.objs.size f cdv)) → sp vs H Q E →
      ∃ t, PSs (cxOf (L2.CX P w) P w K mg base N qual (defScope st) f cdv A outer s H E).nox (defBody st) t ∧ t { nx := fun _ H' => Q .non H', rt := Q } (start N vs) H) : MetF P w K mg base (k + 1) C m sp := by
  obtain ⟨f, fd, M, F⟩ := D.ex
  refine ⟨f, fd, ps, M, ?_, okN F S len (hbody f), F.binds hb⟩
  obtain ⟨oc, od, kV, doc, pm, an, cdv, ct, osl, rfl, lk, hcd⟩ := F.ex
  unfold PySem.W.fnIn
  rw [lk]
end
def tCallO (C : Addr) (sp : Sp) (E : XK) (ta : TE) (t : TA) : TE := fun σ H Q => ta σ H fun x H1 => ∃ a, x = .ref a ∧ t σ H1 fun vs H2 => ∃ dx fs, H2 a = some (.ins C dx fs) ∧ sp (x :: vs) H2 Q E
theorem with_obj {M : Model} {A : Around} {E : Value → Shared → Prop} {s : Shared} {pos : Pos} {x : Addr} {Q : Value → Shared → Prop} {args : List (Bool × Sem Value)} (few : (args.any (·.1)) = false)
    (h : wpAny M A (evalArgs (.ref x) true args []) (fun a s1 => (∃ o, s1.heap.get? x = some o ∧ o.data = .plain) ∧ wpAny M A (call (.ref x) ([] ++ a.pos) a.kw) Q E s1) E s) : wpAny M A (callWith pos (.ref x) [] args []) Q E s := by
  have none_ : (args.any (·.1) || ([] : List (Option Str × Sem Value)).any (·.1.isNone)) = false := by rw [few]; rfl
  unfold callWith
  refine wpAny_bind (wpAny_holding (wpAny_mono h (fun a s1 r => wpAny_bind (wpAny_standAt ?_)) fun _ _ e => e))
  obtain ⟨⟨o, at_, plain⟩, run⟩ := r
  have keeps : PySem.W.Looks M s1.heap (keeperOf (.ref x)) .caller := by
    refine (PySem.W.Looks.ld (part := none) at_).andThen ?_
    simp only [plain]
    exact .now
  simp only [none_]
  refine wpAny_bind (keeps.here ?_)
  exact wpAny_bind (wpAny_mono (wpAny_operateT run) (fun r s2 q => wpAny_bind (wpAny_holding (wpAny_point (wpAny_pure q)))) fun _ _ e => e)
theorem pe_callO {X : Cx} {k j : Nat} {C : Addr} {x : Str} {sp : Sp} {p pos : Pos} {e : Expr} {es : List Expr} {ta : TE} {t : TA} {E : XK} (c : MetF X.prog X.w X.K X.mg X.base k C "__call__" sp) (hr : Room j X.A) (hk : k ≤ j) (hx : Passes (L2.CX X.prog X.w) X E) (he : PE X (.Name x p) ta) (ha : PA X (e :: es) t)
    (hst : starEach (e :: es) X.env = (false, eval e X.env) :: starEach es X.env := by rfl) (hpl : (backTo pos (starEach es X.env)).any (·.1) = false := by rfl) :
    PE X (.Call (.Name x p) (e :: es) [] pos) (tCallO C sp E ta t) := by
  obtain ⟨f, fd, ps, M, fin, F, b⟩ := c.ex
  refine ⟨fun pins s σ H Q I h => ?_⟩
  refine wpAny_Call_Name_kw (thn (he.run pins s σ H _ I h) fun u s1 ⟨v, H1, I1, r1, q1⟩ => ?_)
  obtain ⟨a, rfl, q1⟩ := q1
  cases r1
  have args := ha.run pos pins s1 σ H1 _ I1 q1
  rw [hst] at args ⊢
  refine with_obj (by show (false || (backTo pos (starEach es X.env)).any (·.1)) = false; rw [hpl]; rfl) (Calls.evalArgs_plain (thn args fun us s2 ⟨vs, H2, I2, r2, q2⟩ => ?_))
  obtain ⟨dx, fs, hi, q2⟩ := q2
  obtain ⟨mA, J, _⟩ := ins_get I2.hok hi
  obtain ⟨od, J, _⟩ := J.look
  refine ⟨⟨_, J.at_, rfl⟩, wpAny_call (PySem.W.kco_code I2.kIn J rfl M.at_ M.fn fin ?_)⟩
  have there := I2.env0
  have bound := b s2 (.ref a :: us) I2.kIn (by rw [List.append_nil]; have := F.len _ _ _ _ q2; have := r2.length; simp only [List.length_cons] at *; omega)
  rw [List.append_nil] at bound
  refine codeAny_mono (F.run X.A X.stack s2 H2 ⟨.ref a :: us, []⟩ (.ref a :: us) (.ref a :: vs) Q E (hr.mono hk) { there with frames := there.frames } bound (.cons rfl r2) q2) fun r s' done => ?_
  cases r with
  | error z => exact hx pins σ H2 s2 z s' I2 done
  | ok fl =>
    cases fl with
    | ret u => exact I2.after done
    | next => exact False.elim done
    | brk => exact False.elim done
    | cont => exact False.elim done
end Tr

/-! # A law that makes lambdas: its code object and the table are known; f(lambda: e). -/
namespace Tr
open PySem PySem.Spec PyProof.Rows L2
section
variable {P : Program} {w : World} {K : PySem.W.Frag} {mg : Str → Option Value} {base : Heap}
theorem okT {x qual : Str} {st : Stmt} {f c : Addr} {fd : FuncData} {N ps : List Str} {k : Nat} {sp : Sp} (F : Fun K x qual st f fd) (hc : fd.code = .ref c) (S : FnScope N ps (defScope st)) (len : ∀ vs H Q E, sp vs H Q E → vs.length = ps.length)
    (hbody : ∀ (A : Around) (outer : List Env) (s : Shared) (H : Hp) (vs : List V) (Q : VK) (E : XK), Room k (A.deeper (envOfC qual (defScope st) s.heap.objs.size f (.ref c))) → sp vs H Q E →
      ∃ t, PSs (cxOf (L2.CX P w) P w K mg base N qual (defScope st) f (.ref c) A outer s H E).nox (defBody st) t ∧ t { nx := fun _ H' => Q .non H', rt := Q } (start N vs) H) : FnOk P w K mg base (L2.CX P w) (k + 1) f fd ps sp := by
  obtain ⟨oc, od, kV, doc, pm, an, cdv, ct, osl, rfl, lk, hcd⟩ := F.ex
  obtain rfl : cdv = .ref c := hc
  exact fn_of lk hcd S len fun A outer s H vs Q E hr h =>
    let ⟨t, h1, h2⟩ := hbody A outer s H vs Q E hr h
    ⟨t, h1.nox, h2⟩
end
section
variable {X : Cx}
/-- f(lambda: e), f a def of the module of one parameter -/
theorem pe_lam {T : List (Addr × Str)} {TT : (XK → Hp → VK → Prop) → Hp → VK → Prop} {x a : Str} {st : Stmt} {c Pt : Addr} {k j : Nat} {Ng : List Str} {params : Arguments} {body : Expr} {scope : Scope} {t : XK → TE} {p lpos pos : Pos}
    (D : Dfn X.K X.mg x st) (Sg : FnScope Ng [a] (defScope st)) (hNg : Ng[0]? = some a) (hva : Vis (defScope st) a)
    (hb : ∀ (kV doc pm : Value) (an : Option Addr) (cdv ct : Value) (us : List Value), us.length = [a].length → bindArgs (PySem.W.fnOf x x (defArgs st) (defBody st) (defScope st) .none kV doc pm an cdv ct) ⟨us, []⟩ = pure ([a].zip us))
    (hG : ∀ g cdg, LamX.GivesTo X Ng x (defScope st) g cdg (defBody st) a (X.env.qual ++ "<lambda>") TT) (hg : Gl X x)
    (TB : LamX.TabB X.base X.mg c Pt) (hcode : X.env.code = .ref c) (hmT : (Pt, X.env.qual ++ "<lambda>") ∈ T) (hu : ∀ p ∈ T, p.1 = Pt → p.2 = X.env.qual ++ "<lambda>") (hr : Room j X.A) (hk : k + 2 ≤ j) (L : LamX.LamS X.env.scope scope) (hdef : defaultsOf params X.env = ([], []))
    (hbind : ∀ (q : Str) (cl : List (Str × Addr)) (pm cv ctv : Value), bindArgs (PySem.W.kla_fn "<lambda>" q params body scope cl pm cv ctv) ⟨[], []⟩ = pure [])
    (hbody : ∀ (A : Around) (outer : List Env) (s : Shared) (H : Hp) (E : XK) (f c' : Addr), Room k (A.deeper (LamX.lamEnv X scope s.heap.objs.size f c')) → PE (LamX.lamCx X A outer s H E scope f c') body (t E))
    (hdb : (x == ("__debug__" : Str)) = false := by decide) (hd : (a == ("__debug__" : Str)) = false := by decide) (hcd : (a == ("__classdict__" : Str)) = false := by decide) :
    PE X (.Call (.Name x p) [.Lambda params body scope lpos] [] pos) (LamX.tLam T TT t) := by
  obtain ⟨g, fd, F, hm⟩ := D
  have b := F.binds hb
  have kp := F.kp
  obtain ⟨oc, od, kV, doc, pm, an, cdv, ct, osl, rfl, lk, hcg⟩ := F.ex
  exact LamX.pe_lamcall hg hm kp lk hcg b Sg hNg hva (hG g cdv) TB hcode hmT hu (hr.mono hk) L hdef hbind hbody hdb hd hcd
/-- the same with one table -/
theorem pe_lam1 {TT : (XK → Hp → VK → Prop) → Hp → VK → Prop} {x a q : Str} {st : Stmt} {c Pt : Addr} {k j : Nat} {Ng : List Str} {params : Arguments} {body : Expr} {scope : Scope} {t : XK → TE} {p lpos pos : Pos} (hq : X.env.qual ++ "<lambda>" = q)
    (D : Dfn X.K X.mg x st) (Sg : FnScope Ng [a] (defScope st)) (hNg : Ng[0]? = some a) (hva : Vis (defScope st) a)
    (hb : ∀ (kV doc pm : Value) (an : Option Addr) (cdv ct : Value) (us : List Value), us.length = [a].length → bindArgs (PySem.W.fnOf x x (defArgs st) (defBody st) (defScope st) .none kV doc pm an cdv ct) ⟨us, []⟩ = pure ([a].zip us))
    (hG : ∀ g cdg, LamX.GivesTo X Ng x (defScope st) g cdg (defBody st) a (X.env.qual ++ "<lambda>") TT) (hg : Gl X x)
    (TB : LamX.TabB X.base X.mg c Pt) (hcode : X.env.code = .ref c) (hr : Room j X.A) (hk : k + 2 ≤ j) (L : LamX.LamS X.env.scope scope) (hdef : defaultsOf params X.env = ([], []))
    (hbind : ∀ (q : Str) (cl : List (Str × Addr)) (pm cv ctv : Value), bindArgs (PySem.W.kla_fn "<lambda>" q params body scope cl pm cv ctv) ⟨[], []⟩ = pure [])
    (hbody : ∀ (A : Around) (outer : List Env) (s : Shared) (H : Hp) (E : XK) (f c' : Addr), Room k (A.deeper (LamX.lamEnv X scope s.heap.objs.size f c')) → PE (LamX.lamCx X A outer s H E scope f c') body (t E))
    (hdb : (x == ("__debug__" : Str)) = false := by decide) (hd : (a == ("__debug__" : Str)) = false := by decide) (hcd : (a == ("__classdict__" : Str)) = false := by decide) :
    PE X (.Call (.Name x p) [.Lambda params body scope lpos] [] pos) (LamX.tLam [(Pt, q)] TT t) := by
  subst hq
  exact pe_lam D Sg hNg hva hb hG hg TB hcode List.mem_cons_self (fun p hp _ => by rw [List.mem_singleton.mp hp]) hr hk L hdef hbind hbody hdb hd hcd
/-- try: a() / except CS: return True, and False behind it: what it makes of the lambda's reading -/
def TRef (K : PySem.W.Frag) (CS : Addr) : (XK → Hp → VK → Prop) → Hp → VK → Prop := fun tl H Q =>
  tl (fun cls _ H' => ∃ b, PySem.W.exmOne K cls (.ref CS) = some b ∧ (b = true → Q (.bl true) H') ∧ (b = false → False)) H fun _ H' => Q (.bl false) H'
theorem refuses_gives {Ng : List Str} {x a e q : Str} {sg : Scope} {g CS : Addr} {cdg : Value} {j1 j2 : Nat} {p1 p2 p3 p4 p5 p6 p7 p8 p9 p0 : Pos} (ge : sg.names.lookup e = some .globalImplicit) (me : X.mg e = some (.ref CS)) (de : (e == ("__debug__" : Str)) = false) (h0 : ∀ f : Addr, (L2.start Ng [V.ref f])[0]? = some (some (V.ref f))) :
    LamX.GivesTo X Ng x sg g cdg [.Try [.Expr (.Call (.Name a p1) [] [] p2) p3] [.ExceptHandler (some (.Name e p4)) none [.Return (some (.Constant (.bool true) j1 p5)) p6] p7] [] [] p8, .Return (some (.Constant (.bool false) j2 p9)) p0] a q (TRef X.K CS) := by
  intro f c' s H Q tl act hc h
  refine ⟨_, pss_cons (ps_try_only (X := (cxOf C8.CX0 X.prog X.w X.K X.mg X.base Ng x sg g cdg X.A X.stack s H C8.E0).nox) (c := .ref CS)
      (tb := fun W D σ H => ∃ Ew : XK, (∀ cls d σ' H', Ew cls d H' → W cls d σ' H') ∧ σ[0]? = some (some (.ref f)) ∧ H c' = some (LamX.CodeO c' q) ∧ tl Ew H fun _ H' => D.nx σ H')
      rfl rfl ⟨ge, de, .inl me⟩ LamX.takes0 (fun W pn xe tk _ => ⟨fun pins s' σ H' D I ⟨Ew, wish, h1, h2, h3⟩ => ?_⟩) (fun a oe cls d pn _ _ => pss_one (ps_ret pe_bl))) (pss_one (ps_ret pe_bl)), ?_⟩
  · exact (pss_one (ps_expr (pos := p3) (act W pn xe Ew p1 p2 tk wish))).run pins s' σ H' D I ⟨h1, h2, h3⟩
  · exact ⟨fun cls _ H' => ∃ b, PySem.W.exmOne X.K cls (.ref CS) = some b ∧ (b = true → Q (.bl true) H') ∧ (b = false → False), fun cls d σ' H' ⟨b, e1, e2, e3⟩ => ⟨b, e1, fun hb a _ => e2 hb, fun hb => e3 hb⟩, h0 f, hc, h⟩
end
end Tr

/-! # A class method called in a try; in, not in. -/
namespace Tr
open PySem L2 TL
def tCMethS (C : Addr) (sp : Sp) (E : L2.St → XK) (ta : TE) (t : TA) : TE := fun σ H Q => ta σ H fun x H1 => x = .ref C ∧ t σ H1 fun vs H2 => sp (.ref C :: vs) H2 Q (E σ)
theorem run_fnRS {X : Cx} {pins : List (Addr × Obj)} {σ : L2.St} {H : Hp} {s : Shared} {CX : CXT} {k : Nat} {f : Addr} {sp : Sp} {E : L2.St → XK} {Q : VK} {us : List Value} {vs : List V} (F : FnR X.prog X.w X.K X.mg X.base CX k f sp) (hr : Room k X.A) (hx : PassesAt CX X σ (E σ)) (I : Inv X pins σ H s) (r : Vals vs us) (h : sp vs H Q (E σ)) :
    codeAny (model X.prog X.w) X.A (.call (.ref f) ⟨us, []⟩) (fun r s' => match r with | .ok (.ret v) => EP X pins σ Q v s' | .ok _ => False | .error e => X.xe e s') s := by
  refine codeAny_mono (F X.A X.stack s H us vs Q (E σ) hr I.env0 r h) fun r s' hq => ?_
  cases r with
  | error e => exact hx pins H s e s' I hq
  | ok fl =>
    cases fl with
    | ret u => exact I.after hq
    | next => exact False.elim hq
    | brk => exact False.elim hq
    | cont => exact False.elim hq
theorem run_cmS {X : Cx} {pins : List (Addr × Obj)} {σ : L2.St} {H : Hp} {s : Shared} {CX : CXT} {k : Nat} {C g q : Addr} {sp : Sp} {E : L2.St → XK} {Q : VK} {us : List Value} {vs : List V} (F : FnR X.prog X.w X.K X.mg X.base CX k g sp) (hr : Room k X.A) (hx : PassesAt CX X σ (E σ)) (I : Inv X ((q, PySem.W.methodObj (.ref g) (.ref C)) :: pins) σ H s)
    (r : Vals vs us) (h : sp (.ref C :: vs) H Q (E σ)) : wpAny (model X.prog X.w) X.A (call (.ref q) us) (EP X pins σ Q) X.xe s := by
  have z : wpAny (model X.prog X.w) X.A (call (.ref q) us) (EP X ((q, PySem.W.methodObj (.ref g) (.ref C)) :: pins) σ Q) X.xe s :=
    wpAny_call (PySem.W.method_call (ClX.pin_at I) (run_fnRS (us := .ref C :: us) (vs := .ref C :: vs) F hr hx I (.cons rfl r) h))
  exact thn z fun _ _ y => ClX.unpinE y
/-- C.m(e, ..), m a class method, in a try -/
theorem pe_cmeS {X : Cx} {k j : Nat} {C : Addr} {m : Str} {sp : Sp} {pos apos : Pos} {e o : Expr} {es : List Expr} {ta : TE} {t : TA} {E : L2.St → XK} {pl : Sem Bool} (c : Cme X.prog X.w X.K X.mg X.base k C m sp) (hr : Room j X.A) (hk : k ≤ j) (hx : ∀ σ, PassesAt (L2.CX X.prog X.w) X σ (E σ)) (he : PE X o ta) (ha : PA X (e :: es) t)
    (hst : starEach (e :: es) X.env = (false, eval e X.env) :: starEach es X.env := by rfl) (hpl : (backTo pos (starEach es X.env)).any (·.1) = false := by rfl)
    (ht : eval (.Call (.Attribute o m apos) (e :: es) [] pos) X.env = (do
      let ov ← eval o X.env
      standAt apos.atName
      let (f, first) ← holding [ov] (getMethod ov m pl)
      callWith pos f first (backTo pos (starEach (e :: es) X.env)) (backToKw pos (keywordEach [] X.env))) := by rfl) :
    PE X (.Call (.Attribute o m apos) (e :: es) [] pos) (tCMethS C sp E ta t) := by
  obtain ⟨p, g, r, c, F⟩ := c.ex
  refine ⟨fun pins s σ H Q I h => ?_⟩
  refine PySem.W.methodCall_KW (pl := pl) (thn (he.run pins s σ H _ I h) fun u s1 ⟨x, H1, I1, rx, ex, q⟩ => ?_) ht
  subst ex
  obtain rfl : u = Value.ref C := rx
  refine ClX.getmethcm_ok I1 r c fun s2 I2 => ?_
  refine ClX.callwith_cm I2 (ClX.base_none I1 (Nat.le_refl _)) c.fi (thn (ha.run pos _ s2 σ H1 _ I2 q) fun us s3 ⟨vs, H2, I3, rv, q2⟩ => ⟨⟨ClX.pin_at I3, I3.kIn⟩, ?_⟩) hst hpl
  exact run_cmS F (hr.mono hk) (hx σ) I3 rv q2
theorem units65 {A : Around} {k : Nat} (hr : Room k A) : A.units + 65 < cLine := by
  have := hr.un
  omega
theorem op_notIn_seqK {X : Cx} (K : PySem.W.Frag) (hk : X.K = K := by rfl) : OpR X (compareOp .NotIn) (rIn K true) := by
  subst hk
  exact op_notIn_seq
end Tr

/-! # A binary operator of two own classes; a method with a default, called with keywords. -/
namespace Tr
open PySem PySem.Spec PyProof.Rows L2
/-- what x op y leans on, x of the class C, y of the class D -/
structure TwoOp (K : PySem.W.Frag) (C D : Addr) (nm : String) : Prop where
  hc : PySem.W.selfFirst K C = true
  hd : PySem.W.selfFirst K D = true
  ne : C ≠ D
  rc : ∃ rc, PySem.W.findIn K (.ref C) (dunderR nm) = some rc ∧ (rc = none ∨ ∃ g : Addr, rc = some (.ref g))
  rd : ∃ rc, PySem.W.findIn K (.ref D) (dunderR nm) = some rc ∧ (rc = none ∨ ∃ g : Addr, rc = some (.ref g))
  sub : PySem.W.subIn K (.ref D) (.ref C) = some false
def refB (o : Option (Option Value)) : Bool := match o with
  | some none => true
  | some (some (.ref _)) => true
  | _ => false
theorem refB_ok {o : Option (Option Value)} (h : refB o = true) : ∃ rc, o = some rc ∧ (rc = none ∨ ∃ g : Addr, rc = some (.ref g)) := by
  unfold refB at h
  split at h
  · exact ⟨none, rfl, .inl rfl⟩
  · rename_i g
    exact ⟨_, rfl, .inr ⟨g, rfl⟩⟩
  · cases h
def twoB (c d : Str) (nm : String) (K : PySem.W.Frag) : Bool :=
  PySem.W.selfFirst K (He.ga K c) && (PySem.W.selfFirst K (He.ga K d) && (decide (He.ga K c ≠ He.ga K d) && (refB (PySem.W.findIn K (.ref (He.ga K c)) (dunderR nm)) && (refB (PySem.W.findIn K (.ref (He.ga K d)) (dunderR nm)) &&
    decide (PySem.W.subIn K (.ref (He.ga K d)) (.ref (He.ga K c)) = some false)))))
theorem twoB_ok {c d : Str} {nm : String} {K : PySem.W.Frag} (h : twoB c d nm K = true) : TwoOp K (He.ga K c) (He.ga K d) nm := by
  obtain ⟨h1, h⟩ := He.ba h
  obtain ⟨h2, h⟩ := He.ba h
  obtain ⟨h3, h⟩ := He.ba h
  obtain ⟨h4, h⟩ := He.ba h
  obtain ⟨h5, h6⟩ := He.ba h
  exact ⟨h1, h2, of_decide_eq_true h3, refB_ok h4, refB_ok h5, of_decide_eq_true h6⟩
section
variable {prog : Program} {w : World} {A : Around} {E : Value → Shared → Prop} {s : Shared} {K : PySem.W.Frag} {x y C D L f g f2 : Addr} {h₀ : Heap} {m : Str → Option Value} {ox oy : Obj} {od od' : Option Obj}
theorem binop_two {op : Operator} {Q : Value → Shared → Prop} {R : Shared → Prop} (F : Fr h₀ L s.heap m) (X₀ : K.In h₀) (I : PySem.W.InstAt s.heap x ox C od) (J : PySem.W.InstAt s.heap y oy D od') (t : TwoOp K C D op.info.2)
    (hs : PySem.W.findIn K (.ref C) (PySem.dunder op.info.2) = some (some (.ref f))) (hd : PySem.W.findIn K (.ref D) (PySem.dunder op.info.2) = some (some (.ref g)))
    (h : wpAny (model prog w) A (tryMethod (.ref x) (PySem.dunder op.info.2) (.ref y)) (fun r s' => (∃ v, r = some v ∧ Q v s') ∨ (r = none ∧ R s')) E s)
    (h2 : ∀ s', R s' → PySem.W.Looks (model prog w) s'.heap (typeOf (.ref x)) (.ref C) ∧ PySem.W.Looks (model prog w) s'.heap (typeOf (.ref y)) (.ref D) ∧
      wpAny (model prog w) A (tryMethod (.ref y) (dunderR op.info.2) (.ref x)) (fun r s'' => ∃ v, r = some v ∧ Q v s'') E s') : wpAny (model prog w) A (binaryOp op (.ref x) (.ref y)) Q E s := by
  have X := X₀.keeps F.keep
  obtain ⟨cd, rest, hcd, hm⟩ := PySem.W.ksp_first t.hc
  obtain ⟨cd2, rest2, hcd2, hm2⟩ := PySem.W.ksp_first t.hd
  rcases hi : op.info with ⟨sym, nm'⟩
  have t' := t
  rw [hi] at hs hd h h2 t'
  dsimp only at hs hd h h2 t'
  obtain ⟨rc, rc1, rc2⟩ := t'.rc
  obtain ⟨rd, rd1, rd2⟩ := t'.rd
  have L1 : PySem.W.Looks (model prog w) s.heap (typeOf (.ref x)) (.ref C) := I.type
  have L2 : PySem.W.Looks (model prog w) s.heap (typeOf (.ref y)) (.ref D) := J.type
  have L3 : PySem.W.Looks (model prog w) s.heap (fillsNumberSlot (.ref C) nm') true := PySem.W.fills_K X hcd hm hs
  have L4 : PySem.W.Looks (model prog w) s.heap (fillsNumberSlot (.ref D) nm') true := PySem.W.fills_K X hcd2 hm2 hd
  have L5 : PySem.W.Looks (model prog w) s.heap (isSubtype (.ref D) (.ref C)) false := PySem.W.looks_subIn X t'.sub
  have L6 : PySem.W.Looks (model prog w) s.heap (numberSlotInPython (.ref C) nm') true := PySem.W.ksp_inPy X hs rc1 rc2
  have L7 : PySem.W.Looks (model prog w) s.heap (numberSlotInPython (.ref D) nm') true := PySem.W.ksp_inPy X hd rd1 rd2
  have hne : (Value.ref C == Value.ref D) = false := Bool.eq_false_iff.mpr fun q => t.ne (by cases beq_iff_eq.mp q; rfl)
  simp only [binaryOp, hi]
  refine wpAny_holding (wpAny_bind ?_)
  unfold binaryOp1
  refine wpAny_bind (L1.here (wpAny_bind (L2.here (wpAny_bind (L3.here ?_)))))
  simp only [hne, Bool.false_eq_true, if_false]
  refine wpAny_bind (L4.here ?_)
  simp only [Bool.and_self, if_true]
  refine wpAny_bind (L5.here ?_)
  simp only [Bool.false_eq_true, if_false, Bool.not_false, Bool.and_self, if_true]
  refine wpAny_bind (L6.here ?_)
  simp only [Bool.false_eq_true, if_false, Bool.not_false, Bool.and_self, if_true]
  refine wpAny_bind (L7.here ?_)
  simp only [Bool.false_eq_true, if_false, Bool.not_true, Bool.not_false, Bool.and_self, if_true]
  refine wpAny_bind (wpAny_mono h (fun r s' q => ?_) fun _ _ z => z)
  rcases q with ⟨v, rfl, q⟩ | ⟨rfl, q⟩
  · exact wpAny_pure (wpAny_pure q)
  · obtain ⟨M1, M2, h2⟩ := h2 s' q
    refine wpAny_bind (M1.here (wpAny_bind (M2.here ?_)))
    simp only [hne, Bool.false_eq_true, if_false, Bool.not_false, Bool.and_self, if_true]
    refine wpAny_bind (wpAny_mono h2 (fun r s'' q => ?_) fun _ _ z => z)
    obtain ⟨v, rfl, q⟩ := q
    exact wpAny_bind (wpAny_rule (wpAny_pure (wpAny_pure q)))
end
section
variable {X : Cx} {k k2 k3 : Nat} {C D : Addr} {m m2 : Str} {sp sp2 sp3 : Sp} {E : XK}
/-- x op y by the method of x -/
def rBinD (C D : Addr) (sp : Sp) (E : XK) : R2 := fun x y H Q => ∃ a dx fs b dy gs, x = .ref a ∧ y = .ref b ∧ H a = some (.ins C dx fs) ∧ H b = some (.ins D dy gs) ∧ sp [x, y] H (fun v H' => ∃ z, v = .ref z ∧ Q (.ref z) H') E
theorem or_binD {op : Operator} (c : Met X.prog X.w X.K X.mg X.base k C m sp []) (c2 : Met X.prog X.w X.K X.mg X.base k2 D m sp2 []) (hm : PySem.dunder op.info.2 = m) (t : TwoOp X.K C D op.info.2) {j : Nat} (hr : Room j X.A) (hk : k ≤ j) (hx : Passes (L2.CX X.prog X.w) X E) : OpR X (binaryOp op) (rBinD C D sp E) := by
  subst hm
  obtain ⟨f, fd, ps, ds, hc, hm, F, b, d⟩ := c.ex
  obtain ⟨f2, _, _, _, _, hm2, _, _, _⟩ := c2.ex
  cases d
  intro pins s σ H x y v u Q I rx ry h
  obtain ⟨a, dx, fs, c, dy, gs, rfl, rfl, ha, hc', h⟩ := h
  cases rx
  cases ry
  obtain ⟨mA, J, _⟩ := ins_get I.hok ha
  obtain ⟨mB, J', _⟩ := ins_get I.hok hc'
  obtain ⟨od, J, _⟩ := J.look
  obtain ⟨od', J', _⟩ := J'.look
  obtain ⟨m, hF⟩ := I.fr
  refine binop_two (R := fun _ => False) hF I.ok.mod.kin J J' t hm.at_ hm2.at_ ?_ (fun _ z => z.elim)
  refine wpAny_mono (PySem.W.ksp_try I.kIn J hm.at_ hm.fn (Q := EP X pins σ fun v H' => Q v H') ?_) (fun r s' q => .inl q) fun _ _ z => z
  refine wpAny_mono (run_at F (hr.mono hk) rfl b hx I (us := [.ref a, .ref c]) (vs := [.ref a, .ref c]) (.cons rfl (.cons rfl .nil)) h) (fun r s' q => ?_) fun _ _ z => z
  obtain ⟨z, H', I', rz, b', rfl, q⟩ := q
  cases rz
  exact ⟨.ref b', H', I', rfl, q⟩
/-- x op y by the reflected method of y, the method of x declines -/
def rBinN (C D : Addr) (spN : List V → Hp → Prop) (sp : Sp) (E : XK) : R2 := fun x y H Q => ∃ a dx fs b dy gs, x = .ref a ∧ y = .ref b ∧ H a = some (.ins C dx fs) ∧ H b = some (.ins D dy gs) ∧ spN [x, y] H ∧ sp [y, x] H (fun v H' => ∃ z, v = .ref z ∧ Q (.ref z) H') E
theorem or_binN {op : Operator} {spN : List V → Hp → Prop} (c : NiMet X.prog X.w X.K X.mg X.base k C m spN) (c2 : Met X.prog X.w X.K X.mg X.base k2 D m sp2 []) (c3 : Met X.prog X.w X.K X.mg X.base k3 D m2 sp []) (hm : PySem.dunder op.info.2 = m) (hm2 : dunderR op.info.2 = m2) (t : TwoOp X.K C D op.info.2) {j : Nat} (hr : Room j X.A) (hk : k ≤ j) (hk3 : k3 ≤ j)
    (hx : Passes (L2.CX X.prog X.w) X E) : OpR X (binaryOp op) (rBinN C D spN sp E) := by
  subst hm hm2
  obtain ⟨f, fd, ps, hc, hm, F1, b1⟩ := c.ex
  obtain ⟨f2, _, _, _, _, hm2, _, _, _⟩ := c2.ex
  obtain ⟨f3, fd3, ps3, ds3, hc3, hm3, F, b, d⟩ := c3.ex
  cases d
  intro pins s σ H x y v u Q I rx ry h
  obtain ⟨a, dx, fs, c, dy, gs, rfl, rfl, ha, hc', hn, h⟩ := h
  cases rx
  cases ry
  obtain ⟨mA, J0, _⟩ := ins_get I.hok ha
  obtain ⟨mB, J0', _⟩ := ins_get I.hok hc'
  obtain ⟨od, J, _⟩ := J0.look
  obtain ⟨od', J', _⟩ := J0'.look
  obtain ⟨m, hF⟩ := I.fr
  refine binop_two (R := fun s' => Inv X pins σ H s') hF I.ok.mod.kin J J' t hm.at_ hm2.at_ ?_ (fun s' I' => ?_)
  · unfold tryMethod
    refine wpAny_bind (PySem.W.special_fn I.kIn J hm.at_ (beq_iff_eq.mp hm.fn) (wpAny_mono (run_ni F1 (hr.mono hk) rfl b1 I (us := [.ref a, .ref c]) (vs := [.ref a, .ref c]) (.cons rfl (.cons rfl .nil)) hn) (fun v s' hv => ?_) fun _ _ e => e))
    obtain ⟨rfl, I'⟩ := hv
    exact wpAny_pure (.inr ⟨rfl, I'⟩)
  · obtain ⟨mA', K0, _⟩ := ins_get I'.hok ha
    obtain ⟨mB', K0', _⟩ := ins_get I'.hok hc'
    obtain ⟨od2, K1, _⟩ := K0.look
    obtain ⟨od2', K1', _⟩ := K0'.look
    refine ⟨K1.type, K1'.type, ?_⟩
    refine PySem.W.ksp_try I'.kIn K1' hm3.at_ hm3.fn ?_
    refine wpAny_mono (run_at F (hr.mono hk3) rfl b hx I' (us := [.ref c, .ref a]) (vs := [.ref c, .ref a]) (.cons rfl (.cons rfl .nil)) h) (fun r s' q => ?_) fun _ _ z => z
    obtain ⟨z, H', I'', rz, b', rfl, q⟩ := q
    cases rz
    exact ⟨.ref b', H', I'', rfl, q⟩
end
/-! ### a method with defaults -/
structure MthD (K : PySem.W.Frag) (C : Addr) (m qual : Str) (st : Stmt) (dvs : List V) : Prop where
  cls : Cls K C
  ex : ∃ f fd, Meth K C m f ∧ FunD K m qual (defArgs st) (defBody st) (defScope st) dvs [] f fd
/-- a method that is called with keywords ks behind n positional values (self among them) -/
structure MetK (P : Program) (w : World) (K : PySem.W.Frag) (mg : Str → Option Value) (base : Heap) (k : Nat) (C : Addr) (m : Str) (sp : Sp) (n : Nat) (ks : List Str) (gV : List V → List V → List V) : Prop where
  ex : ∃ (f : Addr) (fd : FuncData) (ps : List Str) (g : List Value → List Value → List Value), Cls K C ∧ Meth K C m f ∧ FnOk P w K mg base (L2.CX P w) k f fd ps sp ∧ KBn K fd ps n ks g gV
/-- o.m(k = v, ..) -/
def tMethK (C : Addr) (m : Str) (nk : Nat) (sp : Sp) (gV : List V → List V → List V) (E : XK) (ta : TE) (tk : TA) : TE := fun σ H Q => ta σ H fun x H1 => ∃ a dx fs, x = .ref a ∧ H1 a = some (.ins C dx fs) ∧ fs.lookup m = none ∧ tk σ H1 fun zs H2 => zs.length = nk ∧ sp (gV [x] zs) H2 Q E
theorem pe_mtk {X : Cx} {k j : Nat} {C : Addr} {m : Str} {sp : Sp} {ks : List Str} {gV : List V → List V → List V} {E : XK} {o : Expr} {ta : TE} {tk : TA} {kws : List Keyword} {apos pos : Pos} {pl : Sem Bool} (c : MetK X.prog X.w X.K X.mg X.base k C m sp 1 ks gV) (hr : Room j X.A) (hk : k ≤ j) (hx : Passes (L2.CX X.prog X.w) X E) (he : PE X o ta) (hkw : PK X kws tk)
    (hall : (backToKw pos (keywordEach kws X.env)).all (·.1.isSome) = true := by rfl) (hks : (backToKw pos (keywordEach kws X.env)).filterMap (·.1) = ks := by rfl) (hpl : ((backTo pos (starEach [] X.env)).any (·.1) || (backToKw pos (keywordEach kws X.env)).any (·.1.isNone)) = false := by rfl)
    (ht : eval (.Call (.Attribute o m apos) [] kws pos) X.env = (do
      let ov ← eval o X.env
      standAt apos.atName
      let (f, first) ← holding [ov] (getMethod ov m pl)
      callWith pos f first (backTo pos (starEach [] X.env)) (backToKw pos (keywordEach kws X.env))) := by rfl) :
    PE X (.Call (.Attribute o m apos) [] kws pos) (tMethK C m ks.length sp gV E ta tk) := by
  obtain ⟨f, fd, ps, g, hc, hm, F, hb⟩ := c.ex
  refine ⟨fun pins s σ H Q I h => ?_⟩
  refine PySem.W.methodCall_KW (pl := pl) (thn (he.run pins s σ H _ I h) fun u s1 ⟨x, H1, I1, rx, a, dx, fs, ex, ea, l, q⟩ => ?_) ht
  subst ex
  obtain rfl : u = Value.ref a := rx
  refine getmeth_ok I1 ea hc hm l ?_
  refine PySem.W.callWith_KW0 (first := [.ref a]) (h₀ := X.base) I.ok.mod.kin hm.kp hall (thn (hkw.run pos pins s1 σ H1 _ I1 q) fun ws s2 ⟨zs, H2, I2, rz, l2, q2⟩ => ⟨I2.kIn, ?_⟩) hpl
  rw [hks]
  exact run_fnN (us := [.ref a]) (vs := [.ref a]) F (hr.mono hk) hb hx I2 (.cons rfl .nil) rz rfl l2 q2
section
variable {P : Program} {w : World} {K : PySem.W.Frag} {mg : Str → Option Value} {base : Heap}
theorem metDN {m qual : Str} {C : Addr} {st : Stmt} {dvs : List V} {N ps : List Str} {k : Nat} {sp : Sp} (D : MthD K C m qual st dvs) (S : FnScope N ps (defScope st)) (len : ∀ vs H Q E, sp vs H Q E → vs.length = ps.length)
    (hbody : ∀ (f : Addr) (cdv : Value) (A : Around) (outer : List Env) (s : Shared) (H : Hp) (vs : List V) (Q : VK) (E : XK), Room k (A.deeper (envOfC qual (defScope st) s.heap.objs.size f cdv)) → sp vs H Q E →
      ∃ t, PSs (cxOf (L2.CX P w) P w K mg base N qual (defScope st) f cdv A outer s H E).nox (defBody st) t ∧ t { nx := fun _ H' => Q .non H', rt := Q } (start N vs) H) :
    ∃ f fd, Cls K C ∧ Meth K C m f ∧ FunD K m qual (defArgs st) (defBody st) (defScope st) dvs [] f fd ∧ FnOk P w K mg base (L2.CX P w) (k + 1) f fd ps sp :=
  let ⟨f, fd, M, F⟩ := D.ex
  ⟨f, fd, D.cls, M, F, F.ok S len fun cdv A outer s H vs Q E hr h =>
    let ⟨t, h1, h2⟩ := hbody f cdv A outer s H vs Q E hr h
    ⟨t, h1.nox, h2⟩⟩
end
end Tr

/-! # Keyword-only parameters; isinstance of a caught error that has fields. -/
namespace Tr
open PySem PySem.Spec PyProof.Rows L2
/-- a def of the module with keyword-only parameters that have constant defaults -/
def DfnK (K : PySem.W.Frag) (mg : Str → Option Value) (x : Str) (st : Stmt) (kws : List (Str × V)) : Prop := ∃ f fd, FunD K x x (defArgs st) (defBody st) (defScope st) [] kws f fd ∧ mg x = some (.ref f)
/-- such a def, called with all its keyword-only parameters written, or without them -/
structure CalK (P : Program) (w : World) (K : PySem.W.Frag) (mg : Str → Option Value) (base : Heap) (k : Nat) (x : Str) (sp : Sp) (dvs : List V) (n : Nat) (ks : List Str) : Prop where
  cal : Cal P w K mg base k x sp dvs
  kw : ∃ (f : Addr) (fd : FuncData) (ps : List Str) (g : List Value → List Value → List Value), FnOk P w K mg base (L2.CX P w) k f fd ps sp ∧ mg x = some (.ref f) ∧ PySem.W.keepIn K (.ref f) = true ∧ KBn K fd ps n ks g (fun vs zs => vs ++ zs)
theorem CalK.mono {P : Program} {w : World} {K : PySem.W.Frag} {mg : Str → Option Value} {base : Heap} {j k n : Nat} {x : Str} {sp : Sp} {dvs : List V} {ks : List Str} (c : CalK P w K mg base j x sp dvs n ks) (h : j ≤ k) : CalK P w K mg base k x sp dvs n ks :=
  ⟨c.cal.mono h, let ⟨f, fd, ps, g, F, r⟩ := c.kw; ⟨f, fd, ps, g, F.mono h, r⟩⟩
section
variable {P : Program} {w : World} {K : PySem.W.Frag} {mg : Str → Option Value} {base : Heap}
theorem calKX {x : Str} {st : Stmt} {kws : List (Str × V)} {N ps ks : List Str} {k n : Nat} {sp : Sp} (D : DfnK K mg x st kws) (S : FnScope N ps (defScope st)) (len : ∀ vs H Q E, sp vs H Q E → vs.length = ps.length) (hk : kws ≠ []) (hn : n + kws.length = ps.length)
    (h0 : ∀ (D : Addr) (doc pm : Value) (an : Option Addr) (cdv ct : Value) (us vs : List Value), us.length = n → vs.length = kws.length → KwChain D ((kws.map (·.1)).zip vs) (bindArgs (PySem.W.fnOf x x (defArgs st) (defBody st) (defScope st) .none (.ref D) doc pm an cdv ct) ⟨us, []⟩) (ps.zip (us ++ vs)))
    (h1 : ∀ (D : Addr) (doc pm : Value) (an : Option Addr) (cdv ct : Value) (us ws : List Value), us.length = n → ws.length = ks.length → bindArgs (PySem.W.fnOf x x (defArgs st) (defBody st) (defScope st) .none (.ref D) doc pm an cdv ct) ⟨us, ks.zip ws⟩ = pure (ps.zip (us ++ ws)))
    (hbody : ∀ (f : Addr) (cdv : Value) (A : Around) (outer : List Env) (s : Shared) (H : Hp) (vs : List V) (Q : VK) (E : XK), Room k (A.deeper (envOfC x (defScope st) s.heap.objs.size f cdv)) → sp vs H Q E →
      ∃ t, PSs (cxOf (L2.CX P w) P w K mg base N x (defScope st) f cdv A outer s H E) (defBody st) t ∧ t { nx := fun _ H' => Q .non H', rt := Q } (start N vs) H) : CalK P w K mg base (k + 1) x sp (kws.map (·.2)) n ks := by
  obtain ⟨f, fd, F, hm⟩ := D
  have ok : FnOk P w K mg base (L2.CX P w) (k + 1) f fd ps sp := F.ok S len (hbody f)
  obtain ⟨ds, hv, hb⟩ := F.binds0 n hk hn h0
  obtain ⟨mv, kb⟩ := F.kbinds0 n ks [] (fun us _ ws => us ++ ws) hk (fun q hq => nomatch hq) (fun a _ b => a.append b) (fun D doc pm an cdv ct us mv ws l1 _ l3 => h1 D doc pm an cdv ct us ws l1 l3)
  exact ⟨⟨f, fd, ps, ds, ok, hm, F.kp, hb, hv⟩, f, fd, ps, _, ok, hm, F.kp, kb⟩
end
/-- f(e, .., k = v, ..) within a try -/
def tKwS (n m : Nat) (sp : Sp) (E : L2.St → XK) (t tk : TA) : TE := fun σ H Q => t σ H fun vs H1 => tk σ H1 fun zs H2 => vs.length = n ∧ zs.length = m ∧ sp (vs ++ zs) H2 Q (E σ)
section
variable {X : Cx} {k j n : Nat} {ks : List Str} {sp : Sp} {dvs : List V} {E : L2.St → XK} {x : Str} {p pos : Pos} {e : Expr} {es : List Expr} {kws : List Keyword} {t tk : TA}
theorem pe_kwS (c : CalK X.prog X.w X.K X.mg X.base k x sp dvs n ks) (hr : Room j X.A) (hle : k ≤ j) (hg : Gl X x) (hx : ∀ σ, PassesAt (L2.CX X.prog X.w) X σ (E σ)) (ha : PA X (e :: es) t) (hkw : PK X kws tk)
    (hall : (backToKw pos (keywordEach kws X.env)).all (·.1.isSome) = true := by rfl) (hks : (backToKw pos (keywordEach kws X.env)).filterMap (·.1) = ks := by rfl)
    (hdb : (x == ("__debug__" : Str)) = false := by decide) (he : starEach (e :: es) X.env = (false, eval e X.env) :: starEach es X.env := by rfl)
    (hpl : ((backTo pos (starEach (e :: es) X.env)).any (·.1) || (backToKw pos (keywordEach kws X.env)).any (·.1.isNone)) = false := by rfl) :
    PE X (.Call (.Name x p) (e :: es) kws pos) (tKwS n ks.length sp E t tk) := by
  obtain ⟨f, fd, ps, g, F, hm, kp, hb⟩ := c.kw
  have F := F.mono hle
  refine ⟨fun pins s σ H Q I h => wpAny_Call_Name_kw (ld_glob I hg hm ?_ hdb)⟩
  refine PySem.W.callWith_KW (h₀ := X.base) I.ok.mod.kin kp hall (thn (ha.run pos pins s σ H _ I h) fun us s1 ⟨vs, H1, I1, r, q⟩ => thn (hkw.run pos pins s1 σ H1 _ I1 q) fun ws s2 ⟨zs, H2, I2, rz, l1, l2, q2⟩ => ⟨I2.kIn, ?_⟩) hpl he
  rw [hks]
  refine wpAny_call (codeAny_mono (F.run X.A X.stack s2 H2 ⟨us, ks.zip ws⟩ (g us ws) (vs ++ zs) Q (E σ) hr I2.env0 (hb.to s2 us ws I2.kIn (r.length.symm.trans l1) (rz.length.symm.trans l2)) (hb.rel r rz) q2) fun z s' hq => ?_)
  match z, hq with
  | .error e, hq => exact hx σ pins H2 s2 e s' I2 hq
  | .ok (.ret u), hq => exact I2.after hq
  | .ok .next, hq => exact hq.elim
  | .ok .brk, hq => exact hq.elim
  | .ok .cont, hq => exact hq.elim
end
/-! ### isinstance(e, C), e a caught error with fields -/
section
variable {prog : Program} {w : World} {A : Around} {E : Value → Shared → Prop} {s : Shared} {F : PySem.W.Frag} {a D : Addr} {o : Obj} {dd : Option Obj}
open PySem.W PySem.Calls in
theorem exc_class {Q : Option Value → Shared → Prop} (T : ExcC F D) (X : F.In s.heap) (I : PySem.W.InstAt s.heap a o D dd) (h : Q (some (.ref D)) { s with toks := s.toks + 1 }) : wpAny (model prog w) A (getAttr? (.ref a) "__class__") Q E s := by
  have hf : PySem.W.findObj F D dd "__class__" = some (.bind (.builtin "getset_descriptor.__get__") (.builtin "object.__class__")) := by
    obtain ⟨cd, hc, _⟩ := any_some T.hd
    unfold PySem.W.findObj
    rw [show PySem.W.clsIn F D = some cd from hc, Option.bind_some, T.ha, Option.bind_some]
    show ((PySem.W.specialIn F (.builtin "object.__class__") "__get__").bind _) = _
    rw [T.hn, Option.bind_some]
    show ((PySem.W.takesIn F (.builtin "object.__class__")).bind _) = _
    rw [T.ht]
    rfl
  obtain ⟨hp, g, d, t, os⟩ := s
  have L0 := I.type (M := model prog w)
  have La := looks_findIn (M := model prog w) X T.hg
  have Lb := looks_findIn (M := model prog w) X T.hk
  have Lc := looks_find (M := model prog w) X I hf
  have own : Looks (model prog w) hp (isInstance (.ref a) (.type "BaseException")) true := L0.andThen (looks_subIn X T.hs)
  have ne : (onTheHeap (Value.ref D) && Value.builtin "BaseException.__getattribute__" == Value.builtin "object.__getattribute__") = false := by
    rw [show (Value.builtin "BaseException.__getattribute__" == Value.builtin "object.__getattribute__") = false by decide +kernel] <;> rfl
  unfold getAttr? getAttrBy? getAttrBy
  refine wpAny_bind (wpAny_mkText (wpAny_bind (wpAny_attempt (wpAny_holding (wpAny_bind (L0.at (wpAny_bind (La.at ?_))))))))
  show wpAny _ _ (ite ((onTheHeap (Value.ref D) && Value.builtin "BaseException.__getattribute__" == Value.builtin "object.__getattribute__") = true) _ _) _ _ _
  rw [ne, if_neg (by decide)]
  unfold getAttrByItsOwn hookBefore
  refine wpAny_bind (by
    rw [if_pos (show onTheHeap (Value.ref D) = true from rfl)]
    refine Lb.at (wpAny_bind (wpAny_attempt (wpAny_holding ?_)))
    unfold callGetattribute
    rw [show (false && onTheHeap (Value.builtin "BaseException.__getattribute__")) = false from rfl, if_neg (by decide)]
    unfold boundAndCalled
    rw [PySem.F.excAttr_ValueError.ga.bind (.ref a)]
    refine wpAny_bind (wpAny_pure (wpAny_call (codeAny_call_builtin PySem.F.excAttr_ValueError.ga.plain PySem.F.entry_bexc_ga ?_)))
    refine @check_slot (model prog w) _ _ ⟨hp, g, d, t + 1, os⟩ "BaseException.__getattribute__" "BaseException" "__getattribute__" (.ref a) [.str "__class__" t] [] _ (by decide +kernel) (by decide +kernel) own (PySem.F.args_bexc_ga (.ref a) (.str "__class__" t)) ?_
    unfold Builtin.«object.__getattribute__»
    refine wpAny_bind (wpAny_of_eq (a := ((Value.ref a : Value), [Value.str "__class__" t])) (by first | rfl | (simp only [slotArgs]; rfl)) (wpAny_bind (wpAny_pure (wpAny_bind (L0.at (wpAny_bind (Lc.at ?_)))))))
    show wpAny _ _ (holding [Value.builtin "object.__class__"] (call (.builtin "getset_descriptor.__get__") [.builtin "object.__class__", .ref a, .ref D]) >>= ret) _ _ _
    refine wpAny_bind (wpAny_holding (wpAny_call (class_get (s := ⟨hp, g, d, t + 1, os⟩) (ox := o) (od := dd) X I T.hm (wpAny_pure ?_))))
    show wpAny _ _ (handedOut (.ref D)) _ _ _
    rw [handedOut_of (v := .ref D) rfl]
    first
      | exact wpAny_pure (wpAny_pure h)
      | exact wpAny_pure h
      | exact wpAny_pure (wpAny_bind (wpAny_pure (wpAny_pure h))))
open PySem.W in
theorem exc_kit (T : ExcC F D) : PySem.W.KitX F (.ref a) (.ref D) (fun h => PySem.W.InstAt h a o D dd) := by
  obtain ⟨cd, hc, _⟩ := any_some T.hd
  obtain ⟨c', d', sl', ho⟩ : ∃ c' d' sl', F.lookup D = some ⟨c', d', .cls cd, sl'⟩ := by
    unfold PySem.W.clsIn at hc
    split at hc
    · rename_i c' d' cd' sl' ho
      cases hc
      exact ⟨_, _, _, ho⟩
    · cases hc
  exact {
    ty := fun _ _ _ I => I.type
    it := fun _ _ X _ A' Q' E' s' k q => by
      unfold isType loadHead
      exact wpAny_bind (wpAny_loadPart (k _ _ (X _ _ ho)) (wpAny_pure q))
    ne := fun h tp dd its n sl X htp => Bool.eq_false_iff.mpr fun q => by
      cases Value.ref.inj (beq_iff_eq.mp q)
      cases (X _ _ ho).symm.trans htp
    ca := fun X I k => exc_class T X I k }
end
theorem excC_of {K : PySem.W.Frag} {C : Addr} (x : XfC K C) (o : IsO K C) : ExcC K C := ⟨x.ga, x.gg, x.exC, x.hdC, o.ha, o.hn, o.ht, o.hm⟩
def rIsX (K : PySem.W.Frag) (a : Addr) (cls : Value) (d : Option Addr) (C : Addr) : List V → Hp → VK → Prop := fun xs H Q => ∃ (c : V) (cv : Value) (b : Bool) (dd : Addr) (fs : List (Str × V)), xs = [.ref a, c] ∧ cls = .ref C ∧ d = some dd ∧ H dd = some (.xd fs) ∧ (∀ u, RelV c u → u = cv) ∧ PySem.W.kitOne K (.ref C) cv = some b ∧ Q (.bl b) H
theorem call_isX {X : Cx} {a C : Addr} {oe : Obj} {cls : Value} {d : Option Addr} {pn : List (Addr × Obj)} (T : ExcC X.K C) (hz : Zc cls d oe) (hf : ∃ vs, oe.data = .fields vs) : CallR (X.suite a ((a, oe) :: pn)) (.builtin "isinstance") (rIsX X.K a cls d C) := by
  intro pins s σ H xs us Q I r ⟨c, cv, b, dd, fs, ex, ec, ed, hx, hcv, e, q⟩
  subst ex ec ed
  match us, r with
  | [_, _], .cons rx (.cons rt .nil) =>
    cases rx
    cases hcv _ rt
    obtain ⟨ha, _⟩ := I.pin (a, oe) (List.mem_append_left _ List.mem_cons_self)
    obtain ⟨vs, hd⟩ := hf
    obtain ⟨mA, hns, _⟩ := (show ObjOk X.prog X.w H s.heap dd (.xd fs) from I.hok dd _ hx)
    obtain ⟨od, ho, _⟩ := lookIn_ns hns
    have J : PySem.W.InstAt s.heap a oe C (some od) := ⟨ha, hz.1, by unfold PySem.W.notCls; rw [hd] <;> rfl, by rw [hz.2]; exact ho⟩
    exact PySem.W.kia_one (exc_kit T) I.kIn J e (fun z => nomatch z) fun tk => ⟨.bl b, H, I.kept (t' := tk) fun _ _ z => z, rfl, q⟩
end Tr

/-! # Texts: repeated, of letters and digits. -/
namespace Tr
open PySem L2 TL
section
variable {X : Cx}
theorem op_mulS : OpR X (binaryOp .Mult) (fun x y H Q => ∃ z n, x = .str z ∧ y = .int n ∧ MulOk z n ∧ Q (.str (Txt.mul z n)) H) := by
  intro pins s σ H x y v u Q I rx ry h
  obtain ⟨z, n, rfl, rfl, ok, q⟩ := h
  obtain ⟨t, rfl⟩ := rx
  obtain ⟨t', rfl⟩ := ry
  exact SB.mul ok fun _ k => ⟨.str _, H, I.tok _, ⟨_, rfl⟩, q⟩
end
theorem mulOk_small {z : Str} {n : Int} (hz : z.length = 1) (h0 : 0 < n) (h1 : n ≤ 100) : MulOk z n := by
  obtain ⟨k, rfl⟩ : ∃ k : Nat, n = (k : Int) := ⟨n.toNat, by omega⟩
  refine ⟨?_, fun _ _ => ?_, fun _ _ => ?_⟩
  · rw [decide_eq_false (by omega), decide_eq_false (by omega)]
    rfl
  · rw [hz]
    have : (1 : Int) ≤ (2 ^ 63 - 1) / (k : Int) := (Int.le_ediv_iff_mul_le (by omega)).mpr (by omega)
    omega
  · rw [hz]
    have hs : sizeLine = 16777216 := sizeLine_eq
    unfold Builtin.Str.tooLong
    simp
    omega
theorem tl_mul {z : Str} {n : Int} (hz : z.length = 1) (h0 : 0 < n) : tl (Txt.mul z n) = (List.replicate n.toNat (tl z)).flatten := by
  have e : ∀ (ls : List (Array Nat)) (a : Array Nat), (ls.foldl (· ++ ·) a).toList = a.toList ++ (ls.map Array.toList).flatten := by
    intro ls
    induction ls with
    | nil => intro a; simp
    | cons l ls ih => intro a; rw [List.foldl_cons, ih]; simp
  unfold Txt.mul
  rw [if_neg (by omega)]
  by_cases h1 : n = 1
  · subst h1
    rw [if_pos (by rw [hz]; decide)]
    show _ = (List.replicate 1 (tl z)).flatten
    simp
  · rw [if_neg (by rw [hz]; simp; exact h1)]
    show ((List.replicate n.toNat z.cps).foldl (· ++ ·) #[]).toList = _
    rw [e, List.map_replicate]
    rfl
def isL (c : Nat) : Prop := 97 ≤ c ∧ c ≤ 122
def isD (c : Nat) : Prop := 48 ≤ c ∧ c ≤ 57
/-- a name -/
def NmOk (z : Str) : Prop := ∃ c r, tl z = c :: r ∧ isL c ∧ r.length ≤ 11 ∧ ∀ d ∈ r, isL d ∨ isD d
/-- a name that ends with the sign of k -/
def Nm (k : Nat) (z : Str) : Prop := NmOk z ∧ ∃ r, tl z = r ++ [48 + k]
theorem Nm.inj {j k : Nat} {z : Str} (h : Nm j z) (h' : Nm k z) : j = k := by
  obtain ⟨r, e⟩ := h.2
  obtain ⟨r', e'⟩ := h'.2
  rw [e] at e'
  have := (List.append_inj' e' rfl).2
  simp at this
  exact this
def abc : Str := "abcdefghijklmnopqrstuvwxyz"
theorem tl_abc : tl abc = List.range' 97 26 := by
  unfold abc
  rw [tl_ofString]
  decide
theorem nm_mk {z : Str} {k : Nat} (hk : k < 10) (h : ∃ c r, tl z = c :: r ∧ isL c ∧ r.length ≤ 10 ∧ ∀ d ∈ r, isL d) : Nm k (z ++ Str.ofString (toString (k : Int))) := by
  obtain ⟨c, r, e, hc, hl, hr⟩ := h
  have e2 : tl (z ++ Str.ofString (toString (k : Int))) = c :: (r ++ [48 + k]) := by rw [tl_append, e, tl_num, numL_lt hk]; rfl
  refine ⟨⟨c, _, e2, hc, by rw [List.length_append]; exact Nat.succ_le_succ hl, fun d hd => ?_⟩, c :: r, e2⟩
  rcases List.mem_append.mp hd with hd | hd
  · exact .inl (hr d hd)
  · rw [List.mem_singleton.mp hd]
    exact .inr ⟨by omega, by omega⟩
theorem num_len {k : Nat} (hk : k < 10) : (Str.ofString (toString (k : Int))).length = 1 := by
  rw [len_tl, tl_num, numL_lt hk]
  rfl
theorem abc_at {j : Nat} (h : j < 26) : atI (abc.cps.toList) (j : Int) = some (97 + j) := by
  refine atI_nat ?_
  show (tl abc)[j]? = _
  rw [tl_abc, List.getElem?_range' h]
  simp
theorem abc_len : abc.length ≤ sizeLine := by
  rw [len_tl, tl_abc]
  decide
end Tr

/-! # Lists and tuples of (text, int) (printed by tools/mkT0b.py). -/
namespace Tr
open PySem L2 TL
abbrev SI := Str × Int
def SrT (H : Hp) (t : Addr) (c : Str × Int) : Prop := H t = some (.tup [.str c.1, .int c.2])
def SL (H : Hp) (p : Addr) (cs : List SI) : Prop := ∃ ts : List Addr, H p = some (.lst (ts.map V.ref)) ∧ P2 (SrT H) ts cs
def ST (H : Hp) (p : Addr) (cs : List SI) : Prop := ∃ ts : List Addr, H p = some (.tup (ts.map V.ref)) ∧ P2 (SrT H) ts cs
theorem SrT.ne {H : Hp} {t D : Addr} {c : SI} {o : HO} (h : SrT H t c) (hD : H D = some o) (no : ∀ xs, o ≠ .tup xs) : t ≠ D := fun e => by
  rw [e] at h
  exact no _ (Option.some.inj (hD.symm.trans h))
theorem P2.sameS {H H' : Hp} (s : Same H H') {ts : List Addr} {cs : List SI} (h : P2 (SrT H) ts cs) : P2 (SrT H') ts cs := h.mono fun _ _ e => s _ _ e
theorem P2.kpS {H H' : Hp} {p : Addr} {o : HO} (k : Kp p H H') (hp : H p = some o) (no : ∀ xs, o ≠ .tup xs) {ts : List Addr} {cs : List SI} (h : P2 (SrT H) ts cs) : P2 (SrT H') ts cs := h.mono fun _ _ e => k _ _ e (e.ne hp no)
theorem SL.same {H H' : Hp} {p : Addr} {cs : List SI} (s : Same H H') (h : SL H p cs) : SL H' p cs :=
  let ⟨ts, a, b⟩ := h
  ⟨ts, s _ _ a, b.sameS s⟩
theorem ST.same {H H' : Hp} {p : Addr} {cs : List SI} (s : Same H H') (h : ST H p cs) : ST H' p cs :=
  let ⟨ts, a, b⟩ := h
  ⟨ts, s _ _ a, b.sameS s⟩
theorem SL.kp {p l : Addr} {H H' : Hp} {o : HO} {cs : List SI} (k : Kp p H H') (hp : H p = some o) (no : ∀ xs, o ≠ .tup xs) (n : l ≠ p) (h : SL H l cs) : SL H' l cs :=
  let ⟨ts, a, b⟩ := h
  ⟨ts, k _ _ a n, b.kpS k hp no⟩
theorem ST.kp {p l : Addr} {H H' : Hp} {o : HO} {cs : List SI} (k : Kp p H H') (hp : H p = some o) (no : ∀ xs, o ≠ .tup xs) (h : ST H l cs) : ST H' l cs :=
  let ⟨ts, a, b⟩ := h
  ⟨ts, k _ _ a (fun e => by rw [e] at a; exact no _ (Option.some.inj (hp.symm.trans a))), b.kpS k hp no⟩
theorem SL.kpB {p l : Addr} {H H' : Hp} {kvs : List (Key × V)} {cs : List SI} (k : Kp p H H') (hp : H p = some (.dK kvs)) (h : SL H l cs) : SL H' l cs :=
  h.kp k hp (fun _ => by intro z; cases z) (let ⟨_, a, _⟩ := h; ne_of a hp (by intro z; cases z))
section
variable {K : PySem.W.Frag}
theorem for_sp {a : Addr} {i1 i2 : Nat} {tb : TS} {D : Ends} {σ : St} {H : Hp} {cs : List (Str × Int)} {ts : List Addr} (Pv : Nat → St → Hp → Prop) (h0 : Pv 0 σ H)
    (hl : ∀ i σ H, i ≤ cs.length → Pv i σ H → SqL K H a (ts.map V.ref) ∧ P2 (SrT H) ts cs)
    (hs : ∀ i c σ H, cs[i]? = some c → Pv i σ H → tb { D with nx := Pv (i + 1), ct := Pv (i + 1), bk := D.nx } ((σ.set i1 (some (.str c.1))).set i2 (some (.int c.2))) H)
    (hd : ∀ σ H, Pv cs.length σ H → D.nx σ H) :
    ∃ W : Nat → Nat → St → Hp → Prop, (∃ m, W 0 m σ H) ∧ ∀ i m σ H, W i m σ H →
      ((Itl K a).stop i H ∧ D.nx σ H) ∨ ((Itl K a).go i H ∧ ∃ N : St → Hp → Prop, (∀ σ' H', N σ' H' → ∃ m', m' < m ∧ W (i + 1) m' σ' H') ∧ ∀ x H', (Itl K a).yld i H x H' → gTup K 2 (gCons (gName i1) (gCons (gName i2) gNil)) x σ H' fun σ2 H2 => tb { D with nx := N, ct := N, bk := D.nx } σ2 H2) := by
  have hlen := (hl 0 σ H (Nat.zero_le _) h0).2.len
  have e : (ts.map V.ref).length = cs.length := by rw [List.length_map, hlen]
  refine for_list (K := K) (a := a) (xs := ts.map V.ref) Pv h0 (fun i σ H hi p => (hl i σ H (by omega) p).1) ?_ (fun σ H p => hd σ H (by rw [← e]; exact p))
  intro i x σ H hx p
  rw [List.getElem?_map] at hx
  cases ht : ts[i]? with
  | none => rw [ht] at hx; cases hx
  | some t =>
    rw [ht] at hx
    cases hx
    have hi : i < ts.length := (List.getElem?_eq_some_iff.mp ht).1
    obtain ⟨c, hc, r⟩ := (hl i σ H (by omega) p).2.getl ht
    exact ⟨t, _, rfl, SqT.of r, rfl, _, _, rfl, _, _, rfl, rfl, hs i c σ H hc p⟩

theorem for_spT {a : Addr} {i1 i2 : Nat} {tb : TS} {D : Ends} {σ : St} {H : Hp} {cs : List (Str × Int)} {ts : List Addr} (Pv : Nat → St → Hp → Prop) (h0 : Pv 0 σ H)
    (hl : ∀ i σ H, i ≤ cs.length → Pv i σ H → SqT K H a (ts.map V.ref) ∧ P2 (SrT H) ts cs)
    (hs : ∀ i c σ H, cs[i]? = some c → Pv i σ H → tb { D with nx := Pv (i + 1), ct := Pv (i + 1), bk := D.nx } ((σ.set i1 (some (.str c.1))).set i2 (some (.int c.2))) H)
    (hd : ∀ σ H, Pv cs.length σ H → D.nx σ H) :
    ∃ W : Nat → Nat → St → Hp → Prop, (∃ m, W 0 m σ H) ∧ ∀ i m σ H, W i m σ H →
      ((Itt K a).stop i H ∧ D.nx σ H) ∨ ((Itt K a).go i H ∧ ∃ N : St → Hp → Prop, (∀ σ' H', N σ' H' → ∃ m', m' < m ∧ W (i + 1) m' σ' H') ∧ ∀ x H', (Itt K a).yld i H x H' → gTup K 2 (gCons (gName i1) (gCons (gName i2) gNil)) x σ H' fun σ2 H2 => tb { D with nx := N, ct := N, bk := D.nx } σ2 H2) := by
  have hlen := (hl 0 σ H (Nat.zero_le _) h0).2.len
  have e : (ts.map V.ref).length = cs.length := by rw [List.length_map, hlen]
  refine for_tup (K := K) (a := a) (xs := ts.map V.ref) Pv h0 (fun i σ H hi p => (hl i σ H (by omega) p).1) ?_ (fun σ H p => hd σ H (by rw [← e]; exact p))
  intro i x σ H hx p
  rw [List.getElem?_map] at hx
  cases ht : ts[i]? with
  | none => rw [ht] at hx; cases hx
  | some t =>
    rw [ht] at hx
    cases hx
    have hi : i < ts.length := (List.getElem?_eq_some_iff.mp ht).1
    obtain ⟨c, hc, r⟩ := (hl i σ H (by omega) p).2.getl ht
    exact ⟨t, _, rfl, SqT.of r, rfl, _, _, rfl, _, _, rfl, rfl, hs i c σ H hc p⟩

theorem lc_sp {a : Addr} {ts : List Addr} {cs : List (Str × Int)} {i1 i2 : Nat} {tt : TT} {te : TE} {vs : List Nat} {σ : St} {H1 : Hp} {D : Addr} {Qd : Hp → Prop} (p : Str × Int → Bool) (R : V → Str × Int → Hp → Prop)
    (hR : ∀ y c H H' acc, H D = some (.lst acc) → Kp D H H' → R y c H → R y c H') (hD : H1 D = none) (hL : SqL K H1 a (ts.map V.ref)) (hP : P2 (SrT H1) ts cs) (hsz : cs.length ≤ 100000)
    (hw : ∀ x y, wipe (((wipe σ vs).set i1 x).set i2 y) vs = wipe σ vs)
    (ht : ∀ c ∈ cs, ∀ H Q, Same H1 H → (∀ H', Same H H' → Q (p c) H') → tt (((wipe σ vs).set i1 (some (.str c.1))).set i2 (some (.int c.2))) H Q)
    (he : ∀ c ∈ cs, p c = true → ∀ H Q, Same H1 H → (∀ y H', Same H H' → R y c H' → Q y H') → te (((wipe σ vs).set i1 (some (.str c.1))).set i2 (some (.int c.2))) H Q)
    (hd : ∀ ys H, Same H1 H → H D = some (.lst ys) → P2 (fun y c => R y c H) ys (cs.filter p) → Qd H) : LcG (Itl K a) (gTup K 2 (gCons (gName i1) (gCons (gName i2) gNil))) tt te vs σ H1 D Qd := by
  have hlen := hP.len
  refine lc_list (K := K) (a := a) (xs := ts.map V.ref) (fun i H => Same H1 H ∧ ∃ ys, H D = some (.lst ys) ∧ P2 (fun y c => R y c H) ys ((cs.take i).filter p)) ⟨same_upd hD, [], upd_same, .nil⟩ (fun i H _ ⟨s, _⟩ => s.seq hL) ?_ ?_
  · rintro i x H hx ⟨s, ys, hy, py⟩
    rw [List.getElem?_map] at hx
    cases ht' : ts[i]? with
    | none => rw [ht'] at hx; cases hx
    | some t =>
      rw [ht'] at hx
      cases hx
      obtain ⟨c, hc, r⟩ := hP.getl ht'
      have hi : i < cs.length := (List.getElem?_eq_some_iff.mp hc).1
      have ll : ys.length ≤ 100000 := by
        have h1 := py.len
        have h2 := List.length_filter_le p (cs.take i)
        rw [List.length_take] at h2
        omega
      refine ⟨t, _, rfl, SqT.of (s _ _ r), rfl, _, _, rfl, _, _, rfl, rfl, hw _ _, ht c (mem_of_at hc) H _ s fun H2 s2 => ?_⟩
      have py2 := py.mono fun v b rb => hR v b H H2 _ hy s2.kp rb
      have hy2 := s2 _ _ hy
      by_cases hp : p c = true
      · rw [if_pos hp]
        refine he c (mem_of_at hc) hp H2 _ (s.trans s2) fun y H' s' r => ⟨ys, s' _ _ hy2, small_app (Nat.le_refl _) ll, ((s.trans s2).trans s').wr hD, ys ++ [y], upd_same, ?_⟩
        rw [take_snoc hc, List.filter_append, List.filter_cons, if_pos hp, List.filter_nil]
        exact (py2.mono fun v b rb => hR v b H' _ _ (s' _ _ hy2) (kp_upd D H' _) (hR v b H2 H' _ hy2 s'.kp rb)).snoc (hR y c H' _ _ (s' _ _ hy2) (kp_upd D H' _) r)
      · rw [if_neg hp]
        refine ⟨s.trans s2, ys, hy2, ?_⟩
        rw [take_snoc hc, List.filter_append, List.filter_cons, if_neg hp, List.filter_nil, List.append_nil]
        exact py2
  · rintro H ⟨s, ys, hy, py⟩
    rw [List.length_map, hlen, List.take_length] at py
    exact hd ys H s hy py
theorem lc_spT {K : PySem.W.Frag} {a : Addr} {ts : List Addr} {cs : List (Str × Int)} {i1 i2 : Nat} {tt : TT} {te : TE} {vs : List Nat} {σ : L2.St} {H1 : Hp} {D : Addr} {Qd : Hp → Prop} (p : Str × Int → Bool) (R : V → Str × Int → Hp → Prop)
    (hR : ∀ y c H H' acc, H D = some (.lst acc) → Kp D H H' → R y c H → R y c H') (hD : H1 D = none) (hL : SqT K H1 a (ts.map V.ref)) (hP : P2 (SrT H1) ts cs) (hsz : cs.length ≤ 100000)
    (hw : ∀ x y, wipe (((wipe σ vs).set i1 x).set i2 y) vs = wipe σ vs)
    (ht : ∀ c ∈ cs, ∀ H Q, Same H1 H → (∀ H', Same H H' → Q (p c) H') → tt (((wipe σ vs).set i1 (some (.str c.1))).set i2 (some (.int c.2))) H Q)
    (he : ∀ c ∈ cs, p c = true → ∀ H Q, Same H1 H → (∀ y H', Same H H' → R y c H' → Q y H') → te (((wipe σ vs).set i1 (some (.str c.1))).set i2 (some (.int c.2))) H Q)
    (hd : ∀ ys H, Same H1 H → H D = some (.lst ys) → P2 (fun y c => R y c H) ys (cs.filter p) → Qd H) : LcG (Itt K a) (gTup K 2 (gCons (gName i1) (gCons (gName i2) gNil))) tt te vs σ H1 D Qd := by
  have hlen := hP.len
  refine lc_tup (K := K) (a := a) (xs := ts.map V.ref) (fun i H => Same H1 H ∧ ∃ ys, H D = some (.lst ys) ∧ P2 (fun y c => R y c H) ys ((cs.take i).filter p)) ⟨same_upd hD, [], upd_same, .nil⟩ (fun i H _ ⟨s, _⟩ => s.seqT hL) ?_ ?_
  · rintro i x H hx ⟨s, ys, hy, py⟩
    rw [List.getElem?_map] at hx
    cases ht' : ts[i]? with
    | none => rw [ht'] at hx; cases hx
    | some t =>
      rw [ht'] at hx
      cases hx
      obtain ⟨c, hc, r⟩ := hP.getl ht'
      have hi : i < cs.length := (List.getElem?_eq_some_iff.mp hc).1
      have ll : ys.length ≤ 100000 := by
        have h1 := py.len
        have h2 := List.length_filter_le p (cs.take i)
        rw [List.length_take] at h2
        omega
      refine ⟨t, _, rfl, SqT.of (s _ _ r), rfl, _, _, rfl, _, _, rfl, rfl, hw _ _, ht c (mem_of_at hc) H _ s fun H2 s2 => ?_⟩
      have py2 := py.mono fun v b rb => hR v b H H2 _ hy s2.kp rb
      have hy2 := s2 _ _ hy
      by_cases hp : p c = true
      · rw [if_pos hp]
        refine he c (mem_of_at hc) hp H2 _ (s.trans s2) fun y H' s' r => ⟨ys, s' _ _ hy2, small_app (Nat.le_refl _) ll, ((s.trans s2).trans s').wr hD, ys ++ [y], upd_same, ?_⟩
        rw [take_snoc hc, List.filter_append, List.filter_cons, if_pos hp, List.filter_nil]
        exact (py2.mono fun v b rb => hR v b H' _ _ (s' _ _ hy2) (kp_upd D H' _) (hR v b H2 H' _ hy2 s'.kp rb)).snoc (hR y c H' _ _ (s' _ _ hy2) (kp_upd D H' _) r)
      · rw [if_neg hp]
        refine ⟨s.trans s2, ys, hy2, ?_⟩
        rw [take_snoc hc, List.filter_append, List.filter_cons, if_neg hp, List.filter_nil, List.append_nil]
        exact py2
  · rintro H ⟨s, ys, hy, py⟩
    rw [List.length_map, hlen, List.take_length] at py
    exact hd ys H s hy py
end
end Tr

/-! # Plain: a dict made of pairs, steps made normal, (text, int) lists as data. -/
namespace Tr
open PySem L2 TL
theorem mergeK_new : ∀ (more kvs : List (Key × V)), (∀ m ∈ more, ∀ k ∈ kvs, k.1 ≠ m.1) → (more.map (·.1)).Nodup → mergeK kvs more = kvs ++ more
  | [], kvs, _, _ => by rw [List.append_nil]; rfl
  | m :: ms, kvs, h, nd => by
    rw [List.map_cons, List.nodup_cons] at nd
    have e : putK kvs m.1 m.2 = kvs ++ [m] := by
      unfold putK
      rw [if_neg]
      intro z
      obtain ⟨k, hk, e⟩ := List.any_eq_true.mp z
      exact h m List.mem_cons_self k hk (of_decide_eq_true e)
    show mergeK (putK kvs m.1 m.2) ms = _
    rw [e, mergeK_new ms (kvs ++ [m]) ?_ nd.2, List.append_assoc]
    · rfl
    · intro x hx k hk
      rcases List.mem_append.mp hk with hk | hk
      · exact h x (List.mem_cons_of_mem _ hx) k hk
      · rw [List.mem_singleton.mp hk]
        intro z
        exact nd.1 (List.mem_map.mpr ⟨x, hx, z.symm⟩)
/-- names and numbers as a dict's content -/
def kdic (ks : List SI) : List (Key × V) := ks.map fun c => ((.inr c.1 : Key), V.int c.2)
def Nds (ks : List SI) : Prop := (ks.map (·.1)).Nodup
theorem kdic_nodup {ks : List SI} (h : Nds ks) : ((kdic ks).map (·.1)).Nodup := by
  have e : (kdic ks).map (·.1) = (ks.map (·.1)).map (Sum.inr : Str → Key) := by
    unfold kdic
    rw [List.map_map, List.map_map]
    rfl
  rw [e]
  exact List.Pairwise.map _ (fun a b n z => n (Sum.inr.inj z)) h
theorem merge_kdic {ks : List SI} (h : Nds ks) : mergeK [] (kdic ks) = kdic ks := mergeK_new _ _ (fun _ _ _ hk => by cases hk) (kdic_nodup h)
def lookS (ks : List SI) (z : Str) : Option Int := (ks.find? fun c => decide (c.1 = z)).map (·.2)
def perOf (ks : List SI) (z : Str) : Int := (lookS ks z).getD 0
theorem valV_kdic (z : Str) : ∀ ks : List SI, valV (kdic ks) (.inr z) = (lookS ks z).map V.int
  | [] => rfl
  | c :: cs => by
    have ih := valV_kdic z cs
    unfold lookS at ih ⊢
    by_cases e : c.1 = z
    · rw [List.find?_cons_of_pos (by exact decide_eq_true e)]
      exact valV_pos (p := ((.inr c.1 : Key), V.int c.2)) (congrArg Sum.inr e)
    · rw [List.find?_cons_of_neg (by simp [e])]
      rw [← ih]
      exact valV_neg (p := ((.inr c.1 : Key), V.int c.2)) (fun w => e (Sum.inr.inj w))
theorem lookS_mem {z : Str} {ks : List SI} (h : ∃ k ∈ ks, k.1 = z) : ∃ c ∈ ks, c.1 = z ∧ lookS ks z = some c.2 := by
  obtain ⟨k, hk, e⟩ := h
  unfold lookS
  cases hf : ks.find? fun c => decide (c.1 = z) with
  | none => exact absurd (decide_eq_true e) (List.find?_eq_none.mp hf k hk)
  | some c => exact ⟨c, List.mem_of_find?_eq_some hf, of_decide_eq_true (List.find?_some (p := fun c : SI => decide (c.1 = z)) hf), rfl⟩
/-- what stays, and the exponent, when a step comes behind a row -/
def pickN (acc : List SI) (c : SI) : List SI × Int :=
  match acc.getLast? with
  | some d => if d.1 = c.1 then (acc.dropLast, c.2 + d.2) else (acc, c.2)
  | none => (acc, c.2)
def modN (per : Str → Int) (z : Str) (e : Int) : Int := if 0 < per z then e % per z else e
def putN (acc : List SI) (z : Str) (e : Int) : List SI := if e = 0 then acc else acc ++ [(z, e)]
/-- one more step behind a normal row -/
def stepN (per : Str → Int) (acc : List SI) (c : SI) : List SI := putN (pickN acc c).1 c.1 (modN per c.1 (pickN acc c).2)
def normL (per : Str → Int) (ss : List SI) : List SI := ss.foldl (stepN per) []
theorem normL_snoc {per : Str → Int} {ss : List SI} {c : SI} : normL per (ss ++ [c]) = stepN per (normL per ss) c := by
  unfold normL
  rw [List.foldl_append]
  rfl
theorem pickN_sub {acc : List SI} {c : SI} : (∀ d ∈ (pickN acc c).1, d ∈ acc) ∧ (pickN acc c).1.length ≤ acc.length := by
  unfold pickN
  split
  · split
    · exact ⟨fun d hd => (List.dropLast_subset acc) hd, by rw [List.length_dropLast]; omega⟩
    · exact ⟨fun d hd => hd, Nat.le_refl _⟩
  · exact ⟨fun d hd => hd, Nat.le_refl _⟩
theorem stepN_sub {per : Str → Int} {acc : List SI} {c : SI} : (∀ d ∈ stepN per acc c, d ∈ acc ∨ d.1 = c.1) ∧ (stepN per acc c).length ≤ acc.length + 1 := by
  unfold stepN putN
  have h := @pickN_sub acc c
  split
  · exact ⟨fun d hd => .inl (h.1 d hd), by omega⟩
  · refine ⟨fun d hd => ?_, by rw [List.length_append]; exact Nat.succ_le_succ h.2⟩
    rcases List.mem_append.mp hd with hd | hd
    · exact .inl (h.1 d hd)
    · rw [List.mem_singleton.mp hd]
      exact .inr rfl
theorem foldN_sub {per : Str → Int} : ∀ (ss acc : List SI), (∀ d ∈ ss.foldl (stepN per) acc, d ∈ acc ∨ ∃ c ∈ ss, c.1 = d.1) ∧ (ss.foldl (stepN per) acc).length ≤ acc.length + ss.length
  | [], acc => ⟨fun d hd => .inl hd, Nat.le_refl _⟩
  | c :: ss, acc => by
    have h := foldN_sub (per := per) ss (stepN per acc c)
    have h2 := @stepN_sub per acc c
    refine ⟨fun d hd => ?_, by have := h.2; rw [List.length_cons]; exact Nat.le_trans this (by omega)⟩
    rcases h.1 d hd with z | ⟨x, hx, e⟩
    · rcases h2.1 d z with z | z
      · exact .inl z
      · exact .inr ⟨c, List.mem_cons_self, z.symm⟩
    · exact .inr ⟨x, List.mem_cons_of_mem _ hx, e⟩
theorem normL_sub {per : Str → Int} {ss : List SI} : (∀ d ∈ normL per ss, ∃ c ∈ ss, c.1 = d.1) ∧ (normL per ss).length ≤ ss.length := by
  have h := foldN_sub (per := per) ss []
  refine ⟨fun d hd => ?_, by have := h.2; rw [List.length_nil, Nat.zero_add] at this; exact this⟩
  rcases h.1 d hd with z | z
  · cases z
  · exact z
def siD (c : SI) : PyData := .tuple [.str c.1, .int c.2]
theorem lay_si : ∀ cs : List SI, (∀ c ∈ cs, PyData.strOk c.1 = true) → PyData.canLayAll0 (cs.map siD) = true
  | [], _ => rfl
  | c :: cs, h => by
    show ((PyData.strOk c.1 && (true && true)) && PyData.canLayAll0 (cs.map siD)) = true
    rw [lay_si cs fun d hd => h d (List.mem_cons_of_mem _ hd), h c List.mem_cons_self]
    rfl
theorem depth_si : ∀ cs : List SI, PyData.depthAll (cs.map siD) ≤ 1
  | [] => Nat.zero_le _
  | c :: cs => by
    have h := depth_si cs
    show max 1 (PyData.depthAll (cs.map siD)) ≤ 1
    omega
theorem shaped_si {cs : List SI} (ok : ∀ c ∈ cs, PyData.strOk c.1 = true) : SeqAt.shaped (.list (cs.map siD)) = true := by
  unfold SeqAt.shaped
  rw [Bool.and_eq_true, decide_eq_true_eq]
  refine ⟨lay_si cs ok, ?_⟩
  have h := depth_si cs
  show PyData.depthAll (cs.map siD) + 1 ≤ 64
  omega
theorem dp_si {K : PySem.W.Frag} {H : Hp} {l : Addr} {cs : List SI} (h : SL H l cs) : Dp K H (.ref l) (.list (cs.map siD)) := by
  obtain ⟨ts, hl, pp⟩ := h
  refine .lst (SqL.of hl) ?_
  clear hl
  induction pp with
  | nil => exact .nil
  | cons r _ ih => exact .cons (.tup (SqT.of r) (.cons (.str _) (.cons (.int _) .nil))) ih
theorem eqv_nilS (cs : List SI) : (!PyData.eqv (.list (cs.map siD)) (.list (([] : List SI).map siD))) = !cs.isEmpty := by
  cases cs <;> rfl
theorem snocC {α : Type} : ∀ l : List α, l = [] ∨ ∃ a b, l = a ++ [b]
  | [] => .inl rfl
  | x :: l => by
    rcases snocC l with rfl | ⟨a, b, rfl⟩
    · exact .inr ⟨[], x, rfl⟩
    · exact .inr ⟨x :: a, b, rfl⟩
theorem P2.unsnoc {α β : Type} {R : α → β → Prop} {u : α} {d : β} : ∀ {vr : List α} {ac : List β}, P2 R (vr ++ [u]) (ac ++ [d]) → P2 R vr ac ∧ R u d
  | [], [], h => by
    cases h with
    | cons r _ => exact ⟨.nil, r⟩
  | [], _ :: _, h => by
    have := h.len
    simp at this
  | _ :: _, [], h => by
    have := h.len
    simp at this
  | x :: vr, y :: ac, h => by
    cases h with
    | cons r t =>
      obtain ⟨h1, h2⟩ := P2.unsnoc t
      exact ⟨.cons r h1, h2⟩
theorem pickN_nil {c : SI} : pickN [] c = ([], c.2) := rfl
theorem pickN_eq {ac : List SI} {d c : SI} (h : d.1 = c.1) : pickN (ac ++ [d]) c = (ac, c.2 + d.2) := by
  unfold pickN
  rw [List.getLast?_concat]
  dsimp only
  rw [if_pos h, List.dropLast_concat]
theorem pickN_ne {ac : List SI} {d c : SI} (h : d.1 ≠ c.1) : pickN (ac ++ [d]) c = (ac ++ [d], c.2) := by
  unfold pickN
  rw [List.getLast?_concat]
  dsimp only
  rw [if_neg h]
end Tr

/-! # Plain: the normal rows are a group. -/
namespace Tr
open PySem L2 TL
section
variable {per : Str → Int}
theorem modN_zero (z : Str) : modN per z 0 = 0 := by unfold modN; split <;> simp
theorem modN_l (z : Str) (d e : Int) : modN per z (modN per z d + e) = modN per z (d + e) := by
  unfold modN
  split
  · rw [Int.emod_add_emod]
  · rfl
theorem modN_r (z : Str) (d e : Int) : modN per z (d + modN per z e) = modN per z (d + e) := by
  rw [Int.add_comm, modN_l, Int.add_comm]
theorem modN_m (z : Str) (d : Int) : modN per z (modN per z d) = modN per z d := by
  have := modN_l (per := per) z d 0
  rwa [Int.add_zero, Int.add_zero] at this
def goodN (per : Str → Int) (c : SI) : Prop := modN per c.1 c.2 = c.2 ∧ c.2 ≠ 0
/-- a normal row -/
def Nf (per : Str → Int) : List SI → Prop
  | [] => True
  | [c] => goodN per c
  | c :: d :: r => goodN per c ∧ c.1 ≠ d.1 ∧ Nf per (d :: r)
def lastNe (l : List SI) (z : Str) : Prop := ∀ d, l.getLast? = some d → d.1 ≠ z
theorem nf_snoc : ∀ (l : List SI) (c : SI), Nf per (l ++ [c]) ↔ Nf per l ∧ goodN per c ∧ lastNe l c.1
  | [], c => ⟨fun h => ⟨trivial, h, fun d e => by cases e⟩, fun h => h.2.1⟩
  | [a], c => ⟨fun h => ⟨h.1, h.2.2, fun d e => by cases e; exact h.2.1⟩, fun h => ⟨h.1, h.2.2 a rfl, h.2.1⟩⟩
  | a :: b :: r, c => by
    have ih := nf_snoc (b :: r) c
    have e : ∀ z, lastNe (a :: b :: r) z ↔ lastNe (b :: r) z := fun z => by
      unfold lastNe
      rw [List.getLast?_cons_cons]
    rw [e]
    constructor
    · rintro ⟨h1, h2, h3⟩
      obtain ⟨k1, k2⟩ := ih.mp h3
      exact ⟨⟨h1, h2, k1⟩, k2⟩
    · rintro ⟨⟨h1, h2, h3⟩, k⟩
      exact ⟨h1, h2, ih.mpr ⟨h3, k⟩⟩
theorem nf_put {M : List SI} {z : Str} {m : Int} (h : Nf per M) (hl : lastNe M z) (hm : modN per z m = m) : Nf per (putN M z m) := by
  unfold putN
  split
  · exact h
  · rename_i n
    exact (nf_snoc M (z, m)).mpr ⟨h, ⟨hm, n⟩, hl⟩
theorem step_put {M : List SI} {z : Str} {f : Int} (e : Int) (hl : lastNe M z) : stepN per (putN M z f) (z, e) = putN M z (modN per z (e + f)) := by
  have key : pickN (putN M z f) (z, e) = (M, e + f) := by
    unfold putN
    split
    · rename_i f0
      subst f0
      rw [Int.add_zero]
      unfold pickN
      split
      · rename_i d hd
        rw [if_neg (hl d hd)]
      · rfl
    · exact pickN_eq rfl
  unfold stepN
  rw [key]
theorem nf_view {N : List SI} (h : Nf per N) (z : Str) : ∃ M f, Nf per M ∧ lastNe M z ∧ modN per z f = f ∧ N = putN M z f := by
  rcases snocC N with rfl | ⟨a, b, rfl⟩
  · exact ⟨[], 0, trivial, fun d e => (by cases e), modN_zero z, rfl⟩
  · by_cases e : b.1 = z
    · obtain ⟨h1, h2, h3⟩ := (nf_snoc a b).mp h
      subst e
      exact ⟨a, b.2, h1, h3, h2.1, by unfold putN; rw [if_neg h2.2]⟩
    · exact ⟨a ++ [b], 0, h, fun d hd => (by rw [List.getLast?_concat] at hd; cases hd; exact e), modN_zero z, by unfold putN; rw [if_pos rfl]⟩
theorem nf_step {N : List SI} (h : Nf per N) (c : SI) : Nf per (stepN per N c) := by
  obtain ⟨M, f, h1, h2, h3, rfl⟩ := nf_view h c.1
  obtain ⟨z, e⟩ := c
  rw [step_put e h2]
  exact nf_put h1 h2 (modN_m _ _)
theorem step_step {N : List SI} (h : Nf per N) (z : Str) (d e : Int) : stepN per (stepN per N (z, d)) (z, e) = stepN per N (z, d + e) := by
  obtain ⟨M, f, h1, h2, h3, rfl⟩ := nf_view h z
  rw [step_put d h2, step_put e h2, step_put (d + e) h2, modN_r]
  congr 2
  omega
theorem step_mod (N : List SI) (z : Str) (e : Int) (h : Nf per N) : stepN per N (z, modN per z e) = stepN per N (z, e) := by
  obtain ⟨M, f, h1, h2, h3, rfl⟩ := nf_view h z
  rw [step_put _ h2, step_put _ h2, modN_l]
theorem step_zero {N : List SI} (h : Nf per N) (z : Str) : stepN per N (z, 0) = N := by
  obtain ⟨M, f, h1, h2, h3, rfl⟩ := nf_view h z
  rw [step_put _ h2, Int.zero_add, h3]
/-- steps done behind a normal row -/
def actN (per : Str → Int) (N ss : List SI) : List SI := ss.foldl (stepN per) N
theorem actN_app (N a b : List SI) : actN per N (a ++ b) = actN per (actN per N a) b := List.foldl_append ..
theorem actN_snoc (N a : List SI) (c : SI) : actN per N (a ++ [c]) = stepN per (actN per N a) c := by rw [actN_app]; rfl
theorem nf_act {N : List SI} (h : Nf per N) : ∀ ss, Nf per (actN per N ss) := by
  intro ss
  induction ss generalizing N with
  | nil => exact h
  | cons c ss ih => exact ih (nf_step h c)
theorem nf_norm (ss : List SI) : Nf per (normL per ss) := nf_act (N := []) trivial ss
theorem act_put {N M : List SI} (h : Nf per N) (z : Str) (m : Int) : actN per N (putN M z m) = stepN per (actN per N M) (z, m) := by
  unfold putN
  split
  · rename_i e
    subst e
    exact (step_zero (nf_act h M) z).symm
  · exact actN_snoc N M (z, m)
theorem act_step {N p : List SI} (h : Nf per N) (hp : Nf per p) (c : SI) : actN per N (stepN per p c) = stepN per (actN per N p) c := by
  obtain ⟨z, e⟩ := c
  obtain ⟨M, f, h1, h2, h3, rfl⟩ := nf_view hp z
  rw [step_put e h2, act_put h, act_put h, step_mod _ _ _ (nf_act h M), step_step (nf_act h M), Int.add_comm]
theorem act_norm {N : List SI} (h : Nf per N) (ss : List SI) : actN per N (normL per ss) = actN per N ss := by
  have key : ∀ (ss p : List SI), Nf per p → actN per N (actN per p ss) = actN per (actN per N p) ss := by
    intro ss
    induction ss with
    | nil => intro p _; rfl
    | cons c ss ih =>
      intro p hp
      show actN per N (actN per (stepN per p c) ss) = actN per (stepN per (actN per N p) c) ss
      rw [ih _ (nf_step hp c), act_step h hp]
  exact key ss [] trivial
theorem norm_nf : ∀ {N : List SI}, Nf per N → normL per N = N := by
  intro N
  have key : ∀ n (N : List SI), N.length = n → Nf per N → normL per N = N := by
    intro n
    induction n with
    | zero => intro N e _; rw [List.eq_nil_of_length_eq_zero e]; rfl
    | succ n ih =>
      intro N e h
      rcases snocC N with rfl | ⟨a, b, rfl⟩
      · rfl
      · obtain ⟨h1, h2, h3⟩ := (nf_snoc a b).mp h
        rw [normL_snoc, ih a (by rw [List.length_append] at e; simp at e; exact e) h1]
        obtain ⟨z, m⟩ := b
        have := step_put (per := per) (M := a) (z := z) (f := 0) m h3
        unfold putN at this
        rw [if_pos rfl, Int.add_zero, h2.1, if_neg h2.2] at this
        exact this
  exact key _ N rfl
theorem norm_app (a b : List SI) : normL per (a ++ b) = actN per (normL per a) b := actN_app [] a b
theorem norm_l (a b : List SI) : normL per (normL per a ++ b) = normL per (a ++ b) := by
  rw [norm_app, norm_app, norm_nf (nf_norm a)]
theorem norm_r (a b : List SI) : normL per (a ++ normL per b) = normL per (a ++ b) := by
  rw [norm_app, norm_app, act_norm (nf_norm a)]
/-- steps taken back -/
def backL (ss : List SI) : List SI := ss.reverse.map fun c => (c.1, -c.2)
theorem backL_app (a b : List SI) : backL (a ++ b) = backL b ++ backL a := by
  unfold backL
  rw [List.reverse_append, List.map_append]
theorem backL_back (a : List SI) : backL (backL a) = a := by
  unfold backL
  rw [← List.map_reverse, List.reverse_reverse, List.map_map]
  have : ((fun c : SI => (c.1, -c.2)) ∘ fun c : SI => (c.1, -c.2)) = id := by
    funext c
    simp
  rw [this, List.map_id]
theorem act_back {N : List SI} (h : Nf per N) : ∀ a, actN per N (a ++ backL a) = N := by
  intro a
  induction a generalizing N with
  | nil => rfl
  | cons c a ih =>
    have e : backL (c :: a) = backL a ++ [(c.1, -c.2)] := by rw [show c :: a = [c] ++ a from rfl, backL_app]; rfl
    rw [e, ← List.append_assoc, actN_snoc, show c :: a ++ backL a = [c] ++ (a ++ backL a) from rfl, actN_app, ih (nf_act h [c])]
    show stepN per (stepN per N c) (c.1, -c.2) = N
    have := step_step h c.1 c.2 (-c.2)
    rw [Int.add_right_neg, step_zero h] at this
    exact this
theorem act_back' {N : List SI} (h : Nf per N) (a : List SI) : actN per N (backL a ++ a) = N := by
  have := act_back h (backL a)
  rwa [backL_back] at this
theorem act_cancel {N M : List SI} (h : Nf per N) (h' : Nf per M) {a : List SI} (e : actN per N a = actN per M a) : N = M := by
  have h1 := act_back h a
  have h2 := act_back h' a
  rw [actN_app, e, ← actN_app, h2] at h1
  exact h1.symm
theorem act_backnorm {N : List SI} (h : Nf per N) (b : List SI) : actN per N (backL (normL per b)) = actN per N (backL b) := by
  refine act_cancel (a := b) (nf_act h _) (nf_act h _) ?_
  rw [← act_norm (nf_act h (backL (normL per b))) b, ← actN_app, ← actN_app, act_back' h, act_back' h]
theorem norm_back (b : List SI) : normL per (backL (normL per b)) = normL per (backL b) := act_backnorm (N := []) trivial b
end
end Tr

/-! # Rewriting a list of steps at any places comes to its normal row. -/
namespace Tr
open PySem PySem.Spec PyProof.Rows L2
section
variable {per : Str → Int}
theorem norm_at (a b c : List SI) (h : ∀ N, Nf per N → actN per N b = actN per N c) (d : List SI) : normL per (a ++ b ++ d) = normL per (a ++ c ++ d) := by
  rw [norm_app, norm_app, norm_app, norm_app, h _ (nf_norm a)]
theorem norm_join (a d : List SI) (z : Str) (e f : Int) : normL per (a ++ [(z, e), (z, f)] ++ d) = normL per (a ++ [(z, e + f)] ++ d) :=
  norm_at a _ _ (fun N h => by
    show stepN per (stepN per N (z, e)) (z, f) = stepN per N (z, e + f)
    exact step_step h z e f) d
theorem norm_less (a d : List SI) (z : Str) (e : Int) : normL per (a ++ [(z, e)] ++ d) = normL per (a ++ [(z, modN per z e)] ++ d) :=
  norm_at a [(z, e)] [(z, modN per z e)] (fun N h => show stepN per N (z, e) = stepN per N (z, modN per z e) from (step_mod N z e h).symm) d
theorem norm_drop (a d : List SI) (z : Str) : normL per (a ++ [(z, 0)] ++ d) = normL per (a ++ d) := by
  have q := norm_at (per := per) a [(z, 0)] [] (fun N h => step_zero h z) d
  rw [List.append_nil] at q
  exact q
/-- how much there may still be to do -/
def badS (per : Str → Int) (c : SI) : Bool := decide (0 < per c.1) && !(decide (0 ≤ c.2) && decide (c.2 < per c.1))
def wS (per : Str → Int) (c : SI) : Nat := if badS per c then 3 else 2
def muS (per : Str → Int) (ss : List SI) : Nat := (ss.map (wS per)).sum
theorem wS_le (c : SI) : wS per c ≤ 3 ∧ 2 ≤ wS per c := by unfold wS; split <;> omega
theorem mu_app (a b : List SI) : muS per (a ++ b) = muS per a + muS per b := by unfold muS; rw [List.map_append, List.sum_append]
theorem mu_one (c : SI) : muS per [c] = wS per c := by simp [muS]
theorem mu_join (a d : List SI) (z : Str) (e f : Int) : muS per (a ++ [(z, e + f)] ++ d) < muS per (a ++ [(z, e), (z, f)] ++ d) := by
  have h1 := @wS_le per (z, e + f)
  have h2 := @wS_le per (z, e)
  have h3 := @wS_le per (z, f)
  have h4 : muS per [(z, e), (z, f)] = wS per (z, e) + wS per (z, f) := by simp [muS]
  rw [mu_app, mu_app, mu_app, mu_app, mu_one, h4]
  omega
theorem mu_less (a d : List SI) (z : Str) (e : Int) (h : badS per (z, e) = true) : muS per (a ++ [(z, modN per z e)] ++ d) < muS per (a ++ [(z, e)] ++ d) := by
  have hp : 0 < per z := by
    unfold badS at h
    simp only [Bool.and_eq_true, decide_eq_true_eq] at h
    exact h.1
  have h1 : wS per (z, e) = 3 := by unfold wS; rw [if_pos h]
  have h2 : badS per (z, modN per z e) = false := by
    unfold badS modN
    rw [if_pos hp]
    have a1 := Int.emod_nonneg e (by omega : per z ≠ 0)
    have a2 := Int.emod_lt_of_pos e hp
    simp [a1, a2]
  have h3 : wS per (z, modN per z e) = 2 := by unfold wS; rw [h2]; rfl
  rw [mu_app, mu_app, mu_app, mu_app, mu_one, mu_one, h1, h3]
  omega
theorem mu_drop (a d : List SI) (c : SI) : muS per (a ++ d) < muS per (a ++ [c] ++ d) := by
  have h1 := @wS_le per c
  rw [mu_app, mu_app, mu_app, mu_one]
  omega
/-- nothing more to do -/
def DoneS (per : Str → Int) (ss : List SI) : Prop := (∀ (i : Nat) (c : SI), ss[i]? = some c → badS per c = false ∧ c.2 ≠ 0) ∧ ∀ (i : Nat) (c d : SI), ss[i]? = some c → ss[i + 1]? = some d → d.1 ≠ c.1
theorem good_of {c : SI} (h : badS per c = false) (h0 : c.2 ≠ 0) : goodN per c := by
  refine ⟨?_, h0⟩
  unfold modN
  unfold badS at h
  by_cases hp : 0 < per c.1
  · rw [if_pos hp]
    simp [hp] at h
    exact Int.emod_eq_of_lt h.1 h.2
  · rw [if_neg hp]
theorem nf_doneN : ∀ (n : Nat) {ss l : List SI}, l.length = n → (∃ r, ss = l ++ r) → DoneS per ss → Nf per l
  | 0, ss, l, hn, _, _ => by
    obtain rfl := List.eq_nil_of_length_eq_zero hn
    exact trivial
  | n + 1, ss, l, hn, ⟨r, hr⟩, hd => by
    obtain ⟨l, c, rfl⟩ : ∃ l' c, l = l' ++ [c] := by
      rcases snocC l with rfl | h
      · cases hn
      · exact h
    subst hr
    rw [nf_snoc]
    have hc : (l ++ [c] ++ r)[l.length]? = some c := by simp
    obtain ⟨b, m⟩ := hd.1 _ _ hc
    refine ⟨nf_doneN n (by rw [List.length_append] at hn; simpa using hn) ⟨[c] ++ r, by simp⟩ hd, good_of b m, fun d hl => ?_⟩
    obtain ⟨l', rfl⟩ : ∃ l', l = l' ++ [d] := by
      rcases snocC l with rfl | ⟨l', d', rfl⟩
      · simp at hl
      · simp at hl
        exact ⟨l', by rw [hl]⟩
    have e1 : (l' ++ [d] ++ [c] ++ r)[l'.length]? = some d := by simp
    have e2 : (l' ++ [d] ++ [c] ++ r)[l'.length + 1]? = some c := by simp
    exact fun z => hd.2 _ _ _ e1 e2 z.symm
theorem norm_done {ss : List SI} (h : DoneS per ss) : normL per ss = ss := norm_nf (nf_doneN _ rfl ⟨[], by simp⟩ h)
end
end Tr

/-! # Texts: words of steps; str of an own object; a class held by a local name. -/
namespace Tr
open PySem PySem.Spec PyProof.Rows L2 TL
def tMakeV (i : Nat) (C : Addr) (sp : Sp) (dvs : List V) (E : XK) (t : TA) : TE := fun σ H Q => σ[i]? = some (some (.ref C)) ∧ tMake C sp dvs E t σ H Q
theorem pe_mkv {X : Cx} {k j i : Nat} {C : Addr} {x y : Str} {sp : Sp} {dvs : List V} {p pos : Pos} {e : Expr} {es : List Expr} {t : TA} {E : XK} (c : Mak X.prog X.w X.K X.mg X.base k y C sp dvs) (hr : Room j X.A) (hk : k + 1 ≤ j) (hN : X.N[i]? = some x) (hv : Vis X.env.scope x) (hx : Passes (L2.CX X.prog X.w) X E) (ha : PA X (e :: es) t)
    (hd : (x == ("__debug__" : Str)) = false := by decide) (hcd : (x == ("__classdict__" : Str)) = false := by decide) (he : starEach (e :: es) X.env = (false, eval e X.env) :: starEach es X.env := by rfl) (hpl : (backTo pos (starEach es X.env)).any (·.1) = false := by rfl) :
    PE X (.Call (.Name x p) (e :: es) [] pos) (tMakeV i C sp dvs E t) := by
  obtain ⟨f, fd, ps, ds, M, F, hm, b, d⟩ := c.ex
  refine ⟨fun pins s σ H Q I h => ?_⟩
  obtain ⟨hs, ht⟩ := h
  refine wpAny_Call_Name_kw (thn ((pe_var (pos := p) hN hv hd hcd).run pins s σ H (fun v H1 => v = .ref C ∧ H1 = H) I ⟨.ref C, hs, rfl, rfl⟩) fun u s1 ⟨v, H1, I1, r1, q1⟩ => ?_)
  obtain ⟨rfl, rfl⟩ := q1
  cases r1
  refine PySem.W.callWith_K (h₀ := X.base) I.ok.mod.kin M.kp (thn (ha.run pos pins s1 σ _ _ I1 ht) fun us s2 ⟨vs, H2, I2, r, q⟩ => ⟨I2.kIn, ?_⟩) he hpl
  exact run_make M F (hr.mono hk) b d hx I2 r q
/-- str of an own object -/
theorem cr_strO {X : Cx} {k j : Nat} {C : Addr} {sp : Sp} {E : XK} (c : Met X.prog X.w X.K X.mg X.base k C "__str__" sp []) (hr : Room j X.A) (hk : k + 2 ≤ j) (hx : Passes (L2.CX X.prog X.w) X E) :
    CallR X (.type "str") (fun xs H Q => ∃ a dx fs, xs = [.ref a] ∧ H a = some (.ins C dx fs) ∧ sp [.ref a] H (fun v H' => ∃ z, v = .str z ∧ Q (.str z) H') E) := by
  obtain ⟨f, fd, ps, ds, hc, hm, F, b, d⟩ := c.ex
  cases d
  intro pins s σ H xs us Q I r h
  obtain ⟨a, dx, fs, rfl, ha, h⟩ := h
  rw [Vals.ref1 r]
  obtain ⟨mA, J, _⟩ := ins_get I.hok ha
  obtain ⟨od, J, _⟩ := J.look
  refine PySem.W.kso_call (hr.mono hk).in1.in1.units0 I.kIn J hm.at_ hm.fn ?_
  refine wpAny_mono (run_at (A := X.A.in1.in1) F (hr.mono hk).in1.in1 rfl b hx I (us := [.ref a]) (vs := [.ref a]) (.cons rfl .nil) h) (fun r s' q => ?_) fun _ _ z => z
  obtain ⟨z, H', I', rz, y, rfl, q⟩ := q
  obtain ⟨t, rfl⟩ := rz
  exact ⟨.str y, H', I', ⟨_, rfl⟩, q⟩
/-! ### numbers as texts -/
def intS (e : Int) : Str := Str.ofString (toString e)
theorem tl_pos (n : Nat) : tl (intS (n : Int)) = numL n := tl_num n
theorem tl_neg (n : Nat) : tl (intS (Int.negSucc n)) = 45 :: numL (n + 1) := by
  unfold intS
  rw [tl_ofString]
  show (("-" ++ Nat.repr (n + 1) : String)).toList.map Char.toNat = _
  rw [String.toList_append, List.map_append, Nat.toList_repr]
  rfl
theorem numL_head : ∀ {n : Nat}, 0 < n → ∃ d r, numL n = d :: r ∧ d ≠ 48 := by
  intro n
  induction n using Nat.strongRecOn with
  | _ n ih =>
    intro h
    by_cases h1 : n < 10
    · rw [numL_lt h1]
      exact ⟨_, _, rfl, by omega⟩
    · obtain ⟨d, r, e, ne⟩ := ih (n / 10) (by omega) (by omega)
      rw [numL_step (by omega), e]
      exact ⟨d, _, rfl, ne⟩
theorem numL_short {n : Nat} (h : n < 2 ^ 1000) : (numL n).length ≤ 302 := numL_len (by decide) (Nat.lt_trans h (by decide +kernel))
theorem intS_len {e : Int} (h : Bd 1000 e) : (intS e).length ≤ 303 := by
  have h : e.natAbs < 2 ^ 1000 := h
  rw [len_tl]
  cases e with
  | ofNat n =>
    rw [show Int.ofNat n = (n : Int) from rfl, tl_pos]
    exact Nat.le_succ_of_le (numL_short h)
  | negSucc n =>
    rw [tl_neg, List.length_cons]
    exact Nat.succ_le_succ (numL_short h)
theorem intS_chars {e : Int} {c : Nat} (h : c ∈ tl (intS e)) : c = 45 ∨ isD c := by
  cases e with
  | ofNat n =>
    rw [show Int.ofNat n = (n : Int) from rfl, tl_pos] at h
    exact .inr (numL_digits n c h)
  | negSucc n =>
    rw [tl_neg] at h
    rcases List.mem_cons.mp h with h | h
    · exact .inl h
    · exact .inr (numL_digits _ c h)
theorem intS_int {e : Int} (h : Bd 1000 e) : intText? (intS e) = some e := by
  have h : e.natAbs < 2 ^ 1000 := h
  cases e with
  | ofNat n => exact int_num (Nat.le_trans (numL_short h) (by decide))
  | negSucc n =>
    have e := intText_neg (x := intS (Int.negSucc n)) (cs := numL (n + 1)) (tl_neg n) (numL_digits _) (numL_ne _) (by rw [len_tl, tl_neg, List.length_cons]; exact Nat.le_trans (Nat.succ_le_succ (numL_short h)) (by decide))
    rw [e, numL_val]
    rfl
def dashB : List Nat → Bool
  | [] => false
  | c :: _ => decide (c = 45)
theorem sw_dash (x : Str) : Txt.startswith x "-" = dashB (tl x) := by
  have h2 : tl ("-" : Str) = [45] := by rw [tl_ofString]; rfl
  have h3 : ("-" : Str).length = 1 := by rw [len_tl, h2]; rfl
  unfold Txt.startswith
  rw [h3, len_tl, PySem.StrLaws.subAt_eq, h3, show ("-" : Str).cps.toList = [45] from h2, List.drop_zero]
  show (decide (0 + 1 ≤ (tl x).length) && ((tl x).take 1 == [45])) = _
  cases tl x with
  | nil => rfl
  | cons c r =>
    have : decide (0 + 1 ≤ (c :: r).length) = true := decide_eq_true (by rw [List.length_cons]; omega)
    rw [this, Bool.true_and]
    show (([c] : List Nat) == [45]) = decide (c = 45)
    by_cases e : c = 45
    · rw [e]; rfl
    · rw [decide_eq_false e]
      simpa using e
theorem cut1 (x : Str) : tl (cutS x (some 1) none) = (tl x).drop 1 := by
  show ((tl x).drop (HT.sIx x.length 0 (some 1))).take (x.length - HT.sIx x.length 0 (some 1)) = _
  have e : HT.sIx x.length 0 (some ((1 : Nat) : Int)) = min 1 x.length := HT.sIx_nat _ _ _
  rw [show (some 1 : Option Int) = some ((1 : Nat) : Int) from rfl, e]
  have hl := len_tl x
  rw [List.take_of_length_le (by rw [List.length_drop, hl]; exact Nat.le_refl _)]
  cases ht : tl x with
  | nil => simp
  | cons c r =>
    rw [ht, List.length_cons] at hl
    rw [hl, show min 1 (r.length + 1) = 1 by omega]
/-! ### words of steps -/
theorem tl_hat : tl ("^" : Str) = [94] := by rw [tl_ofString]; rfl
theorem tl_sp : tl (" " : Str) = [32] := by rw [tl_ofString]; rfl
/-- the word w tells the step c -/
structure Wd (w : Str) (c : SI) : Prop where
  nm : NmOk c.1
  bd : Bd 1000 c.2
  eq : (w = c.1 ∧ c.2 = 1) ∨ w = c.1 ++ "^" ++ intS c.2
theorem NmOk.chars {z : Str} (h : NmOk z) {c : Nat} (hc : c ∈ tl z) : isL c ∨ isD c := by
  obtain ⟨a, r, e, h1, h2, h3⟩ := h
  rw [e] at hc
  rcases List.mem_cons.mp hc with rfl | hc
  · exact .inl h1
  · exact h3 c hc
theorem NmOk.no {z : Str} (h : NmOk z) {c : Nat} (h1 : ¬ isL c) (h2 : ¬ isD c) : c ∉ tl z := fun hc => (h.chars hc).elim h1 h2
theorem NmOk.len {z : Str} (h : NmOk z) : z.length ≤ 12 := by
  obtain ⟨c, r, e, _, h2, _⟩ := h
  rw [len_tl, e, List.length_cons]
  omega
theorem Wd.len {w : Str} {c : SI} (h : Wd w c) : w.length ≤ 320 := by
  have h1 := h.nm.len
  rcases h.eq with ⟨e, _⟩ | e
  · rw [e]; omega
  · have h2 := intS_len h.bd
    rw [e, len_tl, tl_append, tl_append, List.length_append, List.length_append, tl_hat, ← len_tl, ← len_tl]
    show c.1.length + 1 + (intS c.2).length ≤ 320
    omega
theorem Wd.free {w : Str} {c : SI} (h : Wd w c) : 32 ∉ tl w := by
  have n1 : 32 ∉ tl c.1 := h.nm.no (by unfold isL; omega) (by unfold isD; omega)
  rcases h.eq with ⟨e, _⟩ | e
  · rw [e]; exact n1
  · rw [e, tl_append, tl_append, tl_hat]
    intro hm
    rcases List.mem_append.mp hm with hm | hm
    · rcases List.mem_append.mp hm with hm | hm
      · exact n1 hm
      · rw [List.mem_singleton] at hm; omega
    · rcases intS_chars hm with k | k
      · omega
      · unfold isD at k; omega
/-- the text of words -/
theorem words_back {ws : List Str} {cs : List SI} (h : P2 Wd ws cs) (hne : ws ≠ []) : Txt.split (Txt.join " " ws) " " = ws :=
  split_join tl_sp (by decide +kernel) hne fun p hp => by
    obtain ⟨c, _, r⟩ := h.meml hp
    exact r.free
theorem words_dot {ws : List Str} {cs : List SI} (h : P2 Wd ws cs) (hne : ws ≠ []) : Txt.join " " ws ≠ "." := by
  intro e
  have hd : tl ("." : Str) = [46] := by rw [tl_ofString]; rfl
  have h2 := congrArg tl e
  rw [hd, join_eq, tl_join] at h2
  cases h with
  | nil => exact hne rfl
  | @cons w c ws cs r t =>
    obtain ⟨a, rr, ew, ha, _⟩ := r.nm
    have hw : ∃ x, tl w = a :: x := by
      rcases r.eq with ⟨e, _⟩ | e
      · rw [e]; exact ⟨_, ew⟩
      · rw [e, tl_append, tl_append, ew]; exact ⟨_, rfl⟩
    obtain ⟨x, hx⟩ := hw
    cases ws with
    | nil =>
      rw [List.map_cons, List.map_nil] at h2
      have h2 : tl w = [46] := h2
      rw [hx] at h2
      injection h2 with h3 _
      unfold isL at ha
      omega
    | cons w2 ws =>
      have h2 : tl w ++ _ = [46] := h2
      rw [hx] at h2
      injection h2 with h3 _
      unfold isL at ha
      omega
end Tr

/-! # Texts, continued: comprehensions over values; the lengths of joined texts. -/
namespace Tr
open PySem L2 TL
/-- [e for x in xs], xs values that tell cs -/
theorem lc_v2 {α : Type} {J : It} {G : Hp → Prop} {R0 : V → α → Prop} {us : List V} {cs : List α} {i1 : Nat} {te : TE} {vs : List Nat} {σ : L2.St} {H1 : Hp} {D : Addr} {Qd : Hp → Prop} (w : Walk J us.length G (YAt us)) (hP : P2 R0 us cs) (R : V → α → Hp → Prop)
    (hR : ∀ y c H H' acc, H D = some (.lst acc) → Kp D H H' → R y c H → R y c H') (hD : H1 D = none) (hsz : cs.length ≤ 100000)
    (hG : ∀ H, Same H1 H → G H) (hw : ∀ x, wipe ((wipe σ vs).set i1 x) vs = wipe σ vs)
    (he : ∀ u c, c ∈ cs → R0 u c → ∀ H Q, Same H1 H → (∀ y H', Same H H' → R y c H' → Q y H') → te ((wipe σ vs).set i1 (some u)) H Q)
    (hd : ∀ ys H, Same H1 H → H D = some (.lst ys) → P2 (fun y c => R y c H) ys cs → Qd H) : LcG J (gName i1) tYes te vs σ H1 D Qd := by
  have hlen := hP.len
  refine lc_it w (fun i H => Same H1 H ∧ ∃ ys, H D = some (.lst ys) ∧ P2 (fun y c => R y c H) ys (cs.take i)) ⟨same_upd hD, [], upd_same, .nil⟩ (fun i H _ ⟨s, _⟩ => hG H s) ?_ ?_
  · rintro i x H H0 hi ⟨s, ys, hy, py⟩ ⟨rfl, hx⟩
    obtain ⟨c, hc, r⟩ := hP.getl hx
    have ll : ys.length ≤ 100000 := by
      have h1 := py.len
      rw [List.length_take] at h1
      omega
    refine ⟨hw _, ?_⟩
    show te _ _ _
    refine he x c (mem_of_at hc) r H0 _ s fun y H' s' ry => ⟨ys, s' _ _ hy, small_app (Nat.le_refl _) ll, (s.trans s').wr hD, ys ++ [y], upd_same, ?_⟩
    rw [take_snoc hc]
    exact (py.mono fun v b rb => hR v b H' _ _ (s' _ _ hy) (kp_upd D H' _) (hR v b H0 H' _ hy s'.kp rb)).snoc (hR y c H' _ _ (s' _ _ hy) (kp_upd D H' _) ry)
  · rintro H ⟨s, ys, hy, py⟩
    rw [hlen, List.take_length] at py
    exact hd ys H s hy py
def wdS (c : SI) : Str := if c.2 = 1 then c.1 else c.1 ++ "^" ++ intS c.2
def rowTxt (ss : List SI) : Str := if ss = [] then "." else Txt.join " " (ss.map wdS)
theorem wdS_wd {c : SI} (h1 : NmOk c.1) (h2 : Bd 1000 c.2) : Wd (wdS c) c := by
  refine ⟨h1, h2, ?_⟩
  unfold wdS
  by_cases e : c.2 = 1
  · rw [if_pos e]; exact .inl ⟨rfl, e⟩
  · rw [if_neg e]; exact .inr rfl
theorem bd_log {e : Int} (h : Bd 1000 e) : e.natAbs.log2 < 1920 := by
  have h : e.natAbs < 2 ^ 1000 := h
  by_cases h0 : e.natAbs = 0
  · rw [h0]; decide
  · exact Nat.lt_trans ((Nat.log2_lt h0).mpr h) (by decide)
theorem empty_app (x : Str) : Str.empty ++ x = x := by
  refine ext_tl ?_
  rw [tl_append]
  rfl
theorem sum_le {α : Type} {f : α → Nat} {m : Nat} : ∀ {l : List α}, (∀ x ∈ l, f x ≤ m) → (l.map f).sum ≤ m * l.length
  | [], _ => Nat.zero_le _
  | x :: l, h => by
    have h1 := h x List.mem_cons_self
    have h2 := sum_le (f := f) (m := m) (l := l) fun y hy => h y (List.mem_cons_of_mem _ hy)
    rw [List.map_cons, List.sum_cons, List.length_cons, Nat.mul_succ]
    omega
theorem joinL_len (S : List Nat) : ∀ l : List (List Nat), (joinL S l).length ≤ (l.map List.length).sum + l.length * S.length
  | [] => Nat.zero_le _
  | [p] => by
    show p.length ≤ (p.length + 0) + 1 * S.length
    omega
  | p :: q :: r => by
    have ih := joinL_len S (q :: r)
    show (p ++ (S ++ joinL S (q :: r))).length ≤ _
    rw [List.length_append, List.length_append, List.map_cons, List.sum_cons, List.length_cons, Nat.succ_mul]
    omega
theorem words_len {ws : List Str} {cs : List SI} (h : P2 Wd ws cs) : (Txt.join " " ws).length ≤ 321 * ws.length := by
  rw [len_tl, join_eq, tl_join, tl_sp]
  have h1 := joinL_len [32] (ws.map tl)
  have h2 := sum_le (l := ws.map tl) (f := List.length) (m := 320) fun z hz => by
    obtain ⟨x, hx, rfl⟩ := List.mem_map.mp hz
    obtain ⟨c, _, r⟩ := h.meml hx
    have := r.len
    rw [len_tl] at this
    exact this
  rw [List.length_map] at h1 h2
  have e1 : ([32] : List Nat).length = 1 := rfl
  rw [e1] at h1
  omega
end Tr

/-! ### the text by places; what the top has left -/
namespace Tr
open PySem L2
def top (i : Nat) : Stmt := PySem.Challenge.pw_turnrings_k21_rings_by_common_divisors.main.body.getD i (.Pass ⟨0, 0, 0, 0⟩)
abbrev s__law_bag : Stmt := top 56
theorem sc__law_bag : FnScope ["_law_script", "_law_fold", "_law_cell"] ["_law_script"] (defScope s__law_bag) := ⟨rfl, rfl, rfl, by decide +kernel, rfl, by decide +kernel, by decide +kernel⟩
abbrev s__law_draw : Stmt := top 57
theorem sc__law_draw : FnScope ["_law_bag_here", "_law_limit", "_law_cell", "_law_digit", "_law_base"] ["_law_bag_here", "_law_limit"] (defScope s__law_draw) := ⟨rfl, rfl, rfl, by decide +kernel, rfl, by decide +kernel, by decide +kernel⟩
abbrev s__law_ident : Stmt := top 58
theorem sc__law_ident : FnScope ["_law_bag_here", "_law_k", "_law_letters", "_law_text"] ["_law_bag_here", "_law_k"] (defScope s__law_ident) := ⟨rfl, rfl, rfl, by decide +kernel, rfl, by decide +kernel, by decide +kernel⟩
abbrev s_is_whole : Stmt := top 45
theorem sc_is_whole : FnScope ["value"] ["value"] (defScope s_is_whole) := ⟨rfl, rfl, rfl, by decide +kernel, rfl, by decide +kernel, by decide +kernel⟩
abbrev s_is_name : Stmt := top 31
theorem sc_is_name : FnScope ["value", "sign"] ["value"] (defScope s_is_name) := ⟨rfl, rfl, rfl, by decide +kernel, rfl, by decide +kernel, by decide +kernel⟩
abbrev s_Turns___init__ : Stmt := inClass (top 47) 1
theorem sc_Turns___init__ : FnScope ["self", "pairs", "told", "periods", "ranks", "name", "period"] ["self", "pairs"] (defScope s_Turns___init__) := ⟨rfl, rfl, rfl, by decide +kernel, rfl, by decide +kernel, by decide +kernel⟩
abbrev s_Turns___contains__ : Stmt := inClass (top 47) 7
theorem sc_Turns___contains__ : FnScope ["self", "name"] ["self", "name"] (defScope s_Turns___contains__) := ⟨rfl, rfl, rfl, by decide +kernel, rfl, by decide +kernel, by decide +kernel⟩
abbrev s_Turns_period_of : Stmt := inClass (top 47) 2
theorem sc_Turns_period_of : FnScope ["self", "name"] ["self", "name"] (defScope s_Turns_period_of) := ⟨rfl, rfl, rfl, by decide +kernel, rfl, by decide +kernel, by decide +kernel⟩
abbrev s_Turns_rank : Stmt := inClass (top 47) 3
theorem sc_Turns_rank : FnScope ["self", "name"] ["self", "name"] (defScope s_Turns_rank) := ⟨rfl, rfl, rfl, by decide +kernel, rfl, by decide +kernel, by decide +kernel⟩
abbrev s_Turns___eq__ : Stmt := inClass (top 47) 9
theorem sc_Turns___eq__ : FnScope ["self", "other"] ["self", "other"] (defScope s_Turns___eq__) := ⟨rfl, rfl, rfl, by decide +kernel, rfl, by decide +kernel, by decide +kernel⟩
abbrev s_reduced : Stmt := top 32
theorem sc_reduced : FnScope ["turns", "name", "exponent", "period"] ["turns", "name", "exponent"] (defScope s_reduced) := ⟨rfl, rfl, rfl, by decide +kernel, rfl, by decide +kernel, by decide +kernel⟩
abbrev s_step_key : Stmt := top 34
theorem sc_step_key : FnScope ["turns", "step", "name", "exponent", "period", "clicks"] ["turns", "step"] (defScope s_step_key) := ⟨rfl, rfl, rfl, by decide +kernel, rfl, by decide +kernel, by decide +kernel⟩
abbrev s_normal_steps : Stmt := top 33
theorem sc_normal_steps : FnScope ["turns", "steps", "kept", "name", "exponent"] ["turns", "steps"] (defScope s_normal_steps) := ⟨rfl, rfl, rfl, by decide +kernel, rfl, by decide +kernel, by decide +kernel⟩
abbrev s_Row___init__ : Stmt := inClass (top 36) 1
theorem sc_Row___init__ : FnScope ["self", "turns", "steps", "name", "exponent", "keys", "step"] ["self", "turns", "steps"] (defScope s_Row___init__) := ⟨rfl, rfl, rfl, by decide +kernel, rfl, by decide +kernel, by decide +kernel⟩
abbrev s_common_divisor : Stmt := top 2
theorem sc_common_divisor : FnScope ["a", "b"] ["a", "b"] (defScope s_common_divisor) := ⟨rfl, rfl, rfl, by decide +kernel, rfl, by decide +kernel, by decide +kernel⟩
abbrev s_Ring_place : Stmt := inClass (top 8) 1
theorem sc_Ring_place : FnScope ["self", "position"] ["self", "position"] (defScope s_Ring_place) := ⟨rfl, rfl, rfl, by decide +kernel, rfl, by decide +kernel, by decide +kernel⟩
abbrev s_RingMap_seat : Stmt := inClass (top 9) 2
theorem sc_RingMap_seat : FnScope ["self", "spot", "ring", "position"] ["self", "spot", "ring", "position"] (defScope s_RingMap_seat) := ⟨rfl, rfl, rfl, by decide +kernel, rfl, by decide +kernel, by decide +kernel⟩
abbrev s_RingMap_unseat : Stmt := inClass (top 9) 3
theorem sc_RingMap_unseat : FnScope ["self", "spot", "ring", "kept", "row"] ["self", "spot", "ring"] (defScope s_RingMap_unseat) := ⟨rfl, rfl, rfl, by decide +kernel, rfl, by decide +kernel, by decide +kernel⟩
abbrev s_RingMap_drop_ring : Stmt := inClass (top 9) 4
theorem sc_RingMap_drop_ring : FnScope ["self", "ring", "other"] ["self", "ring"] (defScope s_RingMap_drop_ring) := ⟨rfl, rfl, rfl, by decide +kernel, rfl, by decide +kernel, by decide +kernel⟩
abbrev s_Ring_spot_at : Stmt := inClass (top 8) 2
theorem sc_Ring_spot_at : FnScope ["self", "position", "wanted", "spot", "here"] ["self", "position"] (defScope s_Ring_spot_at) := ⟨rfl, rfl, rfl, by decide +kernel, rfl, by decide +kernel, by decide +kernel⟩
abbrev s_RingMap_ring_at : Stmt := inClass (top 9) 15
theorem sc_RingMap_ring_at : FnScope ["self", "spot", "name", "ring", "position"] ["self", "spot", "name"] (defScope s_RingMap_ring_at) := ⟨rfl, rfl, rfl, by decide +kernel, rfl, by decide +kernel, by decide +kernel⟩
abbrev s_RingMap_after : Stmt := inClass (top 9) 16
theorem sc_RingMap_after : FnScope ["self", "spot", "step", "ring", "position"] ["self", "spot", "step"] (defScope s_RingMap_after) := ⟨rfl, rfl, rfl, by decide +kernel, rfl, by decide +kernel, by decide +kernel⟩
abbrev s_RingMap_walk : Stmt := inClass (top 9) 17
theorem sc_RingMap_walk : FnScope ["self", "spot", "row", "step"] ["self", "spot", "row"] (defScope s_RingMap_walk) := ⟨rfl, rfl, rfl, by decide +kernel, rfl, by decide +kernel, by decide +kernel⟩
abbrev s_RingMap_join_spots : Stmt := inClass (top 9) 8
theorem sc_RingMap_join_spots : FnScope ["self", "spot", "gone", "name", "ring", "position", "place"] ["self", "spot", "gone"] (defScope s_RingMap_join_spots) := ⟨rfl, rfl, rfl, by decide +kernel, rfl, by decide +kernel, by decide +kernel⟩
abbrev s_RingMap_join_rings : Stmt := inClass (top 9) 9
theorem sc_RingMap_join_rings : FnScope ["self", "ring", "gone", "offset", "spot", "position"] ["self", "ring", "gone", "offset"] (defScope s_RingMap_join_rings) := ⟨rfl, rfl, rfl, by decide +kernel, rfl, by decide +kernel, by decide +kernel⟩
abbrev s_RingMap_lessen : Stmt := inClass (top 9) 10
theorem sc_RingMap_lessen : FnScope ["self", "ring", "spot", "positions", "first", "position"] ["self", "ring", "spot", "positions"] (defScope s_RingMap_lessen) := ⟨rfl, rfl, rfl, by decide +kernel, rfl, by decide +kernel, by decide +kernel⟩
abbrev s_RingMap_settle_spot : Stmt := inClass (top 9) 11
theorem sc_RingMap_settle_spot : FnScope ["self", "spot", "name", "seats", "ring", "position", "other", "here"] ["self", "spot", "name"] (defScope s_RingMap_settle_spot) := ⟨rfl, rfl, rfl, by decide +kernel, rfl, by decide +kernel, by decide +kernel⟩
abbrev s_RingMap_settle_ring : Stmt := inClass (top 9) 12
theorem sc_RingMap_settle_ring : FnScope ["self", "ring", "seen", "spot", "position", "here", "first"] ["self", "ring"] (defScope s_RingMap_settle_ring) := ⟨rfl, rfl, rfl, by decide +kernel, rfl, by decide +kernel, by decide +kernel⟩
abbrev s_RingMap_settle_once : Stmt := inClass (top 9) 13
theorem sc_RingMap_settle_once : FnScope ["self", "spot", "name", "ring"] ["self"] (defScope s_RingMap_settle_once) := ⟨rfl, rfl, rfl, by decide +kernel, rfl, by decide +kernel, by decide +kernel⟩
abbrev s_RingMap_close_up : Stmt := inClass (top 9) 14
theorem sc_RingMap_close_up : FnScope ["self"] ["self"] (defScope s_RingMap_close_up) := ⟨rfl, rfl, rfl, by decide +kernel, rfl, by decide +kernel, by decide +kernel⟩
abbrev s_Ring___init__ : Stmt := inClass (top 8) 0
theorem sc_Ring___init__ : FnScope ["self", "number", "turn", "modulus"] ["self", "number", "turn", "modulus"] (defScope s_Ring___init__) := ⟨rfl, rfl, rfl, by decide +kernel, rfl, by decide +kernel, by decide +kernel⟩
abbrev s_RingMap_new_spot : Stmt := inClass (top 9) 1
theorem sc_RingMap_new_spot : FnScope ["self", "spot", "name", "ring"] ["self"] (defScope s_RingMap_new_spot) := ⟨rfl, rfl, rfl, by decide +kernel, rfl, by decide +kernel, by decide +kernel⟩
abbrev s_RingMap_lay : Stmt := inClass (top 9) 5
theorem sc_RingMap_lay : FnScope ["self", "spot", "step", "name", "exponent", "ring", "position", "new", "own"] ["self", "spot", "step"] (defScope s_RingMap_lay) := ⟨rfl, rfl, rfl, by decide +kernel, rfl, by decide +kernel, by decide +kernel⟩
abbrev s_Row___len__ : Stmt := inClass (top 36) 7
theorem sc_Row___len__ : FnScope ["self"] ["self"] (defScope s_Row___len__) := ⟨rfl, rfl, rfl, by decide +kernel, rfl, by decide +kernel, by decide +kernel⟩
abbrev s_RingMap_add_fact : Stmt := inClass (top 9) 7
theorem sc_RingMap_add_fact : FnScope ["self", "claim", "place", "row", "other", "spot", "goal", "step", "name", "exponent", "ring", "position"] ["self", "claim"] (defScope s_RingMap_add_fact) := ⟨rfl, rfl, rfl, by decide +kernel, rfl, by decide +kernel, by decide +kernel⟩
abbrev s_RingMap___init__ : Stmt := inClass (top 9) 0
theorem sc_RingMap___init__ : FnScope ["self", "turns", "places", "name"] ["self", "turns", "places"] (defScope s_RingMap___init__) := ⟨rfl, rfl, rfl, by decide +kernel, rfl, by decide +kernel, by decide +kernel⟩
abbrev s_map_of : Stmt := top 10
theorem sc_map_of : FnScope ["book", "made", "claim"] ["book"] (defScope s_map_of) := ⟨rfl, rfl, rfl, by decide +kernel, rfl, by decide +kernel, by decide +kernel⟩
abbrev s_is_claim : Stmt := top 49
theorem sc_is_claim : FnScope ["value", "turns", "places", "place", "row", "other"] ["value", "turns", "places"] (defScope s_is_claim) := ⟨rfl, rfl, rfl, by decide +kernel, rfl, by decide +kernel, by decide +kernel⟩
abbrev s_Book___init__ : Stmt := inClass (top 52) 0
theorem sc_Book___init__ : FnScope ["self", "turns", "places", "facts", "at", "name", "claim"] ["self", "turns", "places", "facts"] (defScope s_Book___init__) := ⟨rfl, rfl, rfl, by decide +kernel, rfl, by decide +kernel, by decide +kernel⟩
abbrev s_Book_need_place : Stmt := inClass (top 52) 1
theorem sc_Book_need_place : FnScope ["self", "name"] ["self", "name"] (defScope s_Book_need_place) := ⟨rfl, rfl, rfl, by decide +kernel, rfl, by decide +kernel, by decide +kernel⟩
abbrev s_Book___contains__ : Stmt := inClass (top 52) 3
theorem sc_Book___contains__ : FnScope ["self", "claim", "place", "row", "other"] ["self", "claim"] (defScope s_Book___contains__) := ⟨rfl, rfl, rfl, by decide +kernel, rfl, by decide +kernel, by decide +kernel⟩
abbrev s_Book_leads : Stmt := inClass (top 52) 4
theorem sc_Book_leads : FnScope ["self", "place", "row", "spot", "name"] ["self", "place", "row"] (defScope s_Book_leads) := ⟨rfl, rfl, rfl, by decide +kernel, rfl, by decide +kernel, by decide +kernel⟩
abbrev s__law_divisor : Stmt := top 59
theorem sc__law_divisor : FnScope ["_law_one", "_law_two"] ["_law_one", "_law_two"] (defScope s__law_divisor) := ⟨rfl, rfl, rfl, by decide +kernel, rfl, by decide +kernel, by decide +kernel⟩
abbrev s__law_agrees : Stmt := top 60
theorem sc__law_agrees : FnScope ["_law_far", "_law_modulus"] ["_law_far", "_law_modulus"] (defScope s__law_agrees) := ⟨rfl, rfl, rfl, by decide +kernel, rfl, by decide +kernel, by decide +kernel⟩
abbrev s_law : Stmt := top 61
theorem sc_law : FnScope ["_law_script", "_law_bag_here", "_law_scale", "_law_period", "_law_name", "_law_turns", "_law_places", "_law_spots", "_law_told", "_law_k", "_law_far", "_law_modulus", "_law_one", "_law_two", "_law_book", "_law_row", "_law_due", "_law_other"] ["_law_script"] (defScope s_law) := ⟨rfl, rfl, rfl, by decide +kernel, rfl, by decide +kernel, by decide +kernel⟩
structure Txt (K : PySem.W.Frag) (mg : Str → Option Value) : Prop where
  a_Book__facts : NoAttr K (He.ga K "Book") "facts"
  a_Book__places : NoAttr K (He.ga K "Book") "places"
  a_Book__rings : NoAttr K (He.ga K "Book") "rings"
  a_Book__turns : NoAttr K (He.ga K "Book") "turns"
  a_RingMap__circles : NoAttr K (He.ga K "RingMap") "circles"
  a_RingMap__drawn : NoAttr K (He.ga K "RingMap") "drawn"
  a_RingMap__laid : NoAttr K (He.ga K "RingMap") "laid"
  a_RingMap__lying : NoAttr K (He.ga K "RingMap") "lying"
  a_RingMap__spot_of : NoAttr K (He.ga K "RingMap") "spot_of"
  a_RingMap__spots : NoAttr K (He.ga K "RingMap") "spots"
  a_RingMap__turns : NoAttr K (He.ga K "RingMap") "turns"
  a_Ring__modulus : NoAttr K (He.ga K "Ring") "modulus"
  a_Ring__number : NoAttr K (He.ga K "Ring") "number"
  a_Ring__seats : NoAttr K (He.ga K "Ring") "seats"
  a_Ring__turn : NoAttr K (He.ga K "Ring") "turn"
  a_Row__key : NoAttr K (He.ga K "Row") "key"
  a_Row__steps : NoAttr K (He.ga K "Row") "steps"
  a_Row__turns : NoAttr K (He.ga K "Row") "turns"
  a_Turns__names : NoAttr K (He.ga K "Turns") "names"
  a_Turns__pairs : NoAttr K (He.ga K "Turns") "pairs"
  a_Turns__periods : NoAttr K (He.ga K "Turns") "periods"
  a_Turns__ranks : NoAttr K (He.ga K "Turns") "ranks"
  b_abs : mg "abs" = none
  b_all : mg "all" = none
  b_bool : mg "bool" = none
  b_enumerate : mg "enumerate" = none
  b_int : mg "int" = none
  b_isinstance : mg "isinstance" = none
  b_len : mg "len" = none
  b_list : mg "list" = none
  b_min : mg "min" = none
  b_range : mg "range" = none
  b_str : mg "str" = none
  b_tuple : mg "tuple" = none
  c_DIGITS : GCon mg "DIGITS" (.str "0123456789")
  c_LETTERS : GCon mg "LETTERS" (.str "abcdefghijklmnopqrstuvwxyz")
  c_LONGEST_NAME : GCon mg "LONGEST_NAME" (.int 12)
  d__law_agrees : Dfn K mg "_law_agrees" s__law_agrees
  d__law_bag : Dfn K mg "_law_bag" s__law_bag
  d__law_divisor : Dfn K mg "_law_divisor" s__law_divisor
  d__law_draw : Dfn K mg "_law_draw" s__law_draw
  d__law_ident : Dfn K mg "_law_ident" s__law_ident
  d_common_divisor : Dfn K mg "common_divisor" s_common_divisor
  d_is_claim : Dfn K mg "is_claim" s_is_claim
  d_is_name : Dfn K mg "is_name" s_is_name
  d_is_whole : Dfn K mg "is_whole" s_is_whole
  d_map_of : Dfn K mg "map_of" s_map_of
  d_normal_steps : Dfn K mg "normal_steps" s_normal_steps
  d_reduced : Dfn K mg "reduced" s_reduced
  d_step_key : Dfn K mg "step_key" s_step_key
  e_Row : Ini0 K mg "Row" "Row.__init__" (He.ga K "Row") s_Row___init__
  i_Book : Ini K mg "Book" "Book.__init__" (He.ga K "Book") s_Book___init__ 1
  i_Ring : Ini K mg "Ring" "Ring.__init__" (He.ga K "Ring") s_Ring___init__ 0
  i_RingMap : Ini K mg "RingMap" "RingMap.__init__" (He.ga K "RingMap") s_RingMap___init__ 1
  i_Row : Ini K mg "Row" "Row.__init__" (He.ga K "Row") s_Row___init__ 1
  i_Turns : Ini K mg "Turns" "Turns.__init__" (He.ga K "Turns") s_Turns___init__ 0
  k_Book : Cls K (He.ga K "Book")
  k_Ring : Cls K (He.ga K "Ring")
  k_RingMap : Cls K (He.ga K "RingMap")
  k_Row : Cls K (He.ga K "Row")
  k_Turns : Cls K (He.ga K "Turns")
  m_Book____contains__ : Mth K (He.ga K "Book") "__contains__" "Book.__contains__" s_Book___contains__
  m_Book__leads : Mth K (He.ga K "Book") "leads" "Book.leads" s_Book_leads
  m_Book__need_place : Mth K (He.ga K "Book") "need_place" "Book.need_place" s_Book_need_place
  m_RingMap__add_fact : Mth K (He.ga K "RingMap") "add_fact" "RingMap.add_fact" s_RingMap_add_fact
  m_RingMap__after : Mth K (He.ga K "RingMap") "after" "RingMap.after" s_RingMap_after
  m_RingMap__close_up : Mth K (He.ga K "RingMap") "close_up" "RingMap.close_up" s_RingMap_close_up
  m_RingMap__drop_ring : Mth K (He.ga K "RingMap") "drop_ring" "RingMap.drop_ring" s_RingMap_drop_ring
  m_RingMap__join_rings : Mth K (He.ga K "RingMap") "join_rings" "RingMap.join_rings" s_RingMap_join_rings
  m_RingMap__join_spots : Mth K (He.ga K "RingMap") "join_spots" "RingMap.join_spots" s_RingMap_join_spots
  m_RingMap__lay : Mth K (He.ga K "RingMap") "lay" "RingMap.lay" s_RingMap_lay
  m_RingMap__lessen : Mth K (He.ga K "RingMap") "lessen" "RingMap.lessen" s_RingMap_lessen
  m_RingMap__new_spot : Mth K (He.ga K "RingMap") "new_spot" "RingMap.new_spot" s_RingMap_new_spot
  m_RingMap__ring_at : Mth K (He.ga K "RingMap") "ring_at" "RingMap.ring_at" s_RingMap_ring_at
  m_RingMap__seat : Mth K (He.ga K "RingMap") "seat" "RingMap.seat" s_RingMap_seat
  m_RingMap__settle_once : Mth K (He.ga K "RingMap") "settle_once" "RingMap.settle_once" s_RingMap_settle_once
  m_RingMap__settle_ring : Mth K (He.ga K "RingMap") "settle_ring" "RingMap.settle_ring" s_RingMap_settle_ring
  m_RingMap__settle_spot : Mth K (He.ga K "RingMap") "settle_spot" "RingMap.settle_spot" s_RingMap_settle_spot
  m_RingMap__unseat : Mth K (He.ga K "RingMap") "unseat" "RingMap.unseat" s_RingMap_unseat
  m_RingMap__walk : Mth K (He.ga K "RingMap") "walk" "RingMap.walk" s_RingMap_walk
  m_Ring__place : Mth K (He.ga K "Ring") "place" "Ring.place" s_Ring_place
  m_Ring__spot_at : Mth K (He.ga K "Ring") "spot_at" "Ring.spot_at" s_Ring_spot_at
  m_Row____len__ : Mth K (He.ga K "Row") "__len__" "Row.__len__" s_Row___len__
  m_Turns____contains__ : Mth K (He.ga K "Turns") "__contains__" "Turns.__contains__" s_Turns___contains__
  m_Turns____eq__ : Mth K (He.ga K "Turns") "__eq__" "Turns.__eq__" s_Turns___eq__
  m_Turns__period_of : Mth K (He.ga K "Turns") "period_of" "Turns.period_of" s_Turns_period_of
  m_Turns__rank : Mth K (He.ga K "Turns") "rank" "Turns.rank" s_Turns_rank
  n_Turns : NeOf K (He.ga K "Turns")
  o_Row : IsO K (He.ga K "Row")
  o_Turns : IsO K (He.ga K "Turns")
  q_Turns__MOST : CCon K (He.ga K "Turns") "MOST" (.int 8)
  v_Book : mg "Book" = some (.ref (He.ga K "Book"))
  v_RingMap : mg "RingMap" = some (.ref (He.ga K "RingMap"))
  v_Row : mg "Row" = some (.ref (He.ga K "Row"))
  v_Turns : mg "Turns" = some (.ref (He.ga K "Turns"))
end Tr


namespace Tr
open PySem L2
/-- steps of a reading that are plain -/
local macro_rules | `(tactic| walk_at "x") => `(tactic| (refine' ⟨_, _, _, _, rfl, rfl, ?k1, ?k2, ?_⟩; (case k1 => exact SqT.of (by assumption)); (case k2 => exact rfl)))
local macro_rules | `(tactic| walk_at "g") => `(tactic| repeat (first | (refine ⟨_, rfl, ?_⟩) | (refine ⟨_, _, rfl, rfl, ?_⟩) | (refine ⟨_, _, rfl, ?_⟩) | (refine ⟨rfl, ?_⟩) | walk_at "x"))


/-! ### the law's bag -/
def bagK (q : Addr) (a : Nat) (d c f : Int) : List (Key × V) := [(.inr "cells", .ref q), (.inr "at", .int a), (.inr "digits", .int d), (.inr "count", .int c), (.inr "fold", .int f)]
/-- a bag at p, at most N numbers drawn -/
structure Bag (H : Hp) (p q : Addr) (N : Nat) : Prop where
  ex : ∃ (ns : List Int) (a : Nat) (d c f : Int), H p = some (.dK (bagK q a d c f)) ∧ H q = some (.lst (ns.map V.int)) ∧ 0 ≤ d ∧ 0 ≤ c ∧ c ≤ N ∧ 0 ≤ f ∧ f < 2147483587
section
variable {q : Addr} {a a' : Nat} {d c f x : Int} {H : Hp} {p : Addr}
theorem bg_cells (h : H p = some (.dK (bagK q a d c f))) : DGet H p (.str "cells") (some (.ref q)) := DGet.k (k := Sum.inr "cells") h
theorem bg_at (h : H p = some (.dK (bagK q a d c f))) : DGet H p (.str "at") (some (.int a)) := DGet.k (k := Sum.inr "at") h
theorem bg_digits (h : H p = some (.dK (bagK q a d c f))) : DGet H p (.str "digits") (some (.int d)) := DGet.k (k := Sum.inr "digits") h
theorem bg_count (h : H p = some (.dK (bagK q a d c f))) : DGet H p (.str "count") (some (.int c)) := DGet.k (k := Sum.inr "count") h
theorem bg_fold (h : H p = some (.dK (bagK q a d c f))) : DGet H p (.str "fold") (some (.int f)) := DGet.k (k := Sum.inr "fold") h
theorem bp_at (h : H p = some (.dK (bagK q a d c f))) : DPut H p (.str "at") (.int ((a : Int) + 1)) (upd H p (.dK (bagK q (a + 1) d c f))) := DPut.k (k := Sum.inr "at") h (by show 5 < sizeLine; decide)
theorem bp_digits (h : H p = some (.dK (bagK q a d c f))) : DPut H p (.str "digits") (.int x) (upd H p (.dK (bagK q a x c f))) := DPut.k (k := Sum.inr "digits") h (by show 5 < sizeLine; decide)
theorem bp_count (h : H p = some (.dK (bagK q a d c f))) : DPut H p (.str "count") (.int x) (upd H p (.dK (bagK q a d x f))) := DPut.k (k := Sum.inr "count") h (by show 5 < sizeLine; decide)
theorem bp_fold (h : H p = some (.dK (bagK q a d c f))) : DPut H p (.str "fold") (.int x) (upd H p (.dK (bagK q a d c x))) := DPut.k (k := Sum.inr "fold") h (by show 5 < sizeLine; decide)
theorem bag_new : mergeK [] (bagK q a d c f) = bagK q a d c f := rfl
end
section
variable {P : Program} {w : World} {K : PySem.W.Frag} {mg : Str → Option Value} {base : Heap}
def spBag (K : PySem.W.Frag) : Sp := fun vs H Q _ => ∃ (a : Addr) (ns : List Int), vs = [.ref a] ∧ SqL K H a (ns.map V.int) ∧ ∀ p q H', Same H H' → H p = none → Bag H' p q 0 → Q (.ref p) H'
theorem c__law_bag (T : Txt K mg) : Cal P w K mg base 1 "_law_bag" (spBag K) [] := by
  refine calN T.d__law_bag sc__law_bag (fun vs H Q E h => ?_) (fun _ _ _ _ _ _ us hl => match us, hl with | [_], _ => rfl) (fun f cdv A outer s H vs Q E hr h => ?_)
  · obtain ⟨a, ns, rfl, _⟩ := h
    rfl
  · obtain ⟨a, ns, rfl, hS, k⟩ := h
    refine ⟨_, (pss_cons (ps_set (i := 1) sc__law_bag.nd rfl (Or.inl rfl) pe_int)
      (pss_cons (ps_for PassesOwn.never rfl (pi_list (pv 0)) (pg_name (i := 2) sc__law_bag.nd rfl (Or.inl rfl)) (pss_one (ps_set (i := 1) sc__law_bag.nd rfl (Or.inl rfl) (pe_op op_mod (pe_callTy call_int1 (by rfl) T.b_int (by decide +kernel) (pa_cons (pe_op op_add (pe_op op_mul (pv 1) pe_int) (pv 2)) pa_nil)) pe_int))))
      (pss_one (ps_ret (pe_disp (pps_cons pe_str (pe_callTy call_list_of (by rfl) T.b_list (by decide +kernel) (pa_cons (pv 0) pa_nil)) (pps_cons pe_str pe_int (pps_cons pe_str pe_int (pps_cons pe_str pe_int (pps_cons pe_str (pv 1) pps_nil))))) rfl rfl (List.cons_ne_nil _ _) (by decide)))))), ?_⟩
    walk_at "g"
    refine ⟨⟨_, hS⟩, ?_⟩
    refine for_list (xs := ns.map V.int) (fun i σ H' => ∃ (f : Int) (v : Option V), σ = [some (.ref a), some (.int f), v] ∧ H' = H ∧ 0 ≤ f ∧ f < 1000000009) ⟨0, _, rfl, rfl, by omega, by omega⟩ ?_ ?_ ?_
    · rintro i σ H' _ ⟨f, v, rfl, rfl, _⟩
      exact hS
    · rintro i y σ H' hy ⟨f, v, rfl, rfl, f0, f1⟩
      rw [List.getElem?_map] at hy
      cases hn : ns[i]? with
      | none => rw [hn] at hy; cases hy
      | some n =>
        rw [hn] at hy
        cases hy
        walk_at "g"
        refine ⟨.inr ⟨by decide, by decide⟩, ?_⟩
        walk_at "g"
        refine .inl ⟨_, rfl, ?_⟩
        walk_at "g"
        refine ⟨by show (0 : Int) < 1000000009; decide, ?_⟩
        exact ⟨_, _, rfl, rfl, Int.emod_nonneg _ (by decide), Int.emod_lt_of_pos _ (by decide)⟩
    · rintro σ H' ⟨f, v, rfl, rfl, f0, f1⟩
      walk_at "g"
      intro p np
      walk_at "g"
      refine ⟨a, _, rfl, .inl ((same_upd np).seq hS), fun l nl => ?_⟩
      have npl : p ≠ l := ne_of_none (upd_same : upd H' p (.dK []) p = _) nl
      walk_at "g"
      refine ⟨by rw [upd_ne npl]; exact upd_same, bagK l 0 0 0 f, rfl, by show 5 ≤ 15; decide, ?_⟩
      refine k p l _ (((same_upd np).upd' nl).wr np) np ⟨ns, 0, 0, 0, f, upd_same, ?_, by omega, by omega, by omega, f0, by omega⟩
      rw [upd_ne npl.symm]
      exact upd_same
def spDraw : Sp := fun vs H Q _ => ∃ (p q : Addr) (lim : Int) (N : Nat), vs = [.ref p, .int lim] ∧ Bag H p q N ∧ N < 1000000 ∧ 0 < lim ∧ Bd 8000 lim ∧ ∀ v H', Kp p H H' → Bag H' p q (N + 1) → 0 ≤ v → v < lim → Q (.int v) H'
theorem c__law_draw (T : Txt K mg) : Cal P w K mg base 1 "_law_draw" spDraw [] := by
  refine calN T.d__law_draw sc__law_draw (fun vs H Q E h => ?_) (fun _ _ _ _ _ _ us hl => match us, hl with | [_, _], _ => rfl) (fun f cdv A outer s H vs Q E hr h => ?_)
  · obtain ⟨p, q, lim, N, rfl, _⟩ := h
    rfl
  · obtain ⟨p, q, lim, N, rfl, ⟨ns, a, d, c, fo, hp, hq, d0, c0, c1, f0, f1⟩, hN, l0, lB, k⟩ := h
    refine ⟨_, (pss_cons (ps_dput (hu_of hr) (pv 0) pe_str (pe_op op_add (pe_dget (hu_of hr) (pv 0) pe_str (fun _ _ => rfl)) pe_int) rfl)
      (C8.pss_cut (ps_if (PW.pt (pw_and (pt_cmpR op_eq (pe_dget (hu_of hr) (pv 0) pe_str (fun _ _ => rfl)) pe_int (nomark _)) (pw_and1 (pt_cmpR op_lt (pe_dget (hu_of hr) (pv 0) pe_str (fun _ _ => rfl)) (pe_callB call_len (by rfl) T.b_len (by decide +kernel) (pa_cons (pe_dget (hu_of hr) (pv 0) pe_str (fun _ _ => rfl)) pa_nil)) (nomark _))))) (pss_cons (ps_set (i := 2) sc__law_draw.nd rfl (Or.inl rfl) (pe_ix ix_list (pe_dget (hu_of hr) (pv 0) pe_str (fun _ _ => rfl)) (pe_dget (hu_of hr) (pv 0) pe_str (fun _ _ => rfl)) (fun _ _ => rfl)))
      (pss_cons (ps_dput (hu_of hr) (pv 0) pe_str (pe_op op_add (pe_dget (hu_of hr) (pv 0) pe_str (fun _ _ => rfl)) pe_int) rfl)
      (pss_one (ps_if (pt_cmpR op_ge (pv 2) (pe_op op_pow pe_int pe_int) (nomark _)) (pss_one (ps_dput (hu_of hr) (pv 0) pe_str (pe_op op_sub (pv 2) (pe_op op_pow pe_int pe_int)) rfl)) (pss_one (ps_dput (hu_of hr) (pv 0) pe_str (pe_op op_mod (pe_callTy call_int1 (by rfl) T.b_int (by decide +kernel) (pa_cons (pe_op op_add (pe_op op_mul (pe_dget (hu_of hr) (pv 0) pe_str (fun _ _ => rfl)) pe_int) (pv 2)) pa_nil)) pe_int) rfl)))))) pss_nil)
      (pss_cons (ps_if (pt_cmpR op_gt (pe_dget (hu_of hr) (pv 0) pe_str (fun _ _ => rfl)) pe_int (nomark _)) (pss_cons (ps_set (i := 3) sc__law_draw.nd rfl (Or.inl rfl) (pe_op op_mod (pe_callTy call_int1 (by rfl) T.b_int (by decide +kernel) (pa_cons (pe_dget (hu_of hr) (pv 0) pe_str (fun _ _ => rfl)) pa_nil)) (pv 1)))
      (pss_cons (ps_dput (hu_of hr) (pv 0) pe_str (pe_op op_fdivW (pe_dget (hu_of hr) (pv 0) pe_str (fun _ _ => rfl)) (pv 1)) rfl)
      (pss_one (ps_ret (pv 3))))) pss_nil)
      (pss_cons (ps_set (i := 4) sc__law_draw.nd rfl (Or.inl rfl) (pe_op op_add (pe_op op_add (pe_dget (hu_of hr) (pv 0) pe_str (fun _ _ => rfl)) (pe_op op_mul (pe_dget (hu_of hr) (pv 0) pe_str (fun _ _ => rfl)) pe_int)) pe_int))
      (pss_one (ps_ret (pe_op op_mod (pe_op op_fdivW (pe_callTy call_int1 (by rfl) T.b_int (by decide +kernel) (pa_cons (pe_op op_mod (pe_op op_pow (pv 4) pe_int) pe_int) pa_nil)) pe_int) (pv 1)))))))), ?_⟩
    have nqp : q ≠ p := ne_of hq hp (by intro z; cases z)
    walk_at "g"
    refine ⟨p, _, rfl, bg_count hp, ?_⟩
    walk_at "g"
    refine ⟨p, _, rfl, bp_count hp, ?_⟩
    obtain ⟨H1, e1⟩ : ∃ H1, H1 = upd H p (.dK (bagK q a d (c + 1) fo)) := ⟨_, rfl⟩
    rw [← e1]
    have kp1 : Kp p H H1 := by rw [e1]; exact kp_upd p H _
    have hp1 : H1 p = some (.dK (bagK q a d (c + 1) fo)) := by rw [e1]; exact upd_same
    have hq1 : H1 q = some (.lst (ns.map V.int)) := kp1 _ _ hq nqp
    refine ⟨fun σ' H2 => ∃ (v : Option V) (a2 : Nat) (d2 f2 : Int), σ' = [some (.ref p), some (.int lim), v, none, none] ∧ Kp p H H2 ∧ H2 p = some (.dK (bagK q a2 d2 (c + 1) f2)) ∧ H2 q = some (.lst (ns.map V.int)) ∧ 0 ≤ d2 ∧ 0 ≤ f2 ∧ f2 < 2147483587, ?_, ?_⟩
    · walk_at "g"
      refine ⟨p, _, rfl, bg_digits hp1, ?_⟩
      walk_at "g"
      have stay : (fun σ' H2 => ∃ (v : Option V) (a2 : Nat) (d2 f2 : Int), σ' = [some (.ref p), some (.int lim), v, none, none] ∧ Kp p H H2 ∧ H2 p = some (.dK (bagK q a2 d2 (c + 1) f2)) ∧ H2 q = some (.lst (ns.map V.int)) ∧ 0 ≤ d2 ∧ 0 ≤ f2 ∧ f2 < 2147483587) [some (.ref p), some (.int lim), none, none, none] H1 :=
        ⟨_, a, d, fo, rfl, kp1, hp1, hq1, d0, f0, f1⟩
      refine iteB (fun c2 => ?_) (fun c2 => ?_)
      · walk_at "g"
        refine ⟨p, _, rfl, bg_at hp1, ?_⟩
        walk_at "g"
        refine ⟨p, _, rfl, bg_cells hp1, ?_⟩
        refine ⟨_, _, rfl, .inl ⟨_, SqL.of hq1, rfl⟩, ?_⟩
        walk_at "g"
        rw [List.length_map]
        refine iteB (fun c3 => ?_) (fun c3 => ?_)
        · have ha : a < ns.length := by have := of_decide_eq_true c3; omega
          walk_at "g"
          refine ⟨p, _, rfl, bg_cells hp1, ?_⟩
          walk_at "g"
          refine ⟨p, _, rfl, bg_at hp1, ?_⟩
          refine ⟨q, _, (a : Int), .int ns[a], rfl, rfl, SqL.of hq1, atI_nat (j := a) (by rw [List.getElem?_map, List.getElem?_eq_getElem ha] <;> rfl), ?_⟩
          generalize ns[a] = z
          walk_at "g"
          refine ⟨p, _, rfl, bg_at hp1, ?_⟩
          walk_at "g"
          refine ⟨p, _, rfl, bp_at hp1, ?_⟩
          obtain ⟨H3, e3⟩ : ∃ H3, H3 = upd H1 p (.dK (bagK q (a + 1) d (c + 1) fo)) := ⟨_, rfl⟩
          rw [← e3]
          have kp3 : Kp p H H3 := by rw [e3]; exact kp1.trans (kp_upd p H1 _)
          have hp3 : H3 p = some (.dK (bagK q (a + 1) d (c + 1) fo)) := by rw [e3]; exact upd_same
          have hq3 : H3 q = some (.lst (ns.map V.int)) := kp3 _ _ hq nqp
          walk_at "g"
          refine ⟨⟨by decide, by decide, by decide⟩, ?_⟩
          walk_at "g"
          refine iteB (fun c4 => ?_) (fun c4 => ?_)
          · walk_at "g"
            refine ⟨⟨by decide, by decide, by decide⟩, ?_⟩
            walk_at "g"
            have h4 := of_decide_eq_true c4
            exact ⟨p, _, rfl, bp_digits hp3, _, a + 1, _, fo, rfl, kp3.trans (kp_upd p H3 _), upd_same, by rw [upd_ne nqp]; exact hq3, by omega, f0, f1⟩
          · walk_at "g"
            refine ⟨p, _, rfl, bg_fold hp3, ?_⟩
            walk_at "g"
            refine ⟨.inr ⟨by decide, by decide⟩, ?_⟩
            walk_at "g"
            refine .inl ⟨_, rfl, ?_⟩
            walk_at "g"
            refine ⟨by show (0 : Int) < 2147483587; decide, ?_⟩
            walk_at "g"
            exact ⟨p, _, rfl, bp_fold hp3, _, a + 1, d, _, rfl, kp3.trans (kp_upd p H3 _), upd_same, by rw [upd_ne nqp]; exact hq3, d0, Int.emod_nonneg _ (by decide), Int.emod_lt_of_pos _ (by decide)⟩
        · exact stay
      · exact stay
    · rintro σ' H2 ⟨v, a2, d2, f2, rfl, kp2, hp2, hq2, d20, f20, f21⟩
      walk_at "g"
      refine ⟨p, _, rfl, bg_digits hp2, ?_⟩
      walk_at "g"
      refine iteB (fun c2 => ?_) (fun c2 => ?_)
      · have h2 := of_decide_eq_true c2
        walk_at "g"
        refine ⟨p, _, rfl, bg_digits hp2, ?_⟩
        refine .inl ⟨_, rfl, ?_⟩
        walk_at "g"
        refine ⟨l0, ?_⟩
        walk_at "g"
        refine ⟨p, _, rfl, bg_digits hp2, ?_⟩
        walk_at "g"
        refine ⟨cdivw l0 lB (by omega), ?_⟩
        walk_at "g"
        refine ⟨p, _, rfl, bp_digits hp2, ?_⟩
        walk_at "g"
        exact k _ _ (kp2.trans (kp_upd p H2 _)) ⟨ns, a2, _, c + 1, f2, upd_same, by rw [upd_ne nqp]; exact hq2, Int.ediv_nonneg d20 (Int.le_of_lt l0), by omega, by omega, f20, f21⟩ (Int.emod_nonneg _ (by omega)) (Int.emod_lt_of_pos _ l0)
      · walk_at "g"
        refine ⟨p, _, rfl, bg_fold hp2, ?_⟩
        walk_at "g"
        refine ⟨p, _, rfl, bg_count hp2, ?_⟩
        walk_at "g"
        refine ⟨.inr ⟨by decide, by decide⟩, ?_⟩
        walk_at "g"
        refine ⟨⟨by decide, by decide, by omega⟩, ?_⟩
        walk_at "g"
        refine ⟨by show (0 : Int) < 2305843009213693951; decide, ?_⟩
        refine .inl ⟨_, rfl, ?_⟩
        walk_at "g"
        refine ⟨⟨by decide, by decide⟩, ?_⟩
        walk_at "g"
        refine ⟨l0, ?_⟩
        exact k _ H2 kp2 ⟨ns, a2, d2, c + 1, f2, hp2, hq2, d20, by omega, by omega, f20, f21⟩ (Int.emod_nonneg _ (by omega)) (Int.emod_lt_of_pos _ l0)
end
end Tr

namespace Tr
open PySem L2
/-- steps of a reading that are plain -/
local macro_rules | `(tactic| walk_at "x") => `(tactic| (refine' ⟨_, _, _, _, rfl, rfl, ?k1, ?k2, ?_⟩; (case k1 => exact SqT.of (by assumption)); (case k2 => exact rfl)))
local macro_rules | `(tactic| walk_at "g") => `(tactic| repeat (first | (refine ⟨_, rfl, ?_⟩) | (refine ⟨_, _, rfl, rfl, ?_⟩) | (refine ⟨_, _, rfl, ?_⟩) | (refine ⟨rfl, ?_⟩) | walk_at "x"))


/-! ### the law's pairs -/
theorem Kp.wr {p l : Addr} {H H' : Hp} {o : HO} (k : Kp p H H') (h : H l = none) : Kp p H (upd H' l o) := fun b u e n => by
  rw [upd_ne (ne_of_none e h)]
  exact k b u e n
theorem P2.kpB {p : Addr} {H H' : Hp} {kvs : List (Key × V)} {ts : List Addr} {cs : List Cl} (k : Kp p H H') (hp : H p = some (.dK kvs)) (h : P2 (PrT H) ts cs) : P2 (PrT H') ts cs :=
  h.mono fun t c e => k _ _ e (ne_of e hp (by intro z; cases z))
theorem PL.kpB {p l : Addr} {H H' : Hp} {kvs : List (Key × V)} {cs : List Cl} (k : Kp p H H') (hp : H p = some (.dK kvs)) (h : PL H l cs) : PL H' l cs :=
  let ⟨ts, a, b⟩ := h
  ⟨ts, k _ _ a (ne_of a hp (by intro z; cases z)), b.kpB k hp⟩
theorem Bag.at_ {H : Hp} {p q : Addr} {N : Nat} (h : Bag H p q N) : ∃ kvs xs, H p = some (.dK kvs) ∧ H q = some (.lst xs) :=
  let ⟨_, _, _, _, _, a, b, _⟩ := h.ex
  ⟨_, _, a, b⟩
theorem Bag.mono {H : Hp} {p q : Addr} {N M : Nat} (h : Bag H p q N) (l : N ≤ M) : Bag H p q M :=
  let ⟨ns, a, d, c, f, h1, h2, h3, h4, h5, r⟩ := h.ex
  ⟨ns, a, d, c, f, h1, h2, h3, h4, by omega, r⟩
theorem Bag.keep {H H' : Hp} {p q : Addr} {N : Nat} (h : Bag H p q N) (hp : H' p = H p) (hq : H' q = H q) : Bag H' p q N :=
  let ⟨ns, a, d, c, f, h1, h2, r⟩ := h.ex
  ⟨ns, a, d, c, f, hp.trans h1, hq.trans h2, r⟩
theorem Bag.same {H H' : Hp} {p q : Addr} {N : Nat} (s : Same H H') (h : Bag H p q N) : Bag H' p q N :=
  let ⟨ns, a, d, c, f, h1, h2, r⟩ := h.ex
  ⟨ns, a, d, c, f, s _ _ h1, s _ _ h2, r⟩
theorem Bag.wr {H : Hp} {p q l : Addr} {N : Nat} {o : HO} (h : Bag H p q N) (h1 : l ≠ p) (h2 : l ≠ q) : Bag (upd H l o) p q N := h.keep (upd_ne h1.symm) (upd_ne h2.symm)
end Tr

namespace Tr
open PySem L2 TL
/-- steps of a reading that are plain -/
local macro_rules | `(tactic| walk_at "x") => `(tactic| (refine' ⟨_, _, _, _, rfl, rfl, ?k1, ?k2, ?_⟩; (case k1 => exact SqT.of (by assumption)); (case k2 => exact rfl)))
local macro_rules | `(tactic| walk_at "g") => `(tactic| repeat (first | (refine ⟨_, rfl, ?_⟩) | (refine ⟨_, _, rfl, rfl, ?_⟩) | (refine ⟨_, _, rfl, ?_⟩) | (refine ⟨rfl, ?_⟩) | walk_at "x"))


/-! ### the law's names (of one or two letters) -/
section
variable {P : Program} {w : World} {K : PySem.W.Frag} {mg : Str → Option Value} {base : Heap}
def spIdent : Sp := fun vs H Q _ => ∃ (p q : Addr) (N k : Nat), vs = [.ref p, .int k] ∧ Bag H p q N ∧ N < 900000 ∧ k < 10 ∧ ∀ z H', Kp p H H' → Bag H' p q (N + 4) → Nm k z → Q (.str z) H'
theorem c__law_ident (T : Txt K mg) : Cal P w K mg base 2 "_law_ident" spIdent [] := by
  have c__law_draw := @c__law_draw P w K mg base T
  refine calN T.d__law_ident sc__law_ident (fun vs H Q E h => ?_) (fun _ _ _ _ _ _ us hl => match us, hl with | [_, _], _ => rfl) (fun f cdv A outer s H vs Q E hr h => ?_)
  · obtain ⟨p, q, N, k, rfl, _⟩ := h
    rfl
  · obtain ⟨p, q, N, k, rfl, hB, hN, hk, Qk⟩ := h
    refine ⟨_, (pss_cons (ps_set (i := 2) sc__law_ident.nd rfl (Or.inl rfl) pe_str)
      (pss_cons (ps_set (i := 3) sc__law_ident.nd rfl (Or.inl rfl) (pe_ix ix_str (pv 2) (pe_cx c__law_draw hr (by first | decide | omega) rfl passL (pa_cons (pv 0) (pa_cons pe_int pa_nil))) (fun _ _ => rfl)))
      (pss_cons (ps_if (pt_cmpR op_eq (pe_cx c__law_draw hr (by first | decide | omega) rfl passL (pa_cons (pv 0) (pa_cons pe_int pa_nil))) pe_int (nomark _)) (pss_one (ps_set (i := 3) sc__law_ident.nd rfl (Or.inl rfl) (pe_op op_add_str (pv 3) (pe_ix ix_str (pv 2) (pe_cx c__law_draw hr (by first | decide | omega) rfl passL (pa_cons (pv 0) (pa_cons pe_int pa_nil))) (fun _ _ => rfl))))) pss_nil)
      (pss_one (ps_ret (pe_op op_add_str (pv 3) (pe_callTy call_str_int (by rfl) T.b_str (by decide +kernel) (pa_cons (pv 1) pa_nil)))))))), ?_⟩
    have big : ∀ x : Int, 0 ≤ x → x < 64 → Bd 8000 x := fun x h0 h1 => Bd.mono (n := 6) (by show x.natAbs < 2 ^ 6; omega) (by decide)
    walk_at "g"
    refine ⟨p, q, 26, N, rfl, hB, by omega, by decide, big _ (by decide) (by decide), fun v H1 kp1 hB1 v0 v1 => ?_⟩
    obtain ⟨j, rfl⟩ : ∃ j : Nat, v = (j : Int) := ⟨v.toNat, by omega⟩
    refine ⟨_, (j : Int), _, rfl, rfl, abc_len, abc_at (by omega), ?_⟩
    walk_at "g"
    refine ⟨p, q, 3, _, rfl, hB1, by omega, by decide, big _ (by decide) (by decide), fun v2 H2 kp2 hB2 v20 v21 => ?_⟩
    have hlog : (k : Int).natAbs.log2 < 1920 := Nat.lt_of_le_of_lt (Nat.log2_le_self _) (by show k < 1920; omega)
    walk_at "g"
    refine iteB (fun c1 => ?_) (fun c1 => ?_)
    · walk_at "g"
      refine ⟨p, q, 26, _, rfl, hB2, by omega, by decide, big _ (by decide) (by decide), fun v3 H3 kp3 hB3 v30 v31 => ?_⟩
      obtain ⟨i, rfl⟩ : ∃ i : Nat, v3 = (i : Int) := ⟨v3.toNat, by omega⟩
      refine ⟨_, (i : Int), _, rfl, rfl, abc_len, abc_at (by omega), ?_⟩
      have t2 : tl ((⟨#[97 + j]⟩ : Str) ++ (⟨#[97 + i]⟩ : Str)) = [97 + j, 97 + i] := by rw [tl_append]; rfl
      walk_at "g"
      refine ⟨(by decide : 2 ≤ sizeLine), ?_⟩
      walk_at "g"
      refine ⟨hlog, ?_⟩
      walk_at "g"
      refine ⟨?_, ?_⟩
      · rw [num_len hk]
        exact (by decide : 3 ≤ sizeLine)
      exact Qk _ H3 ((kp1.trans kp2).trans kp3) (hB3.mono (by omega)) (nm_mk hk ⟨_, _, t2, ⟨by omega, by omega⟩, Nat.succ_le_succ (Nat.zero_le _), fun d hd => by rw [List.mem_singleton.mp hd]; exact ⟨by omega, by omega⟩⟩)
    · walk_at "g"
      refine ⟨hlog, ?_⟩
      walk_at "g"
      refine ⟨?_, ?_⟩
      · rw [num_len hk]
        exact (show 2 ≤ sizeLine by decide)
      exact Qk _ H2 (kp1.trans kp2) (hB2.mono (by omega)) (nm_mk hk ⟨_, [], rfl, ⟨by omega, by omega⟩, by decide, fun d hd => by cases hd⟩)
end
end Tr

/-! # What the law's turns are (T2 without the law's own defs). -/
namespace Tr
open PySem L2 TL
/-- steps of a reading that are plain -/
local macro_rules | `(tactic| walk_at "x") => `(tactic| (refine' ⟨_, _, _, _, rfl, rfl, ?k1, ?k2, ?_⟩; (case k1 => exact SqT.of (by assumption)); (case k2 => exact rfl)))
local macro_rules | `(tactic| walk_at "g") => `(tactic| repeat (first | (refine ⟨_, rfl, ?_⟩) | (refine ⟨_, _, rfl, rfl, ?_⟩) | (refine ⟨_, _, rfl, ?_⟩) | (refine ⟨rfl, ?_⟩) | walk_at "x"))


/-! ### the law's turns, exponents, steps -/
def KOk (ks : List SI) : Prop := (∀ (i : Nat) c, ks[i]? = some c → Nm i c.1) ∧ ∀ c ∈ ks, (c.2 = 0 ∨ 2 ≤ c.2) ∧ Bd 140 c.2
theorem KOk.nil : KOk [] := ⟨fun i c h => by simp at h, fun c h => by cases h⟩
theorem KOk.snoc {ks : List SI} {c : SI} (h : KOk ks) (h1 : Nm ks.length c.1) (h2 : (c.2 = 0 ∨ 2 ≤ c.2) ∧ Bd 140 c.2) : KOk (ks ++ [c]) := by
  refine ⟨fun i d hd => ?_, fun d hd => ?_⟩
  · by_cases hi : i < ks.length
    · rw [List.getElem?_append_left hi] at hd
      exact h.1 i d hd
    · rw [List.getElem?_append_right (by omega)] at hd
      have : i - ks.length = 0 := by
        have := (List.getElem?_eq_some_iff.mp hd).1
        simp at this
        omega
      rw [this] at hd
      cases hd
      rw [show i = ks.length by omega]
      exact h1
  · rcases List.mem_append.mp hd with hd | hd
    · exact h.2 d hd
    · rw [List.mem_singleton.mp hd]
      exact h2
theorem sl_snoc {H : Hp} {l u : Addr} {kts : List Addr} {ds : List SI} {c : SI} {xs : List V} {ys : List V} (hl : H l = some (.lst xs)) (pk : P2 (SrT H) kts ds) (hu : SrT H u c) :
    P2 (SrT (upd H l (.lst ys))) (kts ++ [u]) (ds ++ [c]) := by
  have tup : ∀ {u : Addr} {c : SI}, SrT H u c → SrT (upd H l (.lst ys)) u c := fun {u c} e => by
    have n : u ≠ l := ne_of e hl (by intro z; cases z)
    show upd _ _ _ u = _
    rw [upd_ne n]
    exact e
  exact (pk.mono fun _ _ e => tup e).snoc (tup hu)
def StOk (ks ss : List SI) : Prop := ∀ c ∈ ss, (∃ k ∈ ks, k.1 = c.1) ∧ Bd 140 c.2
end Tr

namespace Tr
open PySem L2
/-- steps of a reading that are plain -/
local macro_rules | `(tactic| walk_at "x") => `(tactic| (refine' ⟨_, _, _, _, rfl, rfl, ?k1, ?k2, ?_⟩; (case k1 => exact SqT.of (by assumption)); (case k2 => exact rfl)))
local macro_rules | `(tactic| walk_at "g") => `(tactic| repeat (first | (refine ⟨_, rfl, ?_⟩) | (refine ⟨_, _, rfl, rfl, ?_⟩) | (refine ⟨_, _, rfl, ?_⟩) | (refine ⟨rfl, ?_⟩) | walk_at "x"))


/-! ### is_whole, is_part, Numbers.__init__ -/
section
variable {P : Program} {w : World} {K : PySem.W.Frag} {mg : Str → Option Value} {base : Heap}
def spWhole (K : PySem.W.Frag) : Sp := fun vs H Q _ => ∃ x b, vs = [x] ∧ IsW K H x b ∧ Q (.bl b) H
theorem c_is_whole (T : Txt K mg) : Cal P w K mg base 1 "is_whole" (spWhole K) [] := by
  refine calN T.d_is_whole sc_is_whole (fun vs H Q E h => ?_) (fun _ _ _ _ _ _ us hl => match us, hl with | [_], _ => rfl) (fun f cdv A outer s H vs Q E hr h => ?_)
  · obtain ⟨x, b, rfl, _⟩ := h
    rfl
  · obtain ⟨x, b, rfl, ⟨t, b1, b2, ty, k1, k2, rfl⟩, k⟩ := h
    refine ⟨_, (pss_one (ps_ret (pe_and (pe_callB call_isi (by rfl) T.b_isinstance (by decide +kernel) (pa_cons (pv 0) (pa_cons (pe_bltn (v := .ty "int") rfl T.b_int (by decide +kernel) rfl) pa_nil))) (pe_one (pe_not (pe_callB call_isi (by rfl) T.b_isinstance (by decide +kernel) (pa_cons (pv 0) (pa_cons (pe_bltn (v := .ty "bool") rfl T.b_bool (by decide +kernel) rfl) pa_nil)))))))), ?_⟩
    refine ⟨x, rfl, x, .ty "int", t, _, b1, rfl, .ty "int", ty, k1, b1, rfl, ?_⟩
    cases b1 with
    | false => exact k
    | true =>
      refine ⟨x, rfl, x, .ty "bool", t, _, b2, rfl, .ty "bool", ty, k2, b2, rfl, ?_⟩
      rw [Bool.true_and] at k
      exact k
end
end Tr

namespace Tr
open PySem L2 TL
/-- steps of a reading that are plain -/
local macro_rules | `(tactic| walk_at "x") => `(tactic| (refine' ⟨_, _, _, _, rfl, rfl, ?k1, ?k2, ?_⟩; (case k1 => exact SqT.of (by assumption)); (case k2 => exact rfl)))
local macro_rules | `(tactic| walk_at "g") => `(tactic| repeat (first | (refine ⟨_, rfl, ?_⟩) | (refine ⟨_, _, rfl, rfl, ?_⟩) | (refine ⟨_, _, rfl, ?_⟩) | (refine ⟨rfl, ?_⟩) | walk_at "x"))


/-! ### names -/
instance (c : Nat) : Decidable (isL c) := inferInstanceAs (Decidable (97 ≤ c ∧ c ≤ 122))
instance (c : Nat) : Decidable (isD c) := inferInstanceAs (Decidable (48 ≤ c ∧ c ≤ 57))
def ldB (c : Nat) : Bool := decide (isL c) || decide (isD c)
/-- is this the form of names -/
def nameB (z : Str) : Bool := match tl z with
  | [] => false
  | c :: r => decide (r.length ≤ 11) && (decide (isL c) && (c :: r).all ldB)
theorem nameB_of {z : Str} (h : NmOk z) : nameB z = true := by
  obtain ⟨c, r, e, h1, h2, h3⟩ := h
  unfold nameB
  rw [e]
  show (decide (r.length ≤ 11) && (decide (isL c) && (c :: r).all ldB)) = true
  rw [decide_eq_true h2, decide_eq_true h1, Bool.true_and, Bool.true_and]
  refine List.all_eq_true.mpr fun d hd => ?_
  unfold ldB
  rcases List.mem_cons.mp hd with rfl | hd
  · rw [decide_eq_true h1]; rfl
  · rcases h3 d hd with k | k
    · rw [decide_eq_true k]; rfl
    · rw [decide_eq_true k, Bool.or_true]
theorem tl_digits : tl ("0123456789" : Str) = List.range' 48 10 := by
  rw [tl_ofString]
  decide
theorem in_abc (c : Nat) : decide (c ∈ ("abcdefghijklmnopqrstuvwxyz" : Str).cps.toList) = decide (isL c) := by
  have e : ("abcdefghijklmnopqrstuvwxyz" : Str).cps.toList = List.range' 97 26 := tl_abc
  rw [e]
  refine decide_eq_decide.mpr ?_
  rw [List.mem_range'_1]
  unfold isL
  omega
theorem in_dig (c : Nat) : decide (c ∈ ("0123456789" : Str).cps.toList) = decide (isD c) := by
  have e : ("0123456789" : Str).cps.toList = List.range' 48 10 := tl_digits
  rw [e]
  refine decide_eq_decide.mpr ?_
  rw [List.mem_range'_1]
  unfold isD
  omega
section
variable {P : Program} {w : World} {K : PySem.W.Frag} {mg : Str → Option Value} {base : Heap}
def spName (K : PySem.W.Frag) : Sp := fun vs H Q _ => ∃ x, vs = [x] ∧ ((∃ z, x = .str z ∧ z.length ≤ 100000 ∧ ∀ H', Same H H' → Q (.bl (nameB z)) H') ∨ (∃ t, TyX K H x t ∧ PySem.W.kitOne K t (.type "str") = some false ∧ Q (.bl false) H))
theorem c_is_name (T : Txt K mg) : Cal P w K mg base 1 "is_name" (spName K) [] := by
  refine calN T.d_is_name sc_is_name (fun vs H Q E h => ?_) (fun _ _ _ _ _ _ us hl => match us, hl with | [_], _ => rfl) (fun f cdv A outer s H vs Q E hr h => ?_)
  · obtain ⟨x, rfl, _⟩ := h
    rfl
  · obtain ⟨x, rfl, h⟩ := h
    refine ⟨_, (pss_cons (ps_if (PW.pt (pw_or (pt_not (pt_val (pe_callB call_isi (by rfl) T.b_isinstance (by decide +kernel) (pa_cons (pv 0) (pa_cons (pe_bltn (v := .ty "str") rfl T.b_str (by decide +kernel) rfl) pa_nil))))) (pw_or (pt_not (pt_chain op_le op_le pe_int (pe_callB call_len (by rfl) T.b_len (by decide +kernel) (pa_cons (pv 0) pa_nil)) (pe_gcon T.c_LONGEST_NAME (by rfl)))) (pw_or1 (pt_cmpR op_notIn_sign (pe_ix ix_str (pv 0) pe_int (fun _ _ => rfl)) (pe_gcon T.c_LETTERS (by rfl)) (by rfl)))))) (pss_one (ps_ret pe_bl)) pss_nil)
      (pss_one (ps_ret (pe_callB (cr_all rfl) (by rfl) T.b_all (by decide +kernel) (pa_cons (pe_lc (own := [("sign", 1)]) (g := gName 1) rfl sc_is_name.nd (pi_str (pv 0)) (blkOk_by (own := [("sign", 1)]) (N := ["value", "sign"]) (sc := defScope s_is_name) (by decide +kernel)) (fun _ _ _ _ _ => (pg_name (i := 1) sc_is_name.nd rfl (Or.inl rfl))) (fun _ _ _ _ _ => pts_nil) (fun _ _ _ _ _ => (pe_or (pe_cmpR op_in_sign (pv 1) (pe_gcon T.c_LETTERS (by rfl)) (by rfl)) (pe_one (pe_cmpR op_in_sign (pv 1) (pe_gcon T.c_DIGITS (by rfl)) (by rfl)))))) pa_nil))))), ?_⟩
    rcases h with ⟨z, rfl, hz, k⟩ | ⟨t, ty, kt, k⟩
    · have hz2 : z.length ≤ sizeLine := Nat.le_trans hz (by decide)
      have hl : z.length = (tl z).length := len_tl z
      refine ⟨.str z, rfl, .str z, .ty "str", .type "str", _, true, rfl, .ty "str", .base (.str z), kit_ty (by decide +kernel), true, rfl, ?_⟩
      refine iteF ?_
      walk_at "g"
      refine ⟨_, z.length, rfl, ⟨hz2, rfl⟩, ?_⟩
      walk_at "g"
      have nf : (∀ c r, tl z = c :: r → (decide (r.length ≤ 11) && (decide (isL c) && (c :: r).all ldB)) = false) → nameB z = false := fun h => by
        unfold nameB
        cases e : tl z with
        | nil => rfl
        | cons c r => exact h c r e
      have kf : nameB z = false → Q (.bl false) H := fun e => by
        have := k H (Same.refl H)
        rwa [e] at this
      refine iteB (fun c1 => ?_) (fun c1 => ?_)
      · walk_at "g"
        refine iteB (fun c2 => ?_) (fun c2 => ?_)
        · refine iteT ?_
          refine kf (nf fun c r e => ?_)
          have hl2 : ¬ r.length ≤ 11 := by
            rw [e, List.length_cons] at hl
            simp at c2
            omega
          rw [decide_eq_false hl2]
          rfl
        · have hl2 : z.length ≤ 12 := by
            simp at c2
            omega
          cases e : tl z with
          | nil =>
            rw [e] at hl
            simp at c1
            simp at hl
            omega
          | cons c r =>
            have hr2 : r.length ≤ 11 := by
              rw [e, List.length_cons] at hl
              omega
            have nv : nameB z = (decide (isL c) && (c :: r).all ldB) := by
              unfold nameB
              rw [e]
              show (decide (r.length ≤ 11) && _) = _
              rw [decide_eq_true hr2, Bool.true_and]
            walk_at "g"
            refine ⟨z, 0, c, rfl, rfl, hz2, (by show atI (tl z) ((0 : Nat) : Int) = _; rw [e]; exact atI_nat (j := 0) rfl), ?_⟩
            walk_at "g"
            rw [in_abc]
            refine iteB (fun c3 => ?_) (fun c3 => ?_)
            · refine kf ?_
              have : decide (isL c) = false := by simpa using c3
              rw [nv, this, Bool.false_and]
            · have c4 : decide (isL c) = true := by simpa using c3
              walk_at "g"
              refine fun D nD => ?_
              refine lc_gen walk_txt (cs := tl z) (fun c => [some (.str z), some (.str ⟨#[c]⟩)]) (fun _ => true) (fun y c _ => y = .bl (ldB c)) (fun _ _ _ _ _ _ _ e => e) nD (by omega) (fun _ _ => trivial) ?_ (fun _ _ => rfl) (fun c _ H Q _ q => q H (Same.refl H)) ?_ ?_
              · rintro i H2 x H3 c hc s2 ⟨rfl, d, hd, rfl⟩
                rw [hc] at hd
                cases hd
                exact ⟨Same.refl _, fun Q q => q⟩
              · intro d hd _ H2 Q2 s2 q
                walk_at "g"
                rw [in_abc]
                refine iteB (fun c5 => ?_) (fun c5 => ?_)
                · refine q _ _ (Same.refl _) ?_
                  unfold ldB
                  rw [c5, Bool.true_or]
                · walk_at "g"
                  rw [in_dig]
                  refine q _ _ (Same.refl _) ?_
                  unfold ldB
                  rw [c5, Bool.false_or]
              · intro ys H2 s2 hD2 py
                rw [filter_all] at py
                have ey := py.eq_map
                walk_at "g"
                refine ⟨D, (tl z).map ldB, rfl, SqL.of (by rw [hD2, ey, List.map_map]; rfl), ?_⟩
                have := k H2 s2
                rw [nv, c4, Bool.true_and, ← e] at this
                have e2 : ((tl z).map ldB).all id = (tl z).all ldB := by rw [List.all_map]; rfl
                rw [e2]
                exact this
      · walk_at "g"
        refine iteT ?_
        refine kf (nf fun c r e => ?_)
        rw [e, List.length_cons] at hl
        simp at c1
        omega
    · refine ⟨x, rfl, x, .ty "str", t, _, false, rfl, .ty "str", ty, kt, false, rfl, ?_⟩
      refine iteT ?_
      exact k
end
end Tr

namespace Tr
open PySem L2 TL
/-- steps of a reading that are plain -/
local macro_rules | `(tactic| walk_at "x") => `(tactic| (refine' ⟨_, _, _, _, rfl, rfl, ?k1, ?k2, ?_⟩; (case k1 => exact SqT.of (by assumption)); (case k2 => exact rfl)))
local macro_rules | `(tactic| walk_at "g") => `(tactic| repeat (first | (refine ⟨_, rfl, ?_⟩) | (refine ⟨_, _, rfl, rfl, ?_⟩) | (refine ⟨_, _, rfl, ?_⟩) | (refine ⟨rfl, ?_⟩) | walk_at "x"))


/-! ### Turns -/
def rdic : Nat → List SI → List (Key × V)
  | _, [] => []
  | i, c :: cs => (.inr c.1, .int (i : Nat)) :: rdic (i + 1) cs
theorem rdic_snoc : ∀ (i : Nat) (ks : List SI) (c : SI), rdic i (ks ++ [c]) = rdic i ks ++ [(.inr c.1, .int ((i + ks.length : Nat) : Int))]
  | i, [], c => by rw [List.length_nil, Nat.add_zero]; rfl
  | i, d :: ds, c => by
    show _ :: rdic (i + 1) (ds ++ [c]) = _ :: (rdic (i + 1) ds ++ _)
    rw [rdic_snoc (i + 1) ds c, List.length_cons, show i + 1 + ds.length = i + (ds.length + 1) by omega]
theorem rdic_len : ∀ (i : Nat) (ks : List SI), (rdic i ks).length = ks.length
  | _, [] => rfl
  | i, c :: cs => by show (rdic (i + 1) cs).length + 1 = _; rw [rdic_len (i + 1) cs]; rfl
/-- the place of a name -/
def rankS (ks : List SI) (z : Str) : Nat := ks.findIdx fun c => decide (c.1 = z)
theorem valV_rdic (z : Str) : ∀ (i : Nat) (ks : List SI), (∃ k ∈ ks, k.1 = z) → valV (rdic i ks) (.inr z) = some (.int ((i + rankS ks z : Nat) : Int))
  | i, [], h => by obtain ⟨k, hk, _⟩ := h; cases hk
  | i, c :: cs, h => by
    by_cases e : c.1 = z
    · have e2 : rankS (c :: cs) z = 0 := by
        unfold rankS
        rw [List.findIdx_cons, decide_eq_true e]
        rfl
      rw [e2]
      exact valV_pos (p := ((.inr c.1 : Key), V.int (i : Nat))) (congrArg Sum.inr e)
    · have e2 : rankS (c :: cs) z = rankS cs z + 1 := by
        unfold rankS
        rw [List.findIdx_cons, decide_eq_false e]
        rfl
      have h2 : ∃ k ∈ cs, k.1 = z := by
        obtain ⟨k, hk, ek⟩ := h
        rcases List.mem_cons.mp hk with rfl | hk
        · exact (e ek).elim
        · exact ⟨k, hk, ek⟩
      have ih := valV_rdic z (i + 1) cs h2
      rw [e2, show i + (rankS cs z + 1) = i + 1 + rankS cs z by omega, ← ih]
      exact valV_neg (p := ((.inr c.1 : Key), V.int (i : Nat))) (fun w => e (Sum.inr.inj w))
theorem lookS_none {ks : List SI} {z : Str} (h : ∀ k ∈ ks, k.1 ≠ z) : lookS ks z = none := by
  unfold lookS
  rw [List.find?_eq_none.mpr fun k hk => by simpa using h k hk]
  rfl
theorem putK_new {kvs : List (Key × V)} {k : Key} {v : V} (h : ∀ q ∈ kvs, q.1 ≠ k) : putK kvs k v = kvs ++ [(k, v)] := by
  unfold putK
  rw [if_neg]
  intro z
  obtain ⟨q, hq, e⟩ := List.any_eq_true.mp z
  exact h q hq (of_decide_eq_true e)
theorem kdic_put {ks : List SI} {c : SI} (h : ∀ k ∈ ks, k.1 ≠ c.1) : putK (kdic ks) (.inr c.1) (.int c.2) = kdic (ks ++ [c]) := by
  rw [putK_new]
  · unfold kdic
    rw [List.map_append]
    rfl
  · intro q hq
    obtain ⟨d, hd, rfl⟩ := List.mem_map.mp hq
    exact fun e => h d hd (Sum.inr.inj e)
theorem rdic_mem : ∀ (i : Nat) (ks : List SI), ∀ q ∈ rdic i ks, ∃ d ∈ ks, q.1 = .inr d.1
  | _, [], q, h => by cases h
  | i, c :: cs, q, h => by
    rcases List.mem_cons.mp h with rfl | h
    · exact ⟨c, List.mem_cons_self, rfl⟩
    · obtain ⟨d, hd, e⟩ := rdic_mem (i + 1) cs q h
      exact ⟨d, List.mem_cons_of_mem _ hd, e⟩
theorem rdic_put {ks : List SI} {c : SI} (h : ∀ k ∈ ks, k.1 ≠ c.1) : putK (rdic 0 ks) (.inr c.1) (.int (ks.length : Nat)) = rdic 0 (ks ++ [c]) := by
  rw [putK_new, rdic_snoc, Nat.zero_add]
  intro q hq
  obtain ⟨d, hd, e⟩ := rdic_mem 0 ks q hq
  rw [e]
  exact fun e2 => h d hd (Sum.inr.inj e2)
/-- turns that may be declared -/
structure KsOk (ks : List SI) : Prop where
  n0 : 0 < ks.length
  n8 : ks.length ≤ 8
  nd : Nds ks
  ok : ∀ c ∈ ks, NmOk c.1 ∧ (c.2 = 0 ∨ 2 ≤ c.2)
theorem KOk.ks {ks : List SI} (h : KOk ks) (n0 : 0 < ks.length) (n8 : ks.length ≤ 8) : KsOk ks := by
  refine ⟨n0, n8, ?_, fun c hc => ?_⟩
  · unfold Nds
    rw [List.nodup_iff_pairwise_ne, List.pairwise_map, List.pairwise_iff_getElem]
    intro i j hi hj hij e
    have h1 := h.1 i _ (List.getElem?_eq_getElem hi)
    have h2 := h.1 j _ (List.getElem?_eq_getElem hj)
    rw [e] at h1
    have := h1.inj h2
    omega
  · obtain ⟨i, hi, e⟩ := List.getElem_of_mem hc
    have h1 := h.1 i c (by rw [← e]; exact List.getElem?_eq_getElem hi)
    exact ⟨h1.1, (h.2 c hc).1⟩
theorem NmOk.strOk {z : Str} (h : NmOk z) : PyData.strOk z = true := by
  obtain ⟨c, r, e, h1, h2, h3⟩ := h
  unfold PyData.strOk
  rw [Array.all_eq_true_iff_forall_mem]
  intro d hd
  have hd2 : d ∈ tl z := by simpa [tl] using hd
  rw [e] at hd2
  rw [decide_eq_true_eq]
  unfold isL at h1
  rcases List.mem_cons.mp hd2 with rfl | hd2
  · omega
  · rcases h3 d hd2 with k | k
    · unfold isL at k; omega
    · unfold isD at k; omega
def tflds (p1 p2 p3 p4 : Addr) : List (Str × V) := [("pairs", .ref p1), ("names", .ref p2), ("periods", .ref p3), ("ranks", .ref p4)]
/-- turns stand at a -/
structure TuAt (C : Addr) (H : Hp) (a : Addr) (ks : List SI) : Prop where
  ex : ∃ dx p1 p2 p3 p4, H a = some (.ins C dx (tflds p1 p2 p3 p4)) ∧ ST H p1 ks ∧ H p2 = some (.tup (ks.map fun c => V.str c.1)) ∧ H p3 = some (.dK (kdic ks)) ∧ H p4 = some (.dK (rdic 0 ks))
theorem TuAt.same {C : Addr} {H H' : Hp} {a : Addr} {ks : List SI} (s : Same H H') (h : TuAt C H a ks) : TuAt C H' a ks :=
  let ⟨dx, p1, p2, p3, p4, e0, e1, e2, e3, e4⟩ := h.ex
  ⟨dx, p1, p2, p3, p4, s _ _ e0, e1.same s, s _ _ e2, s _ _ e3, s _ _ e4⟩
/-- the turns' own dicts are not at p -/
def TuNe (H : Hp) (a p : Addr) : Prop := ∀ C dx p1 p2 p3 p4, H a = some (.ins C dx (tflds p1 p2 p3 p4)) → p3 ≠ p ∧ p4 ≠ p
theorem TuNe.to {C : Addr} {H H' : Hp} {a p : Addr} {ks : List SI} (h : TuNe H a p) (hT : TuAt C H a ks) (k : ∀ o, H a = some o → H' a = some o) : TuNe H' a p := by
  obtain ⟨dx, p1, p2, p3, p4, e0, _⟩ := hT.ex
  intro C' dx' q1 q2 q3 q4 e
  rw [k _ e0] at e
  cases e
  exact h _ _ _ _ _ _ e0
theorem TuAt.kpB {C p a : Addr} {H H' : Hp} {kvs : List (Key × V)} {ks : List SI} (h : TuAt C H a ks) (ne : TuNe H a p) (kp : Kp p H H') (hp : H p = some (.dK kvs)) : TuAt C H' a ks := by
  obtain ⟨dt, p1, p2, p3, p4, e0, ⟨ts, a1, b1⟩, e2, e3, e4⟩ := h.ex
  obtain ⟨n3, n4⟩ := ne _ _ _ _ _ _ e0
  exact ⟨dt, p1, p2, p3, p4, kp _ _ e0 (ne_of e0 hp (by intro z; cases z)), ⟨ts, kp _ _ a1 (ne_of a1 hp (by intro z; cases z)), b1.mono fun _ _ e => kp _ _ e (ne_of e hp (by intro z; cases z))⟩,
    kp _ _ e2 (ne_of e2 hp (by intro z; cases z)), kp _ _ e3 n3, kp _ _ e4 n4⟩
theorem TuNe.kpB {C p a : Addr} {H H' : Hp} {kvs : List (Key × V)} {ks : List SI} (h : TuNe H a p) (hT : TuAt C H a ks) (kp : Kp p H H') (hp : H p = some (.dK kvs)) : TuNe H' a p :=
  h.to hT fun o e => kp _ _ e (by
    obtain ⟨dx, p1, p2, p3, p4, e0, _⟩ := hT.ex
    exact ne_of e0 hp (by intro z; cases z))
section
variable {P : Program} {w : World} {K : PySem.W.Frag} {mg : Str → Option Value} {base : Heap}
def spTurns (C : Addr) : Sp := fun vs H Q _ => ∃ (x dx p : Addr) (ks : List SI), vs = [.ref x, .ref p] ∧ H x = some (.ins C dx []) ∧ SL H p ks ∧ KsOk ks ∧
  ∀ (H' : Hp), Kp x H H' → TuAt C H' x ks → (∀ b o, H b = some o → TuNe H' x b) → Q .non H'
theorem m_Turns (T : Txt K mg) : Mak P w K mg base 2 "Turns" (He.ga K "Turns") (spTurns (He.ga K "Turns")) [] := by
  have c_is_name := @c_is_name P w K mg base T
  have c_is_whole := @c_is_whole P w K mg base T
  refine makN T.i_Turns sc_Turns___init__ (fun vs H Q E h => ?_) (fun dvs f fd hl F => by
    cases dvs with
    | nil => exact (funD0 F).binds fun _ _ _ _ _ _ us hl => match us, hl with | [_, _], _ => rfl
    | cons _ _ => cases hl) (fun f cdv A outer s H vs Q E hr h => ?_)
  · obtain ⟨x, dx, p, ks, rfl, _⟩ := h
    rfl
  · obtain ⟨x, dx, p, ks, rfl, hx, hP, hk, k⟩ := h
    refine ⟨_, (pss_cons (ps_setLc (i := 2) (own := [("name", 5), ("period", 6)]) (g := gTup K 2 (gCons (gName 5) (gCons (gName 6) gNil))) rfl sc_Turns___init__.nd rfl rfl (sw_true rfl rfl rfl (by decide +kernel)) (pi_listK K (pv 1)) (blkOk_by (own := [("name", 5), ("period", 6)]) (N := ["self", "pairs", "told", "periods", "ranks", "name", "period"]) (sc := defScope s_Turns___init__) (by decide +kernel)) (fun _ _ _ _ _ => (pg_tup rfl (pgs_cons (pg_name (i := 5) sc_Turns___init__.nd rfl (Or.inl rfl)) (pgs_cons (pg_name (i := 6) sc_Turns___init__.nd rfl (Or.inl rfl)) pgs_nil)))) (fun _ _ _ _ _ => pts_nil) (fun _ _ _ _ _ => (pe_tup (pa_cons (pv 5) (pa_cons (pv 6) pa_nil)))))
      (pss_cons (ps_if (pt_cmpR op_eq (pe_callB call_len (by rfl) T.b_len (by decide +kernel) (pa_cons (pv 2) pa_nil)) pe_int (nomark _)) (pss_one ps_never) pss_nil)
      (pss_cons (ps_if (pt_cmpR op_gt (pe_callB call_len (by rfl) T.b_len (by decide +kernel) (pa_cons (pv 2) pa_nil)) (pe_ccon T.q_Turns__MOST (pe_glob (v := .ref (He.ga K "Turns")) (by rfl) T.v_Turns rfl)) (nomark _)) (pss_one ps_never) pss_nil)
      (pss_cons (ps_par (i := 3) (j := 4) (by rfl) sc_Turns___init__.nd rfl rfl (by decide) rfl rfl (pa_cons pe_dnewK (pa_cons pe_dnewK pa_nil)) (by rfl))
      (pss_cons (ps_for PassesOwn.never rfl (pi_list (pv 2)) (pg_tup rfl (pgs_cons (pg_name (i := 5) sc_Turns___init__.nd rfl (Or.inl rfl)) (pgs_cons (pg_name (i := 6) sc_Turns___init__.nd rfl (Or.inl rfl)) pgs_nil))) (pss_cons (ps_if (pt_not (pt_val (pe_cx c_is_name hr (by first | decide | omega) rfl passL (pa_cons (pv 5) pa_nil)))) (pss_one ps_never) pss_nil)
      (pss_cons (ps_if (pt_cmp (pc_din (hu_of hr) (pv 5) (pv 3))) (pss_one ps_never) pss_nil)
      (pss_cons (ps_if (PW.pt (pw_or (pt_not (pt_val (pe_cx c_is_whole hr (by first | decide | omega) rfl passL (pa_cons (pv 6) pa_nil)))) (pw_or (pt_cmpR op_lt (pv 6) pe_int (nomark _)) (pw_or1 (pt_cmpR op_eq (pv 6) pe_int (nomark _)))))) (pss_one ps_never) pss_nil)
      (pss_cons (ps_dput (hu_of hr) (pv 4) (pv 5) (pe_callB call_lenD (by rfl) T.b_len (by decide +kernel) (pa_cons (pv 4) pa_nil)) rfl)
      (pss_one (ps_dput (hu_of hr) (pv 3) (pv 5) (pv 6) rfl)))))))
      (pss_cons (ps_fld (pv 0) (pe_callTy call_tuple_of (by rfl) T.b_tuple (by decide +kernel) (pa_cons (pv 2) pa_nil)) rfl)
      (pss_cons (ps_fld (pv 0) (pe_callTy call_tuple_of (by rfl) T.b_tuple (by decide +kernel) (pa_cons (pe_lc (own := [("name", 5), ("period", 6)]) (g := gTup K 2 (gCons (gName 5) (gCons (gName 6) gNil))) rfl sc_Turns___init__.nd (pi_listK K (pv 2)) (blkOk_by (own := [("name", 5), ("period", 6)]) (N := ["self", "pairs", "told", "periods", "ranks", "name", "period"]) (sc := defScope s_Turns___init__) (by decide +kernel)) (fun _ _ _ _ _ => (pg_tup rfl (pgs_cons (pg_name (i := 5) sc_Turns___init__.nd rfl (Or.inl rfl)) (pgs_cons (pg_name (i := 6) sc_Turns___init__.nd rfl (Or.inl rfl)) pgs_nil)))) (fun _ _ _ _ _ => pts_nil) (fun _ _ _ _ _ => (pv 5))) pa_nil)) rfl)
      (pss_cons (ps_fld (pv 0) (pv 3) rfl)
      (pss_one (ps_fld (pv 0) (pv 4) rfl)))))))))), ?_⟩
    walk_at "g"
    obtain ⟨ts, hp, pp⟩ := hP
    have hlen := pp.len
    have hn8 := hk.n8
    have hn0 := hk.n0
    refine ⟨⟨_, SqL.of hp⟩, fun D nD => ?_⟩
    refine lc_sp (fun _ => true) (fun y c H => ∃ t, y = .ref t ∧ SrT H t c) ?_ nD (SqL.of hp) pp (by omega) (fun _ _ => rfl) (fun c _ H Q _ q => q H (Same.refl H)) ?_ ?_
    · rintro y c H H' acc hD kp ⟨t, rfl, ht⟩
      exact ⟨t, rfl, kp _ _ ht (ht.ne hD (fun _ => by intro z; cases z))⟩
    · intro c hcm _ H2 Q2 s2 q
      walk_at "g"
      refine ⟨by show 2 ≤ sizeLine; decide, fun t nt => ?_⟩
      exact q _ _ (same_upd nt) ⟨t, rfl, upd_same⟩
    · intro ys H2 s2 hD2 py
      rw [filter_all] at py
      obtain ⟨as, rfl⟩ := py.ref (f := V.ref) (fun v b ⟨t, e, _⟩ => ⟨t, e⟩)
      have pa : P2 (SrT H2) as ks := (P2.map_l.mp py).mono fun t c ⟨t', e, r⟩ => by cases e; exact r
      have la := pa.len
      clear py hp pp ts hlen nD
      walk_at "g"
      refine ⟨_, _, rfl, .inl ⟨_, SqL.of hD2, rfl⟩, ?_⟩
      walk_at "g"
      refine iteB (fun c1 => ?_) (fun c1 => ?_)
      · exfalso
        have := of_dI c1
        rw [List.length_map, la] at this
        omega
      walk_at "g"
      refine ⟨_, _, rfl, .inl ⟨_, SqL.of hD2, rfl⟩, ?_⟩
      walk_at "g"
      refine iteB (fun c2 => ?_) (fun c2 => ?_)
      · exfalso
        rw [List.length_map, la] at c2
        simp at c2
        omega
      clear c1 c2
      walk_at "g"
      refine fun d3 nd3 => ?_
      walk_at "g"
      refine fun d4 nd4 => ?_
      walk_at "g"
      obtain ⟨H4, e4⟩ : ∃ H4, H4 = upd (upd H2 d3 (.dK [])) d4 (.dK []) := ⟨_, rfl⟩
      have n34 : d3 ≠ d4 := fun e => by
        rw [e, upd_same] at nd4
        cases nd4
      have hd3 : H4 d3 = some (.dK []) := by rw [e4]; exact (same_upd nd4) _ _ upd_same
      have hd4 : H4 d4 = some (.dK []) := by rw [e4]; exact upd_same
      have s24 : Same H2 H4 := by rw [e4]; exact (same_upd nd3).trans (same_upd nd4)
      rw [← e4]
      have n4 : H2 d4 = none := by
        cases e : H2 d4 with
        | none => rfl
        | some o => rw [(same_upd nd3) _ _ e] at nd4; cases nd4
      clear e4 nd4
      refine ⟨⟨_, SqL.of (s24 _ _ hD2)⟩, ?_⟩
      refine for_sp (ts := as) (cs := ks) (fun i σ H' => ∃ (a5 a6 : Option V), σ = [some (.ref x), some (.ref p), some (.ref D), some (.ref d3), some (.ref d4), a5, a6] ∧ Same H2 H' ∧ H' d3 = some (.dK (kdic (ks.take i))) ∧ H' d4 = some (.dK (rdic 0 (ks.take i)))) ⟨_, _, rfl, s24, hd3, hd4⟩ ?_ ?_ ?_
      · rintro i σ H' _ ⟨a5, a6, rfl, s', _⟩
        exact ⟨SqL.of (s' _ _ hD2), pa.sameS s'⟩
      · rintro i c σ H5 hc ⟨a5, a6, rfl, s5, h3, h4⟩
        obtain ⟨nm, pr⟩ := hk.ok c (mem_of_at hc)
        have new : ∀ d ∈ ks.take i, d.1 ≠ c.1 := by
          intro d hd e
          have nd := hk.nd
          unfold Nds at nd
          obtain ⟨j, hj, ej⟩ := List.getElem_of_mem hd
          have hi : i < ks.length := (List.getElem?_eq_some_iff.mp hc).1
          rw [List.length_take] at hj
          have e1 : (ks.map (·.1))[j]? = some c.1 := by
            rw [List.getElem?_map, List.getElem?_eq_getElem (by omega)]
            rw [List.getElem_take] at ej
            rw [ej, ← e]
            rfl
          have e2 : (ks.map (·.1))[i]? = some c.1 := by rw [List.getElem?_map, hc]; rfl
          have := (List.getElem?_inj (by rw [List.length_map]; omega) nd).mp (e1.trans e2.symm)
          omega
        walk_at "g"
        refine .inl ⟨_, rfl, Nat.le_trans nm.len (by decide), fun H6 s6 => ?_⟩
        rw [nameB_of nm]
        walk_at "g"
        have dg : DGet H6 d3 (.str c.1) none := by
          have := DGet.k (k := (.inr c.1 : Key)) (s6 _ _ h3)
          rw [valV_kdic, lookS_none new] at this
          exact this
        refine ⟨d3, _, rfl, dg, ?_⟩
        walk_at "g"
        refine ⟨_, _, rfl, isW_int _, ?_⟩
        walk_at "g"
        refine iteB (fun c1 => ?_) (fun c1 => ?_)
        · exfalso
          rw [decide_eq_true_eq] at c1
          omega
        walk_at "g"
        refine iteB (fun c2 => ?_) (fun c2 => ?_)
        · exfalso
          have := of_dI c2
          omega
        clear c1 c2
        have hi : i < ks.length := (List.getElem?_eq_some_iff.mp hc).1
        have lt : (ks.take i).length = i := by rw [List.length_take]; omega
        walk_at "g"
        refine ⟨d4, _, rfl, s6 _ _ h4, ?_⟩
        walk_at "g"
        refine ⟨d4, _, rfl, DPut.k (k := (.inr c.1 : Key)) (s6 _ _ h4) (by rw [rdic_len, lt]; exact Nat.lt_of_lt_of_le hi (Nat.le_trans hn8 (by decide))), ?_⟩
        rw [rdic_len, rdic_put new, ← take_snoc hc]
        obtain ⟨H7, e7⟩ : ∃ H7, H7 = upd H6 d4 (.dK (rdic 0 (ks.take (i + 1)))) := ⟨_, rfl⟩
        have s27 : Same H2 H7 := by rw [e7]; exact (s5.trans s6).wr n4
        have h47 : H7 d4 = some (.dK (rdic 0 (ks.take (i + 1)))) := by rw [e7]; exact upd_same
        have h37 : H7 d3 = some (.dK (kdic (ks.take i))) := by rw [e7, upd_ne n34]; exact s6 _ _ h3
        walk_at "g"
        refine ⟨d3, _, rfl, DPut.k (k := (.inr c.1 : Key)) (by rw [← e7]; exact h37) (by unfold kdic; rw [List.length_map, lt]; exact Nat.lt_of_lt_of_le hi (Nat.le_trans hn8 (by decide))), ?_⟩
        rw [← e7, kdic_put new, ← take_snoc hc]
        refine ⟨_, _, rfl, s27.wr nd3, upd_same, ?_⟩
        rw [upd_ne n34.symm]
        exact h47
      · rintro σ H5 ⟨a5, a6, rfl, s5, h3, h4⟩
        rw [List.take_length] at h3 h4
        have hx5 := (s2.trans s5) _ _ hx
        walk_at "g"
        refine ⟨D, _, rfl, .inl ⟨SqL.of (s5 _ _ hD2), fun p1 np1 => ?_⟩⟩
        have s6 := same_upd (o := .tup (as.map V.ref)) np1
        obtain ⟨H6, e6⟩ : ∃ H6, H6 = upd H5 p1 (.tup (as.map V.ref)) := ⟨_, rfl⟩
        have hp1 : H6 p1 = some (.tup (as.map V.ref)) := by rw [e6]; exact upd_same
        rw [← e6] at s6 ⊢
        clear e6
        have s26 := s5.trans s6
        walk_at "g"
        refine ⟨x, _, dx, _, rfl, s6 _ _ hx5, T.k_Turns, T.a_Turns__pairs, by show 0 < 1000; decide, ?_⟩
        obtain ⟨H7, e7⟩ : ∃ H7, H7 = upd H6 x (.ins (He.ga K "Turns") dx (putF "pairs" (.ref p1) [])) := ⟨_, rfl⟩
        have kp7 : Kp x H6 H7 := by rw [e7]; exact kp_upd x H6 _
        have hx7 : H7 x = some (.ins (He.ga K "Turns") dx [("pairs", .ref p1)]) := by rw [e7]; exact upd_same
        rw [← e7]
        clear e7
        have hx6 := s6 _ _ hx5
        have nx : ∀ {a : Addr} {o : HO}, H6 a = some o → (∀ C dx fs, o ≠ .ins C dx fs) → a ≠ x := fun h n => ne_of h hx6 (n _ _ _)
        have hD7 := kp7 _ _ (s26 _ _ hD2) (nx (s26 _ _ hD2) (fun _ _ _ => by intro z; cases z))
        have pa6 := pa.sameS s26
        have pa7 : P2 (SrT H7) as ks := pa6.mono fun t c e => kp7 _ _ e (nx e (fun _ _ _ => by intro z; cases z))
        walk_at "g"
        refine ⟨⟨_, SqL.of hD7⟩, fun D2 nD2 => ?_⟩
        refine lc_sp (fun _ => true) (fun y c H => y = .str c.1) (fun _ _ _ _ _ _ _ e => e) nD2 (SqL.of hD7) pa7 (by omega) (fun _ _ => rfl) (fun c _ H Q _ q => q H (Same.refl H)) ?_ ?_
        · intro c hcm _ H8 Q8 s8 q
          walk_at "g"
          exact q _ _ (Same.refl _) rfl
        · intro ys H8 s8 hD8 py
          rw [filter_all] at py
          have ey := py.eq_map
          walk_at "g"
          refine ⟨D2, _, rfl, .inl ⟨SqL.of hD8, fun p2 np2 => ?_⟩⟩
          have s9 := same_upd (o := .tup ys) np2
          obtain ⟨H9, e9⟩ : ∃ H9, H9 = upd H8 p2 (.tup ys) := ⟨_, rfl⟩
          have hp2 : H9 p2 = some (.tup ys) := by rw [e9]; exact upd_same
          rw [← e9] at s9 ⊢
          clear e9
          have s79 := s8.trans s9
          walk_at "g"
          refine ⟨x, _, dx, _, rfl, s79 _ _ hx7, T.k_Turns, T.a_Turns__names, by show 1 < 1000; decide, ?_⟩
          walk_at "g"
          refine ⟨x, _, dx, _, rfl, upd_same, T.k_Turns, T.a_Turns__periods, by show 2 < 1000; decide, ?_⟩
          walk_at "g"
          refine ⟨x, _, dx, _, rfl, upd_same, T.k_Turns, T.a_Turns__ranks, by show 3 < 1000; decide, ?_⟩
          have fin : ∀ {a : Addr} {o : HO}, H9 a = some o → (∀ C dx fs, o ≠ .ins C dx fs) → a ≠ x := fun h n => ne_of h (s79 _ _ hx7) (n _ _ _)
          have k9 : Kp x H H9 := ((s2.trans s26).kp.trans kp7).trans s79.kp
          have kf : ∀ o1 o2 o3, Kp x H9 (upd (upd (upd H9 x o1) x o2) x o3) := fun o1 o2 o3 => ((kp_upd x H9 o1).trans (kp_upd x _ o2)).trans (kp_upd x _ o3)
          have get : ∀ {a : Addr} {o : HO} o1 o2 o3, H9 a = some o → (∀ C dx fs, o ≠ .ins C dx fs) → upd (upd (upd H9 x o1) x o2) x o3 a = some o := fun o1 o2 o3 h n => kf o1 o2 o3 _ _ h (fin h n)
          have hxF : ∀ o1 o2 o3, upd (upd (upd H9 x o1) x o2) x o3 x = some o3 := fun _ _ _ => upd_same
          refine k _ (k9.trans (kf _ _ _)) ⟨dx, p1, p2, d3, d4, hxF _ _ _, ⟨as, get _ _ _ (s79 _ _ (kp7 _ _ hp1 (nx hp1 (fun _ _ _ => by intro z; cases z)))) (fun _ _ _ => by intro z; cases z), (pa7.sameS s79).mono fun t c e => get _ _ _ e (fun _ _ _ => by intro z; cases z)⟩, ?_, ?_, ?_⟩ ?_
          · rw [ey] at hp2
            exact get _ _ _ hp2 (fun _ _ _ => by intro z; cases z)
          · exact get _ _ _ (s79 _ _ (kp7 _ _ (s6 _ _ h3) (nx (s6 _ _ h3) (fun _ _ _ => by intro z; cases z)))) (fun _ _ _ => by intro z; cases z)
          · exact get _ _ _ (s79 _ _ (kp7 _ _ (s6 _ _ h4) (nx (s6 _ _ h4) (fun _ _ _ => by intro z; cases z)))) (fun _ _ _ => by intro z; cases z)
          · intro b o hb C' dx' q1 q2 q3 q4 e
            rw [upd_same] at e
            cases e
            have hb2 := s2 _ _ hb
            exact ⟨(ne_of_none hb2 nd3).symm, (ne_of_none hb2 n4).symm⟩
end
end Tr

namespace Tr
open PySem L2 TL
/-- steps of a reading that are plain -/
local macro_rules | `(tactic| walk_at "x") => `(tactic| (refine' ⟨_, _, _, _, rfl, rfl, ?k1, ?k2, ?_⟩; (case k1 => exact SqT.of (by assumption)); (case k2 => exact rfl)))
local macro_rules | `(tactic| walk_at "g") => `(tactic| repeat (first | (refine ⟨_, rfl, ?_⟩) | (refine ⟨_, _, rfl, rfl, ?_⟩) | (refine ⟨_, _, rfl, ?_⟩) | (refine ⟨rfl, ?_⟩) | walk_at "x"))


/-! ### a list or a tuple walked; what turns tell -/
def iSeq (K : PySem.W.Frag) (te : TE) : TI := fun σ H R => iList K te σ H R ∨ iTup K te σ H R
theorem pi_seqK {X : Cx} (K : PySem.W.Frag) {tg l : Expr} {tl : TE} (hl : PE X l tl) (hk : X.K = K := by rfl) : PI X tg l (iSeq K tl) := by
  subst hk
  exact pi_or (pi_list hl) (pi_tup hl)
/-- a step: a tuple or a list of a text and an int -/
def SrE (K : PySem.W.Frag) (H : Hp) (t : Addr) (c : SI) : Prop := SqE K H t [.str c.1, .int c.2]
theorem SrE.of {K : PySem.W.Frag} {H : Hp} {t : Addr} {c : SI} (h : SrT H t c) : SrE K H t c := .inl (SqT.of h)
theorem SrE.ofs {K : PySem.W.Frag} {H : Hp} {ts : List Addr} {cs : List SI} (h : P2 (SrT H) ts cs) : P2 (SrE K H) ts cs := h.mono fun _ _ e => .of e
theorem SrE.same {K : PySem.W.Frag} {H H' : Hp} (s : Same H H') {t : Addr} {c : SI} (h : SrE K H t c) : SrE K H' t c := h.elim (fun h => .inl (s.seqT h)) (fun h => .inr (s.seq h))
theorem P2.sameE {K : PySem.W.Frag} {H H' : Hp} (s : Same H H') {ts : List Addr} {cs : List SI} (h : P2 (SrE K H) ts cs) : P2 (SrE K H') ts cs := h.mono fun _ _ e => e.same s
/-- (text, int) pairs in a list or a tuple -/
def SQ (K : PySem.W.Frag) (H : Hp) (p : Addr) (ts : List Addr) (cs : List SI) : Prop := (SqL K H p (ts.map V.ref) ∨ SqT K H p (ts.map V.ref)) ∧ P2 (SrE K H) ts cs
theorem SL.sq {K : PySem.W.Frag} {H : Hp} {p : Addr} {cs : List SI} (h : SL H p cs) : ∃ ts, SQ K H p ts cs :=
  let ⟨ts, a, b⟩ := h
  ⟨ts, .inl (SqL.of a), SrE.ofs b⟩
theorem ST.sq {K : PySem.W.Frag} {H : Hp} {p : Addr} {cs : List SI} (h : ST H p cs) : ∃ ts, SQ K H p ts cs :=
  let ⟨ts, a, b⟩ := h
  ⟨ts, .inr (SqT.of a), SrE.ofs b⟩
theorem SQ.nil {K : PySem.W.Frag} {H : Hp} {p : Addr} (h : SqT K H p []) : SQ K H p [] [] := ⟨.inr h, .nil⟩
theorem SQ.same {K : PySem.W.Frag} {H H' : Hp} {p : Addr} {ts : List Addr} {cs : List SI} (s : Same H H') (h : SQ K H p ts cs) : SQ K H' p ts cs :=
  ⟨h.1.elim (fun h => .inl (s.seq h)) (fun h => .inr (s.seqT h)), P2.sameE s h.2⟩
theorem iSeq_of {K : PySem.W.Frag} {te : TE} {σ : L2.St} {H0 H : Hp} {R : It → Hp → Prop} {a : Addr} {ts : List Addr} {cs : List SI} (hte : ∀ Q : V → Hp → Prop, Q (.ref a) H → te σ H Q) (h : SQ K H0 a ts cs) (s01 : Same H0 H)
    (hR : ∀ (J : It) (G : Hp → Prop), (∀ H', Same H0 H' → G H') → Walk J (ts.map V.ref).length G (YAt (ts.map V.ref)) → R J H) : iSeq K te σ H R := by
  rcases h.1 with h | h
  · exact .inl (hte _ ⟨a, rfl, ⟨_, s01.seq h⟩, hR _ _ (fun H' s => s.seq h) walk_list⟩)
  · exact .inr (hte _ ⟨a, rfl, ⟨_, s01.seqT h⟩, hR _ _ (fun H' s => s.seqT h) walk_tup⟩)
theorem for_spW {K : PySem.W.Frag} {J : It} {G : Hp → Prop} {ts : List Addr} {cs : List SI} (w : Walk J (ts.map V.ref).length G (YAt (ts.map V.ref))) {i1 i2 : Nat} {tb : TS} {D : Ends} {σ : L2.St} {H : Hp} (hlen : ts.length = cs.length) (Pv : Nat → L2.St → Hp → Prop) (h0 : Pv 0 σ H)
    (hl : ∀ i σ H, i ≤ cs.length → Pv i σ H → G H ∧ P2 (SrE K H) ts cs)
    (hs : ∀ i c σ H, cs[i]? = some c → Pv i σ H → tb { D with nx := Pv (i + 1), ct := Pv (i + 1), bk := D.nx } ((σ.set i1 (some (.str c.1))).set i2 (some (.int c.2))) H)
    (hd : ∀ σ H, Pv cs.length σ H → D.nx σ H) :
    ∃ W : Nat → Nat → L2.St → Hp → Prop, (∃ m, W 0 m σ H) ∧ ∀ i m σ H, W i m σ H →
      (J.stop i H ∧ D.nx σ H) ∨ (J.go i H ∧ ∃ N : L2.St → Hp → Prop, (∀ σ' H', N σ' H' → ∃ m', m' < m ∧ W (i + 1) m' σ' H') ∧ ∀ x H', J.yld i H x H' → gSeq K 2 (gCons (gName i1) (gCons (gName i2) gNil)) x σ H' fun σ2 H2 => tb { D with nx := N, ct := N, bk := D.nx } σ2 H2) := by
  have e : (ts.map V.ref).length = cs.length := by rw [List.length_map, hlen]
  refine for_it w Pv h0 (fun i σ H hi p => (hl i σ H (by omega) p).1) ?_ (fun σ H p => hd σ H (by rw [← e]; exact p))
  intro i x σ H H' hi p hy
  obtain ⟨rfl, hx⟩ := hy
  rw [List.getElem?_map] at hx
  cases ht : ts[i]? with
  | none => rw [ht] at hx; cases hx
  | some t =>
    rw [ht] at hx
    cases hx
    have hi : i < ts.length := (List.getElem?_eq_some_iff.mp ht).1
    obtain ⟨c, hc, r⟩ := (hl i σ H' (by omega) p).2.getl ht
    exact ⟨t, _, rfl, r, rfl, _, _, rfl, _, _, rfl, rfl, hs i c σ H' hc p⟩
/-- [e for x in xs], xs the objects us, which tell cs -/
theorem lc_ref {α : Type} {J : It} {G : Hp → Prop} {R0 : Addr → α → Prop} {us : List Addr} {cs : List α} {i1 : Nat} {te : TE} {vs : List Nat} {σ : L2.St} {H1 : Hp} {D : Addr} {Qd : Hp → Prop} (w : Walk J (us.map V.ref).length G (YAt (us.map V.ref))) (hP : P2 R0 us cs) (R : V → α → Hp → Prop)
    (hR : ∀ y c H H' acc, H D = some (.lst acc) → Kp D H H' → R y c H → R y c H') (hD : H1 D = none) (hsz : cs.length ≤ 100000)
    (hG : ∀ H, Same H1 H → G H) (hw : ∀ x, wipe ((wipe σ vs).set i1 x) vs = wipe σ vs)
    (he : ∀ u c, c ∈ cs → R0 u c → ∀ H Q, Same H1 H → (∀ y H', Same H H' → R y c H' → Q y H') → te ((wipe σ vs).set i1 (some (.ref u))) H Q)
    (hd : ∀ ys H, Same H1 H → H D = some (.lst ys) → P2 (fun y c => R y c H) ys cs → Qd H) : LcG J (gName i1) tYes te vs σ H1 D Qd := by
  have hlen := hP.len
  refine lc_it w (fun i H => Same H1 H ∧ ∃ ys, H D = some (.lst ys) ∧ P2 (fun y c => R y c H) ys (cs.take i)) ⟨same_upd hD, [], upd_same, .nil⟩ (fun i H _ ⟨s, _⟩ => hG H s) ?_ ?_
  · rintro i x H H0 hi ⟨s, ys, hy, py⟩ ⟨rfl, hx⟩
    rw [List.getElem?_map] at hx
    cases ht : us[i]? with
    | none => rw [ht] at hx; cases hx
    | some u =>
      rw [ht] at hx
      cases hx
      obtain ⟨c, hc, r⟩ := hP.getl ht
      have ll : ys.length ≤ 100000 := by
        have h1 := py.len
        rw [List.length_take] at h1
        omega
      refine ⟨hw _, ?_⟩
      show te _ _ _
      refine he u c (mem_of_at hc) r H0 _ s fun y H' s' ry => ⟨ys, s' _ _ hy, small_app (Nat.le_refl _) ll, (s.trans s').wr hD, ys ++ [y], upd_same, ?_⟩
      rw [take_snoc hc]
      exact (py.mono fun v b rb => hR v b H' _ _ (s' _ _ hy) (kp_upd D H' _) (hR v b H0 H' _ hy s'.kp rb)).snoc (hR y c H' _ _ (s' _ _ hy) (kp_upd D H' _) ry)
  · rintro H ⟨s, ys, hy, py⟩
    rw [List.length_map, hlen, List.take_length] at py
    exact hd ys H s hy py
theorem canl_si : ∀ cs : List SI, (∀ c ∈ cs, PyData.strOk c.1 = true) → SeqAt.shaped (.tuple (cs.map siD)) = true := fun cs ok => by
  unfold SeqAt.shaped
  rw [Bool.and_eq_true, decide_eq_true_eq]
  refine ⟨lay_si cs ok, ?_⟩
  have h := depth_si cs
  show PyData.depthAll (cs.map siD) + 1 ≤ 64
  omega
theorem dpa_si {K : PySem.W.Frag} {H : Hp} {ts : List Addr} {cs : List SI} (h : P2 (SrT H) ts cs) : DpAll K H (ts.map V.ref) (cs.map siD) := by
  induction h with
  | nil => exact .nil
  | cons r _ ih => exact .cons (.tup (SqT.of r) (.cons (.str _) (.cons (.int _) .nil))) ih
theorem dp_st {K : PySem.W.Frag} {H : Hp} {l : Addr} {cs : List SI} (h : ST H l cs) : Dp K H (.ref l) (.tuple (cs.map siD)) :=
  let ⟨_, a, b⟩ := h
  .tup (SqT.of a) (dpa_si b)
section
variable {P : Program} {w : World} {K : PySem.W.Frag} {mg : Str → Option Value} {base : Heap}
def hasS (ks : List SI) (z : Str) : Bool := (lookS ks z).isSome
theorem hasS_of {ks : List SI} {z : Str} (h : ∃ k ∈ ks, k.1 = z) : hasS ks z = true := by
  obtain ⟨c, _, _, e⟩ := lookS_mem h
  unfold hasS
  rw [e]
  rfl
def spTin (K : PySem.W.Frag) (C : Addr) : Sp := fun vs H Q _ => ∃ (a : Addr) (x : V) (ks : List SI), vs = [.ref a, x] ∧ TuAt C H a ks ∧ ((∃ z, x = .str z ∧ Q (.bl (hasS ks z)) H) ∨ (∃ t, TyX K H x t ∧ PySem.W.kitOne K t (.type "str") = some false ∧ Q (.bl false) H))
theorem c_tin (T : Txt K mg) : Met P w K mg base 1 (He.ga K "Turns") "__contains__" (spTin K (He.ga K "Turns")) [] := by
  refine metN T.m_Turns____contains__ sc_Turns___contains__ (fun vs H Q E h => ?_) (fun _ _ _ _ _ _ us hl => match us, hl with | [_, _], _ => rfl) (fun f cdv A outer s H vs Q E hr h => ?_)
  · obtain ⟨a, x, ks, rfl, _⟩ := h
    rfl
  · obtain ⟨a, x, ks, rfl, hT, h⟩ := h
    obtain ⟨dx, p1, p2, p3, p4, ha, e1, e2, e3, e4⟩ := hT.ex
    refine ⟨_, (pss_one (ps_ret (pe_and (pe_callB call_isi (by rfl) T.b_isinstance (by decide +kernel) (pa_cons (pv 1) (pa_cons (pe_bltn (v := .ty "str") rfl T.b_str (by decide +kernel) rfl) pa_nil))) (pe_one (pe_cmp (pc_din (hu_of hr) (pv 1) (pe_fldK K (pv 0) (by rfl))) rfl))))), ?_⟩
    rcases h with ⟨z, rfl, k⟩ | ⟨t, ty, kt, k⟩
    · refine ⟨.str z, rfl, .str z, .ty "str", .type "str", _, true, rfl, .ty "str", .base (.str z), kit_ty (by decide +kernel), true, rfl, ?_⟩
      refine iteT ?_
      walk_at "g"
      refine ⟨a, _, dx, _, _, rfl, ha, T.k_Turns, T.a_Turns__periods, rfl, ?_⟩
      refine ⟨p3, _, rfl, DGet.k (k := (.inr z : Key)) e3, ?_⟩
      rw [valV_kdic, Option.isSome_map]
      exact k
    · refine ⟨x, rfl, x, .ty "str", t, _, false, rfl, .ty "str", ty, kt, false, rfl, ?_⟩
      refine iteF ?_
      exact k
def spPer (C : Addr) : Sp := fun vs H Q _ => ∃ (a : Addr) (z : Str) (ks : List SI), vs = [.ref a, .str z] ∧ TuAt C H a ks ∧ (∃ k ∈ ks, k.1 = z) ∧ Q (.int (perOf ks z)) H
theorem c_period_of (T : Txt K mg) : Met P w K mg base 2 (He.ga K "Turns") "period_of" (spPer (He.ga K "Turns")) [] := by
  have c_tin := @c_tin P w K mg base T
  refine metN T.m_Turns__period_of sc_Turns_period_of (fun vs H Q E h => ?_) (fun _ _ _ _ _ _ us hl => match us, hl with | [_, _], _ => rfl) (fun f cdv A outer s H vs Q E hr h => ?_)
  · obtain ⟨a, x, ks, rfl, _⟩ := h
    rfl
  · obtain ⟨a, z, ks, rfl, hT, hz, k⟩ := h
    obtain ⟨dx, p1, p2, p3, p4, ha, e1, e2, e3, e4⟩ := hT.ex
    refine ⟨_, (pss_cons (ps_if (pt_cmpR (or_notInO c_tin hr (by first | decide | omega) passL) (pv 1) (pv 0) (by rfl)) (pss_one ps_never) pss_nil)
      (pss_one (ps_ret (pe_dget (hu_of hr) (pe_fldK K (pv 0) (by rfl)) (pv 1) (fun _ _ => rfl))))), ?_⟩
    walk_at "g"
    refine ⟨a, dx, _, rfl, ha, a, _, ks, rfl, hT, .inl ⟨z, rfl, ?_⟩⟩
    rw [hasS_of hz]
    walk_at "g"
    refine ⟨a, _, dx, _, _, rfl, ha, T.k_Turns, T.a_Turns__periods, rfl, ?_⟩
    walk_at "g"
    obtain ⟨c, _, _, lk⟩ := lookS_mem hz
    have dg : DGet H p3 (.str z) (some (.int (perOf ks z))) := by
      have := DGet.k (k := (.inr z : Key)) e3
      rw [valV_kdic, lk] at this
      unfold perOf
      rw [lk]
      exact this
    exact ⟨p3, _, rfl, dg, k⟩
def spRank (C : Addr) : Sp := fun vs H Q _ => ∃ (a : Addr) (z : Str) (ks : List SI), vs = [.ref a, .str z] ∧ TuAt C H a ks ∧ (∃ k ∈ ks, k.1 = z) ∧ Q (.int (rankS ks z : Nat)) H
theorem c_rank (T : Txt K mg) : Met P w K mg base 2 (He.ga K "Turns") "rank" (spRank (He.ga K "Turns")) [] := by
  have c_tin := @c_tin P w K mg base T
  refine metN T.m_Turns__rank sc_Turns_rank (fun vs H Q E h => ?_) (fun _ _ _ _ _ _ us hl => match us, hl with | [_, _], _ => rfl) (fun f cdv A outer s H vs Q E hr h => ?_)
  · obtain ⟨a, x, ks, rfl, _⟩ := h
    rfl
  · obtain ⟨a, z, ks, rfl, hT, hz, k⟩ := h
    obtain ⟨dx, p1, p2, p3, p4, ha, e1, e2, e3, e4⟩ := hT.ex
    refine ⟨_, (pss_cons (ps_if (pt_cmpR (or_notInO c_tin hr (by first | decide | omega) passL) (pv 1) (pv 0) (by rfl)) (pss_one ps_never) pss_nil)
      (pss_one (ps_ret (pe_dget (hu_of hr) (pe_fldK K (pv 0) (by rfl)) (pv 1) (fun _ _ => rfl))))), ?_⟩
    walk_at "g"
    refine ⟨a, dx, _, rfl, ha, a, _, ks, rfl, hT, .inl ⟨z, rfl, ?_⟩⟩
    rw [hasS_of hz]
    walk_at "g"
    refine ⟨a, _, dx, _, _, rfl, ha, T.k_Turns, T.a_Turns__ranks, rfl, ?_⟩
    walk_at "g"
    have dg : DGet H p4 (.str z) (some (.int (rankS ks z : Nat))) := by
      have := DGet.k (k := (.inr z : Key)) e4
      rw [valV_rdic z 0 ks hz, Nat.zero_add] at this
      exact this
    exact ⟨p4, _, rfl, dg, k⟩
theorem eqv_si1 (c d : SI) : PyData.eqv (siD c) (siD d) = decide (c = d) := by
  obtain ⟨z, e⟩ := c
  obtain ⟨y, f⟩ := d
  show ((z == y) && ((e == f) && true)) = _
  rw [Bool.and_true, Bool.eq_iff_iff, Bool.and_eq_true, decide_eq_true_eq, beq_iff_eq, beq_iff_eq, Prod.mk.injEq]
theorem eqv_siA : ∀ a b : List SI, PyData.eqvAll (a.map siD) (b.map siD) = decide (a = b)
  | [], [] => rfl
  | [], _ :: _ => rfl
  | _ :: _, [] => rfl
  | c :: cs, d :: ds => by
    show (PyData.eqv (siD c) (siD d) && PyData.eqvAll (cs.map siD) (ds.map siD)) = _
    rw [eqv_si1, eqv_siA cs ds, Bool.eq_iff_iff, Bool.and_eq_true, decide_eq_true_eq, decide_eq_true_eq, decide_eq_true_eq, List.cons.injEq]
theorem eqv_siT (a b : List SI) : PyData.eqv (.tuple (a.map siD)) (.tuple (b.map siD)) = decide (a = b) := eqv_siA a b
theorem eqv_siL (a b : List SI) : PyData.eqv (.list (a.map siD)) (.list (b.map siD)) = decide (a = b) := eqv_siA a b
def spTeq (C : Addr) : Sp := fun vs H Q _ => ∃ (a b : Addr) (ks ls : List SI), vs = [.ref a, .ref b] ∧ TuAt C H a ks ∧ TuAt C H b ls ∧ KsOk ks ∧ KsOk ls ∧ Q (.bl (decide (ks = ls))) H
theorem c_teq (T : Txt K mg) : Met P w K mg base 1 (He.ga K "Turns") "__eq__" (spTeq (He.ga K "Turns")) [] := by
  refine metN T.m_Turns____eq__ sc_Turns___eq__ (fun vs H Q E h => ?_) (fun _ _ _ _ _ _ us hl => match us, hl with | [_, _], _ => rfl) (fun f cdv A outer s H vs Q E hr h => ?_)
  · obtain ⟨a, b, ks, ls, rfl, _⟩ := h
    rfl
  · obtain ⟨a, b, ks, ls, rfl, hA, hB, ok1, ok2, k⟩ := h
    obtain ⟨dx, p1, p2, p3, p4, ha, e1, e2, e3, e4⟩ := hA.ex
    obtain ⟨dy, q1, q2, q3, q4, hb, f1, f2, f3, f4⟩ := hB.ex
    refine ⟨_, (pss_one (ps_ret (pe_and (pe_callB call_isi (by rfl) T.b_isinstance (by decide +kernel) (pa_cons (pv 1) (pa_cons (pe_glob (v := .ref (He.ga K "Turns")) (by rfl) T.v_Turns rfl) pa_nil))) (pe_one (pe_cmpR (op_eqD (units_of hr)) (pe_fldK K (pv 0) (by rfl)) (pe_fldK K (pv 1) (by rfl)) (nomark _)))))), ?_⟩
    refine ⟨.ref b, rfl, .ref b, .ref (He.ga K "Turns"), .ref (He.ga K "Turns"), _, true, rfl, .own _, T.o_Turns.ty T.k_Turns hb, kit_self, true, rfl, ?_⟩
    refine iteT ?_
    walk_at "g"
    refine ⟨a, _, dx, _, _, rfl, ha, T.k_Turns, T.a_Turns__pairs, rfl, ?_⟩
    walk_at "g"
    refine ⟨b, _, dy, _, _, rfl, hb, T.k_Turns, T.a_Turns__pairs, rfl, ?_⟩
    refine ⟨_, _, dp_st e1, dp_st f1, canl_si ks (fun c hc => (ok1.ok c hc).1.strOk), canl_si ls (fun c hc => (ok2.ok c hc).1.strOk), ?_⟩
    rw [eqv_siT]
    exact k
def spRed (C : Addr) : Sp := fun vs H Q _ => ∃ (a : Addr) (z : Str) (e : Int) (ks : List SI), vs = [.ref a, .str z, .int e] ∧ TuAt C H a ks ∧ (∃ k ∈ ks, k.1 = z) ∧ Q (.int (modN (perOf ks) z e)) H
theorem c_reduced (T : Txt K mg) : Cal P w K mg base 3 "reduced" (spRed (He.ga K "Turns")) [] := by
  have c_period_of := @c_period_of P w K mg base T
  refine calN T.d_reduced sc_reduced (fun vs H Q E h => ?_) (fun _ _ _ _ _ _ us hl => match us, hl with | [_, _, _], _ => rfl) (fun f cdv A outer s H vs Q E hr h => ?_)
  · obtain ⟨a, x, e, ks, rfl, _⟩ := h
    rfl
  · obtain ⟨a, z, e, ks, rfl, hT, hz, k⟩ := h
    obtain ⟨dx, p1, p2, p3, p4, ha, e1, e2, e3, e4⟩ := hT.ex
    refine ⟨_, (pss_cons (ps_set (i := 3) sc_reduced.nd rfl (Or.inl rfl) (pe_mtx c_period_of hr (by first | decide | omega) passL (pv 0) (pa_cons (pv 1) pa_nil)))
      (pss_one (ps_ret (pe_ifExp (pt_cmpR op_gt (pv 3) pe_int (nomark _)) (pe_op op_mod (pv 2) (pv 3)) (pv 2))))), ?_⟩
    walk_at "g"
    refine ⟨a, dx, _, rfl, ha, rfl, ?_⟩
    walk_at "g"
    refine ⟨a, z, ks, rfl, hT, hz, ?_⟩
    walk_at "g"
    refine iteB (fun c1 => ?_) (fun c1 => ?_)
    · have p0 : 0 < perOf ks z := of_decide_eq_true c1
      walk_at "g"
      refine ⟨p0, ?_⟩
      unfold modN at k
      rw [if_pos p0] at k
      exact k
    · have p0 : ¬ 0 < perOf ks z := of_decide_eq_false c1
      walk_at "g"
      unfold modN at k
      rw [if_neg p0] at k
      exact k
end
end Tr

namespace Tr
open PySem L2 TL
/-- steps of a reading that are plain -/
local macro_rules | `(tactic| walk_at "x") => `(tactic| (refine' ⟨_, _, _, _, rfl, rfl, ?k1, ?k2, ?_⟩; (case k1 => exact SqT.of (by assumption)); (case k2 => exact rfl)))
local macro_rules | `(tactic| walk_at "g") => `(tactic| repeat (first | (refine ⟨_, rfl, ?_⟩) | (refine ⟨_, _, rfl, rfl, ?_⟩) | (refine ⟨_, _, rfl, ?_⟩) | (refine ⟨rfl, ?_⟩) | walk_at "x"))


/-! ### a step's key; normal steps -/
def clkN (per : Str → Int) (z : Str) (e : Int) : Int := if 0 < per z then (if per z - e < e then per z - e else e) else (if e < 0 then -e else e)
def flgN (per : Str → Int) (z : Str) (e : Int) : Int := if 0 < per z then (if e = clkN per z e then 0 else 1) else (if e < 0 then 1 else 0)
def KyT (ks : List SI) (H : Hp) (y : Addr) (c : SI) : Prop := H y = some (.tup [.int (rankS ks c.1 : Nat), .int (clkN (perOf ks) c.1 c.2), .int (flgN (perOf ks) c.1 c.2)])
section
variable {P : Program} {w : World} {K : PySem.W.Frag} {mg : Str → Option Value} {base : Heap}
def spKey (C : Addr) : Sp := fun vs H Q _ => ∃ (a u : Addr) (c : SI) (ks : List SI), vs = [.ref a, .ref u] ∧ TuAt C H a ks ∧ SrT H u c ∧ (∃ k ∈ ks, k.1 = c.1) ∧ ∀ y H', Same H H' → H y = none → KyT ks H' y c → Q (.ref y) H'
theorem c_step_key (T : Txt K mg) : Cal P w K mg base 3 "step_key" (spKey (He.ga K "Turns")) [] := by
  have c_period_of := @c_period_of P w K mg base T
  have c_rank := @c_rank P w K mg base T
  refine calN T.d_step_key sc_step_key (fun vs H Q E h => ?_) (fun _ _ _ _ _ _ us hl => match us, hl with | [_, _], _ => rfl) (fun f cdv A outer s H vs Q E hr h => ?_)
  · obtain ⟨a, u, c, ks, rfl, _⟩ := h
    rfl
  · obtain ⟨a, u, c, ks, rfl, hT, hu, hz, k⟩ := h
    obtain ⟨dx, p1, p2, p3, p4, ha, _⟩ := hT.ex
    refine ⟨_, (pss_cons (ps_asg (pv 1) (pg_tup rfl (pgs_cons (pg_name (i := 2) sc_step_key.nd rfl (Or.inl rfl)) (pgs_cons (pg_name (i := 3) sc_step_key.nd rfl (Or.inl rfl)) pgs_nil))))
      (pss_cons (ps_set (i := 4) sc_step_key.nd rfl (Or.inl rfl) (pe_mtx c_period_of hr (by first | decide | omega) passL (pv 0) (pa_cons (pv 2) pa_nil)))
      (pss_cons (ps_if (pt_cmpR op_gt (pv 4) pe_int (nomark _)) (pss_cons (ps_set (i := 5) sc_step_key.nd rfl (Or.inl rfl) (pe_callB (call_min2 rfl) (by rfl) T.b_min (by decide +kernel) (pa_cons (pe_callTy call_int1 (by rfl) T.b_int (by decide +kernel) (pa_cons (pv 3) pa_nil)) (pa_cons (pe_op op_sub (pv 4) (pv 3)) pa_nil))))
      (pss_one (ps_ret (pe_tup (pa_cons (pe_mtx c_rank hr (by first | decide | omega) passL (pv 0) (pa_cons (pv 2) pa_nil)) (pa_cons (pv 5) (pa_cons (pe_callTy call_int1 (by rfl) T.b_int (by decide +kernel) (pa_cons (pe_cmpR op_ne (pv 3) (pv 5) (nomark _)) pa_nil)) pa_nil))))))) pss_nil)
      (pss_one (ps_ret (pe_tup (pa_cons (pe_mtx c_rank hr (by first | decide | omega) passL (pv 0) (pa_cons (pv 2) pa_nil)) (pa_cons (pe_callB call_abs (by rfl) T.b_abs (by decide +kernel) (pa_cons (pv 3) pa_nil)) (pa_cons (pe_callTy call_int1 (by rfl) T.b_int (by decide +kernel) (pa_cons (pe_cmpR op_lt (pv 3) pe_int (nomark _)) pa_nil)) pa_nil))))))))), ?_⟩
    refine ⟨_, rfl, u, _, rfl, SqT.of hu, rfl, _, _, rfl, _, _, rfl, rfl, ?_⟩
    walk_at "g"
    refine ⟨a, dx, _, rfl, ha, rfl, ?_⟩
    walk_at "g"
    refine ⟨a, c.1, ks, rfl, hT, hz, ?_⟩
    walk_at "g"
    refine iteB (fun c1 => ?_) (fun c1 => ?_)
    · have p0 : 0 < perOf ks c.1 := of_decide_eq_true c1
      have e1 : clkN (perOf ks) c.1 c.2 = if perOf ks c.1 - c.2 < c.2 then perOf ks c.1 - c.2 else c.2 := by unfold clkN; rw [if_pos p0]
      have e2 : flgN (perOf ks) c.1 c.2 = if c.2 = clkN (perOf ks) c.1 c.2 then 0 else 1 := by unfold flgN; rw [if_pos p0]
      walk_at "g"
      refine .inl ⟨_, rfl, ?_⟩
      walk_at "g"
      refine ⟨a, dx, _, rfl, ha, rfl, ?_⟩
      walk_at "g"
      refine ⟨a, c.1, ks, rfl, hT, hz, ?_⟩
      rw [← e1]
      walk_at "g"
      refine .inr ⟨_, rfl, ?_⟩
      walk_at "g"
      refine ⟨by show 3 ≤ sizeLine; decide, fun y ny => ?_⟩
      refine k y _ (same_upd ny) ny ?_
      unfold KyT
      rw [upd_same, e2, dI]
      by_cases e : c.2 = clkN (perOf ks) c.1 c.2
      · rw [if_pos e, decide_eq_true e]
        rfl
      · rw [if_neg e, decide_eq_false e]
        rfl
    · have p0 : ¬ 0 < perOf ks c.1 := of_decide_eq_false c1
      have e1 : clkN (perOf ks) c.1 c.2 = if c.2 < 0 then -c.2 else c.2 := by unfold clkN; rw [if_neg p0]
      have e2 : flgN (perOf ks) c.1 c.2 = if c.2 < 0 then 1 else 0 := by unfold flgN; rw [if_neg p0]
      walk_at "g"
      refine ⟨a, dx, _, rfl, ha, rfl, ?_⟩
      walk_at "g"
      refine ⟨a, c.1, ks, rfl, hT, hz, ?_⟩
      walk_at "g"
      rw [← e1]
      refine .inr ⟨_, rfl, ?_⟩
      walk_at "g"
      refine ⟨by show 3 ≤ sizeLine; decide, fun y ny => ?_⟩
      refine k y _ (same_upd ny) ny ?_
      unfold KyT
      rw [upd_same, e2]
      by_cases e : c.2 < 0
      · rw [if_pos e, decide_eq_true e]
        rfl
      · rw [if_neg e, decide_eq_false e]
        rfl
def spNSteps (K : PySem.W.Frag) (C : Addr) : Sp := fun vs H Q _ => ∃ (a p : Addr) (ks ss : List SI) (ts : List Addr), vs = [.ref a, .ref p] ∧ TuAt C H a ks ∧ SQ K H p ts ss ∧ ss.length ≤ 10000 ∧ (∀ c ∈ ss, ∃ k ∈ ks, k.1 = c.1) ∧
  ∀ (l : Addr) H', Same H H' → H l = none → SL H' l (normL (perOf ks) ss) → Q (.ref l) H'
theorem c_normal_steps (T : Txt K mg) : Cal P w K mg base 4 "normal_steps" (spNSteps K (He.ga K "Turns")) [] := by
  have c_reduced := @c_reduced P w K mg base T
  refine calN T.d_normal_steps sc_normal_steps (fun vs H Q E h => ?_) (fun _ _ _ _ _ _ us hl => match us, hl with | [_, _], _ => rfl) (fun f cdv A outer s H vs Q E hr h => ?_)
  · obtain ⟨a, p, ks, ss, ts, rfl, _⟩ := h
    rfl
  · obtain ⟨a, p, ks, ss, ts, rfl, hT, hS, s100, hs, k⟩ := h
    refine ⟨_, (pss_cons (ps_set (i := 2) sc_normal_steps.nd rfl (Or.inl rfl) (pe_lst pa_nil))
      (pss_cons (ps_for PassesOwn.never rfl (pi_seqK K (pv 1)) (pg_seq rfl (pgs_cons (pg_name (i := 3) sc_normal_steps.nd rfl (Or.inl rfl)) (pgs_cons (pg_name (i := 4) sc_normal_steps.nd rfl (Or.inl rfl)) pgs_nil))) (C8.pss_cut (ps_if (PW.pt (pw_and (pt_truth (pv 2) (by intro _; rfl)) (pw_and1 (pt_cmpR op_eq (pe_ix ix_tup (pe_ix ix_list (pv 2) (pe_un un_neg pe_int) (fun _ _ => rfl)) pe_int (fun _ _ => rfl)) (pv 3) (nomark _))))) (pss_one (ps_set (i := 4) sc_normal_steps.nd rfl (Or.inl rfl) (pe_op op_add (pv 4) (pe_ix ix_tup (pe_bm0 PySem.F.plainAttrs_list PySem.F.slot_list_pop PySem.F.type_list_pop mt_pop (pv 2)) pe_int (fun _ _ => rfl))))) pss_nil)
      (pss_cons (ps_set (i := 4) sc_normal_steps.nd rfl (Or.inl rfl) (pe_cx c_reduced hr (by first | decide | omega) rfl passL (pa_cons (pv 0) (pa_cons (pv 3) (pa_cons (pv 4) pa_nil)))))
      (pss_one (ps_if (pt_cmpR op_ne (pv 4) pe_int (nomark _)) (pss_one (ps_expr (pe_bm PySem.F.plainAttrs_list PySem.F.slot_list_append PySem.F.type_list_append mt_append (pv 2) (pa_cons (pe_tup (pa_cons (pv 3) (pa_cons (pv 4) pa_nil))) pa_nil)))) pss_nil)))))
      (pss_one (ps_ret (pv 2))))), ?_⟩
    have hlen := hS.2.len
    walk_at "g"
    refine ⟨by show 0 ≤ sizeLine; decide, fun D nD => ?_⟩
    have s1 : Same H (upd H D (.lst [])) := same_upd nD
    walk_at "g"
    refine iSeq_of (fun Q q => ⟨_, rfl, q⟩) hS s1 fun J G hG wJ => ?_
    refine for_spW wJ hlen (fun i σ H' => ∃ (a3 a4 : Option V) (vs : List Addr), σ = [some (.ref a), some (.ref p), some (.ref D), a3, a4] ∧ Same H H' ∧ H' D = some (.lst (vs.map V.ref)) ∧ P2 (SrT H') vs (normL (perOf ks) (ss.take i))) ⟨_, _, [], rfl, s1, upd_same, .nil⟩ ?_ ?_ ?_
    · rintro i σ H' _ ⟨a3, a4, vs, rfl, s', _⟩
      exact ⟨hG _ s', P2.sameE s' hS.2⟩
    · rintro i c σ H3 hc ⟨a3, a4, vs, rfl, s3, hD3, pv⟩
      obtain ⟨acc, eacc⟩ : ∃ acc, acc = normL (perOf ks) (ss.take i) := ⟨_, rfl⟩
      have e1 : normL (perOf ks) (ss.take (i + 1)) = stepN (perOf ks) acc c := by rw [take_snoc hc, normL_snoc, eacc]
      have sb := @normL_sub (perOf ks) (ss.take i)
      have al : acc.length ≤ 10000 := by
        have := sb.2
        rw [List.length_take, ← eacc] at this
        omega
      have hcm := hs c (mem_of_at hc)
      rw [← eacc] at pv
      clear sb eacc
      have vl := pv.len
      refine ⟨fun σ' H4 => ∃ (vs' : List Addr), σ' = [some (.ref a), some (.ref p), some (.ref D), some (.str c.1), some (.int (pickN acc c).2)] ∧ Same H H4 ∧ H4 D = some (.lst (vs'.map V.ref)) ∧ P2 (SrT H4) vs' (pickN acc c).1, ?_, ?_⟩
      · walk_at "g"
        refine ⟨_, .inl ⟨_, SqL.of hD3, rfl⟩, ?_⟩
        rcases snocC acc with rfl | ⟨ac, d, rfl⟩
        · have v0 : vs = [] := List.eq_nil_of_length_eq_zero vl
          subst v0
          refine iteF ?_
          exact ⟨[], rfl, s3, hD3, pv⟩
        · rcases snocC vs with rfl | ⟨vr, u, rfl⟩
          · simp at vl
          rw [show (!((vr ++ [u]).map V.ref).isEmpty) = true by simp]
          refine iteT ?_
          obtain ⟨pr, ru⟩ := P2.unsnoc pv
          walk_at "g"
          refine ⟨D, _, (-1 : Int), .ref u, rfl, rfl, SqL.of hD3, by rw [List.map_append]; exact atI_last _ _, ?_⟩
          walk_at "g"
          refine iteB (fun c1 => ?_) (fun c1 => ?_)
          · have e1 : d.1 = c.1 := by simpa using c1
            rw [pickN_eq e1]
            walk_at "g"
            refine ⟨.inl ⟨rfl, _, SqL.of hD3⟩, D, _, .ref u, rfl, rfl, hD3, by rw [List.map_append, List.length_append]; simp, ?_⟩
            rw [List.map_append, show (vr.map V.ref ++ [u].map V.ref).dropLast = vr.map V.ref by simp]
            have nu : u ≠ D := ru.ne hD3 (fun _ => by intro z; cases z)
            have ru5 : SrT (upd H3 D (.lst (vr.map V.ref))) u d := by
              show upd _ _ _ u = _
              rw [upd_ne nu]
              exact ru
            have kp5 : Kp D H3 (upd H3 D (.lst (vr.map V.ref))) := kp_upd D H3 _
            walk_at "g"
            exact ⟨vr, rfl, s3.wr nD, upd_same, pr.kpS kp5 hD3 (fun _ => by intro z; cases z)⟩
          · have e1 : d.1 ≠ c.1 := by simpa using c1
            rw [pickN_ne e1]
            exact ⟨vr ++ [u], rfl, s3, hD3, pv⟩
      · rintro σ' H4 ⟨vs', rfl, s4, hD4, pv4⟩
        have pl := @pickN_sub acc c
        have vl4 := pv4.len
        rw [e1]
        have est : stepN (perOf ks) acc c = putN (pickN acc c).1 c.1 (modN (perOf ks) c.1 (pickN acc c).2) := rfl
        rw [est]
        walk_at "g"
        refine ⟨a, c.1, _, ks, rfl, hT.same s4, hcm, ?_⟩
        generalize modN (perOf ks) c.1 (pickN acc c).2 = e at *
        generalize (pickN acc c).1 = ac at *
        walk_at "g"
        refine iteB (fun c1 => ?_) (fun c1 => ?_)
        · have e0 : e ≠ 0 := by simpa using c1
          rw [show putN ac c.1 e = ac ++ [(c.1, e)] from if_neg e0]
          walk_at "g"
          refine ⟨.inl ⟨rfl, _, SqL.of hD4⟩, ?_⟩
          walk_at "g"
          refine ⟨by show 2 ≤ sizeLine; decide, fun u nu => ?_⟩
          have s5 := same_upd (o := .tup [.str c.1, .int e]) nu
          have hD5 := s5 _ _ hD4
          walk_at "g"
          refine ⟨D, vs'.map V.ref, _, rfl, rfl, hD5, small_app (m := 100000) (by rw [List.length_map]; omega) (Nat.le_refl _), ?_⟩
          exact ⟨_, _, vs' ++ [u], rfl, (s4.trans s5).wr nD, by rw [List.map_append]; exact upd_same, sl_snoc hD5 (pv4.sameS s5) upd_same⟩
        · have e0 : e = 0 := by simpa using c1
          rw [show putN ac c.1 e = ac from if_pos e0]
          exact ⟨_, _, vs', rfl, s4, hD4, pv4⟩
    · rintro σ H3 ⟨a3, a4, vs, rfl, s3, hD3, pv⟩
      walk_at "g"
      rw [List.take_length] at pv
      exact k D H3 s3 nD ⟨vs, hD3, pv⟩
end
end Tr

namespace Tr
open PySem L2 TL
/-- steps of a reading that are plain -/
local macro_rules | `(tactic| walk_at "x") => `(tactic| (refine' ⟨_, _, _, _, rfl, rfl, ?k1, ?k2, ?_⟩; (case k1 => exact SqT.of (by assumption)); (case k2 => exact rfl)))
local macro_rules | `(tactic| walk_at "g") => `(tactic| repeat (first | (refine ⟨_, rfl, ?_⟩) | (refine ⟨_, _, rfl, rfl, ?_⟩) | (refine ⟨_, _, rfl, ?_⟩) | (refine ⟨rfl, ?_⟩) | walk_at "x"))


/-! ### Row.__init__ -/
def rflds (t st ky : Addr) : List (Str × V) := [("turns", .ref t), ("steps", .ref st), ("key", .ref ky)]
def InK (ks ss : List SI) : Prop := ∀ c ∈ ss, ∃ k ∈ ks, k.1 = c.1
/-- a row stands at a -/
structure RwAt (CR CT : Addr) (H : Hp) (a t : Addr) (ks ss : List SI) : Prop where
  ex : ∃ dx st ky kk pp ys, H a = some (.ins CR dx (rflds t st ky)) ∧ ST H st ss ∧ H ky = some (.tup [.int (ss.length : Nat), .ref kk, .ref pp]) ∧ H kk = some (.tup (ys.map V.ref)) ∧ P2 (KyT ks H) ys ss ∧ ST H pp ks
  tu : TuAt CT H t ks
  ok : KsOk ks
  nf : Nf (perOf ks) ss
  nm : InK ks ss
  le : ss.length ≤ 10000
theorem RwAt.same {CR CT : Addr} {H H' : Hp} {a t : Addr} {ks ss : List SI} (s : Same H H') (h : RwAt CR CT H a t ks ss) : RwAt CR CT H' a t ks ss :=
  let ⟨dx, st, ky, kk, pp, ys, e0, e1, e2, e3, e4, e5⟩ := h.ex
  ⟨⟨dx, st, ky, kk, pp, ys, s _ _ e0, e1.same s, s _ _ e2, s _ _ e3, e4.mono fun _ _ e => s _ _ e, e5.same s⟩, h.tu.same s, h.ok, h.nf, h.nm, h.le⟩
theorem RwAt.kpB {CR CT p a t : Addr} {H H' : Hp} {kvs : List (Key × V)} {ks ss : List SI} (h : RwAt CR CT H a t ks ss) (ne : TuNe H t p) (kp : Kp p H H') (hp : H p = some (.dK kvs)) : RwAt CR CT H' a t ks ss := by
  obtain ⟨dx, st, ky, kk, pp, ys, e0, ⟨ts, a1, b1⟩, e2, e3, e4, ⟨us, a5, b5⟩⟩ := h.ex
  have no : ∀ {a : Addr} {xs : List V}, H a = some (.tup xs) → H' a = some (.tup xs) := fun h => kp _ _ h (ne_of h hp (by intro z; cases z))
  exact ⟨⟨dx, st, ky, kk, pp, ys, kp _ _ e0 (ne_of e0 hp (by intro z; cases z)), ⟨ts, no a1, b1.mono fun _ _ e => no e⟩, no e2, no e3, e4.mono fun _ _ e => no e, ⟨us, no a5, b5.mono fun _ _ e => no e⟩⟩, h.tu.kpB ne kp hp, h.ok, h.nf, h.nm, h.le⟩
theorem RwAt.sok {CR CT a t : Addr} {H : Hp} {ks ss : List SI} (h : RwAt CR CT H a t ks ss) : ∀ c ∈ ss, PyData.strOk c.1 = true := fun c hc => by
  obtain ⟨k, hk, e⟩ := h.nm c hc
  rw [← e]
  exact (h.ok.ok k hk).1.strOk
theorem norm_in {ks ss : List SI} (h : InK ks ss) : InK ks (normL (perOf ks) ss) := fun c hc => by
  obtain ⟨x, hx, e⟩ := normL_sub.1 c hc
  rw [← e]
  exact h x hx
theorem InK.app {ks a b : List SI} (h : InK ks a) (h' : InK ks b) : InK ks (a ++ b) := fun c hc => (List.mem_append.mp hc).elim (h c) (h' c)
theorem InK.back {ks a : List SI} (h : InK ks a) : InK ks (backL a) := fun c hc => by
  unfold backL at hc
  obtain ⟨d, hd, rfl⟩ := List.mem_map.mp hc
  exact h d (List.mem_reverse.mp hd)
theorem norm_len {per : Str → Int} {ss : List SI} : (normL per ss).length ≤ ss.length := normL_sub.2
theorem TuAt.kpi {C C' x dx a : Addr} {H H' : Hp} {fs : List (Str × V)} {ks : List SI} (h : TuAt C H a ks) (kp : Kp x H H') (hx : H x = some (.ins C' dx fs)) (nf : ∀ p1 p2 p3 p4, fs ≠ tflds p1 p2 p3 p4 := by intro _ _ _ _ z; cases z) : TuAt C H' a ks := by
  obtain ⟨dt, p1, p2, p3, p4, e0, ⟨ts, a1, b1⟩, e2, e3, e4⟩ := h.ex
  exact ⟨dt, p1, p2, p3, p4, kp _ _ e0 (ne_of e0 hx (by intro z; cases z; exact nf _ _ _ _ rfl)), ⟨ts, kp _ _ a1 (ne_of a1 hx (by intro z; cases z)), b1.mono fun _ _ e => kp _ _ e (ne_of e hx (by intro z; cases z))⟩,
    kp _ _ e2 (ne_of e2 hx (by intro z; cases z)), kp _ _ e3 (ne_of e3 hx (by intro z; cases z)), kp _ _ e4 (ne_of e4 hx (by intro z; cases z))⟩
theorem SqL.kpi {K : PySem.W.Frag} {C' x dx a : Addr} {H H' : Hp} {fs : List (Str × V)} {xs : List V} (h : SqL K H a xs) (kp : Kp x H H') (hx : H x = some (.ins C' dx fs)) : SqL K H' a xs := by
  refine h.elim (fun h => .inl (h.elim (fun h => .inl ?_) (fun ⟨o, h⟩ => .inr ⟨o, ?_⟩))) (fun h => .inr h)
  · exact kp _ _ h (ne_of h hx (by intro z; cases z))
  · exact kp _ _ h (ne_of h hx (by intro z; cases z))
theorem SqT.kpi {K : PySem.W.Frag} {C' x dx a : Addr} {H H' : Hp} {fs : List (Str × V)} {xs : List V} (h : SqT K H a xs) (kp : Kp x H H') (hx : H x = some (.ins C' dx fs)) : SqT K H' a xs := by
  refine h.elim (fun h => .inl (h.elim (fun h => .inl ?_) (fun ⟨o, h⟩ => .inr ⟨o, ?_⟩))) (fun h => .inr h)
  · exact kp _ _ h (ne_of h hx (by intro z; cases z))
  · exact kp _ _ h (ne_of h hx (by intro z; cases z))
theorem SrE.kpi {K : PySem.W.Frag} {C' x dx a : Addr} {H H' : Hp} {fs : List (Str × V)} {c : SI} (h : SrE K H a c) (kp : Kp x H H') (hx : H x = some (.ins C' dx fs)) : SrE K H' a c := h.elim (fun h => .inl (SqT.kpi h kp hx)) (fun h => .inr (SqL.kpi h kp hx))
theorem SQ.kpi {K : PySem.W.Frag} {C' x dx a : Addr} {H H' : Hp} {fs : List (Str × V)} {ts : List Addr} {cs : List SI} (h : SQ K H a ts cs) (kp : Kp x H H') (hx : H x = some (.ins C' dx fs)) : SQ K H' a ts cs :=
  ⟨h.1.elim (fun h => .inl (SqL.kpi h kp hx)) (fun h => .inr (SqT.kpi h kp hx)), h.2.mono fun _ _ e => SrE.kpi e kp hx⟩
section
variable {P : Program} {w : World} {K : PySem.W.Frag} {mg : Str → Option Value} {base : Heap}
def spRow (K : PySem.W.Frag) (CR CT : Addr) : Sp := fun vs H Q _ => ∃ (x dx t p : Addr) (ks ss : List SI) (ts : List Addr), vs = [.ref x, .ref t, .ref p] ∧ H x = some (.ins CR dx []) ∧ TuAt CT H t ks ∧ KsOk ks ∧ SQ K H p ts ss ∧ ss.length ≤ 10000 ∧ InK ks ss ∧
  ∀ (H' : Hp), Kp x H H' → RwAt CR CT H' x t ks (normL (perOf ks) ss) → Q .non H'
theorem walk_Row (T : Txt K mg) (f : Addr) (cdv : Value) (A : Around) (outer : List Env) (s : Shared) (H : Hp) (vs : List V) (Q : VK) (E : XK) (hr : Room 4 (A.deeper (PyProof.Rows.envOfC "Row.__init__" (defScope s_Row___init__) s.heap.objs.size f cdv))) (h : spRow K (He.ga K "Row") (He.ga K "Turns") vs H Q E) :
    ∃ t, PSs (cxOf (L2.CX P w) P w K mg base ["self", "turns", "steps", "name", "exponent", "keys", "step"] "Row.__init__" (defScope s_Row___init__) f cdv A outer s H E).nox (defBody s_Row___init__) t ∧ t { nx := fun _ H' => Q .non H', rt := Q } (start ["self", "turns", "steps", "name", "exponent", "keys", "step"] vs) H := by
  have c_tin := @c_tin P w K mg base T
  have c_normal_steps := @c_normal_steps P w K mg base T
  have c_step_key := @c_step_key P w K mg base T
  obtain ⟨x, dx, t, p, ks, ss, ts, rfl, hx, hT, ok, hS, hle, hin, k⟩ := h
  have hlen := hS.2.len
  refine ⟨_, (pss_cons (ps_for PassesOwn.never rfl (pi_seqK K (pv 2)) (pg_seq rfl (pgs_cons (pg_name (i := 3) sc_Row___init__.nd rfl (Or.inl rfl)) (pgs_cons (pg_name (i := 4) sc_Row___init__.nd rfl (Or.inl rfl)) pgs_nil))) (pss_one (ps_if (pt_cmpR (or_notInO c_tin hr (by first | decide | omega) passL) (pv 3) (pv 1) (by rfl)) (pss_one ps_never) pss_nil)))
      (pss_cons (ps_fld (pv 0) (pv 1) rfl)
      (pss_cons (ps_fld (pv 0) (pe_callTy call_tuple_of (by rfl) T.b_tuple (by decide +kernel) (pa_cons (pe_cx c_normal_steps hr (by first | decide | omega) rfl passL (pa_cons (pv 1) (pa_cons (pv 2) pa_nil))) pa_nil)) rfl)
      (pss_cons (ps_set (i := 5) sc_Row___init__.nd rfl (Or.inl rfl) (pe_callTy call_tuple_of (by rfl) T.b_tuple (by decide +kernel) (pa_cons (pe_lc (own := [("step", 6)]) (g := gName 6) rfl sc_Row___init__.nd (pi_tupK K (pe_fldK K (pv 0) (by rfl))) (blkOk_by (own := [("step", 6)]) (N := ["self", "turns", "steps", "name", "exponent", "keys", "step"]) (sc := defScope s_Row___init__) (by decide +kernel)) (fun _ _ _ _ _ => (pg_name (i := 6) sc_Row___init__.nd rfl (Or.inl rfl))) (fun _ _ _ _ _ => pts_nil) (fun _ _ _ _ _ => (pe_cx c_step_key hr (by first | decide | omega) rfl passL (pa_cons (pv 1) (pa_cons (pv 6) pa_nil))))) pa_nil)))
      (pss_one (ps_fld (pv 0) (pe_tup (pa_cons (pe_callB call_len (by rfl) T.b_len (by decide +kernel) (pa_cons (pe_fldK K (pv 0) (by rfl)) pa_nil)) (pa_cons (pv 5) (pa_cons (pe_fldK K (pv 1) (by rfl)) pa_nil)))) rfl)))))), ?_⟩
  refine iSeq_of (fun Q q => ⟨_, rfl, q⟩) hS (Same.refl H) fun J G hG wJ => ?_
  refine for_spW wJ hlen (fun i σ H' => ∃ (a3 a4 : Option V), σ = [some (.ref x), some (.ref t), some (.ref p), a3, a4, none, none] ∧ H' = H) ⟨_, _, rfl, rfl⟩ ?_ ?_ ?_
  · rintro i σ H' _ ⟨a3, a4, rfl, rfl⟩
    exact ⟨hG _ (Same.refl _), hS.2⟩
  · rintro i c σ H3 hc ⟨a3, a4, rfl, rfl⟩
    obtain ⟨dt, p1, p2, p3, p4, ht, _⟩ := id hT.ex
    walk_at "g"
    refine ⟨t, dt, _, rfl, ht, t, _, ks, rfl, hT, .inl ⟨c.1, rfl, ?_⟩⟩
    rw [hasS_of (hin c (mem_of_at hc))]
    walk_at "g"
    rfl
  · rintro σ H3 ⟨a3, a4, rfl, rfl⟩
    walk_at "g"
    refine ⟨x, _, dx, _, rfl, hx, T.k_Row, T.a_Row__turns, by show 0 < 1000; decide, ?_⟩
    obtain ⟨H4, e4⟩ : ∃ H4, H4 = upd H3 x (.ins (He.ga K "Row") dx (putF "turns" (.ref t) [])) := ⟨_, rfl⟩
    have kp4 : Kp x H3 H4 := by rw [e4]; exact kp_upd x H3 _
    have hx4 : H4 x = some (.ins (He.ga K "Row") dx [("turns", .ref t)]) := by rw [e4]; exact upd_same
    rw [← e4]
    clear e4
    have tk := TuAt.kpi hT kp4 hx
    have sk := SQ.kpi hS kp4 hx
    walk_at "g"
    refine ⟨t, p, ks, ss, ts, rfl, tk, sk, hle, hin, fun l H5 s5 nl hl => ?_⟩
    obtain ⟨us, hl1, pl⟩ := hl
    refine ⟨l, _, rfl, .inl ⟨SqL.of hl1, fun st nst => ?_⟩⟩
    have s6 := same_upd (o := .tup (us.map V.ref)) nst
    obtain ⟨H6, e6⟩ : ∃ H6, H6 = upd H5 st (.tup (us.map V.ref)) := ⟨_, rfl⟩
    have hst : H6 st = some (.tup (us.map V.ref)) := by rw [e6]; exact upd_same
    rw [← e6] at s6 ⊢
    clear e6
    have s46 := s5.trans s6
    have pl6 := pl.sameS s6
    walk_at "g"
    refine ⟨x, _, dx, _, rfl, s46 _ _ hx4, T.k_Row, T.a_Row__steps, by show 1 < 1000; decide, ?_⟩
    obtain ⟨H7, e7⟩ : ∃ H7, H7 = upd H6 x (.ins (He.ga K "Row") dx (putF "steps" (.ref st) [("turns", .ref t)])) := ⟨_, rfl⟩
    have hx6 := s46 _ _ hx4
    have kp7 : Kp x H6 H7 := by rw [e7]; exact kp_upd x H6 _
    have hx7 : H7 x = some (.ins (He.ga K "Row") dx [("turns", .ref t), ("steps", .ref st)]) := by rw [e7]; exact upd_same
    rw [← e7]
    clear e7
    have no : ∀ {a : Addr} {xs : List V}, H6 a = some (.tup xs) → a ≠ x := fun h => ne_of h hx6 (by intro z; cases z)
    have hst7 := kp7 _ _ hst (no hst)
    have pl7 : P2 (SrT H7) us (normL (perOf ks) ss) := pl6.mono fun _ _ e => kp7 _ _ e (no e)
    have tk7 := TuAt.kpi (tk.same s46) kp7 hx6
    have ll := pl7.len
    have nle := @norm_len (perOf ks) ss
    have nin := norm_in hin
    have nnf := nf_norm (per := perOf ks) ss
    generalize normL (perOf ks) ss = ns at *
    walk_at "g"
    refine ⟨x, _, dx, _, _, rfl, hx7, T.k_Row, T.a_Row__steps, rfl, ?_⟩
    walk_at "g"
    refine ⟨⟨_, SqT.of hst7⟩, fun D nD => ?_⟩
    refine lc_ref walk_tup pl7 (fun y c H => ∃ q, y = .ref q ∧ KyT ks H q c) ?_ nD (by omega) (fun H s => s.seqT (SqT.of hst7)) (fun _ => rfl) ?_ ?_
    · rintro y c H H' acc hD kp ⟨q, rfl, hq⟩
      exact ⟨q, rfl, kp _ _ hq (ne_of hq hD (by intro z; cases z))⟩
    · intro u c hcm r H8 Q8 s8 q
      walk_at "g"
      exact ⟨t, u, c, ks, rfl, tk7.same s8, s8 _ _ r, nin c hcm, fun y H9 s9 ny hy => q _ _ s9 ⟨y, rfl, hy⟩⟩
    · intro ys H8 s8 hD8 py
      obtain ⟨as, rfl⟩ := py.ref (f := V.ref) (fun v b ⟨t, e, _⟩ => ⟨t, e⟩)
      have pa : P2 (KyT ks H8) as ns := (P2.map_l.mp py).mono fun t c ⟨t', e, r⟩ => by cases e; exact r
      walk_at "g"
      refine ⟨D, _, rfl, .inl ⟨SqL.of hD8, fun kk nkk => ?_⟩⟩
      have s9 := same_upd (o := .tup (as.map V.ref)) nkk
      obtain ⟨H9, e9⟩ : ∃ H9, H9 = upd H8 kk (.tup (as.map V.ref)) := ⟨_, rfl⟩
      have hkk : H9 kk = some (.tup (as.map V.ref)) := by rw [e9]; exact upd_same
      rw [← e9] at s9 ⊢
      clear e9
      have s79 := s8.trans s9
      have pa9 : P2 (KyT ks H9) as ns := pa.mono fun _ _ e => s9 _ _ e
      walk_at "g"
      refine ⟨x, _, dx, _, _, rfl, s79 _ _ hx7, T.k_Row, T.a_Row__steps, rfl, ?_⟩
      walk_at "g"
      refine ⟨_, _, rfl, .inr ⟨_, SqT.of (s79 _ _ hst7), rfl⟩, ?_⟩
      rw [List.length_map, ll]
      obtain ⟨dt, p1, p2, p3, p4, ht9, hp19, _⟩ := (tk7.same s79).ex
      walk_at "g"
      refine ⟨t, _, dt, _, _, rfl, ht9, T.k_Turns, T.a_Turns__pairs, rfl, ?_⟩
      walk_at "g"
      refine ⟨by show 3 ≤ sizeLine; decide, fun ky nky => ?_⟩
      have s10 := same_upd (o := .tup [.int (ns.length : Nat), .ref kk, .ref p1]) nky
      obtain ⟨H10, e10⟩ : ∃ H10, H10 = upd H9 ky (.tup [.int (ns.length : Nat), .ref kk, .ref p1]) := ⟨_, rfl⟩
      have hky : H10 ky = some (.tup [.int (ns.length : Nat), .ref kk, .ref p1]) := by rw [e10]; exact upd_same
      rw [← e10] at s10 ⊢
      clear e10
      have s710 := s79.trans s10
      have hx10 := s710 _ _ hx7
      walk_at "g"
      refine ⟨x, _, dx, _, rfl, hx10, T.k_Row, T.a_Row__key, by show 2 < 1000; decide, ?_⟩
      obtain ⟨H11, e11⟩ : ∃ H11, H11 = upd H10 x (.ins (He.ga K "Row") dx (rflds t st ky)) := ⟨_, rfl⟩
      show Q .non (upd H10 x (.ins (He.ga K "Row") dx (rflds t st ky)))
      have kp11 : Kp x H10 H11 := by rw [e11]; exact kp_upd x H10 _
      have hx11 : H11 x = some (.ins (He.ga K "Row") dx (rflds t st ky)) := by rw [e11]; exact upd_same
      rw [← e11]
      clear e11
      have no10 : ∀ {a : Addr} {xs : List V}, H10 a = some (.tup xs) → a ≠ x := fun h => ne_of h hx10 (by intro z; cases z)
      have k10 : ∀ {a : Addr} {xs : List V}, H10 a = some (.tup xs) → H11 a = some (.tup xs) := fun h => kp11 _ _ h (no10 h)
      refine k H11 ((kp4.trans s46.kp).trans (kp7.trans (s710.kp.trans kp11))) ⟨⟨dx, st, ky, kk, p1, as, hx11, ⟨us, k10 (s710 _ _ hst7), pl7.mono fun _ _ e => k10 (s710 _ _ e)⟩, k10 hky, k10 (s10 _ _ hkk), pa9.mono fun _ _ e => k10 (s10 _ _ e), ?_⟩, TuAt.kpi (tk7.same s710) kp11 hx10, ok, nnf, nin, by omega⟩
      obtain ⟨tp, a1, b1⟩ := hp19
      exact ⟨tp, k10 (s10 _ _ a1), b1.mono fun _ _ e => k10 (s10 _ _ e)⟩
theorem m_Row (T : Txt K mg) : Mak P w K mg base 5 "Row" (He.ga K "Row") (spRow K (He.ga K "Row") (He.ga K "Turns")) [] := by
  refine makN T.i_Row sc_Row___init__ (fun vs H Q E h => ?_) (fun dvs f fd hl F => binds_all F 3 rfl (fun _ _ _ _ _ _ _ us its h1 h2 => match us, its, h1, h2.trans hl with | [_, _, _], [_], _, _ => ⟨_, rfl, rfl⟩) (by intro e; rw [e] at hl; cases hl)) (walk_Row T)
  obtain ⟨x, dx, t, p, ks, ss, ts, rfl, _⟩ := h
  rfl
/-- Row(turns): the default is kept at an empty tuple -/
def spRow0 (CR CT d : Addr) : Sp := fun vs H Q _ => ∃ (x dx t : Addr) (ks : List SI), vs = [.ref x, .ref t, .ref d] ∧ H x = some (.ins CR dx []) ∧ TuAt CT H t ks ∧ KsOk ks ∧ ∀ (H' : Hp), Kp x H H' → RwAt CR CT H' x t ks [] → Q .non H'
theorem m_Row0 (T : Txt K mg) : ∃ d, Mak P w K mg base 5 "Row" (He.ga K "Row") (spRow0 (He.ga K "Row") (He.ga K "Turns") d) [.ref d] := by
  obtain ⟨f, fd, d, M, hm, F, he⟩ := T.e_Row.ex
  obtain ⟨ds, r, b⟩ := F.binds1 (ps := ["self", "turns", "steps"]) 2 0 (List.cons_ne_nil _ _) rfl (fun _ _ _ _ _ _ _ us its h1 h2 => match us, its, h1, h2 with | [_, _], [_], _, _ => ⟨_, rfl, rfl⟩)
  refine ⟨d, f, fd, ["self", "turns", "steps"], ds, M, F.ok sc_Row___init__ (fun vs H Q E h => ?_) (fun cdv A outer s H vs Q E hr h => ?_), hm, b, r⟩
  · obtain ⟨x, dx, t, ks, rfl, _⟩ := h
    rfl
  · obtain ⟨x, dx, t, ks, rfl, hx, hT, ok, k⟩ := h
    obtain ⟨t, h1, h2⟩ := @walk_Row P w K mg base T f cdv A outer s H _ Q E hr ⟨x, dx, t, d, ks, [], [], rfl, hx, hT, ok, SQ.nil (he H), Nat.zero_le _, (fun c hc => by cases hc), k⟩
    exact ⟨t, h1.nox, h2⟩
end
theorem mk_row {K : PySem.W.Frag} {CR CT : Addr} {H : Hp} {t p : Addr} {ks ss : List SI} {ts : List Addr} {Q : VK} (hT : TuAt CT H t ks) (ok : KsOk ks) (hS : SQ K H p ts ss) (hle : ss.length ≤ 10000) (hin : InK ks ss)
    (k : ∀ y H', Same H H' → RwAt CR CT H' y t ks (normL (perOf ks) ss) → Q (.ref y) H') :
    ∀ (x dx : Addr), H x = none → H dx = none → dx ≠ x → spRow K CR CT [.ref x, .ref t, .ref p] (upd (upd H dx (.own x)) x (.ins CR dx [])) (fun v H2 => v = .non ∧ Q (.ref x) H2) E0 := by
  intro x dx nx ndx ne
  have s := same_made (o := .ins CR dx []) (o2 := .own x) nx ndx
  exact ⟨x, dx, t, p, ks, ss, ts, rfl, upd_same, hT.same s, ok, hS.same s, hle, hin, fun H' kp hR => ⟨rfl, k x H' (mk_same kp nx ndx) hR⟩⟩
theorem mk_row0 {CR CT d : Addr} {H : Hp} {t : Addr} {ks : List SI} {Q : VK} (hT : TuAt CT H t ks) (ok : KsOk ks)
    (k : ∀ y H', Same H H' → RwAt CR CT H' y t ks [] → Q (.ref y) H') :
    ∀ (x dx : Addr), H x = none → H dx = none → dx ≠ x → spRow0 CR CT d [.ref x, .ref t, .ref d] (upd (upd H dx (.own x)) x (.ins CR dx [])) (fun v H2 => v = .non ∧ Q (.ref x) H2) E0 := by
  intro x dx nx ndx ne
  have s := same_made (o := .ins CR dx []) (o2 := .own x) nx ndx
  exact ⟨x, dx, t, ks, rfl, upd_same, hT.same s, ok, fun H' kp hR => ⟨rfl, k x H' (mk_same kp nx ndx) hR⟩⟩
end Tr

namespace Tr
open PySem L2
/-- steps of a reading that are plain -/
local macro_rules | `(tactic| walk_at "x") => `(tactic| (refine' ⟨_, _, _, _, rfl, rfl, ?k1, ?k2, ?_⟩; (case k1 => exact SqT.of (by assumption)); (case k2 => exact rfl)))
local macro_rules | `(tactic| walk_at "g") => `(tactic| repeat (first | (refine ⟨_, rfl, ?_⟩) | (refine ⟨_, _, rfl, rfl, ?_⟩) | (refine ⟨_, _, rfl, ?_⟩) | (refine ⟨rfl, ?_⟩) | walk_at "x"))


/-! ### common_divisor -/
def spGcd : Sp := fun vs H Q _ => ∃ a b : Int, vs = [.int a, .int b] ∧ Q (.int (Int.gcd a b)) H
theorem abs_eq (a : Int) : (if a < 0 then -a else a) = a.natAbs := by
  split <;> omega
section
variable {P : Program} {w : World} {K : PySem.W.Frag} {mg : Str → Option Value} {base : Heap}
theorem c_common_divisor (T : Txt K mg) : Cal P w K mg base 1 "common_divisor" spGcd [] := by
  refine calN T.d_common_divisor sc_common_divisor (fun vs H Q E h => ?_) (fun _ _ _ _ _ _ us hl => match us, hl with | [_, _], _ => rfl) (fun f cdv A outer s H vs Q E hr h => ?_)
  · obtain ⟨a, b, rfl, _⟩ := h
    rfl
  · obtain ⟨a, b, rfl, k⟩ := h
    refine ⟨_, (pss_cons (ps_par (i := 0) (j := 1) (by rfl) sc_common_divisor.nd rfl rfl (by decide) rfl rfl (pa_cons (pe_callB call_abs (by rfl) T.b_abs (by decide +kernel) (pa_cons (pv 0) pa_nil)) (pa_cons (pe_callB call_abs (by rfl) T.b_abs (by decide +kernel) (pa_cons (pv 1) pa_nil)) pa_nil)) (by rfl))
      (pss_cons (ps_while PassesOwn.never (pt_cmpR op_gt (pv 1) pe_int (nomark _)) (pss_one (ps_par (i := 0) (j := 1) (by rfl) sc_common_divisor.nd rfl rfl (by decide) rfl rfl (pa_cons (pv 1) (pa_cons (pe_op op_mod (pv 0) (pv 1)) pa_nil)) (by rfl))))
      (pss_one (ps_ret (pv 0))))), ?_⟩
    walk_at "g"
    rw [abs_eq, abs_eq]
    refine wh (fun σ H' => H' = H ∧ ∃ x y : Int, σ = [some (.int x), some (.int y)] ∧ 0 ≤ x ∧ 0 ≤ y ∧ Int.gcd x y = Int.gcd a b) (fun σ _ => match σ with | [_, some (.int y)] => y.toNat | _ => 0)
      ⟨rfl, (a.natAbs : Int), (b.natAbs : Int), rfl, by omega, by omega, by simp [Int.gcd]⟩ ?_ ?_
    · rintro σ H' ⟨rfl, x, y, rfl, hx, hy, hg⟩
      walk_at "g"
      refine ite2 (fun c => ?_) (fun c => ?_)
      · have hy' : 0 < y := of_decide_eq_true c
        refine ⟨_, fun _ _ h => h, ?_⟩
        walk_at "g"
        refine ⟨hy', _, _, rfl, ⟨rfl, _, _, rfl, hy, Int.emod_nonneg _ (by omega), (gcd_step hy').trans hg⟩, ?_⟩
        show (x % y).toNat < y.toNat
        have := Int.emod_lt_of_pos x hy'
        omega
      · have hy' : ¬ 0 < y := fun z => c (decide_eq_true z)
        have e : y = 0 := by omega
        subst e
        walk_at "g"
        have : x = Int.gcd a b := by rw [← hg, Int.gcd_zero_right]; omega
        rw [this]
        exact k
    · rintro σ H' Q1 Q2 hq ⟨v, hv, i, j, e1, e2, b, e3, z⟩
      exact ⟨v, hv, i, j, e1, e2, b, e3, hq _ _ z⟩
end
end Tr

/-! # What follows from facts (plain): derivations, mechanisms, the quotient. -/
namespace Tr
open PySem L2 TL
/-- an action of the turns -/
structure Mech (per : Str → Int) (X : Type) where
  act : Str → Int → X → X
  zero : ∀ c x, act c 0 x = x
  add : ∀ c d e x, act c e (act c d x) = act c (d + e) x
  pers : ∀ c x, 0 < per c → act c (per c) x = x
section
variable {per : Str → Int} {X : Type} (A : Mech per X)
/-- what leaves x where it is -/
def Mech.fix (c : Str) (x : X) (k : Int) : Prop := A.act c k x = x
theorem Mech.fix_neg {c : Str} {x : X} {k : Int} (h : A.act c k x = x) : A.act c (-k) x = x := by
  have := A.add c k (-k) x
  rw [h, Int.add_right_neg, A.zero] at this
  exact this
theorem Mech.fix_add {c : Str} {x : X} {k l : Int} (h : A.act c k x = x) (h' : A.act c l x = x) : A.act c (k + l) x = x := by rw [← A.add, h, h']
theorem Mech.fix_nat {c : Str} {x : X} {k : Int} (h : A.act c k x = x) : ∀ n : Nat, A.act c ((n : Int) * k) x = x
  | 0 => by rw [Int.natCast_zero, Int.zero_mul, A.zero]
  | n + 1 => by
    rw [show ((n + 1 : Nat) : Int) * k = (n : Int) * k + k by rw [Int.natCast_add, Int.add_mul, Int.natCast_one, Int.one_mul]]
    exact A.fix_add (Mech.fix_nat h n) h
theorem Mech.fix_mul {c : Str} {x : X} {k : Int} (h : A.act c k x = x) (n : Int) : A.act c (n * k) x = x := by
  rcases Int.le_total 0 n with g | g
  · have := A.fix_nat h n.toNat
    rwa [Int.toNat_of_nonneg g] at this
  · have := A.fix_neg (A.fix_nat h (-n).toNat)
    rw [Int.toNat_of_nonneg (by omega), Int.neg_mul, Int.neg_neg] at this
    exact this
theorem Mech.fix_dvd {c : Str} {x : X} {k l : Int} (h : A.act c k x = x) (d : k ∣ l) : A.act c l x = x := by
  obtain ⟨m, rfl⟩ := d
  rw [Int.mul_comm]
  exact A.fix_mul h m
theorem bezout (a b : Int) : ∃ u v : Int, (Int.gcd a b : Int) = u * a + v * b := by
  have key : ∀ (n m : Nat), ∃ u v : Int, (Nat.gcd n m : Int) = u * (n : Int) + v * (m : Int) := by
    intro n
    induction n using Nat.strongRecOn with
    | _ n ih =>
      intro m
      by_cases h : n = 0
      · subst h
        exact ⟨0, 1, by rw [Nat.gcd_zero_left]; omega⟩
      · obtain ⟨u, v, e⟩ := ih (m % n) (Nat.mod_lt _ (by omega)) n
        refine ⟨v - u * ((m / n : Nat) : Int), u, ?_⟩
        rw [Nat.gcd_rec, e]
        have h1 : (m : Int) = (n : Int) * ((m / n : Nat) : Int) + ((m % n : Nat) : Int) := by
          have := Nat.div_add_mod m n
          exact_mod_cast this.symm
        generalize ((m / n : Nat) : Int) = d at *
        generalize ((m % n : Nat) : Int) = r at *
        rw [h1, Int.sub_mul, Int.mul_add, Int.mul_assoc u d, Int.mul_comm d]
        omega
  obtain ⟨u, v, e⟩ := key a.natAbs b.natAbs
  have ha : ∃ s : Int, (a.natAbs : Int) = s * a := by
    rcases Int.natAbs_eq a with h | h
    · exact ⟨1, by omega⟩
    · exact ⟨-1, by omega⟩
  have hb : ∃ s : Int, (b.natAbs : Int) = s * b := by
    rcases Int.natAbs_eq b with h | h
    · exact ⟨1, by omega⟩
    · exact ⟨-1, by omega⟩
  obtain ⟨s, hs⟩ := ha
  obtain ⟨t, ht⟩ := hb
  exact ⟨u * s, v * t, by
    show ((Nat.gcd a.natAbs b.natAbs : Nat) : Int) = _
    rw [e, hs, ht, Int.mul_assoc, Int.mul_assoc]⟩
theorem Mech.fix_gcd {c : Str} {x : X} {k l : Int} (h : A.act c k x = x) (h' : A.act c l x = x) : A.act c (Int.gcd k l : Int) x = x := by
  obtain ⟨u, v, e⟩ := bezout k l
  rw [e]
  exact A.fix_add (A.fix_mul h u) (A.fix_mul h' v)
theorem Mech.mod {c : Str} {x : X} (e : Int) : A.act c (modN per c e) x = A.act c e x := by
  unfold modN
  split
  · rename_i h
    have h1 := A.fix_mul (A.pers c x h) (e / per c)
    have h2 := A.add c (e / per c * per c) (e % per c) x
    rw [h1] at h2
    rw [h2]
    congr 1
    have := Int.mul_ediv_add_emod e (per c)
    rw [Int.mul_comm]
    exact this
  · rfl
/-- a row of steps -/
def Mech.row (x : X) (r : List SI) : X := r.foldl (fun x c => A.act c.1 c.2 x) x
theorem Mech.row_app (x : X) (r s : List SI) : A.row x (r ++ s) = A.row (A.row x r) s := List.foldl_append ..
theorem Mech.row_put (x : X) (N : List SI) (z : Str) (m : Int) : A.row x (putN N z m) = A.act z m (A.row x N) := by
  unfold putN
  split
  · rename_i e
    rw [e, A.zero]
  · rw [A.row_app]
    rfl
theorem Mech.row_step (x : X) {N : List SI} (h : Nf per N) (c : SI) : A.row x (stepN per N c) = A.act c.1 c.2 (A.row x N) := by
  obtain ⟨M, f, h1, h2, h3, rfl⟩ := nf_view h c.1
  obtain ⟨z, e⟩ := c
  rw [step_put e h2, A.row_put, A.row_put, A.mod, A.add, Int.add_comm]
theorem Mech.row_act (x : X) : ∀ {r N : List SI}, Nf per N → A.row x (actN per N r) = A.row (A.row x N) r
  | [], _, _ => rfl
  | c :: r, N, h => by
    show A.row x (actN per (stepN per N c) r) = A.row (A.act c.1 c.2 (A.row x N)) r
    rw [Mech.row_act x (nf_step h c), A.row_step x h]
theorem Mech.row_norm (x : X) (r : List SI) : A.row x (normL per r) = A.row x r := A.row_act x (N := []) trivial
theorem Mech.row_back (x : X) (r : List SI) : A.row (A.row x r) (backL r) = x := by
  induction r generalizing x with
  | nil => rfl
  | cons c r ih =>
    have e : backL (c :: r) = backL r ++ [(c.1, -c.2)] := by rw [show c :: r = [c] ++ r from rfl, backL_app]; rfl
    rw [e, A.row_app]
    show A.act c.1 (-c.2) (A.row (A.row (A.act c.1 c.2 x) r) (backL r)) = x
    rw [ih, A.add, Int.add_right_neg, A.zero]
end
/-- a claim: a place, a row, another place -/
abbrev Clm := Str × List SI × Str
/-- what follows from facts -/
inductive Fo (per : Str → Int) (F : List Clm) : Str → List SI → Str → Prop
  | fact {p : Str} {r : List SI} {q : Str} : (p, r, q) ∈ F → Fo per F p (normL per r) q
  | nil (p : Str) : Fo per F p [] p
  | back {p : Str} {r : List SI} {q : Str} : Fo per F p r q → Fo per F q (normL per (backL r)) p
  | trans {p : Str} {r : List SI} {q : Str} {s : List SI} {t : Str} : Fo per F p r q → Fo per F q s t → Fo per F p (normL per (r ++ s)) t
section
variable {per : Str → Int} {F : List Clm}
/-- facts hold in a mechanism -/
def Holds {X : Type} (A : Mech per X) (x : Str → X) (F : List Clm) : Prop := ∀ p r q, (p, r, q) ∈ F → A.row (x p) r = x q
theorem Fo.holds {X : Type} {A : Mech per X} {x : Str → X} (h : Holds A x F) {p q : Str} {r : List SI} (f : Fo per F p r q) : A.row (x p) r = x q := by
  induction f with
  | fact m => rw [A.row_norm]; exact h _ _ _ m
  | nil p => rfl
  | back _ ih => rw [A.row_norm, ← ih, A.row_back]
  | trans _ _ ih1 ih2 => rw [A.row_norm, A.row_app, ih1, ih2]
theorem Fo.mono {G : List Clm} (s : ∀ c ∈ F, c ∈ G) {p q : Str} {r : List SI} (f : Fo per F p r q) : Fo per G p r q := by
  induction f with
  | fact m => exact .fact (s _ m)
  | nil p => exact .nil p
  | back _ ih => exact .back ih
  | trans _ _ ih1 ih2 => exact .trans ih1 ih2
theorem Fo.nf {p q : Str} {r : List SI} (f : Fo per F p r q) : Nf per r := by
  cases f with
  | fact m => exact nf_norm _
  | nil p => trivial
  | back _ => exact nf_norm _
  | trans _ _ => exact nf_norm _
/-- two states that are told the same -/
def Lk (per : Str → Int) (F : List Clm) (a b : Str × List SI) : Prop := Fo per F a.1 (normL per (a.2 ++ backL b.2)) b.1
theorem norm_can (a b : List SI) : normL per (a ++ (b ++ backL b)) = normL per a := by rw [norm_app, act_back (nf_norm a)]
theorem norm_can' (a b : List SI) : normL per (a ++ (backL b ++ b)) = normL per a := by rw [norm_app, act_back' (nf_norm a)]
theorem norm_mid (a b c : List SI) : normL per (a ++ (b ++ backL b) ++ c) = normL per (a ++ c) := by rw [norm_app, norm_can, ← norm_app]
theorem norm_mid' (a b c : List SI) : normL per (a ++ (backL b ++ b) ++ c) = normL per (a ++ c) := by rw [norm_app, norm_can', ← norm_app]
theorem Lk.refl (a : Str × List SI) : Lk per F a a := by
  unfold Lk
  have := norm_can (per := per) [] a.2
  rw [List.nil_append] at this
  rw [this]
  exact .nil _
theorem Lk.symm {a b : Str × List SI} (h : Lk per F a b) : Lk per F b a := by
  have := Fo.back h
  rw [norm_back, backL_app, backL_back] at this
  exact this
theorem Lk.trans {a b c : Str × List SI} (h : Lk per F a b) (h' : Lk per F b c) : Lk per F a c := by
  have := Fo.trans h h'
  rw [norm_l, norm_r] at this
  have e := norm_mid' (per := per) a.2 b.2 (backL c.2)
  rw [List.append_assoc, List.append_assoc] at e
  rw [List.append_assoc, e] at this
  exact this
theorem Lk.step {a b : Str × List SI} (h : Lk per F a b) (c : Str) (e : Int) : Lk per F (a.1, a.2 ++ [(c, e)]) (b.1, b.2 ++ [(c, e)]) := by
  unfold Lk at *
  dsimp only
  have e1 : backL (b.2 ++ [(c, e)]) = backL [(c, e)] ++ backL b.2 := backL_app _ _
  have e2 := norm_mid (per := per) a.2 [(c, e)] (backL b.2)
  rw [e1, ← List.append_assoc, List.append_assoc a.2, e2]
  exact h
def lkS (per : Str → Int) (F : List Clm) : Setoid (Str × List SI) := ⟨Lk per F, Lk.refl, Lk.symm, Lk.trans⟩
theorem norm_two (a : List SI) (c : Str) (d e : Int) (b : List SI) : normL per (a ++ [(c, d)] ++ [(c, e)] ++ b) = normL per (a ++ [(c, d + e)] ++ b) := by
  have key : normL per (a ++ [(c, d)] ++ [(c, e)]) = normL per (a ++ [(c, d + e)]) := by
    rw [norm_app, norm_app, norm_app]
    exact step_step (nf_norm a) c d e
  rw [norm_app, key, ← norm_app]
theorem norm_zero (a : List SI) (c : Str) (b : List SI) : normL per (a ++ [(c, 0)] ++ b) = normL per (a ++ b) := by
  have key : normL per (a ++ [(c, 0)]) = normL per a := by
    rw [norm_app]
    exact step_zero (nf_norm a) c
  rw [norm_app, key, ← norm_app]
theorem norm_per (a : List SI) (c : Str) (b : List SI) (h : 0 < per c) : normL per (a ++ [(c, per c)] ++ b) = normL per (a ++ b) := by
  have key : normL per (a ++ [(c, per c)]) = normL per a := by
    rw [norm_app]
    have h1 := step_mod (normL per a) c (per c) (nf_norm a)
    have h2 : modN per c (per c) = 0 := by
      unfold modN
      rw [if_pos h, Int.emod_self]
    rw [h2, step_zero (nf_norm a)] at h1
    exact h1.symm
  rw [norm_app, key, ← norm_app]
theorem Lk.of {p : Str} {w v : List SI} (e : ∀ b, normL per (w ++ b) = normL per (v ++ b)) : Lk per F (p, w) (p, v) := by
  unfold Lk
  dsimp only
  rw [e]
  have := norm_can (per := per) [] v
  rw [List.nil_append] at this
  rw [this]
  exact .nil _
/-- the mechanism of all that is told -/
def freeM (per : Str → Int) (F : List Clm) : Mech per (Quotient (lkS per F)) where
  act c e := Quotient.lift (fun a => Quotient.mk (lkS per F) (a.1, a.2 ++ [(c, e)])) fun _ _ h => Quotient.sound (s := lkS per F) (Lk.step h c e)
  zero c x := by
    induction x using Quotient.inductionOn with
    | _ a => exact Quotient.sound (s := lkS per F) (Lk.of (w := a.2 ++ [(c, 0)]) (v := a.2) fun b => norm_zero a.2 c b)
  add c d e x := by
    induction x using Quotient.inductionOn with
    | _ a => exact Quotient.sound (s := lkS per F) (Lk.of (w := a.2 ++ [(c, d)] ++ [(c, e)]) (v := a.2 ++ [(c, d + e)]) fun b => norm_two a.2 c d e b)
  pers c x h := by
    induction x using Quotient.inductionOn with
    | _ a => exact Quotient.sound (s := lkS per F) (Lk.of (w := a.2 ++ [(c, per c)]) (v := a.2) fun b => norm_per a.2 c b h)
def freeX (per : Str → Int) (F : List Clm) (p : Str) : Quotient (lkS per F) := Quotient.mk _ (p, [])
theorem free_row (p : Str) (w r : List SI) : (freeM per F).row (Quotient.mk (lkS per F) (p, w)) r = Quotient.mk (lkS per F) (p, w ++ r) := by
  induction r generalizing w with
  | nil => rw [List.append_nil]; rfl
  | cons c r ih =>
    have : (freeM per F).row (Quotient.mk (lkS per F) (p, w)) (c :: r) = (freeM per F).row (Quotient.mk (lkS per F) (p, w ++ [c])) r := rfl
    rw [this, ih, List.append_assoc]
    rfl
theorem free_iff {p q : Str} {r : List SI} : (freeM per F).row (freeX per F p) r = freeX per F q ↔ Fo per F p (normL per r) q := by
  unfold freeX
  rw [free_row, List.nil_append]
  constructor
  · intro h
    have := Quotient.exact (s := lkS per F) h
    have : Fo per F p (normL per (r ++ backL [])) q := this
    rw [show backL [] = [] from rfl, List.append_nil] at this
    exact this
  · intro h
    refine Quotient.sound (s := lkS per F) ?_
    show Fo per F p (normL per (r ++ backL [])) q
    rw [show backL [] = [] from rfl, List.append_nil]
    exact h
theorem free_holds : Holds (freeM per F) (freeX per F) F := fun p r q m => free_iff.mpr (.fact m)
end
end Tr

/-! # The map of a book (plain): rings, spots, what is done to them. -/
namespace Tr
open PySem L2 TL
structure Rg where
  num : Nat
  turn : Str
  mod : Int
  seats : List (Nat × Int)
structure RM where
  rings : List Rg
  spots : List Nat
  ly : Nat → Str → List (Nat × Int)
  laid : Nat
  drawn : Nat
  pl : Str → Nat
namespace RM
def ring? (M : RM) (n : Nat) : Option Rg := M.rings.find? fun r => decide (r.num = n)
def md (M : RM) (n : Nat) : Int := ((M.ring? n).map (·.mod)).getD 0
def sts (M : RM) (n : Nat) : List (Nat × Int) := ((M.ring? n).map (·.seats)).getD []
def on (M : RM) (c : Str) (s n : Nat) (p : Int) : Prop := (n, p) ∈ M.ly s c
def mapR (n : Nat) (f : Rg → Rg) (l : List Rg) : List Rg := l.map fun r => if r.num = n then f r else r
def seat (M : RM) (s n : Nat) (c : Str) (p : Int) : RM :=
  { M with rings := mapR n (fun r => { r with seats := r.seats ++ [(s, p)] }) M.rings, ly := fun s' c' => if s' = s ∧ c' = c then M.ly s' c' ++ [(n, p)] else M.ly s' c' }
def unseat (M : RM) (s n : Nat) (c : Str) : RM :=
  { M with rings := mapR n (fun r => { r with seats := r.seats.filter fun x => decide (x.1 ≠ s) }) M.rings, ly := fun s' c' => if s' = s ∧ c' = c then (M.ly s' c').filter (fun x => decide (x.1 ≠ n)) else M.ly s' c' }
def drop (M : RM) (n : Nat) : RM := { M with rings := M.rings.filter fun r => decide (r.num ≠ n) }
def setMod (M : RM) (n : Nat) (m : Int) : RM := { M with rings := mapR n (fun r => { r with mod := m }) M.rings }
/-- one more ring, with the new spot alone -/
def newRing (M : RM) (s : Nat) (c : Str) (m : Int) : RM :=
  { M with rings := M.rings ++ [⟨M.drawn, c, m, [(s, 0)]⟩], drawn := M.drawn + 1, ly := fun s' c' => if s' = s ∧ c' = c then [(M.drawn, 0)] else M.ly s' c' }
def newSpot (M : RM) (NS : List Str) (per : Str → Int) : RM :=
  NS.foldl (fun N c => N.newRing M.laid c (per c)) { M with spots := M.spots ++ [M.laid], laid := M.laid + 1, ly := fun s c => if s = M.laid then [] else M.ly s c }
end RM
/-- what stands all the time -/
structure WF0 (NS : List Str) (per : Str → Int) (M : RM) : Prop where
  nd : (M.rings.map (·.num)).Nodup
  nb : ∀ r ∈ M.rings, r.num < M.drawn
  sd : M.spots.Nodup
  sb : ∀ s ∈ M.spots, s < M.laid
  ln : ∀ s c n p, (n, p) ∈ M.ly s c → s ∈ M.spots ∧ c ∈ NS ∧ ∃ r ∈ M.rings, r.num = n ∧ r.turn = c
  st : ∀ r ∈ M.rings, ∀ s, (r.seats.filter fun x => decide (x.1 = s)).map (·.2) = ((M.ly s r.turn).filter fun x => decide (x.1 = r.num)).map (·.2)
  md : ∀ r ∈ M.rings, r.turn ∈ NS ∧ 0 ≤ r.mod ∧ r.mod ∣ per r.turn
section
variable {NS : List Str} {per : Str → Int} {M : RM}
theorem find_num {n : Nat} {r : Rg} : ∀ {l : List Rg}, (l.map (·.num)).Nodup → r ∈ l → r.num = n → l.find? (fun r => decide (r.num = n)) = some r
  | [], _, h, _ => by cases h
  | b :: l, nd, h, e => by
    obtain ⟨n1, n2⟩ := List.nodup_cons.mp nd
    rcases List.mem_cons.mp h with rfl | h
    · rw [List.find?_cons, decide_eq_true e]
    · have : b.num ≠ n := fun q => n1 (by
        show b.num ∈ l.map (·.num)
        rw [q, ← e]
        exact List.mem_map.mpr ⟨r, h, rfl⟩)
      rw [List.find?_cons, decide_eq_false this]
      exact find_num n2 h e
theorem WF0.ring (w : WF0 NS per M) {r : Rg} (h : r ∈ M.rings) : M.ring? r.num = some r := find_num w.nd h rfl
theorem ring_mem {n : Nat} {r : Rg} (h : M.ring? n = some r) : r ∈ M.rings ∧ r.num = n :=
  ⟨List.mem_of_find?_eq_some h, of_decide_eq_true (List.find?_some (p := fun r : Rg => decide (r.num = n)) h)⟩
theorem WF0.on_ring (w : WF0 NS per M) {c : Str} {s n : Nat} {p : Int} (h : M.on c s n p) : ∃ r, M.ring? n = some r ∧ r.turn = c ∧ s ∈ M.spots ∧ c ∈ NS := by
  obtain ⟨a, b, r, h1, rfl, h3⟩ := w.ln s c n p h
  exact ⟨r, w.ring h1, h3, a, b⟩
theorem WF0.seat_iff (w : WF0 NS per M) {r : Rg} (h : r ∈ M.rings) {s : Nat} {p : Int} : (s, p) ∈ r.seats ↔ M.on r.turn s r.num p := by
  have e := w.st r h s
  constructor
  · intro q
    have : p ∈ (r.seats.filter fun x => decide (x.1 = s)).map (·.2) := List.mem_map.mpr ⟨(s, p), List.mem_filter.mpr ⟨q, decide_eq_true rfl⟩, rfl⟩
    rw [e] at this
    obtain ⟨⟨a, b⟩, h1, rfl⟩ := List.mem_map.mp this
    obtain ⟨h2, h3⟩ := List.mem_filter.mp h1
    have h3 : a = r.num := of_decide_eq_true h3
    subst h3
    exact h2
  · intro q
    have : p ∈ ((M.ly s r.turn).filter fun x => decide (x.1 = r.num)).map (·.2) := List.mem_map.mpr ⟨(r.num, p), List.mem_filter.mpr ⟨q, decide_eq_true rfl⟩, rfl⟩
    rw [← e] at this
    obtain ⟨⟨a, b⟩, h1, rfl⟩ := List.mem_map.mp this
    obtain ⟨h2, h3⟩ := List.mem_filter.mp h1
    have h3 : a = s := of_decide_eq_true h3
    subst h3
    exact h2
theorem WF0.ring_eq (w : WF0 NS per M) {r r' : Rg} (h : r ∈ M.rings) (h' : r' ∈ M.rings) (e : r.num = r'.num) : r = r' := by
  have h1 := w.ring h
  rw [e, w.ring h'] at h1
  exact (Option.some.inj h1).symm
theorem mapR_nums (n : Nat) (f : Rg → Rg) (hf : ∀ r, (f r).num = r.num) (l : List Rg) : (RM.mapR n f l).map (·.num) = l.map (·.num) := by
  unfold RM.mapR
  rw [List.map_map]
  refine List.map_congr_left fun r _ => ?_
  show (if r.num = n then f r else r).num = r.num
  split
  · exact hf r
  · rfl
theorem mem_mapR {n : Nat} {f : Rg → Rg} {l : List Rg} {r' : Rg} : r' ∈ RM.mapR n f l ↔ ∃ r ∈ l, r' = if r.num = n then f r else r := by
  unfold RM.mapR
  rw [List.mem_map]
  exact ⟨fun ⟨r, h, e⟩ => ⟨r, h, e.symm⟩, fun ⟨r, h, e⟩ => ⟨r, h, e.symm⟩⟩
/-- a ring changed, and one entry of where spots lie -/
theorem WF0.chg (w : WF0 NS per M) {n : Nat} {f : Rg → Rg} (hf : ∀ r, (f r).num = r.num ∧ (f r).turn = r.turn) (ly' : Nat → Str → List (Nat × Int))
    (hl : ∀ s c n' p, (n', p) ∈ ly' s c → s ∈ M.spots ∧ c ∈ NS ∧ ∃ r ∈ M.rings, r.num = n' ∧ r.turn = c)
    (hs : ∀ r ∈ M.rings, ∀ s, ((if r.num = n then f r else r).seats.filter fun x => decide (x.1 = s)).map (·.2) = ((ly' s r.turn).filter fun x => decide (x.1 = r.num)).map (·.2))
    (hm : ∀ r ∈ M.rings, r.num = n → 0 ≤ (f r).mod ∧ (f r).mod ∣ per r.turn) : WF0 NS per { M with rings := RM.mapR n f M.rings, ly := ly' } := by
  have hn : ∀ r : Rg, (if r.num = n then f r else r).num = r.num ∧ (if r.num = n then f r else r).turn = r.turn := fun r => by
    split
    · exact hf r
    · exact ⟨rfl, rfl⟩
  refine ⟨?_, ?_, w.sd, w.sb, ?_, ?_, ?_⟩
  · show ((RM.mapR n f M.rings).map (·.num)).Nodup
    rw [mapR_nums n f fun r => (hf r).1]
    exact w.nd
  · intro r' h
    obtain ⟨r, h1, rfl⟩ := mem_mapR.mp h
    rw [(hn r).1]
    exact w.nb r h1
  · intro s c n' p h
    obtain ⟨a, b, r, h1, h2, h3⟩ := hl s c n' p h
    exact ⟨a, b, _, mem_mapR.mpr ⟨r, h1, rfl⟩, (hn r).1.trans h2, (hn r).2.trans h3⟩
  · intro r' h s
    obtain ⟨r, h1, rfl⟩ := mem_mapR.mp h
    rw [(hn r).1, (hn r).2]
    exact hs r h1 s
  · intro r' h
    obtain ⟨r, h1, rfl⟩ := mem_mapR.mp h
    rw [(hn r).2]
    obtain ⟨a, b, d⟩ := w.md r h1
    refine ⟨a, ?_⟩
    split
    · rename_i e
      exact hm r h1 e
    · exact ⟨b, d⟩
theorem WF0.seat (w : WF0 NS per M) {s n : Nat} {c : Str} {p : Int} (hs : s ∈ M.spots) (hc : c ∈ NS) {r0 : Rg} (hr : M.ring? n = some r0) (ht : r0.turn = c) : WF0 NS per (M.seat s n c p) := by
  obtain ⟨h0, e0⟩ := ring_mem hr
  refine w.chg (f := fun r => { r with seats := r.seats ++ [(s, p)] }) (fun _ => ⟨rfl, rfl⟩) _ ?_ ?_ fun r h _ => (w.md r h).2
  · intro s' c' n' p' h
    split at h
    · rename_i e
      obtain ⟨rfl, rfl⟩ := e
      rcases List.mem_append.mp h with h | h
      · exact w.ln _ _ _ _ h
      · cases List.mem_singleton.mp h
        exact ⟨hs, hc, r0, h0, e0, ht⟩
    · exact w.ln _ _ _ _ h
  · intro r h s'
    have e := w.st r h s'
    by_cases hn : r.num = n
    · have : r = r0 := w.ring_eq h h0 (hn.trans e0.symm)
      subst this
      rw [if_pos hn, List.filter_append, List.map_append, e]
      by_cases h1 : s' = s
      · rw [if_pos ⟨h1, ht⟩, List.filter_append, List.map_append, List.filter_cons, List.filter_cons, if_pos (decide_eq_true h1.symm), if_pos (decide_eq_true hn.symm)]
        rfl
      · rw [if_neg (fun q => h1 q.1), List.filter_cons, if_neg (by rw [decide_eq_true_eq]; exact fun q => h1 q.symm)]
        simp
    · rw [if_neg hn, e]
      by_cases h1 : s' = s ∧ r.turn = c
      · rw [if_pos h1, List.filter_append, List.filter_cons, if_neg (by rw [decide_eq_true_eq]; exact fun q => hn q.symm)]
        simp
      · rw [if_neg h1]
theorem WF0.unseat (w : WF0 NS per M) {s n : Nat} {c : Str} {r0 : Rg} (hr : M.ring? n = some r0) (ht : r0.turn = c) : WF0 NS per (M.unseat s n c) := by
  obtain ⟨h0, e0⟩ := ring_mem hr
  refine w.chg (f := fun r => { r with seats := r.seats.filter fun x => decide (x.1 ≠ s) }) (fun _ => ⟨rfl, rfl⟩) _ ?_ ?_ fun r h _ => (w.md r h).2
  · intro s' c' n' p' h
    split at h
    · exact w.ln _ _ _ _ (List.mem_filter.mp h).1
    · exact w.ln _ _ _ _ h
  · intro r h s'
    have e := w.st r h s'
    by_cases hn : r.num = n
    · have : r = r0 := w.ring_eq h h0 (hn.trans e0.symm)
      subst this
      rw [if_pos hn]
      dsimp only
      rw [List.filter_filter]
      by_cases h1 : s' = s
      · subst h1
        rw [if_pos ⟨rfl, ht⟩, List.filter_filter]
        have e1 : (r.seats.filter fun a => decide (a.1 = s') && decide (a.1 ≠ s')) = [] := List.filter_eq_nil_iff.mpr fun x _ q => by
          rw [Bool.and_eq_true, decide_eq_true_eq, decide_eq_true_eq] at q
          exact q.2 q.1
        have e2 : ((M.ly s' r.turn).filter fun a => decide (a.1 = r.num) && decide (a.1 ≠ n)) = [] := List.filter_eq_nil_iff.mpr fun x _ q => by
          rw [Bool.and_eq_true, decide_eq_true_eq, decide_eq_true_eq] at q
          exact q.2 (q.1.trans hn)
        rw [e1, e2]
      · rw [if_neg (fun q => h1 q.1), ← e]
        congr 1
        refine List.filter_congr fun x _ => ?_
        rw [Bool.eq_iff_iff, Bool.and_eq_true, decide_eq_true_eq, decide_eq_true_eq]
        exact ⟨fun q => q.1, fun q => ⟨q, fun z => h1 (q.symm.trans z)⟩⟩
    · rw [if_neg hn, e]
      by_cases h1 : s' = s ∧ r.turn = c
      · rw [if_pos h1, List.filter_filter]
        congr 1
        refine List.filter_congr fun x _ => ?_
        rw [Bool.eq_iff_iff, Bool.and_eq_true, decide_eq_true_eq, decide_eq_true_eq]
        exact ⟨fun q => ⟨q, fun z => hn (q.symm.trans z)⟩, fun q => q.1⟩
      · rw [if_neg h1]
theorem WF0.setMod (w : WF0 NS per M) {n : Nat} {m : Int} (h0 : 0 ≤ m) (hm : ∀ r ∈ M.rings, r.num = n → m ∣ per r.turn) : WF0 NS per (M.setMod n m) := by
  refine w.chg (f := fun r => { r with mod := m }) (fun _ => ⟨rfl, rfl⟩) M.ly w.ln ?_ fun r h e => ⟨h0, hm r h e⟩
  intro r h s
  split
  · exact w.st r h s
  · exact w.st r h s
theorem WF0.drop (w : WF0 NS per M) {n : Nat} (hn : ∀ s c p, ¬ M.on c s n p) : WF0 NS per (M.drop n) := by
  refine ⟨?_, fun r h => w.nb r (List.mem_filter.mp h).1, w.sd, w.sb, ?_, fun r h => w.st r (List.mem_filter.mp h).1, fun r h => w.md r (List.mem_filter.mp h).1⟩
  · have := w.nd
    rw [List.nodup_iff_pairwise_ne, List.pairwise_map] at this ⊢
    exact this.filter _
  · intro s c n' p h
    obtain ⟨a, b, r, h1, h2, h3⟩ := w.ln s c n' p h
    refine ⟨a, b, r, List.mem_filter.mpr ⟨h1, decide_eq_true fun e => ?_⟩, h2, h3⟩
    rw [h2] at e
    subst e
    exact hn s c p h
theorem WF0.newRing (w : WF0 NS per M) {s : Nat} {c : Str} (hs : s ∈ M.spots) (hc : c ∈ NS) (hp : 0 ≤ per c) (he : M.ly s c = []) : WF0 NS per (M.newRing s c (per c)) := by
  refine ⟨?_, ?_, w.sd, w.sb, ?_, ?_, ?_⟩
  · show ((M.rings ++ [(⟨M.drawn, c, per c, [(s, 0)]⟩ : Rg)]).map (·.num)).Nodup
    rw [List.map_append, List.nodup_append]
    refine ⟨w.nd, List.nodup_cons.mpr ⟨List.not_mem_nil, List.nodup_nil⟩, fun a ha b hb e => ?_⟩
    obtain ⟨r, h1, rfl⟩ := List.mem_map.mp ha
    have := w.nb r h1
    rw [List.map_singleton, List.mem_singleton] at hb
    have hb : b = M.drawn := hb
    omega
  · intro r h
    show r.num < M.drawn + 1
    rcases List.mem_append.mp h with h | h
    · have := w.nb r h
      omega
    · rw [List.mem_singleton.mp h]
      exact Nat.lt_succ_self _
  · intro s' c' n p h
    have g : (n, p) ∈ (if s' = s ∧ c' = c then [(M.drawn, (0 : Int))] else M.ly s' c') := h
    clear h
    split at g
    · rename_i e
      obtain ⟨rfl, rfl⟩ := e
      cases List.mem_singleton.mp g
      exact ⟨hs, hc, _, List.mem_append.mpr (.inr List.mem_cons_self), rfl, rfl⟩
    · obtain ⟨a, b, r, h1, h2⟩ := w.ln _ _ _ _ g
      exact ⟨a, b, r, List.mem_append.mpr (.inl h1), h2⟩
  · intro r h s'
    show _ = ((if s' = s ∧ r.turn = c then [(M.drawn, (0 : Int))] else M.ly s' r.turn).filter fun x => decide (x.1 = r.num)).map (·.2)
    rcases List.mem_append.mp h with h | h
    · have hb := w.nb r h
      rw [w.st r h s']
      by_cases e : s' = s ∧ r.turn = c
      · rw [if_pos e, e.1, e.2, he, List.filter_cons, if_neg (by rw [decide_eq_true_eq]; show M.drawn ≠ r.num; omega)]
      · rw [if_neg e]
    · rw [List.mem_singleton.mp h]
      dsimp only
      by_cases e : s' = s
      · rw [if_pos ⟨e, rfl⟩, List.filter_cons, List.filter_cons, if_pos (decide_eq_true e.symm), if_pos (decide_eq_true rfl)]
        rfl
      · rw [if_neg (fun q => e q.1), List.filter_cons, if_neg (by rw [decide_eq_true_eq]; exact fun q => e q.symm)]
        have : ((M.ly s' c).filter fun x => decide (x.1 = M.drawn)) = [] := List.filter_eq_nil_iff.mpr fun x hx q => by
          obtain ⟨a, b⟩ := x
          obtain ⟨_, _, r, h1, h2, _⟩ := w.ln s' c a b hx
          have := w.nb r h1
          have q : a = M.drawn := of_decide_eq_true q
          omega
        rw [this]
        rfl
  · intro r h
    rcases List.mem_append.mp h with h | h
    · exact w.md r h
    · rw [List.mem_singleton.mp h]
      exact ⟨hc, hp, Int.dvd_refl _⟩
end
end Tr

/-! # The map of a book (plain): spots joined, rings joined, positions lessened, spots laid. -/
namespace Tr
open PySem L2 TL
section
variable {NS : List Str} {per : Str → Int} {M : RM}
theorem ring_mapR {n n' : Nat} {f : Rg → Rg} (hf : ∀ r, (f r).num = r.num) (l : List Rg) : (RM.mapR n f l).find? (fun r => decide (r.num = n')) = (l.find? fun r => decide (r.num = n')).map fun r => if r.num = n then f r else r := by
  induction l with
  | nil => rfl
  | cons b l ih =>
    have e : (if b.num = n then f b else b).num = b.num := by
      split
      · exact hf b
      · rfl
    show ((if b.num = n then f b else b) :: RM.mapR n f l).find? _ = _
    rw [List.find?_cons, List.find?_cons, e]
    cases decide (b.num = n') with
    | true => rfl
    | false => exact ih
namespace RM
theorem ring_seat (s n n' : Nat) (c : Str) (p : Int) : (M.seat s n c p).ring? n' = (M.ring? n').map fun r => if r.num = n then { r with seats := r.seats ++ [(s, p)] } else r := ring_mapR (f := fun r => { r with seats := r.seats ++ [(s, p)] }) (fun _ => rfl) _
theorem ring_unseat (s n n' : Nat) (c : Str) : (M.unseat s n c).ring? n' = (M.ring? n').map fun r => if r.num = n then { r with seats := r.seats.filter fun x => decide (x.1 ≠ s) } else r := ring_mapR (f := fun r => { r with seats := r.seats.filter fun x => decide (x.1 ≠ s) }) (fun _ => rfl) _
theorem ring_setMod (n n' : Nat) (m : Int) : (M.setMod n m).ring? n' = (M.ring? n').map fun r => if r.num = n then { r with mod := m } else r := ring_mapR (f := fun r => { r with mod := m }) (fun _ => rfl) _
theorem ring_drop (n n' : Nat) (h : n' ≠ n) : (M.drop n).ring? n' = M.ring? n' := by
  unfold drop ring?
  show (M.rings.filter _).find? _ = _
  rw [List.find?_filter]
  congr 1
  funext r
  rw [Bool.eq_iff_iff, decide_eq_true_eq, decide_eq_true_eq, decide_eq_true_eq]
  exact ⟨fun q => q.2, fun q => ⟨fun z => h (q.symm.trans z), q⟩⟩
theorem md_seat (s n n' : Nat) (c : Str) (p : Int) : (M.seat s n c p).md n' = M.md n' := by
  unfold md
  rw [ring_seat]
  cases M.ring? n' with
  | none => rfl
  | some r =>
    show (if r.num = n then _ else r : Rg).mod = r.mod
    split <;> rfl
theorem md_unseat (s n n' : Nat) (c : Str) : (M.unseat s n c).md n' = M.md n' := by
  unfold md
  rw [ring_unseat]
  cases M.ring? n' with
  | none => rfl
  | some r =>
    show (if r.num = n then _ else r : Rg).mod = r.mod
    split <;> rfl
theorem md_drop (n n' : Nat) (h : n' ≠ n) : (M.drop n).md n' = M.md n' := by
  unfold md
  rw [ring_drop _ _ h]
theorem md_setMod {n : Nat} {m : Int} {r0 : Rg} (h : M.ring? n = some r0) (n' : Nat) : (M.setMod n m).md n' = if n' = n then m else M.md n' := by
  unfold md
  rw [ring_setMod]
  by_cases e : n' = n
  · rw [if_pos e, e, h]
    show (if r0.num = n then _ else r0 : Rg).mod = m
    rw [if_pos (ring_mem h).2]
  · rw [if_neg e]
    cases hr : M.ring? n' with
    | none => rfl
    | some r =>
      show (if r.num = n then _ else r : Rg).mod = r.mod
      rw [if_neg (fun q => e ((ring_mem hr).2.symm.trans q))]
theorem turn_seat {s n n' : Nat} {c : Str} {p : Int} {r : Rg} (h : (M.seat s n c p).ring? n' = some r) : ∃ r0, M.ring? n' = some r0 ∧ r0.turn = r.turn ∧ r0.mod = r.mod := by
  rw [ring_seat] at h
  obtain ⟨r0, h0, rfl⟩ := Option.map_eq_some_iff.mp h
  refine ⟨r0, h0, ?_⟩
  split <;> exact ⟨rfl, rfl⟩
/-- the seats of one spot on rings of a turn go over to another one -/
def jsL (M : RM) (s g : Nat) (c : Str) (L : List (Nat × Int)) : RM := L.foldl (fun N x => (N.unseat g x.1 c).seat s x.1 c x.2) M
def jsC (M : RM) (s g : Nat) (c : Str) : RM := M.jsL s g c (M.ly g c)
def jsA (M : RM) (NS : List Str) (s g : Nat) : RM := NS.foldl (fun N c => N.jsC s g c) M
/-- two spots made one -/
def joinSpots (M : RM) (NS : List Str) (s g : Nat) : RM :=
  let N := M.jsA NS s g
  { N with spots := N.spots.erase g, pl := fun p => if N.pl p = g then s else N.pl p }
/-- the seats of a ring go over to another one -/
def jrS (M : RM) (n : Nat) (c : Str) (off : Int) (L : List (Nat × Int)) : RM := L.foldl (fun N x => N.seat x.1 n c (x.2 + off)) M
def jrU (M : RM) (g : Nat) (c : Str) (L : List (Nat × Int)) : RM := L.foldl (fun N x => N.unseat x.1 g c) M
/-- two rings made one -/
def joinRings (M : RM) (n g : Nat) (c : Str) (off : Int) : RM :=
  (((M.setMod n (Int.gcd (M.md n) (M.md g) : Nat)).jrS n c off (M.sts g)).jrU g c (M.sts g)).drop g
def gcds (m first : Int) (L : List Int) : Int := L.foldl (fun m p => (Int.gcd m (p - first) : Nat)) m
/-- a spot left at one position of a ring -/
def lessen (M : RM) (s n : Nat) (c : Str) (first : Int) (L : List Int) : RM :=
  ((M.setMod n (gcds (M.md n) first L)).unseat s n c).seat s n c first
end RM
/-- what a step leaves as it was -/
structure Lk2 (M N : RM) : Prop where
  spots : N.spots = M.spots
  laid : N.laid = M.laid
  drawn : N.drawn = M.drawn
  pl : N.pl = M.pl
  tn : ∀ n, (N.ring? n).map (·.turn) = (M.ring? n).map (·.turn)
  md : ∀ n, N.md n = M.md n
  len : N.rings.length = M.rings.length
theorem Lk2.refl : Lk2 M M := ⟨rfl, rfl, rfl, rfl, fun _ => rfl, fun _ => rfl, rfl⟩
theorem Lk2.trans {N K : RM} (a : Lk2 M N) (b : Lk2 N K) : Lk2 M K :=
  ⟨b.spots.trans a.spots, b.laid.trans a.laid, b.drawn.trans a.drawn, b.pl.trans a.pl, fun n => (b.tn n).trans (a.tn n), fun n => (b.md n).trans (a.md n), b.len.trans a.len⟩
theorem Lk2.ring {N : RM} (a : Lk2 M N) {n : Nat} {r : Rg} (h : M.ring? n = some r) : ∃ r', N.ring? n = some r' ∧ r'.turn = r.turn := by
  have := a.tn n
  rw [h] at this
  exact Option.map_eq_some_iff.mp this
theorem Lk2.seat (s n : Nat) (c : Str) (p : Int) : Lk2 M (M.seat s n c p) :=
  ⟨rfl, rfl, rfl, rfl, fun n' => by
    rw [RM.ring_seat]
    cases M.ring? n' with
    | none => rfl
    | some r =>
      show some (if r.num = n then _ else r : Rg).turn = some r.turn
      split <;> rfl, fun n' => RM.md_seat s n n' c p, List.length_map ..⟩
theorem Lk2.unseat (s n : Nat) (c : Str) : Lk2 M (M.unseat s n c) :=
  ⟨rfl, rfl, rfl, rfl, fun n' => by
    rw [RM.ring_unseat]
    cases M.ring? n' with
    | none => rfl
    | some r =>
      show some (if r.num = n then _ else r : Rg).turn = some r.turn
      split <;> rfl, fun n' => RM.md_unseat s n n' c, List.length_map ..⟩
theorem ly_seat (s n : Nat) (c : Str) (p : Int) (t : Nat) (d : Str) : (M.seat s n c p).ly t d = if t = s ∧ d = c then M.ly t d ++ [(n, p)] else M.ly t d := rfl
theorem ly_unseat (s n : Nat) (c : Str) (t : Nat) (d : Str) : (M.unseat s n c).ly t d = if t = s ∧ d = c then (M.ly t d).filter (fun x => decide (x.1 ≠ n)) else M.ly t d := rfl
/-! spots joined -/
theorem jsL_ok {s g : Nat} {c : Str} (hc : c ∈ NS) : ∀ {L : List (Nat × Int)} {M : RM}, WF0 NS per M → s ∈ M.spots → (∀ x ∈ L, ∃ r, M.ring? x.1 = some r ∧ r.turn = c) → WF0 NS per (M.jsL s g c L) ∧ Lk2 M (M.jsL s g c L)
  | [], M, w, _, _ => ⟨w, Lk2.refl⟩
  | x :: L, M, w, hs, h => by
    obtain ⟨r, hr, ht⟩ := h x List.mem_cons_self
    have w1 := w.unseat (s := g) hr ht
    have l1 : Lk2 M (M.unseat g x.1 c) := Lk2.unseat g x.1 c
    obtain ⟨r1, hr1, ht1⟩ := l1.ring hr
    have w2 := w1.seat (s := s) (p := x.2) hs hc hr1 (ht1.trans ht)
    have l2 := l1.trans (Lk2.seat (M := M.unseat g x.1 c) s x.1 c x.2)
    obtain ⟨a, b⟩ := jsL_ok (s := s) (g := g) hc (L := L) w2 hs fun y hy => by
      obtain ⟨r, hr, ht⟩ := h y (List.mem_cons_of_mem _ hy)
      obtain ⟨r', hr', ht'⟩ := l2.ring hr
      exact ⟨r', hr', ht'.trans ht⟩
    exact ⟨a, l2.trans b⟩
theorem jsL_ly {s g : Nat} {c : Str} (ne : s ≠ g) : ∀ {L : List (Nat × Int)} {M : RM} (t : Nat) (d : Str), (M.jsL s g c L).ly t d = if d = c then (if t = s then M.ly s c ++ L else if t = g then (M.ly g c).filter (fun x => decide (x.1 ∉ L.map (·.1))) else M.ly t c) else M.ly t d
  | [], M, t, d => by
    show M.ly t d = _
    by_cases hd : d = c
    · subst hd
      rw [if_pos rfl, List.append_nil]
      by_cases h1 : t = s
      · rw [if_pos h1, h1]
      · rw [if_neg h1]
        by_cases h2 : t = g
        · rw [if_pos h2, h2]
          refine (List.filter_eq_self.mpr fun x _ => ?_).symm
          exact decide_eq_true List.not_mem_nil
        · rw [if_neg h2]
    · rw [if_neg hd]
  | x :: L, M, t, d => by
    show (((M.unseat g x.1 c).seat s x.1 c x.2).jsL s g c L).ly t d = _
    rw [jsL_ly ne]
    have e1 : ((M.unseat g x.1 c).seat s x.1 c x.2).ly s c = M.ly s c ++ [x] := by
      rw [ly_seat, if_pos ⟨rfl, rfl⟩, ly_unseat, if_neg (fun q => ne q.1)]
    have e2 : ((M.unseat g x.1 c).seat s x.1 c x.2).ly g c = (M.ly g c).filter (fun y => decide (y.1 ≠ x.1)) := by
      rw [ly_seat, if_neg (fun q => ne q.1.symm), ly_unseat, if_pos ⟨rfl, rfl⟩]
    by_cases hd : d = c
    · subst hd
      rw [if_pos rfl, if_pos rfl, e1, e2, List.append_assoc, List.filter_filter]
      by_cases h1 : t = s
      · rw [if_pos h1, if_pos h1]
        rfl
      · rw [if_neg h1, if_neg h1]
        by_cases h2 : t = g
        · rw [if_pos h2, if_pos h2]
          refine List.filter_congr fun y _ => ?_
          rw [Bool.eq_iff_iff, Bool.and_eq_true, decide_eq_true_eq, decide_eq_true_eq, decide_eq_true_eq, List.map_cons, List.mem_cons, not_or]
          exact ⟨fun q => ⟨q.2, q.1⟩, fun q => ⟨q.2, q.1⟩⟩
        · rw [if_neg h2, if_neg h2, ly_seat, if_neg (fun q => h1 q.1), ly_unseat, if_neg (fun q => h2 q.1)]
    · rw [if_neg hd, if_neg hd, ly_seat, if_neg (fun q => hd q.2), ly_unseat, if_neg (fun q => hd q.2)]
theorem jsC_ly {s g : Nat} {c : Str} (ne : s ≠ g) (t : Nat) (d : Str) : (M.jsC s g c).ly t d = if d = c then (if t = s then M.ly s c ++ M.ly g c else if t = g then [] else M.ly t c) else M.ly t d := by
  unfold RM.jsC
  rw [jsL_ly ne]
  have e : ((M.ly g c).filter fun x => decide (x.1 ∉ (M.ly g c).map (·.1))) = [] := List.filter_eq_nil_iff.mpr fun x hx q => (of_decide_eq_true q) (List.mem_map.mpr ⟨x, hx, rfl⟩)
  rw [e]
theorem jsA_ok {s g : Nat} (ne : s ≠ g) : ∀ {L : List Str} {M : RM}, (∀ c ∈ L, c ∈ NS) → L.Nodup → WF0 NS per M → s ∈ M.spots → WF0 NS per (M.jsA L s g) ∧ Lk2 M (M.jsA L s g) ∧ ∀ t d, (M.jsA L s g).ly t d = if d ∈ L then (if t = s then M.ly s d ++ M.ly g d else if t = g then [] else M.ly t d) else M.ly t d
  | [], M, _, _, w, _ => ⟨w, Lk2.refl, fun t d => (if_neg List.not_mem_nil).symm⟩
  | c :: L, M, hL, nd, w, hs => by
    obtain ⟨n1, n2⟩ := List.nodup_cons.mp nd
    have hc := hL c List.mem_cons_self
    obtain ⟨w1, l1⟩ := jsL_ok (s := s) (g := g) hc (L := M.ly g c) w hs fun x hx => by
      obtain ⟨a, b⟩ := x
      obtain ⟨r, h1, h2, _⟩ := w.on_ring (c := c) (s := g) (n := a) (p := b) hx
      exact ⟨r, h1, h2⟩
    obtain ⟨w2, l2, h2⟩ := jsA_ok ne (L := L) (M := M.jsC s g c) (fun d hd => hL d (List.mem_cons_of_mem _ hd)) n2 w1 (by rw [show (M.jsC s g c).spots = M.spots from l1.spots]; exact hs)
    refine ⟨w2, Lk2.trans (N := M.jsC s g c) l1 l2, fun t d => ?_⟩
    show ((M.jsC s g c).jsA L s g).ly t d = _
    rw [h2, jsC_ly ne, jsC_ly ne, jsC_ly ne]
    by_cases hd : d = c
    · subst hd
      rw [if_neg n1, if_pos rfl, if_pos List.mem_cons_self]
    · rw [if_neg hd, if_neg hd, if_neg hd]
      by_cases h : d ∈ L
      · rw [if_pos h, if_pos (List.mem_cons_of_mem _ h)]
      · rw [if_neg h, if_neg (fun q => (List.mem_cons.mp q).elim hd h)]
end
end Tr

/-! # The map of a book (plain): each step leaves a map. -/
namespace Tr
open PySem L2 TL
section
variable {NS : List Str} {per : Str → Int} {M : RM}
def Fl (NS : List Str) (M : RM) : Prop := ∀ s ∈ M.spots, ∀ c ∈ NS, M.ly s c ≠ []
theorem WF0.ly_in (w : WF0 NS per M) {s : Nat} {c : Str} (h : M.ly s c ≠ []) : s ∈ M.spots ∧ c ∈ NS := by
  cases e : M.ly s c with
  | nil => exact (h e).elim
  | cons x l =>
    obtain ⟨a, b, _⟩ := w.ln s c x.1 x.2 (by rw [e]; exact List.mem_cons_self)
    exact ⟨a, b⟩
theorem setMod_ring {n n' : Nat} {m : Int} {r : Rg} (h : M.ring? n' = some r) : ∃ r', (M.setMod n m).ring? n' = some r' ∧ r'.turn = r.turn := by
  rw [RM.ring_setMod, h]
  refine ⟨_, rfl, ?_⟩
  dsimp only
  split <;> rfl
theorem drop_len {g : Nat} {r : Rg} : ∀ {l : List Rg}, (l.map (·.num)).Nodup → r ∈ l → r.num = g → (l.filter fun r => decide (r.num ≠ g)).length + 1 = l.length
  | [], _, h, _ => by cases h
  | b :: l, nd, m1, m2 => by
    obtain ⟨a1, a2⟩ := List.nodup_cons.mp nd
    rcases List.mem_cons.mp m1 with rfl | h
    · have e1 : l.filter (fun x => decide (x.num ≠ g)) = l := List.filter_eq_self.mpr fun x hx => decide_eq_true fun e => a1 (by
        show r.num ∈ _
        rw [m2, ← e]
        exact List.mem_map.mpr ⟨x, hx, rfl⟩)
      rw [List.filter_cons, if_neg (by rw [decide_eq_true_eq]; exact fun q => q m2), e1]
      rfl
    · have : b.num ≠ g := fun e => a1 (by
        show b.num ∈ _
        rw [e, ← m2]
        exact List.mem_map.mpr ⟨r, h, rfl⟩)
      rw [List.filter_cons, if_pos (decide_eq_true this), List.length_cons, List.length_cons, drop_len a2 h m2]
/-! two spots made one -/
theorem joinSpots_ly {s g : Nat} (ne : s ≠ g) (nd : NS.Nodup) (w : WF0 NS per M) (hs : s ∈ M.spots) (t : Nat) (d : Str) : (M.joinSpots NS s g).ly t d = if d ∈ NS then (if t = s then M.ly s d ++ M.ly g d else if t = g then [] else M.ly t d) else M.ly t d :=
  (jsA_ok ne (L := NS) (fun _ h => h) nd w hs).2.2 t d
theorem joinSpots_ok {s g : Nat} (ne : s ≠ g) (nd : NS.Nodup) (w : WF0 NS per M) (hs : s ∈ M.spots) : WF0 NS per (M.joinSpots NS s g) := by
  obtain ⟨w1, l1, h1⟩ := jsA_ok (NS := NS) ne (L := NS) (fun _ h => h) nd w hs
  refine ⟨w1.nd, w1.nb, w1.sd.erase g, fun t h => w1.sb t (List.mem_of_mem_erase h), fun t c n p h => ?_, w1.st, w1.md⟩
  obtain ⟨a, b, r⟩ := w1.ln t c n p h
  refine ⟨(List.Nodup.mem_erase_iff w1.sd).mpr ⟨fun e => ?_, a⟩, b, r⟩
  have h : (n, p) ∈ (M.jsA NS s g).ly t c := h
  rw [h1, if_pos b, e, if_neg (Ne.symm ne), if_pos rfl] at h
  cases h
theorem joinSpots_fl {s g : Nat} (ne : s ≠ g) (nd : NS.Nodup) (w : WF0 NS per M) (hs : s ∈ M.spots) (f : Fl NS M) : Fl NS (M.joinSpots NS s g) := by
  intro t ht c hc
  obtain ⟨_, l1, _⟩ := jsA_ok (NS := NS) ne (L := NS) (fun _ h => h) nd w hs
  have ht : t ∈ (M.jsA NS s g).spots.erase g := ht
  rw [l1.spots] at ht
  obtain ⟨h1, h2⟩ := (List.Nodup.mem_erase_iff w.sd).mp ht
  rw [joinSpots_ly ne nd w hs, if_pos hc]
  by_cases e : t = s
  · rw [if_pos e]
    exact List.append_ne_nil_of_left_ne_nil (f s hs c hc) _
  · rw [if_neg e, if_neg h1]
    exact f t h2 c hc
/-! two rings made one -/
theorem jrS_ok {n : Nat} {c : Str} {off : Int} (hc : c ∈ NS) : ∀ {L : List (Nat × Int)} {M : RM}, WF0 NS per M → (∀ x ∈ L, x.1 ∈ M.spots) → (∃ r, M.ring? n = some r ∧ r.turn = c) → WF0 NS per (M.jrS n c off L) ∧ Lk2 M (M.jrS n c off L) ∧ ∀ t d, (M.jrS n c off L).ly t d = if d = c then M.ly t c ++ (L.filter fun x => decide (x.1 = t)).map (fun x => (n, x.2 + off)) else M.ly t d
  | [], M, w, _, _ => ⟨w, Lk2.refl, fun t d => by
    show M.ly t d = _
    by_cases hd : d = c
    · rw [if_pos hd, hd]
      exact (List.append_nil _).symm
    · rw [if_neg hd]⟩
  | x :: L, M, w, hL, ⟨r, hr, ht⟩ => by
    have w1 := w.seat (p := x.2 + off) (hL x List.mem_cons_self) hc hr ht
    have l1 := Lk2.seat (M := M) x.1 n c (x.2 + off)
    obtain ⟨r1, hr1, ht1⟩ := l1.ring hr
    obtain ⟨a, b, e⟩ := jrS_ok hc (off := off) (L := L) w1 (fun y hy => hL y (List.mem_cons_of_mem _ hy)) ⟨r1, hr1, ht1.trans ht⟩
    refine ⟨a, l1.trans b, fun t d => ?_⟩
    show ((M.seat x.1 n c (x.2 + off)).jrS n c off L).ly t d = _
    rw [e]
    by_cases hd : d = c
    · rw [if_pos hd, if_pos hd, ly_seat]
      by_cases h : t = x.1
      · rw [if_pos ⟨h, rfl⟩, List.filter_cons, if_pos (decide_eq_true h.symm), List.append_assoc]
        rfl
      · rw [if_neg (fun q => h q.1), List.filter_cons, if_neg (by rw [decide_eq_true_eq]; exact fun q => h q.symm)]
    · rw [if_neg hd, if_neg hd, ly_seat, if_neg (fun q => hd q.2)]
theorem jrU_ok {g : Nat} {c : Str} : ∀ {L : List (Nat × Int)} {M : RM}, WF0 NS per M → (∃ r, M.ring? g = some r ∧ r.turn = c) → WF0 NS per (M.jrU g c L) ∧ Lk2 M (M.jrU g c L) ∧ ∀ t d, (M.jrU g c L).ly t d = if d = c ∧ t ∈ L.map (·.1) then (M.ly t c).filter (fun x => decide (x.1 ≠ g)) else M.ly t d
  | [], M, w, _ => ⟨w, Lk2.refl, fun t d => (if_neg fun q => List.not_mem_nil q.2).symm⟩
  | x :: L, M, w, ⟨r, hr, ht⟩ => by
    have w1 := w.unseat (s := x.1) hr ht
    have l1 := Lk2.unseat (M := M) x.1 g c
    obtain ⟨r1, hr1, ht1⟩ := l1.ring hr
    obtain ⟨a, b, e⟩ := jrU_ok (L := L) w1 ⟨r1, hr1, ht1.trans ht⟩
    refine ⟨a, l1.trans b, fun t d => ?_⟩
    show ((M.unseat x.1 g c).jrU g c L).ly t d = _
    rw [e]
    by_cases hd : d = c
    · subst hd
      have key : (M.unseat x.1 g d).ly t d = if t = x.1 then (M.ly t d).filter (fun x => decide (x.1 ≠ g)) else M.ly t d := by
        rw [ly_unseat]
        by_cases h : t = x.1
        · rw [if_pos ⟨h, rfl⟩, if_pos h]
        · rw [if_neg (fun q => h q.1), if_neg h]
      rw [key]
      by_cases h : t = x.1
      · rw [if_pos h, if_pos (show d = d ∧ t ∈ (x :: L).map (·.1) from ⟨rfl, by rw [h]; exact List.mem_cons_self⟩)]
        split
        · rw [List.filter_filter]
          refine List.filter_congr fun y _ => Bool.and_self _
        · rfl
      · rw [if_neg h]
        by_cases h2 : t ∈ L.map (·.1)
        · rw [if_pos ⟨rfl, h2⟩, if_pos (show d = d ∧ t ∈ (x :: L).map (·.1) from ⟨rfl, List.mem_cons_of_mem _ h2⟩)]
        · rw [if_neg (fun q => h2 q.2), if_neg (fun (q : d = d ∧ t ∈ (x :: L).map (·.1)) => (List.mem_cons.mp q.2).elim h h2)]
    · rw [if_neg (fun q => hd q.1), if_neg (fun q => hd q.1), ly_unseat, if_neg (fun q => hd q.2)]
theorem sts_of {n : Nat} {r : Rg} (h : M.ring? n = some r) : M.sts n = r.seats := by
  unfold RM.sts
  rw [h]
  rfl
theorem md_of {n : Nat} {r : Rg} (h : M.ring? n = some r) : M.md n = r.mod := by
  unfold RM.md
  rw [h]
  rfl
theorem gcd_dvd_per {a b p : Int} (h : a ∣ p) : ((Int.gcd a b : Nat) : Int) ∣ p := Int.dvd_trans (Int.gcd_dvd_left ..) h
theorem joinRings_ok {n g : Nat} {c : Str} (off : Int) (w : WF0 NS per M) (ne : n ≠ g) {rn rg : Rg} (hn : M.ring? n = some rn) (hg : M.ring? g = some rg) (tn : rn.turn = c) (tg : rg.turn = c) :
    WF0 NS per (M.joinRings n g c off) ∧ (M.joinRings n g c off).spots = M.spots ∧ (M.joinRings n g c off).laid = M.laid ∧ (M.joinRings n g c off).pl = M.pl ∧ (M.joinRings n g c off).rings.length + 1 = M.rings.length ∧
    (∀ n', n' ≠ g → (M.joinRings n g c off).md n' = if n' = n then ((Int.gcd (M.md n) (M.md g) : Nat) : Int) else M.md n') ∧
    ∀ t d, (M.joinRings n g c off).ly t d = if d = c then (M.ly t c).filter (fun x => decide (x.1 ≠ g)) ++ ((M.sts g).filter fun x => decide (x.1 = t)).map (fun x => (n, x.2 + off)) else M.ly t d := by
  obtain ⟨n0, n1⟩ := ring_mem hn
  obtain ⟨g0, g1⟩ := ring_mem hg
  obtain ⟨cNS, _, mdv⟩ := w.md rn n0
  rw [tn] at cNS mdv
  have eg := sts_of hg
  have w1 : WF0 NS per (M.setMod n (Int.gcd (M.md n) (M.md g) : Nat)) := w.setMod (Int.natCast_nonneg _) fun r h e => by
    have : r = rn := w.ring_eq h n0 (e.trans n1.symm)
    rw [this, md_of hn, tn]
    exact gcd_dvd_per mdv
  have hn1 : ∃ r, (M.setMod n (Int.gcd (M.md n) (M.md g) : Nat)).ring? n = some r ∧ r.turn = c := by
    obtain ⟨r, a, b⟩ := setMod_ring hn
    exact ⟨r, a, b.trans tn⟩
  have hg1 : ∃ r, (M.setMod n (Int.gcd (M.md n) (M.md g) : Nat)).ring? g = some r ∧ r.turn = c := by
    obtain ⟨r, a, b⟩ := setMod_ring hg
    exact ⟨r, a, b.trans tg⟩
  obtain ⟨w2, l2, e2⟩ := jrS_ok (off := off) cNS (L := M.sts g) w1 (fun x hx => by
    rw [eg] at hx
    have := (w.seat_iff g0 (s := x.1) (p := x.2)).mp hx
    exact (w.ln _ _ _ _ this).1) hn1
  have hg2 : ∃ r, ((M.setMod n (Int.gcd (M.md n) (M.md g) : Nat)).jrS n c off (M.sts g)).ring? g = some r ∧ r.turn = c := by
    obtain ⟨r, h1, h2⟩ := hg1
    obtain ⟨r', h3, h4⟩ := l2.ring h1
    exact ⟨r', h3, h4.trans h2⟩
  obtain ⟨w3, l3, e3⟩ := jrU_ok (L := M.sts g) w2 hg2
  have out : ∀ t d, (((M.setMod n (Int.gcd (M.md n) (M.md g) : Nat)).jrS n c off (M.sts g)).jrU g c (M.sts g)).ly t d = if d = c then (M.ly t c).filter (fun x => decide (x.1 ≠ g)) ++ ((M.sts g).filter fun x => decide (x.1 = t)).map (fun x => (n, x.2 + off)) else M.ly t d := by
    intro t d
    rw [e3, e2, e2]
    have eX : (((M.sts g).filter fun x => decide (x.1 = t)).map fun x => (n, x.2 + off)).filter (fun x => decide (x.1 ≠ g)) = ((M.sts g).filter fun x => decide (x.1 = t)).map fun x => (n, x.2 + off) := List.filter_eq_self.mpr fun y hy => by
      obtain ⟨x, _, rfl⟩ := List.mem_map.mp hy
      exact decide_eq_true ne
    show (if d = c ∧ t ∈ (M.sts g).map (·.1) then ((if c = c then M.ly t c ++ _ else M.ly t c).filter _) else (if d = c then M.ly t c ++ _ else M.ly t d)) = _
    rw [if_pos rfl]
    by_cases hd : d = c
    · rw [if_pos hd, if_pos hd]
      by_cases h : t ∈ (M.sts g).map (·.1)
      · rw [if_pos ⟨hd, h⟩, List.filter_append, eX]
      · rw [if_neg (fun q => h q.2)]
        have e1 : (M.ly t c).filter (fun x => decide (x.1 ≠ g)) = M.ly t c := List.filter_eq_self.mpr fun x hx => decide_eq_true fun e => h (by
          obtain ⟨a, b⟩ := x
          have e : a = g := e
          subst e
          have hx : M.on c t a b := hx
          rw [← tg, ← g1] at hx
          have := (w.seat_iff g0).mpr hx
          rw [eg]
          exact List.mem_map.mpr ⟨(t, b), this, rfl⟩)
        rw [e1]
    · rw [if_neg (fun q => hd q.1), if_neg hd, if_neg hd]
  have no : ∀ s d p, ¬ (((M.setMod n (Int.gcd (M.md n) (M.md g) : Nat)).jrS n c off (M.sts g)).jrU g c (M.sts g)).on d s g p := by
    intro s d p h
    have h : (g, p) ∈ (((M.setMod n (Int.gcd (M.md n) (M.md g) : Nat)).jrS n c off (M.sts g)).jrU g c (M.sts g)).ly s d := h
    rw [out] at h
    split at h
    · rcases List.mem_append.mp h with h | h
      · exact of_decide_eq_true (List.mem_filter.mp h).2 rfl
      · obtain ⟨x, _, e⟩ := List.mem_map.mp h
        exact ne (congrArg Prod.fst e)
    · rename_i hd
      obtain ⟨r, h1, h2, _⟩ := w.on_ring (c := d) (s := s) (n := g) (p := p) h
      rw [hg] at h1
      cases h1
      exact hd (h2.symm.trans tg)
  have l23 := l2.trans l3
  refine ⟨w3.drop no, l23.spots, l23.laid, l23.pl, ?_, ?_, out⟩
  · show ((((M.setMod n _).jrS n c off (M.sts g)).jrU g c (M.sts g)).rings.filter fun r => decide (r.num ≠ g)).length + 1 = _
    have e4 : (((M.setMod n (Int.gcd (M.md n) (M.md g) : Nat)).jrS n c off (M.sts g)).jrU g c (M.sts g)).rings.length = M.rings.length := l23.len.trans (List.length_map ..)
    rw [← e4]
    obtain ⟨r, h1, _⟩ := hg2
    obtain ⟨r', h3, _⟩ := l3.ring h1
    obtain ⟨m1, m2⟩ := ring_mem h3
    exact drop_len w3.nd m1 m2
  · intro n' hn'
    show ((((M.setMod n _).jrS n c off (M.sts g)).jrU g c (M.sts g)).drop g).md n' = _
    rw [RM.md_drop _ _ hn', l23.md, RM.md_setMod hn]
/-! a spot left at one position -/
theorem gcds_dvd (first : Int) : ∀ (L : List Int) (m : Int), RM.gcds m first L ∣ m ∧ ∀ p ∈ L, RM.gcds m first L ∣ p - first
  | [], m => ⟨Int.dvd_refl _, fun p h => by cases h⟩
  | q :: L, m => by
    obtain ⟨a, b⟩ := gcds_dvd first L (Int.gcd m (q - first) : Nat)
    refine ⟨Int.dvd_trans a (Int.gcd_dvd_left ..), fun p h => ?_⟩
    rcases List.mem_cons.mp h with rfl | h
    · exact Int.dvd_trans a (Int.gcd_dvd_right ..)
    · exact b p h
theorem gcds_nn (first : Int) : ∀ (L : List Int) (m : Int), 0 ≤ m → 0 ≤ RM.gcds m first L
  | [], _, h => h
  | _ :: L, _, _ => gcds_nn first L _ (Int.natCast_nonneg _)
theorem lessen_ok {s n : Nat} {c : Str} (first : Int) (L : List Int) (w : WF0 NS per M) {rn : Rg} (hn : M.ring? n = some rn) (tn : rn.turn = c) (hs : s ∈ M.spots) :
    WF0 NS per (M.lessen s n c first L) ∧ (M.lessen s n c first L).spots = M.spots ∧ (M.lessen s n c first L).laid = M.laid ∧ (M.lessen s n c first L).pl = M.pl ∧ (M.lessen s n c first L).rings.length = M.rings.length ∧
    (∀ n', (M.lessen s n c first L).md n' = if n' = n then RM.gcds (M.md n) first L else M.md n') ∧
    ∀ t d, (M.lessen s n c first L).ly t d = if t = s ∧ d = c then (M.ly t d).filter (fun x => decide (x.1 ≠ n)) ++ [(n, first)] else M.ly t d := by
  obtain ⟨n0, n1⟩ := ring_mem hn
  obtain ⟨cNS, md0, mdv⟩ := w.md rn n0
  rw [tn] at cNS mdv
  have hd := (gcds_dvd first L (M.md n)).1
  have w1 : WF0 NS per (M.setMod n (RM.gcds (M.md n) first L)) := w.setMod (gcds_nn _ _ _ (by rw [md_of hn]; exact md0)) fun r h e => by
    have : r = rn := w.ring_eq h n0 (e.trans n1.symm)
    rw [this, tn]
    rw [md_of hn] at hd ⊢
    exact Int.dvd_trans hd mdv
  have hn1 : ∃ r, (M.setMod n (RM.gcds (M.md n) first L)).ring? n = some r ∧ r.turn = c := by
    obtain ⟨r, a, b⟩ := setMod_ring hn
    exact ⟨r, a, b.trans tn⟩
  obtain ⟨r1, h1, t1⟩ := hn1
  have w2 := w1.unseat (s := s) h1 t1
  have l2 := Lk2.unseat (M := M.setMod n (RM.gcds (M.md n) first L)) s n c
  obtain ⟨r2, h2, t2⟩ := l2.ring h1
  have w3 := w2.seat (s := s) (p := first) hs cNS h2 (t2.trans t1)
  have l3 := l2.trans (Lk2.seat (M := (M.setMod n (RM.gcds (M.md n) first L)).unseat s n c) s n c first)
  refine ⟨w3, l3.spots, l3.laid, l3.pl, l3.len.trans (List.length_map ..), fun n' => (l3.md n').trans (RM.md_setMod hn n'), fun t d => ?_⟩
  show (((M.setMod n _).unseat s n c).seat s n c first).ly t d = _
  rw [ly_seat, ly_unseat]
  split <;> rfl
end
end Tr

/-! # The map of a book (plain): what it means; new spots. -/
namespace Tr
open PySem L2 TL
section
variable {NS : List Str} {per : Str → Int} {M N : RM}
/-- a step leads from a spot to a spot -/
def Rl (M : RM) (c : Str) (s : Nat) (e : Int) (t : Nat) : Prop := ∃ n p q, M.on c s n p ∧ M.on c t n q ∧ M.md n ∣ p + e - q
/-- the spots are states of a mechanism -/
structure Vl {X : Type} (A : Mech per X) (M : RM) (V : Nat → X) : Prop where
  rel : ∀ c s n p t q, M.on c s n p → M.on c t n q → A.act c (q - p) (V s) = V t
  md : ∀ c s n p, M.on c s n p → A.act c (M.md n) (V s) = V s
theorem Vl.step {X : Type} {A : Mech per X} {V : Nat → X} (v : Vl A M V) {c : Str} {s : Nat} {e : Int} {t : Nat} (h : Rl M c s e t) : A.act c e (V s) = V t := by
  obtain ⟨n, p, q, h1, h2, d⟩ := h
  have h3 := A.fix_dvd (v.md c s n p h1) d
  have h4 := A.add c (p + e - q) (q - p) (V s)
  rw [h3, v.rel c s n p t q h1 h2] at h4
  rw [h4]
  congr 1
  omega
/-- more was laid, what lay lies -/
structure Ext (M N : RM) : Prop where
  on : ∀ c s n p, M.on c s n p → N.on c s n p
  md : ∀ c s n p, M.on c s n p → N.md n = M.md n
  sp : ∀ s ∈ M.spots, s ∈ N.spots
  pl : N.pl = M.pl
theorem Ext.rl (h : Ext M N) {c : Str} {s : Nat} {e : Int} {t : Nat} (r : Rl M c s e t) : Rl N c s e t := by
  obtain ⟨n, p, q, h1, h2, d⟩ := r
  exact ⟨n, p, q, h.on _ _ _ _ h1, h.on _ _ _ _ h2, by rw [h.md _ _ _ _ h1]; exact d⟩
theorem Ext.trans {K : RM} (a : Ext M N) (b : Ext N K) : Ext M K :=
  ⟨fun c s n p h => b.on _ _ _ _ (a.on _ _ _ _ h), fun c s n p h => (b.md _ _ _ _ (a.on _ _ _ _ h)).trans (a.md _ _ _ _ h), fun s h => b.sp s (a.sp s h), b.pl.trans a.pl⟩
theorem Ext.refl : Ext M M := ⟨fun _ _ _ _ h => h, fun _ _ _ _ _ => rfl, fun _ h => h, rfl⟩
/-- spots go over to spots -/
structure Mor (M N : RM) (f : Nat → Nat) : Prop where
  rl : ∀ c s e t, Rl M c s e t → Rl N c (f s) e (f t)
  pl : ∀ p, N.pl p = f (M.pl p)
theorem Ext.mor (h : Ext M N) : Mor M N id := ⟨fun _ _ _ _ r => h.rl r, fun p => by rw [h.pl]; rfl⟩
theorem Mor.trans {K : RM} {f g : Nat → Nat} (a : Mor M N f) (b : Mor N K g) : Mor M K (g ∘ f) :=
  ⟨fun c s e t r => b.rl _ _ _ _ (a.rl _ _ _ _ r), fun p => by rw [b.pl, a.pl]; rfl⟩
/-- a row leads from a spot to a spot -/
def TrR (M : RM) : Nat → List SI → Nat → Prop
  | s, [], t => s = t
  | s, c :: x, t => ∃ u, Rl M c.1 s c.2 u ∧ TrR M u x t
theorem Mor.tr {f : Nat → Nat} (a : Mor M N f) : ∀ {x : List SI} {s t : Nat}, TrR M s x t → TrR N (f s) x (f t)
  | [], _, _, h => congrArg f h
  | _ :: _, _, _, ⟨u, h1, h2⟩ => ⟨f u, a.rl _ _ _ _ h1, a.tr h2⟩
theorem TrR.app : ∀ {x y : List SI} {s t u : Nat}, TrR M s x t → TrR M t y u → TrR M s (x ++ y) u
  | [], _, _, _, _, h, h' => by cases h; exact h'
  | _ :: _, _, _, _, _, ⟨v, h1, h2⟩, h' => ⟨v, h1, TrR.app h2 h'⟩
theorem TrR.act {X : Type} {A : Mech per X} {V : Nat → X} (v : Vl A M V) : ∀ {x : List SI} {s t : Nat}, TrR M s x t → A.row (V s) x = V t
  | [], _, _, h => congrArg V h
  | c :: x, s, t, ⟨u, h1, h2⟩ => by
    show A.row (A.act c.1 c.2 (V s)) x = V t
    rw [v.step h1]
    exact TrR.act v h2
/-! one more seat -/
theorem Vl.seat {X : Type} {A : Mech per X} {V : Nat → X} (v : Vl A M V) {s n : Nat} {c : Str} {p : Int} {s0 : Nat} {p0 : Int} (h0 : M.on c s0 n p0) (h : A.act c (p - p0) (V s0) = V s) : Vl A (M.seat s n c p) V := by
  have on' : ∀ {d t m q}, (M.seat s n c p).on d t m q → M.on d t m q ∨ (d = c ∧ t = s ∧ m = n ∧ q = p) := fun {d t m q} h => by
    have h : (m, q) ∈ (M.seat s n c p).ly t d := h
    rw [ly_seat] at h
    split at h
    · rename_i e
      rcases List.mem_append.mp h with h | h
      · exact .inl h
      · cases List.mem_singleton.mp h
        exact .inr ⟨e.2, e.1, rfl, rfl⟩
    · exact .inl h
  refine ⟨fun d s1 m p1 t q h1 h2 => ?_, fun d s1 m p1 h1 => ?_⟩
  · rcases on' h1 with g1 | ⟨e1, e2, e3, e4⟩
    · rcases on' h2 with g2 | ⟨e1, e2, e3, e4⟩
      · exact v.rel _ _ _ _ _ _ g1 g2
      · rw [e3, e1] at g1
        have k1 := v.rel _ _ _ _ _ _ g1 h0
        rw [e2, e4, e1, ← h, ← k1, A.add]
        congr 1
        omega
    · rcases on' h2 with g2 | ⟨_, f2, _, f4⟩
      · rw [e3, e1] at g2
        have k1 := v.rel _ _ _ _ _ _ h0 g2
        rw [e1, e2, e4, ← h, A.add, ← k1]
        congr 1
        omega
      · rw [e2, f2, e4, f4, Int.sub_self, A.zero]
  · rw [RM.md_seat]
    rcases on' h1 with g1 | ⟨e1, e2, e3, e4⟩
    · exact v.md _ _ _ _ g1
    · have k1 := v.md _ _ _ _ h0
      rw [e1, e2, e3, ← h, A.add, Int.add_comm, ← A.add, k1]
theorem Ext.seat (s n : Nat) (c : Str) (p : Int) : Ext M (M.seat s n c p) := by
  refine ⟨fun d t m q h => ?_, fun _ _ n' _ _ => RM.md_seat s n n' c p, fun _ h => h, rfl⟩
  show (m, q) ∈ (M.seat s n c p).ly t d
  rw [ly_seat]
  split
  · exact List.mem_append.mpr (.inl h)
  · exact h
theorem on_seat (s n : Nat) (c : Str) (p : Int) : (M.seat s n c p).on c s n p := by
  show (n, p) ∈ (M.seat s n c p).ly s c
  rw [ly_seat, if_pos ⟨rfl, rfl⟩]
  exact List.mem_append.mpr (.inr List.mem_cons_self)
/-! a new spot -/
theorem ring_newRing (w : WF0 NS per M) {s : Nat} {c : Str} {m : Int} : (∀ n, n < M.drawn → (M.newRing s c m).ring? n = M.ring? n) ∧ (M.newRing s c m).ring? M.drawn = some ⟨M.drawn, c, m, [(s, 0)]⟩ := by
  constructor
  · intro n hn
    unfold RM.ring? RM.newRing
    show (M.rings ++ [_]).find? _ = _
    rw [List.find?_append, List.find?_cons, decide_eq_false (by show M.drawn ≠ n; omega)]
    show (M.rings.find? _).or none = _
    rw [Option.or_none]
  · unfold RM.ring? RM.newRing
    show (M.rings ++ [_]).find? _ = _
    have : M.rings.find? (fun r => decide (r.num = M.drawn)) = none := List.find?_eq_none.mpr fun r h q => by
      have := w.nb r h
      have := of_decide_eq_true q
      omega
    rw [List.find?_append, this, List.find?_cons, decide_eq_true rfl]
    rfl
theorem newFold {s : Nat} : ∀ {L : List Str} {N : RM}, WF0 NS per N → s ∈ N.spots → (∀ c ∈ L, c ∈ NS ∧ 0 ≤ per c ∧ N.ly s c = []) → L.Nodup →
    WF0 NS per (L.foldl (fun N c => N.newRing s c (per c)) N) ∧ (L.foldl (fun N c => N.newRing s c (per c)) N).spots = N.spots ∧ (L.foldl (fun N c => N.newRing s c (per c)) N).laid = N.laid ∧ (L.foldl (fun N c => N.newRing s c (per c)) N).pl = N.pl ∧
    (L.foldl (fun N c => N.newRing s c (per c)) N).drawn = N.drawn + L.length ∧ (L.foldl (fun N c => N.newRing s c (per c)) N).rings.length = N.rings.length + L.length ∧
    (∀ n, n < N.drawn → (L.foldl (fun N c => N.newRing s c (per c)) N).ring? n = N.ring? n) ∧ (∀ t d, t ≠ s ∨ d ∉ L → (L.foldl (fun N c => N.newRing s c (per c)) N).ly t d = N.ly t d) ∧
    ∀ d ∈ L, ∃ m, N.drawn ≤ m ∧ (L.foldl (fun N c => N.newRing s c (per c)) N).ly s d = [(m, 0)] ∧ (L.foldl (fun N c => N.newRing s c (per c)) N).ring? m = some ⟨m, d, per d, [(s, 0)]⟩
  | [], N, w, _, _, _ => ⟨w, rfl, rfl, rfl, rfl, rfl, fun _ _ => rfl, fun _ _ _ => rfl, fun d h => by cases h⟩
  | c :: L, N, w, hs, h, nd => by
    obtain ⟨n1, n2⟩ := List.nodup_cons.mp nd
    obtain ⟨hc, hp, he⟩ := h c List.mem_cons_self
    have w1 := w.newRing hs hc hp he
    obtain ⟨r1, r2⟩ := ring_newRing (s := s) (c := c) (m := per c) w
    have ly1 : ∀ t d, (N.newRing s c (per c)).ly t d = if t = s ∧ d = c then [(N.drawn, 0)] else N.ly t d := fun _ _ => rfl
    obtain ⟨a1, a2, a3, a4, a5, a6, a7, a8, a9⟩ := newFold (L := L) w1 hs (fun d hd => by
      obtain ⟨b1, b2, b3⟩ := h d (List.mem_cons_of_mem _ hd)
      refine ⟨b1, b2, ?_⟩
      rw [ly1, if_neg (fun q => n1 (by rw [← q.2]; exact hd))]
      exact b3) n2
    have dr : (N.newRing s c (per c)).drawn = N.drawn + 1 := rfl
    refine ⟨a1, a2, a3, a4, ?_, ?_, fun n hn => ?_, fun t d q => ?_, fun d hd => ?_⟩
    · show (L.foldl _ (N.newRing s c (per c))).drawn = _
      rw [a5, dr, List.length_cons]
      omega
    · show (L.foldl _ (N.newRing s c (per c))).rings.length = _
      rw [a6, List.length_cons]
      show (N.rings ++ [_]).length + _ = _
      rw [List.length_append, List.length_singleton]
      omega
    · show (L.foldl _ (N.newRing s c (per c))).ring? n = _
      rw [a7 n (by rw [dr]; omega), r1 n hn]
    · show (L.foldl _ (N.newRing s c (per c))).ly t d = _
      rw [a8 t d (q.imp id fun q z => q (List.mem_cons_of_mem _ z)), ly1, if_neg]
      rintro ⟨e1, e2⟩
      exact q.elim (fun q => q e1) fun q => q (by rw [e2]; exact List.mem_cons_self)
    · rcases List.mem_cons.mp hd with rfl | hd
      · refine ⟨N.drawn, Nat.le_refl _, ?_, ?_⟩
        · show (L.foldl _ (N.newRing s d (per d))).ly s d = _
          rw [a8 s d (.inr n1), ly1, if_pos ⟨rfl, rfl⟩]
        · show (L.foldl _ (N.newRing s d (per d))).ring? _ = _
          rw [a7 _ (by rw [dr]; omega), r2]
      · obtain ⟨m, b1, b2, b3⟩ := a9 d hd
        exact ⟨m, by rw [dr] at b1; omega, b2, b3⟩
/-- the map with one spot more, alone on its rings -/
structure NwSp (NS : List Str) (per : Str → Int) (M N : RM) : Prop where
  w : WF0 NS per N
  spots : N.spots = M.spots ++ [M.laid]
  laid : N.laid = M.laid + 1
  pl : N.pl = M.pl
  drawn : N.drawn = M.drawn + NS.length
  len : N.rings.length = M.rings.length + NS.length
  ring : ∀ n, n < M.drawn → N.ring? n = M.ring? n
  ly : ∀ t d, t ≠ M.laid → N.ly t d = M.ly t d
  new : ∀ d ∈ NS, ∃ m, M.drawn ≤ m ∧ N.ly M.laid d = [(m, 0)] ∧ N.ring? m = some ⟨m, d, per d, [(M.laid, 0)]⟩
  no : ∀ d, d ∉ NS → N.ly M.laid d = []
theorem WF0.ly_laid (w : WF0 NS per M) (d : Str) : M.ly M.laid d = [] := by
  cases e : M.ly M.laid d with
  | nil => rfl
  | cons x l =>
    obtain ⟨a, _⟩ := w.ln M.laid d x.1 x.2 (by rw [e]; exact List.mem_cons_self)
    have := w.sb _ a
    omega
theorem newSpot_ok (nd : NS.Nodup) (hp : ∀ c ∈ NS, 0 ≤ per c) (w : WF0 NS per M) : NwSp NS per M (M.newSpot NS per) := by
  have ly0 : (fun s c => if s = M.laid then [] else M.ly s c) = M.ly := by
    funext s c
    split
    · rename_i e
      rw [e, w.ly_laid]
    · rfl
  have w1 : WF0 NS per { M with spots := M.spots ++ [M.laid], laid := M.laid + 1, ly := fun s c => if s = M.laid then [] else M.ly s c } := by
    rw [ly0]
    refine ⟨w.nd, w.nb, ?_, fun s h => ?_, fun s c n p h => ?_, w.st, w.md⟩
    · show (M.spots ++ [M.laid]).Nodup
      rw [List.nodup_append]
      refine ⟨w.sd, List.nodup_cons.mpr ⟨List.not_mem_nil, List.nodup_nil⟩, fun a ha b hb e => ?_⟩
      rw [List.mem_singleton.mp hb] at e
      have := w.sb a ha
      omega
    · show s < M.laid + 1
      rcases List.mem_append.mp h with h | h
      · have := w.sb s h
        omega
      · rw [List.mem_singleton.mp h]
        omega
    · obtain ⟨a, b⟩ := w.ln s c n p h
      exact ⟨List.mem_append.mpr (.inl a), b⟩
  obtain ⟨a1, a2, a3, a4, a5, a6, a7, a8, a9⟩ := newFold (s := M.laid) (L := NS) w1 (List.mem_append.mpr (.inr List.mem_cons_self)) (fun c hc => ⟨hc, hp c hc, if_pos rfl⟩) nd
  exact ⟨a1, a2, a3, a4, a5, a6, a7, fun t d h => (a8 t d (.inl h)).trans (if_neg h), a9, fun d h => (a8 M.laid d (.inr h)).trans (if_pos rfl)⟩
theorem WF0.n_lt (w : WF0 NS per M) {c : Str} {s n : Nat} {p : Int} (h : M.on c s n p) : n < M.drawn := by
  obtain ⟨_, _, r, h1, h2, _⟩ := w.ln s c n p h
  have := w.nb r h1
  omega
theorem NwSp.ext (w : WF0 NS per M) (h : NwSp NS per M N) : Ext M N :=
  ⟨fun c s n p q => by
    have := (w.ln s c n p q).1
    have := w.sb s this
    show (n, p) ∈ N.ly s c
    rw [h.ly s c (by omega)]
    exact q, fun c s n p q => by
    unfold RM.md
    rw [h.ring n (w.n_lt q)], fun s q => by rw [h.spots]; exact List.mem_append.mpr (.inl q), h.pl⟩
theorem NwSp.vl (w : WF0 NS per M) (h : NwSp NS per M N) (hp : ∀ c ∈ NS, 0 ≤ per c) {X : Type} {A : Mech per X} {V : Nat → X} (v : Vl A M V) (x : X) : Vl A N (fun t => if t = M.laid then x else V t) := by
  have on' : ∀ {d t m q}, N.on d t m q → (t ≠ M.laid ∧ M.on d t m q) ∨ (t = M.laid ∧ q = 0 ∧ M.drawn ≤ m ∧ N.md m = per d ∧ d ∈ NS) := fun {d t m q} k => by
    by_cases e : t = M.laid
    · have k : (m, q) ∈ N.ly t d := k
      rw [e] at k
      by_cases hd : d ∈ NS
      · obtain ⟨m', b1, b2, b3⟩ := h.new d hd
        rw [b2] at k
        cases List.mem_singleton.mp k
        exact .inr ⟨e, rfl, b1, md_of b3, hd⟩
      · rw [h.no d hd] at k
        cases k
    · have k : (m, q) ∈ N.ly t d := k
      rw [h.ly t d e] at k
      exact .inl ⟨e, k⟩
  refine ⟨fun d s n p t q h1 h2 => ?_, fun d s n p h1 => ?_⟩
  · rcases on' h1 with ⟨e1, h1⟩ | ⟨e1, rfl, h1, _⟩ <;> rcases on' h2 with ⟨e2, h2⟩ | ⟨e2, rfl, h2, _⟩
    · rw [if_neg e1, if_neg e2]
      exact v.rel _ _ _ _ _ _ h1 h2
    · have := w.n_lt h1
      omega
    · have := w.n_lt h2
      omega
    · rw [if_pos e1, if_pos e2, Int.sub_self, A.zero]
  · rcases on' h1 with ⟨e1, h1⟩ | ⟨e1, rfl, _, h2, hd⟩
    · rw [if_neg e1, (h.ext w).md _ _ _ _ h1]
      exact v.md _ _ _ _ h1
    · rw [h2]
      rcases Int.lt_or_eq_of_le (hp d hd) with g | g
      · exact A.pers d _ g
      · rw [← g, A.zero]
end
end Tr

/-! # The map of a book (plain): a step laid; what joining means. -/
namespace Tr
open PySem L2 TL
section
variable {NS : List Str} {per : Str → Int} {M N : RM}
theorem Vl.sub {X : Type} {A : Mech per X} {V : Nat → X} (v : Vl A M V) (h : ∀ c s n p, N.on c s n p → (∃ s0, M.on c s0 n p ∧ V s0 = V s) ∧ N.md n = M.md n) : Vl A N V := by
  refine ⟨fun c s n p t q h1 h2 => ?_, fun c s n p h1 => ?_⟩
  · obtain ⟨⟨s0, a1, e1⟩, _⟩ := h _ _ _ _ h1
    obtain ⟨⟨t0, a2, e2⟩, _⟩ := h _ _ _ _ h2
    rw [← e1, ← e2]
    exact v.rel _ _ _ _ _ _ a1 a2
  · obtain ⟨⟨s0, a1, e1⟩, e⟩ := h _ _ _ _ h1
    rw [← e1, e]
    exact v.md _ _ _ _ a1
/-- a new spot a step away -/
def RM.lay (M : RM) (NS : List Str) (per : Str → Int) (s : Nat) (c : Str) (e : Int) : RM :=
  (((M.newSpot NS per).unseat M.laid (((M.newSpot NS per).ly M.laid c).headD (0, 0)).1 c).drop (((M.newSpot NS per).ly M.laid c).headD (0, 0)).1).seat M.laid ((M.ly s c).headD (0, 0)).1 c (((M.ly s c).headD (0, 0)).2 + e)
structure LayOk (NS : List Str) (per : Str → Int) (M N : RM) (s : Nat) (c : Str) (e : Int) : Prop where
  w : WF0 NS per N
  fl : Fl NS N
  spots : N.spots = M.spots ++ [M.laid]
  laid : N.laid = M.laid + 1
  ext : Ext M N
  len : N.rings.length + 1 = M.rings.length + NS.length
  lys : ∀ d ∈ NS, (N.ly M.laid d).length = 1
  ly : ∀ t d, t ≠ M.laid → N.ly t d = M.ly t d
  rl : Rl N c s e M.laid
  vl : ∀ {X : Type} {A : Mech per X} {V : Nat → X}, Vl A M V → Vl A N (fun t => if t = M.laid then A.act c e (V s) else V t)
theorem lay_ok (nd : NS.Nodup) (hp : ∀ c ∈ NS, 0 ≤ per c) (w : WF0 NS per M) (f : Fl NS M) {s : Nat} {c : Str} (e : Int) (hs : s ∈ M.spots) (hc : c ∈ NS) : LayOk NS per M (M.lay NS per s c e) s c e := by
  have h := newSpot_ok nd hp w
  obtain ⟨o, o1, o2, o3⟩ := h.new c hc
  obtain ⟨n, p, e1, e2⟩ : ∃ n p, M.on c s n p ∧ (M.ly s c).headD (0, 0) = (n, p) := by
    cases eq : M.ly s c with
    | nil => exact (f s hs c hc eq).elim
    | cons x l => exact ⟨x.1, x.2, by show x ∈ M.ly s c; rw [eq]; exact List.mem_cons_self, rfl⟩
  have nl := w.n_lt e1
  have eo : ((M.newSpot NS per).ly M.laid c).headD (0, 0) = (o, 0) := by rw [o2]; rfl
  have eN : M.lay NS per s c e = (((M.newSpot NS per).unseat M.laid o c).drop o).seat M.laid n c (p + e) := by
    unfold RM.lay
    rw [eo, e2]
  have hl : s ≠ M.laid := by have := w.sb s hs; omega
  generalize M.newSpot NS per = K at h o2 o3 eo eN
  have w1 := h.w.unseat (s := M.laid) o3 rfl
  have l1 : ∀ t d, (K.unseat M.laid o c).ly t d = if t = M.laid ∧ d = c then [] else K.ly t d := fun t d => by
    rw [ly_unseat]
    split
    · rename_i q
      rw [q.1, q.2, o2, List.filter_cons, if_neg (by rw [decide_eq_true_eq]; exact fun z => z rfl)]
      rfl
    · rfl
  have no : ∀ t d q, ¬ (K.unseat M.laid o c).on d t o q := fun t d q k => by
    have k : (o, q) ∈ (K.unseat M.laid o c).ly t d := k
    rw [l1] at k
    split at k
    · cases k
    · rename_i z
      by_cases ht : t = M.laid
      · subst ht
        by_cases hd : d ∈ NS
        · obtain ⟨m, m1, m2, m3⟩ := h.new d hd
          rw [m2] at k
          have em : o = m := congrArg Prod.fst (List.mem_singleton.mp k)
          rw [← em, o3] at m3
          exact z ⟨rfl, (congrArg Rg.turn (Option.some.inj m3)).symm⟩
        · rw [h.no d hd] at k
          cases k
      · rw [h.ly t d ht] at k
        have := w.n_lt (c := d) (s := t) (n := o) (p := q) k
        omega
  have w2 := w1.drop no
  have rn : ∃ r, ((K.unseat M.laid o c).drop o).ring? n = some r ∧ r.turn = c := by
    obtain ⟨r, h1, h2, _⟩ := w.on_ring e1
    rw [RM.ring_drop _ _ (by omega), RM.ring_unseat, h.ring n nl, h1]
    exact ⟨_, rfl, by
      show (if r.num = o then _ else r : Rg).turn = c
      split <;> exact h2⟩
  obtain ⟨r, hr, ht⟩ := rn
  have w3 := w2.seat (s := M.laid) (p := p + e) (by show M.laid ∈ K.spots; rw [h.spots]; exact List.mem_append.mpr (.inr List.mem_cons_self)) hc hr ht
  have lyF : ∀ t d, (M.lay NS per s c e).ly t d = if t = M.laid ∧ d = c then [(n, p + e)] else K.ly t d := fun t d => by
    rw [eN, ly_seat]
    show (if t = M.laid ∧ d = c then (K.unseat M.laid o c).ly t d ++ _ else (K.unseat M.laid o c).ly t d) = _
    rw [l1]
    split <;> rfl
  have mdF : ∀ m, m ≠ o → (M.lay NS per s c e).md m = K.md m := fun m hm => by
    rw [eN, RM.md_seat, RM.md_drop _ _ hm, RM.md_unseat]
  have kext := h.ext w
  refine ⟨by rw [eN]; exact w3, fun t ht' d hd => ?_, by rw [eN]; exact h.spots, by rw [eN]; exact h.laid, ⟨fun d t m q k => ?_, fun d t m q k => ?_, fun t ht' => ?_, by rw [eN]; exact h.pl⟩, ?_, fun d hd => ?_, fun t d ht' => ?_, ?_, fun {X A V} v => ?_⟩
  · have ht' : t ∈ (M.lay NS per s c e).spots := ht'
    rw [eN] at ht'
    have ht' : t ∈ K.spots := ht'
    rw [h.spots] at ht'
    rw [lyF]
    split
    · exact List.cons_ne_nil _ _
    · rcases List.mem_append.mp ht' with g | g
      · have := w.sb t g
        rw [h.ly t d (by omega)]
        exact f t g d hd
      · rw [List.mem_singleton.mp g]
        obtain ⟨m, _, m2, _⟩ := h.new d hd
        rw [m2]
        exact List.cons_ne_nil _ _
  · have := w.sb t (w.ln _ _ _ _ k).1
    show (m, q) ∈ (M.lay NS per s c e).ly t d
    rw [lyF, if_neg (fun z => by omega), h.ly t d (by omega)]
    exact k
  · have := w.n_lt k
    rw [mdF m (by omega)]
    exact kext.md _ _ _ _ k
  · rw [eN]
    show t ∈ K.spots
    rw [h.spots]
    exact List.mem_append.mpr (.inl ht')
  · rw [eN]
    show (RM.mapR n _ ((RM.mapR o _ K.rings).filter fun r => decide (r.num ≠ o))).length + 1 = _
    unfold RM.mapR
    rw [List.length_map, ← h.len, ← List.length_map (f := fun r : Rg => if r.num = o then { r with seats := r.seats.filter fun x => decide (x.1 ≠ M.laid) } else r) (as := K.rings)]
    obtain ⟨k1, k2⟩ := ring_mem o3
    refine drop_len (r := { (⟨o, c, per c, [(M.laid, 0)]⟩ : Rg) with seats := [] }) w1.nd (List.mem_map.mpr ⟨_, k1, ?_⟩) rfl
    rw [if_pos rfl]
    dsimp only
    rw [List.filter_cons, if_neg (by rw [decide_eq_true_eq]; exact fun z => z rfl)]
    rfl
  · rw [lyF]
    split
    · rfl
    · obtain ⟨m, _, m2, _⟩ := h.new d hd
      rw [m2]
      rfl
  · rw [lyF, if_neg (fun z => ht' z.1)]
    exact h.ly t d ht'
  · refine ⟨n, p, p + e, ?_, ?_, by rw [Int.sub_self]; exact Int.dvd_zero _⟩
    · show (n, p) ∈ (M.lay NS per s c e).ly s c
      rw [lyF, if_neg (fun z => hl z.1), h.ly s c hl]
      exact e1
    · show (n, p + e) ∈ (M.lay NS per s c e).ly M.laid c
      rw [lyF, if_pos ⟨rfl, rfl⟩]
      exact List.mem_cons_self
  · rw [eN]
    have v1 := h.vl w hp v (A.act c e (V s))
    have v2 : Vl A ((K.unseat M.laid o c).drop o) (fun t => if t = M.laid then A.act c e (V s) else V t) := by
      refine v1.sub fun d t m q k => ?_
      have k' : (m, q) ∈ (K.unseat M.laid o c).ly t d := k
      rw [l1] at k'
      split at k'
      · cases k'
      · refine ⟨⟨t, k', rfl⟩, ?_⟩
        have : m ≠ o := fun z => no t d q (by
          subst z
          exact k)
        rw [RM.md_drop _ _ this, RM.md_unseat]
    refine v2.seat (s0 := s) (p0 := p) ?_ ?_
    · show (n, p) ∈ (K.unseat M.laid o c).ly s c
      rw [l1, if_neg (fun z => hl z.1), h.ly s c hl]
      exact e1
    · show A.act c (p + e - p) (if s = M.laid then _ else V s) = if M.laid = M.laid then A.act c e (V s) else _
      rw [if_neg hl, if_pos rfl]
      congr 1
      omega
/-! what joining means -/
theorem joinSpots_on {s g : Nat} (ne : s ≠ g) (nd : NS.Nodup) (w : WF0 NS per M) (hs : s ∈ M.spots) {c : Str} {t n : Nat} {p : Int} : ((M.joinSpots NS s g).on c t n p → M.on c t n p ∧ t ≠ g ∨ t = s ∧ M.on c g n p) ∧ (M.on c t n p → (M.joinSpots NS s g).on c (if t = g then s else t) n p) := by
  constructor
  · intro h
    change (n, p) ∈ (M.joinSpots NS s g).ly t c at h
    rw [joinSpots_ly ne nd w hs] at h
    split at h
    · split at h
      · rename_i e
        subst e
        rcases List.mem_append.mp h with k | k
        · exact .inl ⟨k, ne⟩
        · exact .inr ⟨rfl, k⟩
      · split at h
        · cases h
        · rename_i e
          exact .inl ⟨h, e⟩
    · rename_i hc
      exact (hc (w.ln _ _ _ _ h).2.1).elim
  · intro h
    have hc := (w.ln _ _ _ _ h).2.1
    show (n, p) ∈ (M.joinSpots NS s g).ly _ c
    rw [joinSpots_ly ne nd w hs, if_pos hc]
    by_cases e : t = g
    · rw [if_pos e, if_pos rfl]
      rw [e] at h
      exact List.mem_append.mpr (.inr h)
    · rw [if_neg e]
      by_cases e2 : t = s
      · rw [if_pos e2]
        rw [e2] at h
        exact List.mem_append.mpr (.inl h)
      · rw [if_neg e2, if_neg e]
        exact h
theorem joinSpots_md {s g : Nat} (ne : s ≠ g) (nd : NS.Nodup) (w : WF0 NS per M) (hs : s ∈ M.spots) (n : Nat) : (M.joinSpots NS s g).md n = M.md n :=
  (jsA_ok (NS := NS) ne (L := NS) (fun _ h => h) nd w hs).2.1.md n
theorem joinSpots_vl {s g : Nat} (ne : s ≠ g) (nd : NS.Nodup) (w : WF0 NS per M) (hs : s ∈ M.spots) {X : Type} {A : Mech per X} {V : Nat → X} (v : Vl A M V) (e : V s = V g) : Vl A (M.joinSpots NS s g) V := by
  refine v.sub fun c t n p h => ⟨?_, joinSpots_md ne nd w hs n⟩
  rcases (joinSpots_on ne nd w hs).1 h with ⟨k, _⟩ | ⟨et, k⟩
  · exact ⟨t, k, rfl⟩
  · exact ⟨g, k, by rw [et]; exact e.symm⟩
theorem joinSpots_mor {s g : Nat} (ne : s ≠ g) (nd : NS.Nodup) (w : WF0 NS per M) (hs : s ∈ M.spots) : Mor M (M.joinSpots NS s g) (fun t => if t = g then s else t) := by
  refine ⟨fun c t e u ⟨n, p, q, h1, h2, d⟩ => ⟨n, p, q, (joinSpots_on ne nd w hs).2 h1, (joinSpots_on ne nd w hs).2 h2, by rw [joinSpots_md ne nd w hs]; exact d⟩, fun p => ?_⟩
  have := (jsA_ok (NS := NS) ne (L := NS) (fun _ h => h) nd w hs).2.1.pl
  show (if (M.jsA NS s g).pl p = g then s else (M.jsA NS s g).pl p) = _
  rw [this]
section
variable {n g : Nat} {c : Str} {rn rg : Rg}
theorem joinRings_on (off : Int) (w : WF0 NS per M) (ne : n ≠ g) (hn : M.ring? n = some rn) (hg : M.ring? g = some rg) (tn : rn.turn = c) (tg : rg.turn = c) {d : Str} {t m : Nat} {q : Int} :
    ((M.joinRings n g c off).on d t m q → (M.on d t m q ∧ m ≠ g) ∨ (d = c ∧ m = n ∧ M.on c t g (q - off))) ∧ (M.on d t m q → m ≠ g → (M.joinRings n g c off).on d t m q) ∧ (M.on c t g q → (M.joinRings n g c off).on c t n (q + off)) := by
  obtain ⟨_, _, _, _, _, _, ly⟩ := joinRings_ok off w ne hn hg tn tg
  obtain ⟨g0, g1⟩ := ring_mem hg
  refine ⟨fun h => ?_, fun h hm => ?_, fun h => ?_⟩
  · change (m, q) ∈ (M.joinRings n g c off).ly t d at h
    rw [ly] at h
    split at h
    · rename_i hd
      subst hd
      rcases List.mem_append.mp h with h | h
      · obtain ⟨a, b⟩ := List.mem_filter.mp h
        exact .inl ⟨a, of_decide_eq_true b⟩
      · obtain ⟨x, hx, e⟩ := List.mem_map.mp h
        obtain ⟨a, b⟩ := List.mem_filter.mp hx
        have b := of_decide_eq_true b
        rw [sts_of hg] at a
        have := (w.seat_iff g0 (s := x.1) (p := x.2)).mp a
        rw [tg, g1, b] at this
        cases e
        exact .inr ⟨rfl, rfl, by rw [Int.add_sub_cancel]; exact this⟩
    · rename_i hd
      refine .inl ⟨h, fun e => hd ?_⟩
      subst e
      obtain ⟨r, h1, h2, _⟩ := w.on_ring (c := d) (s := t) (n := m) (p := q) h
      rw [hg] at h1
      cases h1
      exact h2.symm.trans tg
  · show (m, q) ∈ (M.joinRings n g c off).ly t d
    rw [ly]
    split
    · rename_i hd
      rw [hd] at h
      exact List.mem_append.mpr (.inl (List.mem_filter.mpr ⟨h, decide_eq_true hm⟩))
    · exact h
  · show (n, q + off) ∈ (M.joinRings n g c off).ly t c
    rw [ly, if_pos rfl]
    refine List.mem_append.mpr (.inr (List.mem_map.mpr ⟨(t, q), List.mem_filter.mpr ⟨?_, decide_eq_true rfl⟩, rfl⟩))
    rw [sts_of hg]
    refine (w.seat_iff g0).mpr ?_
    rw [tg, g1]
    exact h
theorem joinRings_mor (off : Int) (w : WF0 NS per M) (ne : n ≠ g) (hn : M.ring? n = some rn) (hg : M.ring? g = some rg) (tn : rn.turn = c) (tg : rg.turn = c) : Mor M (M.joinRings n g c off) id := by
  obtain ⟨_, _, _, pl, _, md, _⟩ := joinRings_ok off w ne hn hg tn tg
  have on := fun {d t m q} => joinRings_on off w ne hn hg tn tg (d := d) (t := t) (m := m) (q := q)
  refine ⟨fun d s e t ⟨m, p, q, h1, h2, dv⟩ => ?_, fun p => by rw [pl]; rfl⟩
  by_cases hm : m = g
  · subst hm
    obtain ⟨r, k1, k2, _⟩ := w.on_ring h1
    rw [hg] at k1
    cases k1
    obtain rfl : d = c := k2.symm.trans tg
    refine ⟨n, p + off, q + off, (on (d := d) (t := s) (m := m) (q := p)).2.2 h1, (on (d := d) (t := t) (m := m) (q := q)).2.2 h2, ?_⟩
    rw [md n ne, if_pos rfl, show p + off + e - (q + off) = p + e - q by omega]
    exact Int.dvd_trans (Int.gcd_dvd_right ..) dv
  · refine ⟨m, p, q, on.2.1 h1 hm, on.2.1 h2 hm, ?_⟩
    rw [md m hm]
    split
    · rename_i e1
      rw [e1] at dv
      exact Int.dvd_trans (Int.gcd_dvd_left ..) dv
    · exact dv
theorem joinRings_vl {s : Nat} {p q : Int} (w : WF0 NS per M) (ne : n ≠ g) (hn : M.ring? n = some rn) (hg : M.ring? g = some rg) (tn : rn.turn = c) (tg : rg.turn = c) (h1 : M.on c s n p) (h2 : M.on c s g q) {X : Type} {A : Mech per X} {V : Nat → X} (v : Vl A M V) : Vl A (M.joinRings n g c (p - q)) V := by
  obtain ⟨_, _, _, _, _, md, _⟩ := joinRings_ok (p - q) w ne hn hg tn tg
  have on := fun {d t m q'} => (joinRings_on (p - q) w ne hn hg tn tg (d := d) (t := t) (m := m) (q := q')).1
  have on_c : ∀ {d t q'}, M.on d t n q' → d = c := fun {d t q'} h => by
    obtain ⟨r, k1, k2, _⟩ := w.on_ring h
    rw [hn] at k1
    cases k1
    exact k2.symm.trans tn
  /- where a spot of either ring lies from s -/
  have at_ : ∀ {t q'}, (M.joinRings n g c (p - q)).on c t n q' → A.act c (q' - p) (V s) = V t := fun {t q'} h => by
    rcases on h with ⟨h, _⟩ | ⟨_, _, h⟩
    · exact v.rel _ _ _ _ _ _ h1 h
    · rw [← v.rel _ _ _ _ _ _ h2 h]
      congr 1
      omega
  have fx : A.act c ((Int.gcd (M.md n) (M.md g) : Nat) : Int) (V s) = V s := A.fix_gcd (v.md _ _ _ _ h1) (v.md _ _ _ _ h2)
  have out : ∀ {d t m q'}, (M.joinRings n g c (p - q)).on d t m q' → m ≠ n → M.on d t m q' := fun {d t m q'} h hm => by
    rcases on h with ⟨h, _⟩ | ⟨_, e, _⟩
    · exact h
    · exact (hm e).elim
  refine ⟨fun d t m p1 u q1 k1 k2 => ?_, fun d t m p1 k1 => ?_⟩
  · by_cases hm : m = n
    · subst hm
      have hd : d = c := by
        rcases on k1 with ⟨h, _⟩ | ⟨e, _⟩
        · exact on_c h
        · exact e
      subst hd
      rw [← at_ k1, ← at_ k2, A.add]
      congr 1
      omega
    · exact v.rel _ _ _ _ _ _ (out k1 hm) (out k2 hm)
  · by_cases hm : m = n
    · subst hm
      have hd : d = c := by
        rcases on k1 with ⟨h, _⟩ | ⟨e, _⟩
        · exact on_c h
        · exact e
      subst hd
      rw [md m ne, if_pos rfl, ← at_ k1, A.add, Int.add_comm, ← A.add, fx]
    · have hg' : m ≠ g := fun e => by
        rcases on k1 with ⟨_, h⟩ | ⟨_, h, _⟩
        · exact h e
        · exact hm h
      rw [md m hg', if_neg hm]
      exact v.md _ _ _ _ (out k1 hm)
end
section
variable {n s : Nat} {c : Str} {rn : Rg}
theorem lessen_on (first : Int) (L : List Int) (w : WF0 NS per M) (hn : M.ring? n = some rn) (tn : rn.turn = c) (hs : s ∈ M.spots) {d : Str} {t m : Nat} {q : Int} :
    ((M.lessen s n c first L).on d t m q → M.on d t m q ∨ (d = c ∧ t = s ∧ m = n ∧ q = first)) ∧ (M.on d t m q → (t = s ∧ d = c ∧ m = n) ∨ (M.lessen s n c first L).on d t m q) ∧ (M.lessen s n c first L).on c s n first := by
  obtain ⟨_, _, _, _, _, _, ly⟩ := lessen_ok first L w hn tn hs
  refine ⟨fun h => ?_, fun h => ?_, ?_⟩
  · change (m, q) ∈ (M.lessen s n c first L).ly t d at h
    rw [ly] at h
    split at h
    · rename_i e
      rcases List.mem_append.mp h with h | h
      · exact .inl (List.mem_filter.mp h).1
      · cases List.mem_singleton.mp h
        exact .inr ⟨e.2, e.1, rfl, rfl⟩
    · exact .inl h
  · by_cases e : t = s ∧ d = c
    · by_cases hm : m = n
      · exact .inl ⟨e.1, e.2, hm⟩
      · right
        show (m, q) ∈ (M.lessen s n c first L).ly t d
        rw [ly, if_pos e]
        exact List.mem_append.mpr (.inl (List.mem_filter.mpr ⟨h, decide_eq_true hm⟩))
    · right
      show (m, q) ∈ (M.lessen s n c first L).ly t d
      rw [ly, if_neg e]
      exact h
  · show (n, first) ∈ (M.lessen s n c first L).ly s c
    rw [ly, if_pos ⟨rfl, rfl⟩]
    exact List.mem_append.mpr (.inr List.mem_cons_self)
theorem lessen_mor (first : Int) (L : List Int) (w : WF0 NS per M) (hn : M.ring? n = some rn) (tn : rn.turn = c) (hs : s ∈ M.spots) (hL : ∀ p, M.on c s n p → p = first ∨ p ∈ L) : Mor M (M.lessen s n c first L) id := by
  obtain ⟨_, _, _, pl, _, md, _⟩ := lessen_ok first L w hn tn hs
  have on := fun {d t m q} => lessen_on first L w hn tn hs (d := d) (t := t) (m := m) (q := q)
  obtain ⟨g1, g2⟩ := gcds_dvd first L (M.md n)
  /- a seat is kept, or moved by a multiple of the modulus -/
  have mv : ∀ {d t m q}, M.on d t m q → ∃ q', (M.lessen s n c first L).on d t m q' ∧ (M.lessen s n c first L).md m ∣ q' - q := fun {d t m q} h => by
    rcases on.2.1 h with ⟨rfl, rfl, rfl⟩ | k
    · refine ⟨first, (on (d := d) (t := t) (m := m) (q := q)).2.2, ?_⟩
      rw [md m, if_pos rfl]
      rcases hL q h with rfl | hq
      · rw [Int.sub_self]
        exact Int.dvd_zero _
      · have := g2 q hq
        rw [show first - q = -(q - first) by omega]
        exact Int.dvd_neg.mpr this
    · exact ⟨q, k, by rw [Int.sub_self]; exact Int.dvd_zero _⟩
  refine ⟨fun d t e u ⟨m, p, q, h1, h2, dv⟩ => ?_, fun p => by rw [pl]; rfl⟩
  obtain ⟨p', a1, a2⟩ := mv h1
  obtain ⟨q', b1, b2⟩ := mv h2
  refine ⟨m, p', q', a1, b1, ?_⟩
  have dv' : (M.lessen s n c first L).md m ∣ p + e - q := by
    rw [md m]
    split
    · rename_i em
      rw [em] at dv
      exact Int.dvd_trans g1 dv
    · exact dv
  rw [show p' + e - q' = (p' - p) + (p + e - q) - (q' - q) by omega]
  exact Int.dvd_sub (Int.dvd_add a2 dv') b2
theorem lessen_vl {first : Int} {L : List Int} (w : WF0 NS per M) (hn : M.ring? n = some rn) (tn : rn.turn = c) (h1 : M.on c s n first) (hL : ∀ p ∈ L, M.on c s n p) {X : Type} {A : Mech per X} {V : Nat → X} (v : Vl A M V) : Vl A (M.lessen s n c first L) V := by
  have hs := (w.ln _ _ _ _ h1).1
  obtain ⟨_, _, _, _, _, md, _⟩ := lessen_ok first L w hn tn hs
  have on := fun {d t m q} => (lessen_on first L w hn tn hs (d := d) (t := t) (m := m) (q := q)).1
  have on' : ∀ {d t m q}, (M.lessen s n c first L).on d t m q → M.on d t m q := fun {d t m q} h => by
    rcases on h with h | ⟨rfl, rfl, rfl, rfl⟩
    · exact h
    · exact h1
  have fx : ∀ (L : List Int) (m : Int), (∀ p ∈ L, M.on c s n p) → A.act c m (V s) = V s → A.act c (RM.gcds m first L) (V s) = V s := by
    intro L
    induction L with
    | nil => exact fun m _ h => h
    | cons p L ih =>
      intro m hp hm
      refine ih _ (fun q hq => hp q (List.mem_cons_of_mem _ hq)) (A.fix_gcd hm ?_)
      exact v.rel _ _ _ _ _ _ h1 (hp p List.mem_cons_self)
  refine ⟨fun d t m p u q k1 k2 => v.rel _ _ _ _ _ _ (on' k1) (on' k2), fun d t m p k => ?_⟩
  rw [md m]
  split
  · rename_i em
    subst em
    have k2 := on' k
    obtain ⟨r, r1, r2, _⟩ := w.on_ring k2
    rw [hn] at r1
    cases r1
    obtain rfl : d = c := r2.symm.trans tn
    rw [← v.rel _ _ _ _ _ _ h1 k2, A.add, Int.add_comm, ← A.add, fx L _ hL (v.md _ _ _ _ h1)]
  · exact v.md _ _ _ _ (on' k)
end
end
end Tr

/-! # The map of a book (plain): closing up: each step is less, and means the same. -/
namespace Tr
open PySem L2 TL
theorem sumr_le {α : Type} {f g : α → Nat} : ∀ {l : List α}, (∀ x ∈ l, f x ≤ g x) → (l.map f).sum ≤ (l.map g).sum
  | [], _ => Nat.le_refl _
  | x :: l, h => by
    have := sumr_le (l := l) fun y hy => h y (List.mem_cons_of_mem _ hy)
    have := h x List.mem_cons_self
    rw [List.map_cons, List.map_cons, List.sum_cons, List.sum_cons]
    omega
theorem sumr_lt {α : Type} {f g : α → Nat} : ∀ {l : List α}, (∀ x ∈ l, f x ≤ g x) → (∃ x ∈ l, f x < g x) → (l.map f).sum < (l.map g).sum
  | [], _, ⟨_, h, _⟩ => by cases h
  | x :: l, h, ⟨y, hy, lt⟩ => by
    rw [List.map_cons, List.map_cons, List.sum_cons, List.sum_cons]
    have h1 := h x List.mem_cons_self
    rcases List.mem_cons.mp hy with rfl | hy
    · have := sumr_le (l := l) fun y hy => h y (List.mem_cons_of_mem _ hy)
      omega
    · have := sumr_lt (l := l) (fun y hy => h y (List.mem_cons_of_mem _ hy)) ⟨y, hy, lt⟩
      omega
theorem sumr_erase {f : Nat → Nat} {g : Nat} : ∀ {l : List Nat}, g ∈ l → (l.map f).sum = f g + ((l.erase g).map f).sum
  | [], h => by cases h
  | x :: l, h => by
    by_cases e : x = g
    · rw [e, List.erase_cons_head, List.map_cons, List.sum_cons]
    · rw [List.erase_cons_tail (by simpa using e), List.map_cons, List.map_cons, List.sum_cons, List.sum_cons, sumr_erase ((List.mem_cons.mp h).resolve_left fun q => e q.symm)]
      omega
theorem sumr_add {f g : Nat → Nat} {s k : Nat} : ∀ {l : List Nat}, l.Nodup → (∀ x ∈ l, g x = if x = s then f x + k else f x) → (l.map g).sum ≤ (l.map f).sum + k
  | [], _, _ => Nat.zero_le _
  | x :: l, nd, h => by
    obtain ⟨n1, n2⟩ := List.nodup_cons.mp nd
    rw [List.map_cons, List.map_cons, List.sum_cons, List.sum_cons, h x List.mem_cons_self]
    by_cases e : x = s
    · have : (l.map g).sum ≤ (l.map f).sum := sumr_le fun y hy => by
        rw [h y (List.mem_cons_of_mem _ hy), if_neg (fun q => n1 (by rw [e, ← q]; exact hy))]
        exact Nat.le_refl _
      rw [if_pos e]
      omega
    · have := sumr_add n2 fun y hy => h y (List.mem_cons_of_mem _ hy)
      rw [if_neg e]
      omega
theorem filterr_len {α : Type} (p : α → Bool) (l : List α) : (l.filter p).length + (l.filter fun x => !p x).length = l.length := by
  induction l with
  | nil => rfl
  | cons x l ih =>
    rw [List.filter_cons, List.filter_cons]
    cases p x <;> simp <;> omega
section
variable {NS : List Str} {per : Str → Int} {M N : RM}
def lyN (NS : List Str) (M : RM) (s : Nat) : Nat := (NS.map fun c => (M.ly s c).length).sum
/-- all seats together -/
def tot (NS : List Str) (M : RM) : Nat := (M.spots.map (lyN NS M)).sum
def mu (NS : List Str) (M : RM) : Nat := M.rings.length + M.spots.length + tot NS M
theorem ly_le {s : Nat} {c : Str} (hc : c ∈ NS) : (M.ly s c).length ≤ lyN NS M s := by
  unfold lyN
  induction NS with
  | nil => cases hc
  | cons d l ih =>
    rw [List.map_cons, List.sum_cons]
    rcases List.mem_cons.mp hc with rfl | h
    · omega
    · have := ih h
      omega
theorem lyN_le {s : Nat} (hs : s ∈ M.spots) : lyN NS M s ≤ tot NS M := by
  unfold tot
  generalize M.spots = l at *
  induction l with
  | nil => cases hs
  | cons d l ih =>
    rw [List.map_cons, List.sum_cons]
    rcases List.mem_cons.mp hs with rfl | h
    · omega
    · have := ih h
      omega
/-- what closing up leaves -/
structure Sim (NS : List Str) (per : Str → Int) (ps : List Str) (M N : RM) : Prop where
  w : WF0 NS per N
  fl : Fl NS N
  plo : ∀ p ∈ ps, N.pl p ∈ N.spots
  mor : ∃ f, Mor M N f
  vl : ∀ {X : Type} {A : Mech per X} {V : Nat → X}, Vl A M V → Vl A N V ∧ ∀ p, V (N.pl p) = V (M.pl p)
  laid : N.laid = M.laid
  sp : N.spots.length ≤ M.spots.length
  rl : N.rings.length ≤ M.rings.length
  tt : tot NS N ≤ tot NS M
theorem Sim.refl {ps : List Str} (w : WF0 NS per M) (f : Fl NS M) (h : ∀ p ∈ ps, M.pl p ∈ M.spots) : Sim NS per ps M M :=
  ⟨w, f, h, ⟨id, Ext.refl.mor⟩, fun v => ⟨v, fun _ => rfl⟩, rfl, Nat.le_refl _, Nat.le_refl _, Nat.le_refl _⟩
theorem Sim.trans {ps : List Str} {K : RM} (a : Sim NS per ps M N) (b : Sim NS per ps N K) : Sim NS per ps M K := by
  obtain ⟨f, hf⟩ := a.mor
  obtain ⟨g, hg⟩ := b.mor
  exact ⟨b.w, b.fl, b.plo, ⟨g ∘ f, hf.trans hg⟩, fun v => ⟨(b.vl (a.vl v).1).1, fun p => ((b.vl (a.vl v).1).2 p).trans ((a.vl v).2 p)⟩, b.laid.trans a.laid, Nat.le_trans b.sp a.sp, Nat.le_trans b.rl a.rl, Nat.le_trans b.tt a.tt⟩
theorem tot_congr (hs : N.spots = M.spots) (h : ∀ s ∈ M.spots, ∀ c ∈ NS, (N.ly s c).length ≤ (M.ly s c).length) : tot NS N ≤ tot NS M := by
  unfold tot
  rw [hs]
  exact sumr_le fun s k => sumr_le fun c hc => h s k c hc
theorem st_len (w : WF0 NS per M) {g : Nat} {c : Str} {rg : Rg} (hg : M.ring? g = some rg) (tg : rg.turn = c) (t : Nat) : ((M.sts g).filter fun x => decide (x.1 = t)).length = ((M.ly t c).filter fun x => decide (x.1 = g)).length := by
  obtain ⟨g0, g1⟩ := ring_mem hg
  have := congrArg List.length (w.st rg g0 t)
  rw [List.length_map, List.length_map, tg, g1] at this
  rw [sts_of hg]
  exact this
/-- two rings of a spot made one -/
theorem sim_rings {ps : List Str} {n g s : Nat} {c : Str} {p q : Int} (w : WF0 NS per M) (f : Fl NS M) (hp : ∀ p ∈ ps, M.pl p ∈ M.spots) (ne : n ≠ g) (h1 : M.on c s n p) (h2 : M.on c s g q) :
    Sim NS per ps M (M.joinRings n g c (p - q)) ∧ mu NS (M.joinRings n g c (p - q)) < mu NS M := by
  obtain ⟨rn, hn, tn, hs, hc⟩ := w.on_ring h1
  obtain ⟨rg, hg, tg, _⟩ := w.on_ring h2
  obtain ⟨w', sp, la, pl, rl, md, ly⟩ := joinRings_ok (p - q) w ne hn hg tn tg
  have lens : ∀ t d, ((M.joinRings n g c (p - q)).ly t d).length = (M.ly t d).length := fun t d => by
    rw [ly]
    split
    · rename_i hd
      rw [List.length_append, List.length_map, st_len w hg tg, hd]
      have := filterr_len (fun x : Nat × Int => decide (x.1 = g)) (M.ly t c)
      have e : ((M.ly t c).filter fun x => decide (x.1 ≠ g)) = (M.ly t c).filter fun x => !decide (x.1 = g) := List.filter_congr fun x _ => decide_not
      rw [e]
      omega
    · rfl
  have tt := tot_congr (NS := NS) sp fun s _ c _ => Nat.le_of_eq (lens s c)
  refine ⟨⟨w', fun t ht d hd e => ?_, fun x hx => by rw [pl, sp]; exact hp x hx, ⟨id, joinRings_mor (p - q) w ne hn hg tn tg⟩, fun v => ⟨joinRings_vl w ne hn hg tn tg h1 h2 v, fun x => by rw [pl]⟩, la, by rw [sp]; exact Nat.le_refl _, by omega, tt⟩, ?_⟩
  · have := lens t d
    rw [e] at this
    rw [sp] at ht
    exact f t ht d hd (List.eq_nil_of_length_eq_zero this.symm)
  · unfold mu
    rw [sp]
    omega
/-- a spot left at one position -/
theorem sim_lessen {ps : List Str} {n s : Nat} {c : Str} {p : Int} {rest : List (Nat × Int)} (w : WF0 NS per M) (f : Fl NS M) (hp : ∀ p ∈ ps, M.pl p ∈ M.spots) (h : M.ly s c = (n, p) :: rest) (hr : rest ≠ []) (hall : ∀ x ∈ rest, x.1 = n) :
    Sim NS per ps M (M.lessen s n c p (rest.map (·.2))) ∧ mu NS (M.lessen s n c p (rest.map (·.2))) < mu NS M := by
  have h1 : M.on c s n p := by show (n, p) ∈ M.ly s c; rw [h]; exact List.mem_cons_self
  obtain ⟨rn, hn, tn, hs, hc⟩ := w.on_ring h1
  obtain ⟨w', sp, la, pl, rl, md, ly⟩ := lessen_ok p (rest.map (·.2)) w hn tn hs
  have lsc : ((M.lessen s n c p (rest.map (·.2))).ly s c) = [(n, p)] := by
    rw [ly, if_pos ⟨rfl, rfl⟩]
    have : (M.ly s c).filter (fun x => decide (x.1 ≠ n)) = [] := List.filter_eq_nil_iff.mpr fun x hx q => by
      rw [h] at hx
      have q := of_decide_eq_true q
      rcases List.mem_cons.mp hx with rfl | hx
      · exact q rfl
      · exact q (hall x hx)
    rw [this]
    rfl
  have lens : ∀ t d, ((M.lessen s n c p (rest.map (·.2))).ly t d).length ≤ (M.ly t d).length := fun t d => by
    by_cases e : t = s ∧ d = c
    · rw [e.1, e.2, lsc, h]
      exact Nat.succ_le_succ (Nat.zero_le _)
    · rw [ly, if_neg e]
      exact Nat.le_refl _
  have lt : ((M.lessen s n c p (rest.map (·.2))).ly s c).length < (M.ly s c).length := by
    rw [lsc, h]
    cases rest with
    | nil => exact (hr rfl).elim
    | cons x l => show 1 < l.length + 1 + 1; omega
  have tt : tot NS (M.lessen s n c p (rest.map (·.2))) < tot NS M := by
    unfold tot
    rw [sp]
    exact sumr_lt (fun t _ => sumr_le fun d _ => lens t d) ⟨s, hs, sumr_lt (fun d _ => lens s d) ⟨c, hc, lt⟩⟩
  refine ⟨⟨w', fun t ht d hd e => ?_, fun x hx => by rw [pl, sp]; exact hp x hx, ⟨id, lessen_mor p _ w hn tn hs fun q hq => ?_⟩, fun v => ⟨lessen_vl w hn tn h1 (fun q hq => ?_) v, fun x => by rw [pl]⟩, la, by rw [sp]; exact Nat.le_refl _, by omega, Nat.le_of_lt tt⟩, ?_⟩
  · by_cases e2 : t = s ∧ d = c
    · rw [e2.1, e2.2, lsc] at e
      cases e
    · rw [ly, if_neg e2] at e
      rw [sp] at ht
      exact f t ht d hd e
  · have hq : (n, q) ∈ M.ly s c := hq
    rw [h] at hq
    rcases List.mem_cons.mp hq with e | e
    · cases e
      exact .inl rfl
    · exact .inr (List.mem_map.mpr ⟨_, e, rfl⟩)
  · obtain ⟨x, hx, rfl⟩ := List.mem_map.mp hq
    show (n, x.2) ∈ M.ly s c
    rw [h, ← hall x hx]
    exact List.mem_cons_of_mem _ hx
  · unfold mu
    rw [sp]
    omega
/-- two spots made one -/
theorem sim_spots {ps : List Str} {s g : Nat} (nd : NS.Nodup) (w : WF0 NS per M) (f : Fl NS M) (hp : ∀ p ∈ ps, M.pl p ∈ M.spots) (ne : s ≠ g) (hs : s ∈ M.spots) (hg : g ∈ M.spots) (hv : ∀ {X : Type} {A : Mech per X} {V : Nat → X}, Vl A M V → V s = V g) :
    Sim NS per ps M (M.joinSpots NS s g) ∧ mu NS (M.joinSpots NS s g) < mu NS M := by
  obtain ⟨w1, l1, h1⟩ := jsA_ok (NS := NS) ne (L := NS) (fun _ h => h) nd w hs
  have spE : (M.joinSpots NS s g).spots = M.spots.erase g := by
    show (M.jsA NS s g).spots.erase g = _
    rw [l1.spots]
  have plE : ∀ p, (M.joinSpots NS s g).pl p = if M.pl p = g then s else M.pl p := (joinSpots_mor ne nd w hs).pl
  have sl := List.length_erase_of_mem hg
  have pos := List.length_pos_of_mem hg
  have tt : tot NS (M.joinSpots NS s g) ≤ tot NS M := by
    unfold tot
    rw [spE, sumr_erase hg, Nat.add_comm]
    refine sumr_add (s := s) (w.sd.erase g) fun t ht => ?_
    have hn := ((List.Nodup.mem_erase_iff w.sd).mp ht).1
    unfold lyN
    by_cases e : t = s
    · rw [if_pos e]
      have : ∀ L : List Str, (∀ c ∈ L, c ∈ NS) → (L.map fun c => ((M.joinSpots NS s g).ly t c).length).sum = (L.map fun c => (M.ly t c).length).sum + (L.map fun c => (M.ly g c).length).sum := by
        intro L
        induction L with
        | nil => intro _; rfl
        | cons c L ih =>
          intro hL
          rw [List.map_cons, List.map_cons, List.map_cons, List.sum_cons, List.sum_cons, List.sum_cons, ih fun d hd => hL d (List.mem_cons_of_mem _ hd), joinSpots_ly ne nd w hs, if_pos (hL c List.mem_cons_self), if_pos e, List.length_append, e]
          omega
      exact this NS fun _ h => h
    · rw [if_neg e]
      congr 1
      refine List.map_congr_left fun c hc => ?_
      rw [joinSpots_ly ne nd w hs, if_pos hc, if_neg e, if_neg hn]
  refine ⟨⟨joinSpots_ok ne nd w hs, joinSpots_fl ne nd w hs f, fun p q => ?_, ⟨_, joinSpots_mor ne nd w hs⟩, fun v => ⟨joinSpots_vl ne nd w hs v (hv v), fun p => ?_⟩, l1.laid, by rw [spE]; omega, by exact Nat.le_of_eq l1.len, tt⟩, ?_⟩
  · rw [plE, spE, List.Nodup.mem_erase_iff w.sd]
    split
    · exact ⟨ne, hs⟩
    · rename_i e
      exact ⟨e, hp p q⟩
  · rw [plE]
    split
    · rename_i e
      rw [e]
      exact hv v
    · rfl
  · unfold mu
    have : (M.joinSpots NS s g).rings.length = M.rings.length := l1.len
    rw [spE, this]
    omega
/-- a position by the modulus -/
def plc (m z : Int) : Int := if 0 < m then z % m else z
theorem plc_iff {m a b : Int} (h : 0 ≤ m) : plc m a = plc m b ↔ m ∣ a - b := by
  unfold plc
  rcases Int.lt_or_eq_of_le h with g | g
  · rw [if_pos g, if_pos g]
    constructor
    · intro e
      exact Int.dvd_of_emod_eq_zero (Int.emod_eq_emod_iff_emod_sub_eq_zero.mp e)
    · intro d
      exact Int.emod_eq_emod_iff_emod_sub_eq_zero.mpr (Int.emod_eq_zero_of_dvd d)
  · subst g
    rw [if_neg (by omega), if_neg (by omega), Int.zero_dvd]
    omega
/-- two spots at one position of a ring -/
theorem sim_ring {ps : List Str} {r : Rg} {s t : Nat} {p q : Int} (nd : NS.Nodup) (w : WF0 NS per M) (f : Fl NS M) (hp : ∀ p ∈ ps, M.pl p ∈ M.spots) (hr : r ∈ M.rings) (h1 : (s, p) ∈ r.seats) (h2 : (t, q) ∈ r.seats) (e : plc r.mod p = plc r.mod q) (ne : s ≠ t) :
    Sim NS per ps M (M.joinSpots NS s t) ∧ mu NS (M.joinSpots NS s t) < mu NS M := by
  have k1 := (w.seat_iff hr).mp h1
  have k2 := (w.seat_iff hr).mp h2
  refine sim_spots nd w f hp ne (w.ln _ _ _ _ k1).1 (w.ln _ _ _ _ k2).1 fun {X A V} v => ?_
  have d := (plc_iff (w.md r hr).2.1).mp e
  have := v.rel _ _ _ _ _ _ k1 k2
  rw [← this]
  refine (A.fix_dvd (v.md _ _ _ _ k1) ?_).symm
  rw [md_of (w.ring hr), show q - p = -(p - q) by omega]
  exact Int.dvd_neg.mpr d
/-- nothing is left to be done -/
structure ClM (NS : List Str) (M : RM) : Prop where
  one : ∀ s ∈ M.spots, ∀ c ∈ NS, (M.ly s c).length = 1
  inj : ∀ r ∈ M.rings, ∀ s p t q, (s, p) ∈ r.seats → (t, q) ∈ r.seats → plc r.mod p = plc r.mod q → s = t
theorem seats_len (w : WF0 NS per M) {r : Rg} (hr : r ∈ M.rings) : r.seats.length ≤ tot NS M := by
  have hc := (w.md r hr).1
  have key : ∀ (l : List Nat) (L : List (Nat × Int)), l.Nodup → (∀ x ∈ L, x.1 ∈ l) → L.length = (l.map fun s => (L.filter fun x => decide (x.1 = s)).length).sum := by
    intro l
    induction l with
    | nil =>
      intro L _ h
      cases L with
      | nil => rfl
      | cons x L => exact absurd (h x List.mem_cons_self) List.not_mem_nil
    | cons s l ih =>
      intro L nd h
      obtain ⟨n1, n2⟩ := List.nodup_cons.mp nd
      rw [List.map_cons, List.sum_cons]
      have e1 := filterr_len (fun x : Nat × Int => decide (x.1 = s)) L
      have e2 := ih (L.filter fun x => !decide (x.1 = s)) n2 fun x hx => by
        obtain ⟨a, b⟩ := List.mem_filter.mp hx
        refine (List.mem_cons.mp (h x a)).resolve_left fun e => ?_
        rw [decide_eq_true e] at b
        cases b
      have e3 : (l.map fun t => ((L.filter fun x => !decide (x.1 = s)).filter fun x => decide (x.1 = t)).length).sum = (l.map fun t => (L.filter fun x => decide (x.1 = t)).length).sum := by
        congr 1
        refine List.map_congr_left fun t ht => ?_
        rw [List.filter_filter]
        congr 1
        refine List.filter_congr fun x _ => ?_
        by_cases e : x.1 = t
        · rw [decide_eq_true e, decide_eq_false (fun q => n1 (by rw [← q, e]; exact ht))]
          rfl
        · rw [decide_eq_false e]
          rfl
      omega
  rw [key M.spots r.seats w.sd fun x hx => (w.ln _ _ _ _ ((w.seat_iff hr (s := x.1) (p := x.2)).mp hx)).1]
  unfold tot
  refine sumr_le fun s _ => ?_
  have := congrArg List.length (w.st r hr s)
  rw [List.length_map, List.length_map] at this
  rw [this]
  exact Nat.le_trans (List.length_filter_le _ _) (ly_le hc)
end
end Tr

/-! # The map of a book (plain): facts laid; what a closed map tells is what follows. -/
namespace Tr
open PySem L2 TL
section
variable {NS : List Str} {per : Str → Int} {M N : RM}
/-- new spots along a row -/
def RM.layRow (NS : List Str) (per : Str → Int) : RM → Nat → List SI → RM × Nat
  | M, s, [] => (M, s)
  | M, s, c :: x => RM.layRow NS per (M.lay NS per s c.1 c.2) M.laid x
def InS (NS : List Str) (x : List SI) : Prop := ∀ c ∈ x, c.1 ∈ NS
structure LRok (NS : List Str) (per : Str → Int) (M N : RM) (s u : Nat) (x : List SI) : Prop where
  w : WF0 NS per N
  fl : Fl NS N
  ext : Ext M N
  tr : TrR N s x u
  us : u ∈ N.spots
  laid : N.laid = M.laid + x.length
  sp : N.spots.length = M.spots.length + x.length
  rl : N.rings.length ≤ M.rings.length + x.length * NS.length
  tt : tot NS N ≤ tot NS M + x.length * NS.length
  vl : ∀ {X : Type} {A : Mech per X} {V : Nat → X}, Vl A M V → ∃ V' : Nat → X, Vl A N V' ∧ (∀ t ∈ M.spots, V' t = V t) ∧ V' u = A.row (V s) x
theorem TrR.ext (h : Ext M N) {s t : Nat} {x : List SI} (r : TrR M s x t) : TrR N s x t := h.mor.tr r
theorem lay_tot (w : WF0 NS per M) {s : Nat} {c : Str} {e : Int} (h : LayOk NS per M (M.lay NS per s c e) s c e) : tot NS (M.lay NS per s c e) ≤ tot NS M + NS.length := by
  unfold tot
  rw [h.spots, List.map_append, List.sum_append]
  have e1 : (M.spots.map (lyN NS (M.lay NS per s c e))).sum ≤ (M.spots.map (lyN NS M)).sum := sumr_le fun t ht => sumr_le fun d _ => by
    have := w.sb t ht
    rw [h.ly t d (by omega)]
    exact Nat.le_refl _
  have e2 : lyN NS (M.lay NS per s c e) M.laid ≤ NS.length := by
    unfold lyN
    have : ∀ L : List Str, (∀ d ∈ L, d ∈ NS) → (L.map fun c_1 => ((M.lay NS per s c e).ly M.laid c_1).length).sum ≤ L.length := by
      intro L
      induction L with
      | nil => intro _; exact Nat.le_refl _
      | cons d L ih =>
        intro hL
        rw [List.map_cons, List.sum_cons, List.length_cons, h.lys d (hL d List.mem_cons_self)]
        have := ih fun d hd => hL d (List.mem_cons_of_mem _ hd)
        omega
    exact this NS fun _ h => h
  rw [List.map_singleton, List.sum_singleton]
  omega
theorem layRow_ok (nd : NS.Nodup) (hp : ∀ c ∈ NS, 0 ≤ per c) : ∀ {x : List SI} {M : RM} {s : Nat}, WF0 NS per M → Fl NS M → InS NS x → s ∈ M.spots → LRok NS per M (RM.layRow NS per M s x).1 s (RM.layRow NS per M s x).2 x
  | [], M, s, w, f, _, hs => ⟨w, f, Ext.refl, rfl, hs, rfl, rfl, by show M.rings.length ≤ M.rings.length + 0 * _; omega, by show tot NS M ≤ tot NS M + 0 * _; omega, fun {X A V} v => ⟨V, v, fun _ _ => rfl, rfl⟩⟩
  | c :: x, M, s, w, f, hx, hs => by
    have h := lay_ok nd hp w f c.2 hs (hx c List.mem_cons_self)
    have hn : M.laid ∈ (M.lay NS per s c.1 c.2).spots := by rw [h.spots]; exact List.mem_append.mpr (.inr List.mem_cons_self)
    have k := layRow_ok nd hp (x := x) h.w h.fl (fun d hd => hx d (List.mem_cons_of_mem _ hd)) hn
    have lt := lay_tot w h
    show LRok NS per M (RM.layRow NS per (M.lay NS per s c.1 c.2) M.laid x).1 s (RM.layRow NS per (M.lay NS per s c.1 c.2) M.laid x).2 (c :: x)
    generalize RM.layRow NS per (M.lay NS per s c.1 c.2) M.laid x = K at k
    have hlen := h.len
    have hm : (x.length + 1) * NS.length = x.length * NS.length + NS.length := Nat.succ_mul _ _
    refine ⟨k.w, k.fl, h.ext.trans k.ext, ⟨M.laid, k.ext.rl h.rl, k.tr⟩, k.us, ?_, ?_, ?_, ?_, fun {X A V} v => ?_⟩
    · rw [k.laid, h.laid, List.length_cons]
      omega
    · rw [k.sp, h.spots, List.length_append]
      show M.spots.length + 1 + x.length = M.spots.length + (x.length + 1)
      omega
    · rw [List.length_cons, hm]
      have := k.rl
      omega
    · rw [List.length_cons, hm]
      have := k.tt
      omega
    · obtain ⟨V', v1, v2, v3⟩ := k.vl (h.vl v)
      refine ⟨V', v1, fun t ht => ?_, ?_⟩
      · rw [v2 t (h.ext.sp t ht), if_neg]
        have := w.sb t ht
        omega
      · rw [v3, if_pos rfl]
        rfl
/-- a fact with steps: laid up to its last step, which leads to the other place -/
def RM.addS (M : RM) (NS : List Str) (per : Str → Int) (a b : Nat) (y : List SI) (c : SI) : RM :=
  (RM.layRow NS per M a y).1.seat b (((RM.layRow NS per M a y).1.ly (RM.layRow NS per M a y).2 c.1).headD (0, 0)).1 c.1 ((((RM.layRow NS per M a y).1.ly (RM.layRow NS per M a y).2 c.1).headD (0, 0)).2 + c.2)
/-- a fact put in -/
structure AddOk (NS : List Str) (per : Str → Int) (ps : List Str) (M N : RM) (a b : Nat) (x : List SI) (k : Nat) : Prop where
  w : WF0 NS per N
  fl : Fl NS N
  plo : ∀ p ∈ ps, N.pl p ∈ N.spots
  mor : ∃ f, Mor M N f ∧ TrR N (f a) x (f b)
  sp : N.spots.length ≤ M.spots.length + k
  laid : N.laid ≤ M.laid + k
  rl : N.rings.length ≤ M.rings.length + k * NS.length
  tt : tot NS N ≤ tot NS M + k * NS.length + 1
  vl : ∀ {X : Type} {A : Mech per X} {V : Nat → X}, Vl A M V → A.row (V a) x = V b → ∃ V' : Nat → X, Vl A N V' ∧ ∀ p ∈ ps, V' (N.pl p) = V (M.pl p)
theorem head_on (f : Fl NS M) {s : Nat} {c : Str} (hs : s ∈ M.spots) (hc : c ∈ NS) : ∃ n p, M.on c s n p ∧ (M.ly s c).headD (0, 0) = (n, p) := by
  cases eq : M.ly s c with
  | nil => exact (f s hs c hc eq).elim
  | cons x l => exact ⟨x.1, x.2, by show x ∈ M.ly s c; rw [eq]; exact List.mem_cons_self, rfl⟩
theorem seat_tot {s n : Nat} {c : Str} {p : Int} (nd : NS.Nodup) (w : WF0 NS per M) : tot NS (M.seat s n c p) ≤ tot NS M + 1 := by
  unfold tot
  show (M.spots.map (lyN NS (M.seat s n c p))).sum ≤ _
  have key : ∀ (L : List Str), L.Nodup → ∀ t, (L.map fun d => ((M.seat s n c p).ly t d).length).sum ≤ (L.map fun d => (M.ly t d).length).sum + if t = s then 1 else 0 := by
    intro L
    induction L with
    | nil => intro _ t; exact Nat.zero_le _
    | cons d L ih =>
      intro nd t
      obtain ⟨n1, n2⟩ := List.nodup_cons.mp nd
      rw [List.map_cons, List.map_cons, List.sum_cons, List.sum_cons, ly_seat]
      by_cases e : t = s ∧ d = c
      · have : (L.map fun d => ((M.seat s n c p).ly t d).length) = L.map fun d => (M.ly t d).length := List.map_congr_left fun d' hd' => by
          rw [ly_seat, if_neg]
          intro q
          exact n1 (by rw [e.2, ← q.2]; exact hd')
        rw [if_pos e, if_pos e.1, List.length_append, this]
        show _ + 1 + _ ≤ _
        omega
      · rw [if_neg e]
        have := ih n2 t
        omega
  have h1 : ∀ l : List Nat, l.Nodup → (l.map (lyN NS (M.seat s n c p))).sum ≤ (l.map (lyN NS M)).sum + 1 := by
    intro l
    induction l with
    | nil => intro _; exact Nat.zero_le _
    | cons t l ih =>
      intro ndl
      obtain ⟨n1, n2⟩ := List.nodup_cons.mp ndl
      rw [List.map_cons, List.map_cons, List.sum_cons, List.sum_cons]
      have k := key NS nd t
      unfold lyN at *
      by_cases e : t = s
      · have : (l.map fun s_1 => (NS.map fun c_1 => ((M.seat s n c p).ly s_1 c_1).length).sum).sum ≤ (l.map fun s_1 => (NS.map fun c_1 => (M.ly s_1 c_1).length).sum).sum := sumr_le fun t' ht' => by
          have := key NS nd t'
          rw [if_neg (fun q => n1 (by rw [e, ← q]; exact ht'))] at this
          exact this
        rw [if_pos e] at k
        omega
      · have := ih n2
        rw [if_neg e] at k
        omega
  exact h1 M.spots w.sd
theorem addS_ok {ps : List Str} {a b : Nat} {y : List SI} {c : SI} (nd : NS.Nodup) (hp : ∀ c ∈ NS, 0 ≤ per c) (w : WF0 NS per M) (f : Fl NS M) (plo : ∀ p ∈ ps, M.pl p ∈ M.spots) (hy : InS NS y) (hc : c.1 ∈ NS) (ha : a ∈ M.spots) (hb : b ∈ M.spots) :
    AddOk NS per ps M (M.addS NS per a b y c) a b (y ++ [c]) y.length := by
  have h := layRow_ok nd hp w f hy ha
  unfold RM.addS
  generalize RM.layRow NS per M a y = K at h
  obtain ⟨n, p, h1, h2⟩ := head_on h.fl h.us hc
  rw [h2]
  dsimp only
  obtain ⟨r, r1, r2, _⟩ := h.w.on_ring h1
  have hb' := h.ext.sp b hb
  have w' := h.w.seat (s := b) (p := p + c.2) hb' hc r1 r2
  have ex : Ext K.1 (K.1.seat b n c.1 (p + c.2)) := Ext.seat b n c.1 (p + c.2)
  refine ⟨w', fun t ht d hd e => ?_, fun q hq => ?_, ⟨id, (h.ext.trans ex).mor, TrR.app (h.tr.ext ex) ⟨b, ⟨n, p, p + c.2, ex.on _ _ _ _ h1, on_seat b n c.1 (p + c.2), by rw [Int.sub_self]; exact Int.dvd_zero _⟩, rfl⟩⟩, Nat.le_of_eq h.sp, Nat.le_of_eq h.laid, ?_, ?_, fun {X A V} v hv => ?_⟩
  · have e : (K.1.seat b n c.1 (p + c.2)).ly t d = [] := e
    rw [ly_seat] at e
    split at e
    · exact List.append_ne_nil_of_right_ne_nil _ (List.cons_ne_nil _ _) e
    · exact h.fl t ht d hd e
  · show K.1.pl q ∈ K.1.spots
    rw [h.ext.pl]
    exact h.ext.sp _ (plo q hq)
  · show (RM.mapR n _ K.1.rings).length ≤ _
    unfold RM.mapR
    rw [List.length_map]
    exact h.rl
  · have := seat_tot (s := b) (n := n) (c := c.1) (p := p + c.2) nd h.w
    have := h.tt
    omega
  · obtain ⟨V', v1, v2, v3⟩ := h.vl v
    refine ⟨V', v1.seat (s0 := K.2) (p0 := p) h1 ?_, fun q hq => ?_⟩
    · rw [v2 b hb, v3, ← hv, A.row_app, show p + c.2 - p = c.2 by omega]
      rfl
    · show V' (K.1.pl q) = _
      rw [h.ext.pl]
      exact v2 _ (plo q hq)
theorem addJ_ok {ps : List Str} {a b : Nat} (nd : NS.Nodup) (w : WF0 NS per M) (f : Fl NS M) (plo : ∀ p ∈ ps, M.pl p ∈ M.spots) (ha : a ∈ M.spots) (hb : b ∈ M.spots) :
    AddOk NS per ps M (if a = b then M else M.joinSpots NS a b) a b [] 0 := by
  by_cases e : a = b
  · rw [if_pos e]
    exact ⟨w, f, plo, ⟨id, Ext.refl.mor, e⟩, Nat.le_refl _, Nat.le_refl _, by omega, by omega, fun {X A V} v _ => ⟨V, v, fun _ _ => rfl⟩⟩
  · rw [if_neg e]
    have hm := joinSpots_mor e nd w ha
    obtain ⟨w1, l1, h1⟩ := jsA_ok (NS := NS) e (L := NS) (fun _ h => h) nd w ha
    /- all but the states is as with spots that are alike -/
    have spE : (M.joinSpots NS a b).spots = M.spots.erase b := by
      show (M.jsA NS a b).spots.erase b = _
      rw [l1.spots]
    have sl := List.length_erase_of_mem hb
    have tt : tot NS (M.joinSpots NS a b) ≤ tot NS M := by
      unfold tot
      rw [spE, sumr_erase hb, Nat.add_comm]
      refine sumr_add (s := a) (w.sd.erase b) fun t ht => ?_
      have hn := ((List.Nodup.mem_erase_iff w.sd).mp ht).1
      unfold lyN
      by_cases e2 : t = a
      · rw [if_pos e2]
        have : ∀ L : List Str, (∀ c ∈ L, c ∈ NS) → (L.map fun c => ((M.joinSpots NS a b).ly t c).length).sum = (L.map fun c => (M.ly t c).length).sum + (L.map fun c => (M.ly b c).length).sum := by
          intro L
          induction L with
          | nil => intro _; rfl
          | cons c L ih =>
            intro hL
            rw [List.map_cons, List.map_cons, List.map_cons, List.sum_cons, List.sum_cons, List.sum_cons, ih fun d hd => hL d (List.mem_cons_of_mem _ hd), joinSpots_ly e nd w ha, if_pos (hL c List.mem_cons_self), if_pos e2, List.length_append, e2]
            omega
        exact this NS fun _ h => h
      · rw [if_neg e2]
        congr 1
        refine List.map_congr_left fun c hc => ?_
        rw [joinSpots_ly e nd w ha, if_pos hc, if_neg e2, if_neg hn]
    refine ⟨joinSpots_ok e nd w ha, joinSpots_fl e nd w ha f, fun p hp => ?_, ⟨_, hm, ?_⟩, by rw [spE]; omega, by exact Nat.le_of_eq l1.laid, ?_, by omega, fun {X A V} v hv => ⟨V, joinSpots_vl e nd w ha v hv, fun p hp => ?_⟩⟩
    · rw [hm.pl, spE, List.Nodup.mem_erase_iff w.sd]
      split
      · exact ⟨e, ha⟩
      · rename_i e2
        exact ⟨e2, plo p hp⟩
    · show (if a = b then a else a) = if b = b then a else b
      rw [if_neg e, if_pos rfl]
    · have : (M.joinSpots NS a b).rings.length = M.rings.length := l1.len
      rw [this]
      omega
    · rw [hm.pl]
      split
      · rename_i e2
        rw [e2]
        exact hv
      · rfl
/-- the closed map of a book -/
structure BkM (NS : List Str) (per : Str → Int) (ps : List Str) (F : List Clm) (M : RM) : Prop where
  w : WF0 NS per M
  fl : Fl NS M
  cl : ClM NS M
  plo : ∀ p ∈ ps, M.pl p ∈ M.spots
  tr : ∀ p r q, (p, r, q) ∈ F → TrR M (M.pl p) r (M.pl q)
  vl : ∀ {X : Type} (A : Mech per X) (x : Str → X), Holds A x F → ∃ V : Nat → X, Vl A M V ∧ ∀ p ∈ ps, V (M.pl p) = x p
theorem BkM.add {ps : List Str} {F : List Clm} {K : RM} {p q : Str} {r : List SI} {k : Nat} (h : BkM NS per ps F M) (hp : p ∈ ps) (hq : q ∈ ps) (a : AddOk NS per ps M K (M.pl p) (M.pl q) r k) (s : Sim NS per ps K N) (c : ClM NS N) : BkM NS per ps (F ++ [(p, r, q)]) N := by
  obtain ⟨f, f1, f2⟩ := a.mor
  obtain ⟨g, g1⟩ := s.mor
  have fg := f1.trans g1
  refine ⟨s.w, s.fl, c, s.plo, fun p' r' q' m => ?_, fun {X} A x hx => ?_⟩
  · rw [fg.pl, fg.pl]
    rcases List.mem_append.mp m with m | m
    · exact fg.tr (h.tr _ _ _ m)
    · cases List.mem_singleton.mp m
      exact g1.tr f2
  · obtain ⟨V, v1, v2⟩ := h.vl A x fun p r q m => hx p r q (List.mem_append.mpr (.inl m))
    obtain ⟨V', v3, v4⟩ := a.vl v1 (by rw [v2 p hp, v2 q hq]; exact hx p r q (List.mem_append.mpr (.inr List.mem_cons_self)))
    obtain ⟨v5, v6⟩ := s.vl v3
    exact ⟨V', v5, fun t ht => by rw [v6 t, v4 t ht, v2 t ht]⟩
/-! the closed map is a partial action -/
section
variable (w : WF0 NS per M) (f : Fl NS M) (cl : ClM NS M)
include w cl in
theorem one_seat {c : Str} {s n n' : Nat} {p p' : Int} (h : M.on c s n p) (h' : M.on c s n' p') : n = n' ∧ p = p' := by
  obtain ⟨a, b, _⟩ := w.ln _ _ _ _ h
  have l := cl.one s a c b
  change (n, p) ∈ M.ly s c at h
  change (n', p') ∈ M.ly s c at h'
  cases e : M.ly s c with
  | nil => rw [e] at h; cases h
  | cons x t =>
    rw [e] at l h h'
    have : t = [] := List.eq_nil_of_length_eq_zero (by simpa using l)
    subst this
    cases List.mem_singleton.mp h
    cases List.mem_singleton.mp h'
    exact ⟨rfl, rfl⟩
include w cl in
theorem Rl.fn {c : Str} {s t u : Nat} {e : Int} (h : Rl M c s e t) (h' : Rl M c s e u) : t = u := by
  obtain ⟨n, p, q, a1, a2, d⟩ := h
  obtain ⟨n', p', q', b1, b2, d'⟩ := h'
  obtain ⟨rfl, rfl⟩ := one_seat w cl a1 b1
  obtain ⟨r, r1, r2, _⟩ := w.on_ring a1
  obtain ⟨m1, m2⟩ := ring_mem r1
  rw [md_of r1] at d d'
  refine cl.inj r m1 t q u q' ((w.seat_iff m1).mpr (by rw [r2, m2]; exact a2)) ((w.seat_iff m1).mpr (by rw [r2, m2]; exact b2)) ((plc_iff (w.md r m1).2.1).mpr ?_)
  rw [show q - q' = (p + e - q') - (p + e - q) by omega]
  exact Int.dvd_sub d' d
theorem Rl.sym {c : Str} {s t : Nat} {e : Int} (h : Rl M c s e t) : Rl M c t (-e) s := by
  obtain ⟨n, p, q, a1, a2, d⟩ := h
  refine ⟨n, q, p, a2, a1, ?_⟩
  rw [show q + -e - p = -(p + e - q) by omega]
  exact Int.dvd_neg.mpr d
include f in
theorem Rl.nil {c : Str} {s : Nat} (hs : s ∈ M.spots) (hc : c ∈ NS) : Rl M c s 0 s := by
  obtain ⟨n, p, h, _⟩ := head_on f hs hc
  exact ⟨n, p, p, h, h, by rw [Int.add_zero, Int.sub_self]; exact Int.dvd_zero _⟩
include w cl in
theorem Rl.comp {c : Str} {s t u : Nat} {d e : Int} (h : Rl M c s d t) (h' : Rl M c t e u) : Rl M c s (d + e) u := by
  obtain ⟨n, p, q, a1, a2, k⟩ := h
  obtain ⟨n', q', z, b1, b2, k'⟩ := h'
  obtain ⟨rfl, rfl⟩ := one_seat w cl a2 b1
  refine ⟨n, p, z, a1, b2, ?_⟩
  rw [show p + (d + e) - z = (p + d - q) + (q + e - z) by omega]
  exact Int.dvd_add k k'
include w in
theorem Rl.mod {c : Str} {s t : Nat} {e : Int} (h : Rl M c s e t) : Rl M c s (modN per c e) t := by
  obtain ⟨n, p, q, a1, a2, k⟩ := h
  refine ⟨n, p, q, a1, a2, ?_⟩
  obtain ⟨r, r1, r2, _⟩ := w.on_ring a1
  obtain ⟨m1, m2⟩ := ring_mem r1
  have d := (w.md r m1).2.2
  rw [r2] at d
  rw [md_of r1] at k ⊢
  unfold modN
  split
  · have h2 : r.mod ∣ e - e % per c := by
      have := Int.mul_ediv_add_emod e (per c)
      rw [show e - e % per c = per c * (e / per c) by omega]
      exact Int.dvd_trans d (Int.dvd_mul_right _ _)
    rw [show p + e % per c - q = (p + e - q) - (e - e % per c) by omega]
    exact Int.dvd_sub k h2
  · exact k
include w in
theorem Rl.sp {c : Str} {s t : Nat} {e : Int} (h : Rl M c s e t) : s ∈ M.spots ∧ t ∈ M.spots ∧ c ∈ NS := by
  obtain ⟨n, p, q, a1, a2, k⟩ := h
  exact ⟨(w.ln _ _ _ _ a1).1, (w.ln _ _ _ _ a2).1, (w.ln _ _ _ _ a1).2.1⟩
include w in
theorem TrR.sp : ∀ {x : List SI} {s t : Nat}, TrR M s x t → s ∈ M.spots → t ∈ M.spots
  | [], _, _, h, hs => by cases h; exact hs
  | _ :: _, _, _, ⟨_, h1, h2⟩, _ => TrR.sp h2 (Rl.sp w h1).2.1
include w cl in
theorem TrR.fn : ∀ {x : List SI} {s t u : Nat}, TrR M s x t → TrR M s x u → t = u
  | [], _, _, _, h, h' => h.symm.trans h'
  | _ :: _, _, _, _, ⟨v, h1, h2⟩, ⟨v', h3, h4⟩ => by
    obtain rfl := Rl.fn w cl h1 h3
    exact TrR.fn h2 h4
theorem TrR.split : ∀ {x y : List SI} {s t : Nat}, TrR M s (x ++ y) t → ∃ u, TrR M s x u ∧ TrR M u y t
  | [], _, s, _, h => ⟨s, rfl, h⟩
  | _ :: _, _, _, _, ⟨v, h1, h2⟩ => by
    obtain ⟨u, a, b⟩ := TrR.split h2
    exact ⟨u, ⟨v, h1, a⟩, b⟩
theorem TrR.back : ∀ {x : List SI} {s t : Nat}, TrR M s x t → TrR M t (backL x) s
  | [], _, _, h => h.symm
  | c :: x, s, t, ⟨u, h1, h2⟩ => by
    have e : backL (c :: x) = backL x ++ [(c.1, -c.2)] := by rw [show c :: x = [c] ++ x from rfl, backL_app]; rfl
    rw [e]
    exact TrR.app (TrR.back h2) ⟨s, h1.sym, rfl⟩
include w f cl in
theorem TrR.put {x : List SI} {z : Str} {m : Int} {s u : Nat} (hs : s ∈ M.spots) (hz : z ∈ NS) : TrR M s (putN x z m) u ↔ ∃ v, TrR M s x v ∧ Rl M z v m u := by
  unfold putN
  split
  · rename_i e
    subst e
    constructor
    · intro h
      exact ⟨u, h, Rl.nil f (TrR.sp w h hs) hz⟩
    · rintro ⟨v, h1, h2⟩
      obtain rfl := Rl.fn w cl (Rl.nil f (TrR.sp w h1 hs) hz) h2
      exact h1
  · constructor
    · intro h
      obtain ⟨v, a, u', b, rfl⟩ := TrR.split h
      exact ⟨v, a, b⟩
    · rintro ⟨v, h1, h2⟩
      exact TrR.app h1 ⟨u, h2, rfl⟩
include w f cl in
theorem TrR.step {K : List SI} (hN : Nf per K) {s u t : Nat} {c : SI} (hs : s ∈ M.spots) (h : TrR M s K u) (h' : Rl M c.1 u c.2 t) : TrR M s (stepN per K c) t := by
  have hz := (Rl.sp w h').2.2
  obtain ⟨L, g, h1, h2, h3, rfl⟩ := nf_view hN c.1
  obtain ⟨z, e⟩ := c
  rw [step_put e h2]
  obtain ⟨v, a, b⟩ := (TrR.put w f cl hs hz).mp h
  refine (TrR.put w f cl hs hz).mpr ⟨v, a, ?_⟩
  have := Rl.mod w (Rl.comp w cl b h')
  rw [Int.add_comm] at this
  exact this
include w f cl in
theorem TrR.acts : ∀ {x K : List SI} {s u t : Nat}, Nf per K → s ∈ M.spots → TrR M s K u → TrR M u x t → TrR M s (actN per K x) t
  | [], _, _, _, _, _, _, h, h' => by cases h'; exact h
  | c :: x, K, s, u, t, hN, hs, h, ⟨v, h1, h2⟩ => TrR.acts (x := x) (nf_step hN c) hs (TrR.step w f cl hN hs h h1) h2
include w f cl in
theorem TrR.norm {x : List SI} {s t : Nat} (hs : s ∈ M.spots) (h : TrR M s x t) : TrR M s (normL per x) t := TrR.acts w f cl (K := []) trivial hs rfl h
end
/-- what a closed map tells is what follows -/
theorem BkM.iff {ps : List Str} {F : List Clm} (h : BkM NS per ps F M) (hF : ∀ p r q, (p, r, q) ∈ F → p ∈ ps ∧ q ∈ ps) {p q : Str} {r : List SI} (hp : p ∈ ps) (hq : q ∈ ps) (nr : Nf per r) : TrR M (M.pl p) r (M.pl q) ↔ Fo per F p r q := by
  constructor
  · intro t
    obtain ⟨V, v1, v2⟩ := h.vl (freeM per F) (freeX per F) free_holds
    have := t.act v1
    rw [v2 p hp, v2 q hq] at this
    have := free_iff.mp this
    rwa [norm_nf nr] at this
  · intro g
    clear nr
    have key : ∀ {p q : Str} {r : List SI}, Fo per F p r q → (p ∈ ps ↔ q ∈ ps) ∧ (p ∈ ps → TrR M (M.pl p) r (M.pl q)) := by
      intro p q r g
      induction g with
      | fact m => exact ⟨⟨fun _ => (hF _ _ _ m).2, fun _ => (hF _ _ _ m).1⟩, fun hp => TrR.norm h.w h.fl h.cl (h.plo _ hp) (h.tr _ _ _ m)⟩
      | nil p => exact ⟨Iff.rfl, fun _ => rfl⟩
      | back g ih => exact ⟨ih.1.symm, fun hq => TrR.norm h.w h.fl h.cl (h.plo _ hq) (TrR.back (ih.2 (ih.1.mpr hq)))⟩
      | trans g1 g2 ih1 ih2 => exact ⟨ih1.1.trans ih2.1, fun hp => TrR.norm h.w h.fl h.cl (h.plo _ hp) (TrR.app (ih1.2 hp) (ih2.2 (ih1.1.mp hp)))⟩
    exact (key g).2 hp
end
end Tr

/-! # The map of a book (plain): the map without facts; how a row is walked. -/
namespace Tr
open PySem L2 TL
section
variable {NS : List Str} {per : Str → Int} {M N : RM}
def RM.void : RM := ⟨[], [], fun _ _ => [], 0, 0, fun _ => 0⟩
def RM.put (M : RM) (NS : List Str) (per : Str → Int) (p : Str) : RM := { M.newSpot NS per with pl := fun q => if q = p then M.laid else M.pl q }
def RM.start (NS : List Str) (per : Str → Int) (ps : List Str) : RM := ps.foldl (fun M p => M.put NS per p) RM.void
structure Sto (NS : List Str) (per : Str → Int) (ps : List Str) (M : RM) : Prop where
  w : WF0 NS per M
  fl : Fl NS M
  one : ∀ s ∈ M.spots, ∀ c ∈ NS, (M.ly s c).length = 1
  sg : ∀ c s n p t q, M.on c s n p → M.on c t n q → s = t
  plo : ∀ p ∈ ps, M.pl p ∈ M.spots
  laid : M.laid = ps.length
  sp : M.spots.length = ps.length
  rl : M.rings.length = ps.length * NS.length
  vl : ∀ {X : Type} (A : Mech per X) (x : Str → X), ∃ V : Nat → X, Vl A M V ∧ ∀ p ∈ ps, V (M.pl p) = x p
theorem Sto.nil : Sto NS per [] RM.void :=
  ⟨⟨List.nodup_nil, fun _ h => (by cases h), List.nodup_nil, fun _ h => (by cases h), fun _ _ _ _ h => (by cases h), fun _ h => (by cases h), fun _ h => (by cases h)⟩, fun _ h => (by cases h), fun _ h => (by cases h), fun _ _ _ _ _ _ h => (by cases h), fun _ h => (by cases h), rfl, rfl, (Nat.zero_mul _).symm, fun {X} A x => ⟨fun _ => x "", ⟨fun _ _ _ _ _ _ h => (by cases h), fun _ _ _ _ h => (by cases h)⟩, fun _ h => (by cases h)⟩⟩
theorem WF0.pl (w : WF0 NS per M) (f : Str → Nat) : WF0 NS per { M with pl := f } := ⟨w.nd, w.nb, w.sd, w.sb, w.ln, w.st, w.md⟩
theorem Vl.pl {X : Type} {A : Mech per X} {V : Nat → X} (v : Vl A M V) (f : Str → Nat) : Vl A { M with pl := f } V := ⟨v.rel, v.md⟩
theorem Sto.put {ps : List Str} {p : Str} (nd : NS.Nodup) (hp : ∀ c ∈ NS, 0 ≤ per c) (h : Sto NS per ps M) (np : p ∉ ps) : Sto NS per (ps ++ [p]) (M.put NS per p) := by
  have k := newSpot_ok nd hp h.w
  have w' := k.w.pl fun q => if q = p then M.laid else M.pl q
  have lyE : ∀ t d, (M.put NS per p).ly t d = (M.newSpot NS per).ly t d := fun _ _ => rfl
  have spE : (M.put NS per p).spots = M.spots ++ [M.laid] := k.spots
  have ly1 : ∀ s ∈ (M.put NS per p).spots, ∀ c ∈ NS, ((M.put NS per p).ly s c).length = 1 := fun s hs c hc => by
    rw [spE] at hs
    rw [lyE]
    rcases List.mem_append.mp hs with g | g
    · have := h.w.sb s g
      rw [k.ly s c (by omega)]
      exact h.one s g c hc
    · rw [List.mem_singleton.mp g]
      obtain ⟨m, _, m2, _⟩ := k.new c hc
      rw [m2]
      rfl
  refine ⟨w', fun s hs c hc e => ?_, ly1, fun c s n p1 t q h1 h2 => ?_, fun q hq => ?_, ?_, ?_, ?_, fun {X} A x => ?_⟩
  · have := ly1 s hs c hc
    rw [e] at this
    cases this
  · have on' : ∀ {s n q}, (M.put NS per p).on c s n q → (s ≠ M.laid ∧ M.on c s n q) ∨ (s = M.laid ∧ M.drawn ≤ n) := fun {s n q} z => by
      have z : (n, q) ∈ (M.newSpot NS per).ly s c := z
      by_cases e : s = M.laid
      · rw [e] at z
        by_cases hc : c ∈ NS
        · obtain ⟨m, m1, m2, _⟩ := k.new c hc
          rw [m2] at z
          cases List.mem_singleton.mp z
          exact .inr ⟨e, m1⟩
        · rw [k.no c hc] at z
          cases z
      · rw [k.ly s c e] at z
        exact .inl ⟨e, z⟩
    rcases on' h1 with ⟨e1, g1⟩ | ⟨e1, g1⟩ <;> rcases on' h2 with ⟨e2, g2⟩ | ⟨e2, g2⟩
    · exact h.sg _ _ _ _ _ _ g1 g2
    · have := h.w.n_lt g1
      omega
    · have := h.w.n_lt g2
      omega
    · rw [e1, e2]
  · show (if q = p then M.laid else M.pl q) ∈ (M.put NS per p).spots
    rw [spE]
    split
    · exact List.mem_append.mpr (.inr List.mem_cons_self)
    · rename_i e
      exact List.mem_append.mpr (.inl (h.plo q ((List.mem_append.mp hq).resolve_right fun z => e (List.mem_singleton.mp z))))
  · show (M.newSpot NS per).laid = _
    rw [k.laid, h.laid, List.length_append]
    rfl
  · rw [spE, List.length_append, List.length_append, h.sp]
    rfl
  · show (M.newSpot NS per).rings.length = _
    rw [k.len, h.rl, List.length_append, show [p].length = 1 from rfl, Nat.succ_mul]
  · obtain ⟨V, v1, v2⟩ := h.vl A x
    refine ⟨_, (k.vl h.w hp v1 (x p)).pl _, fun q hq => ?_⟩
    show (if (if q = p then M.laid else M.pl q) = M.laid then x p else V (if q = p then M.laid else M.pl q)) = x q
    by_cases e : q = p
    · rw [if_pos e, if_pos rfl, e]
    · have hq := (List.mem_append.mp hq).resolve_right fun z => e (List.mem_singleton.mp z)
      have := h.w.sb _ (h.plo q hq)
      rw [if_neg e, if_neg (by omega)]
      exact v2 q hq
theorem start_snoc (ps : List Str) (p : Str) : RM.start NS per (ps ++ [p]) = (RM.start NS per ps).put NS per p := by
  unfold RM.start
  rw [List.foldl_append]
  rfl
theorem start_ok (nd : NS.Nodup) (hp : ∀ c ∈ NS, 0 ≤ per c) : ∀ n (ps : List Str), ps.length = n → ps.Nodup → Sto NS per ps (RM.start NS per ps)
  | 0, ps, e, _ => by
    rw [List.eq_nil_of_length_eq_zero e]
    exact Sto.nil
  | n + 1, ps, e, ndp => by
    rcases List.eq_nil_or_concat ps with rfl | ⟨l, p, rfl⟩
    · cases e
    · rw [List.concat_eq_append] at e ndp ⊢
      rw [List.length_append] at e
      rw [List.nodup_append] at ndp
      rw [start_snoc]
      exact (start_ok nd hp n l (by simpa using e) ndp.1).put nd hp fun h => ndp.2.2 p h p List.mem_cons_self rfl
theorem Sto.bk {ps : List Str} (h : Sto NS per ps M) : BkM NS per ps [] M :=
  ⟨h.w, h.fl, ⟨h.one, fun r hr s p t q h1 h2 _ => h.sg _ _ _ _ _ _ ((h.w.seat_iff hr).mp h1) ((h.w.seat_iff hr).mp h2)⟩, h.plo, fun _ _ _ m => (by cases m), fun A x _ => h.vl A x⟩
/-! rows walked as the program walks them -/
/-- the spot a step away -/
def RM.aft (M : RM) (s : Nat) (c : SI) : Option Nat :=
  let h := (M.ly s c.1).headD (0, 0)
  match M.ring? h.1 with
  | some r => (r.seats.find? fun x => decide (plc r.mod x.2 = plc r.mod (plc r.mod h.2 + c.2))).map (·.1)
  | none => none
def RM.wlk (M : RM) : Option Nat → List SI → Option Nat
  | o, [] => o
  | none, _ :: _ => none
  | some s, c :: x => RM.wlk M (M.aft s c) x
theorem plc_plc {m z e : Int} (h : 0 ≤ m) : plc m (plc m z + e) = plc m (z + e) := by
  refine (plc_iff h).mpr ?_
  unfold plc
  split
  · have := Int.mul_ediv_add_emod z m
    rw [show z % m + e - (z + e) = -(m * (z / m)) by omega]
    exact Int.dvd_neg.mpr (Int.dvd_mul_right _ _)
  · rw [Int.sub_self]
    exact Int.dvd_zero _
section
variable (w : WF0 NS per M) (f : Fl NS M) (cl : ClM NS M)
include w f cl
theorem aft_iff {s t : Nat} {c : SI} (hs : s ∈ M.spots) (hc : c.1 ∈ NS) : M.aft s c = some t ↔ Rl M c.1 s c.2 t := by
  obtain ⟨n, p, h1, h2⟩ := head_on f hs hc
  obtain ⟨r, r1, r2, _⟩ := w.on_ring h1
  obtain ⟨m1, m2⟩ := ring_mem r1
  have m0 := (w.md r m1).2.1
  have e : M.aft s c = (r.seats.find? fun x => decide (plc r.mod x.2 = plc r.mod (p + c.2))).map (·.1) := by
    unfold RM.aft
    rw [h2]
    dsimp only
    rw [r1]
    dsimp only
    rw [plc_plc m0]
  rw [e]
  constructor
  · intro h
    obtain ⟨x, hx, rfl⟩ := Option.map_eq_some_iff.mp h
    have a := List.mem_of_find?_eq_some hx
    have b := of_decide_eq_true (List.find?_some (p := fun x : Nat × Int => decide (plc r.mod x.2 = plc r.mod (p + c.2))) hx)
    refine ⟨n, p, x.2, h1, ?_, ?_⟩
    · rw [← r2, ← m2]
      exact (w.seat_iff m1).mp a
    · rw [md_of r1]
      exact (plc_iff m0).mp b.symm
  · rintro ⟨n', p', q, a1, a2, d⟩
    obtain ⟨rfl, rfl⟩ := one_seat w cl h1 a1
    rw [md_of r1] at d
    have a2' : (t, q) ∈ r.seats := (w.seat_iff m1).mpr (by rw [r2, m2]; exact a2)
    cases hx : r.seats.find? fun x => decide (plc r.mod x.2 = plc r.mod (p + c.2)) with
    | none => exact absurd (decide_eq_true ((plc_iff m0).mpr d).symm) (List.find?_eq_none.mp hx _ a2')
    | some x =>
      have a := List.mem_of_find?_eq_some hx
      have b := of_decide_eq_true (List.find?_some (p := fun x : Nat × Int => decide (plc r.mod x.2 = plc r.mod (p + c.2))) hx)
      exact congrArg some (cl.inj r m1 x.1 x.2 t q a a2' (b.trans ((plc_iff m0).mpr d)))
theorem wlk_iff : ∀ {x : List SI} {s t : Nat}, s ∈ M.spots → InS NS x → (M.wlk (some s) x = some t ↔ TrR M s x t)
  | [], s, t, _, _ => ⟨fun h => Option.some.inj h, fun h => congrArg some h⟩
  | c :: x, s, t, hs, hx => by
    have hc := hx c List.mem_cons_self
    have hx' : InS NS x := fun d hd => hx d (List.mem_cons_of_mem _ hd)
    show M.wlk (M.aft s c) x = some t ↔ ∃ u, Rl M c.1 s c.2 u ∧ TrR M u x t
    constructor
    · intro h
      cases e : M.aft s c with
      | none =>
        rw [e] at h
        cases x with
        | nil => cases h
        | cons d y => cases h
      | some u =>
        rw [e] at h
        have r := (aft_iff w f cl hs hc).mp e
        exact ⟨u, r, (wlk_iff (Rl.sp w r).2.1 hx').mp h⟩
    · rintro ⟨u, r, h⟩
      rw [(aft_iff w f cl hs hc).mpr r]
      exact (wlk_iff (Rl.sp w r).2.1 hx').mpr h
end
/-- a walk of the map tells what follows -/
theorem BkM.wlk {ps : List Str} {F : List Clm} (h : BkM NS per ps F M) (hF : ∀ p r q, (p, r, q) ∈ F → p ∈ ps ∧ q ∈ ps) {p q : Str} {r : List SI} (hp : p ∈ ps) (hq : q ∈ ps) (nr : Nf per r) (hr : InS NS r) : M.wlk (some (M.pl p)) r = some (M.pl q) ↔ Fo per F p r q :=
  (wlk_iff h.w h.fl h.cl (h.plo p hp) hr).trans (h.iff hF hp hq nr)
end
end Tr

/-! # The map of a book in the heap: its own addresses, what stands at each. -/
namespace Tr
open PySem L2 TL
/-- steps of a reading that are plain -/
local macro_rules | `(tactic| walk_at "x") => `(tactic| (refine' ⟨_, _, _, _, rfl, rfl, ?k1, ?k2, ?_⟩; (case k1 => exact SqT.of (by assumption)); (case k2 => exact rfl)))
local macro_rules | `(tactic| walk_at "g") => `(tactic| repeat (first | (refine ⟨_, rfl, ?_⟩) | (refine ⟨_, _, rfl, rfl, ?_⟩) | (refine ⟨_, _, rfl, ?_⟩) | (refine ⟨rfl, ?_⟩) | walk_at "x"))


/-- what a map owns -/
inductive Sl where
  | obj | circ | spots | lying | spotof
  | ring (n : Nat) | seats (n : Nat) | dict (s : Nat) | lst (s : Nat) (c : Str)
deriving DecidableEq
def Lv (NS : List Str) (M : RM) : Sl → Prop
  | .obj | .circ | .spots | .lying | .spotof => True
  | .ring n => ∃ r ∈ M.rings, r.num = n
  | .seats n => ∃ r ∈ M.rings, r.num = n
  | .dict s => s < M.laid
  | .lst s c => s < M.laid ∧ c ∈ NS
def StP (H : Hp) (u : Addr) (x : Nat × Int) : Prop := H u = some (.tup [.int (x.1 : Int), .int x.2])
def LyP (ad : Sl → Addr) (H : Hp) (u : Addr) (x : Nat × Int) : Prop := H u = some (.tup [.ref (ad (.ring x.1)), .int x.2])
def rmF (t ci sp ly : Addr) (la dr : Nat) (so : Addr) : List (Str × V) := [("turns", .ref t), ("circles", .ref ci), ("spots", .ref sp), ("lying", .ref ly), ("laid", .int (la : Int)), ("drawn", .int (dr : Int)), ("spot_of", .ref so)]
def rgF (n : Nat) (c : Str) (m : Int) (se : Addr) : List (Str × V) := [("number", .int (n : Int)), ("turn", .str c), ("modulus", .int m), ("seats", .ref se)]
def lyK (ad : Sl → Addr) (la : Nat) : List (Key × V) := (List.range la).map fun s : Nat => ((.inl (s : Int) : Key), V.ref (ad (.dict s)))
def dcK (ad : Sl → Addr) (NS : List Str) (s : Nat) : List (Key × V) := NS.map fun c => ((.inr c : Key), V.ref (ad (.lst s c)))
def plK (M : RM) (ps : List Str) : List (Key × V) := ps.map fun p => ((.inr p : Key), V.int (M.pl p : Int))
structure RmAt (CM CG : Addr) (NS ps : List Str) (t : Addr) (H : Hp) (ad : Sl → Addr) (M : RM) : Prop where
  inj : ∀ x y, Lv NS M x → Lv NS M y → ad x = ad y → x = y
  obj : ∃ dx, H (ad .obj) = some (.ins CM dx (rmF t (ad .circ) (ad .spots) (ad .lying) M.laid M.drawn (ad .spotof)))
  circ : H (ad .circ) = some (.lst (M.rings.map fun r => V.ref (ad (.ring r.num))))
  spots : H (ad .spots) = some (.lst (M.spots.map fun s : Nat => V.int (s : Int)))
  lying : H (ad .lying) = some (.dK (lyK ad M.laid))
  spotof : H (ad .spotof) = some (.dK (plK M ps))
  ring : ∀ r ∈ M.rings, ∃ dx, H (ad (.ring r.num)) = some (.ins CG dx (rgF r.num r.turn r.mod (ad (.seats r.num))))
  seats : ∀ r ∈ M.rings, ∃ us : List Addr, H (ad (.seats r.num)) = some (.lst (us.map V.ref)) ∧ P2 (StP H) us r.seats
  dict : ∀ s, s < M.laid → H (ad (.dict s)) = some (.dK (dcK ad NS s))
  lst : ∀ s c, s < M.laid → c ∈ NS → ∃ us : List Addr, H (ad (.lst s c)) = some (.lst (us.map V.ref)) ∧ P2 (LyP ad H) us (M.ly s c)
/-- what a method of the map leaves -/
structure Rch (NS : List Str) (H : Hp) (ad : Sl → Addr) (M : RM) (H' : Hp) (ad' : Sl → Addr) (M' : RM) : Prop where
  kp : ∀ b o, H b = some o → (∀ x, Lv NS M x → ad x ≠ b) → H' b = some o
  nw : ∀ x, Lv NS M' x → (∃ y, Lv NS M y ∧ ad y = ad' x) ∨ H (ad' x) = none
  ob : ad' .obj = ad .obj
  rg : ∀ n, n < M.drawn → ad' (.ring n) = ad (.ring n)
  dr : M.drawn ≤ M'.drawn
section
variable {CM CG t : Addr} {NS ps : List Str} {H H' H2 : Hp} {ad ad' ad2 : Sl → Addr} {M M' M2 : RM}
theorem Rch.refl : Rch NS H ad M H ad M := ⟨fun _ _ e _ => e, fun x h => .inl ⟨x, h, rfl⟩, rfl, fun _ _ => rfl, Nat.le_refl _⟩
theorem Rch.trans (a : Rch NS H ad M H' ad' M') (b : Rch NS H' ad' M' H2 ad2 M2) : Rch NS H ad M H2 ad2 M2 := by
  refine ⟨fun z o e n => b.kp z o (a.kp z o e n) fun x hx q => ?_, fun x hx => ?_, b.ob.trans a.ob, fun n hn => (b.rg n (Nat.lt_of_lt_of_le hn a.dr)).trans (a.rg n hn), Nat.le_trans a.dr b.dr⟩
  · rcases a.nw x hx with ⟨y, hy, e2⟩ | h
    · exact n y hy (e2.trans q)
    · rw [q, e] at h
      cases h
  · rcases b.nw x hx with ⟨y, hy, e⟩ | h
    · rcases a.nw y hy with ⟨z, hz, e2⟩ | h
      · exact .inl ⟨z, hz, e2.trans e⟩
      · exact .inr (by rw [← e]; exact h)
    · by_cases q : ∃ y, Lv NS M y ∧ ad y = ad2 x
      · exact .inl q
      · refine .inr ?_
        cases e : H (ad2 x) with
        | none => rfl
        | some o =>
          have := a.kp _ _ e fun y hy z => q ⟨y, hy, z⟩
          rw [this] at h
          cases h
/-- things made beside the map -/
theorem Rch.same (s : Same H H') : Rch NS H ad M H' ad M := ⟨fun b o e _ => s b o e, fun x h => .inl ⟨x, h, rfl⟩, rfl, fun _ _ => rfl, Nat.le_refl _⟩
theorem StP.same (s : Same H H') {u : Addr} {x : Nat × Int} (h : StP H u x) : StP H' u x := s _ _ h
theorem LyP.same (s : Same H H') {u : Addr} {x : Nat × Int} (h : LyP ad H u x) : LyP ad H' u x := s _ _ h
theorem RmAt.same (s : Same H H') (h : RmAt CM CG NS ps t H ad M) : RmAt CM CG NS ps t H' ad M :=
  ⟨h.inj, let ⟨dx, e⟩ := h.obj; ⟨dx, s _ _ e⟩, s _ _ h.circ, s _ _ h.spots, s _ _ h.lying, s _ _ h.spotof, fun r hr => let ⟨dx, e⟩ := h.ring r hr; ⟨dx, s _ _ e⟩,
    fun r hr => let ⟨us, e, p⟩ := h.seats r hr; ⟨us, s _ _ e, p.mono fun _ _ e => StP.same s e⟩, fun i hi => s _ _ (h.dict i hi), fun i c hi hc => let ⟨us, e, p⟩ := h.lst i c hi hc; ⟨us, s _ _ e, p.mono fun _ _ e => LyP.same s e⟩⟩
/-- each own address is taken -/
theorem RmAt.at_ (h : RmAt CM CG NS ps t H ad M) : ∀ x, Lv NS M x → ∃ o, H (ad x) = some o ∧ ∀ vs, o ≠ .tup vs := by
  intro x hx
  match x, hx with
  | .obj, _ => obtain ⟨dx, e⟩ := h.obj; exact ⟨_, e, fun _ => by intro z; cases z⟩
  | .circ, _ => exact ⟨_, h.circ, fun _ => by intro z; cases z⟩
  | .spots, _ => exact ⟨_, h.spots, fun _ => by intro z; cases z⟩
  | .lying, _ => exact ⟨_, h.lying, fun _ => by intro z; cases z⟩
  | .spotof, _ => exact ⟨_, h.spotof, fun _ => by intro z; cases z⟩
  | .ring n, ⟨r, hr, e⟩ => obtain ⟨dx, e2⟩ := h.ring r hr; rw [← e]; exact ⟨_, e2, fun _ => by intro z; cases z⟩
  | .seats n, ⟨r, hr, e⟩ => obtain ⟨us, e2, _⟩ := h.seats r hr; rw [← e]; exact ⟨_, e2, fun _ => by intro z; cases z⟩
  | .dict s, hs => exact ⟨_, h.dict s hs, fun _ => by intro z; cases z⟩
  | .lst s c, ⟨hs, hc⟩ => obtain ⟨us, e, _⟩ := h.lst s c hs hc; exact ⟨_, e, fun _ => by intro z; cases z⟩
theorem RmAt.ne_none (h : RmAt CM CG NS ps t H ad M) {x : Sl} (hx : Lv NS M x) {b : Addr} (n : H b = none) : ad x ≠ b := fun e => by
  obtain ⟨o, h1, _⟩ := h.at_ x hx
  rw [e, n] at h1
  cases h1
/-- one own address is written -/
theorem Rch.wr {x0 : Sl} {o : HO} (hx : Lv NS M x0) (lv : ∀ x, Lv NS M' x → Lv NS M x) (dr : M.drawn = M'.drawn) : Rch NS H ad M (upd H (ad x0) o) ad M' :=
  ⟨fun b u e n => by rw [upd_ne (fun q => n x0 hx q.symm)]; exact e, fun x h => .inl ⟨x, lv x h, rfl⟩, rfl, fun _ _ => rfl, Nat.le_of_eq dr⟩
theorem adne (h : RmAt CM CG NS ps t H ad M) {x y : Sl} (hx : Lv NS M x) (hy : Lv NS M y) (n : x ≠ y) : ad x ≠ ad y := fun e => n (h.inj x y hx hy e)
/-- a list of seats, and the list of one spot, grown -/
theorem RmAt.seat (h : RmAt CM CG NS ps t H ad M) {s n : Nat} {c : Str} {p : Int} {r0 : Rg} (hr : r0 ∈ M.rings) (hn : r0.num = n) (ndn : ∀ r ∈ M.rings, r.num = n → r = r0) (hs : s < M.laid) (hc : c ∈ NS) {us ws : List Addr} {u1 u2 : Addr}
    (e1 : H (ad (.seats n)) = some (.lst (us.map V.ref))) (p1 : P2 (StP H) us r0.seats) (e2 : H (ad (.lst s c)) = some (.lst (ws.map V.ref))) (p2 : P2 (LyP ad H) ws (M.ly s c)) (k1 : StP H u1 (s, p)) (k2 : LyP ad H u2 (n, p)) :
    RmAt CM CG NS ps t (upd (upd H (ad (.seats n)) (.lst (us.map V.ref ++ [.ref u1]))) (ad (.lst s c)) (.lst (ws.map V.ref ++ [.ref u2]))) ad (M.seat s n c p) := by
  have L1 : Lv NS M (.seats n) := ⟨r0, hr, hn⟩
  have L2' : Lv NS M (.lst s c) := ⟨hs, hc⟩
  have keep : ∀ {x : Sl} {o : HO}, Lv NS M x → x ≠ .seats n → x ≠ .lst s c → H (ad x) = some o → upd (upd H (ad (.seats n)) (.lst (us.map V.ref ++ [.ref u1]))) (ad (.lst s c)) (.lst (ws.map V.ref ++ [.ref u2])) (ad x) = some o := fun {x o} hx n1 n2 e => by
    rw [upd_ne (adne h hx L2' n2), upd_ne (adne h hx L1 n1)]
    exact e
  have tup : ∀ {b : Addr} {vs : List V}, H b = some (.tup vs) → upd (upd H (ad (.seats n)) (.lst (us.map V.ref ++ [.ref u1]))) (ad (.lst s c)) (.lst (ws.map V.ref ++ [.ref u2])) b = some (.tup vs) := fun {b vs} e => by
    rw [upd_ne (ne_of e e2 (by intro z; cases z)), upd_ne (ne_of e e1 (by intro z; cases z))]
    exact e
  have lv : ∀ x, Lv NS (M.seat s n c p) x → Lv NS M x := fun x hx => by
    match x, hx with
    | .ring m, ⟨r, hr, e⟩ =>
      obtain ⟨r', h1, rfl⟩ := mem_mapR.mp hr
      refine ⟨r', h1, ?_⟩
      rw [← e]
      split <;> rfl
    | .seats m, ⟨r, hr, e⟩ =>
      obtain ⟨r', h1, rfl⟩ := mem_mapR.mp hr
      refine ⟨r', h1, ?_⟩
      rw [← e]
      split <;> rfl
    | .obj, hx => exact hx
    | .circ, hx => exact hx
    | .spots, hx => exact hx
    | .lying, hx => exact hx
    | .spotof, hx => exact hx
    | .dict _, hx => exact hx
    | .lst _ _, hx => exact hx
  refine ⟨fun x y hx hy => h.inj x y (lv x hx) (lv y hy), ?_, ?_, keep (x := .spots) trivial (by intro z; cases z) (by intro z; cases z) h.spots, keep (x := .lying) trivial (by intro z; cases z) (by intro z; cases z) h.lying, keep (x := .spotof) trivial (by intro z; cases z) (by intro z; cases z) h.spotof, ?_, ?_, ?_, ?_⟩
  · obtain ⟨dx, e⟩ := h.obj
    exact ⟨dx, keep (x := .obj) trivial (by intro z; cases z) (by intro z; cases z) e⟩
  · rw [keep (x := .circ) trivial (by intro z; cases z) (by intro z; cases z) h.circ]
    show _ = some (HO.lst ((RM.mapR n _ M.rings).map fun r => V.ref (ad (.ring r.num))))
    unfold RM.mapR
    rw [List.map_map]
    congr 2
    refine List.map_congr_left fun r _ => ?_
    show _ = V.ref (ad (.ring (if r.num = n then _ else r : Rg).num))
    split <;> rfl
  · intro r' hr'
    obtain ⟨r, h1, rfl⟩ := mem_mapR.mp hr'
    obtain ⟨dx, e⟩ := h.ring r h1
    refine ⟨dx, ?_⟩
    have := keep (x := .ring r.num) ⟨r, h1, rfl⟩ (by intro z; cases z) (by intro z; cases z) e
    split <;> exact this
  · intro r' hr'
    obtain ⟨r, h1, rfl⟩ := mem_mapR.mp hr'
    by_cases q : r.num = n
    · obtain rfl := ndn r h1 q
      rw [if_pos q]
      refine ⟨us ++ [u1], ?_, (p1.mono fun _ _ e => tup e).snoc (tup k1)⟩
      show upd (upd H (ad (.seats n)) _) (ad (.lst s c)) _ (ad (.seats r.num)) = _
      rw [q, upd_ne (adne h L1 L2' (by intro z; cases z)), upd_same, List.map_append]
      rfl
    · rw [if_neg q]
      obtain ⟨vs, a, b⟩ := h.seats r h1
      exact ⟨vs, keep (x := .seats r.num) ⟨r, h1, rfl⟩ (by intro z; cases z; exact q rfl) (by intro z; cases z) a, b.mono fun _ _ e => tup e⟩
  · intro i hi
    exact keep (x := .dict i) hi (by intro z; cases z) (by intro z; cases z) (h.dict i hi)
  · intro i d hi hd
    rw [ly_seat]
    by_cases q : i = s ∧ d = c
    · rw [if_pos q, q.1, q.2]
      refine ⟨ws ++ [u2], ?_, (p2.mono fun _ _ e => tup e).snoc (tup k2)⟩
      rw [upd_same, List.map_append]
      rfl
    · rw [if_neg q]
      obtain ⟨vs, a, b⟩ := h.lst i d hi hd
      exact ⟨vs, keep (x := .lst i d) ⟨hi, hd⟩ (by intro z; cases z) (by intro z; cases z; exact q ⟨rfl, rfl⟩) a, b.mono fun _ _ e => tup e⟩
end
end Tr

/-! # The map in the heap: a spot off a ring, a ring gone, a modulus. -/
namespace Tr
open PySem L2 TL
/-- steps of a reading that are plain -/
local macro_rules | `(tactic| walk_at "x") => `(tactic| (refine' ⟨_, _, _, _, rfl, rfl, ?k1, ?k2, ?_⟩; (case k1 => exact SqT.of (by assumption)); (case k2 => exact rfl)))
local macro_rules | `(tactic| walk_at "g") => `(tactic| repeat (first | (refine ⟨_, rfl, ?_⟩) | (refine ⟨_, _, rfl, rfl, ?_⟩) | (refine ⟨_, _, rfl, ?_⟩) | (refine ⟨rfl, ?_⟩) | walk_at "x"))


theorem valV_fun {α : Type} (key : α → Key) (val : α → V) (inj : ∀ a b, key a = key b → a = b) : ∀ {l : List α} {y : α}, y ∈ l → valV (l.map fun x => (key x, val x)) (key y) = some (val y)
  | [], _, h => by cases h
  | x :: l, y, h => by
    rw [List.map_cons]
    by_cases e : key x = key y
    · rw [valV_pos e, inj _ _ e]
    · rw [valV_neg e]
      exact valV_fun key val inj ((List.mem_cons.mp h).resolve_left fun q => e (by rw [q]))
theorem putK_fun {α : Type} [DecidableEq α] (key : α → Key) (val : α → V) (inj : ∀ a b, key a = key b → a = b) {l : List α} {y : α} (v : V) (h : y ∈ l) : putK (l.map fun x => (key x, val x)) (key y) v = l.map fun x => (key x, if x = y then v else val x) := by
  unfold putK
  rw [if_pos, List.map_map]
  · refine List.map_congr_left fun x _ => ?_
    show (if key x = key y then (key x, v) else (key x, val x)) = _
    by_cases e : x = y
    · rw [if_pos (by rw [e]), if_pos e]
    · rw [if_neg (fun q => e (inj _ _ q)), if_neg e]
  · exact List.any_eq_true.mpr ⟨_, List.mem_map.mpr ⟨y, h, rfl⟩, decide_eq_true rfl⟩
theorem lyK_at {ad : Sl → Addr} {la s : Nat} (h : s < la) : valV (lyK ad la) (.inl (s : Int)) = some (.ref (ad (.dict s))) :=
  valV_fun (fun s : Nat => (.inl (s : Int) : Key)) (fun s => V.ref (ad (.dict s))) (fun a b e => by have := Sum.inl.inj e; omega) (List.mem_range.mpr h)
theorem dcK_at {ad : Sl → Addr} {NS : List Str} {s : Nat} {c : Str} (h : c ∈ NS) : valV (dcK ad NS s) (.inr c) = some (.ref (ad (.lst s c))) :=
  valV_fun (fun c : Str => (.inr c : Key)) (fun c => V.ref (ad (.lst s c))) (fun a b e => Sum.inr.inj e) h
theorem plK_at {M : RM} {ps : List Str} {p : Str} (h : p ∈ ps) : valV (plK M ps) (.inr p) = some (.int (M.pl p : Int)) :=
  valV_fun (fun p : Str => (.inr p : Key)) (fun p => V.int (M.pl p : Int)) (fun a b e => Sum.inr.inj e) h
/-- one own address is another one -/
def adS (ad : Sl → Addr) (x : Sl) (a : Addr) : Sl → Addr := fun y => if y = x then a else ad y
theorem adS_same (ad : Sl → Addr) (x : Sl) (a : Addr) : adS ad x a x = a := if_pos rfl
theorem adS_ne {ad : Sl → Addr} {x y : Sl} {a : Addr} (h : y ≠ x) : adS ad x a y = ad y := if_neg h
theorem adS_inj {NS : List Str} {M M' : RM} {ad : Sl → Addr} {x : Sl} {a : Addr} (i : ∀ y z, Lv NS M y → Lv NS M z → ad y = ad z → y = z) (lv : ∀ y, Lv NS M' y → Lv NS M y) (n : ∀ y, Lv NS M y → ad y ≠ a) : ∀ y z, Lv NS M' y → Lv NS M' z → adS ad x a y = adS ad x a z → y = z := by
  intro y z hy hz e
  by_cases h1 : y = x <;> by_cases h2 : z = x
  · rw [h1, h2]
  · rw [h1, adS_same, adS_ne h2] at e
    exact (n z (lv z hz) e.symm).elim
  · rw [h2, adS_same, adS_ne h1] at e
    exact (n y (lv y hy) e).elim
  · rw [adS_ne h1, adS_ne h2] at e
    exact i y z (lv y hy) (lv z hz) e
section
variable {CM CG t : Addr} {NS ps : List Str} {H H' H4 : Hp} {ad ad' : Sl → Addr} {M M' : RM}
theorem lv_map {n : Nat} {f : Rg → Rg} (hf : ∀ r, (f r).num = r.num) {M' : RM} (e1 : M'.rings = RM.mapR n f M.rings) (e2 : M'.laid = M.laid) : ∀ x, Lv NS M' x → Lv NS M x := fun x hx => by
  match x, hx with
  | .ring m, ⟨r, hr, e⟩ =>
    rw [e1] at hr
    obtain ⟨r', h1, rfl⟩ := mem_mapR.mp hr
    refine ⟨r', h1, ?_⟩
    rw [← e]
    split
    · exact (hf r').symm
    · rfl
  | .seats m, ⟨r, hr, e⟩ =>
    rw [e1] at hr
    obtain ⟨r', h1, rfl⟩ := mem_mapR.mp hr
    refine ⟨r', h1, ?_⟩
    rw [← e]
    split
    · exact (hf r').symm
    · rfl
  | .obj, hx => exact hx
  | .circ, hx => exact hx
  | .spots, hx => exact hx
  | .lying, hx => exact hx
  | .spotof, hx => exact hx
  | .dict s, hx => exact (show s < M.laid by rw [← e2]; exact hx)
  | .lst s c, hx => exact ⟨(show s < M.laid by rw [← e2]; exact hx.1), hx.2⟩
theorem circ_map {n : Nat} {f : Rg → Rg} (hf : ∀ r, (f r).num = r.num) (g : Nat → V) : (RM.mapR n f M.rings).map (fun r => g r.num) = M.rings.map fun r => g r.num := by
  unfold RM.mapR
  rw [List.map_map]
  refine List.map_congr_left fun r _ => ?_
  show g (if r.num = n then f r else r : Rg).num = _
  split
  · rw [hf]
  · rfl
/-- a spot taken off a ring -/
theorem RmAt.unseat (h : RmAt CM CG NS ps t H ad M) {s n : Nat} {c : Str} {r0 : Rg} {dx L1 L2 : Addr} {vs1 vs2 : List Addr} (hr : r0 ∈ M.rings) (hn : r0.num = n) (ht : r0.turn = c) (ndn : ∀ r ∈ M.rings, r.num = n → r = r0) (hs : s < M.laid) (hc : c ∈ NS)
    (kp : ∀ b o, H b = some o → b ≠ ad (.ring n) → b ≠ ad (.dict s) → H4 b = some o) (e1 : H4 (ad (.ring n)) = some (.ins CG dx (rgF n c r0.mod L1))) (e2 : H4 (ad (.dict s)) = some (.dK (NS.map fun d => ((.inr d : Key), if d = c then V.ref L2 else V.ref (ad (.lst s d))))))
    (f1 : H4 L1 = some (.lst (vs1.map V.ref))) (p1 : P2 (StP H) vs1 (r0.seats.filter fun x => decide (x.1 ≠ s))) (f2 : H4 L2 = some (.lst (vs2.map V.ref))) (p2 : P2 (LyP ad H) vs2 ((M.ly s c).filter fun x => decide (x.1 ≠ n))) (n1 : H L1 = none) (n2 : H L2 = none) (n12 : L1 ≠ L2) :
    RmAt CM CG NS ps t H4 (adS (adS ad (.seats n) L1) (.lst s c) L2) (M.unseat s n c) ∧ Rch NS H ad M H4 (adS (adS ad (.seats n) L1) (.lst s c) L2) (M.unseat s n c) := by
  have LR : Lv NS M (.ring n) := ⟨r0, hr, hn⟩
  have LD : Lv NS M (.dict s) := hs
  have lv := lv_map (NS := NS) (M := M) (M' := M.unseat s n c) (f := fun r => { r with seats := r.seats.filter fun x => decide (x.1 ≠ s) }) (n := n) (fun _ => rfl) rfl rfl
  have keep : ∀ {x : Sl} {o : HO}, Lv NS M x → x ≠ .ring n → x ≠ .dict s → H (ad x) = some o → H4 (ad x) = some o := fun {x o} hx n1 n2 e => kp _ _ e (adne h hx LR n1) (adne h hx LD n2)
  have tup : ∀ {b : Addr} {vs : List V}, H b = some (.tup vs) → H4 b = some (.tup vs) := fun {b vs} e => by
    obtain ⟨o1, a1, b1⟩ := h.at_ _ LR
    obtain ⟨o2, a2, b2⟩ := h.at_ _ LD
    exact kp _ _ e (fun q => by rw [q, a1] at e; exact b1 _ (Option.some.inj e)) (fun q => by rw [q, a2] at e; exact b2 _ (Option.some.inj e))
  have aN : ∀ {x : Sl}, x ≠ .seats n → x ≠ .lst s c → adS (adS ad (.seats n) L1) (.lst s c) L2 x = ad x := fun {x} q1 q2 => by rw [adS_ne q2, adS_ne q1]
  have aS : adS (adS ad (.seats n) L1) (.lst s c) L2 (.seats n) = L1 := by rw [adS_ne (by intro z; cases z), adS_same]
  have aL : adS (adS ad (.seats n) L1) (.lst s c) L2 (.lst s c) = L2 := adS_same _ _ _
  have aR : ∀ m, adS (adS ad (.seats n) L1) (.lst s c) L2 (.ring m) = ad (.ring m) := fun m => aN (by intro z; cases z) (by intro z; cases z)
  have ly' : ∀ {u : Addr} {x : Nat × Int}, LyP ad H u x → LyP (adS (adS ad (.seats n) L1) (.lst s c) L2) H4 u x := fun {u x} e => by
    unfold LyP
    rw [aR]
    exact tup e
  have o1 : ∀ x, Lv NS M x → ad x ≠ L1 := fun x hx => h.ne_none hx n1
  have o2 : ∀ x, Lv NS M x → ad x ≠ L2 := fun x hx => h.ne_none hx n2
  refine ⟨⟨?_, ?_, ?_, ?_, ?_, ?_, ?_, ?_, ?_, ?_⟩, ⟨fun b o e q => kp b o e (fun z => q _ LR z.symm) (fun z => q _ LD z.symm), fun x hx => ?_, aN (by intro z; cases z) (by intro z; cases z), fun m _ => aR m, Nat.le_refl _⟩⟩
  · refine adS_inj (M := M) (adS_inj (M := M) (M' := M) h.inj (fun _ h => h) o1) lv fun y hy => ?_
    by_cases q : y = .seats n
    · rw [q, adS_same]
      exact n12
    · rw [adS_ne q]
      exact o2 y hy
  · obtain ⟨dx, e⟩ := h.obj
    refine ⟨dx, ?_⟩
    rw [aN (x := .obj) (by intro z; cases z) (by intro z; cases z), aN (x := .circ) (by intro z; cases z) (by intro z; cases z), aN (x := .spots) (by intro z; cases z) (by intro z; cases z), aN (x := .lying) (by intro z; cases z) (by intro z; cases z), aN (x := .spotof) (by intro z; cases z) (by intro z; cases z)]
    exact keep (x := .obj) trivial (by intro z; cases z) (by intro z; cases z) e
  · rw [aN (x := .circ) (by intro z; cases z) (by intro z; cases z), keep (x := .circ) trivial (by intro z; cases z) (by intro z; cases z) h.circ]
    show _ = some (HO.lst ((RM.mapR n _ M.rings).map fun r => V.ref (adS (adS ad (.seats n) L1) (.lst s c) L2 (.ring r.num))))
    rw [circ_map (f := fun r => { r with seats := r.seats.filter fun x => decide (x.1 ≠ s) }) (fun _ => rfl) fun m => V.ref (adS (adS ad (.seats n) L1) (.lst s c) L2 (.ring m))]
    congr 2
  · rw [aN (x := .spots) (by intro z; cases z) (by intro z; cases z)]
    exact keep (x := .spots) trivial (by intro z; cases z) (by intro z; cases z) h.spots
  · rw [aN (x := .lying) (by intro z; cases z) (by intro z; cases z), keep (x := .lying) trivial (by intro z; cases z) (by intro z; cases z) h.lying]
    unfold lyK
    congr 2
  · rw [aN (x := .spotof) (by intro z; cases z) (by intro z; cases z)]
    exact keep (x := .spotof) trivial (by intro z; cases z) (by intro z; cases z) h.spotof
  · intro r' hr'
    obtain ⟨r, h1, rfl⟩ := mem_mapR.mp hr'
    by_cases q : r.num = n
    · obtain rfl := ndn r h1 q
      rw [if_pos q]
      refine ⟨dx, ?_⟩
      dsimp only
      rw [q, aR, aS, e1, ht]
    · rw [if_neg q]
      obtain ⟨dx, e⟩ := h.ring r h1
      refine ⟨dx, ?_⟩
      rw [aR, aN (x := .seats r.num) (by intro z; cases z; exact q rfl) (by intro z; cases z)]
      exact keep (x := .ring r.num) ⟨r, h1, rfl⟩ (by intro z; cases z; exact q rfl) (by intro z; cases z) e
  · intro r' hr'
    obtain ⟨r, h1, rfl⟩ := mem_mapR.mp hr'
    by_cases q : r.num = n
    · obtain rfl := ndn r h1 q
      rw [if_pos q]
      dsimp only
      rw [q, aS]
      exact ⟨vs1, f1, p1.mono fun _ _ e => tup e⟩
    · rw [if_neg q, aN (x := .seats r.num) (by intro z; cases z; exact q rfl) (by intro z; cases z)]
      obtain ⟨us, a, b⟩ := h.seats r h1
      exact ⟨us, keep (x := .seats r.num) ⟨r, h1, rfl⟩ (by intro z; cases z) (by intro z; cases z) a, b.mono fun _ _ e => tup e⟩
  · intro i hi
    rw [aN (x := .dict i) (by intro z; cases z) (by intro z; cases z)]
    by_cases q : i = s
    · rw [q, e2]
      unfold dcK
      congr 2
      refine List.map_congr_left fun d _ => ?_
      by_cases q2 : d = c
      · rw [if_pos q2, q2, aL]
      · rw [if_neg q2, aN (x := .lst s d) (by intro z; cases z) (by intro z; cases z; exact q2 rfl)]
    · rw [keep (x := .dict i) hi (by intro z; cases z) (by intro z; cases z; exact q rfl) (h.dict i hi)]
      unfold dcK
      congr 2
      refine List.map_congr_left fun d _ => ?_
      rw [aN (x := .lst i d) (by intro z; cases z) (by intro z; cases z; exact q rfl)]
  · intro i d hi hd
    rw [ly_unseat]
    by_cases q : i = s ∧ d = c
    · rw [if_pos q, q.1, q.2, aL]
      exact ⟨vs2, f2, p2.mono fun _ _ e => ly' e⟩
    · rw [if_neg q, aN (x := .lst i d) (by intro z; cases z) (by intro z; cases z; exact q ⟨rfl, rfl⟩)]
      obtain ⟨us, a, b⟩ := h.lst i d hi hd
      exact ⟨us, keep (x := .lst i d) ⟨hi, hd⟩ (by intro z; cases z) (by intro z; cases z) a, b.mono fun _ _ e => ly' e⟩
  · by_cases q1 : x = .lst s c
    · rw [q1, aL]
      exact .inr n2
    · by_cases q2 : x = .seats n
      · rw [q2, aS]
        exact .inr n1
      · rw [aN q2 q1]
        exact .inl ⟨x, lv x hx, rfl⟩
/-- a ring forgotten -/
theorem RmAt.drop (h : RmAt CM CG NS ps t H ad M) {n : Nat} {dx L1 : Addr} (kp : ∀ b o, H b = some o → b ≠ ad .obj → H4 b = some o) (e1 : H4 (ad .obj) = some (.ins CM dx (rmF t L1 (ad .spots) (ad .lying) M.laid M.drawn (ad .spotof))))
    (f1 : H4 L1 = some (.lst ((M.rings.filter fun r => decide (r.num ≠ n)).map fun r => V.ref (ad (.ring r.num))))) (n1 : H L1 = none) :
    RmAt CM CG NS ps t H4 (adS ad .circ L1) (M.drop n) ∧ Rch NS H ad M H4 (adS ad .circ L1) (M.drop n) := by
  have lv : ∀ x, Lv NS (M.drop n) x → Lv NS M x := fun x hx => by
    match x, hx with
    | .ring m, ⟨r, hr, e⟩ => exact ⟨r, (List.mem_filter.mp hr).1, e⟩
    | .seats m, ⟨r, hr, e⟩ => exact ⟨r, (List.mem_filter.mp hr).1, e⟩
    | .obj, hx => exact hx
    | .circ, hx => exact hx
    | .spots, hx => exact hx
    | .lying, hx => exact hx
    | .spotof, hx => exact hx
    | .dict _, hx => exact hx
    | .lst _ _, hx => exact hx
  have keep : ∀ {x : Sl} {o : HO}, Lv NS M x → x ≠ .obj → H (ad x) = some o → H4 (ad x) = some o := fun {x o} hx n1 e => kp _ _ e (adne h hx (y := .obj) trivial n1)
  have tup : ∀ {b : Addr} {vs : List V}, H b = some (.tup vs) → H4 b = some (.tup vs) := fun {b vs} e => by
    obtain ⟨o1, a1, b1⟩ := h.at_ .obj trivial
    exact kp _ _ e (fun q => by rw [q, a1] at e; exact b1 _ (Option.some.inj e))
  have aN : ∀ {x : Sl}, x ≠ .circ → adS ad .circ L1 x = ad x := fun q => adS_ne q
  have aR : ∀ m, adS ad .circ L1 (.ring m) = ad (.ring m) := fun m => aN (by intro z; cases z)
  refine ⟨⟨adS_inj (M := M) h.inj lv fun y hy => h.ne_none hy n1, ?_, ?_, ?_, ?_, ?_, ?_, ?_, ?_, ?_⟩, ⟨fun b o e q => kp b o e (fun z => q .obj trivial z.symm), fun x hx => ?_, aN (by intro z; cases z), fun m _ => aR m, Nat.le_refl _⟩⟩
  · refine ⟨dx, ?_⟩
    rw [aN (x := .obj) (by intro z; cases z), adS_same, aN (x := .spots) (by intro z; cases z), aN (x := .lying) (by intro z; cases z), aN (x := .spotof) (by intro z; cases z)]
    exact e1
  · rw [adS_same, f1]
    congr 2
  · rw [aN (x := .spots) (by intro z; cases z)]
    exact keep (x := .spots) trivial (by intro z; cases z) h.spots
  · rw [aN (x := .lying) (by intro z; cases z)]
    exact keep (x := .lying) trivial (by intro z; cases z) h.lying
  · rw [aN (x := .spotof) (by intro z; cases z)]
    exact keep (x := .spotof) trivial (by intro z; cases z) h.spotof
  · intro r hr
    obtain ⟨dx, e⟩ := h.ring r (List.mem_filter.mp hr).1
    exact ⟨dx, keep (x := .ring r.num) ⟨r, (List.mem_filter.mp hr).1, rfl⟩ (by intro z; cases z) e⟩
  · intro r hr
    obtain ⟨us, a, b⟩ := h.seats r (List.mem_filter.mp hr).1
    exact ⟨us, keep (x := .seats r.num) ⟨r, (List.mem_filter.mp hr).1, rfl⟩ (by intro z; cases z) a, b.mono fun _ _ e => tup e⟩
  · intro i hi
    exact keep (x := .dict i) hi (by intro z; cases z) (h.dict i hi)
  · intro i d hi hd
    obtain ⟨us, a, b⟩ := h.lst i d hi hd
    exact ⟨us, keep (x := .lst i d) ⟨hi, hd⟩ (by intro z; cases z) a, b.mono fun _ _ e => tup e⟩
  · by_cases q : x = .circ
    · rw [q, adS_same]
      exact .inr n1
    · rw [aN q]
      exact .inl ⟨x, lv x hx, rfl⟩
/-- a ring's modulus -/
theorem RmAt.setMod (h : RmAt CM CG NS ps t H ad M) {n : Nat} {m : Int} {r0 : Rg} {dx : Addr} (hr : r0 ∈ M.rings) (hn : r0.num = n) (ndn : ∀ r ∈ M.rings, r.num = n → r = r0) :
    RmAt CM CG NS ps t (upd H (ad (.ring n)) (.ins CG dx (rgF n r0.turn m (ad (.seats n))))) ad (M.setMod n m) ∧ Rch NS H ad M (upd H (ad (.ring n)) (.ins CG dx (rgF n r0.turn m (ad (.seats n))))) ad (M.setMod n m) := by
  have LR : Lv NS M (.ring n) := ⟨r0, hr, hn⟩
  have lv := lv_map (NS := NS) (M := M) (M' := M.setMod n m) (f := fun r => { r with mod := m }) (n := n) (fun _ => rfl) rfl rfl
  have keep : ∀ {x : Sl} {o : HO}, Lv NS M x → x ≠ .ring n → H (ad x) = some o → upd H (ad (.ring n)) (.ins CG dx (rgF n r0.turn m (ad (.seats n)))) (ad x) = some o := fun {x o} hx n1 e => by
    rw [upd_ne (adne h hx LR n1)]
    exact e
  have tup : ∀ {b : Addr} {vs : List V}, H b = some (.tup vs) → upd H (ad (.ring n)) (.ins CG dx (rgF n r0.turn m (ad (.seats n)))) b = some (.tup vs) := fun {b vs} e => by
    obtain ⟨o1, a1, b1⟩ := h.at_ _ LR
    rw [upd_ne (fun q => by rw [q, a1] at e; exact b1 _ (Option.some.inj e))]
    exact e
  refine ⟨⟨fun x y hx hy => h.inj x y (lv x hx) (lv y hy), ?_, ?_, ?_, ?_, ?_, ?_, ?_, ?_, ?_⟩, .wr LR lv rfl⟩
  · obtain ⟨dx, e⟩ := h.obj
    exact ⟨dx, keep (x := .obj) trivial (by intro z; cases z) e⟩
  · rw [keep (x := .circ) trivial (by intro z; cases z) h.circ]
    show _ = some (HO.lst ((RM.mapR n _ M.rings).map fun r => V.ref (ad (.ring r.num))))
    rw [circ_map (f := fun r => { r with mod := m }) (fun _ => rfl) fun m => V.ref (ad (.ring m))]
  · exact keep (x := .spots) trivial (by intro z; cases z) h.spots
  · exact keep (x := .lying) trivial (by intro z; cases z) h.lying
  · exact keep (x := .spotof) trivial (by intro z; cases z) h.spotof
  · intro r' hr'
    obtain ⟨r, h1, rfl⟩ := mem_mapR.mp hr'
    by_cases q : r.num = n
    · obtain rfl := ndn r h1 q
      rw [if_pos q]
      refine ⟨dx, ?_⟩
      dsimp only
      rw [q, upd_same]
    · rw [if_neg q]
      obtain ⟨dx, e⟩ := h.ring r h1
      exact ⟨dx, keep (x := .ring r.num) ⟨r, h1, rfl⟩ (by intro z; cases z; exact q rfl) e⟩
  · intro r' hr'
    obtain ⟨r, h1, rfl⟩ := mem_mapR.mp hr'
    obtain ⟨us, a, b⟩ := h.seats r h1
    refine ⟨us, ?_, ?_⟩
    · have := keep (x := .seats r.num) ⟨r, h1, rfl⟩ (by intro z; cases z) a
      split <;> exact this
    · have : P2 (StP (upd H (ad (.ring n)) (.ins CG dx (rgF n r0.turn m (ad (.seats n)))))) us r.seats := b.mono fun _ _ e => tup e
      split <;> exact this
  · intro i hi
    exact keep (x := .dict i) hi (by intro z; cases z) (h.dict i hi)
  · intro i d hi hd
    obtain ⟨us, a, b⟩ := h.lst i d hi hd
    exact ⟨us, keep (x := .lst i d) ⟨hi, hd⟩ (by intro z; cases z) a, b.mono fun _ _ e => tup e⟩
end
end Tr

/-! # Ring.place, spot_at; RingMap.seat, unseat, drop_ring. -/
/- wanted: T.a_Ring__number T.a_Ring__turn T.a_Ring__modulus T.a_Ring__seats T.a_RingMap__turns T.a_RingMap__circles T.a_RingMap__spots T.a_RingMap__lying T.a_RingMap__laid T.a_RingMap__drawn T.a_RingMap__spot_of T.m_Ring__place T.m_Ring__spot_at T.m_RingMap__seat T.m_RingMap__unseat T.m_RingMap__drop_ring T.m_RingMap__new_spot T.m_RingMap__lay T.m_RingMap__add_fact T.m_RingMap__join_spots T.m_RingMap__join_rings T.m_RingMap__lessen T.m_RingMap__settle_spot T.m_RingMap__settle_ring T.m_RingMap__settle_once T.m_RingMap__close_up T.m_RingMap__ring_at T.m_RingMap__after T.m_RingMap__walk T.i_Ring T.k_Ring T.k_RingMap T.k_Book T.d_map_of T.d_is_claim T.a_Book__turns T.a_Book__places T.a_Book__facts T.a_Book__rings T.i_RingMap T.i_Book T.v_RingMap T.v_Row T.v_Book T.o_Row T.k_Row T.n_Turns T.m_Book____contains__ T.m_Book__leads T.m_Book__need_place T.d_is_name T.b_isinstance T.b_tuple T.b_str T.b_list T.b_len T.b_enumerate T.b_range T.m_Row____len__ T.m_RingMap__walk -/
namespace Tr
open PySem L2 TL
/-- steps of a reading that are plain -/
local macro_rules | `(tactic| walk_at "x") => `(tactic| (refine' ⟨_, _, _, _, rfl, rfl, ?k1, ?k2, ?_⟩; (case k1 => exact SqT.of (by assumption)); (case k2 => exact rfl)))
local macro_rules | `(tactic| walk_at "g") => `(tactic| repeat (first | (refine ⟨_, rfl, ?_⟩) | (refine ⟨_, _, rfl, rfl, ?_⟩) | (refine ⟨_, _, rfl, ?_⟩) | (refine ⟨rfl, ?_⟩) | walk_at "x"))


theorem ne_nat (a b : Nat) : (!decide (V.int (a : Int) = V.int (b : Int))) = decide (a ≠ b) := by
  rw [Bool.eq_iff_iff, Bool.not_eq_true', decide_eq_false_iff_not, decide_eq_true_eq]
  exact ⟨fun h e => h (by rw [e]), fun h e => h (by have := V.int.inj e; omega)⟩
theorem upd_comm {H : Hp} {a b : Addr} {o o' : HO} (h : a ≠ b) : upd (upd H a o) b o' = upd (upd H b o') a o := by
  funext c
  by_cases e1 : c = b
  · subst e1
    rw [upd_same, upd_ne h.symm, upd_same]
  · rw [upd_ne e1]
    by_cases e2 : c = a
    · subst e2
      rw [upd_same, upd_same]
    · rw [upd_ne e2, upd_ne e2, upd_ne e1]
theorem lc_keep {α : Type} {J : It} {G : Hp → Prop} {R : Addr → α → Prop} {us : List Addr} {cs : List α} {i1 : Nat} {tt : TT} {te : TE} {vs : List Nat} {σ : L2.St} {H1 : Hp} {D : Addr} {Qd : Hp → Prop} (w : Walk J (us.map V.ref).length G (YAt (us.map V.ref))) (hP : P2 R us cs) (p : α → Bool)
    (hD : H1 D = none) (hsz : cs.length ≤ 100000) (hG : ∀ H, Same H1 H → G H) (hw : ∀ x, wipe ((wipe σ vs).set i1 x) vs = wipe σ vs)
    (ht : ∀ u c, c ∈ cs → R u c → ∀ H Q, Same H1 H → Q (p c) H → tt ((wipe σ vs).set i1 (some (.ref u))) H Q)
    (he : ∀ u c, c ∈ cs → R u c → ∀ H Q, Same H1 H → Q (.ref u) H → te ((wipe σ vs).set i1 (some (.ref u))) H Q)
    (hd : ∀ vs H, Same H1 H → H D = some (.lst (vs.map V.ref)) → P2 R vs (cs.filter p) → Qd H) : LcG J (gName i1) tt te vs σ H1 D Qd := by
  have hlen := hP.len
  refine lc_it w (fun i H => Same H1 H ∧ ∃ vs : List Addr, H D = some (.lst (vs.map V.ref)) ∧ P2 R vs ((cs.take i).filter p)) ⟨same_upd hD, [], upd_same, .nil⟩ (fun i H _ ⟨s, _⟩ => hG H s) ?_ ?_
  · rintro i x H H0 hi ⟨s, vs, hy, py⟩ ⟨rfl, hx⟩
    rw [List.getElem?_map] at hx
    obtain ⟨u, hu, rfl⟩ := Option.map_eq_some_iff.mp hx
    obtain ⟨c, hc, r⟩ := hP.getl hu
    have ll : vs.length ≤ 100000 := by
      have h1 := py.len
      have := List.length_filter_le p (cs.take i)
      rw [List.length_take] at this
      omega
    refine ⟨hw _, ?_⟩
    refine ht u c (mem_of_at hc) r H0 _ s ?_
    cases e : p c with
    | false =>
      rw [if_neg Bool.false_ne_true]
      refine ⟨s, vs, hy, ?_⟩
      rw [take_snoc hc, List.filter_append, List.filter_cons, e, if_neg Bool.false_ne_true, List.filter_nil, List.append_nil]
      exact py
    | true =>
      rw [if_pos rfl]
      refine he u c (mem_of_at hc) r H0 _ s ⟨vs.map V.ref, hy, small_app (m := 100000) (by rw [List.length_map]; exact ll) (Nat.le_refl _), s.wr hD, vs ++ [u], by rw [List.map_append]; exact upd_same, ?_⟩
      rw [take_snoc hc, List.filter_append, List.filter_cons, e, if_pos rfl, List.filter_nil]
      exact py.snoc r
  · rintro H ⟨s, vs, hy, py⟩
    rw [List.length_map, hlen, List.take_length] at py
    exact hd vs H s hy py
section
variable {P : Program} [PM : PMain P] {w : World} {K : PySem.W.Frag} {mg : Str → Option Value} {base : Heap}
abbrev RmK (K : PySem.W.Frag) (NS ps : List Str) (t : Addr) (H : Hp) (ad : Sl → Addr) (M : RM) : Prop := RmAt (He.ga K "RingMap") (He.ga K "Ring") NS ps t H ad M
def spPlace (C : Addr) : Sp := fun vs H Q _ => ∃ (x dx se : Addr) (n : Nat) (c : Str) (m p : Int), vs = [.ref x, .int p] ∧ H x = some (.ins C dx (rgF n c m se)) ∧ Q (.int (plc m p)) H
theorem c_place (T : Txt K mg) : Met P w K mg base 1 (He.ga K "Ring") "place" (spPlace (He.ga K "Ring")) [] := by
  refine metN T.m_Ring__place sc_Ring_place (fun vs H Q E h => ?_) (fun _ _ _ _ _ _ us hl => match us, hl with | [_, _], _ => rfl) (fun f cdv A outer s H vs Q E hr h => ?_)
  · obtain ⟨x, dx, se, n, c, m, p, rfl, _⟩ := h
    rfl
  · obtain ⟨x, dx, se, n, c, m, p, rfl, hx, k⟩ := h
    refine ⟨_, (pss_one (ps_ret (pe_ifExp (pt_cmpR op_gt (pe_fldK K (pv 0) (by rfl)) pe_int (nomark _)) (pe_op op_mod (pv 1) (pe_fldK K (pv 0) (by rfl))) (pv 1)))), ?_⟩
    walk_at "g"
    refine ⟨x, _, dx, _, _, rfl, hx, T.k_Ring, T.a_Ring__modulus, rfl, ?_⟩
    walk_at "g"
    unfold plc at k
    refine iteB (fun c1 => ?_) (fun c1 => ?_)
    · have c1 := of_decide_eq_true c1
      rw [if_pos c1] at k
      walk_at "g"
      refine ⟨x, _, dx, _, _, rfl, hx, T.k_Ring, T.a_Ring__modulus, rfl, ?_⟩
      walk_at "g"
      refine ⟨c1, ?_⟩
      exact k
    · rw [if_neg (of_decide_eq_false c1)] at k
      walk_at "g"
      exact k
def spSeat (K : PySem.W.Frag) : Sp := fun vs H Q _ => ∃ (NS ps : List Str) (per : Str → Int) (t : Addr) (ad : Sl → Addr) (M : RM) (s n : Nat) (c : Str) (p : Int) (r0 : Rg), vs = [.ref (ad .obj), .int (s : Int), .ref (ad (.ring n)), .int p] ∧ RmK K NS ps t H ad M ∧ WF0 NS per M ∧ M.ring? n = some r0 ∧ r0.turn = c ∧ s < M.laid ∧ c ∈ NS ∧ r0.seats.length ≤ 50000 ∧ (M.ly s c).length ≤ 50000 ∧
  ∀ H', RmK K NS ps t H' ad (M.seat s n c p) → Rch NS H ad M H' ad (M.seat s n c p) → Q .non H'
theorem c_seat (T : Txt K mg) : Met P w K mg base 1 (He.ga K "RingMap") "seat" (spSeat K) [] := by
  refine metN T.m_RingMap__seat sc_RingMap_seat (fun vs H Q E h => ?_) (fun _ _ _ _ _ _ us hl => match us, hl with | [_, _, _, _], _ => rfl) (fun f cdv A outer s H vs Q E hr h => ?_)
  · obtain ⟨NS, ps, per, t, ad, M, s, n, c, p, r0, rfl, _⟩ := h
    rfl
  · obtain ⟨NS, ps, per, t, ad, M, s', n, c, p, r0, rfl, hM, w', hr0, ht, hs, hc, l1, l2, k⟩ := h
    refine ⟨_, (pss_cons (ps_expr (pe_bm PySem.F.plainAttrs_list PySem.F.slot_list_append PySem.F.type_list_append mt_append (pe_fldK K (pv 2) (by rfl)) (pa_cons (pe_tup (pa_cons (pv 1) (pa_cons (pv 3) pa_nil))) pa_nil)))
      (pss_one (ps_expr (pe_bm PySem.F.plainAttrs_list PySem.F.slot_list_append PySem.F.type_list_append mt_append (pe_dget (hu_of hr) (pe_dget (hu_of hr) (pe_fldK K (pv 0) (by rfl)) (pv 1) (fun _ _ => rfl)) (pe_fldK K (pv 2) (by rfl)) (fun _ _ => rfl)) (pa_cons (pe_tup (pa_cons (pv 2) (pa_cons (pv 3) pa_nil))) pa_nil))))), ?_⟩
    obtain ⟨m1, m2⟩ := ring_mem hr0
    obtain ⟨dg, hg⟩ := hM.ring r0 m1
    obtain ⟨us, hus, pus⟩ := hM.seats r0 m1
    obtain ⟨dm, hm⟩ := hM.obj
    rw [m2] at hg hus
    obtain ⟨ws, hws, pws⟩ := hM.lst s' c hs hc
    have ul := pus.len
    have wl := pws.len
    have LS : Lv NS M (.seats n) := ⟨r0, m1, m2⟩
    have LR : Lv NS M (.ring n) := ⟨r0, m1, m2⟩
    have LL : Lv NS M (.lst s' c) := ⟨hs, hc⟩
    walk_at "g"
    refine ⟨ad (.ring n), _, dg, _, _, rfl, hg, T.k_Ring, T.a_Ring__seats, rfl, ?_⟩
    walk_at "g"
    refine ⟨.inl ⟨rfl, _, SqL.of hus⟩, ?_⟩
    walk_at "g"
    refine ⟨by show 2 ≤ sizeLine; decide, fun u1 nu1 => ?_⟩
    have s1 := same_upd (o := .tup [.int (s' : Int), .int p]) nu1
    have hu1 : upd H u1 (.tup [.int (s' : Int), .int p]) u1 = some (.tup [.int (s' : Int), .int p]) := upd_same
    have n1 : ∀ x, Lv NS M x → ad x ≠ u1 := fun x hx => hM.ne_none hx nu1
    have hM1 := hM.same s1
    have hus1 := s1 _ _ hus
    have hws1 := s1 _ _ hws
    have pus1 := pus.mono fun _ _ e => StP.same s1 e
    have pws1 := pws.mono fun _ _ e => LyP.same s1 e
    generalize upd H u1 (.tup [.int (s' : Int), .int p]) = H1 at *
    walk_at "g"
    refine ⟨ad (.seats n), us.map V.ref, _, rfl, rfl, hus1, small_app (m := 100000) (by rw [List.length_map]; omega) (Nat.le_refl _), ?_⟩
    have kp2 : ∀ {x : Sl} {o : HO}, Lv NS M x → x ≠ .seats n → H1 (ad x) = some o → upd H1 (ad (.seats n)) (.lst (us.map V.ref ++ [.ref u1])) (ad x) = some o := fun {x o} hx q e => by
      rw [upd_ne (adne hM1 hx LS q)]
      exact e
    have hm2 := kp2 (x := .obj) trivial (by intro z; cases z) (s1 _ _ hm)
    have hl2 := kp2 (x := .lying) trivial (by intro z; cases z) hM1.lying
    have hd2 := kp2 (x := .dict s') hs (by intro z; cases z) (hM1.dict s' hs)
    have hg2 := kp2 (x := .ring n) LR (by intro z; cases z) (s1 _ _ hg)
    have hw2 := kp2 (x := .lst s' c) LL (by intro z; cases z) hws1
    walk_at "g"
    refine ⟨ad .obj, _, dm, _, _, rfl, hm2, T.k_RingMap, T.a_RingMap__lying, rfl, ?_⟩
    walk_at "g"
    refine ⟨ad .lying, .ref (ad (.dict s')), rfl, by
      have := DGet.k (k := (.inl (s' : Int) : Key)) hl2
      rw [lyK_at hs] at this
      exact this, ?_⟩
    walk_at "g"
    refine ⟨ad (.ring n), _, dg, _, _, rfl, hg2, T.k_Ring, T.a_Ring__turn, rfl, ?_⟩
    walk_at "g"
    refine ⟨ad (.dict s'), .ref (ad (.lst s' c)), rfl, by
      have := DGet.k (k := (.inr c : Key)) hd2
      rw [dcK_at hc] at this
      rw [ht]
      exact this, ?_⟩
    walk_at "g"
    refine ⟨.inl ⟨rfl, _, SqL.of hw2⟩, ?_⟩
    walk_at "g"
    refine ⟨by show 2 ≤ sizeLine; decide, fun u2 nu2 => ?_⟩
    have e2 : u2 ≠ ad (.seats n) := fun q => by rw [q, upd_same] at nu2; cases nu2
    rw [upd_ne e2] at nu2
    have s3 := same_upd (o := .tup [.ref (ad (.ring n)), .int p]) nu2
    have hu2 : upd H1 u2 (.tup [.ref (ad (.ring n)), .int p]) u2 = some (.tup [.ref (ad (.ring n)), .int p]) := upd_same
    rw [upd_comm (Ne.symm e2)]
    walk_at "g"
    have eL : ad (.lst s' c) ≠ ad (.seats n) := adne hM LL LS (by intro z; cases z)
    refine ⟨ad (.lst s' c), ws.map V.ref, _, rfl, rfl, by rw [upd_ne eL]; exact s3 _ _ hws1, small_app (m := 100000) (by rw [List.length_map]; omega) (Nat.le_refl _), ?_⟩
    have hM3 := hM1.same s3
    have fin := hM3.seat (p := p) m1 m2 (fun r h e => w'.ring_eq h m1 (e.trans m2.symm)) hs hc (s3 _ _ hus1) (pus1.mono fun _ _ e => StP.same s3 e) (s3 _ _ hws1) (pws1.mono fun _ _ e => LyP.same s3 e) (s3 _ _ hu1) hu2
    refine k _ fin ⟨fun b o e q => ?_, fun x hx => .inl ⟨x, ?_, rfl⟩, rfl, fun _ _ => rfl, Nat.le_refl _⟩
    · rw [upd_ne (fun z => q _ LL z.symm), upd_ne (fun z => q _ LS z.symm)]
      exact s3 _ _ (s1 _ _ e)
    · exact lv_map (NS := NS) (M := M) (M' := M.seat s' n c p) (f := fun r => { r with seats := r.seats ++ [(s', p)] }) (n := n) (fun _ => rfl) rfl rfl x hx
def spUnseat (K : PySem.W.Frag) : Sp := fun vs H Q _ => ∃ (NS ps : List Str) (per : Str → Int) (t : Addr) (ad : Sl → Addr) (M : RM) (s n : Nat) (c : Str) (r0 : Rg), vs = [.ref (ad .obj), .int (s : Int), .ref (ad (.ring n))] ∧ RmK K NS ps t H ad M ∧ WF0 NS per M ∧ M.ring? n = some r0 ∧ r0.turn = c ∧ s < M.laid ∧ c ∈ NS ∧ NS.length ≤ 1000 ∧ r0.seats.length ≤ 50000 ∧ (M.ly s c).length ≤ 50000 ∧
  ∀ H' ad', RmK K NS ps t H' ad' (M.unseat s n c) → Rch NS H ad M H' ad' (M.unseat s n c) → Q .non H'
theorem c_unseat (T : Txt K mg) : Met P w K mg base 1 (He.ga K "RingMap") "unseat" (spUnseat K) [] := by
  refine metN T.m_RingMap__unseat sc_RingMap_unseat (fun vs H Q E h => ?_) (fun _ _ _ _ _ _ us hl => match us, hl with | [_, _, _], _ => rfl) (fun f cdv A outer s H vs Q E hr h => ?_)
  · obtain ⟨NS, ps, per, t, ad, M, s, n, c, r0, rfl, _⟩ := h
    rfl
  · obtain ⟨NS, ps, per, t, ad, M, s', n, c, r0, rfl, hM, w', hr0, ht, hs, hc, lN, l1, l2, k⟩ := h
    refine ⟨_, (pss_cons (ps_fld (pv 2) (pe_lc (own := [("row", 4)]) (g := gName 4) rfl sc_RingMap_unseat.nd (pi_listK K (pe_fldK K (pv 2) (by rfl))) (blkOk_by (own := [("row", 4)]) (N := ["self", "spot", "ring", "kept", "row"]) (sc := defScope s_RingMap_unseat) (by decide +kernel)) (fun _ _ _ _ _ => (pg_name (i := 4) sc_RingMap_unseat.nd rfl (Or.inl rfl))) (fun _ _ _ _ _ => (pts_one (pt_cmpR op_ne (pe_ix (ix_tupK K) (pv 4) pe_int (fun _ _ => rfl)) (pv 1) (nomark _)))) (fun _ _ _ _ _ => (pv 4))) rfl)
      (pss_cons (ps_setLc (i := 3) (own := [("row", 4)]) (g := gName 4) rfl sc_RingMap_unseat.nd rfl rfl (sw_true rfl rfl rfl (by decide +kernel)) (pi_listK K (pe_dget (hu_of hr) (pe_dget (hu_of hr) (pe_fldK K (pv 0) (by rfl)) (pv 1) (fun _ _ => rfl)) (pe_fldK K (pv 2) (by rfl)) (fun _ _ => rfl))) (blkOk_by (own := [("row", 4)]) (N := ["self", "spot", "ring", "kept", "row"]) (sc := defScope s_RingMap_unseat) (by decide +kernel)) (fun _ _ _ _ _ => (pg_name (i := 4) sc_RingMap_unseat.nd rfl (Or.inl rfl))) (fun _ _ _ _ _ => (pts_one (pt_cmpR op_ne (pe_fldK K (pe_ix (ix_tupK K) (pv 4) pe_int (fun _ _ => rfl)) (by rfl)) (pe_fldK K (pv 2) (by rfl)) (nomark _)))) (fun _ _ _ _ _ => (pv 4)))
      (pss_one (ps_dput (hu_of hr) (pe_dget (hu_of hr) (pe_fldK K (pv 0) (by rfl)) (pv 1) (fun _ _ => rfl)) (pe_fldK K (pv 2) (by rfl)) (pv 3) rfl)))), ?_⟩
    obtain ⟨m1, m2⟩ := ring_mem hr0
    obtain ⟨dg, hg⟩ := hM.ring r0 m1
    obtain ⟨us, hus, pus⟩ := hM.seats r0 m1
    obtain ⟨dm, hm⟩ := hM.obj
    rw [m2] at hg hus
    obtain ⟨ws, hws, pws⟩ := hM.lst s' c hs hc
    have ul := pus.len
    have wl := pws.len
    have LR : Lv NS M (.ring n) := ⟨r0, m1, m2⟩
    have LL : Lv NS M (.lst s' c) := ⟨hs, hc⟩
    have LD : Lv NS M (.dict s') := hs
    walk_at "g"
    refine ⟨ad (.ring n), _, dg, _, _, rfl, hg, T.k_Ring, T.a_Ring__seats, rfl, ?_⟩
    walk_at "g"
    refine ⟨⟨_, SqL.of hus⟩, fun L1 nL1 => ?_⟩
    refine lc_keep walk_list pus (fun x => decide (x.1 ≠ s')) nL1 (by omega) (fun H s => s.seq (SqL.of hus)) (fun _ => rfl) ?_ ?_ ?_
    · intro u x hx hu H2 Q2 s2 q
      walk_at "g"
      refine ⟨u, _, 0, .int (x.1 : Int), rfl, rfl, SqT.of (s2 _ _ hu), rfl, ?_⟩
      walk_at "g"
      rw [ne_nat]
      exact q
    · intro u x hx hu H2 Q2 s2 q
      walk_at "g"
      exact q
    · intro vs1 H1 s1 hL1 pv1
      have hM1 := hM.same s1
      have n1 : ∀ x, Lv NS M x → ad x ≠ L1 := fun x hx => hM.ne_none hx nL1
      walk_at "g"
      refine ⟨ad (.ring n), _, dg, _, rfl, s1 _ _ hg, T.k_Ring, T.a_Ring__seats, by show 4 < 1000; decide, ?_⟩
      have kp2 : ∀ {x : Sl} {o : HO}, Lv NS M x → x ≠ .ring n → H1 (ad x) = some o → upd H1 (ad (.ring n)) (.ins (He.ga K "Ring") dg (rgF n r0.turn r0.mod L1)) (ad x) = some o := fun {x o} hx q e => by
        rw [upd_ne (adne hM1 hx LR q)]
        exact e
      have hm2 := kp2 (x := .obj) trivial (by intro z; cases z) (s1 _ _ hm)
      have hl2 := kp2 (x := .lying) trivial (by intro z; cases z) hM1.lying
      have hd2 := kp2 (x := .dict s') hs (by intro z; cases z) (hM1.dict s' hs)
      have hw2 := kp2 (x := .lst s' c) LL (by intro z; cases z) (s1 _ _ hws)
      have hg2 : upd H1 (ad (.ring n)) (.ins (He.ga K "Ring") dg (rgF n r0.turn r0.mod L1)) (ad (.ring n)) = some (.ins (He.ga K "Ring") dg (rgF n r0.turn r0.mod L1)) := upd_same
      have kL1 := n1 _ LR
      have hL12 : upd H1 (ad (.ring n)) (.ins (He.ga K "Ring") dg (rgF n r0.turn r0.mod L1)) L1 = some (.lst (vs1.map V.ref)) := by rw [upd_ne kL1.symm]; exact hL1
      have tup2 : ∀ {b : Addr} {vs : List V}, H b = some (.tup vs) → upd H1 (ad (.ring n)) (.ins (He.ga K "Ring") dg (rgF n r0.turn r0.mod L1)) b = some (.tup vs) := fun {b vs} e => by
        rw [upd_ne (ne_of e hg (by intro z; cases z))]
        exact s1 _ _ e
      have rg2 : ∀ m r, M.ring? m = some r → ∃ dx se, upd H1 (ad (.ring n)) (.ins (He.ga K "Ring") dg (rgF n r0.turn r0.mod L1)) (ad (.ring m)) = some (.ins (He.ga K "Ring") dx (rgF m r.turn r.mod se)) := fun m r hr => by
        obtain ⟨k1, k2⟩ := ring_mem hr
        by_cases e : m = n
        · subst e
          rw [hr0] at hr
          cases hr
          exact ⟨_, _, upd_same⟩
        · obtain ⟨dx, e3⟩ := hM1.ring r k1
          rw [k2] at e3
          exact ⟨dx, _, kp2 (x := .ring m) ⟨r, k1, k2⟩ (by intro z; cases z; exact e rfl) e3⟩
      have kpA : ∀ b o, H b = some o → b ≠ ad (.ring n) → upd H1 (ad (.ring n)) (.ins (He.ga K "Ring") dg (rgF n r0.turn r0.mod L1)) b = some o := fun b o e q => by rw [upd_ne q]; exact s1 _ _ e
      show tSeq _ _ _ _ (upd H1 (ad (.ring n)) (.ins (He.ga K "Ring") dg (rgF n r0.turn r0.mod L1)))
      generalize upd H1 (ad (.ring n)) (.ins (He.ga K "Ring") dg (rgF n r0.turn r0.mod L1)) = H2 at *
      walk_at "g"
      refine ⟨ad .obj, _, dm, _, _, rfl, hm2, T.k_RingMap, T.a_RingMap__lying, rfl, ?_⟩
      walk_at "g"
      refine ⟨ad .lying, .ref (ad (.dict s')), rfl, by
        have := DGet.k (k := (.inl (s' : Int) : Key)) hl2
        rw [lyK_at hs] at this
        exact this, ?_⟩
      walk_at "g"
      refine ⟨ad (.ring n), _, dg, _, _, rfl, hg2, T.k_Ring, T.a_Ring__turn, rfl, ?_⟩
      walk_at "g"
      refine ⟨ad (.dict s'), .ref (ad (.lst s' c)), rfl, by
        have := DGet.k (k := (.inr c : Key)) hd2
        rw [dcK_at hc] at this
        rw [ht]
        exact this, ?_⟩
      walk_at "g"
      refine ⟨⟨_, SqL.of hw2⟩, fun L2 nL2 => ?_⟩
      have rgs : ∀ x ∈ M.ly s' c, ∃ r, M.ring? x.1 = some r := fun x hx => by
        obtain ⟨r, a, _⟩ := w'.on_ring (c := c) (s := s') (n := x.1) (p := x.2) hx
        exact ⟨r, a⟩
      refine lc_keep walk_list pws (fun x => decide (x.1 ≠ n)) nL2 (by omega) (fun H s => s.seq (SqL.of hw2)) (fun _ => rfl) ?_ ?_ ?_
      · intro u x hx hu H3 Q3 s3 q
        obtain ⟨r, hr'⟩ := rgs x hx
        obtain ⟨dx, se, hx2⟩ := rg2 x.1 r hr'
        walk_at "g"
        refine ⟨u, _, 0, .ref (ad (.ring x.1)), rfl, rfl, SqT.of (s3 _ _ (tup2 hu)), rfl, ?_⟩
        walk_at "g"
        refine ⟨ad (.ring x.1), _, dx, _, _, rfl, s3 _ _ hx2, T.k_Ring, T.a_Ring__number, rfl, ?_⟩
        walk_at "g"
        refine ⟨ad (.ring n), _, dg, _, _, rfl, s3 _ _ hg2, T.k_Ring, T.a_Ring__number, rfl, ?_⟩
        walk_at "g"
        rw [ne_nat]
        exact q
      · intro u x hx hu H3 Q3 s3 q
        walk_at "g"
        exact q
      · intro vs2 H3 s3 hL2 pv2
        walk_at "g"
        refine ⟨ad .obj, _, dm, _, _, rfl, s3 _ _ hm2, T.k_RingMap, T.a_RingMap__lying, rfl, ?_⟩
        walk_at "g"
        refine ⟨ad .lying, .ref (ad (.dict s')), rfl, by
          have := DGet.k (k := (.inl (s' : Int) : Key)) (s3 _ _ hl2)
          rw [lyK_at hs] at this
          exact this, ?_⟩
        walk_at "g"
        refine ⟨ad (.ring n), _, dg, _, _, rfl, s3 _ _ hg2, T.k_Ring, T.a_Ring__turn, rfl, ?_⟩
        walk_at "g"
        have ePut : putK (dcK ad NS s') (.inr c) (.ref L2) = NS.map fun d => ((.inr d : Key), if d = c then V.ref L2 else V.ref (ad (.lst s' d))) :=
          putK_fun (fun c : Str => (.inr c : Key)) (fun d => V.ref (ad (.lst s' d))) (fun a b e => Sum.inr.inj e) (.ref L2) hc
        refine ⟨ad (.dict s'), _, rfl, by
          have := DPut.k (k := (.inr c : Key)) (v := .ref L2) (s3 _ _ hd2) (by
            unfold dcK
            rw [List.length_map]
            exact Nat.lt_of_le_of_lt lN (by decide))
          rw [ePut] at this
          rw [ht]
          exact this, ?_⟩
        have nL2H : H L2 = none := by
          cases e : H L2 with
          | none => rfl
          | some o =>
            by_cases q : L2 = ad (.ring n)
            · rw [q, hg2] at nL2
              cases nL2
            · rw [kpA _ _ e q] at nL2
              cases nL2
        have n12 : L1 ≠ L2 := fun e => by rw [e] at hL12; rw [hL12] at nL2; cases nL2
        have dL1 : L1 ≠ ad (.dict s') := (n1 _ LD).symm
        have dL2 : L2 ≠ ad (.dict s') := (hM.ne_none LD nL2H).symm
        have dR : ad (.ring n) ≠ ad (.dict s') := adne hM LR LD (by intro z; cases z)
        obtain ⟨a, b⟩ := hM.unseat (H4 := upd H3 (ad (.dict s')) (.dK (NS.map fun d => ((.inr d : Key), if d = c then V.ref L2 else V.ref (ad (.lst s' d)))))) m1 m2 ht (fun r h e => w'.ring_eq h m1 (e.trans m2.symm)) hs hc (fun b o e q1 q2 => by
          rw [upd_ne q2]
          exact s3 _ _ (kpA _ _ e q1)) (by rw [upd_ne dR, ← ht]; exact s3 _ _ hg2) upd_same (by rw [upd_ne dL1]; exact s3 _ _ hL12) pv1 (by rw [upd_ne dL2]; exact hL2) pv2 nL1 nL2H n12
        exact k _ _ a b
def spDrop (K : PySem.W.Frag) : Sp := fun vs H Q _ => ∃ (NS ps : List Str) (t : Addr) (ad : Sl → Addr) (M : RM) (n : Nat), vs = [.ref (ad .obj), .ref (ad (.ring n))] ∧ RmK K NS ps t H ad M ∧ (∃ dx c m se, H (ad (.ring n)) = some (.ins (He.ga K "Ring") dx (rgF n c m se))) ∧ M.rings.length ≤ 50000 ∧
  ∀ H' ad', RmK K NS ps t H' ad' (M.drop n) → Rch NS H ad M H' ad' (M.drop n) → Q .non H'
theorem c_drop_ring (T : Txt K mg) : Met P w K mg base 1 (He.ga K "RingMap") "drop_ring" (spDrop K) [] := by
  refine metN T.m_RingMap__drop_ring sc_RingMap_drop_ring (fun vs H Q E h => ?_) (fun _ _ _ _ _ _ us hl => match us, hl with | [_, _], _ => rfl) (fun f cdv A outer s H vs Q E hr h => ?_)
  · obtain ⟨NS, ps, t, ad, M, n, rfl, _⟩ := h
    rfl
  · obtain ⟨NS, ps, t, ad, M, n, rfl, hM, ⟨dg, c, m, se, hg⟩, l1, k⟩ := h
    refine ⟨_, (pss_one (ps_fld (pv 0) (pe_lc (own := [("other", 2)]) (g := gName 2) rfl sc_RingMap_drop_ring.nd (pi_listK K (pe_fldK K (pv 0) (by rfl))) (blkOk_by (own := [("other", 2)]) (N := ["self", "ring", "other"]) (sc := defScope s_RingMap_drop_ring) (by decide +kernel)) (fun _ _ _ _ _ => (pg_name (i := 2) sc_RingMap_drop_ring.nd rfl (Or.inl rfl))) (fun _ _ _ _ _ => (pts_one (pt_cmpR op_ne (pe_fldK K (pv 2) (by rfl)) (pe_fldK K (pv 1) (by rfl)) (nomark _)))) (fun _ _ _ _ _ => (pv 2))) rfl)), ?_⟩
    obtain ⟨dm, hm⟩ := hM.obj
    walk_at "g"
    refine ⟨ad .obj, _, dm, _, _, rfl, hm, T.k_RingMap, T.a_RingMap__circles, rfl, ?_⟩
    walk_at "g"
    refine ⟨⟨_, SqL.of hM.circ⟩, fun L1 nL1 => ?_⟩
    have eC : (M.rings.map fun r => V.ref (ad (.ring r.num))) = (M.rings.map fun r => ad (.ring r.num)).map V.ref := by rw [List.map_map]; rfl
    have pR : P2 (fun (u : Addr) (r : Rg) => u = ad (.ring r.num) ∧ ∃ dx, H u = some (.ins (He.ga K "Ring") dx (rgF r.num r.turn r.mod (ad (.seats r.num))))) (M.rings.map fun r => ad (.ring r.num)) M.rings := P2.of_map (g := fun r : Rg => ad (.ring r.num)) M.rings fun r hr => ⟨rfl, hM.ring r hr⟩
    refine lc_keep (us := M.rings.map fun r => ad (.ring r.num)) walk_list pR (fun r => decide (r.num ≠ n)) nL1 (by omega) (fun H s => s.seq (SqL.of (by rw [← eC]; exact hM.circ))) (fun _ => rfl) ?_ ?_ ?_
    · rintro u r hr' ⟨rfl, dr, hu⟩ H2 Q2 s2 q
      walk_at "g"
      refine ⟨ad (.ring r.num), _, dr, _, _, rfl, s2 _ _ hu, T.k_Ring, T.a_Ring__number, rfl, ?_⟩
      walk_at "g"
      refine ⟨ad (.ring n), _, dg, _, _, rfl, s2 _ _ hg, T.k_Ring, T.a_Ring__number, rfl, ?_⟩
      walk_at "g"
      rw [ne_nat]
      exact q
    · intro u r hr' _ H2 Q2 s2 q
      walk_at "g"
      exact q
    · intro vs1 H1 s1 hL1 pv1
      walk_at "g"
      refine ⟨ad .obj, _, dm, _, rfl, s1 _ _ hm, T.k_RingMap, T.a_RingMap__circles, by show 7 < 1000; decide, ?_⟩
      have nO : ad .obj ≠ L1 := hM.ne_none (x := .obj) trivial nL1
      have eV : vs1.map V.ref = (M.rings.filter fun r => decide (r.num ≠ n)).map fun r => V.ref (ad (.ring r.num)) := by
        have : vs1 = (M.rings.filter fun r => decide (r.num ≠ n)).map fun r => ad (.ring r.num) := P2.eq_map (g := fun r : Rg => ad (.ring r.num)) (pv1.mono fun _ _ e => e.1)
        rw [this, List.map_map]
        rfl
      rw [eV] at hL1
      obtain ⟨a, b⟩ := hM.drop (H4 := upd H1 (ad .obj) (.ins (He.ga K "RingMap") dm (rmF t L1 (ad .spots) (ad .lying) M.laid M.drawn (ad .spotof)))) (n := n) (fun b o e q => by rw [upd_ne q]; exact s1 _ _ e) upd_same (by rw [upd_ne nO.symm]; exact hL1) nL1
      exact k _ _ a b
end
end Tr

/-! # Ring.spot_at; RingMap.ring_at, after, walk. -/
namespace Tr
open PySem L2 TL
/-- steps of a reading that are plain -/
local macro_rules | `(tactic| walk_at "x") => `(tactic| (refine' ⟨_, _, _, _, rfl, rfl, ?k1, ?k2, ?_⟩; (case k1 => exact SqT.of (by assumption)); (case k2 => exact rfl)))
local macro_rules | `(tactic| walk_at "g") => `(tactic| repeat (first | (refine ⟨_, rfl, ?_⟩) | (refine ⟨_, _, rfl, rfl, ?_⟩) | (refine ⟨_, _, rfl, ?_⟩) | (refine ⟨rfl, ?_⟩) | walk_at "x"))


theorem split_at {α : Type} {l : List α} {i : Nat} {z : α} (h : l[i]? = some z) : l = l.take i ++ z :: l.drop (i + 1) := by
  obtain ⟨hi, e⟩ := List.getElem?_eq_some_iff.mp h
  rw [← e, ← List.drop_eq_getElem_cons hi, List.take_append_drop]
def oN : Option Nat → V
  | some t => .int (t : Int)
  | none => .non
section
variable {P : Program} [PM : PMain P] {w : World} {K : PySem.W.Frag} {mg : Str → Option Value} {base : Heap}
def spSpotAt (C : Addr) : Sp := fun vs H Q _ => ∃ (x dx se : Addr) (n : Nat) (c : Str) (m p : Int) (us : List Addr) (ss : List (Nat × Int)), vs = [.ref x, .int p] ∧ H x = some (.ins C dx (rgF n c m se)) ∧ H se = some (.lst (us.map V.ref)) ∧ P2 (StP H) us ss ∧ Q (oN ((ss.find? fun x => decide (plc m x.2 = plc m p)).map (·.1))) H
theorem c_spot_at (T : Txt K mg) : Met P w K mg base 2 (He.ga K "Ring") "spot_at" (spSpotAt (He.ga K "Ring")) [] := by
  have c_place := @c_place P PM w K mg base T
  refine metN T.m_Ring__spot_at sc_Ring_spot_at (fun vs H Q E h => ?_) (fun _ _ _ _ _ _ us hl => match us, hl with | [_, _], _ => rfl) (fun f cdv A outer s H vs Q E hr h => ?_)
  · obtain ⟨x, dx, se, n, c, m, p, us, ss, rfl, _⟩ := h
    rfl
  · obtain ⟨x, dx, se, n, c, m, p, us, ss, rfl, hx, hse, pu, k⟩ := h
    refine ⟨_, (pss_cons (ps_set (i := 2) sc_Ring_spot_at.nd rfl (Or.inl rfl) (pe_mtx c_place hr (by first | decide | omega) passL (pv 0) (pa_cons (pv 1) pa_nil)))
      (pss_cons (ps_for PassesOwn.never rfl (pi_list (pe_fldK K (pv 0) (by rfl))) (pg_tup rfl (pgs_cons (pg_name (i := 3) sc_Ring_spot_at.nd rfl (Or.inl rfl)) (pgs_cons (pg_name (i := 4) sc_Ring_spot_at.nd rfl (Or.inl rfl)) pgs_nil))) (pss_one (ps_if (pt_cmpR op_eq (pe_mtx c_place hr (by first | decide | omega) passL (pv 0) (pa_cons (pv 4) pa_nil)) (pv 2) (nomark _)) (pss_one (ps_ret (pv 3))) pss_nil)))
      (pss_one (ps_ret pe_non)))), ?_⟩
    have ul := pu.len
    walk_at "g"
    refine ⟨x, dx, _, rfl, hx, rfl, ?_⟩
    walk_at "g"
    refine ⟨x, dx, se, n, c, m, p, rfl, hx, ?_⟩
    walk_at "g"
    refine ⟨x, _, dx, _, _, rfl, hx, T.k_Ring, T.a_Ring__seats, rfl, ?_⟩
    walk_at "g"
    refine ⟨⟨_, SqL.of hse⟩, ?_⟩
    refine for_it (walk_list (K := K) (xs := us.map V.ref)) (fun i σ H' => ∃ (v3 v4 : Option V), σ = [some (.ref x), some (.int p), some (.int (plc m p)), v3, v4] ∧ H' = H ∧ ∀ y ∈ ss.take i, plc m y.2 ≠ plc m p) ⟨_, _, rfl, rfl, fun y hy => by cases hy⟩ ?_ ?_ ?_
    · rintro i σ H' _ ⟨_, _, _, rfl, _⟩
      exact SqL.of hse
    · rintro i y σ H2 H2' hi ⟨v3, v4, rfl, rfl, hno⟩ ⟨rfl, hy⟩
      rw [List.getElem?_map] at hy
      obtain ⟨u, hu, rfl⟩ := Option.map_eq_some_iff.mp hy
      obtain ⟨z, hz, hut⟩ := pu.getl hu
      refine ⟨u, _, rfl, SqT.of hut, rfl, _, _, rfl, _, _, rfl, rfl, ?_⟩
      walk_at "g"
      refine ⟨x, dx, _, rfl, hx, rfl, ?_⟩
      walk_at "g"
      refine ⟨x, dx, se, n, c, m, z.2, rfl, hx, ?_⟩
      walk_at "g"
      by_cases e : plc m z.2 = plc m p
      · refine iteEq (congrArg V.int e) ?_
        walk_at "g"
        have : ss.find? (fun x => decide (plc m x.2 = plc m p)) = some z := by
          rw [split_at hz, List.find?_append, List.find?_eq_none.mpr fun y hy => by rw [decide_eq_true_eq]; exact hno y hy, List.find?_cons, decide_eq_true e]
          rfl
        rw [this] at k
        exact k
      · rw [decide_eq_false (fun q => e (V.int.inj q))]
        refine iteF ?_
        walk_at "g"
        intro y hy
        rw [take_snoc hz] at hy
        rcases List.mem_append.mp hy with hy | hy
        · exact hno y hy
        · rw [List.mem_singleton.mp hy]
          exact e
    · rintro σ H2 ⟨v3, v4, rfl, rfl, hno⟩
      rw [List.length_map, ul, List.take_length] at hno
      walk_at "g"
      rw [List.find?_eq_none.mpr fun y hy => by rw [decide_eq_true_eq]; exact hno y hy] at k
      exact k
def spRingAt (K : PySem.W.Frag) : Sp := fun vs H Q _ => ∃ (NS ps : List Str) (per : Str → Int) (t : Addr) (ad : Sl → Addr) (M : RM) (s n : Nat) (c : Str) (p : Int), vs = [.ref (ad .obj), .int (s : Int), .str c] ∧ RmK K NS ps t H ad M ∧ WF0 NS per M ∧ (∃ l, M.ly s c = (n, p) :: l) ∧ ∀ y H', Same H H' → H y = none → H' y = some (.tup [.ref (ad (.ring n)), .int (plc (M.md n) p)]) → Q (.ref y) H'
theorem c_ring_at (T : Txt K mg) : Met P w K mg base 2 (He.ga K "RingMap") "ring_at" (spRingAt K) [] := by
  have c_place := @c_place P PM w K mg base T
  refine metN T.m_RingMap__ring_at sc_RingMap_ring_at (fun vs H Q E h => ?_) (fun _ _ _ _ _ _ us hl => match us, hl with | [_, _, _], _ => rfl) (fun f cdv A outer s H vs Q E hr h => ?_)
  · obtain ⟨NS, ps, per, t, ad, M, s, n, c, p, rfl, _⟩ := h
    rfl
  · obtain ⟨NS, ps, per, t, ad, M, s', n, c, p, rfl, hM, w', ⟨l, hl⟩, k⟩ := h
    refine ⟨_, (pss_cons (ps_asg (pe_ix ix_list (pe_dget (hu_of hr) (pe_dget (hu_of hr) (pe_fldK K (pv 0) (by rfl)) (pv 1) (fun _ _ => rfl)) (pv 2) (fun _ _ => rfl)) pe_int (fun _ _ => rfl)) (pg_tup rfl (pgs_cons (pg_name (i := 3) sc_RingMap_ring_at.nd rfl (Or.inl rfl)) (pgs_cons (pg_name (i := 4) sc_RingMap_ring_at.nd rfl (Or.inl rfl)) pgs_nil))))
      (pss_one (ps_ret (pe_tup (pa_cons (pv 3) (pa_cons (pe_mtx c_place hr (by first | decide | omega) passL (pv 3) (pa_cons (pv 4) pa_nil)) pa_nil)))))), ?_⟩
    have on : M.on c s' n p := by show (n, p) ∈ M.ly s' c; rw [hl]; exact List.mem_cons_self
    obtain ⟨r, hr', ht, hs, hc⟩ := w'.on_ring on
    obtain ⟨m1, m2⟩ := ring_mem hr'
    obtain ⟨dm, hm⟩ := hM.obj
    have hla := w'.sb s' hs
    obtain ⟨ws, hws, pws⟩ := hM.lst s' c hla hc
    rw [hl] at pws
    obtain ⟨dg, hg⟩ := hM.ring r m1
    rw [m2] at hg
    cases pws with
    | @cons u _ us _ hu pus =>
      walk_at "g"
      refine ⟨ad .obj, _, dm, _, _, rfl, hm, T.k_RingMap, T.a_RingMap__lying, rfl, ?_⟩
      walk_at "g"
      refine ⟨ad .lying, .ref (ad (.dict s')), rfl, by
        have := DGet.k (k := (.inl (s' : Int) : Key)) hM.lying
        rw [lyK_at hla] at this
        exact this, ?_⟩
      walk_at "g"
      refine ⟨ad (.dict s'), .ref (ad (.lst s' c)), rfl, by
        have := DGet.k (k := (.inr c : Key)) (hM.dict s' hla)
        rw [dcK_at hc] at this
        exact this, ?_⟩
      walk_at "g"
      refine ⟨ad (.lst s' c), _, 0, .ref u, rfl, rfl, SqL.of hws, by show atI _ ((0 : Nat) : Int) = _; exact atI_nat rfl, ?_⟩
      refine ⟨u, _, rfl, SqT.of hu, rfl, _, _, rfl, _, _, rfl, rfl, ?_⟩
      walk_at "g"
      refine ⟨ad (.ring n), dg, _, rfl, hg, rfl, ?_⟩
      walk_at "g"
      refine ⟨ad (.ring n), dg, _, n, _, _, p, rfl, hg, ?_⟩
      walk_at "g"
      refine ⟨by show 2 ≤ sizeLine; decide, fun y ny => ?_⟩
      rw [← md_of hr']
      exact k y _ (same_upd ny) ny upd_same
def spAfter (K : PySem.W.Frag) : Sp := fun vs H Q _ => ∃ (NS ps : List Str) (per : Str → Int) (t : Addr) (ad : Sl → Addr) (M : RM) (s : Nat) (c : SI) (u : Addr), vs = [.ref (ad .obj), .int (s : Int), .ref u] ∧ RmK K NS ps t H ad M ∧ WF0 NS per M ∧ Fl NS M ∧ s ∈ M.spots ∧ c.1 ∈ NS ∧ SrT H u c ∧ ∀ H', Same H H' → Q (oN (M.aft s c)) H'
theorem c_after (T : Txt K mg) : Met P w K mg base 3 (He.ga K "RingMap") "after" (spAfter K) [] := by
  have c_ring_at := @c_ring_at P PM w K mg base T
  have c_spot_at := @c_spot_at P PM w K mg base T
  refine metN T.m_RingMap__after sc_RingMap_after (fun vs H Q E h => ?_) (fun _ _ _ _ _ _ us hl => match us, hl with | [_, _, _], _ => rfl) (fun f cdv A outer s H vs Q E hr h => ?_)
  · obtain ⟨NS, ps, per, t, ad, M, s, c, u, rfl, _⟩ := h
    rfl
  · obtain ⟨NS, ps, per, t, ad, M, s', c, u, rfl, hM, w', fl, hs, hc, hu, k⟩ := h
    refine ⟨_, (pss_cons (ps_asg (pe_mtx c_ring_at hr (by first | decide | omega) passL (pv 0) (pa_cons (pv 1) (pa_cons (pe_ix ix_tup (pv 2) pe_int (fun _ _ => rfl)) pa_nil))) (pg_tup rfl (pgs_cons (pg_name (i := 3) sc_RingMap_after.nd rfl (Or.inl rfl)) (pgs_cons (pg_name (i := 4) sc_RingMap_after.nd rfl (Or.inl rfl)) pgs_nil))))
      (pss_one (ps_ret (pe_mtx c_spot_at hr (by first | decide | omega) passL (pv 3) (pa_cons (pe_op op_add (pv 4) (pe_ix ix_tup (pv 2) pe_int (fun _ _ => rfl))) pa_nil))))), ?_⟩
    obtain ⟨n, p, on, hh⟩ := head_on fl hs hc
    obtain ⟨l, hl⟩ : ∃ l, M.ly s' c.1 = (n, p) :: l := by
      cases e : M.ly s' c.1 with
      | nil => change (n, p) ∈ M.ly s' c.1 at on; rw [e] at on; cases on
      | cons x l => rw [e] at hh; exact ⟨l, by rw [show x = (n, p) from hh]⟩
    obtain ⟨r, hr', ht, _⟩ := w'.on_ring on
    obtain ⟨m1, m2⟩ := ring_mem hr'
    obtain ⟨dm, hm⟩ := hM.obj
    walk_at "g"
    refine ⟨ad .obj, dm, _, rfl, hm, rfl, ?_⟩
    walk_at "g"
    refine ⟨NS, ps, per, t, ad, M, s', n, c.1, p, rfl, hM, w', ⟨l, hl⟩, fun y H1 s1 ny hy => ?_⟩
    have hM1 := hM.same s1
    obtain ⟨dg, hg⟩ := hM1.ring r m1
    obtain ⟨us, hus, pus⟩ := hM1.seats r m1
    rw [m2] at hg hus
    refine ⟨y, _, rfl, SqT.of hy, rfl, _, _, rfl, _, _, rfl, rfl, ?_⟩
    walk_at "g"
    refine ⟨ad (.ring n), dg, _, rfl, hg, rfl, ?_⟩
    walk_at "g"
    refine ⟨u, _, 1, .int c.2, rfl, rfl, SqT.of (s1 _ _ hu), by show atI _ ((1 : Nat) : Int) = _; exact atI_nat rfl, ?_⟩
    walk_at "g"
    refine ⟨ad (.ring n), dg, _, n, _, _, _, us, r.seats, rfl, hg, hus, pus, ?_⟩
    have e : M.aft s' c = (r.seats.find? fun x => decide (plc r.mod x.2 = plc r.mod (plc (M.md n) p + c.2))).map (·.1) := by
      unfold RM.aft
      rw [hh]
      dsimp only
      rw [hr', md_of hr']
    rw [← e]
    exact k H1 s1
def spWalk (K : PySem.W.Frag) : Sp := fun vs H Q _ => ∃ (NS ps : List Str) (per : Str → Int) (t : Addr) (ad : Sl → Addr) (M : RM) (s : Nat) (a t2 : Addr) (ks x : List SI), vs = [.ref (ad .obj), .int (s : Int), .ref a] ∧ RmK K NS ps t H ad M ∧ WF0 NS per M ∧ Fl NS M ∧ s ∈ M.spots ∧ RwAt (He.ga K "Row") (He.ga K "Turns") H a t2 ks x ∧ InS NS x ∧ ∀ H', Same H H' → Q (oN (M.wlk (some s) x)) H'
theorem aft_sp {NS : List Str} {per : Str → Int} {M : RM} (w : WF0 NS per M) {s t : Nat} {c : SI} (h : M.aft s c = some t) : t ∈ M.spots := by
  unfold RM.aft at h
  dsimp only at h
  cases e : M.ring? ((M.ly s c.1).headD (0, 0)).1 with
  | none => rw [e] at h; cases h
  | some r =>
    rw [e] at h
    obtain ⟨x, hx, rfl⟩ := Option.map_eq_some_iff.mp h
    have a := List.mem_of_find?_eq_some hx
    exact (w.ln _ _ _ _ ((w.seat_iff (ring_mem e).1 (s := x.1) (p := x.2)).mp a)).1
theorem wlk_none {M : RM} : ∀ x : List SI, M.wlk none x = none
  | [] => rfl
  | _ :: _ => rfl
theorem wlk_snoc {M : RM} : ∀ (x : List SI) (o : Option Nat) (c : SI), M.wlk o (x ++ [c]) = match M.wlk o x with | some s => M.aft s c | none => none
  | [], o, c => by
    show M.wlk o [c] = match o with | some s => M.aft s c | none => none
    cases o <;> rfl
  | d :: x, some s, c => wlk_snoc x (M.aft s d) c
  | d :: x, none, c => by
    show none = match (none : Option Nat) with | some s => M.aft s c | none => none
    rfl
theorem c_walk (T : Txt K mg) : Met P w K mg base 4 (He.ga K "RingMap") "walk" (spWalk K) [] := by
  have c_after := @c_after P PM w K mg base T
  refine metN T.m_RingMap__walk sc_RingMap_walk (fun vs H Q E h => ?_) (fun _ _ _ _ _ _ us hl => match us, hl with | [_, _, _], _ => rfl) (fun f cdv A outer s H vs Q E hr h => ?_)
  · obtain ⟨NS, ps, per, t, ad, M, s, a, t2, ks, x, rfl, _⟩ := h
    rfl
  · obtain ⟨NS, ps, per, t, ad, M, s', a, t2, ks, x, rfl, hM, w', fl, hs, hR, hx, k⟩ := h
    refine ⟨_, (pss_cons (ps_for PassesOwn.never rfl (pi_tup (pe_fld (pv 2) rfl)) (pg_name (i := 3) sc_RingMap_walk.nd rfl (Or.inl rfl)) (pss_cons (ps_if (pt_cmpR op_isN (pv 1) pe_non (nomark _)) (pss_one (ps_ret pe_non)) pss_nil)
      (pss_one (ps_set (i := 1) sc_RingMap_walk.nd rfl (Or.inl rfl) (pe_mtx c_after hr (by first | decide | omega) passL (pv 0) (pa_cons (pv 1) (pa_cons (pv 3) pa_nil)))))))
      (pss_one (ps_ret (pv 1)))), ?_⟩
    obtain ⟨da, st, ky, kk, pp, ys, ha, ⟨ts, hst, pst⟩, _⟩ := id hR.ex
    obtain ⟨dm, hm⟩ := hM.obj
    have tl := pst.len
    walk_at "g"
    refine ⟨a, _, da, _, _, rfl, ha, T.k_Row, T.a_Row__steps, rfl, ?_⟩
    walk_at "g"
    refine ⟨⟨_, SqT.of hst⟩, ?_⟩
    refine for_it (walk_tup (K := K) (xs := ts.map V.ref)) (fun i σ H' => ∃ (o : Option Nat) (v3 : Option V), σ = [some (.ref (ad .obj)), some (oN o), some (.ref a), v3] ∧ Same H H' ∧ M.wlk (some s') (x.take i) = o ∧ ∀ u, o = some u → u ∈ M.spots) ⟨some s', _, rfl, Same.refl _, rfl, fun u e => by cases e; exact hs⟩ ?_ ?_ ?_
    · rintro i σ H' _ ⟨_, _, _, s', _⟩
      exact SqT.of (s' _ _ hst)
    · rintro i y σ H2 H2' hi ⟨o, v3, rfl, s2, ho, hsp⟩ ⟨rfl, hy⟩
      rw [List.getElem?_map] at hy
      obtain ⟨u, hu, rfl⟩ := Option.map_eq_some_iff.mp hy
      obtain ⟨c, hc, hut⟩ := pst.getl hu
      walk_at "g"
      cases o with
      | none =>
        refine iteEq rfl ?_
        walk_at "g"
        have e : M.wlk (some s') x = none := by
          rw [← List.take_append_drop i x]
          have : ∀ (a b : List SI) (o : Option Nat), M.wlk o (a ++ b) = M.wlk (M.wlk o a) b := by
            intro a
            induction a with
            | nil => intro b o; rfl
            | cons d a ih =>
              intro b o
              cases o with
              | none => exact (wlk_none b).symm
              | some s => exact ih b (M.aft s d)
          rw [this, ho, wlk_none]
        rw [e] at k
        exact k _ s2
      | some s1 =>
        have hs1 := hsp s1 rfl
        rw [show decide (oN (some s1) = V.non) = false from decide_eq_false (by intro z; cases z)]
        refine iteF ?_
        walk_at "g"
        refine ⟨ad .obj, dm, _, rfl, s2 _ _ hm, rfl, ?_⟩
        walk_at "g"
        refine ⟨NS, ps, per, t, ad, M, s1, c, u, rfl, hM.same s2, w', fl, hs1, hx c (mem_of_at hc), s2 _ _ hut, fun H3 s3 => ?_⟩
        walk_at "g"
        refine ⟨s2.trans s3, ?_, fun v e => aft_sp w' e⟩
        rw [take_snoc hc, wlk_snoc, ho]
    · rintro σ H2 ⟨o, v3, rfl, s2, ho, hsp⟩
      rw [List.length_map, tl, List.take_length] at ho
      walk_at "g"
      rw [← ho]
      exact k _ s2
end
end Tr

/-! # The map in the heap: what lies outside of it; spots and places changed. -/
namespace Tr
open PySem L2 TL
/-- steps of a reading that are plain -/
local macro_rules | `(tactic| walk_at "x") => `(tactic| (refine' ⟨_, _, _, _, rfl, rfl, ?k1, ?k2, ?_⟩; (case k1 => exact SqT.of (by assumption)); (case k2 => exact rfl)))
local macro_rules | `(tactic| walk_at "g") => `(tactic| repeat (first | (refine ⟨_, rfl, ?_⟩) | (refine ⟨_, _, rfl, rfl, ?_⟩) | (refine ⟨_, _, rfl, ?_⟩) | (refine ⟨rfl, ?_⟩) | walk_at "x"))


/-- what stands outside of the map: H0 stands, and nothing of it is the map's -/
structure Out (NS : List Str) (H0 H : Hp) (ad : Sl → Addr) (M : RM) : Prop where
  s : Same H0 H
  n : ∀ x, Lv NS M x → H0 (ad x) = none
section
variable {CM CG t : Addr} {NS ps : List Str} {H0 H H' H4 : Hp} {ad ad' : Sl → Addr} {M M' : RM}
theorem Out.rch (o : Out NS H0 H ad M) (r : Rch NS H ad M H' ad' M') : Out NS H0 H' ad' M' := by
  refine ⟨fun b u e => r.kp b u (o.s b u e) fun x hx q => ?_, fun x hx => ?_⟩
  · have := o.n x hx
    rw [q, e] at this
    cases this
  · rcases r.nw x hx with ⟨y, hy, e⟩ | h
    · rw [← e]
      exact o.n y hy
    · cases e : H0 (ad' x) with
      | none => rfl
      | some u =>
        rw [o.s _ _ e] at h
        cases h
theorem Out.same (o : Out NS H0 H ad M) (s : Same H H') : Out NS H0 H' ad M := ⟨o.s.trans s, o.n⟩
open Classical in
/-- all that is not the map's -/
noncomputable def holeH (NS : List Str) (H : Hp) (ad : Sl → Addr) (M : RM) : Hp := fun b => if ∃ x, Lv NS M x ∧ ad x = b then none else H b
theorem hole_out : Out NS (holeH NS H ad M) H ad M := by
  classical
  refine ⟨fun b u e => ?_, fun x hx => if_pos ⟨x, hx, rfl⟩⟩
  unfold holeH at e
  split at e
  · cases e
  · exact e
theorem hole_at {b : Addr} {u : HO} (e : H b = some u) (n : ∀ x, Lv NS M x → ad x ≠ b) : holeH NS H ad M b = some u := by
  classical
  unfold holeH
  rw [if_neg fun ⟨x, hx, q⟩ => n x hx q]
  exact e
theorem Out.hole (o : Out NS H0 H ad M) : Same H0 (holeH NS H ad M) := fun b u e => hole_at (o.s b u e) fun x hx q => by
  have := o.n x hx
  rw [q, e] at this
  cases this
theorem RmAt.tup_ne (h : RmAt CM CG NS ps t H ad M) {b : Addr} {vs : List V} (e : H b = some (.tup vs)) : ∀ x, Lv NS M x → ad x ≠ b := fun x hx q => by
  obtain ⟨o, a, b⟩ := h.at_ x hx
  rw [q, e] at a
  exact b vs (Option.some.inj a).symm
/-- spots and places are others -/
theorem RmAt.spl (h : RmAt CM CG NS ps t H ad M) (sp : List Nat) (pl : Str → Nat) (kp : ∀ b o, H b = some o → b ≠ ad .spots → b ≠ ad .spotof → H4 b = some o) (e1 : H4 (ad .spots) = some (.lst (sp.map fun s : Nat => V.int (s : Int)))) (e2 : H4 (ad .spotof) = some (.dK (ps.map fun p => ((.inr p : Key), V.int (pl p : Int))))) :
    RmAt CM CG NS ps t H4 ad { M with spots := sp, pl := pl } ∧ Rch NS H ad M H4 ad { M with spots := sp, pl := pl } := by
  have lv : ∀ x, Lv NS { M with spots := sp, pl := pl } x → Lv NS M x := fun x hx => by
    match x, hx with
    | .ring _, hx => exact hx
    | .seats _, hx => exact hx
    | .obj, hx => exact hx
    | .circ, hx => exact hx
    | .spots, hx => exact hx
    | .lying, hx => exact hx
    | .spotof, hx => exact hx
    | .dict _, hx => exact hx
    | .lst _ _, hx => exact hx
  have keep : ∀ {x : Sl} {o : HO}, Lv NS M x → x ≠ .spots → x ≠ .spotof → H (ad x) = some o → H4 (ad x) = some o := fun {x o} hx n1 n2 e => kp _ _ e (adne h hx (y := .spots) trivial n1) (adne h hx (y := .spotof) trivial n2)
  have tup : ∀ {b : Addr} {vs : List V}, H b = some (.tup vs) → H4 b = some (.tup vs) := fun {b vs} e => kp _ _ e (h.tup_ne e .spots trivial).symm (h.tup_ne e .spotof trivial).symm
  refine ⟨⟨fun x y hx hy => h.inj x y (lv x hx) (lv y hy), ?_, keep (x := .circ) trivial (by intro z; cases z) (by intro z; cases z) h.circ, e1, keep (x := .lying) trivial (by intro z; cases z) (by intro z; cases z) h.lying, e2, ?_, ?_, ?_, ?_⟩, ⟨fun b o e q => kp b o e (fun z => q .spots trivial z.symm) (fun z => q .spotof trivial z.symm), fun x hx => .inl ⟨x, lv x hx, rfl⟩, rfl, fun _ _ => rfl, Nat.le_refl _⟩⟩
  · obtain ⟨dx, e⟩ := h.obj
    exact ⟨dx, keep (x := .obj) trivial (by intro z; cases z) (by intro z; cases z) e⟩
  · intro r hr
    obtain ⟨dx, e⟩ := h.ring r hr
    exact ⟨dx, keep (x := .ring r.num) ⟨r, hr, rfl⟩ (by intro z; cases z) (by intro z; cases z) e⟩
  · intro r hr
    obtain ⟨us, a, b⟩ := h.seats r hr
    exact ⟨us, keep (x := .seats r.num) ⟨r, hr, rfl⟩ (by intro z; cases z) (by intro z; cases z) a, b.mono fun _ _ e => tup e⟩
  · intro i hi
    exact keep (x := .dict i) hi (by intro z; cases z) (by intro z; cases z) (h.dict i hi)
  · intro i d hi hd
    obtain ⟨us, a, b⟩ := h.lst i d hi hd
    exact ⟨us, keep (x := .lst i d) ⟨hi, hd⟩ (by intro z; cases z) (by intro z; cases z) a, b.mono fun _ _ e => tup e⟩
end
section
variable {NS : List Str} {per : Str → Int} {M : RM}
theorem unseat_tot (s n : Nat) (c : Str) : tot NS (M.unseat s n c) ≤ tot NS M := tot_congr (NS := NS) rfl fun t _ d _ => by
  rw [ly_unseat]
  split
  · exact List.length_filter_le _ _
  · exact Nat.le_refl _
/-- the spot goes over from ring to ring -/
theorem jsL_take {s g : Nat} {c : Str} {L : List (Nat × Int)} {i : Nat} {x : Nat × Int} (h : L[i]? = some x) : M.jsL s g c (L.take (i + 1)) = ((M.jsL s g c (L.take i)).unseat g x.1 c).seat s x.1 c x.2 := by
  unfold RM.jsL
  rw [take_snoc h, List.foldl_append]
  rfl
theorem jsA_take {s g : Nat} {L : List Str} {i : Nat} {c : Str} (h : L[i]? = some c) : M.jsA (L.take (i + 1)) s g = (M.jsA (L.take i) s g).jsC s g c := by
  unfold RM.jsA
  rw [take_snoc h, List.foldl_append]
  rfl
theorem jrS_take {n : Nat} {c : Str} {off : Int} {L : List (Nat × Int)} {i : Nat} {x : Nat × Int} (h : L[i]? = some x) : M.jrS n c off (L.take (i + 1)) = (M.jrS n c off (L.take i)).seat x.1 n c (x.2 + off) := by
  unfold RM.jrS
  rw [take_snoc h, List.foldl_append]
  rfl
theorem jrU_take {g : Nat} {c : Str} {L : List (Nat × Int)} {i : Nat} {x : Nat × Int} (h : L[i]? = some x) : M.jrU g c (L.take (i + 1)) = (M.jrU g c (L.take i)).unseat x.1 g c := by
  unfold RM.jrU
  rw [take_snoc h, List.foldl_append]
  rfl
theorem jsL_tot {s g : Nat} {c : Str} (nd : NS.Nodup) (hc : c ∈ NS) : ∀ {L : List (Nat × Int)} {M : RM}, WF0 NS per M → s ∈ M.spots → (∀ x ∈ L, ∃ r, M.ring? x.1 = some r ∧ r.turn = c) → tot NS (M.jsL s g c L) ≤ tot NS M + L.length
  | [], _, _, _, _ => Nat.le_refl _
  | x :: L, M, w, hs, h => by
    obtain ⟨r, hr, ht⟩ := h x List.mem_cons_self
    have w1 := w.unseat (s := g) hr ht
    have l1 : Lk2 M (M.unseat g x.1 c) := Lk2.unseat g x.1 c
    obtain ⟨r1, hr1, ht1⟩ := l1.ring hr
    have w2 := w1.seat (s := s) (p := x.2) hs hc hr1 (ht1.trans ht)
    have l2 := l1.trans (Lk2.seat (M := M.unseat g x.1 c) s x.1 c x.2)
    have := jsL_tot (s := s) (g := g) nd hc (L := L) w2 hs fun y hy => by
      obtain ⟨r, hr, ht⟩ := h y (List.mem_cons_of_mem _ hy)
      obtain ⟨r', hr', ht'⟩ := l2.ring hr
      exact ⟨r', hr', ht'.trans ht⟩
    have a := seat_tot (s := s) (n := x.1) (c := c) (p := x.2) nd w1
    have b := unseat_tot (NS := NS) (M := M) g x.1 c
    show tot NS (((M.unseat g x.1 c).seat s x.1 c x.2).jsL s g c L) ≤ tot NS M + (L.length + 1)
    omega
end
end Tr

/-! # RingMap.join_spots. -/
namespace Tr
open PySem L2 TL
/-- steps of a reading that are plain -/
local macro_rules | `(tactic| walk_at "x") => `(tactic| (refine' ⟨_, _, _, _, rfl, rfl, ?k1, ?k2, ?_⟩; (case k1 => exact SqT.of (by assumption)); (case k2 => exact rfl)))
local macro_rules | `(tactic| walk_at "g") => `(tactic| repeat (first | (refine ⟨_, rfl, ?_⟩) | (refine ⟨_, _, rfl, rfl, ?_⟩) | (refine ⟨_, _, rfl, ?_⟩) | (refine ⟨rfl, ?_⟩) | walk_at "x"))


theorem erase_at {g : Nat} : ∀ {l : List Nat} {j : Nat}, l[j]? = some g → (∀ m, m < j → l[m]? ≠ some g) → l.erase g = l.eraseIdx j
  | [], _, h, _ => by simp at h
  | x :: l, 0, h, _ => by
    cases h
    rw [List.erase_cons_head]
    rfl
  | x :: l, j + 1, h, hn => by
    have e : x ≠ g := fun q => hn 0 (by omega) (by rw [q]; rfl)
    rw [List.erase_cons_tail (by simpa using e)]
    show x :: l.erase g = x :: l.eraseIdx j
    rw [erase_at (by simpa using h) fun m hm => by
      have := hn (m + 1) (by omega)
      simpa using this]
theorem eraseIdx_mapN {α β : Type} (f : α → β) : ∀ (l : List α) (j : Nat), (l.map f).eraseIdx j = (l.eraseIdx j).map f
  | [], _ => rfl
  | _ :: _, 0 => rfl
  | x :: l, j + 1 => by
    show f x :: (l.map f).eraseIdx j = f x :: (l.eraseIdx j).map f
    rw [eraseIdx_mapN f l j]
theorem sumr_add' {f g : Nat → Nat} {s k : Nat} : ∀ {l : List Nat}, l.Nodup → (∀ x ∈ l, g x ≤ if x = s then f x + k else f x) → (l.map g).sum ≤ (l.map f).sum + k
  | [], _, _ => Nat.zero_le _
  | x :: l, nd, h => by
    obtain ⟨n1, n2⟩ := List.nodup_cons.mp nd
    rw [List.map_cons, List.map_cons, List.sum_cons, List.sum_cons]
    have hx := h x List.mem_cons_self
    by_cases e : x = s
    · have : (l.map g).sum ≤ (l.map f).sum := sumr_le fun y hy => by
        have := h y (List.mem_cons_of_mem _ hy)
        rwa [if_neg (fun q => n1 (by rw [e, ← q]; exact hy))] at this
      rw [if_pos e] at hx
      omega
    · have := sumr_add' n2 fun y hy => h y (List.mem_cons_of_mem _ hy)
      rw [if_neg e] at hx
      omega
theorem jsA_tot {NS L : List Str} {per : Str → Int} {M : RM} {s g : Nat} (ne : s ≠ g) (hL : ∀ c ∈ L, c ∈ NS) (nd : L.Nodup) (w : WF0 NS per M) (hs : s ∈ M.spots) (hg : g ∈ M.spots) : tot NS (M.jsA L s g) ≤ tot NS M + tot NS M := by
  obtain ⟨_, l1, h1⟩ := jsA_ok (NS := NS) ne hL nd w hs
  have : tot NS (M.jsA L s g) ≤ tot NS M + lyN NS M g := by
    unfold tot
    rw [l1.spots]
    refine sumr_add' (s := s) w.sd fun t _ => ?_
    unfold lyN
    by_cases e : t = s
    · rw [if_pos e]
      have key : ∀ L' : List Str, (L'.map fun c => ((M.jsA L s g).ly t c).length).sum ≤ (L'.map fun c => (M.ly t c).length).sum + (L'.map fun c => (M.ly g c).length).sum := by
        intro L'
        induction L' with
        | nil => exact Nat.le_refl _
        | cons c L' ih =>
          rw [List.map_cons, List.map_cons, List.map_cons, List.sum_cons, List.sum_cons, List.sum_cons, h1]
          split
          · rw [List.length_append]
            rw [e] at ih ⊢
            omega
          · omega
      exact key NS
    · rw [if_neg e]
      refine sumr_le fun c _ => ?_
      rw [h1]
      split
      · split
        · exact Nat.zero_le _
        · exact Nat.le_refl _
      · exact Nat.le_refl _
  have := lyN_le (NS := NS) hg
  omega
section
variable {P : Program} [PM : PMain P] {w : World} {K : PySem.W.Frag} {mg : Str → Option Value} {base : Heap}
/-- sizes that the walks want -/
structure RmB (NS ps : List Str) (M : RM) : Prop where
  tt : tot NS M ≤ 10000
  sp : M.spots.length ≤ 10000
  rl : M.rings.length ≤ 10000
  ps : ps.length ≤ 1000
  ns : NS.length ≤ 1000
theorem lens_of {NS : List Str} {per : Str → Int} {M : RM} (w : WF0 NS per M) {B : Nat} (h : tot NS M ≤ B) {n : Nat} {r : Rg} (hr : M.ring? n = some r) : r.seats.length ≤ B := Nat.le_trans (seats_len w (ring_mem hr).1) h
theorem lyl_of {NS : List Str} {M : RM} {B : Nat} (h : tot NS M ≤ B) {s : Nat} {c : Str} (hs : s ∈ M.spots) (hc : c ∈ NS) : (M.ly s c).length ≤ B := Nat.le_trans (ly_le hc) (Nat.le_trans (lyN_le hs) h)
def spJoin (K : PySem.W.Frag) : Sp := fun vs H Q _ => ∃ (ks : List SI) (ps : List Str) (per : Str → Int) (t : Addr) (H0 : Hp) (ad : Sl → Addr) (M : RM) (s g : Nat), vs = [.ref (ad .obj), .int (s : Int), .int (g : Int)] ∧ RmK K (ks.map (·.1)) ps t H ad M ∧ WF0 (ks.map (·.1)) per M ∧ Nds ks ∧ ps.Nodup ∧ Out (ks.map (·.1)) H0 H ad M ∧ TuAt (He.ga K "Turns") H0 t ks ∧ s ∈ M.spots ∧ g ∈ M.spots ∧ RmB (ks.map (·.1)) ps M ∧
  ∀ H' ad', RmK K (ks.map (·.1)) ps t H' ad' (if s = g then M else M.joinSpots (ks.map (·.1)) s g) → Rch (ks.map (·.1)) H ad M H' ad' (if s = g then M else M.joinSpots (ks.map (·.1)) s g) → Q .non H'
theorem c_join_spots (T : Txt K mg) : Met P w K mg base 2 (He.ga K "RingMap") "join_spots" (spJoin K) [] := by
  have c_seat := @c_seat P PM w K mg base T
  have c_unseat := @c_unseat P PM w K mg base T
  refine metN T.m_RingMap__join_spots sc_RingMap_join_spots (fun vs H Q E h => ?_) (fun _ _ _ _ _ _ us hl => match us, hl with | [_, _, _], _ => rfl) (fun f cdv A outer s H vs Q E hr h => ?_)
  · obtain ⟨ks, ps, per, t, H0, ad, M, s, g, rfl, _⟩ := h
    rfl
  · obtain ⟨ks, ps, per, t, H0, ad, M, s', g, rfl, hM, w', nd, ndp, out, hT, hs, hg, bd, k⟩ := h
    refine ⟨_, (pss_cons (ps_if (pt_cmpR op_eq (pv 1) (pv 2) (nomark _)) (pss_one (ps_retN)) pss_nil)
      (pss_cons (ps_for PassesOwn.never rfl (pi_tup (pe_fld (pe_fld (pv 0) rfl) rfl)) (pg_name (i := 3) sc_RingMap_join_spots.nd rfl (Or.inl rfl)) (pss_one (ps_for PassesOwn.never rfl (pi_list (pe_callTy call_list_of (by rfl) T.b_list (by decide +kernel) (pa_cons (pe_dget (hu_of hr) (pe_dget (hu_of hr) (pe_fldK K (pv 0) (by rfl)) (pv 2) (fun _ _ => rfl)) (pv 3) (fun _ _ => rfl)) pa_nil))) (pg_tup rfl (pgs_cons (pg_name (i := 4) sc_RingMap_join_spots.nd rfl (Or.inl rfl)) (pgs_cons (pg_name (i := 5) sc_RingMap_join_spots.nd rfl (Or.inl rfl)) pgs_nil))) (pss_cons (ps_expr (pe_mtx c_unseat hr (by first | decide | omega) passL (pv 0) (pa_cons (pv 2) (pa_cons (pv 4) pa_nil))))
      (pss_one (ps_expr (pe_mtx c_seat hr (by first | decide | omega) passL (pv 0) (pa_cons (pv 1) (pa_cons (pv 4) (pa_cons (pv 5) pa_nil))))))))))
      (C8.pss_cut (ps_expr (pe_bm PySem.F.plainAttrs_list PySem.F.slot_list_remove PySem.F.type_list_remove mt_remove (pe_fldK K (pv 0) (by rfl)) (pa_cons (pv 2) pa_nil)))
      (pss_one (ps_for PassesOwn.never rfl (pi_list (pe_callTy (call_list_dK rfl) (by rfl) T.b_list (by decide +kernel) (pa_cons (pe_fldK K (pv 0) (by rfl)) pa_nil))) (pg_name (i := 6) sc_RingMap_join_spots.nd rfl (Or.inl rfl)) (pss_one (ps_if (pt_cmpR op_eq (pe_dget (hu_of hr) (pe_fldK K (pv 0) (by rfl)) (pv 6) (fun _ _ => rfl)) (pv 2) (nomark _)) (pss_one (ps_dput (hu_of hr) (pe_fldK K (pv 0) (by rfl)) (pv 6) (pv 1) rfl)) pss_nil))))))), ?_⟩
    obtain ⟨NS, eNS⟩ : ∃ NS, NS = ks.map (·.1) := ⟨_, rfl⟩
    have ndN : NS.Nodup := by rw [eNS]; exact nd
    rw [← eNS] at hM w' out bd k
    walk_at "g"
    by_cases e : s' = g
    · subst e
      refine iteEq rfl ?_
      walk_at "g"
      rw [if_pos rfl] at k
      exact k H ad hM Rch.refl
    · rw [decide_eq_false (fun q => e (by have := V.int.inj q; omega))]
      refine iteF ?_
      rw [if_neg e] at k
      obtain ⟨dm, hm⟩ := hM.obj
      obtain ⟨dt, p1, p2, p3, p4, ht0, _, hn0, _⟩ := id hT.ex
      walk_at "g"
      refine ⟨ad .obj, _, dm, _, _, rfl, hm, T.k_RingMap, T.a_RingMap__turns, rfl, ?_⟩
      walk_at "g"
      refine ⟨t, _, dt, _, _, rfl, out.s _ _ ht0, T.k_Turns, T.a_Turns__names, rfl, ?_⟩
      walk_at "g"
      refine ⟨⟨_, SqT.of (out.s _ _ hn0)⟩, ?_⟩
      have kl : NS.length = ks.length := by rw [eNS, List.length_map]
      refine for_it (walk_tup (K := K) (xs := ks.map fun c => V.str c.1)) (fun j σ H' => ∃ (v3 v4 v5 v6 : Option V) (ad' : Sl → Addr), σ = [some (.ref (ad .obj)), some (.int (s' : Int)), some (.int (g : Int)), v3, v4, v5, v6] ∧ RmK K NS ps t H' ad' (M.jsA (NS.take j) s' g) ∧ Rch NS H ad M H' ad' (M.jsA (NS.take j) s' g)) ⟨_, _, _, _, ad, rfl, hM, Rch.refl⟩ ?_ ?_ ?_
      · rintro j σ H' _ ⟨_, _, _, _, ad', _, _, r⟩
        exact SqT.of ((out.rch r).s _ _ hn0)
      · rintro j y σ H1 H1' hj ⟨v3, v4, v5, v6, ad1, rfl, hM1, r1⟩ ⟨rfl, hy⟩
        rw [List.getElem?_map] at hy
        obtain ⟨c0, hc0, rfl⟩ := Option.map_eq_some_iff.mp hy
        have hcN : NS[j]? = some c0.1 := by rw [eNS, List.getElem?_map, hc0]; rfl
        have hc : c0.1 ∈ NS := mem_of_at hcN
        obtain ⟨w1, l1, h1⟩ := jsA_ok (NS := NS) e (L := NS.take j) (fun d hd => List.mem_of_mem_take hd) (ndN.sublist (List.take_sublist _ _)) w' hs
        have t1 := jsA_tot (L := NS.take j) e (fun d hd => List.mem_of_mem_take hd) (ndN.sublist (List.take_sublist _ _)) w' hs hg
        obtain ⟨Mj, eMj⟩ : ∃ Mj, Mj = M.jsA (NS.take j) s' g := ⟨_, rfl⟩
        rw [← eMj] at hM1 r1 w1 l1 h1 t1
        have hg1 : g ∈ Mj.spots := by rw [l1.spots]; exact hg
        have hs1 : s' ∈ Mj.spots := by rw [l1.spots]; exact hs
        have bt := bd.tt
        obtain ⟨dm1, hm1⟩ := hM1.obj
        have ob1 := r1.ob
        rw [ob1] at hm1
        obtain ⟨us, hus, pus⟩ := hM1.lst g c0.1 (w1.sb g hg1) hc
        have ul := pus.len
        have lL : (Mj.ly g c0.1).length ≤ 20000 := lyl_of (B := 20000) (by omega) hg1 hc
        walk_at "g"
        refine ⟨ad .obj, _, dm1, _, _, rfl, hm1, T.k_RingMap, T.a_RingMap__lying, rfl, ?_⟩
        walk_at "g"
        refine ⟨ad1 .lying, .ref (ad1 (.dict g)), rfl, by
          have := DGet.k (k := (.inl (g : Int) : Key)) hM1.lying
          rw [lyK_at (w1.sb g hg1)] at this
          exact this, ?_⟩
        walk_at "g"
        refine ⟨ad1 (.dict g), .ref (ad1 (.lst g c0.1)), rfl, by
          have := DGet.k (k := (.inr c0.1 : Key)) (hM1.dict g (w1.sb g hg1))
          rw [dcK_at hc] at this
          exact this, ?_⟩
        walk_at "g"
        refine ⟨ad1 (.lst g c0.1), _, rfl, .inl (SqL.of hus), fun D nD => ?_⟩
        have s2 := same_upd (o := .lst (us.map V.ref)) nD
        have hD2 : upd H1' D (.lst (us.map V.ref)) D = some (.lst (us.map V.ref)) := upd_same
        have nDo : ∀ x, Lv NS Mj x → ad1 x ≠ D := fun x hx => hM1.ne_none hx nD
        have hM2 := hM1.same s2
        have pus2 := pus.mono fun _ _ e => LyP.same s2 e
        have r2 := r1.trans (Rch.same (M := Mj) s2)
        generalize upd H1' D (.lst (us.map V.ref)) = H2 at *
        have ho := hole_out (NS := NS) (H := H2) (ad := ad1) (M := Mj)
        have hDh := hole_at hD2 nDo
        have push : P2 (LyP ad1 (holeH NS H2 ad1 Mj)) us (Mj.ly g c0.1) := pus2.mono fun _ _ e => hole_at e (hM2.tup_ne e)
        have rings : ∀ x ∈ Mj.ly g c0.1, ∃ r, Mj.ring? x.1 = some r ∧ r.turn = c0.1 := fun x hx => by
          obtain ⟨r, a, b, _⟩ := w1.on_ring (c := c0.1) (s := g) (n := x.1) (p := x.2) hx
          exact ⟨r, a, b⟩
        walk_at "g"
        refine ⟨⟨_, SqL.of hD2⟩, ?_⟩
        refine for_it (walk_list (K := K) (xs := us.map V.ref)) (fun i σ H' => ∃ (v4 v5 v6 : Option V) (ad' : Sl → Addr), σ = [some (.ref (ad .obj)), some (.int (s' : Int)), some (.int (g : Int)), some (.str c0.1), v4, v5, v6] ∧ RmK K NS ps t H' ad' (Mj.jsL s' g c0.1 ((Mj.ly g c0.1).take i)) ∧ Rch NS H2 ad1 Mj H' ad' (Mj.jsL s' g c0.1 ((Mj.ly g c0.1).take i))) ⟨_, _, _, ad1, rfl, hM2, Rch.refl⟩ ?_ ?_ ?_
        · rintro i σ H' _ ⟨_, _, _, ad', _, _, r⟩
          exact SqL.of ((ho.rch r).s _ _ hDh)
        · rintro i y σ H3 H3' hi ⟨v4, v5, v6, ad3, rfl, hM3, r3⟩ ⟨rfl, hy⟩
          rw [List.getElem?_map] at hy
          obtain ⟨u, hu, rfl⟩ := Option.map_eq_some_iff.mp hy
          obtain ⟨x, hx, hux⟩ := push.getl hu
          have hux3 := (ho.rch r3).s _ _ hux
          have ri : ∀ x ∈ (Mj.ly g c0.1).take i, ∃ r, Mj.ring? x.1 = some r ∧ r.turn = c0.1 := fun x hx => rings x (List.mem_of_mem_take hx)
          obtain ⟨w3, l3⟩ := jsL_ok (NS := NS) (s := s') (g := g) hc w1 hs1 ri
          have t3 := jsL_tot (NS := NS) (s := s') (g := g) ndN hc w1 hs1 ri
          have jt := jsL_take (M := Mj) (s := s') (g := g) (c := c0.1) hx
          obtain ⟨Mi, eMi⟩ : ∃ Mi, Mi = Mj.jsL s' g c0.1 ((Mj.ly g c0.1).take i) := ⟨_, rfl⟩
          rw [← eMi] at hM3 r3 w3 l3 t3 jt
          rw [List.length_take] at t3
          obtain ⟨r0, hr0, ht0⟩ := rings x (mem_of_at hx)
          obtain ⟨r0', hr0', ht0'⟩ := l3.ring hr0
          have hg3 : g ∈ Mi.spots := by rw [l3.spots]; exact hg1
          have hs3 : s' ∈ Mi.spots := by rw [l3.spots]; exact hs1
          have nlt : x.1 < Mj.drawn := w1.n_lt (c := c0.1) (s := g) (n := x.1) (p := x.2) (mem_of_at hx)
          have eo : ad3 .obj = ad .obj := r3.ob.trans ob1
          have er : ad3 (.ring x.1) = ad1 (.ring x.1) := r3.rg _ nlt
          refine ⟨u, _, rfl, SqT.of hux3, rfl, _, _, rfl, _, _, rfl, rfl, ?_⟩
          obtain ⟨dm3, hm3⟩ := hM3.obj
          rw [eo] at hm3
          walk_at "g"
          refine ⟨ad .obj, dm3, _, rfl, hm3, rfl, ?_⟩
          walk_at "g"
          refine ⟨NS, ps, per, t, ad3, Mi, g, x.1, c0.1, r0', by rw [eo, er]; rfl, hM3, w3, hr0', ht0'.trans ht0, w3.sb g hg3, hc, bd.ns, lens_of (B := 50000) w3 (by omega) hr0', lyl_of (B := 50000) (by omega) hg3 hc, fun H4 ad4 hM4 r4 => ?_⟩
          have w4 := w3.unseat (s := g) hr0' (ht0'.trans ht0)
          have l4 := Lk2.unseat (M := Mi) g x.1 c0.1
          obtain ⟨r4', hr4, ht4⟩ := l4.ring hr0'
          have t4 := unseat_tot (NS := NS) (M := Mi) g x.1 c0.1
          have eo4 : ad4 .obj = ad .obj := r4.ob.trans eo
          have er4 : ad4 (.ring x.1) = ad1 (.ring x.1) := (r4.rg _ (by rw [l3.drawn]; exact nlt)).trans er
          obtain ⟨dm4, hm4⟩ := hM4.obj
          rw [eo4] at hm4
          walk_at "g"
          refine ⟨ad .obj, dm4, _, rfl, hm4, rfl, ?_⟩
          walk_at "g"
          refine ⟨NS, ps, per, t, ad4, _, s', x.1, c0.1, x.2, r4', by rw [eo4, er4]; rfl, hM4, w4, hr4, ht4.trans (ht0'.trans ht0), w4.sb s' hs3, hc, lens_of (B := 50000) w4 (by omega) hr4, lyl_of (B := 50000) (by omega) hs3 hc, fun H5 hM5 r5 => ?_⟩
          walk_at "g"
          rw [jt]
          exact ⟨_, _, _, ad4, rfl, hM5, (r3.trans r4).trans r5⟩
        · rintro σ H3 ⟨v4, v5, v6, ad3, rfl, hM3, r3⟩
          rw [List.length_map, ul, List.take_length] at hM3 r3
          have ja : M.jsA (NS.take (j + 1)) s' g = Mj.jsL s' g c0.1 (Mj.ly g c0.1) := by
            rw [jsA_take hcN, ← eMj]
            rfl
          rw [← ja] at hM3 r3
          exact ⟨_, _, _, _, ad3, rfl, hM3, r2.trans r3⟩
      · rintro σ H1 ⟨v3, v4, v5, v6, ad1, rfl, hM1, r1⟩
        rw [List.length_map, ← kl, List.take_length] at hM1 r1
        obtain ⟨w1, l1, h1⟩ := jsA_ok (NS := NS) e (L := NS) (fun d hd => hd) ndN w' hs
        have ob1 := r1.ob
        obtain ⟨dm1, hm1⟩ := hM1.obj
        rw [ob1] at hm1
        have hsp1 := hM1.spots
        rw [l1.spots] at hsp1
        have hso1 := hM1.spotof
        have plE : (M.jsA NS s' g).pl = M.pl := l1.pl
        unfold plK at hso1
        rw [plE] at hso1
        have nos : ad1 .obj ≠ ad1 .spots := adne hM1 (x := .obj) (y := .spots) trivial trivial (by intro z; cases z)
        have nss : ad1 .spots ≠ ad1 .spotof := adne hM1 (x := .spots) (y := .spotof) trivial trivial (by intro z; cases z)
        have noo : ad1 .obj ≠ ad1 .spotof := adne hM1 (x := .obj) (y := .spotof) trivial trivial (by intro z; cases z)
        rw [ob1] at nos noo
        refine ⟨fun σ H' => σ = [some (.ref (ad .obj)), some (.int (s' : Int)), some (.int (g : Int)), v3, v4, v5, v6] ∧ H' (ad1 .spots) = some (.lst ((M.spots.erase g).map fun s : Nat => V.int (s : Int))) ∧ ∀ b o, H1 b = some o → b ≠ ad1 .spots → H' b = some o, ?_, ?_⟩
        · obtain ⟨j, hj, ej⟩ := List.getElem_of_mem hg
          have hjg : M.spots[j]? = some g := List.getElem?_eq_some_iff.mpr ⟨hj, ej⟩
          have hno : ∀ m, m < j → M.spots[m]? ≠ some g := fun m hm q => by
            obtain ⟨a, b⟩ := List.getElem?_eq_some_iff.mp q
            have nd := List.nodup_iff_pairwise_ne.mp w'.sd
            rw [List.pairwise_iff_getElem] at nd
            exact nd m j a hj hm (by rw [b, ej])
          have e1 : M.spots.erase g = M.spots.eraseIdx j := erase_at hjg hno
          have emap : (M.spots.map fun s : Nat => V.int (s : Int)) = (M.spots.map fun s : Nat => (s : Int)).map V.int := by rw [List.map_map]; rfl
          rw [emap] at hsp1
          walk_at "g"
          refine ⟨ad .obj, _, dm1, _, _, rfl, hm1, T.k_RingMap, T.a_RingMap__spots, rfl, ?_⟩
          walk_at "g"
          refine ⟨.inl ⟨rfl, _, SqL.of hsp1⟩, ?_⟩
          walk_at "g"
          refine ⟨ad1 .spots, _, (g : Int), j, rfl, rfl, hsp1, by rw [List.getElem?_map, hjg]; rfl, fun m hm q => ?_, ?_⟩
          · rw [List.getElem?_map] at q
            obtain ⟨a, b, c⟩ := Option.map_eq_some_iff.mp q
            have : a = g := by omega
            rw [this] at b
            exact hno m hm b
          · refine ⟨rfl, ?_, fun b o e q => by rw [upd_ne q]; exact e⟩
            rw [upd_same, e1, eraseIdx_mapN, List.map_map]
            rfl
        · rintro σ H2 ⟨rfl, hsp2, kp2⟩
          have hm2 := kp2 _ _ hm1 nos
          have hso2 := kp2 _ _ hso1 nss.symm
          walk_at "g"
          refine ⟨ad .obj, _, dm1, _, _, rfl, hm2, T.k_RingMap, T.a_RingMap__spot_of, rfl, ?_⟩
          walk_at "g"
          refine ⟨ad1 .spotof, _, rfl, hso2, fun L nL => ?_⟩
          have eK : ((ps.map fun p => ((.inr p : Key), V.int (M.pl p : Int))).map fun kv => kV kv.1) = ps.map V.str := by rw [List.map_map]; rfl
          rw [eK]
          have s3 := same_upd (o := .lst (ps.map V.str)) nL
          have hL3 : upd H2 L (.lst (ps.map V.str)) L = some (.lst (ps.map V.str)) := upd_same
          have nLs : ad1 .spotof ≠ L := fun q => by rw [q, nL] at hso2; cases hso2
          have hsp3 := s3 _ _ hsp2
          have hso3 := s3 _ _ hso2
          have kp3 : ∀ b o, H1 b = some o → b ≠ ad1 .spots → upd H2 L (.lst (ps.map V.str)) b = some o := fun b o e q => s3 _ _ (kp2 b o e q)
          generalize upd H2 L (.lst (ps.map V.str)) = H3 at *
          walk_at "g"
          refine ⟨⟨_, SqL.of hL3⟩, ?_⟩
          refine for_it (walk_list (K := K) (xs := ps.map V.str)) (fun i σ H' => ∃ (v3 v4 v5 v6 : Option V), σ = [some (.ref (ad .obj)), some (.int (s' : Int)), some (.int (g : Int)), v3, v4, v5, v6] ∧ H' L = some (.lst (ps.map V.str)) ∧ H' (ad1 .spots) = some (.lst ((M.spots.erase g).map fun s : Nat => V.int (s : Int))) ∧
            H' (ad1 .spotof) = some (.dK (ps.map fun p => ((.inr p : Key), V.int ((if p ∈ ps.take i ∧ M.pl p = g then s' else M.pl p : Nat) : Int)))) ∧ ∀ b o, H1 b = some o → b ≠ ad1 .spots → b ≠ ad1 .spotof → H' b = some o) ⟨_, _, _, _, rfl, hL3, hsp3, ?_, fun b o e q _ => kp3 b o e q⟩ ?_ ?_ ?_
          · rw [hso3]
            congr 2
          · rintro i σ H' _ ⟨_, _, _, _, _, h, _⟩
            exact SqL.of h
          · rintro i y σ H4 H4' hi ⟨v3, v4, v5, v6, rfl, hL4, hsp4, hso4, kp4⟩ ⟨rfl, hy⟩
            rw [List.getElem?_map] at hy
            obtain ⟨p, hp, rfl⟩ := Option.map_eq_some_iff.mp hy
            have hpm := mem_of_at hp
            have hnt : p ∉ ps.take i := fun q => by
              obtain ⟨j, hj, ej⟩ := List.getElem_of_mem q
              rw [List.length_take] at hj
              rw [List.getElem_take] at ej
              obtain ⟨hi', ei⟩ := List.getElem?_eq_some_iff.mp hp
              have nd := List.nodup_iff_pairwise_ne.mp ndp
              rw [List.pairwise_iff_getElem] at nd
              exact nd j i (by omega) hi' (by omega) (by rw [ej, ei])
            have hget : valV (ps.map fun p => ((.inr p : Key), V.int ((if p ∈ ps.take i ∧ M.pl p = g then s' else M.pl p : Nat) : Int))) (.inr p) = some (.int (M.pl p : Int)) := by
              have := valV_fun (fun p : Str => (.inr p : Key)) (fun p => V.int ((if p ∈ ps.take i ∧ M.pl p = g then s' else M.pl p : Nat) : Int)) (fun a b e => Sum.inr.inj e) hpm
              rw [if_neg (fun q => hnt q.1)] at this
              exact this
            have tk : ∀ q, q ∈ ps.take (i + 1) ↔ q ∈ ps.take i ∨ q = p := fun q => by
              rw [take_snoc hp, List.mem_append, List.mem_singleton]
            have hm4 := kp4 _ _ hm1 nos noo
            walk_at "g"
            refine ⟨ad .obj, _, dm1, _, _, rfl, hm4, T.k_RingMap, T.a_RingMap__spot_of, rfl, ?_⟩
            walk_at "g"
            refine ⟨ad1 .spotof, _, rfl, by
              have := DGet.k (k := (.inr p : Key)) hso4
              rw [hget] at this
              exact this, ?_⟩
            walk_at "g"
            by_cases eg : M.pl p = g
            · refine iteEq (by rw [eg]) ?_
              walk_at "g"
              refine ⟨ad .obj, _, dm1, _, _, rfl, hm4, T.k_RingMap, T.a_RingMap__spot_of, rfl, ?_⟩
              walk_at "g"
              have ePut := putK_fun (fun p : Str => (.inr p : Key)) (fun p => V.int ((if p ∈ ps.take i ∧ M.pl p = g then s' else M.pl p : Nat) : Int)) (fun a b e => Sum.inr.inj e) (.int (s' : Int)) hpm
              have lps := bd.ps
              refine ⟨ad1 .spotof, _, rfl, DPut.k (k := (.inr p : Key)) (v := .int (s' : Int)) hso4 (by rw [List.length_map]; exact Nat.lt_of_le_of_lt lps (by decide)), _, _, _, _, rfl, ?_, ?_, ?_, fun b o e q1 q2 => by rw [upd_ne q2]; exact kp4 b o e q1 q2⟩
              · have nLs4 : L ≠ ad1 .spotof := nLs.symm
                rw [upd_ne nLs4]
                exact hL4
              · rw [upd_ne nss]
                exact hsp4
              · rw [upd_same]
                rw [ePut]
                congr 2
                refine List.map_congr_left fun q _ => ?_
                congr 1
                by_cases eq : q = p
                · rw [if_pos eq, if_pos ⟨(tk q).mpr (.inr eq), by rw [eq]; exact eg⟩]
                · rw [if_neg eq]
                  by_cases h1 : q ∈ ps.take i ∧ M.pl q = g
                  · rw [if_pos h1, if_pos ⟨(tk q).mpr (.inl h1.1), h1.2⟩]
                  · rw [if_neg h1, if_neg (fun z => h1 ⟨((tk q).mp z.1).resolve_right eq, z.2⟩)]
            · rw [decide_eq_false (fun q => eg (by have := V.int.inj q; omega))]
              refine iteF ?_
              walk_at "g"
              refine ⟨_, _, _, _, rfl, hL4, hsp4, ?_, kp4⟩
              rw [hso4]
              congr 2
              refine List.map_congr_left fun q _ => ?_
              by_cases h1 : q ∈ ps.take i ∧ M.pl q = g
              · rw [if_pos h1, if_pos ⟨(tk q).mpr (.inl h1.1), h1.2⟩]
              · rw [if_neg h1, if_neg (fun z => h1 ⟨((tk q).mp z.1).resolve_right fun eq => eg (by rw [← eq]; exact z.2), z.2⟩)]
          · rintro σ H4 ⟨v3, v4, v5, v6, rfl, hL4, hsp4, hso4, kp4⟩
            rw [List.length_map, List.take_length] at hso4
            walk_at "g"
            have e2 : H4 (ad1 .spotof) = some (.dK (ps.map fun p => ((.inr p : Key), V.int ((if (M.jsA NS s' g).pl p = g then s' else (M.jsA NS s' g).pl p : Nat) : Int)))) := by
              rw [hso4, plE]
              congr 2
              refine List.map_congr_left fun p hp => ?_
              by_cases h1 : M.pl p = g
              · rw [if_pos ⟨hp, h1⟩, if_pos h1]
              · rw [if_neg (fun z => h1 z.2), if_neg h1]
            obtain ⟨a, b⟩ := hM1.spl ((M.jsA NS s' g).spots.erase g) (fun p => if (M.jsA NS s' g).pl p = g then s' else (M.jsA NS s' g).pl p) kp4 (by rw [l1.spots]; exact hsp4) e2
            exact k H4 ad1 a (r1.trans b)
end
end Tr

/-! # RingMap.join_rings, lessen. -/
namespace Tr
open PySem L2 TL
/-- steps of a reading that are plain -/
local macro_rules | `(tactic| walk_at "x") => `(tactic| (refine' ⟨_, _, _, _, rfl, rfl, ?k1, ?k2, ?_⟩; (case k1 => exact SqT.of (by assumption)); (case k2 => exact rfl)))
local macro_rules | `(tactic| walk_at "g") => `(tactic| repeat (first | (refine ⟨_, rfl, ?_⟩) | (refine ⟨_, _, rfl, rfl, ?_⟩) | (refine ⟨_, _, rfl, ?_⟩) | (refine ⟨rfl, ?_⟩) | walk_at "x"))


theorem setMod_setMod {M : RM} (n : Nat) (a b : Int) : (M.setMod n a).setMod n b = M.setMod n b := by
  unfold RM.setMod RM.mapR
  simp only [List.map_map]
  congr 1
  refine List.map_congr_left fun r _ => ?_
  show (if (if r.num = n then { r with mod := a } else r : Rg).num = n then { (if r.num = n then { r with mod := a } else r : Rg) with mod := b } else (if r.num = n then { r with mod := a } else r : Rg)) = if r.num = n then { r with mod := b } else r
  by_cases e : r.num = n
  · rw [if_pos e, if_pos e]
    rw [if_pos (show ({ r with mod := a } : Rg).num = n from e)]
  · rw [if_neg e, if_neg e]
theorem ring_jrS {n g : Nat} {c : Str} {off : Int} (ne : n ≠ g) : ∀ {L : List (Nat × Int)} {M : RM}, (M.jrS n c off L).ring? g = M.ring? g
  | [], _ => rfl
  | x :: L, M => by
    show ((M.seat x.1 n c (x.2 + off)).jrS n c off L).ring? g = _
    rw [ring_jrS ne, RM.ring_seat]
    cases h : M.ring? g with
    | none => rfl
    | some r =>
      show some (if r.num = n then _ else r : Rg) = some r
      rw [if_neg (fun q => ne (q.symm.trans (ring_mem h).2))]
theorem ring_setMod_ne {M : RM} {n g : Nat} {m : Int} (ne : n ≠ g) : (M.setMod n m).ring? g = M.ring? g := by
  rw [RM.ring_setMod]
  cases h : M.ring? g with
  | none => rfl
  | some r =>
    show some (if r.num = n then _ else r : Rg) = some r
    rw [if_neg (fun q => ne (q.symm.trans (ring_mem h).2))]
theorem setMod_tot {NS : List Str} {M : RM} {n : Nat} {m : Int} : tot NS (M.setMod n m) = tot NS M := rfl
theorem jrS_tot {NS : List Str} {per : Str → Int} {n : Nat} {c : Str} {off : Int} (nd : NS.Nodup) (hc : c ∈ NS) : ∀ {L : List (Nat × Int)} {M : RM}, WF0 NS per M → (∀ x ∈ L, x.1 ∈ M.spots) → (∃ r, M.ring? n = some r ∧ r.turn = c) → tot NS (M.jrS n c off L) ≤ tot NS M + L.length
  | [], _, _, _, _ => Nat.le_refl _
  | x :: L, M, w, hL, ⟨r, hr, ht⟩ => by
    have w1 := w.seat (p := x.2 + off) (hL x List.mem_cons_self) hc hr ht
    have l1 := Lk2.seat (M := M) x.1 n c (x.2 + off)
    obtain ⟨r1, hr1, ht1⟩ := l1.ring hr
    have a := jrS_tot (off := off) nd hc (L := L) w1 (fun y hy => hL y (List.mem_cons_of_mem _ hy)) ⟨r1, hr1, ht1.trans ht⟩
    have b := seat_tot (s := x.1) (n := n) (c := c) (p := x.2 + off) nd w
    show tot NS ((M.seat x.1 n c (x.2 + off)).jrS n c off L) ≤ tot NS M + (L.length + 1)
    omega
theorem jrU_tot {NS : List Str} {g : Nat} {c : Str} : ∀ {L : List (Nat × Int)} {M : RM}, tot NS (M.jrU g c L) ≤ tot NS M
  | [], _ => Nat.le_refl _
  | x :: L, M => Nat.le_trans (jrU_tot (L := L) (M := M.unseat x.1 g c)) (unseat_tot x.1 g c)
section
variable {P : Program} [PM : PMain P] {w : World} {K : PySem.W.Frag} {mg : Str → Option Value} {base : Heap}
def spJRings (K : PySem.W.Frag) : Sp := fun vs H Q _ => ∃ (NS ps : List Str) (per : Str → Int) (t : Addr) (ad : Sl → Addr) (M : RM) (n g : Nat) (c : Str) (off : Int) (rn rg : Rg), vs = [.ref (ad .obj), .ref (ad (.ring n)), .ref (ad (.ring g)), .int off] ∧ RmK K NS ps t H ad M ∧ WF0 NS per M ∧ NS.Nodup ∧ n ≠ g ∧ M.ring? n = some rn ∧ M.ring? g = some rg ∧ rn.turn = c ∧ rg.turn = c ∧ RmB NS ps M ∧
  ∀ H' ad', RmK K NS ps t H' ad' (M.joinRings n g c off) → Rch NS H ad M H' ad' (M.joinRings n g c off) → Q .non H'
theorem c_join_rings (T : Txt K mg) : Met P w K mg base 2 (He.ga K "RingMap") "join_rings" (spJRings K) [] := by
  have c_seat := @c_seat P PM w K mg base T
  have c_unseat := @c_unseat P PM w K mg base T
  have c_drop_ring := @c_drop_ring P PM w K mg base T
  have c_common_divisor := @c_common_divisor P w K mg base T
  refine metN T.m_RingMap__join_rings sc_RingMap_join_rings (fun vs H Q E h => ?_) (fun _ _ _ _ _ _ us hl => match us, hl with | [_, _, _, _], _ => rfl) (fun f cdv A outer s H vs Q E hr h => ?_)
  · obtain ⟨NS, ps, per, t, ad, M, n, g, c, off, rn, rg, rfl, _⟩ := h
    rfl
  · obtain ⟨NS, ps, per, t, ad, M, n, g, c, off, rn, rg, rfl, hM, w', nd, ne, hn, hg, tn, tg, bd, k⟩ := h
    refine ⟨_, (pss_cons (ps_fld (pv 1) (pe_cx c_common_divisor hr (by first | decide | omega) rfl passL (pa_cons (pe_fldK K (pv 1) (by rfl)) (pa_cons (pe_fldK K (pv 2) (by rfl)) pa_nil))) rfl)
      (pss_cons (ps_for PassesOwn.never rfl (pi_list (pe_callTy call_list_of (by rfl) T.b_list (by decide +kernel) (pa_cons (pe_fldK K (pv 2) (by rfl)) pa_nil))) (pg_tup rfl (pgs_cons (pg_name (i := 4) sc_RingMap_join_rings.nd rfl (Or.inl rfl)) (pgs_cons (pg_name (i := 5) sc_RingMap_join_rings.nd rfl (Or.inl rfl)) pgs_nil))) (pss_one (ps_expr (pe_mtx c_seat hr (by first | decide | omega) passL (pv 0) (pa_cons (pv 4) (pa_cons (pv 1) (pa_cons (pe_op op_add (pv 5) (pv 3)) pa_nil)))))))
      (pss_cons (ps_for PassesOwn.never rfl (pi_list (pe_callTy call_list_of (by rfl) T.b_list (by decide +kernel) (pa_cons (pe_fldK K (pv 2) (by rfl)) pa_nil))) (pg_tup rfl (pgs_cons (pg_name (i := 4) sc_RingMap_join_rings.nd rfl (Or.inl rfl)) (pgs_cons (pg_name (i := 5) sc_RingMap_join_rings.nd rfl (Or.inl rfl)) pgs_nil))) (pss_one (ps_expr (pe_mtx c_unseat hr (by first | decide | omega) passL (pv 0) (pa_cons (pv 4) (pa_cons (pv 2) pa_nil))))))
      (pss_one (ps_expr (pe_mtx c_drop_ring hr (by first | decide | omega) passL (pv 0) (pa_cons (pv 2) pa_nil))))))), ?_⟩
    obtain ⟨n0, n1⟩ := ring_mem hn
    obtain ⟨g0, g1⟩ := ring_mem hg
    obtain ⟨dn, hrn⟩ := hM.ring rn n0
    obtain ⟨dg, hrg⟩ := hM.ring rg g0
    rw [n1] at hrn
    rw [g1] at hrg
    have hc : c ∈ NS := by rw [← tn]; exact (w'.md rn n0).1
    have bt := bd.tt
    walk_at "g"
    refine ⟨ad (.ring n), _, dn, _, _, rfl, hrn, T.k_Ring, T.a_Ring__modulus, rfl, ?_⟩
    walk_at "g"
    refine ⟨ad (.ring g), _, dg, _, _, rfl, hrg, T.k_Ring, T.a_Ring__modulus, rfl, ?_⟩
    walk_at "g"
    refine ⟨ad (.ring n), _, dn, _, rfl, hrn, T.k_Ring, T.a_Ring__modulus, by show 4 < 1000; decide, ?_⟩
    obtain ⟨hM1, r1⟩ := hM.setMod (m := ((Int.gcd (M.md n) (M.md g) : Nat) : Int)) (dx := dn) n0 n1 (fun r h e => w'.ring_eq h n0 (e.trans n1.symm))
    have w1 : WF0 NS per (M.setMod n (Int.gcd (M.md n) (M.md g) : Nat)) := w'.setMod (Int.natCast_nonneg _) fun r h e => by
      have : r = rn := w'.ring_eq h n0 (e.trans n1.symm)
      rw [this, md_of hn]
      exact gcd_dvd_per (w'.md rn n0).2.2
    show tSeq _ _ _ _ (upd H (ad (.ring n)) (.ins (He.ga K "Ring") dn (rgF n rn.turn (Int.gcd rn.mod rg.mod : Nat) (ad (.seats n)))))
    rw [← md_of hn, ← md_of hg]
    obtain ⟨M1, eM1⟩ : ∃ M1, M1 = M.setMod n (Int.gcd (M.md n) (M.md g) : Nat) := ⟨_, rfl⟩
    rw [← eM1] at hM1 r1 w1
    generalize upd H (ad (.ring n)) (.ins (He.ga K "Ring") dn (rgF n rn.turn (Int.gcd (M.md n) (M.md g) : Nat) (ad (.seats n)))) = H1 at *
    have hn1 : ∃ r, M1.ring? n = some r ∧ r.turn = c := by
      rw [eM1]
      obtain ⟨r, a, b⟩ := setMod_ring (m := ((Int.gcd (M.md n) (M.md g) : Nat) : Int)) (n := n) hn
      exact ⟨r, a, b.trans tn⟩
    have hg1 : M1.ring? g = some rg := by rw [eM1, ring_setMod_ne ne]; exact hg
    have tt1 : tot NS M1 = tot NS M := by rw [eM1]; rfl
    have dr1 : M1.drawn = M.drawn := by rw [eM1]; rfl
    obtain ⟨us, hus, pus⟩ := hM1.seats rg (ring_mem hg1).1
    obtain ⟨dg1, hrg1⟩ := hM1.ring rg (ring_mem hg1).1
    rw [g1] at hus hrg1
    have ul := pus.len
    have sL := seats_len w1 (ring_mem hg1).1
    have inS : ∀ x ∈ rg.seats, x.1 ∈ M1.spots := fun x hx => (w1.ln _ _ _ _ ((w1.seat_iff (ring_mem hg1).1 (s := x.1) (p := x.2)).mp hx)).1
    have ltn : n < M.drawn := by rw [← n1]; exact w'.nb rn n0
    have ltg : g < M.drawn := by rw [← g1]; exact w'.nb rg g0
    walk_at "g"
    refine ⟨ad (.ring g), _, dg1, _, _, rfl, hrg1, T.k_Ring, T.a_Ring__seats, rfl, ?_⟩
    walk_at "g"
    refine ⟨ad (.seats g), _, rfl, .inl (SqL.of hus), fun D nD => ?_⟩
    have s2 := same_upd (o := .lst (us.map V.ref)) nD
    have hD2 : upd H1 D (.lst (us.map V.ref)) D = some (.lst (us.map V.ref)) := upd_same
    have nDo : ∀ x, Lv NS M1 x → ad x ≠ D := fun x hx => hM1.ne_none hx nD
    have hM2 := hM1.same s2
    have pus2 := pus.mono fun _ _ e => StP.same s2 e
    have r2 := r1.trans (Rch.same (M := M1) s2)
    generalize upd H1 D (.lst (us.map V.ref)) = H2 at *
    have ho := hole_out (NS := NS) (H := H2) (ad := ad) (M := M1)
    have hDh := hole_at hD2 nDo
    have push : P2 (StP (holeH NS H2 ad M1)) us rg.seats := pus2.mono fun _ _ e => hole_at e (hM2.tup_ne e)
    walk_at "g"
    refine ⟨⟨_, SqL.of hD2⟩, ?_⟩
    refine for_it (walk_list (K := K) (xs := us.map V.ref)) (fun i σ H' => ∃ (v4 v5 : Option V), σ = [some (.ref (ad .obj)), some (.ref (ad (.ring n))), some (.ref (ad (.ring g))), some (.int off), v4, v5] ∧ RmK K NS ps t H' ad (M1.jrS n c off (rg.seats.take i)) ∧ Rch NS H2 ad M1 H' ad (M1.jrS n c off (rg.seats.take i))) ⟨_, _, rfl, hM2, Rch.refl⟩ ?_ ?_ ?_
    · rintro i σ H' _ ⟨_, _, _, _, r⟩
      exact SqL.of ((ho.rch r).s _ _ hDh)
    · rintro i y σ H3 H3' hi ⟨v4, v5, rfl, hM3, r3⟩ ⟨rfl, hy⟩
      rw [List.getElem?_map] at hy
      obtain ⟨u, hu, rfl⟩ := Option.map_eq_some_iff.mp hy
      obtain ⟨x, hx, hux⟩ := push.getl hu
      have hux3 := (ho.rch r3).s _ _ hux
      have ri : ∀ x ∈ rg.seats.take i, x.1 ∈ M1.spots := fun x hx => inS x (List.mem_of_mem_take hx)
      obtain ⟨w3, l3, _⟩ := jrS_ok (off := off) hc w1 ri hn1
      have t3 := jrS_tot (off := off) nd hc w1 ri hn1
      rw [List.length_take] at t3
      have jt := jrS_take (M := M1) (n := n) (c := c) (off := off) hx
      obtain ⟨r, hr1, ht1⟩ := hn1
      obtain ⟨r0', hr0', ht0'⟩ := l3.ring hr1
      have hs3 : x.1 ∈ (M1.jrS n c off (rg.seats.take i)).spots := by rw [l3.spots]; exact inS x (mem_of_at hx)
      obtain ⟨dm3, hm3⟩ := hM3.obj
      refine ⟨u, _, rfl, SqT.of hux3, rfl, _, _, rfl, _, _, rfl, rfl, ?_⟩
      walk_at "g"
      refine ⟨ad .obj, dm3, _, rfl, hm3, rfl, ?_⟩
      walk_at "g"
      refine ⟨NS, ps, per, t, ad, _, x.1, n, c, x.2 + off, r0', rfl, hM3, w3, hr0', ht0'.trans ht1, w3.sb _ hs3, hc, lens_of (B := 50000) w3 (by omega) hr0', lyl_of (B := 50000) (by omega) hs3 hc, fun H5 hM5 r5 => ?_⟩
      rw [← jt] at hM5 r5
      walk_at "g"
      exact ⟨hM5, r3.trans r5⟩
    · rintro σ H3 ⟨v4, v5, rfl, hM3, r3⟩
      rw [List.length_map, ul, List.take_length] at hM3 r3
      obtain ⟨w3, l3, _⟩ := jrS_ok (off := off) hc w1 inS hn1
      have t3 := jrS_tot (off := off) nd hc w1 inS hn1
      have hg3 : (M1.jrS n c off rg.seats).ring? g = some rg := by rw [ring_jrS ne]; exact hg1
      obtain ⟨M2, eM2⟩ : ∃ M2, M2 = M1.jrS n c off rg.seats := ⟨_, rfl⟩
      rw [← eM2] at hM3 r3 w3 l3 t3 hg3
      obtain ⟨vs, hvs, pvs⟩ := hM3.seats rg (ring_mem hg3).1
      obtain ⟨dg3, hrg3⟩ := hM3.ring rg (ring_mem hg3).1
      rw [g1] at hvs hrg3
      have vl := pvs.len
      walk_at "g"
      refine ⟨ad (.ring g), _, dg3, _, _, rfl, hrg3, T.k_Ring, T.a_Ring__seats, rfl, ?_⟩
      walk_at "g"
      refine ⟨ad (.seats g), _, rfl, .inl (SqL.of hvs), fun E nE => ?_⟩
      have s4 := same_upd (o := .lst (vs.map V.ref)) nE
      have hE4 : upd H3 E (.lst (vs.map V.ref)) E = some (.lst (vs.map V.ref)) := upd_same
      have nEo : ∀ x, Lv NS M2 x → ad x ≠ E := fun x hx => hM3.ne_none hx nE
      have hM4 := hM3.same s4
      have pvs4 := pvs.mono fun _ _ e => StP.same s4 e
      have r4 := (r2.trans r3).trans (Rch.same (M := M2) s4)
      generalize upd H3 E (.lst (vs.map V.ref)) = H4 at *
      have ho4 := hole_out (NS := NS) (H := H4) (ad := ad) (M := M2)
      have hEh := hole_at hE4 nEo
      have pvsh : P2 (StP (holeH NS H4 ad M2)) vs rg.seats := pvs4.mono fun _ _ e => hole_at e (hM4.tup_ne e)
      have hg2' : ∃ r, M2.ring? g = some r ∧ r.turn = c := ⟨rg, hg3, tg⟩
      have dr2 : M2.drawn = M.drawn := l3.drawn.trans dr1
      have inS2 : ∀ x ∈ rg.seats, x.1 ∈ M2.spots := fun x hx => by rw [l3.spots]; exact inS x hx
      walk_at "g"
      refine ⟨⟨_, SqL.of hE4⟩, ?_⟩
      refine for_it (walk_list (K := K) (xs := vs.map V.ref)) (fun i σ H' => ∃ (v4 v5 : Option V) (ad' : Sl → Addr), σ = [some (.ref (ad .obj)), some (.ref (ad (.ring n))), some (.ref (ad (.ring g))), some (.int off), v4, v5] ∧ RmK K NS ps t H' ad' (M2.jrU g c (rg.seats.take i)) ∧ Rch NS H4 ad M2 H' ad' (M2.jrU g c (rg.seats.take i))) ⟨_, _, ad, rfl, hM4, Rch.refl⟩ ?_ ?_ ?_
      · rintro i σ H' _ ⟨_, _, ad', _, _, r⟩
        exact SqL.of ((ho4.rch r).s _ _ hEh)
      · rintro i y σ H5 H5' hi ⟨v4, v5, ad5, rfl, hM5, r5⟩ ⟨rfl, hy⟩
        rw [List.getElem?_map] at hy
        obtain ⟨u, hu, rfl⟩ := Option.map_eq_some_iff.mp hy
        obtain ⟨x, hx, hux⟩ := pvsh.getl hu
        have hux5 := (ho4.rch r5).s _ _ hux
        obtain ⟨w5, l5, _⟩ := jrU_ok (L := rg.seats.take i) w3 hg2'
        have t5 := jrU_tot (NS := NS) (g := g) (c := c) (L := rg.seats.take i) (M := M2)
        have jt := jrU_take (M := M2) (g := g) (c := c) hx
        obtain ⟨r0', hr0', ht0'⟩ := l5.ring hg3
        have hs5 : x.1 ∈ (M2.jrU g c (rg.seats.take i)).spots := by rw [l5.spots]; exact inS2 x (mem_of_at hx)
        have eo : ad5 .obj = ad .obj := r5.ob
        have er : ad5 (.ring g) = ad (.ring g) := r5.rg _ (by rw [dr2]; exact ltg)
        obtain ⟨dm5, hm5⟩ := hM5.obj
        rw [eo] at hm5
        refine ⟨u, _, rfl, SqT.of hux5, rfl, _, _, rfl, _, _, rfl, rfl, ?_⟩
        walk_at "g"
        refine ⟨ad .obj, dm5, _, rfl, hm5, rfl, ?_⟩
        walk_at "g"
        refine ⟨NS, ps, per, t, ad5, _, x.1, g, c, r0', by rw [eo, er]; rfl, hM5, w5, hr0', ht0'.trans tg, w5.sb _ hs5, hc, bd.ns, lens_of (B := 50000) w5 (by omega) hr0', lyl_of (B := 50000) (by omega) hs5 hc, fun H6 ad6 hM6 r6 => ?_⟩
        rw [← jt] at hM6 r6
        walk_at "g"
        exact ⟨_, _, ad6, rfl, hM6, r5.trans r6⟩
      · rintro σ H5 ⟨v4, v5, ad5, rfl, hM5, r5⟩
        rw [List.length_map, vl, List.take_length] at hM5 r5
        obtain ⟨w5, l5, _⟩ := jrU_ok (L := rg.seats) w3 hg2'
        have eo : ad5 .obj = ad .obj := r5.ob
        have er : ad5 (.ring g) = ad (.ring g) := r5.rg _ (by rw [dr2]; exact ltg)
        obtain ⟨dm5, hm5⟩ := hM5.obj
        rw [eo] at hm5
        obtain ⟨r0', hr0', ht0'⟩ := l5.ring hg3
        obtain ⟨q1, q2⟩ := ring_mem hr0'
        obtain ⟨dx5, hx5⟩ := hM5.ring r0' q1
        rw [q2, er] at hx5
        have brl := bd.rl
        have len5 : (M2.jrU g c rg.seats).rings.length = M.rings.length := by
          rw [l5.len, l3.len, eM1]
          exact List.length_map ..
        walk_at "g"
        refine ⟨ad .obj, dm5, _, rfl, hm5, rfl, ?_⟩
        walk_at "g"
        refine ⟨NS, ps, t, ad5, _, g, by rw [eo, er]; rfl, hM5, ⟨dx5, r0'.turn, r0'.mod, _, by rw [er]; exact hx5⟩, by rw [len5]; omega, fun H6 ad6 hM6 r6 => ?_⟩
        have eJ : (M2.jrU g c rg.seats).drop g = M.joinRings n g c off := by
          unfold RM.joinRings
          rw [sts_of hg, ← eM1, ← eM2]
        rw [eJ] at hM6 r6
        walk_at "g"
        exact k H6 ad6 hM6 ((r4.trans r5).trans r6)
end
end Tr

/-! # RingMap.lessen, settle_spot. -/
namespace Tr
open PySem L2 TL
/-- steps of a reading that are plain -/
local macro_rules | `(tactic| walk_at "x") => `(tactic| (refine' ⟨_, _, _, _, rfl, rfl, ?k1, ?k2, ?_⟩; (case k1 => exact SqT.of (by assumption)); (case k2 => exact rfl)))
local macro_rules | `(tactic| walk_at "g") => `(tactic| repeat (first | (refine ⟨_, rfl, ?_⟩) | (refine ⟨_, _, rfl, rfl, ?_⟩) | (refine ⟨_, _, rfl, ?_⟩) | (refine ⟨rfl, ?_⟩) | walk_at "x"))


theorem cutF (xs : List V) (k : Nat) : cutV xs (some (k : Int)) none = xs.drop k := by
  unfold cutV
  rw [HT.sIx_none, HT.sIx_nat]
  rcases Nat.le_total k xs.length with h | h
  · rw [Nat.min_eq_left h]
    refine List.take_of_length_le ?_
    rw [List.length_drop]
    exact Nat.le_refl _
  · rw [Nat.min_eq_right h, Nat.sub_self, List.take_zero, List.drop_of_length_le h]
theorem setMod_self {NS : List Str} {per : Str → Int} {M : RM} (w : WF0 NS per M) {n : Nat} {r0 : Rg} (hn : M.ring? n = some r0) : M.setMod n (M.md n) = M := by
  obtain ⟨n0, n1⟩ := ring_mem hn
  have : RM.mapR n (fun r => { r with mod := M.md n }) M.rings = M.rings := by
    unfold RM.mapR
    refine (List.map_congr_left fun r hr => ?_).trans (List.map_id _)
    show (if r.num = n then { r with mod := M.md n } else r) = r
    split
    · rename_i e
      have : r = r0 := w.ring_eq hr n0 (e.trans n1.symm)
      rw [md_of hn, this]
    · rfl
  show { M with rings := RM.mapR n (fun r => { r with mod := M.md n }) M.rings } = M
  rw [this]
theorem gcds_take {m first : Int} {L : List Int} {i : Nat} {p : Int} (h : L[i]? = some p) : RM.gcds m first (L.take (i + 1)) = (Int.gcd (RM.gcds m first (L.take i)) (p - first) : Nat) := by
  unfold RM.gcds
  rw [take_snoc h, List.foldl_append]
  rfl
theorem Lk2.setMod_len {M : RM} (n : Nat) (m : Int) : (M.setMod n m).rings.length = M.rings.length := List.length_map ..
section
variable {P : Program} [PM : PMain P] {w : World} {K : PySem.W.Frag} {mg : Str → Option Value} {base : Heap}
def spLessen (K : PySem.W.Frag) : Sp := fun vs H Q _ => ∃ (NS ps : List Str) (per : Str → Int) (t pl : Addr) (ad : Sl → Addr) (M : RM) (n s : Nat) (c : Str) (first : Int) (L : List Int) (rn : Rg), vs = [.ref (ad .obj), .ref (ad (.ring n)), .int (s : Int), .ref pl] ∧ RmK K NS ps t H ad M ∧ WF0 NS per M ∧ NS.Nodup ∧ M.ring? n = some rn ∧ rn.turn = c ∧ s ∈ M.spots ∧ H pl = some (.lst ((first :: L).map V.int)) ∧ RmB NS ps M ∧
  ∀ H' ad', RmK K NS ps t H' ad' (M.lessen s n c first L) → Rch NS H ad M H' ad' (M.lessen s n c first L) → Q .non H'
theorem c_lessen (T : Txt K mg) : Met P w K mg base 2 (He.ga K "RingMap") "lessen" (spLessen K) [] := by
  have c_seat := @c_seat P PM w K mg base T
  have c_unseat := @c_unseat P PM w K mg base T
  have c_common_divisor := @c_common_divisor P w K mg base T
  refine metN T.m_RingMap__lessen sc_RingMap_lessen (fun vs H Q E h => ?_) (fun _ _ _ _ _ _ us hl => match us, hl with | [_, _, _, _], _ => rfl) (fun f cdv A outer s H vs Q E hr h => ?_)
  · obtain ⟨NS, ps, per, t, pl, ad, M, n, s, c, first, L, rn, rfl, _⟩ := h
    rfl
  · obtain ⟨NS, ps, per, t, pl, ad, M, n, s', c, first, L, rn, rfl, hM, w', nd, hn, tn, hs, hpl, bd, k⟩ := h
    refine ⟨_, (pss_cons (ps_set (i := 4) sc_RingMap_lessen.nd rfl (Or.inl rfl) (pe_ix ix_list (pv 3) pe_int (fun _ _ => rfl)))
      (pss_cons (ps_for PassesOwn.never rfl (pi_list (pe_slice sl_list (pv 3) (po_some pe_int) po_none)) (pg_name (i := 5) sc_RingMap_lessen.nd rfl (Or.inl rfl)) (pss_one (ps_fld (pv 1) (pe_cx c_common_divisor hr (by first | decide | omega) rfl passL (pa_cons (pe_fldK K (pv 1) (by rfl)) (pa_cons (pe_op op_sub (pv 5) (pv 4)) pa_nil))) rfl)))
      (pss_cons (ps_expr (pe_mtx c_unseat hr (by first | decide | omega) passL (pv 0) (pa_cons (pv 2) (pa_cons (pv 1) pa_nil))))
      (pss_one (ps_expr (pe_mtx c_seat hr (by first | decide | omega) passL (pv 0) (pa_cons (pv 2) (pa_cons (pv 1) (pa_cons (pv 4) pa_nil))))))))), ?_⟩
    obtain ⟨n0, n1⟩ := ring_mem hn
    obtain ⟨dn, hrn⟩ := hM.ring rn n0
    rw [n1] at hrn
    obtain ⟨hcN, md0, mdp⟩ := w'.md rn n0
    have hc : c ∈ NS := by rw [← tn]; exact hcN
    have bt := bd.tt
    walk_at "g"
    refine ⟨pl, _, 0, .int first, rfl, rfl, SqL.of hpl, by show atI _ ((0 : Nat) : Int) = _; exact atI_nat rfl, ?_⟩
    walk_at "g"
    refine ⟨pl, _, rfl, SqL.of hpl, fun D nD => ?_⟩
    rw [show (1 : Int) = ((1 : Nat) : Int) from rfl, cutF]
    have eD : ((first :: L).map V.int).drop 1 = L.map V.int := rfl
    rw [eD]
    have s1 := same_upd (o := .lst (L.map V.int)) nD
    have hD1 : upd H D (.lst (L.map V.int)) D = some (.lst (L.map V.int)) := upd_same
    have nDo : ∀ x, Lv NS M x → ad x ≠ D := fun x hx => hM.ne_none hx nD
    have hM1 := hM.same s1
    have r1 : Rch NS H ad M (upd H D (.lst (L.map V.int))) ad M := Rch.same s1
    generalize upd H D (.lst (L.map V.int)) = H1 at *
    have ho := hole_out (NS := NS) (H := H1) (ad := ad) (M := M)
    have hDh := hole_at hD1 nDo
    have wS : ∀ L', WF0 NS per (M.setMod n (RM.gcds (M.md n) first L')) := fun L' => w'.setMod (gcds_nn _ _ _ (by rw [md_of hn]; exact md0)) fun r h e => by
      have : r = rn := w'.ring_eq h n0 (e.trans n1.symm)
      have hd := (gcds_dvd first L' (M.md n)).1
      rw [this]
      rw [md_of hn] at hd ⊢
      exact Int.dvd_trans hd mdp
    walk_at "g"
    refine ⟨⟨_, SqL.of hD1⟩, ?_⟩
    refine for_it (walk_list (K := K) (xs := L.map V.int)) (fun i σ H' => ∃ (v5 : Option V), σ = [some (.ref (ad .obj)), some (.ref (ad (.ring n))), some (.int (s' : Int)), some (.ref pl), some (.int first), v5] ∧ RmK K NS ps t H' ad (M.setMod n (RM.gcds (M.md n) first (L.take i))) ∧ Rch NS H1 ad M H' ad (M.setMod n (RM.gcds (M.md n) first (L.take i)))) ⟨_, rfl, ?_, ?_⟩ ?_ ?_ ?_
    · show RmK K NS ps t H1 ad (M.setMod n (M.md n))
      rw [setMod_self w' hn]
      exact hM1
    · show Rch NS H1 ad M H1 ad (M.setMod n (M.md n))
      rw [setMod_self w' hn]
      exact Rch.refl
    · rintro i σ H' _ ⟨_, _, _, r⟩
      exact SqL.of ((ho.rch r).s _ _ hDh)
    · rintro i y σ H3 H3' hi ⟨v5, rfl, hM3, r3⟩ ⟨rfl, hy⟩
      rw [List.getElem?_map] at hy
      obtain ⟨p, hp, rfl⟩ := Option.map_eq_some_iff.mp hy
      obtain ⟨r', hr', ht'⟩ := setMod_ring (m := RM.gcds (M.md n) first (L.take i)) (n := n) hn
      obtain ⟨k0, k1⟩ := ring_mem hr'
      obtain ⟨dx, hx⟩ := hM3.ring r' k0
      rw [k1] at hx
      have em : r'.mod = RM.gcds (M.md n) first (L.take i) := by
        have := md_of hr'
        rw [RM.md_setMod hn, if_pos rfl] at this
        exact this.symm
      walk_at "g"
      refine ⟨ad (.ring n), _, dx, _, _, rfl, hx, T.k_Ring, T.a_Ring__modulus, rfl, ?_⟩
      walk_at "g"
      refine ⟨ad (.ring n), _, dx, _, rfl, hx, T.k_Ring, T.a_Ring__modulus, by show 4 < 1000; decide, ?_⟩
      obtain ⟨a, b⟩ := hM3.setMod (m := ((Int.gcd r'.mod (p - first) : Nat) : Int)) (dx := dx) k0 k1 (fun r h e => (wS (L.take i)).ring_eq h k0 (e.trans k1.symm))
      have eS : (M.setMod n (RM.gcds (M.md n) first (L.take i))).setMod n ((Int.gcd r'.mod (p - first) : Nat) : Int) = M.setMod n (RM.gcds (M.md n) first (L.take (i + 1))) := by
        rw [setMod_setMod, gcds_take hp, em]
      rw [eS] at a b
      exact ⟨_, rfl, a, r3.trans b⟩
    · rintro σ H3 ⟨v5, rfl, hM3, r3⟩
      rw [List.length_map, List.take_length] at hM3 r3
      have w3 := wS L
      obtain ⟨r', hr', ht'⟩ := setMod_ring (m := RM.gcds (M.md n) first L) (n := n) hn
      obtain ⟨M1, eM1⟩ : ∃ M1, M1 = M.setMod n (RM.gcds (M.md n) first L) := ⟨_, rfl⟩
      rw [← eM1] at hM3 r3 w3 hr'
      have tt1 : tot NS M1 = tot NS M := by rw [eM1]; rfl
      have dr1 : M1.drawn = M.drawn := by rw [eM1]; rfl
      have hs1 : s' ∈ M1.spots := by rw [eM1]; exact hs
      have ltn : n < M.drawn := by rw [← n1]; exact w'.nb rn n0
      obtain ⟨dm3, hm3⟩ := hM3.obj
      walk_at "g"
      refine ⟨ad .obj, dm3, _, rfl, hm3, rfl, ?_⟩
      walk_at "g"
      refine ⟨NS, ps, per, t, ad, M1, s', n, c, r', rfl, hM3, w3, hr', ht'.trans tn, w3.sb s' hs1, hc, bd.ns, lens_of (B := 50000) w3 (by omega) hr', lyl_of (B := 50000) (by omega) hs1 hc, fun H4 ad4 hM4 r4 => ?_⟩
      have w4 := w3.unseat (s := s') hr' (ht'.trans tn)
      obtain ⟨r4', hr4, ht4⟩ := (Lk2.unseat (M := M1) s' n c).ring hr'
      have t4 := unseat_tot (NS := NS) (M := M1) s' n c
      have eo : ad4 .obj = ad .obj := r4.ob
      have er : ad4 (.ring n) = ad (.ring n) := r4.rg _ (by rw [dr1]; exact ltn)
      obtain ⟨dm4, hm4⟩ := hM4.obj
      rw [eo] at hm4
      walk_at "g"
      refine ⟨ad .obj, dm4, _, rfl, hm4, rfl, ?_⟩
      walk_at "g"
      refine ⟨NS, ps, per, t, ad4, _, s', n, c, first, r4', by rw [eo, er]; rfl, hM4, w4, hr4, ht4.trans (ht'.trans tn), w4.sb s' hs1, hc, lens_of (B := 50000) w4 (by omega) hr4, lyl_of (B := 50000) (by omega) hs1 hc, fun H5 hM5 r5 => ?_⟩
      have eJ : (M1.unseat s' n c).seat s' n c first = M.lessen s' n c first L := by
        unfold RM.lessen
        rw [← eM1]
      rw [eJ] at hM5 r5
      walk_at "g"
      exact k H5 ad4 hM5 (((r1.trans r3).trans r4).trans r5)
/-- what is wanted of a map while it is closed up -/
structure RmG (NS ps : List Str) (per : Str → Int) (M : RM) : Prop where
  w : WF0 NS per M
  fl : Fl NS M
  plo : ∀ p ∈ ps, M.pl p ∈ M.spots
  nd : NS.Nodup
  bd : RmB NS ps M
theorem RmG.sim {NS ps : List Str} {per : Str → Int} {M N : RM} (g : RmG NS ps per M) (s : Sim NS per ps M N) : RmG NS ps per N :=
  ⟨s.w, s.fl, s.plo, g.nd, ⟨Nat.le_trans s.tt g.bd.tt, Nat.le_trans s.sp g.bd.sp, Nat.le_trans s.rl g.bd.rl, g.bd.ps, g.bd.ns⟩⟩
def spSetSpot (K : PySem.W.Frag) : Sp := fun vs H Q _ => ∃ (NS ps : List Str) (per : Str → Int) (t : Addr) (ad : Sl → Addr) (M : RM) (s : Nat) (c : Str), vs = [.ref (ad .obj), .int (s : Int), .str c] ∧ RmK K NS ps t H ad M ∧ RmG NS ps per M ∧ s ∈ M.spots ∧ c ∈ NS ∧
  ((M.ly s c).length = 1 → Q (.bl false) H) ∧ ∀ H' ad' M', RmK K NS ps t H' ad' M' → Rch NS H ad M H' ad' M' → Sim NS per ps M M' → mu NS M' < mu NS M → Q (.bl true) H'
theorem c_settle_spot (T : Txt K mg) : Met P w K mg base 3 (He.ga K "RingMap") "settle_spot" (spSetSpot K) [] := by
  have c_join_rings := @c_join_rings P PM w K mg base T
  have c_lessen := @c_lessen P PM w K mg base T
  refine metN T.m_RingMap__settle_spot sc_RingMap_settle_spot (fun vs H Q E h => ?_) (fun _ _ _ _ _ _ us hl => match us, hl with | [_, _, _], _ => rfl) (fun f cdv A outer s H vs Q E hr h => ?_)
  · obtain ⟨NS, ps, per, t, ad, M, s, c, rfl, _⟩ := h
    rfl
  · obtain ⟨NS, ps, per, t, ad, M, s', c, rfl, hM, g, hs, hc, k1, k2⟩ := h
    refine ⟨_, (pss_cons (ps_set (i := 3) sc_RingMap_settle_spot.nd rfl (Or.inl rfl) (pe_dget (hu_of hr) (pe_dget (hu_of hr) (pe_fldK K (pv 0) (by rfl)) (pv 1) (fun _ _ => rfl)) (pv 2) (fun _ _ => rfl)))
      (pss_cons (ps_if (pt_cmpR op_lt (pe_callB call_len (by rfl) T.b_len (by decide +kernel) (pa_cons (pv 3) pa_nil)) pe_int (nomark _)) (pss_one (ps_ret pe_bl)) pss_nil)
      (pss_cons (ps_asg (pe_ix ix_list (pv 3) pe_int (fun _ _ => rfl)) (pg_tup rfl (pgs_cons (pg_name (i := 4) sc_RingMap_settle_spot.nd rfl (Or.inl rfl)) (pgs_cons (pg_name (i := 5) sc_RingMap_settle_spot.nd rfl (Or.inl rfl)) pgs_nil))))
      (pss_cons (ps_for PassesOwn.never rfl (pi_list (pe_slice sl_list (pv 3) (po_some pe_int) po_none)) (pg_tup rfl (pgs_cons (pg_name (i := 6) sc_RingMap_settle_spot.nd rfl (Or.inl rfl)) (pgs_cons (pg_name (i := 7) sc_RingMap_settle_spot.nd rfl (Or.inl rfl)) pgs_nil))) (pss_one (ps_if (pt_cmpR op_ne (pe_fldK K (pv 6) (by rfl)) (pe_fldK K (pv 4) (by rfl)) (nomark _)) (pss_cons (ps_expr (pe_mtx c_join_rings hr (by first | decide | omega) passL (pv 0) (pa_cons (pv 4) (pa_cons (pv 6) (pa_cons (pe_op op_sub (pv 5) (pv 7)) pa_nil)))))
      (pss_one (ps_ret pe_bl))) pss_nil)))
      (pss_cons (ps_expr (pe_mtx c_lessen hr (by first | decide | omega) passL (pv 0) (pa_cons (pv 4) (pa_cons (pv 1) (pa_cons (pe_lc (own := [("other", 6), ("here", 7)]) (g := gTup K 2 (gCons (gName 6) (gCons (gName 7) gNil))) rfl sc_RingMap_settle_spot.nd (pi_listK K (pv 3)) (blkOk_by (own := [("other", 6), ("here", 7)]) (N := ["self", "spot", "name", "seats", "ring", "position", "other", "here"]) (sc := defScope s_RingMap_settle_spot) (by decide +kernel)) (fun _ _ _ _ _ => (pg_tup rfl (pgs_cons (pg_name (i := 6) sc_RingMap_settle_spot.nd rfl (Or.inl rfl)) (pgs_cons (pg_name (i := 7) sc_RingMap_settle_spot.nd rfl (Or.inl rfl)) pgs_nil)))) (fun _ _ _ _ _ => pts_nil) (fun _ _ _ _ _ => (pv 7))) pa_nil)))))
      (pss_one (ps_ret pe_bl))))))), ?_⟩
    obtain ⟨dm, hm⟩ := hM.obj
    have w' := g.w
    have hla := w'.sb s' hs
    obtain ⟨us, hus, pus⟩ := hM.lst s' c hla hc
    have ul := pus.len
    walk_at "g"
    refine ⟨ad .obj, _, dm, _, _, rfl, hm, T.k_RingMap, T.a_RingMap__lying, rfl, ?_⟩
    walk_at "g"
    refine ⟨ad .lying, .ref (ad (.dict s')), rfl, by
      have := DGet.k (k := (.inl (s' : Int) : Key)) hM.lying
      rw [lyK_at hla] at this
      exact this, ?_⟩
    walk_at "g"
    refine ⟨ad (.dict s'), .ref (ad (.lst s' c)), rfl, by
      have := DGet.k (k := (.inr c : Key)) (hM.dict s' hla)
      rw [dcK_at hc] at this
      exact this, ?_⟩
    walk_at "g"
    refine ⟨_, _, rfl, .inl ⟨_, SqL.of hus, rfl⟩, ?_⟩
    rw [List.length_map, ul]
    walk_at "g"
    cases el : M.ly s' c with
    | nil => exact (g.fl s' hs c hc el).elim
    | cons x rest =>
      obtain ⟨n, p⟩ := x
      cases er : rest with
      | nil =>
        rw [el, er] at k1
        rw [show decide (((([(n, p)] : List (Nat × Int)).length : Nat) : Int) < 2) = true from decide_eq_true (by show (1 : Int) < 2; decide)]
        refine iteT ?_
        walk_at "g"
        exact k1 rfl
      | cons x2 rest2 =>
        rw [show decide (((((n, p) :: x2 :: rest2 : List (Nat × Int)).length : Nat) : Int) < 2) = false from decide_eq_false (by rw [List.length_cons, List.length_cons]; omega)]
        refine iteF ?_
        have hr0 : rest ≠ [] := by rw [er]; exact List.cons_ne_nil _ _
        clear er k1
        rw [el] at pus
        clear ul
        have on0 : M.on c s' n p := by show (n, p) ∈ M.ly s' c; rw [el]; exact List.mem_cons_self
        obtain ⟨rn, hn, tn, _⟩ := w'.on_ring on0
        cases pus with
        | @cons u0 _ us' _ hu0 pus' =>
          have ul := pus'.len
          walk_at "g"
          refine ⟨ad (.lst s' c), _, 0, .ref u0, rfl, rfl, SqL.of hus, by show atI _ ((0 : Nat) : Int) = _; exact atI_nat rfl, ?_⟩
          refine ⟨u0, _, rfl, SqT.of hu0, rfl, _, _, rfl, _, _, rfl, rfl, ?_⟩
          walk_at "g"
          refine ⟨ad (.lst s' c), _, rfl, SqL.of hus, fun D nD => ?_⟩
          rw [show (1 : Int) = ((1 : Nat) : Int) from rfl, cutF]
          have eD : ((u0 :: us').map V.ref).drop 1 = us'.map V.ref := rfl
          rw [eD]
          have s1 := same_upd (o := .lst (us'.map V.ref)) nD
          have hD1 : upd H D (.lst (us'.map V.ref)) D = some (.lst (us'.map V.ref)) := upd_same
          have hM1 := hM.same s1
          have r1 : Rch NS H ad M (upd H D (.lst (us'.map V.ref))) ad M := Rch.same s1
          have hus1 := s1 _ _ hus
          have hu01 := LyP.same s1 hu0
          have pus1 := pus'.mono fun _ _ e => LyP.same s1 e
          have hm1 := s1 _ _ hm
          generalize upd H D (.lst (us'.map V.ref)) = H1 at *
          obtain ⟨n0, n1⟩ := ring_mem hn
          obtain ⟨dn, hrn⟩ := hM1.ring rn n0
          rw [n1] at hrn
          walk_at "g"
          refine ⟨⟨_, SqL.of hD1⟩, ?_⟩
          refine for_it (walk_list (K := K) (xs := us'.map V.ref)) (fun i σ H' => ∃ (v6 v7 : Option V), σ = [some (.ref (ad .obj)), some (.int (s' : Int)), some (.str c), some (.ref (ad (.lst s' c))), some (.ref (ad (.ring n))), some (.int p), v6, v7] ∧ H1 = H' ∧ ∀ x ∈ rest.take i, x.1 = n) ⟨_, _, rfl, rfl, fun x hx => by cases hx⟩ ?_ ?_ ?_
          · rintro i σ H' _ ⟨_, _, _, rfl, _⟩
            exact SqL.of hD1
          · rintro i y σ H3 H3' hi ⟨v6, v7, rfl, rfl, hno⟩ ⟨rfl, hy⟩
            rw [List.getElem?_map] at hy
            obtain ⟨u, hu, rfl⟩ := Option.map_eq_some_iff.mp hy
            obtain ⟨x, hx, hux⟩ := pus1.getl hu
            have onx : M.on c s' x.1 x.2 := by show (x.1, x.2) ∈ M.ly s' c; rw [el]; exact List.mem_cons_of_mem _ (mem_of_at hx)
            obtain ⟨rx, hrx, tx, _⟩ := w'.on_ring onx
            obtain ⟨x0, x1⟩ := ring_mem hrx
            obtain ⟨dx, hxx⟩ := hM1.ring rx x0
            rw [x1] at hxx
            refine ⟨u, _, rfl, SqT.of hux, rfl, _, _, rfl, _, _, rfl, rfl, ?_⟩
            walk_at "g"
            refine ⟨ad (.ring x.1), _, dx, _, _, rfl, hxx, T.k_Ring, T.a_Ring__number, rfl, ?_⟩
            walk_at "g"
            refine ⟨ad (.ring n), _, dn, _, _, rfl, hrn, T.k_Ring, T.a_Ring__number, rfl, ?_⟩
            walk_at "g"
            rw [ne_nat]
            by_cases e : x.1 = n
            · rw [decide_eq_false (fun q => q e)]
              refine iteF ?_
              walk_at "g"
              intro z hz
              rw [take_snoc hx] at hz
              rcases List.mem_append.mp hz with hz | hz
              · exact hno z hz
              · rw [List.mem_singleton.mp hz]
                exact e
            · rw [decide_eq_true e]
              refine iteT ?_
              walk_at "g"
              refine ⟨ad .obj, dm, _, rfl, hm1, rfl, ?_⟩
              walk_at "g"
              refine ⟨NS, ps, per, t, ad, M, n, x.1, c, p - x.2, rn, rx, rfl, hM1, w', g.nd, fun q => e q.symm, hn, hrx, tn, tx, g.bd, fun H5 ad5 hM5 r5 => ?_⟩
              walk_at "g"
              obtain ⟨sm, lt⟩ := sim_rings (ps := ps) w' g.fl g.plo (fun q => e q.symm) on0 onx
              exact k2 H5 ad5 _ hM5 (r1.trans r5) sm lt
          · rintro σ H3 ⟨v6, v7, rfl, rfl, hno⟩
            rw [List.length_map, ul, List.take_length] at hno
            walk_at "g"
            refine ⟨ad .obj, dm, _, rfl, hm1, rfl, ?_⟩
            walk_at "g"
            refine ⟨⟨_, SqL.of hus1⟩, fun E nE => ?_⟩
            have l1 : ((n, p) :: rest).length ≤ 10000 := by rw [← el]; exact lyl_of g.bd.tt hs hc
            have pusA : P2 (LyP ad H1) (u0 :: us') ((n, p) :: rest) := .cons hu01 pus1
            have ulA := pusA.len
            refine lc_it (walk_list (K := K) (xs := (u0 :: us').map V.ref)) (fun i H' => Same H1 H' ∧ H' E = some (.lst (((((n, p) :: rest).take i).map (·.2)).map V.int))) ⟨same_upd nE, upd_same⟩ (fun i H' _ ⟨s', _⟩ => SqL.of (s' _ _ hus1)) ?_ ?_
            · rintro i y H4 H4' hi ⟨s4, hE4⟩ ⟨rfl, hy⟩
              rw [List.getElem?_map] at hy
              obtain ⟨u, hu, rfl⟩ := Option.map_eq_some_iff.mp hy
              obtain ⟨x, hx, hux⟩ := pusA.getl hu
              have hi2 : i < ((n, p) :: rest).length := (List.getElem?_eq_some_iff.mp hx).1
              refine ⟨u, _, rfl, SqT.of (s4 _ _ hux), rfl, _, _, rfl, _, _, rfl, rfl, rfl, ?_⟩
              simp only [tYes, if_true]
              walk_at "g"
              refine ⟨_, hE4, ?_, s4.wr nE, ?_⟩
              · rw [List.length_map, List.length_map, List.length_take]
                exact small_app (m := 100000) (by omega) (Nat.le_refl _)
              · rw [upd_same, take_snoc hx, List.map_append, List.map_append]
                rfl
            · rintro H4 ⟨s4, hE4⟩
              rw [List.length_map, ulA, List.take_length] at hE4
              have hE5 : H4 E = some (.lst ((p :: rest.map (·.2)).map V.int)) := hE4
              walk_at "g"
              refine ⟨NS, ps, per, t, E, ad, M, n, s', c, p, rest.map (·.2), rn, rfl, hM1.same s4, w', g.nd, hn, tn, hs, hE5, g.bd, fun H5 ad5 hM5 r5 => ?_⟩
              walk_at "g"
              obtain ⟨sm, lt⟩ := sim_lessen (ps := ps) w' g.fl g.plo el hr0 hno
              exact k2 H5 ad5 _ hM5 ((r1.trans (Rch.same s4)).trans r5) sm lt
end
end Tr

/-! # RingMap.settle_ring, settle_once, close_up. -/
namespace Tr
open PySem L2 TL
/-- steps of a reading that are plain -/
local macro_rules | `(tactic| walk_at "x") => `(tactic| (refine' ⟨_, _, _, _, rfl, rfl, ?k1, ?k2, ?_⟩; (case k1 => exact SqT.of (by assumption)); (case k2 => exact rfl)))
local macro_rules | `(tactic| walk_at "g") => `(tactic| repeat (first | (refine ⟨_, rfl, ?_⟩) | (refine ⟨_, _, rfl, rfl, ?_⟩) | (refine ⟨_, _, rfl, ?_⟩) | (refine ⟨rfl, ?_⟩) | walk_at "x"))


theorem putK_len {kvs : List (Key × V)} {k : Key} {v : V} : (putK kvs k v).length ≤ kvs.length + 1 := by
  unfold putK
  split
  · rw [List.length_map]
    omega
  · rw [List.length_append]
    exact Nat.le_refl _
section
variable {P : Program} [PM : PMain P] {w : World} {K : PySem.W.Frag} {mg : Str → Option Value} {base : Heap}
/-- the map, its turns and what stands beside it -/
structure RmS (K : PySem.W.Frag) (ks : List SI) (ps : List Str) (per : Str → Int) (t : Addr) (H0 H : Hp) (ad : Sl → Addr) (M : RM) : Prop where
  at_ : RmK K (ks.map (·.1)) ps t H ad M
  g : RmG (ks.map (·.1)) ps per M
  out : Out (ks.map (·.1)) H0 H ad M
  tu : TuAt (He.ga K "Turns") H0 t ks
  nd : Nds ks
  ndp : ps.Nodup
theorem RmS.step {K : PySem.W.Frag} {ks : List SI} {ps : List Str} {per : Str → Int} {t : Addr} {H0 H H' : Hp} {ad ad' : Sl → Addr} {M M' : RM} (h : RmS K ks ps per t H0 H ad M) (a : RmK K (ks.map (·.1)) ps t H' ad' M') (r : Rch (ks.map (·.1)) H ad M H' ad' M') (s : Sim (ks.map (·.1)) per ps M M') : RmS K ks ps per t H0 H' ad' M' :=
  ⟨a, h.g.sim s, h.out.rch r, h.tu, h.nd, h.ndp⟩
theorem RmS.same {K : PySem.W.Frag} {ks : List SI} {ps : List Str} {per : Str → Int} {t : Addr} {H0 H H' : Hp} {ad : Sl → Addr} {M : RM} (h : RmS K ks ps per t H0 H ad M) (s : Same H H') : RmS K ks ps per t H0 H' ad M :=
  ⟨h.at_.same s, h.g, h.out.same s, h.tu, h.nd, h.ndp⟩
def spSetRing (K : PySem.W.Frag) : Sp := fun vs H Q _ => ∃ (ks : List SI) (ps : List Str) (per : Str → Int) (t : Addr) (H0 : Hp) (ad : Sl → Addr) (M : RM) (n : Nat) (r : Rg), vs = [.ref (ad .obj), .ref (ad (.ring n))] ∧ RmS K ks ps per t H0 H ad M ∧ M.ring? n = some r ∧
  ((∀ s p t q, (s, p) ∈ r.seats → (t, q) ∈ r.seats → plc r.mod p = plc r.mod q → s = t) → ∀ H', Same H H' → Q (.bl false) H') ∧
  ∀ H' ad' M', RmK K (ks.map (·.1)) ps t H' ad' M' → Rch (ks.map (·.1)) H ad M H' ad' M' → Sim (ks.map (·.1)) per ps M M' → mu (ks.map (·.1)) M' < mu (ks.map (·.1)) M → Q (.bl true) H'
theorem c_settle_ring (T : Txt K mg) : Met P w K mg base 3 (He.ga K "RingMap") "settle_ring" (spSetRing K) [] := by
  have c_join_spots := @c_join_spots P PM w K mg base T
  have c_place := @c_place P PM w K mg base T
  refine metN T.m_RingMap__settle_ring sc_RingMap_settle_ring (fun vs H Q E h => ?_) (fun _ _ _ _ _ _ us hl => match us, hl with | [_, _], _ => rfl) (fun f cdv A outer s H vs Q E hr h => ?_)
  · obtain ⟨ks, ps, per, t, H0, ad, M, n, r, rfl, _⟩ := h
    rfl
  · obtain ⟨ks, ps, per, t, H0, ad, M, n, r, rfl, S, hn, k1, k2⟩ := h
    refine ⟨_, (pss_cons (ps_set (i := 2) sc_RingMap_settle_ring.nd rfl (Or.inl rfl) pe_dnewK)
      (pss_cons (ps_for PassesOwn.never rfl (pi_list (pe_fldK K (pv 1) (by rfl))) (pg_tup rfl (pgs_cons (pg_name (i := 3) sc_RingMap_settle_ring.nd rfl (Or.inl rfl)) (pgs_cons (pg_name (i := 4) sc_RingMap_settle_ring.nd rfl (Or.inl rfl)) pgs_nil))) (pss_cons (ps_set (i := 5) sc_RingMap_settle_ring.nd rfl (Or.inl rfl) (pe_mtx c_place hr (by first | decide | omega) passL (pv 1) (pa_cons (pv 4) pa_nil)))
      (pss_cons (ps_if (PW.pt (pw_and (pt_cmp (pc_din (hu_of hr) (pv 5) (pv 2))) (pw_and1 (pt_cmpR op_ne (pe_dget (hu_of hr) (pv 2) (pv 5) (fun _ _ => rfl)) (pv 3) (nomark _))))) (pss_cons (ps_set (i := 6) sc_RingMap_settle_ring.nd rfl (Or.inl rfl) (pe_ifExp (pt_cmpR op_lt (pe_dget (hu_of hr) (pv 2) (pv 5) (fun _ _ => rfl)) (pv 3) (nomark _)) (pe_dget (hu_of hr) (pv 2) (pv 5) (fun _ _ => rfl)) (pv 3)))
      (pss_cons (ps_expr (pe_mtx c_join_spots hr (by first | decide | omega) passL (pv 0) (pa_cons (pv 6) (pa_cons (pe_op op_sub (pe_op op_add (pe_dget (hu_of hr) (pv 2) (pv 5) (fun _ _ => rfl)) (pv 3)) (pv 6)) pa_nil))))
      (pss_one (ps_ret pe_bl)))) pss_nil)
      (pss_one (ps_dput (hu_of hr) (pv 2) (pv 5) (pv 3) rfl)))))
      (pss_one (ps_ret pe_bl)))), ?_⟩
    obtain ⟨n0, n1⟩ := ring_mem hn
    have w' := S.g.w
    walk_at "g"
    intro D nD
    have s1 := same_upd (o := .dK []) nD
    have hD1 : upd H D (.dK []) D = some (.dK []) := upd_same
    have S1 := S.same s1
    generalize upd H D (.dK []) = H1 at *
    obtain ⟨dm, hm⟩ := S.at_.obj
    obtain ⟨dx, hx⟩ := S.at_.ring r n0
    obtain ⟨us, hus, pus⟩ := S.at_.seats r n0
    rw [n1] at hx hus
    have ul := pus.len
    have sl := seats_len w' n0
    have bt := S.g.bd.tt
    walk_at "g"
    refine ⟨ad (.ring n), _, dx, _, _, rfl, s1 _ _ hx, T.k_Ring, T.a_Ring__seats, rfl, ?_⟩
    walk_at "g"
    refine ⟨⟨_, SqL.of (s1 _ _ hus)⟩, ?_⟩
    refine for_it (walk_list (K := K) (xs := us.map V.ref)) (fun i σ H' => ∃ (v3 v4 v5 v6 : Option V) (kvs : List (Key × V)), σ = [some (.ref (ad .obj)), some (.ref (ad (.ring n))), some (.ref D), v3, v4, v5, v6] ∧ Same H H' ∧ H' D = some (.dK kvs) ∧ kvs.length ≤ i ∧ (∀ x ∈ r.seats.take i, valV kvs (.inl (plc r.mod x.2)) = some (.int (x.1 : Int))) ∧ ∀ z v, valV kvs (.inl z) = some v → ∃ x ∈ r.seats.take i, plc r.mod x.2 = z ∧ v = .int (x.1 : Int)) ⟨_, _, _, _, [], rfl, s1, hD1, Nat.le_refl _, fun x hx => (by cases hx), fun z v e => (by cases e)⟩ ?_ ?_ ?_
    · rintro i σ H' _ ⟨_, _, _, _, _, _, s', _⟩
      exact SqL.of (s' _ _ hus)
    · rintro i y σ H2 H2' hi ⟨v3, v4, v5, v6, kvs, rfl, s2, hD2, lk, h1, h2⟩ ⟨rfl, hy⟩
      rw [List.getElem?_map] at hy
      obtain ⟨u, hu, rfl⟩ := Option.map_eq_some_iff.mp hy
      obtain ⟨x, hx', hux⟩ := pus.getl hu
      have hi2 : i < r.seats.length := (List.getElem?_eq_some_iff.mp hx').1
      refine ⟨u, _, rfl, SqT.of (s2 _ _ hux), rfl, _, _, rfl, _, _, rfl, rfl, ?_⟩
      walk_at "g"
      refine ⟨ad (.ring n), dx, _, rfl, s2 _ _ hx, rfl, ?_⟩
      walk_at "g"
      refine ⟨ad (.ring n), dx, _, n, _, _, x.2, rfl, s2 _ _ hx, ?_⟩
      walk_at "g"
      refine ⟨D, _, rfl, DGet.k (k := (.inl (plc r.mod x.2) : Key)) hD2, ?_⟩
      have sput : ∀ o, Same H (upd H2' D o) := fun o b e q => by rw [upd_ne (ne_of_none q nD)]; exact s2 _ _ q
      have li : i ≤ 10000 := Nat.le_trans (Nat.le_of_lt hi2) (Nat.le_trans sl bt)
      have f1 : (valV kvs (.inl (plc r.mod x.2)) = none ∨ valV kvs (.inl (plc r.mod x.2)) = some (.int (x.1 : Int))) → (∀ x' ∈ r.seats.take (i + 1), valV (putK kvs (.inl (plc r.mod x.2)) (.int (x.1 : Int))) (.inl (plc r.mod x'.2)) = some (.int (x'.1 : Int))) := fun hv x' hx2 => by
        rw [valV_put]
        rw [take_snoc hx', List.mem_append, List.mem_singleton] at hx2
        split
        · rename_i eq
          rcases hx2 with hx2 | rfl
          · have := h1 _ hx2
            rw [eq] at this
            rcases hv with hv | hv <;> rw [hv] at this
            · cases this
            · exact this
          · rfl
        · rename_i ne
          rcases hx2 with hx2 | rfl
          · exact h1 _ hx2
          · exact absurd rfl ne
      have f2 : ∀ z v, valV (putK kvs (.inl (plc r.mod x.2)) (.int (x.1 : Int))) (.inl z) = some v → ∃ x' ∈ r.seats.take (i + 1), plc r.mod x'.2 = z ∧ v = .int (x'.1 : Int) := fun z v e => by
        rw [valV_put] at e
        rw [take_snoc hx']
        split at e
        · rename_i eq
          exact ⟨x, List.mem_append.mpr (.inr (List.mem_singleton.mpr rfl)), (Sum.inl.inj eq).symm, (Option.some.inj e).symm⟩
        · obtain ⟨x', q1, q2, q3⟩ := h2 _ _ e
          exact ⟨x', List.mem_append.mpr (.inl q1), q2, q3⟩
      cases e1 : valV kvs (.inl (plc r.mod x.2)) with
      | none =>
        walk_at "g"
        refine ⟨D, _, rfl, DPut.k (k := (.inl (plc r.mod x.2) : Key)) hD2 (Nat.lt_of_le_of_lt (Nat.le_trans lk li) (by decide)), _, _, _, _, _, rfl, sput _, upd_same, Nat.le_trans putK_len (Nat.succ_le_succ lk), f1 (.inl e1), f2⟩
      | some v =>
        obtain ⟨x0, hx0, ep, rfl⟩ := h2 _ _ e1
        have hg := DGet.k (k := (.inl (plc r.mod x.2) : Key)) hD2
        rw [e1] at hg
        have hx0m := List.mem_of_mem_take hx0
        walk_at "g"
        refine ⟨D, _, rfl, hg, ?_⟩
        walk_at "g"
        by_cases en : x0.1 = x.1
        · have dE : (!decide (V.int (x0.1 : Int) = V.int (x.1 : Int))) = false := by rw [en]; simp
          rw [dE]
          walk_at "g"
          refine ⟨D, _, rfl, DPut.k (k := (.inl (plc r.mod x.2) : Key)) hD2 (Nat.lt_of_le_of_lt (Nat.le_trans lk li) (by decide)), _, _, _, _, _, rfl, sput _, upd_same, Nat.le_trans putK_len (Nat.succ_le_succ lk), f1 (.inr (by rw [e1, en])), f2⟩
        · have dE : (!decide (V.int (x0.1 : Int) = V.int (x.1 : Int))) = true := by
            have : V.int (x0.1 : Int) ≠ V.int (x.1 : Int) := fun q => en (by have := V.int.inj q; omega)
            rw [decide_eq_false this]; rfl
          rw [dE]
          walk_at "g"
          refine ⟨D, _, rfl, hg, ?_⟩
          walk_at "g"
          have S2 := S.same s2
          have hx0s := (w'.ln _ _ _ _ ((w'.seat_iff n0).mp hx0m)).1
          have hxs := (w'.ln _ _ _ _ ((w'.seat_iff n0).mp (mem_of_at hx'))).1
          by_cases lt : (x0.1 : Int) < (x.1 : Int)
          · rw [decide_eq_true lt]
            walk_at "g"
            refine ⟨D, _, rfl, hg, ?_⟩
            walk_at "g"
            refine ⟨ad .obj, dm, _, rfl, s2 _ _ hm, rfl, ?_⟩
            walk_at "g"
            refine ⟨D, _, rfl, hg, ?_⟩
            walk_at "g"
            have e3 : (x0.1 : Int) + (x.1 : Int) - (x0.1 : Int) = (x.1 : Int) := by omega
            refine ⟨ks, ps, per, t, H0, ad, M, x0.1, x.1, (by show [V.ref (ad .obj), V.int (x0.1 : Int), V.int ((x0.1 : Int) + (x.1 : Int) - (x0.1 : Int))] = _; rw [e3]), S2.at_, S2.g.w, S2.nd, S2.ndp, S2.out, S2.tu, hx0s, hxs, S2.g.bd, fun H5 ad5 hM5 r5 => ?_⟩
            rw [if_neg en] at hM5 r5
            obtain ⟨sm, lt2⟩ := sim_ring S2.g.nd S2.g.w S2.g.fl S2.g.plo n0 hx0m (mem_of_at hx') ep en
            walk_at "g"
            exact k2 H5 ad5 _ hM5 ((Rch.same s2).trans r5) sm lt2
          · rw [decide_eq_false lt]
            walk_at "g"
            refine ⟨ad .obj, dm, _, rfl, s2 _ _ hm, rfl, ?_⟩
            walk_at "g"
            refine ⟨D, _, rfl, hg, ?_⟩
            walk_at "g"
            have e3 : (x0.1 : Int) + (x.1 : Int) - (x.1 : Int) = (x0.1 : Int) := by omega
            refine ⟨ks, ps, per, t, H0, ad, M, x.1, x0.1, (by show [V.ref (ad .obj), V.int (x.1 : Int), V.int ((x0.1 : Int) + (x.1 : Int) - (x.1 : Int))] = _; rw [e3]), S2.at_, S2.g.w, S2.nd, S2.ndp, S2.out, S2.tu, hxs, hx0s, S2.g.bd, fun H5 ad5 hM5 r5 => ?_⟩
            rw [if_neg (Ne.symm en)] at hM5 r5
            obtain ⟨sm, lt2⟩ := sim_ring S2.g.nd S2.g.w S2.g.fl S2.g.plo n0 (mem_of_at hx') hx0m ep.symm (Ne.symm en)
            walk_at "g"
            exact k2 H5 ad5 _ hM5 ((Rch.same s2).trans r5) sm lt2
    · rintro σ H2 ⟨v3, v4, v5, v6, kvs, rfl, s2, hD2, lk, h1, h2⟩
      rw [List.length_map, ul, List.take_length] at h1
      walk_at "g"
      refine k1 (fun s p t q a b e => ?_) H2 s2
      have e1 := h1 _ a
      have e2 := h1 _ b
      dsimp only at e1 e2
      rw [e, e2] at e1
      have := V.int.inj (Option.some.inj e1)
      omega
def spSetOnce (K : PySem.W.Frag) : Sp := fun vs H Q _ => ∃ (ks : List SI) (ps : List Str) (per : Str → Int) (t : Addr) (H0 : Hp) (ad : Sl → Addr) (M : RM), vs = [.ref (ad .obj)] ∧ RmS K ks ps per t H0 H ad M ∧
  (ClM (ks.map (·.1)) M → ∀ H', Same H H' → Q (.bl false) H') ∧
  ∀ H' ad' M', RmK K (ks.map (·.1)) ps t H' ad' M' → Rch (ks.map (·.1)) H ad M H' ad' M' → Sim (ks.map (·.1)) per ps M M' → mu (ks.map (·.1)) M' < mu (ks.map (·.1)) M → Q (.bl true) H'
theorem c_settle_once (T : Txt K mg) : Met P w K mg base 4 (He.ga K "RingMap") "settle_once" (spSetOnce K) [] := by
  have c_settle_spot := @c_settle_spot P PM w K mg base T
  have c_settle_ring := @c_settle_ring P PM w K mg base T
  refine metN T.m_RingMap__settle_once sc_RingMap_settle_once (fun vs H Q E h => ?_) (fun _ _ _ _ _ _ us hl => match us, hl with | [_], _ => rfl) (fun f cdv A outer s H vs Q E hr h => ?_)
  · obtain ⟨ks, ps, per, t, H0, ad, M, rfl, _⟩ := h
    rfl
  · obtain ⟨ks, ps, per, t, H0, ad, M, rfl, S, k1, k2⟩ := h
    refine ⟨_, (pss_cons (ps_for PassesOwn.never rfl (pi_list (pe_fldK K (pv 0) (by rfl))) (pg_name (i := 1) sc_RingMap_settle_once.nd rfl (Or.inl rfl)) (pss_one (ps_for PassesOwn.never rfl (pi_tup (pe_fld (pe_fld (pv 0) rfl) rfl)) (pg_name (i := 2) sc_RingMap_settle_once.nd rfl (Or.inl rfl)) (pss_one (ps_if (pt_val (pe_mtx c_settle_spot hr (by first | decide | omega) passL (pv 0) (pa_cons (pv 1) (pa_cons (pv 2) pa_nil)))) (pss_one (ps_ret pe_bl)) pss_nil)))))
      (pss_cons (ps_for PassesOwn.never rfl (pi_list (pe_callTy call_list_of (by rfl) T.b_list (by decide +kernel) (pa_cons (pe_fldK K (pv 0) (by rfl)) pa_nil))) (pg_name (i := 3) sc_RingMap_settle_once.nd rfl (Or.inl rfl)) (pss_one (ps_if (pt_val (pe_mtx c_settle_ring hr (by first | decide | omega) passL (pv 0) (pa_cons (pv 3) pa_nil))) (pss_one (ps_ret pe_bl)) pss_nil)))
      (pss_one (ps_ret pe_bl)))), ?_⟩
    obtain ⟨NS, eNS⟩ : ∃ NS, NS = ks.map (·.1) := ⟨_, rfl⟩
    obtain ⟨dm, hm⟩ := S.at_.obj
    obtain ⟨dt, p1, p2, p3, p4, ht0, _, hn0, _⟩ := id S.tu.ex
    have ht := S.out.s _ _ ht0
    have hn := S.out.s _ _ hn0
    walk_at "g"
    refine ⟨ad .obj, _, dm, _, _, rfl, hm, T.k_RingMap, T.a_RingMap__spots, rfl, ?_⟩
    walk_at "g"
    refine ⟨⟨_, SqL.of S.at_.spots⟩, ?_⟩
    refine for_it (walk_list (K := K) (xs := M.spots.map fun s : Nat => V.int (s : Int))) (fun i σ H' => ∃ (v1 v2 v3 : Option V), σ = [some (.ref (ad .obj)), v1, v2, v3] ∧ H' = H ∧ ∀ s ∈ M.spots.take i, ∀ c ∈ ks.map (·.1), (M.ly s c).length = 1) ⟨_, _, _, rfl, rfl, fun s hs => by cases hs⟩ ?_ ?_ ?_
    · rintro i σ H' _ ⟨_, _, _, _, rfl, _⟩
      exact SqL.of S.at_.spots
    · rintro i y σ H2 H2' hi ⟨v1, v2, v3, rfl, rfl, h1⟩ ⟨rfl, hy⟩
      rw [List.getElem?_map] at hy
      obtain ⟨s', hs', rfl⟩ := Option.map_eq_some_iff.mp hy
      have hsm := mem_of_at hs'
      walk_at "g"
      refine ⟨ad .obj, _, dm, _, _, rfl, hm, T.k_RingMap, T.a_RingMap__turns, rfl, ?_⟩
      walk_at "g"
      refine ⟨t, _, dt, _, _, rfl, ht, T.k_Turns, T.a_Turns__names, rfl, ?_⟩
      walk_at "g"
      refine ⟨⟨_, SqT.of hn⟩, ?_⟩
      refine for_it (walk_tup (K := K) (xs := ks.map fun c => V.str c.1)) (fun j σ H' => ∃ (v2 v3 : Option V), σ = [some (.ref (ad .obj)), some (.int (s' : Int)), v2, v3] ∧ H2' = H' ∧ ∀ c ∈ (ks.map (·.1)).take j, (M.ly s' c).length = 1) ⟨_, _, rfl, rfl, fun c hc => by cases hc⟩ ?_ ?_ ?_
      · rintro j σ H' _ ⟨_, _, _, rfl, _⟩
        exact SqT.of hn
      · rintro j y σ H3 H3' hj ⟨v2, v3, rfl, rfl, h2⟩ ⟨rfl, hy⟩
        rw [List.getElem?_map] at hy
        obtain ⟨c, hc, rfl⟩ := Option.map_eq_some_iff.mp hy
        have hcN : (ks.map (·.1))[j]? = some c.1 := by rw [List.getElem?_map, hc]; rfl
        walk_at "g"
        refine ⟨ad .obj, dm, _, rfl, hm, rfl, ?_⟩
        walk_at "g"
        refine ⟨ks.map (·.1), ps, per, t, ad, M, s', c.1, rfl, S.at_, S.g, hsm, mem_of_at hcN, fun h3 => ?_, fun H4 ad4 M4 hM4 r4 sm lt => ?_⟩
        · walk_at "g"
          intro c' hc'
          rw [take_snoc hcN, List.mem_append, List.mem_singleton] at hc'
          rcases hc' with hc' | rfl
          · exact h2 _ hc'
          · exact h3
        · walk_at "g"
          exact k2 H4 ad4 M4 hM4 r4 sm lt
      · rintro σ H3 ⟨v2, v3, rfl, rfl, h2⟩
        refine ⟨_, _, _, rfl, rfl, fun s hs => ?_⟩
        rw [take_snoc hs', List.mem_append, List.mem_singleton] at hs
        rcases hs with hs | rfl
        · exact h1 _ hs
        · rw [List.length_map, ← List.length_map (f := (·.1)), List.take_length] at h2
          exact h2
    · rintro σ H2 ⟨v1, v2, v3, rfl, rfl, h1⟩
      walk_at "g"
      refine ⟨ad .obj, _, dm, _, _, rfl, hm, T.k_RingMap, T.a_RingMap__circles, rfl, ?_⟩
      walk_at "g"
      refine ⟨ad .circ, _, rfl, .inl (SqL.of S.at_.circ), fun L nL => ?_⟩
      have sL := same_upd (o := .lst (M.rings.map fun r => V.ref (ad (.ring r.num)))) nL
      have hL1 : upd H2 L (.lst (M.rings.map fun r => V.ref (ad (.ring r.num)))) L = some (.lst (M.rings.map fun r => V.ref (ad (.ring r.num)))) := upd_same
      generalize upd H2 L (.lst (M.rings.map fun r => V.ref (ad (.ring r.num)))) = H3 at *
      walk_at "g"
      refine ⟨⟨_, SqL.of hL1⟩, ?_⟩
      refine for_it (walk_list (K := K) (xs := M.rings.map fun r => V.ref (ad (.ring r.num)))) (fun i σ H' => ∃ (v1 v2 v3 : Option V), σ = [some (.ref (ad .obj)), v1, v2, v3] ∧ Same H3 H' ∧ ∀ r ∈ M.rings.take i, ∀ s p t q, (s, p) ∈ r.seats → (t, q) ∈ r.seats → plc r.mod p = plc r.mod q → s = t) ⟨_, _, _, rfl, Same.refl _, fun s hs => (by cases hs)⟩ ?_ ?_ ?_
      · rintro i σ H' _ ⟨_, _, _, rfl, s', _⟩
        exact SqL.of (s' _ _ hL1)
      · rintro i y σ H4 H4' hi ⟨v1, v2, v3, rfl, s4, h4⟩ ⟨rfl, hy⟩
        rw [List.getElem?_map] at hy
        obtain ⟨r, hr', rfl⟩ := Option.map_eq_some_iff.mp hy
        have hrm := mem_of_at hr'
        walk_at "g"
        refine ⟨ad .obj, dm, _, rfl, s4 _ _ (sL _ _ hm), rfl, ?_⟩
        walk_at "g"
        refine ⟨ks, ps, per, t, H0, ad, M, r.num, r, rfl, (S.same sL).same s4, S.g.w.ring hrm, fun h5 H5 s5 => ?_, fun H5 ad5 M5 hM5 r5 sm lt => ?_⟩
        · walk_at "g"
          walk_at "g"
          refine ⟨_, _, _, rfl, s4.trans s5, fun r' hr2 => ?_⟩
          rw [take_snoc hr', List.mem_append, List.mem_singleton] at hr2
          rcases hr2 with hr2 | rfl
          · exact h4 _ hr2
          · exact h5
        · walk_at "g"
          exact k2 H5 ad5 M5 hM5 (((Rch.same sL).trans (Rch.same s4)).trans r5) sm lt
      · rintro σ H4 ⟨v1, v2, v3, rfl, s4, h4⟩
        walk_at "g"
        rw [List.length_map, List.take_length] at h1 h4
        exact k1 ⟨h1, h4⟩ _ (sL.trans s4)
def spClose (K : PySem.W.Frag) : Sp := fun vs H Q _ => ∃ (ks : List SI) (ps : List Str) (per : Str → Int) (t : Addr) (H0 : Hp) (ad : Sl → Addr) (M : RM), vs = [.ref (ad .obj)] ∧ RmS K ks ps per t H0 H ad M ∧
  ∀ H' ad' M', RmS K ks ps per t H0 H' ad' M' → Rch (ks.map (·.1)) H ad M H' ad' M' → Sim (ks.map (·.1)) per ps M M' → ClM (ks.map (·.1)) M' → ad' .obj = ad .obj → Q (.ref (ad .obj)) H'
theorem c_close_up (T : Txt K mg) : Met P w K mg base 5 (He.ga K "RingMap") "close_up" (spClose K) [] := by
  have c_settle_once := @c_settle_once P PM w K mg base T
  refine metN T.m_RingMap__close_up sc_RingMap_close_up (fun vs H Q E h => ?_) (fun _ _ _ _ _ _ us hl => match us, hl with | [_], _ => rfl) (fun f cdv A outer s H vs Q E hr h => ?_)
  · obtain ⟨ks, ps, per, t, H0, ad, M, rfl, _⟩ := h
    rfl
  · obtain ⟨ks, ps, per, t, H0, ad, M, rfl, S, k⟩ := h
    refine ⟨_, (pss_cons (ps_while PassesOwn.never (pt_val (pe_mtx0 c_settle_once hr (by first | decide | omega) passL (pv 0))) (pss_one ps_pass))
      (pss_one (ps_ret (pv 0)))), ?_⟩
    walk_at "g"
    refine ⟨fun m σ H' => ∃ ad' M', σ = [some (.ref (ad .obj))] ∧ ad' .obj = ad .obj ∧ RmS K ks ps per t H0 H' ad' M' ∧ Rch (ks.map (·.1)) H ad M H' ad' M' ∧ Sim (ks.map (·.1)) per ps M M' ∧ mu (ks.map (·.1)) M' = m, ⟨_, ad, M, rfl, rfl, S, .refl, .refl S.g.w S.g.fl S.g.plo, rfl⟩, ?_⟩
    rintro m σ H2 ⟨ad2, M2, rfl, eo, S2, r2, sm2, rfl⟩
    obtain ⟨dm, hm⟩ := S2.at_.obj
    rw [eo] at hm
    walk_at "g"
    refine ⟨ad .obj, dm, _, rfl, hm, rfl, ?_⟩
    walk_at "g"
    refine ⟨ks, ps, per, t, H0, ad2, M2, by rw [eo]; rfl, S2, fun cl H3 s3 => ?_, fun H3 ad3 M3 hM3 r3 sm3 lt => ?_⟩
    · walk_at "g"
      exact k H3 ad2 M2 (S2.same s3) (r2.trans (Rch.same s3)) sm2 cl eo
    · walk_at "g"
      have S3 := S2.step hM3 r3 sm3
      refine ⟨fun σ' H' => σ' = [some (.ref (ad .obj))] ∧ H' = H3, ?_, ?_⟩
      · rintro σ' H' ⟨rfl, rfl⟩
        exact ⟨_, lt, ad3, M3, rfl, r3.ob.trans eo, S3, r2.trans r3, sm2.trans sm3, rfl⟩
      · first
          | exact ⟨rfl, rfl⟩
          | (walk_at "g"; exact ⟨rfl, rfl⟩)
          | walk_at "g"
end
end Tr

/-! # Ring.__init__; RingMap.seat told by what it touches alone (for a map that is being made). -/
namespace Tr
open PySem L2 TL
/-- steps of a reading that are plain -/
local macro_rules | `(tactic| walk_at "x") => `(tactic| (refine' ⟨_, _, _, _, rfl, rfl, ?k1, ?k2, ?_⟩; (case k1 => exact SqT.of (by assumption)); (case k2 => exact rfl)))
local macro_rules | `(tactic| walk_at "g") => `(tactic| repeat (first | (refine ⟨_, rfl, ?_⟩) | (refine ⟨_, _, rfl, rfl, ?_⟩) | (refine ⟨_, _, rfl, ?_⟩) | (refine ⟨rfl, ?_⟩) | walk_at "x"))


section
variable {P : Program} [PM : PMain P] {w : World} {K : PySem.W.Frag} {mg : Str → Option Value} {base : Heap}
def spRing (C : Addr) : Sp := fun vs H Q _ => ∃ (x dx : Addr) (n : Nat) (c : Str) (m : Int), vs = [.ref x, .int (n : Int), .str c, .int m] ∧ H x = some (.ins C dx []) ∧
  ∀ H' se, Kp x H H' → H se = none → H' x = some (.ins C dx (rgF n c m se)) → H' se = some (.lst []) → Q .non H'
theorem m_Ring (T : Txt K mg) : Mak P w K mg base 1 "Ring" (He.ga K "Ring") (spRing (He.ga K "Ring")) [] := by
  refine makN T.i_Ring sc_Ring___init__ (fun vs H Q E h => ?_) (fun dvs f fd hl F => by
    cases dvs with
    | nil => exact (funD0 F).binds fun _ _ _ _ _ _ us hl => match us, hl with | [_, _, _, _], _ => rfl
    | cons _ _ => cases hl) (fun f cdv A outer s H vs Q E hr h => ?_)
  · obtain ⟨x, dx, n, c, m, rfl, _⟩ := h
    rfl
  · obtain ⟨x, dx, n, c, m, rfl, hx, k⟩ := h
    refine ⟨_, (pss_cons (ps_fld (pv 0) (pv 1) rfl)
      (pss_cons (ps_fld (pv 0) (pv 2) rfl)
      (pss_cons (ps_fld (pv 0) (pv 3) rfl)
      (pss_one (ps_fld (pv 0) (pe_lst pa_nil) rfl))))), ?_⟩
    walk_at "g"
    refine ⟨x, _, dx, _, rfl, hx, T.k_Ring, T.a_Ring__number, by show 0 < 1000; decide, ?_⟩
    walk_at "g"
    refine ⟨x, _, dx, _, rfl, upd_same, T.k_Ring, T.a_Ring__turn, by show 1 < 1000; decide, ?_⟩
    walk_at "g"
    refine ⟨x, _, dx, _, rfl, upd_same, T.k_Ring, T.a_Ring__modulus, by show 2 < 1000; decide, ?_⟩
    walk_at "g"
    refine ⟨by show 0 ≤ sizeLine; decide, fun se nse => ?_⟩
    have nsx : se ≠ x := fun q => by rw [q, upd_same] at nse; cases nse
    have nse0 : H se = none := by
      rw [upd_ne nsx, upd_ne nsx, upd_ne nsx] at nse
      exact nse
    walk_at "g"
    refine ⟨x, _, dx, _, rfl, by rw [upd_ne nsx.symm, upd_same], T.k_Ring, T.a_Ring__seats, by show 3 < 1000; decide, ?_⟩
    refine k _ se (fun b o e q => ?_) nse0 upd_same ?_
    · rw [upd_ne q, upd_ne (ne_of_none e nse0), upd_ne q, upd_ne q, upd_ne q]
      exact e
    · rw [upd_ne nsx, upd_same]
def spSeat0 (K : PySem.W.Frag) : Sp := fun vs H Q _ => ∃ (ob rg dm dr t0 ci sp ly so d se l : Addr) (la dw s n : Nat) (c : Str) (p m : Int) (kl kd : List (Key × V)) (A B : List V), vs = [.ref ob, .int (s : Int), .ref rg, .int p] ∧
  H ob = some (.ins (He.ga K "RingMap") dm (rmF t0 ci sp ly la dw so)) ∧ H rg = some (.ins (He.ga K "Ring") dr (rgF n c m se)) ∧ H se = some (.lst A) ∧ H ly = some (.dK kl) ∧ valV kl (.inl (s : Int)) = some (.ref d) ∧ H d = some (.dK kd) ∧ valV kd (.inr c) = some (.ref l) ∧ H l = some (.lst B) ∧ se ≠ l ∧ A.length ≤ 50000 ∧ B.length ≤ 50000 ∧
  ∀ H' u1 u2, (∀ b o, H b = some o → b ≠ se → b ≠ l → H' b = some o) → H u1 = none → H u2 = none → H' u1 = some (.tup [.int (s : Int), .int p]) → H' u2 = some (.tup [.ref rg, .int p]) → H' se = some (.lst (A ++ [.ref u1])) → H' l = some (.lst (B ++ [.ref u2])) → Q .non H'
theorem c_seat0 (T : Txt K mg) : Met P w K mg base 1 (He.ga K "RingMap") "seat" (spSeat0 K) [] := by
  refine metN T.m_RingMap__seat sc_RingMap_seat (fun vs H Q E h => ?_) (fun _ _ _ _ _ _ us hl => match us, hl with | [_, _, _, _], _ => rfl) (fun f cdv A outer s H vs Q E hr h => ?_)
  · obtain ⟨ob, rg, dm, dr, t0, ci, sp, ly, so, d, se, l, la, dw, s, n, c, p, m, kl, kd, A, B, rfl, _⟩ := h
    rfl
  · obtain ⟨ob, rg, dm, dr, t0, ci, sp, ly, so, d, se, l, la, dw, s', n, c, p, m, kl, kd, A', B, rfl, hob, hrg, hse, hly, vl, hd, vd, hl, ne, l1, l2, k⟩ := h
    refine ⟨_, (pss_cons (ps_expr (pe_bm PySem.F.plainAttrs_list PySem.F.slot_list_append PySem.F.type_list_append mt_append (pe_fldK K (pv 2) (by rfl)) (pa_cons (pe_tup (pa_cons (pv 1) (pa_cons (pv 3) pa_nil))) pa_nil)))
      (pss_one (ps_expr (pe_bm PySem.F.plainAttrs_list PySem.F.slot_list_append PySem.F.type_list_append mt_append (pe_dget (hu_of hr) (pe_dget (hu_of hr) (pe_fldK K (pv 0) (by rfl)) (pv 1) (fun _ _ => rfl)) (pe_fldK K (pv 2) (by rfl)) (fun _ _ => rfl)) (pa_cons (pe_tup (pa_cons (pv 2) (pa_cons (pv 3) pa_nil))) pa_nil))))), ?_⟩
    walk_at "g"
    refine ⟨rg, _, dr, _, _, rfl, hrg, T.k_Ring, T.a_Ring__seats, rfl, ?_⟩
    walk_at "g"
    refine ⟨.inl ⟨rfl, _, SqL.of hse⟩, ?_⟩
    walk_at "g"
    refine ⟨by show 2 ≤ sizeLine; decide, fun u1 nu1 => ?_⟩
    have s1 := same_upd (o := .tup [.int (s' : Int), .int p]) nu1
    have hu1 : upd H u1 (.tup [.int (s' : Int), .int p]) u1 = some (.tup [.int (s' : Int), .int p]) := upd_same
    generalize upd H u1 (.tup [.int (s' : Int), .int p]) = H1 at *
    walk_at "g"
    refine ⟨se, A', _, rfl, rfl, s1 _ _ hse, small_app (m := 100000) (by omega) (Nat.le_refl _), ?_⟩
    have kp2 : ∀ {b : Addr} {o : HO}, H b = some o → b ≠ se → upd H1 se (.lst (A' ++ [.ref u1])) b = some o := fun {b o} e q => by
      rw [upd_ne q]
      exact s1 _ _ e
    have e1 : u1 ≠ se := fun q => by rw [q, hse] at nu1; cases nu1
    have hu12 : upd H1 se (.lst (A' ++ [.ref u1])) u1 = some (.tup [.int (s' : Int), .int p]) := by rw [upd_ne e1]; exact hu1
    have hse2 : upd H1 se (.lst (A' ++ [.ref u1])) se = some (.lst (A' ++ [.ref u1])) := upd_same
    have nn2 : ∀ u, upd H1 se (.lst (A' ++ [.ref u1])) u = none → H u = none := fun u e => by
      cases q : H u with
      | none => rfl
      | some o =>
        by_cases z : u = se
        · rw [z, upd_same] at e
          cases e
        · rw [kp2 q z] at e
          cases e
    generalize upd H1 se (.lst (A' ++ [.ref u1])) = H2 at *
    have ob_se : ob ≠ se := ne_of hob hse (by intro z; cases z)
    have ly_se : ly ≠ se := ne_of hly hse (by intro z; cases z)
    have d_se : d ≠ se := ne_of hd hse (by intro z; cases z)
    have rg_se : rg ≠ se := ne_of hrg hse (by intro z; cases z)
    walk_at "g"
    refine ⟨ob, _, dm, _, _, rfl, kp2 hob ob_se, T.k_RingMap, T.a_RingMap__lying, rfl, ?_⟩
    walk_at "g"
    refine ⟨ly, .ref d, rfl, by
      have := DGet.k (k := (.inl (s' : Int) : Key)) (kp2 hly ly_se)
      rw [vl] at this
      exact this, ?_⟩
    walk_at "g"
    refine ⟨rg, _, dr, _, _, rfl, kp2 hrg rg_se, T.k_Ring, T.a_Ring__turn, rfl, ?_⟩
    walk_at "g"
    refine ⟨d, .ref l, rfl, by
      have := DGet.k (k := (.inr c : Key)) (kp2 hd d_se)
      rw [vd] at this
      exact this, ?_⟩
    walk_at "g"
    refine ⟨.inl ⟨rfl, _, SqL.of (kp2 hl ne.symm)⟩, ?_⟩
    walk_at "g"
    refine ⟨by show 2 ≤ sizeLine; decide, fun u2 nu2 => ?_⟩
    have s3 := same_upd (o := .tup [.ref rg, .int p]) nu2
    have hu2 : upd H2 u2 (.tup [.ref rg, .int p]) u2 = some (.tup [.ref rg, .int p]) := upd_same
    generalize upd H2 u2 (.tup [.ref rg, .int p]) = H3 at *
    walk_at "g"
    refine ⟨l, B, _, rfl, rfl, s3 _ _ (kp2 hl ne.symm), small_app (m := 100000) (by omega) (Nat.le_refl _), ?_⟩
    have u1l : u1 ≠ l := fun q => by rw [q, hl] at nu1; cases nu1
    have u2l : u2 ≠ l := fun q => by rw [q, kp2 hl ne.symm] at nu2; cases nu2
    refine k _ u1 u2 (fun b o e q1 q2 => ?_) nu1 (nn2 _ nu2) ?_ ?_ ?_ upd_same
    · rw [upd_ne q2]
      exact s3 _ _ (kp2 e q1)
    · rw [upd_ne u1l]
      exact s3 _ _ hu12
    · rw [upd_ne u2l]
      exact hu2
    · rw [upd_ne ne]
      exact s3 _ _ hse2
end
end Tr

/-! # A map that is being made: spots have rings of some turns only. -/
namespace Tr
open PySem L2 TL
/-- steps of a reading that are plain -/
local macro_rules | `(tactic| walk_at "x") => `(tactic| (refine' ⟨_, _, _, _, rfl, rfl, ?k1, ?k2, ?_⟩; (case k1 => exact SqT.of (by assumption)); (case k2 => exact rfl)))
local macro_rules | `(tactic| walk_at "g") => `(tactic| repeat (first | (refine ⟨_, rfl, ?_⟩) | (refine ⟨_, _, rfl, rfl, ?_⟩) | (refine ⟨_, _, rfl, ?_⟩) | (refine ⟨rfl, ?_⟩) | walk_at "x"))


theorem P2_mono_in {α β : Type} {R S : α → β → Prop} {us : List α} {xs : List β} (h : P2 R us xs) : (∀ a x, x ∈ xs → R a x → S a x) → P2 S us xs := by
  induction h with
  | nil => exact fun _ => .nil
  | cons r _ ih => exact fun f => .cons (f _ _ (List.mem_cons_self ..) r) (ih fun a x hx => f a x (List.mem_cons_of_mem _ hx))
def LvP (nm : Nat → List Str) (M : RM) : Sl → Prop
  | .obj | .circ | .spots | .lying | .spotof => True
  | .ring n => ∃ r ∈ M.rings, r.num = n
  | .seats n => ∃ r ∈ M.rings, r.num = n
  | .dict s => s < M.laid
  | .lst s c => s < M.laid ∧ c ∈ nm s
structure RmP (CM CG : Addr) (nm : Nat → List Str) (ps : List Str) (t : Addr) (H : Hp) (ad : Sl → Addr) (M : RM) : Prop where
  inj : ∀ x y, LvP nm M x → LvP nm M y → ad x = ad y → x = y
  obj : ∃ dx, H (ad .obj) = some (.ins CM dx (rmF t (ad .circ) (ad .spots) (ad .lying) M.laid M.drawn (ad .spotof)))
  circ : H (ad .circ) = some (.lst (M.rings.map fun r => V.ref (ad (.ring r.num))))
  spots : H (ad .spots) = some (.lst (M.spots.map fun s : Nat => V.int (s : Int)))
  lying : H (ad .lying) = some (.dK (lyK ad M.laid))
  spotof : H (ad .spotof) = some (.dK (plK M ps))
  ring : ∀ r ∈ M.rings, ∃ dx, H (ad (.ring r.num)) = some (.ins CG dx (rgF r.num r.turn r.mod (ad (.seats r.num))))
  seats : ∀ r ∈ M.rings, ∃ us : List Addr, H (ad (.seats r.num)) = some (.lst (us.map V.ref)) ∧ P2 (StP H) us r.seats
  dict : ∀ s, s < M.laid → H (ad (.dict s)) = some (.dK (dcK ad (nm s) s))
  lst : ∀ s c, s < M.laid → c ∈ nm s → ∃ us : List Addr, H (ad (.lst s c)) = some (.lst (us.map V.ref)) ∧ P2 (LyP ad H) us (M.ly s c)
section
variable {CM CG t : Addr} {NS ps : List Str} {nm : Nat → List Str} {H H' : Hp} {ad : Sl → Addr} {M : RM}
theorem LvP.to (e : ∀ s, s < M.laid → nm s = NS) : ∀ x, LvP nm M x ↔ Lv NS M x := fun x => by
  cases x with
  | lst s c =>
    show (s < M.laid ∧ c ∈ nm s) ↔ (s < M.laid ∧ c ∈ NS)
    exact ⟨fun h => ⟨h.1, e s h.1 ▸ h.2⟩, fun h => ⟨h.1, (e s h.1).symm ▸ h.2⟩⟩
  | _ => exact Iff.rfl
theorem RmP.toAt (h : RmP CM CG nm ps t H ad M) (e : ∀ s, s < M.laid → nm s = NS) : RmAt CM CG NS ps t H ad M :=
  ⟨fun x y hx hy => h.inj x y ((LvP.to e x).mpr hx) ((LvP.to e y).mpr hy), h.obj, h.circ, h.spots, h.lying, h.spotof, h.ring, h.seats,
    fun s hs => (e s hs) ▸ h.dict s hs, fun s c hs hc => h.lst s c hs ((e s hs).symm ▸ hc)⟩
/-- every own address holds something -/
theorem RmP.some_at (h : RmP CM CG nm ps t H ad M) {x : Sl} (hx : LvP nm M x) : ∃ o, H (ad x) = some o := by
  match x, hx with
  | .obj, _ => obtain ⟨dx, e⟩ := h.obj; exact ⟨_, e⟩
  | .circ, _ => exact ⟨_, h.circ⟩
  | .spots, _ => exact ⟨_, h.spots⟩
  | .lying, _ => exact ⟨_, h.lying⟩
  | .spotof, _ => exact ⟨_, h.spotof⟩
  | .ring n, ⟨r, hr, e⟩ => obtain ⟨dx, q⟩ := h.ring r hr; exact ⟨_, e ▸ q⟩
  | .seats n, ⟨r, hr, e⟩ => obtain ⟨us, q, _⟩ := h.seats r hr; exact ⟨_, e ▸ q⟩
  | .dict s, hs => exact ⟨_, h.dict s hs⟩
  | .lst s c, hs => obtain ⟨us, q, _⟩ := h.lst s c hs.1 hs.2; exact ⟨_, q⟩
def adN (ad : Sl → Addr) (n s : Nat) (c : Str) (rg se l : Addr) : Sl → Addr := fun x => if x = .ring n then rg else if x = .seats n then se else if x = .lst s c then l else ad x
theorem adN_ne {n s : Nat} {c : Str} {rg se l : Addr} {x : Sl} (h1 : x ≠ .ring n) (h2 : x ≠ .seats n) (h3 : x ≠ .lst s c) : adN ad n s c rg se l x = ad x := by
  unfold adN
  rw [if_neg h1, if_neg h2, if_neg h3]
theorem lv_newRing {nm : Nat → List Str} {M : RM} {L : Nat} {c : Str} {m : Int} : ∀ x, LvP (fun s => if s = L then nm L ++ [c] else nm s) (M.newRing L c m) x → LvP nm M x ∨ x = .ring M.drawn ∨ x = .seats M.drawn ∨ x = .lst L c := fun x hx => by
  match x, hx with
  | .obj, _ => exact .inl trivial
  | .circ, _ => exact .inl trivial
  | .spots, _ => exact .inl trivial
  | .lying, _ => exact .inl trivial
  | .spotof, _ => exact .inl trivial
  | .ring n, ⟨r, hr, e⟩ =>
    rcases List.mem_append.mp hr with hr | hr
    · exact .inl ⟨r, hr, e⟩
    · rw [List.mem_singleton] at hr
      subst hr
      exact .inr (.inl (by rw [← e]))
  | .seats n, ⟨r, hr, e⟩ =>
    rcases List.mem_append.mp hr with hr | hr
    · exact .inl ⟨r, hr, e⟩
    · rw [List.mem_singleton] at hr
      subst hr
      exact .inr (.inr (.inl (by rw [← e])))
  | .dict s, hs => exact .inl hs
  | .lst s d, hs =>
    obtain ⟨h1, h2⟩ := hs
    dsimp only at h2
    by_cases e : s = L
    · rw [if_pos e, List.mem_append, List.mem_singleton] at h2
      subst e
      rcases h2 with h2 | rfl
      · exact .inl ⟨h1, h2⟩
      · exact .inr (.inr (.inr rfl))
    · rw [if_neg e] at h2
      exact .inl ⟨h1, h2⟩
theorem RmP.newRing (h : RmP CM CG nm ps t H ad M) (nb : ∀ r ∈ M.rings, r.num < M.drawn) (lb : ∀ s c n p, (n, p) ∈ M.ly s c → n < M.drawn) {L : Nat} {c : Str} {m : Int} (hL : L < M.laid) (hc : c ∉ nm L) {rg se l u1 u2 : Addr}
    (frg : H rg = none) (fse : H se = none) (fl : H l = none) (d1 : rg ≠ se) (d2 : rg ≠ l) (d3 : se ≠ l)
    (kp : ∀ b o, H b = some o → b ≠ ad .obj → b ≠ ad .circ → b ≠ ad (.dict L) → H' b = some o)
    (ob : ∃ dx, H' (ad .obj) = some (.ins CM dx (rmF t (ad .circ) (ad .spots) (ad .lying) M.laid (M.drawn + 1) (ad .spotof))))
    (ci : H' (ad .circ) = some (.lst ((M.rings.map fun r => V.ref (ad (.ring r.num))) ++ [.ref rg])))
    (di : H' (ad (.dict L)) = some (.dK (dcK ad (nm L) L ++ [((.inr c : Key), V.ref l)])))
    (hrg : ∃ dx, H' rg = some (.ins CG dx (rgF M.drawn c m se))) (hse : H' se = some (.lst [.ref u1])) (hu1 : StP H' u1 (L, 0)) (hl : H' l = some (.lst [.ref u2])) (hu2 : H' u2 = some (.tup [.ref rg, .int 0])) :
    RmP CM CG (fun s => if s = L then nm L ++ [c] else nm s) ps t H' (adN ad M.drawn L c rg se l) (M.newRing L c m) := by
  have old : ∀ x, LvP nm M x → x ≠ .ring M.drawn ∧ x ≠ .seats M.drawn ∧ x ≠ .lst L c := fun x hx => by
    refine ⟨fun e => ?_, fun e => ?_, fun e => ?_⟩
    · rw [e] at hx
      obtain ⟨r, hr, q⟩ := hx
      have := nb r hr
      omega
    · rw [e] at hx
      obtain ⟨r, hr, q⟩ := hx
      have := nb r hr
      omega
    · rw [e] at hx
      exact hc hx.2
  have adO : ∀ x, LvP nm M x → adN ad M.drawn L c rg se l x = ad x := fun x hx => adN_ne (old x hx).1 (old x hx).2.1 (old x hx).2.2
  have adR : adN ad M.drawn L c rg se l (.ring M.drawn) = rg := if_pos rfl
  have adSe : adN ad M.drawn L c rg se l (.seats M.drawn) = se := by
    unfold adN
    rw [if_neg (by intro z; cases z), if_pos rfl]
  have adL : adN ad M.drawn L c rg se l (.lst L c) = l := by
    unfold adN
    rw [if_neg (by intro z; cases z), if_neg (by intro z; cases z), if_pos rfl]
  have lv := @lv_newRing nm M L c m
  have nw : ∀ x, LvP nm M x → ad x ≠ rg ∧ ad x ≠ se ∧ ad x ≠ l := fun x hx => by
    obtain ⟨o, e⟩ := h.some_at hx
    exact ⟨fun q => (by rw [q, frg] at e; cases e), fun q => (by rw [q, fse] at e; cases e), fun q => (by rw [q, fl] at e; cases e)⟩
  have kpO : ∀ x o, LvP nm M x → x ≠ .obj → x ≠ .circ → x ≠ .dict L → H (ad x) = some o → H' (ad x) = some o := fun x o hx q1 q2 q3 e =>
    kp _ _ e (fun z => q1 (h.inj _ _ hx trivial z)) (fun z => q2 (h.inj _ _ hx trivial z)) (fun z => q3 (h.inj _ _ hx hL z))
  obtain ⟨do', hob⟩ := h.obj
  have kpT : ∀ b vs, H b = some (.tup vs) → H' b = some (.tup vs) := fun b vs e =>
    kp _ _ e (ne_of e hob (by intro z; cases z)) (ne_of e h.circ (by intro z; cases z)) (ne_of e (h.dict L hL) (by intro z; cases z))
  have nmL : ∀ s, s ≠ L → (if s = L then nm L ++ [c] else nm s) = nm s := fun s q => if_neg q
  refine ⟨fun x y hx hy e => ?_, ?_, ?_, ?_, ?_, ?_, fun r hr => ?_, fun r hr => ?_, fun s hs => ?_, fun s d hs hd => ?_⟩
  · rcases lv x hx with hx | rfl | rfl | rfl <;> rcases lv y hy with hy | rfl | rfl | rfl <;> (try simp only [adR, adSe, adL] at e) <;>
      first
        | rfl
        | (rw [adO _ hx, adO _ hy] at e; exact h.inj _ _ hx hy e)
        | (rw [adO _ hx] at e; exact absurd e (nw _ hx).1)
        | (rw [adO _ hx] at e; exact absurd e (nw _ hx).2.1)
        | (rw [adO _ hx] at e; exact absurd e (nw _ hx).2.2)
        | (rw [adO _ hy] at e; exact absurd e.symm (nw _ hy).1)
        | (rw [adO _ hy] at e; exact absurd e.symm (nw _ hy).2.1)
        | (rw [adO _ hy] at e; exact absurd e.symm (nw _ hy).2.2)
        | exact absurd e d1
        | exact absurd e d2
        | exact absurd e d3
        | exact absurd e.symm d1
        | exact absurd e.symm d2
        | exact absurd e.symm d3
  · rw [adO .obj trivial, adO .circ trivial, adO .spots trivial, adO .lying trivial, adO .spotof trivial]
    exact ob
  · rw [adO .circ trivial, ci]
    show _ = some (HO.lst ((M.rings ++ [_]).map _))
    rw [List.map_append]
    congr 3
    · exact List.map_congr_left fun r hr => by rw [adO (.ring r.num) ⟨r, hr, rfl⟩]
    · show [V.ref rg] = [V.ref (adN ad M.drawn L c rg se l (.ring M.drawn))]
      rw [adR]
  · rw [adO .spots trivial]
    exact kpO .spots _ trivial (by intro z; cases z) (by intro z; cases z) (by intro z; cases z) h.spots
  · rw [adO .lying trivial, kpO .lying _ trivial (by intro z; cases z) (by intro z; cases z) (by intro z; cases z) h.lying]
    unfold lyK
    congr 2 <;> exact List.map_congr_left fun s hs => by rw [adO (.dict s) (List.mem_range.mp hs)]
  · rw [adO .spotof trivial]
    exact kpO .spotof _ trivial (by intro z; cases z) (by intro z; cases z) (by intro z; cases z) h.spotof
  · rcases List.mem_append.mp hr with hr | hr
    · rw [adO (.ring r.num) ⟨r, hr, rfl⟩, adO (.seats r.num) ⟨r, hr, rfl⟩]
      obtain ⟨dx, e⟩ := h.ring r hr
      exact ⟨dx, kpO (.ring r.num) _ ⟨r, hr, rfl⟩ (by intro z; cases z) (by intro z; cases z) (by intro z; cases z) e⟩
    · rw [List.mem_singleton] at hr
      subst hr
      dsimp only
      rw [adR, adSe]
      exact hrg
  · rcases List.mem_append.mp hr with hr | hr
    · rw [adO (.seats r.num) ⟨r, hr, rfl⟩]
      obtain ⟨us, e, p⟩ := h.seats r hr
      exact ⟨us, kpO (.seats r.num) _ ⟨r, hr, rfl⟩ (by intro z; cases z) (by intro z; cases z) (by intro z; cases z) e, p.mono fun a x q => kpT _ _ q⟩
    · rw [List.mem_singleton] at hr
      subst hr
      dsimp only
      rw [adSe]
      exact ⟨[u1], hse, .cons hu1 .nil⟩
  · rw [adO (.dict s) hs]
    by_cases e : s = L
    · subst e
      rw [di, if_pos rfl]
      unfold dcK
      rw [List.map_append]
      congr 3
      · exact List.map_congr_left fun d hd => by rw [adO (.lst s d) ⟨hs, hd⟩]
      · show [((.inr c : Key), V.ref l)] = [((.inr c : Key), V.ref (adN ad M.drawn s c rg se l (.lst s c)))]
        rw [adL]
    · rw [nmL s e, kpO (.dict s) _ hs (by intro z; cases z) (by intro z; cases z) (by intro z; exact e (by cases z; rfl)) (h.dict s hs)]
      unfold dcK
      congr 2 <;> exact List.map_congr_left fun d hd => by rw [adO (.lst s d) ⟨hs, hd⟩]
  · have lyO : ∀ {us : List Addr} {s d}, P2 (LyP ad H) us (M.ly s d) → P2 (LyP (adN ad M.drawn L c rg se l) H') us (M.ly s d) := fun {us s d} p =>
      P2_mono_in p fun a x hx q => by
        unfold LyP at q ⊢
        have := lb s d x.1 x.2 hx
        rw [adN_ne (fun z => by have := Sl.ring.inj z; omega) (by intro z; cases z) (by intro z; cases z)]
        exact kpT _ _ q
    rcases lv (.lst s d) ⟨hs, hd⟩ with ho | z | z | z
    · rw [adO (.lst s d) ho]
      obtain ⟨us, e, p⟩ := h.lst s d ho.1 ho.2
      refine ⟨us, kpO (.lst s d) _ ho (by intro z; cases z) (by intro z; cases z) (by intro z; cases z) e, ?_⟩
      have ne : ¬ (s = L ∧ d = c) := fun q => (old _ ho).2.2 (by rw [q.1, q.2])
      show P2 _ us (if s = L ∧ d = c then [(M.drawn, 0)] else M.ly s d)
      rw [if_neg ne]
      exact lyO p
    · cases z
    · cases z
    · cases z
      rw [adL]
      refine ⟨[u2], hl, ?_⟩
      show P2 _ [u2] (if L = L ∧ c = c then [(M.drawn, 0)] else M.ly L c)
      rw [if_pos ⟨rfl, rfl⟩]
      refine .cons ?_ .nil
      unfold LyP
      dsimp only
      rw [adR]
      exact hu2
end
end Tr

/-! # A new spot begins. -/
namespace Tr
open PySem L2 TL
/-- steps of a reading that are plain -/
local macro_rules | `(tactic| walk_at "x") => `(tactic| (refine' ⟨_, _, _, _, rfl, rfl, ?k1, ?k2, ?_⟩; (case k1 => exact SqT.of (by assumption)); (case k2 => exact rfl)))
local macro_rules | `(tactic| walk_at "g") => `(tactic| repeat (first | (refine ⟨_, rfl, ?_⟩) | (refine ⟨_, _, rfl, rfl, ?_⟩) | (refine ⟨_, _, rfl, ?_⟩) | (refine ⟨rfl, ?_⟩) | walk_at "x"))


def RM.spot0 (M : RM) : RM := { M with spots := M.spots ++ [M.laid], laid := M.laid + 1, ly := fun s c => if s = M.laid then [] else M.ly s c }
theorem lv_spot0 {NS : List Str} {M : RM} : ∀ x, LvP (fun s => if s = M.laid then [] else NS) M.spot0 x → Lv NS M x ∨ x = .dict M.laid := fun x hx => by
  match x, hx with
  | .obj, _ => exact .inl trivial
  | .circ, _ => exact .inl trivial
  | .spots, _ => exact .inl trivial
  | .lying, _ => exact .inl trivial
  | .spotof, _ => exact .inl trivial
  | .ring n, ⟨r, hr, e⟩ => exact .inl ⟨r, hr, e⟩
  | .seats n, ⟨r, hr, e⟩ => exact .inl ⟨r, hr, e⟩
  | .dict s, hs =>
    have hs : s < M.laid + 1 := hs
    by_cases e : s = M.laid
    · exact .inr (by rw [e])
    · exact .inl (show s < M.laid by omega)
  | .lst s c, hs =>
    obtain ⟨h1, h2⟩ := hs
    have h1 : s < M.laid + 1 := h1
    dsimp only at h2
    by_cases e : s = M.laid
    · rw [if_pos e] at h2
      cases h2
    · rw [if_neg e] at h2
      exact .inl ⟨by omega, h2⟩
section
variable {CM CG t : Addr} {NS ps : List Str} {H H' : Hp} {ad : Sl → Addr} {M : RM}
theorem RmAt.spot0 (h : RmAt CM CG NS ps t H ad M) {d : Addr} (fd : H d = none)
    (kp : ∀ b o, H b = some o → b ≠ ad .obj → b ≠ ad .spots → b ≠ ad .lying → H' b = some o)
    (ob : ∃ dx, H' (ad .obj) = some (.ins CM dx (rmF t (ad .circ) (ad .spots) (ad .lying) (M.laid + 1) M.drawn (ad .spotof))))
    (sp : H' (ad .spots) = some (.lst ((M.spots.map fun s : Nat => V.int (s : Int)) ++ [.int (M.laid : Int)])))
    (ly : H' (ad .lying) = some (.dK (lyK ad M.laid ++ [((.inl (M.laid : Int) : Key), V.ref d)])))
    (hd : H' d = some (.dK [])) :
    RmP CM CG (fun s => if s = M.laid then [] else NS) ps t H' (adS ad (.dict M.laid) d) M.spot0 := by
  have old : ∀ x, Lv NS M x → x ≠ .dict M.laid := fun x hx e => by
    rw [e] at hx
    exact absurd hx (Nat.lt_irrefl _)
  have adO : ∀ x, Lv NS M x → adS ad (.dict M.laid) d x = ad x := fun x hx => adS_ne (old x hx)
  have adD : adS ad (.dict M.laid) d (.dict M.laid) = d := adS_same ..
  have lv := @lv_spot0 NS M
  have nw : ∀ x, Lv NS M x → ad x ≠ d := fun x hx q => h.ne_none hx fd q
  have kpO : ∀ x o, Lv NS M x → x ≠ .obj → x ≠ .spots → x ≠ .lying → H (ad x) = some o → H' (ad x) = some o := fun x o hx q1 q2 q3 e =>
    kp _ _ e (fun z => q1 (h.inj _ _ hx trivial z)) (fun z => q2 (h.inj _ _ hx trivial z)) (fun z => q3 (h.inj _ _ hx trivial z))
  obtain ⟨do', hob⟩ := h.obj
  have kpT : ∀ b vs, H b = some (.tup vs) → H' b = some (.tup vs) := fun b vs e =>
    kp _ _ e (ne_of e hob (by intro z; cases z)) (ne_of e h.spots (by intro z; cases z)) (ne_of e h.lying (by intro z; cases z))
  refine ⟨fun x y hx hy e => ?_, ?_, ?_, ?_, ?_, ?_, fun r hr => ?_, fun r hr => ?_, fun s hs => ?_, fun s c hs hc => ?_⟩
  · rcases lv x hx with hx | rfl <;> rcases lv y hy with hy | rfl
    · rw [adO _ hx, adO _ hy] at e
      exact h.inj _ _ hx hy e
    · rw [adO _ hx, adD] at e
      exact absurd e (nw _ hx)
    · rw [adO _ hy, adD] at e
      exact absurd e.symm (nw _ hy)
    · rfl
  · rw [adO .obj trivial, adO .circ trivial, adO .spots trivial, adO .lying trivial, adO .spotof trivial]
    exact ob
  · rw [adO .circ trivial, kpO .circ _ trivial (by intro z; cases z) (by intro z; cases z) (by intro z; cases z) h.circ]
    show some (HO.lst (M.rings.map _)) = some (HO.lst (M.rings.map _))
    congr 2 <;> exact List.map_congr_left fun r hr => by rw [adO (.ring r.num) ⟨r, hr, rfl⟩]
  · rw [adO .spots trivial, sp]
    show _ = some (HO.lst ((M.spots ++ [M.laid]).map _))
    rw [List.map_append]
    rfl
  · rw [adO .lying trivial, ly]
    show _ = some (HO.dK (lyK _ (M.laid + 1)))
    unfold lyK
    rw [List.range_succ, List.map_append]
    congr 3
    · exact List.map_congr_left fun s hs => by rw [adO (.dict s) (List.mem_range.mp hs)]
    · show [((.inl (M.laid : Int) : Key), V.ref d)] = [((.inl (M.laid : Int) : Key), V.ref (adS ad (.dict M.laid) d (.dict M.laid)))]
      rw [adD]
  · rw [adO .spotof trivial]
    exact kpO .spotof _ trivial (by intro z; cases z) (by intro z; cases z) (by intro z; cases z) h.spotof
  · have hr : r ∈ M.rings := hr
    rw [adO (.ring r.num) ⟨r, hr, rfl⟩, adO (.seats r.num) ⟨r, hr, rfl⟩]
    obtain ⟨dx, e⟩ := h.ring r hr
    exact ⟨dx, kpO (.ring r.num) _ ⟨r, hr, rfl⟩ (by intro z; cases z) (by intro z; cases z) (by intro z; cases z) e⟩
  · have hr : r ∈ M.rings := hr
    rw [adO (.seats r.num) ⟨r, hr, rfl⟩]
    obtain ⟨us, e, p⟩ := h.seats r hr
    exact ⟨us, kpO (.seats r.num) _ ⟨r, hr, rfl⟩ (by intro z; cases z) (by intro z; cases z) (by intro z; cases z) e, p.mono fun a x q => kpT _ _ q⟩
  · have hs : s < M.laid + 1 := hs
    by_cases e : s = M.laid
    · subst e
      rw [adD, hd, if_pos rfl]
      rfl
    · have hs' : s < M.laid := by omega
      rw [adO (.dict s) hs', if_neg e, kpO (.dict s) _ hs' (by intro z; cases z) (by intro z; cases z) (by intro z; cases z) (h.dict s hs')]
      unfold dcK
      congr 2 <;> exact List.map_congr_left fun c hc => by rw [adO (.lst s c) ⟨hs', hc⟩]
  · have hl := lv (.lst s c) ⟨hs, hc⟩
    rcases hl with hl | z
    · rw [adO (.lst s c) hl]
      obtain ⟨us, e, p⟩ := h.lst s c hl.1 hl.2
      refine ⟨us, kpO (.lst s c) _ hl (by intro z; cases z) (by intro z; cases z) (by intro z; cases z) e, ?_⟩
      show P2 _ us (if s = M.laid then [] else M.ly s c)
      rw [if_neg (Nat.ne_of_lt hl.1)]
      refine p.mono fun a x q => ?_
      unfold LyP at q ⊢
      rw [adS_ne (by intro z; cases z)]
      exact kpT _ _ q
    · cases z
end
end Tr

/-! # RingMap.new_spot. -/
namespace Tr
open PySem L2 TL
/-- steps of a reading that are plain -/
local macro_rules | `(tactic| walk_at "x") => `(tactic| (refine' ⟨_, _, _, _, rfl, rfl, ?k1, ?k2, ?_⟩; (case k1 => exact SqT.of (by assumption)); (case k2 => exact rfl)))
local macro_rules | `(tactic| walk_at "g") => `(tactic| repeat (first | (refine ⟨_, rfl, ?_⟩) | (refine ⟨_, _, rfl, rfl, ?_⟩) | (refine ⟨_, _, rfl, ?_⟩) | (refine ⟨rfl, ?_⟩) | walk_at "x"))


def NbP (N : RM) : Prop := (∀ r ∈ N.rings, r.num < N.drawn) ∧ ∀ s c n p, (n, p) ∈ N.ly s c → n < N.drawn
theorem NbP.newRing {N : RM} (h : NbP N) (s : Nat) (c : Str) (m : Int) : NbP (N.newRing s c m) := by
  refine ⟨fun r hr => ?_, fun s' c' n p hm => ?_⟩
  · show r.num < N.drawn + 1
    rcases List.mem_append.mp hr with hr | hr
    · have := h.1 r hr
      omega
    · rw [List.mem_singleton] at hr
      subst hr
      exact Nat.lt_succ_self _
  · show n < N.drawn + 1
    have hm : (n, p) ∈ (if s' = s ∧ c' = c then [(N.drawn, 0)] else N.ly s' c') := hm
    split at hm
    · rw [List.mem_singleton] at hm
      cases hm
      exact Nat.lt_succ_self _
    · have := h.2 _ _ _ _ hm
      omega
def RM.spotJ (M : RM) (NS : List Str) (per : Str → Int) : RM := NS.foldl (fun N c => N.newRing M.laid c (per c)) M.spot0
theorem RM.spotJ_snoc (M : RM) (NS : List Str) (per : Str → Int) (c : Str) : M.spotJ (NS ++ [c]) per = (M.spotJ NS per).newRing M.laid c (per c) := by
  unfold RM.spotJ
  rw [List.foldl_append]
  rfl
theorem NbP.spotJ {NS' : List Str} {per : Str → Int} {M : RM} (w : WF0 NS' per M) (NS : List Str) : NbP (M.spotJ NS per) ∧ (M.spotJ NS per).laid = M.laid + 1 ∧ (M.spotJ NS per).drawn = M.drawn + NS.length ∧ (M.spotJ NS per).rings.length = M.rings.length + NS.length ∧ ∀ r ∈ M.rings, r ∈ (M.spotJ NS per).rings := by
  have : ∀ (L : List Str) (N : RM), NbP N → NbP (L.foldl (fun N c => N.newRing M.laid c (per c)) N) ∧ (L.foldl (fun N c => N.newRing M.laid c (per c)) N).laid = N.laid ∧ (L.foldl (fun N c => N.newRing M.laid c (per c)) N).drawn = N.drawn + L.length ∧ (L.foldl (fun N c => N.newRing M.laid c (per c)) N).rings.length = N.rings.length + L.length ∧ ∀ r ∈ N.rings, r ∈ (L.foldl (fun N c => N.newRing M.laid c (per c)) N).rings := by
    intro L
    induction L with
    | nil => exact fun N h => ⟨h, rfl, rfl, rfl, fun _ q => q⟩
    | cons c L ih =>
      intro N h
      obtain ⟨a1, a2, a3, a4, a5⟩ := ih _ (h.newRing M.laid c (per c))
      refine ⟨a1, a2, ?_, ?_, fun r hr => a5 r (List.mem_append_left _ hr)⟩
      · rw [List.foldl_cons, a3]
        show N.drawn + 1 + L.length = N.drawn + (L.length + 1)
        omega
      · rw [List.foldl_cons, a4]
        show (N.rings ++ [_]).length + L.length = N.rings.length + (L.length + 1)
        rw [List.length_append, List.length_singleton]
        omega
  have h0 : NbP M.spot0 := ⟨w.nb, fun s c n p hm => by
    have hm : (n, p) ∈ (if s = M.laid then [] else M.ly s c) := hm
    split at hm
    · cases hm
    · obtain ⟨_, _, r, hr, e, _⟩ := w.ln _ _ _ _ hm
      have := w.nb r hr
      show n < M.drawn
      omega⟩
  exact this NS _ h0
section
variable {P : Program} [PM : PMain P] {w : World} {K : PySem.W.Frag} {mg : Str → Option Value} {base : Heap}
def spNewSpot (K : PySem.W.Frag) : Sp := fun vs H Q _ => ∃ (ks : List SI) (ps : List Str) (per : Str → Int) (t : Addr) (H0 : Hp) (ad : Sl → Addr) (M : RM), vs = [.ref (ad .obj)] ∧ RmK K (ks.map (·.1)) ps t H ad M ∧ WF0 (ks.map (·.1)) per M ∧ Nds ks ∧ Out (ks.map (·.1)) H0 H ad M ∧ TuAt (He.ga K "Turns") H0 t ks ∧ (∀ c ∈ ks, per c.1 = perOf ks c.1) ∧ ks.length ≤ 1000 ∧ M.laid ≤ 40000 ∧ M.spots.length ≤ 40000 ∧ M.rings.length ≤ 40000 ∧
  ∀ H' ad', RmK K (ks.map (·.1)) ps t H' ad' (M.newSpot (ks.map (·.1)) per) → Rch (ks.map (·.1)) H ad M H' ad' (M.newSpot (ks.map (·.1)) per) → Q (.int (M.laid : Int)) H'
theorem c_new_spot (T : Txt K mg) : Met P w K mg base 3 (He.ga K "RingMap") "new_spot" (spNewSpot K) [] := by
  have c_seat := @c_seat0 P PM w K mg base T
  have m_Ring := @m_Ring P PM w K mg base T
  have c_period_of := @c_period_of P w K mg base T
  refine metN T.m_RingMap__new_spot sc_RingMap_new_spot (fun vs H Q E h => ?_) (fun _ _ _ _ _ _ us hl => match us, hl with | [_], _ => rfl) (fun f cdv A outer s H vs Q E hr h => ?_)
  · obtain ⟨ks, ps, per, t, H0, ad, M, rfl, _⟩ := h
    rfl
  · obtain ⟨ks, ps, per, t, H0, ad, M, rfl, hM, w', nd, out, hT, hper, lk, ll, ls, lr, k⟩ := h
    refine ⟨_, (pss_cons (ps_set (i := 1) sc_RingMap_new_spot.nd rfl (Or.inl rfl) (pe_fldK K (pv 0) (by rfl)))
      (pss_cons (ps_fldaug (pv 0) pe_int in_add)
      (pss_cons (ps_expr (pe_bm PySem.F.plainAttrs_list PySem.F.slot_list_append PySem.F.type_list_append mt_append (pe_fldK K (pv 0) (by rfl)) (pa_cons (pv 1) pa_nil)))
      (pss_cons (ps_dput (hu_of hr) (pe_fldK K (pv 0) (by rfl)) (pv 1) pe_dnewK rfl)
      (pss_cons (ps_for PassesOwn.never rfl (pi_tup (pe_fld (pe_fld (pv 0) rfl) rfl)) (pg_name (i := 2) sc_RingMap_new_spot.nd rfl (Or.inl rfl)) (pss_cons (ps_set (i := 3) sc_RingMap_new_spot.nd rfl (Or.inl rfl) (pe_mkx m_Ring hr (by first | decide | omega) rfl passL (pa_cons (pe_fldK K (pv 0) (by rfl)) (pa_cons (pv 2) (pa_cons (pe_mtx c_period_of hr (by first | decide | omega) passL (pe_fldK K (pv 0) (by rfl)) (pa_cons (pv 2) pa_nil)) pa_nil)))))
      (pss_cons (ps_fldaug (pv 0) pe_int in_add)
      (pss_cons (ps_expr (pe_bm PySem.F.plainAttrs_list PySem.F.slot_list_append PySem.F.type_list_append mt_append (pe_fldK K (pv 0) (by rfl)) (pa_cons (pv 3) pa_nil)))
      (pss_cons (ps_dput (hu_of hr) (pe_dget (hu_of hr) (pe_fldK K (pv 0) (by rfl)) (pv 1) (fun _ _ => rfl)) (pv 2) (pe_lst pa_nil) rfl)
      (pss_one (ps_expr (pe_mtx c_seat hr (by first | decide | omega) passL (pv 0) (pa_cons (pv 1) (pa_cons (pv 3) (pa_cons pe_int pa_nil)))))))))))
      (pss_one (ps_ret (pv 1)))))))), ?_⟩
    obtain ⟨dm, hm⟩ := hM.obj
    walk_at "g"
    refine ⟨ad .obj, _, dm, _, _, rfl, hm, T.k_RingMap, T.a_RingMap__laid, rfl, ?_⟩
    walk_at "g"
    refine ⟨ad .obj, _, dm, _, _, rfl, hm, T.k_RingMap, T.a_RingMap__laid, rfl, ?_⟩
    walk_at "g"
    refine ⟨dm, _, hm, by show 7 < 1000; decide, ?_⟩
    have ob1 : upd H (ad .obj) (.ins (He.ga K "RingMap") dm (rmF t (ad .circ) (ad .spots) (ad .lying) (M.laid + 1) M.drawn (ad .spotof))) (ad .obj) = _ := upd_same
    have pf : putF "laid" (.int ((M.laid : Int) + 1)) (rmF t (ad .circ) (ad .spots) (ad .lying) M.laid M.drawn (ad .spotof)) = rmF t (ad .circ) (ad .spots) (ad .lying) (M.laid + 1) M.drawn (ad .spotof) := rfl
    have kp1 : ∀ b o, H b = some o → b ≠ ad .obj → upd H (ad .obj) (.ins (He.ga K "RingMap") dm (rmF t (ad .circ) (ad .spots) (ad .lying) (M.laid + 1) M.drawn (ad .spotof))) b = some o := fun b o e q => by rw [upd_ne q]; exact e
    rw [pf]
    generalize upd H (ad .obj) (.ins (He.ga K "RingMap") dm (rmF t (ad .circ) (ad .spots) (ad .lying) (M.laid + 1) M.drawn (ad .spotof))) = H1 at *
    walk_at "g"
    refine ⟨ad .obj, _, dm, _, _, rfl, ob1, T.k_RingMap, T.a_RingMap__spots, rfl, ?_⟩
    walk_at "g"
    have sp_o : ad .spots ≠ ad .obj := ne_of hM.spots hm (by intro z; cases z)
    have ly_o : ad .lying ≠ ad .obj := ne_of hM.lying hm (by intro z; cases z)
    have ly_s : ad .lying ≠ ad .spots := ne_of hM.lying hM.spots (by intro z; cases z)
    refine ⟨.inl ⟨rfl, _, SqL.of (kp1 _ _ hM.spots sp_o)⟩, ?_⟩
    walk_at "g"
    refine ⟨ad .spots, M.spots.map (fun s : Nat => V.int (s : Int)), _, rfl, rfl, kp1 _ _ hM.spots sp_o, small_app (m := 100000) (by rw [List.length_map]; omega) (Nat.le_refl _), ?_⟩
    have ob2 : upd H1 (ad .spots) (.lst ((M.spots.map fun s : Nat => V.int (s : Int)) ++ [.int (M.laid : Int)])) (ad .obj) = _ := (upd_ne sp_o.symm).trans ob1
    have sp2 : upd H1 (ad .spots) (.lst ((M.spots.map fun s : Nat => V.int (s : Int)) ++ [.int (M.laid : Int)])) (ad .spots) = _ := upd_same
    have kp2 : ∀ b o, H b = some o → b ≠ ad .obj → b ≠ ad .spots → upd H1 (ad .spots) (.lst ((M.spots.map fun s : Nat => V.int (s : Int)) ++ [.int (M.laid : Int)])) b = some o := fun b o e q1 q2 => by rw [upd_ne q2]; exact kp1 _ _ e q1
    generalize upd H1 (ad .spots) (.lst ((M.spots.map fun s : Nat => V.int (s : Int)) ++ [.int (M.laid : Int)])) = H2 at *
    walk_at "g"
    intro D nD
    walk_at "g"
    have oD : D ≠ ad .obj := fun q => by rw [q, ob2] at nD; cases nD
    have lD : D ≠ ad .lying := fun q => by rw [q, kp2 _ _ hM.lying ly_o ly_s] at nD; cases nD
    have sD : D ≠ ad .spots := fun q => by rw [q, sp2] at nD; cases nD
    have nD0 : H D = none := by
      cases q : H D with
      | none => rfl
      | some o => rw [kp2 _ _ q oD sD] at nD; cases nD
    have s3 := same_upd (o := .dK []) nD
    have hD3 : upd H2 D (.dK []) D = some (.dK []) := upd_same
    generalize upd H2 D (.dK []) = H3 at *
    refine ⟨ad .obj, _, dm, _, _, rfl, s3 _ _ ob2, T.k_RingMap, T.a_RingMap__lying, rfl, ?_⟩
    walk_at "g"
    have lyl : (lyK ad M.laid).length ≤ 40000 := by
      unfold lyK
      rw [List.length_map, List.length_range]
      exact ll
    refine ⟨ad .lying, _, rfl, DPut.k (k := (.inl (M.laid : Int) : Key)) (v := .ref D) (s3 _ _ (kp2 _ _ hM.lying ly_o ly_s)) (Nat.lt_of_le_of_lt lyl (by decide)), ?_⟩
    rw [Tr.putK_new (fun q hq e => by
      unfold lyK at hq
      obtain ⟨z, hz, rfl⟩ := List.mem_map.mp hq
      have := List.mem_range.mp hz
      have := Sum.inl.inj e
      omega)]
    have hP := hM.spot0 (H' := upd H3 (ad .lying) (.dK (lyK ad M.laid ++ [((.inl (M.laid : Int) : Key), V.ref D)]))) nD0 (fun b o e q1 q2 q3 => by rw [upd_ne q3]; exact s3 _ _ (kp2 _ _ e q1 q2)) ⟨dm, by rw [upd_ne ly_o.symm]; exact s3 _ _ ob2⟩ (by rw [upd_ne ly_s.symm]; exact s3 _ _ sp2) upd_same (by rw [upd_ne lD]; exact hD3)
    have kp4 : ∀ b o, H b = some o → (∀ x, Lv (ks.map (·.1)) M x → ad x ≠ b) → upd H3 (ad .lying) (.dK (lyK ad M.laid ++ [((.inl (M.laid : Int) : Key), V.ref D)])) b = some o := fun b o e q => by
      rw [upd_ne (q .lying trivial).symm]
      exact s3 _ _ (kp2 _ _ e (q .obj trivial).symm (q .spots trivial).symm)
    generalize upd H3 (ad .lying) (.dK (lyK ad M.laid ++ [((.inl (M.laid : Int) : Key), V.ref D)])) = H4 at *
    have hadO : ∀ x, Lv (ks.map (·.1)) M x → adS ad (.dict M.laid) D x = ad x := fun x hx => adS_ne fun e => by
      rw [e] at hx
      exact absurd hx (Nat.lt_irrefl _)
    obtain ⟨dt, p1, p2, p3, p4, ht0, _, hn0, _⟩ := id hT.ex
    have hTs : ∀ {H' : Hp}, (∀ b o, H b = some o → (∀ x, Lv (ks.map (·.1)) M x → ad x ≠ b) → H' b = some o) → Same H0 H' := fun {H'} kp b o e => kp _ _ (out.s _ _ e) fun x hx q => by
      have := out.n x hx
      rw [q, e] at this
      cases this
    have hT4 : Same H0 H4 := hTs kp4
    have ht := hT4 _ _ ht0
    have hn := hT4 _ _ hn0
    obtain ⟨dm4, hm4⟩ := hP.obj
    rw [hadO .obj trivial] at hm4
    walk_at "g"
    refine ⟨ad .obj, _, dm4, _, _, rfl, hm4, T.k_RingMap, T.a_RingMap__turns, rfl, ?_⟩
    walk_at "g"
    refine ⟨t, _, dt, _, _, rfl, ht, T.k_Turns, T.a_Turns__names, rfl, ?_⟩
    walk_at "g"
    refine ⟨⟨_, SqT.of hn⟩, ?_⟩
    refine for_it (walk_tup (K := K) (xs := ks.map fun c => V.str c.1)) (fun j σ H' => ∃ (v2 v3 : Option V) (ad1 : Sl → Addr), σ = [some (.ref (ad .obj)), some (.int (M.laid : Int)), v2, v3] ∧
      RmP (He.ga K "RingMap") (He.ga K "Ring") (fun s => if s = M.laid then (ks.map (·.1)).take j else ks.map (·.1)) ps t H' ad1 (M.spotJ ((ks.map (·.1)).take j) per) ∧
      (∀ b o, H b = some o → (∀ x, Lv (ks.map (·.1)) M x → ad x ≠ b) → H' b = some o) ∧ (∀ x, Lv (ks.map (·.1)) M x → ad1 x = ad x) ∧ (∀ n, n < M.drawn → ad1 (.ring n) = ad (.ring n)) ∧
      ∀ x, LvP (fun s => if s = M.laid then (ks.map (·.1)).take j else ks.map (·.1)) (M.spotJ ((ks.map (·.1)).take j) per) x → (∃ y, Lv (ks.map (·.1)) M y ∧ ad y = ad1 x) ∨ H (ad1 x) = none) ?_ ?_ ?_ ?_
    · refine ⟨_, _, _, rfl, hP, kp4, hadO, fun n _ => adS_ne (by intro z; cases z), fun x hx => ?_⟩
      rcases lv_spot0 x hx with hx | rfl
      · exact .inl ⟨x, hx, (hadO x hx).symm⟩
      · exact .inr (by rw [adS_same]; exact nD0)
    · rintro j σ H' _ ⟨_, _, _, rfl, _, kp, _⟩
      exact SqT.of (hTs kp _ _ hn0)
    · rintro j y σ H5 H5' hj ⟨v2, v3, ad1, rfl, hP5, kp5, had5, rg5, nw5⟩ ⟨rfl, hy⟩
      rw [List.getElem?_map] at hy
      obtain ⟨c, hc, rfl⟩ := Option.map_eq_some_iff.mp hy
      have hcN : (ks.map (·.1))[j]? = some c.1 := by rw [List.getElem?_map, hc]; rfl
      obtain ⟨nb5, l5, d5, r5, old5⟩ := NbP.spotJ (per := per) w' ((ks.map (·.1)).take j)
      have hTu5 : Same H0 H5' := hTs kp5
      obtain ⟨dm5, hm5⟩ := hP5.obj
      rw [had5 .obj trivial] at hm5
      have hc' : c.1 ∉ (ks.map (·.1)).take j := by
        have ndN : (ks.map (·.1)).Nodup := nd
        intro hmem
        obtain ⟨i, hi, e⟩ := List.getElem_of_mem hmem
        rw [List.length_take] at hi
        rw [List.getElem_take] at e
        obtain ⟨hj', ej⟩ := List.getElem?_eq_some_iff.mp hcN
        have := (List.pairwise_iff_getElem.mp ndN) i j (by omega) hj' (by omega)
        exact this (by rw [e, ej])
      walk_at "g"
      refine ⟨ad .obj, _, dm5, _, _, rfl, hm5, T.k_RingMap, T.a_RingMap__drawn, rfl, ?_⟩
      walk_at "g"
      refine ⟨ad .obj, _, dm5, _, _, rfl, hm5, T.k_RingMap, T.a_RingMap__turns, rfl, ?_⟩
      walk_at "g"
      refine ⟨t, dt, _, rfl, hTu5 _ _ ht0, rfl, ?_⟩
      walk_at "g"
      refine ⟨t, c.1, ks, rfl, hT.same hTu5, ⟨c, mem_of_at hc, rfl⟩, ?_⟩
      walk_at "g"
      intro rg dg nrg ndg nx
      have eo := had5 .obj trivial
      refine ⟨rg, dg, _, c.1, perOf ks c.1, rfl, upd_same, fun H6 se kp6 nse hrg6 hse6 => ⟨rfl, ?_⟩⟩
      have s6 : Same H5' H6 := fun b o e => kp6 b o (by rw [upd_ne (ne_of_none e nrg), upd_ne (ne_of_none e ndg)]; exact e) (ne_of_none e nrg)
      have ser : se ≠ rg := fun q => by rw [q, upd_same] at nse; cases nse
      have nse5 : H5' se = none := by
        rw [upd_ne ser] at nse
        by_cases q : se = dg
        · rw [q, upd_same] at nse
          cases nse
        · rw [upd_ne q] at nse
          exact nse
      have hLN : M.laid < (M.spotJ ((ks.map (·.1)).take j) per).laid := by omega
      have hci := hP5.circ
      have hly := hP5.lying
      have hdi := hP5.dict _ hLN
      rw [if_pos rfl] at hdi
      have eN1 : M.spotJ ((ks.map (·.1)).take (j + 1)) per = (M.spotJ ((ks.map (·.1)).take j) per).newRing M.laid c.1 (per c.1) := by
        rw [take_snoc hcN]
        exact RM.spotJ_snoc ..
      have rlen : (M.spotJ ((ks.map (·.1)).take j) per).rings.length ≤ 50000 := by
        rw [r5, List.length_take, List.length_map]
        omega
      generalize M.spotJ ((ks.map (·.1)).take j) per = N at *
      walk_at "g"
      refine ⟨ad .obj, _, dm5, _, _, rfl, s6 _ _ hm5, T.k_RingMap, T.a_RingMap__drawn, rfl, ?_⟩
      walk_at "g"
      refine ⟨dm5, _, s6 _ _ hm5, by show 7 < 1000; decide, ?_⟩
      have pf7 : putF "drawn" (.int ((N.drawn : Int) + 1)) (rmF t (ad1 .circ) (ad1 .spots) (ad1 .lying) N.laid N.drawn (ad1 .spotof)) = rmF t (ad1 .circ) (ad1 .spots) (ad1 .lying) N.laid (N.drawn + 1) (ad1 .spotof) := rfl
      rw [pf7]
      have ob7 : upd H6 (ad .obj) (.ins (He.ga K "RingMap") dm5 (rmF t (ad1 .circ) (ad1 .spots) (ad1 .lying) N.laid (N.drawn + 1) (ad1 .spotof))) (ad .obj) = _ := upd_same
      have kp7 : ∀ b o, H6 b = some o → b ≠ ad .obj → upd H6 (ad .obj) (.ins (He.ga K "RingMap") dm5 (rmF t (ad1 .circ) (ad1 .spots) (ad1 .lying) N.laid (N.drawn + 1) (ad1 .spotof))) b = some o := fun b o e q => by rw [upd_ne q]; exact e
      generalize upd H6 (ad .obj) (.ins (He.ga K "RingMap") dm5 (rmF t (ad1 .circ) (ad1 .spots) (ad1 .lying) N.laid (N.drawn + 1) (ad1 .spotof))) = H7 at *
      have co : ad1 .circ ≠ ad .obj := ne_of hci hm5 (by intro z; cases z)
      have lo : ad1 .lying ≠ ad .obj := ne_of hly hm5 (by intro z; cases z)
      have dO : ad1 (.dict M.laid) ≠ ad .obj := ne_of hdi hm5 (by intro z; cases z)
      have lc' : ad1 .lying ≠ ad1 .circ := ne_of hly hci (by intro z; cases z)
      have dc' : ad1 (.dict M.laid) ≠ ad1 .circ := ne_of hdi hci (by intro z; cases z)
      have ro : rg ≠ ad .obj := fun q => by rw [q, hm5] at nrg; cases nrg
      have rc' : rg ≠ ad1 .circ := fun q => by rw [q, hci] at nrg; cases nrg
      have so : se ≠ ad .obj := fun q => by rw [q, hm5] at nse5; cases nse5
      have sc' : se ≠ ad1 .circ := fun q => by rw [q, hci] at nse5; cases nse5
      have sdi : se ≠ ad1 (.dict M.laid) := fun q => by rw [q, hdi] at nse5; cases nse5
      have rdi : rg ≠ ad1 (.dict M.laid) := fun q => by rw [q, hdi] at nrg; cases nrg
      have ldi : ad1 .lying ≠ ad1 (.dict M.laid) := fun q => by
        have := hP5.inj .lying (.dict M.laid) trivial hLN q
        cases this
      walk_at "g"
      refine ⟨ad .obj, _, dm5, _, _, rfl, ob7, T.k_RingMap, T.a_RingMap__circles, rfl, ?_⟩
      walk_at "g"
      refine ⟨.inl ⟨rfl, _, SqL.of (kp7 _ _ (s6 _ _ hci) co)⟩, ?_⟩
      walk_at "g"
      refine ⟨ad1 .circ, N.rings.map (fun r => V.ref (ad1 (.ring r.num))), _, rfl, rfl, kp7 _ _ (s6 _ _ hci) co, small_app (m := 100000) (by rw [List.length_map]; omega) (Nat.le_refl _), ?_⟩
      have ci8 : upd H7 (ad1 .circ) (.lst ((N.rings.map fun r => V.ref (ad1 (.ring r.num))) ++ [.ref rg])) (ad1 .circ) = _ := upd_same
      have kp8 : ∀ b o, H6 b = some o → b ≠ ad .obj → b ≠ ad1 .circ → upd H7 (ad1 .circ) (.lst ((N.rings.map fun r => V.ref (ad1 (.ring r.num))) ++ [.ref rg])) b = some o := fun b o e q1 q2 => by rw [upd_ne q2]; exact kp7 _ _ e q1
      have ob8 : upd H7 (ad1 .circ) (.lst ((N.rings.map fun r => V.ref (ad1 (.ring r.num))) ++ [.ref rg])) (ad .obj) = _ := (upd_ne co.symm).trans ob7
      generalize upd H7 (ad1 .circ) (.lst ((N.rings.map fun r => V.ref (ad1 (.ring r.num))) ++ [.ref rg])) = H8 at *
      walk_at "g"
      refine ⟨by show 0 ≤ sizeLine; decide, fun l nl => ?_⟩
      walk_at "g"
      have s9 := same_upd (o := .lst []) nl
      have hl9 : upd H8 l (.lst []) l = some (.lst []) := upd_same
      generalize upd H8 l (.lst []) = H9 at *
      refine ⟨ad .obj, _, dm5, _, _, rfl, s9 _ _ ob8, T.k_RingMap, T.a_RingMap__lying, rfl, ?_⟩
      walk_at "g"
      refine ⟨ad1 .lying, .ref (ad1 (.dict M.laid)), rfl, by
        have := DGet.k (k := (.inl (M.laid : Int) : Key)) (s9 _ _ (kp8 _ _ (s6 _ _ hly) lo lc'))
        rw [lyK_at hLN] at this
        exact this, ?_⟩
      walk_at "g"
      have hdi9 := s9 _ _ (kp8 _ _ (s6 _ _ hdi) dO dc')
      have dcl : (dcK ad1 ((ks.map (·.1)).take j) M.laid).length ≤ 1000 := by
        unfold dcK
        rw [List.length_map, List.length_take, List.length_map]
        omega
      refine ⟨ad1 (.dict M.laid), _, rfl, DPut.k (k := (.inr c.1 : Key)) (v := .ref l) hdi9 (Nat.lt_of_le_of_lt dcl (by decide)), ?_⟩
      rw [Tr.putK_new (fun q hq e => by
        unfold dcK at hq
        obtain ⟨z, hz, rfl⟩ := List.mem_map.mp hq
        have := Sum.inr.inj e
        rw [this] at hz
        exact hc' hz)]
      have di10 : upd H9 (ad1 (.dict M.laid)) (.dK (dcK ad1 ((ks.map (·.1)).take j) M.laid ++ [((.inr c.1 : Key), V.ref l)])) (ad1 (.dict M.laid)) = _ := upd_same
      have kp10 : ∀ b o, H9 b = some o → b ≠ ad1 (.dict M.laid) → upd H9 (ad1 (.dict M.laid)) (.dK (dcK ad1 ((ks.map (·.1)).take j) M.laid ++ [((.inr c.1 : Key), V.ref l)])) b = some o := fun b o e q => by rw [upd_ne q]; exact e
      generalize upd H9 (ad1 (.dict M.laid)) (.dK (dcK ad1 ((ks.map (·.1)).take j) M.laid ++ [((.inr c.1 : Key), V.ref l)])) = H10 at *
      have ob10 := kp10 _ _ (s9 _ _ ob8) dO.symm
      have rg10 := kp10 _ _ (s9 _ _ (kp8 _ _ hrg6 ro rc')) rdi
      have se10 := kp10 _ _ (s9 _ _ (kp8 _ _ hse6 so sc')) sdi
      have ly10 := kp10 _ _ (s9 _ _ (kp8 _ _ (s6 _ _ hly) lo lc')) ldi
      have ldi' : l ≠ ad1 (.dict M.laid) := fun q => by rw [q, kp8 _ _ (s6 _ _ hdi) dO dc'] at nl; cases nl
      have l10 := kp10 _ _ hl9 ldi'
      have sel : se ≠ l := fun q => by rw [← q, kp8 _ _ hse6 so sc'] at nl; cases nl
      have rgl : rg ≠ l := fun q => by rw [← q, kp8 _ _ hrg6 ro rc'] at nl; cases nl
      have nl5 : H5' l = none := by
        cases q : H5' l with
        | none => rfl
        | some o =>
          by_cases q1 : l = ad .obj
          · rw [q1, ob8] at nl; cases nl
          · by_cases q2 : l = ad1 .circ
            · rw [q2, ci8] at nl; cases nl
            · rw [kp8 _ _ (s6 _ _ q) q1 q2] at nl; cases nl
      walk_at "g"
      refine ⟨ad .obj, dm5, _, rfl, ob10, rfl, ?_⟩
      walk_at "g"
      refine ⟨ad .obj, rg, dm5, dg, t, ad1 .circ, ad1 .spots, ad1 .lying, ad1 .spotof, ad1 (.dict M.laid), se, l, _, _, M.laid, _, c.1, 0, _, lyK ad1 N.laid, _, [], [], rfl, ob10, rg10, se10, ly10, lyK_at hLN, di10, ?_, l10, sel, Nat.zero_le _, Nat.zero_le _, fun H11 u1 u2 kp11 nu1 nu2 hu1 hu2 se11 l11 => ?_⟩
      · have := valV_put (dcK ad1 ((ks.map (·.1)).take j) M.laid) (.inr c.1 : Key) (.inr c.1 : Key) (.ref l)
        rw [if_pos rfl, Tr.putK_new (fun q hq e => by
          unfold dcK at hq
          obtain ⟨z, hz, rfl⟩ := List.mem_map.mp hq
          have := Sum.inr.inj e
          rw [this] at hz
          exact hc' hz)] at this
        exact this
      walk_at "g"
      have kpA : ∀ b o, H5' b = some o → b ≠ ad .obj → b ≠ ad1 .circ → b ≠ ad1 (.dict M.laid) → H11 b = some o := fun b o e q1 q2 q3 =>
        kp11 _ _ (kp10 _ _ (s9 _ _ (kp8 _ _ (s6 _ _ e) q1 q2)) q3) (ne_of_none e nse5) (ne_of_none e nl5)
      have nnH : ∀ u, H5' u = none → H u = none := fun u e => by
        cases q : H u with
        | none => rfl
        | some o =>
          by_cases own : ∃ x, Lv (ks.map (·.1)) M x ∧ ad x = u
          · obtain ⟨x, hx, rfl⟩ := own
            have hx5 : H5' (ad1 x) = none := by rw [had5 x hx]; exact e
            have hxP : ∃ o, H5' (ad1 x) = some o := by
              refine hP5.some_at ?_
              match x, hx with
              | .obj, _ => trivial
              | .circ, _ => trivial
              | .spots, _ => trivial
              | .lying, _ => trivial
              | .spotof, _ => trivial
              | .ring n, ⟨r, hr, e⟩ => exact ⟨r, old5 r hr, e⟩
              | .seats n, ⟨r, hr, e⟩ => exact ⟨r, old5 r hr, e⟩
              | .dict s, hs => exact Nat.lt_trans hs hLN
              | .lst s d, hs =>
                refine ⟨Nat.lt_trans hs.1 hLN, ?_⟩
                show d ∈ (if s = M.laid then _ else _)
                rw [if_neg (Nat.ne_of_lt hs.1)]
                exact hs.2
            obtain ⟨o2, e2⟩ := hxP
            rw [hx5] at e2
            cases e2
          · rw [kp5 _ _ q fun x hx z => own ⟨x, hx, z⟩] at e
            cases e
      have nmE : (fun s => if s = M.laid then (if M.laid = M.laid then (ks.map (·.1)).take j else ks.map (·.1)) ++ [c.1] else if s = M.laid then (ks.map (·.1)).take j else ks.map (·.1)) = fun s => if s = M.laid then (ks.map (·.1)).take (j + 1) else ks.map (·.1) := by
        funext s
        by_cases q : s = M.laid
        · rw [if_pos q, if_pos rfl, if_pos q, take_snoc hcN]
        · rw [if_neg q, if_neg q, if_neg q]
      have hNd : M.drawn ≤ N.drawn := by omega
      rw [eN1, ← nmE]
      have new := hP5.newRing (H' := H11) (m := per c.1) (u1 := u1) (u2 := u2) nb5.1 nb5.2 hLN (by rw [if_pos rfl]; exact hc') nrg nse5 nl5 ser.symm rgl sel (by rw [eo]; exact kpA)
        ⟨dm5, by rw [eo]; exact kp11 _ _ ob10 so.symm (fun q => by rw [← q, ob8] at nl; cases nl)⟩
        (kp11 _ _ (kp10 _ _ (s9 _ _ ci8) dc'.symm) sc'.symm (fun q => by rw [← q, ci8] at nl; cases nl))
        (by rw [if_pos rfl]; exact kp11 _ _ di10 sdi.symm ldi'.symm) ⟨dg, by rw [hper c (mem_of_at hc)]; exact kp11 _ _ rg10 ser.symm rgl⟩ se11 hu1 l11 hu2
      refine ⟨_, _, _, rfl, new, fun b o e q => ?_, fun x hx => ?_, fun n hn => ?_, fun x hx => ?_⟩
      · refine kpA _ _ (kp5 b o e q) (q .obj trivial).symm (by rw [had5 .circ trivial]; exact (q .circ trivial).symm) fun z => ?_
        rcases nw5 (.dict M.laid) hLN with ⟨y, hy, ey⟩ | hn
        · exact q y hy (ey.trans z.symm)
        · rw [← z, e] at hn
          cases hn
      · rw [adN_ne, had5 x hx]
        · rintro rfl
          obtain ⟨r, hr, e⟩ := hx
          have := w'.nb r hr
          omega
        · rintro rfl
          obtain ⟨r, hr, e⟩ := hx
          have := w'.nb r hr
          omega
        · rintro rfl
          exact absurd hx.1 (Nat.lt_irrefl _)
      · rw [adN_ne (fun z => by have := Sl.ring.inj z; omega) (by intro z; cases z) (by intro z; cases z)]
        exact rg5 n hn
      · rcases lv_newRing x hx with hx | rfl | rfl | rfl
        · rw [adN_ne]
          · exact nw5 x hx
          · rintro rfl
            obtain ⟨r, hr, e⟩ := hx
            have := nb5.1 r hr
            omega
          · rintro rfl
            obtain ⟨r, hr, e⟩ := hx
            have := nb5.1 r hr
            omega
          · rintro rfl
            have h2 := hx.2
            dsimp only at h2
            rw [if_pos rfl] at h2
            exact hc' h2
        · exact .inr (by rw [show adN ad1 N.drawn M.laid c.1 rg se l (.ring N.drawn) = rg from if_pos rfl]; exact nnH _ nrg)
        · refine .inr ?_
          unfold adN
          rw [if_neg (by intro z; cases z), if_pos rfl]
          exact nnH _ nse5
        · refine .inr ?_
          unfold adN
          rw [if_neg (by intro z; cases z), if_neg (by intro z; cases z), if_pos rfl]
          exact nnH _ nl5
    · rintro σ H5 ⟨v2, v3, ad1, rfl, hP5, kp5, had5, rg5, nw5⟩
      rw [List.length_map, ← List.length_map (f := (·.1)), List.take_length] at hP5 nw5
      obtain ⟨_, l5, d5, _, _⟩ := NbP.spotJ (per := per) w' (ks.map (·.1))
      have fin := hP5.toAt (NS := ks.map (·.1)) fun s _ => by split <;> rfl
      walk_at "g"
      exact k H5 ad1 fin ⟨kp5, fun x hx => nw5 x ((LvP.to (fun s _ => by split <;> rfl) x).mpr hx), had5 .obj trivial, rg5, by show M.drawn ≤ (M.spotJ (ks.map (·.1)) per).drawn; rw [d5]; omega⟩
end
end Tr

/-! # RingMap.lay. -/
namespace Tr
open PySem L2 TL
/-- steps of a reading that are plain -/
local macro_rules | `(tactic| walk_at "x") => `(tactic| (refine' ⟨_, _, _, _, rfl, rfl, ?k1, ?k2, ?_⟩; (case k1 => exact SqT.of (by assumption)); (case k2 => exact rfl)))
local macro_rules | `(tactic| walk_at "g") => `(tactic| repeat (first | (refine ⟨_, rfl, ?_⟩) | (refine ⟨_, _, rfl, rfl, ?_⟩) | (refine ⟨_, _, rfl, ?_⟩) | (refine ⟨rfl, ?_⟩) | walk_at "x"))


structure LayPt (NS : List Str) (per : Str → Int) (M : RM) (s : Nat) (c : Str) (e : Int) (n : Nat) (p : Int) (o : Nat) : Prop where
  h : NwSp NS per M (M.newSpot NS per)
  o2 : (M.newSpot NS per).ly M.laid c = [(o, 0)]
  o3 : (M.newSpot NS per).ring? o = some ⟨o, c, per c, [(M.laid, 0)]⟩
  eN : M.lay NS per s c e = (((M.newSpot NS per).unseat M.laid o c).drop o).seat M.laid n c (p + e)
  w1 : WF0 NS per ((M.newSpot NS per).unseat M.laid o c)
  w2 : WF0 NS per (((M.newSpot NS per).unseat M.laid o c).drop o)
  rn : ∃ r, (((M.newSpot NS per).unseat M.laid o c).drop o).ring? n = some r ∧ r.turn = c
theorem lay_pt {NS : List Str} {per : Str → Int} {M : RM} (nd : NS.Nodup) (hp : ∀ c ∈ NS, 0 ≤ per c) (w : WF0 NS per M) {s : Nat} {c : Str} (e : Int) (hs : s ∈ M.spots) (hc : c ∈ NS) {n0 : Nat} {p0 : Int} {l0 : List (Nat × Int)} (hl0 : M.ly s c = (n0, p0) :: l0) : ∃ o, LayPt NS per M s c e n0 p0 o := by
  have h := newSpot_ok nd hp w
  obtain ⟨o, o1, o2, o3⟩ := h.new c hc
  obtain ⟨n, p, e1, e2⟩ : ∃ n p, M.on c s n p ∧ (M.ly s c).headD (0, 0) = (n, p) := by
    rw [hl0]
    exact ⟨n0, p0, by show (n0, p0) ∈ M.ly s c; rw [hl0]; exact List.mem_cons_self, rfl⟩
  obtain ⟨rfl, rfl⟩ : n = n0 ∧ p = p0 := by
    rw [hl0] at e2
    exact ⟨(congrArg Prod.fst e2).symm, (congrArg Prod.snd e2).symm⟩
  have nl := w.n_lt e1
  have eo : ((M.newSpot NS per).ly M.laid c).headD (0, 0) = (o, 0) := by rw [o2]; rfl
  have eN : M.lay NS per s c e = (((M.newSpot NS per).unseat M.laid o c).drop o).seat M.laid n c (p + e) := by
    unfold RM.lay
    rw [eo, e2]
  have hl : s ≠ M.laid := by have := w.sb s hs; omega
  obtain ⟨K, eK⟩ : ∃ K, K = M.newSpot NS per := ⟨_, rfl⟩
  rw [← eK] at h o2 o3 eo eN
  have w1 := h.w.unseat (s := M.laid) o3 rfl
  have l1 : ∀ t d, (K.unseat M.laid o c).ly t d = if t = M.laid ∧ d = c then [] else K.ly t d := fun t d => by
    rw [ly_unseat]
    split
    · rename_i q
      rw [q.1, q.2, o2, List.filter_cons, if_neg (by rw [decide_eq_true_eq]; exact fun z => z rfl)]
      rfl
    · rfl
  have no : ∀ t d q, ¬ (K.unseat M.laid o c).on d t o q := fun t d q k => by
    have k : (o, q) ∈ (K.unseat M.laid o c).ly t d := k
    rw [l1] at k
    split at k
    · cases k
    · rename_i z
      by_cases ht : t = M.laid
      · subst ht
        by_cases hd : d ∈ NS
        · obtain ⟨m, m1, m2, m3⟩ := h.new d hd
          rw [m2] at k
          have em : o = m := congrArg Prod.fst (List.mem_singleton.mp k)
          rw [← em, o3] at m3
          exact z ⟨rfl, (congrArg Rg.turn (Option.some.inj m3)).symm⟩
        · rw [h.no d hd] at k
          cases k
      · rw [h.ly t d ht] at k
        have := w.n_lt (c := d) (s := t) (n := o) (p := q) k
        omega
  have w2 := w1.drop no
  have rn : ∃ r, ((K.unseat M.laid o c).drop o).ring? n = some r ∧ r.turn = c := by
    obtain ⟨r, h1, h2, _⟩ := w.on_ring e1
    rw [RM.ring_drop _ _ (by omega), RM.ring_unseat, h.ring n nl, h1]
    exact ⟨_, rfl, by
      show (if r.num = o then _ else r : Rg).turn = c
      split <;> exact h2⟩
  subst eK
  exact ⟨o, ⟨h, o2, o3, eN, w1, w2, rn⟩⟩
section
variable {P : Program} [PM : PMain P] {w : World} {K : PySem.W.Frag} {mg : Str → Option Value} {base : Heap}
def spLay (K : PySem.W.Frag) : Sp := fun vs H Q _ => ∃ (ks : List SI) (ps : List Str) (per : Str → Int) (t : Addr) (H0 : Hp) (ad : Sl → Addr) (M : RM) (s : Nat) (u : Addr) (c : SI), vs = [.ref (ad .obj), .int (s : Int), .ref u] ∧ SrT H u c ∧ RmK K (ks.map (·.1)) ps t H ad M ∧ WF0 (ks.map (·.1)) per M ∧ Fl (ks.map (·.1)) M ∧ Nds ks ∧ Out (ks.map (·.1)) H0 H ad M ∧ TuAt (He.ga K "Turns") H0 t ks ∧ (∀ c ∈ ks, per c.1 = perOf ks c.1 ∧ 0 ≤ per c.1) ∧ ks.length ≤ 1000 ∧ M.laid ≤ 20000 ∧ M.spots.length ≤ 20000 ∧ M.rings.length ≤ 20000 ∧ tot (ks.map (·.1)) M ≤ 20000 ∧ s ∈ M.spots ∧ c.1 ∈ ks.map (·.1) ∧
  ∀ H' ad', RmK K (ks.map (·.1)) ps t H' ad' (M.lay (ks.map (·.1)) per s c.1 c.2) → Rch (ks.map (·.1)) H ad M H' ad' (M.lay (ks.map (·.1)) per s c.1 c.2) → Q (.int (M.laid : Int)) H'
theorem c_lay (T : Txt K mg) : Met P w K mg base 4 (He.ga K "RingMap") "lay" (spLay K) [] := by
  have c_seat := @c_seat P PM w K mg base T
  have c_unseat := @c_unseat P PM w K mg base T
  have c_drop_ring := @c_drop_ring P PM w K mg base T
  have c_new_spot := @c_new_spot P PM w K mg base T
  refine metN T.m_RingMap__lay sc_RingMap_lay (fun vs H Q E h => ?_) (fun _ _ _ _ _ _ us hl => match us, hl with | [_, _, _], _ => rfl) (fun f cdv A outer s H vs Q E hr h => ?_)
  · obtain ⟨ks, ps, per, t, H0, ad, M, s, u, c, rfl, _⟩ := h
    rfl
  · obtain ⟨ks, ps, per, t, H0, ad, M, s', u, c, rfl, hu, hM, w', fl, nd, out, hT, hper, lk, ll, ls, lr, lt, hs, hc, k⟩ := h
    refine ⟨_, (pss_cons (ps_asg (pv 2) (pg_tup rfl (pgs_cons (pg_name (i := 3) sc_RingMap_lay.nd rfl (Or.inl rfl)) (pgs_cons (pg_name (i := 4) sc_RingMap_lay.nd rfl (Or.inl rfl)) pgs_nil))))
      (pss_cons (ps_asg (pe_ix ix_list (pe_dget (hu_of hr) (pe_dget (hu_of hr) (pe_fldK K (pv 0) (by rfl)) (pv 1) (fun _ _ => rfl)) (pv 3) (fun _ _ => rfl)) pe_int (fun _ _ => rfl)) (pg_tup rfl (pgs_cons (pg_name (i := 5) sc_RingMap_lay.nd rfl (Or.inl rfl)) (pgs_cons (pg_name (i := 6) sc_RingMap_lay.nd rfl (Or.inl rfl)) pgs_nil))))
      (pss_cons (ps_set (i := 7) sc_RingMap_lay.nd rfl (Or.inl rfl) (pe_mtx0 c_new_spot hr (by first | decide | omega) passL (pv 0)))
      (pss_cons (ps_set (i := 8) sc_RingMap_lay.nd rfl (Or.inl rfl) (pe_ix ix_tup (pe_ix ix_list (pe_dget (hu_of hr) (pe_dget (hu_of hr) (pe_fldK K (pv 0) (by rfl)) (pv 7) (fun _ _ => rfl)) (pv 3) (fun _ _ => rfl)) pe_int (fun _ _ => rfl)) pe_int (fun _ _ => rfl)))
      (pss_cons (ps_expr (pe_mtx c_unseat hr (by first | decide | omega) passL (pv 0) (pa_cons (pv 7) (pa_cons (pv 8) pa_nil))))
      (pss_cons (ps_expr (pe_mtx c_drop_ring hr (by first | decide | omega) passL (pv 0) (pa_cons (pv 8) pa_nil)))
      (pss_cons (ps_expr (pe_mtx c_seat hr (by first | decide | omega) passL (pv 0) (pa_cons (pv 7) (pa_cons (pv 5) (pa_cons (pe_op op_add (pv 6) (pv 4)) pa_nil)))))
      (pss_one (ps_ret (pv 7)))))))))), ?_⟩
    obtain ⟨dm, hm⟩ := hM.obj
    have hla := w'.sb s' hs
    obtain ⟨ws, hws, pws⟩ := hM.lst s' c.1 hla hc
    cases hl : M.ly s' c.1 with
    | nil => exact (fl s' hs c.1 hc hl).elim
    | cons x l =>
      obtain ⟨n, p⟩ := x
      obtain ⟨o, L⟩ := lay_pt (per := per) nd (fun d hd => by
        obtain ⟨c', h1, rfl⟩ := List.mem_map.mp hd
        exact (hper c' h1).2) w' c.2 hs hc hl
      rw [hl] at pws
      cases pws with
      | @cons v _ us _ hv pus =>
        walk_at "g"
        refine ⟨u, _, rfl, SqT.of hu, rfl, _, _, rfl, _, _, rfl, rfl, ?_⟩
        walk_at "g"
        refine ⟨ad .obj, _, dm, _, _, rfl, hm, T.k_RingMap, T.a_RingMap__lying, rfl, ?_⟩
        walk_at "g"
        refine ⟨ad .lying, .ref (ad (.dict s')), rfl, by
          have := DGet.k (k := (.inl (s' : Int) : Key)) hM.lying
          rw [lyK_at hla] at this
          exact this, ?_⟩
        walk_at "g"
        refine ⟨ad (.dict s'), .ref (ad (.lst s' c.1)), rfl, by
          have := DGet.k (k := (.inr c.1 : Key)) (hM.dict s' hla)
          rw [dcK_at hc] at this
          exact this, ?_⟩
        walk_at "g"
        refine ⟨ad (.lst s' c.1), _, 0, .ref v, rfl, rfl, SqL.of hws, by show atI _ ((0 : Nat) : Int) = _; exact atI_nat rfl, ?_⟩
        refine ⟨v, _, rfl, SqT.of hv, rfl, _, _, rfl, _, _, rfl, rfl, ?_⟩
        walk_at "g"
        refine ⟨ad .obj, dm, _, rfl, hm, rfl, ?_⟩
        walk_at "g"
        refine ⟨ks, ps, per, t, H0, ad, M, rfl, hM, w', nd, out, hT, fun d hd => (hper d hd).1, lk, by omega, by omega, by omega, fun H2 ad2 hM2 r2 => ?_⟩
        obtain ⟨dm2, hm2⟩ := hM2.obj
        have hl2 : M.laid < (M.newSpot (ks.map (·.1)) per).laid := by rw [L.h.laid]; exact Nat.lt_succ_self _
        obtain ⟨ws2, hws2, pws2⟩ := hM2.lst M.laid c.1 hl2 hc
        rw [L.o2] at pws2
        rw [r2.ob] at hm2
        obtain ⟨om, on⟩ := ring_mem L.o3
        have nlt : n < M.drawn := w'.n_lt (c := c.1) (s := s') (n := n) (p := p) (by show (n, p) ∈ M.ly s' c.1; rw [hl]; exact List.mem_cons_self)
        cases pws2 with
        | @cons v2 _ us2 _ hv2 pus2 =>
          cases pus2
          walk_at "g"
          refine ⟨ad .obj, _, dm2, _, _, rfl, hm2, T.k_RingMap, T.a_RingMap__lying, rfl, ?_⟩
          walk_at "g"
          refine ⟨ad2 .lying, .ref (ad2 (.dict M.laid)), rfl, by
            have := DGet.k (k := (.inl (M.laid : Int) : Key)) hM2.lying
            rw [lyK_at hl2] at this
            exact this, ?_⟩
          walk_at "g"
          refine ⟨ad2 (.dict M.laid), .ref (ad2 (.lst M.laid c.1)), rfl, by
            have := DGet.k (k := (.inr c.1 : Key)) (hM2.dict M.laid hl2)
            rw [dcK_at hc] at this
            exact this, ?_⟩
          walk_at "g"
          refine ⟨ad2 (.lst M.laid c.1), _, 0, .ref v2, rfl, rfl, SqL.of hws2, by show atI _ ((0 : Nat) : Int) = _; exact atI_nat rfl, ?_⟩
          walk_at "g"
          refine ⟨ad .obj, dm2, _, rfl, hm2, rfl, ?_⟩
          walk_at "g"
          refine ⟨ks.map (·.1), ps, per, t, ad2, _, M.laid, o, c.1, _, (by rw [r2.ob]; rfl), hM2, L.h.w, L.o3, rfl, hl2, hc, by rw [List.length_map]; exact lk, by show 1 ≤ 50000; decide, by rw [L.o2]; show 1 ≤ 50000; decide, fun H3 ad3 hM3 r3 => ?_⟩
          have od : o < (M.newSpot (ks.map (·.1)) per).drawn := L.h.w.nb _ om
          have nd2 : n < (M.newSpot (ks.map (·.1)) per).drawn := by rw [L.h.drawn]; omega
          obtain ⟨dm3, hm3⟩ := hM3.obj
          have e3 : ad3 .obj = ad .obj := r3.ob.trans r2.ob
          rw [e3] at hm3
          walk_at "g"
          refine ⟨ad .obj, dm3, _, rfl, hm3, rfl, ?_⟩
          walk_at "g"
          refine ⟨ks.map (·.1), ps, t, ad3, _, o, (by rw [e3, r3.rg o od]; rfl), hM3, ?_, ?_, fun H4 ad4 hM4 r4 => ?_⟩
          · obtain ⟨r', h1, h2⟩ : ∃ r' ∈ ((M.newSpot (ks.map (·.1)) per).unseat M.laid o c.1).rings, r'.num = o := by
              have q := RM.ring_unseat (M := M.newSpot (ks.map (·.1)) per) M.laid o o c.1
              rw [L.o3] at q
              exact ⟨_, (ring_mem q).1, (ring_mem q).2⟩
            obtain ⟨dx, q⟩ := hM3.ring r' h1
            rw [h2] at q
            exact ⟨dx, _, _, _, q⟩
          · show ((M.newSpot (ks.map (·.1)) per).rings.map _).length ≤ 50000
            rw [List.length_map, L.h.len, List.length_map]
            omega
          obtain ⟨dm4, hm4⟩ := hM4.obj
          have e4 : ad4 .obj = ad .obj := r4.ob.trans e3
          rw [e4] at hm4
          have n4 : ad4 (.ring n) = ad (.ring n) := (r4.rg n nd2).trans ((r3.rg n nd2).trans (r2.rg n nlt))
          obtain ⟨rn, hrn, trn⟩ := L.rn
          walk_at "g"
          refine ⟨ad .obj, dm4, _, rfl, hm4, rfl, ?_⟩
          walk_at "g"
          refine ⟨ks.map (·.1), ps, per, t, ad4, _, M.laid, n, c.1, p + c.2, rn, (by rw [e4, n4]; rfl), hM4, L.w2, hrn, trn, hl2, hc, ?_, ?_, fun H5 hM5 r5 => ?_⟩
          · obtain ⟨m, m1, m2, _⟩ := L.h.new c.1 hc
            have eo : o = m := by
              rw [L.o2] at m2
              exact congrArg Prod.fst (List.cons.inj m2).1
            have q := hrn
            rw [RM.ring_drop _ _ (by omega), RM.ring_unseat, L.h.ring n nlt] at q
            obtain ⟨r', h1, h2⟩ := Option.map_eq_some_iff.mp q
            have b := Tr.seats_len w' (ring_mem h1).1
            rw [← h2]
            split
            · exact Nat.le_trans (List.length_filter_le _ _) (by omega)
            · omega
          · show (((M.newSpot (ks.map (·.1)) per).unseat M.laid o c.1).ly M.laid c.1).length ≤ 50000
            rw [ly_unseat, L.o2]
            split
            · exact Nat.le_trans (List.length_filter_le _ _) (by show 1 ≤ 50000; decide)
            · show 1 ≤ 50000
              decide
          · walk_at "g"
            rw [← L.eN] at hM5 r5
            exact k _ _ hM5 (((r2.trans r3).trans r4).trans r5)
end
end Tr

/-! # len of a row (T10 alone). -/
namespace Tr
open PySem L2 TL
/-- steps of a reading that are plain -/
local macro_rules | `(tactic| walk_at "x") => `(tactic| (refine' ⟨_, _, _, _, rfl, rfl, ?k1, ?k2, ?_⟩; (case k1 => exact SqT.of (by assumption)); (case k2 => exact rfl)))
local macro_rules | `(tactic| walk_at "g") => `(tactic| repeat (first | (refine ⟨_, rfl, ?_⟩) | (refine ⟨_, _, rfl, rfl, ?_⟩) | (refine ⟨_, _, rfl, ?_⟩) | (refine ⟨rfl, ?_⟩) | walk_at "x"))


theorem cr_lenO {X : Cx} {k j : Nat} {C : Addr} {sp : Sp} {E : XK} (c : Met X.prog X.w X.K X.mg X.base k C "__len__" sp []) (hr : Room j X.A) (hk : k + 2 ≤ j) (hx : Passes (L2.CX X.prog X.w) X E) :
    CallR X (.builtin "len") (fun xs H Q => ∃ a dx fs, xs = [.ref a] ∧ H a = some (.ins C dx fs) ∧ sp [.ref a] H (fun v H' => ∃ n : Nat, v = .int n ∧ n ≤ 100000 ∧ Q (.int n) H') E) := by
  obtain ⟨f, fd, ps, ds, hc, hm, F, b, d⟩ := c.ex
  cases d
  intro pins s σ H xs us Q I r h
  obtain ⟨a, dx, fs, rfl, ha, h⟩ := h
  rw [Vals.ref1 r]
  obtain ⟨mA, J, _⟩ := ins_get I.hok ha
  obtain ⟨od, J, _⟩ := J.look
  obtain ⟨m, hF⟩ := I.fr
  refine PySem.W.len_K hF I.ok.mod.kin J hm.at_ hm.fn ?_
  refine wpAny_mono (run_at (A := X.A.in1) F (hr.mono (by omega)).in1 rfl b hx I (us := [.ref a]) (vs := [.ref a]) (.cons rfl .nil) h) (fun r s' q => ?_) fun _ _ z => z
  obtain ⟨z, H', I', rz, n, rfl, hn, q⟩ := q
  obtain ⟨t, rfl⟩ := rz
  exact ⟨⟨by omega, by omega⟩, .int n, H', I'.tok _, ⟨_, rfl⟩, q⟩
section
variable {P : Program} {w : World} {K : PySem.W.Frag} {mg : Str → Option Value} {base : Heap}
def spRlen (CR CT : Addr) : Sp := fun vs H Q _ => ∃ (a t : Addr) (ks ss : List SI), vs = [.ref a] ∧ RwAt CR CT H a t ks ss ∧ Q (.int (ss.length : Nat)) H
theorem c_rlen (T : Txt K mg) : Met P w K mg base 1 (He.ga K "Row") "__len__" (spRlen (He.ga K "Row") (He.ga K "Turns")) [] := by
  refine metN T.m_Row____len__ sc_Row___len__ (fun vs H Q E h => ?_) (fun _ _ _ _ _ _ us hl => match us, hl with | [_], _ => rfl) (fun f cdv A outer s H vs Q E hr h => ?_)
  · obtain ⟨a, t, ks, ss, rfl, _⟩ := h
    rfl
  · obtain ⟨a, t, ks, ss, rfl, hA, k⟩ := h
    obtain ⟨dx, st, ky, kk, pp, ys, ha, ⟨ts, a1, b1⟩, e2, e3, e4, e5⟩ := hA.ex
    refine ⟨_, (pss_one (ps_ret (pe_callB call_len (by rfl) T.b_len (by decide +kernel) (pa_cons (pe_fldK K (pv 0) (by rfl)) pa_nil)))), ?_⟩
    walk_at "g"
    refine ⟨a, _, dx, _, _, rfl, ha, T.k_Row, T.a_Row__steps, rfl, ?_⟩
    walk_at "g"
    refine ⟨_, _, rfl, .inr ⟨_, SqT.of a1, rfl⟩, ?_⟩
    rw [List.length_map, b1.len]
    exact k
end
end Tr

/-! # RingMap.add_fact. -/
namespace Tr
open PySem L2 TL
/-- steps of a reading that are plain -/
local macro_rules | `(tactic| walk_at "x") => `(tactic| (refine' ⟨_, _, _, _, rfl, rfl, ?k1, ?k2, ?_⟩; (case k1 => exact SqT.of (by assumption)); (case k2 => exact rfl)))
local macro_rules | `(tactic| walk_at "g") => `(tactic| repeat (first | (refine ⟨_, rfl, ?_⟩) | (refine ⟨_, _, rfl, rfl, ?_⟩) | (refine ⟨_, _, rfl, ?_⟩) | (refine ⟨rfl, ?_⟩) | walk_at "x"))


theorem layRow_snoc {NS : List Str} {per : Str → Int} : ∀ {y : List SI} {M : RM} {s : Nat} {c : SI}, RM.layRow NS per M s (y ++ [c]) = ((RM.layRow NS per M s y).1.lay NS per (RM.layRow NS per M s y).2 c.1 c.2, (RM.layRow NS per M s y).1.laid)
  | [], M, s, c => rfl
  | d :: y, M, s, c => layRow_snoc (y := y) (M := M.lay NS per s d.1 d.2) (s := M.laid)
theorem sl_st {K : PySem.W.Frag} {a : Addr} {xs : List V} {lo hi : Option Int} {H : Hp} {Q : VK} (ha : H a = some (.tup xs)) (h : ∀ p H', Same H H' → H' p = some (.tup (cutV xs lo hi)) → Q (.ref p) H') : rSlA K (.ref a) lo hi H Q := by
  refine ⟨a, xs, rfl, SqT.of ha, fun e => h a H (Same.refl H) ?_, fun _ p np => h p _ (same_upd np) upd_same⟩
  rw [ha]
  have : cutV xs lo hi = xs := by
    unfold cutV
    rw [e.1, e.2, List.drop_zero, Nat.sub_zero, List.take_length]
  rw [this]
theorem cut_last (xs : List V) (v : V) : cutV (xs ++ [v]) none (some (-1)) = xs := by
  have e : HT.sIx (xs ++ [v]).length (xs ++ [v]).length (some (-1)) = xs.length := by
    unfold HT.sIx
    rw [List.length_append, List.length_singleton]
    first
      | (simp; done)
      | (simp; omega)
      | omega
  unfold cutV
  rw [e]
  show (xs ++ [v]).take (xs.length - 0) = xs
  rw [Nat.sub_zero, List.take_left]
theorem AddOk.le {NS : List Str} {per : Str → Int} {ps : List Str} {M N : RM} {a b : Nat} {x : List SI} {k m : Nat} (h : AddOk NS per ps M N a b x k) (l : k ≤ m) : AddOk NS per ps M N a b x m := by
  have h1 := h.sp
  have h2 := h.laid
  have h3 := h.rl
  have h4 := h.tt
  have h5 : k * NS.length ≤ m * NS.length := Nat.mul_le_mul_right _ l
  exact ⟨h.w, h.fl, h.plo, h.mor, by omega, by omega, by omega, by omega, h.vl⟩
/-- room for a fact -/
structure Bud (NS ps : List Str) (M : RM) (m : Nat) : Prop where
  la : M.laid + m ≤ 10000
  sp : M.spots.length + m ≤ 10000
  rl : M.rings.length + m * NS.length ≤ 10000
  tt : tot NS M + m * NS.length + 1 ≤ 10000
  ps : ps.length ≤ 1000
  ns : NS.length ≤ 1000
theorem Bud.rmB {NS ps : List Str} {M : RM} {m : Nat} (b : Bud NS ps M m) : RmB NS ps M := ⟨by have := b.tt; omega, by have := b.sp; omega, by have := b.rl; omega, b.ps, b.ns⟩
section
variable {P : Program} [PM : PMain P] {w : World} {K : PySem.W.Frag} {mg : Str → Option Value} {base : Heap}
def spAdd (K : PySem.W.Frag) : Sp := fun vs H Q _ => ∃ (ks : List SI) (ps : List Str) (t : Addr) (H0 : Hp) (ad : Sl → Addr) (M : RM) (u a t2 : Addr) (p q : Str) (ks2 x : List SI), vs = [.ref (ad .obj), .ref u] ∧ H0 u = some (.tup [.str p, .ref a, .str q]) ∧ RwAt (He.ga K "Row") (He.ga K "Turns") H0 a t2 ks2 x ∧ InS (ks.map (·.1)) x ∧
  RmK K (ks.map (·.1)) ps t H ad M ∧ WF0 (ks.map (·.1)) (perOf ks) M ∧ Fl (ks.map (·.1)) M ∧ Nds ks ∧ ps.Nodup ∧ Out (ks.map (·.1)) H0 H ad M ∧ TuAt (He.ga K "Turns") H0 t ks ∧ (∀ c ∈ ks, 0 ≤ perOf ks c.1) ∧ (∀ p ∈ ps, M.pl p ∈ M.spots) ∧ Bud (ks.map (·.1)) ps M x.length ∧ p ∈ ps ∧ q ∈ ps ∧
  ∀ H' ad' M', RmK K (ks.map (·.1)) ps t H' ad' M' → Rch (ks.map (·.1)) H ad M H' ad' M' → AddOk (ks.map (·.1)) (perOf ks) ps M M' (M.pl p) (M.pl q) x x.length → Q .non H'
theorem c_add_fact (T : Txt K mg) : Met P w K mg base 5 (He.ga K "RingMap") "add_fact" (spAdd K) [] := by
  have c_seat := @c_seat P PM w K mg base T
  have c_lay := @c_lay P PM w K mg base T
  have c_join_spots := @c_join_spots P PM w K mg base T
  have c_rlen := @c_rlen P w K mg base T
  refine metN T.m_RingMap__add_fact sc_RingMap_add_fact (fun vs H Q E h => ?_) (fun _ _ _ _ _ _ us hl => match us, hl with | [_, _], _ => rfl) (fun f cdv A outer s H vs Q E hr h => ?_)
  · obtain ⟨ks, ps, t, H0, ad, M, u, a, t2, p, q, ks2, x, rfl, _⟩ := h
    rfl
  · obtain ⟨ks, ps, t, H0, ad, M, u, a, t2, p, q, ks2, x, rfl, hu, hR0, hx, hM, w', fl, nd, ndp, out, hT, hper, plo, bud, hp, hq, k⟩ := h
    refine ⟨_, (pss_cons (ps_asg (pv 1) (pg_tup rfl (pgs_cons (pg_name (i := 2) sc_RingMap_add_fact.nd rfl (Or.inl rfl)) (pgs_cons (pg_name (i := 3) sc_RingMap_add_fact.nd rfl (Or.inl rfl)) (pgs_cons (pg_name (i := 4) sc_RingMap_add_fact.nd rfl (Or.inl rfl)) pgs_nil)))))
      (pss_cons (ps_par (i := 5) (j := 6) (by rfl) sc_RingMap_add_fact.nd rfl rfl (by decide) rfl rfl (pa_cons (pe_dget (hu_of hr) (pe_fldK K (pv 0) (by rfl)) (pv 2) (fun _ _ => rfl)) (pa_cons (pe_dget (hu_of hr) (pe_fldK K (pv 0) (by rfl)) (pv 4) (fun _ _ => rfl)) pa_nil)) (by rfl))
      (pss_one (ps_if (pt_cmpR op_eq (pe_callB (cr_lenO c_rlen hr (by first | decide | omega) passL) (by rfl) T.b_len (by decide +kernel) (pa_cons (pv 3) pa_nil)) pe_int (nomark _)) (pss_one (ps_expr (pe_mtx c_join_spots hr (by first | decide | omega) passL (pv 0) (pa_cons (pv 5) (pa_cons (pv 6) pa_nil))))) (pss_cons (ps_for PassesOwn.never rfl (pi_tup (pe_slice sl_tupA (pe_fld (pv 3) rfl) po_none (po_some (pe_un un_neg pe_int)))) (pg_name (i := 7) sc_RingMap_add_fact.nd rfl (Or.inl rfl)) (pss_one (ps_set (i := 5) sc_RingMap_add_fact.nd rfl (Or.inl rfl) (pe_mtx c_lay hr (by first | decide | omega) passL (pv 0) (pa_cons (pv 5) (pa_cons (pv 7) pa_nil))))))
      (pss_cons (ps_asg (pe_ix ix_tup (pe_fldK K (pv 3) (by rfl)) (pe_un un_neg pe_int) (fun _ _ => rfl)) (pg_tup rfl (pgs_cons (pg_name (i := 8) sc_RingMap_add_fact.nd rfl (Or.inl rfl)) (pgs_cons (pg_name (i := 9) sc_RingMap_add_fact.nd rfl (Or.inl rfl)) pgs_nil))))
      (pss_cons (ps_asg (pe_ix ix_list (pe_dget (hu_of hr) (pe_dget (hu_of hr) (pe_fldK K (pv 0) (by rfl)) (pv 5) (fun _ _ => rfl)) (pv 8) (fun _ _ => rfl)) pe_int (fun _ _ => rfl)) (pg_tup rfl (pgs_cons (pg_name (i := 10) sc_RingMap_add_fact.nd rfl (Or.inl rfl)) (pgs_cons (pg_name (i := 11) sc_RingMap_add_fact.nd rfl (Or.inl rfl)) pgs_nil))))
      (pss_one (ps_expr (pe_mtx c_seat hr (by first | decide | omega) passL (pv 0) (pa_cons (pv 6) (pa_cons (pv 10) (pa_cons (pe_op op_add (pv 11) (pv 9)) pa_nil))))))))))))), ?_⟩
    have hR := hR0.same out.s
    obtain ⟨da, st, ky, kk, pp, ys, ha, ⟨ts, hst, pst⟩, _⟩ := id hR.ex
    obtain ⟨dm, hm⟩ := hM.obj
    have ha' := plo p hp
    have hb' := plo q hq
    have hxl := hR.le
    have hN : (ks.map (·.1)).length = ks.length := List.length_map ..
    walk_at "g"
    refine ⟨u, _, rfl, SqT.of (out.s _ _ hu), rfl, _, _, rfl, _, _, rfl, _, _, rfl, rfl, ?_⟩
    walk_at "g"
    refine ⟨ad .obj, _, dm, _, _, rfl, hm, T.k_RingMap, T.a_RingMap__spot_of, rfl, ?_⟩
    walk_at "g"
    refine ⟨ad .spotof, .int (M.pl p : Int), rfl, by
      have := DGet.k (k := (.inr p : Key)) hM.spotof
      rw [plK_at hp] at this
      exact this, ?_⟩
    walk_at "g"
    refine ⟨ad .obj, _, dm, _, _, rfl, hm, T.k_RingMap, T.a_RingMap__spot_of, rfl, ?_⟩
    walk_at "g"
    refine ⟨ad .spotof, .int (M.pl q : Int), rfl, by
      have := DGet.k (k := (.inr q : Key)) hM.spotof
      rw [plK_at hq] at this
      exact this, ?_⟩
    walk_at "g"
    refine ⟨a, da, _, rfl, ha, a, t2, ks2, x, rfl, hR, x.length, rfl, by omega, ?_⟩
    walk_at "g"
    rcases List.eq_nil_or_concat x with rfl | ⟨y, c, ex⟩
    · refine iteEq rfl ?_
      walk_at "g"
      refine ⟨ad .obj, dm, _, rfl, hm, rfl, ?_⟩
      walk_at "g"
      refine ⟨ks, ps, perOf ks, t, H0, ad, M, M.pl p, M.pl q, rfl, hM, w', nd, ndp, out, hT, ha', hb', bud.rmB, fun H2 ad2 hM2 r2 => ?_⟩
      walk_at "g"
      exact k H2 ad2 _ hM2 r2 (addJ_ok nd w' fl plo ha' hb')
    · rw [List.concat_eq_append] at ex
      subst ex
      obtain ⟨da, st, ky, kk, pp, ys, ha0, ⟨ts, hst0, pst0⟩, _⟩ := id hR0.ex
      have hlen0 : (y ++ [c]).length = y.length + 1 := by rw [List.length_append]; rfl
      have hyi : InS (ks.map (·.1)) y := fun d hd => hx d (List.mem_append_left _ hd)
      have hci : c.1 ∈ ks.map (·.1) := hx c (List.mem_append_right _ (List.mem_singleton.mpr rfl))
      rcases List.eq_nil_or_concat ts with rfl | ⟨vs, v, ets⟩
      · have := pst0.len
        rw [hlen0] at this
        cases this
      rw [List.concat_eq_append] at ets
      subst ets
      obtain ⟨pvs, hv0⟩ := P2.unsnoc pst0
      have lvs := pvs.len
      have hp' : ∀ d ∈ ks.map (·.1), 0 ≤ perOf ks d := fun d hd => by
        obtain ⟨e, he, rfl⟩ := List.mem_map.mp hd
        exact hper e he
      have bla := bud.la
      have bsp := bud.sp
      have brl := bud.rl
      have btt := bud.tt
      have bns := bud.ns
      rw [hlen0] at bla bsp brl btt
      have room : ∀ i, WF0 (ks.map (·.1)) (perOf ks) (RM.layRow (ks.map (·.1)) (perOf ks) M (M.pl p) (y.take i)).1 ∧ LRok (ks.map (·.1)) (perOf ks) M (RM.layRow (ks.map (·.1)) (perOf ks) M (M.pl p) (y.take i)).1 (M.pl p) (RM.layRow (ks.map (·.1)) (perOf ks) M (M.pl p) (y.take i)).2 (y.take i) ∧
          (RM.layRow (ks.map (·.1)) (perOf ks) M (M.pl p) (y.take i)).1.laid ≤ 10000 ∧ (RM.layRow (ks.map (·.1)) (perOf ks) M (M.pl p) (y.take i)).1.spots.length ≤ 10000 ∧ (RM.layRow (ks.map (·.1)) (perOf ks) M (M.pl p) (y.take i)).1.rings.length ≤ 10000 ∧ tot (ks.map (·.1)) (RM.layRow (ks.map (·.1)) (perOf ks) M (M.pl p) (y.take i)).1 ≤ 10000 := fun i => by
        have h := layRow_ok nd hp' w' fl (x := y.take i) (fun d hd => hyi d (List.mem_of_mem_take hd)) ha'
        have li : (y.take i).length ≤ y.length := by rw [List.length_take]; omega
        have m1 : (y.take i).length * (ks.map (·.1)).length ≤ (y.length + 1) * (ks.map (·.1)).length := Nat.mul_le_mul_right _ (by omega)
        have h1 := h.laid
        have h2 := h.sp
        have h3 := h.rl
        have h4 := h.tt
        exact ⟨h.w, h, by omega, by omega, by omega, by omega⟩
      have lz : ¬ (V.int (((y ++ [c]).length : Nat) : Int) = V.int 0) := fun q => by
        have := V.int.inj q
        rw [hlen0] at this
        omega
      rw [decide_eq_false lz]
      refine iteF ?_
      walk_at "g"
      refine ⟨a, _, da, _, _, rfl, out.s _ _ ha0, T.k_Row, T.a_Row__steps, rfl, ?_⟩
      walk_at "g"
      refine sl_st (out.s _ _ hst0) fun p1 H1 s1 hp1 => ?_
      rw [List.map_append, List.map_singleton, cut_last] at hp1
      have hM1 := hM.same s1
      have out1 := out.same s1
      have np1 := hM1.tup_ne hp1
      walk_at "g"
      refine ⟨⟨_, SqT.of hp1⟩, ?_⟩
      refine for_it (walk_tup (K := K) (xs := vs.map V.ref)) (fun i σ H' => ∃ (v7 v8 v9 v10 v11 : Option V) (ad1 : Sl → Addr), σ = [some (.ref (ad .obj)), some (.ref u), some (.str p), some (.ref a), some (.str q), some (.int ((RM.layRow (ks.map (·.1)) (perOf ks) M (M.pl p) (y.take i)).2 : Int)), some (.int (M.pl q : Int)), v7, v8, v9, v10, v11] ∧
        RmK K (ks.map (·.1)) ps t H' ad1 (RM.layRow (ks.map (·.1)) (perOf ks) M (M.pl p) (y.take i)).1 ∧ Rch (ks.map (·.1)) H1 ad M H' ad1 (RM.layRow (ks.map (·.1)) (perOf ks) M (M.pl p) (y.take i)).1) ⟨_, _, _, _, _, ad, rfl, hM1, .refl⟩ ?_ ?_ ?_
      · rintro i σ H' _ ⟨_, _, _, _, _, ad1, rfl, _, r1⟩
        exact SqT.of (r1.kp _ _ hp1 np1)
      · rintro i z σ H2 H2' hi ⟨v7, v8, v9, v10, v11, ad1, rfl, hM2, r2⟩ ⟨rfl, hy⟩
        rw [List.getElem?_map] at hy
        obtain ⟨ui, hui, rfl⟩ := Option.map_eq_some_iff.mp hy
        obtain ⟨ci, hci', hut⟩ := pvs.getl hui
        have out2 := out1.rch r2
        obtain ⟨w2, L, l1, l2, l3, l4⟩ := room i
        obtain ⟨dm2, hm2⟩ := hM2.obj
        rw [r2.ob] at hm2
        walk_at "g"
        refine ⟨ad .obj, dm2, _, rfl, hm2, rfl, ?_⟩
        walk_at "g"
        refine ⟨ks, ps, perOf ks, t, H0, ad1, _, _, ui, ci, (by rw [r2.ob]; rfl), out2.s _ _ hut, hM2, w2, L.fl, nd, out2, hT, fun d hd => ⟨rfl, hper d hd⟩, by rw [hN] at bns; exact bns, by omega, by omega, by omega, by omega, L.us, hyi ci (mem_of_at hci'), fun H3 ad3 hM3 r3 => ?_⟩
        walk_at "g"
        rw [take_snoc hci', layRow_snoc]
        exact ⟨_, _, _, _, _, ad3, rfl, hM3, r2.trans r3⟩
      · rintro σ H2 ⟨v7, v8, v9, v10, v11, ad1, rfl, hM2, r2⟩
        have eT : y.take (vs.map V.ref).length = y := by rw [List.length_map, lvs, List.take_length]
        obtain ⟨w2, L, l1, l2, l3, l4⟩ := room y.length
        rw [List.take_length] at w2 L l1 l2 l3 l4
        rw [eT] at hM2 r2 ⊢
        have out2 := out1.rch r2
        obtain ⟨dm2, hm2⟩ := hM2.obj
        rw [r2.ob] at hm2
        have AO := addS_ok (ps := ps) nd hp' w' fl plo hyi hci ha' hb'
        unfold RM.addS at AO
        generalize RM.layRow (ks.map (·.1)) (perOf ks) M (M.pl p) y = N at *
        have hla := w2.sb N.2 L.us
        obtain ⟨ws, hws, pws⟩ := hM2.lst N.2 c.1 hla hci
        have hlb := L.ext.sp _ hb'
        walk_at "g"
        refine ⟨a, _, da, _, _, rfl, out2.s _ _ ha0, T.k_Row, T.a_Row__steps, rfl, ?_⟩
        walk_at "g"
        refine ⟨st, _, -1, .ref v, rfl, rfl, SqT.of (out2.s _ _ hst0), by rw [List.map_append]; exact atI_last _ _, ?_⟩
        refine ⟨v, _, rfl, SqT.of (out2.s _ _ hv0), rfl, _, _, rfl, _, _, rfl, rfl, ?_⟩
        walk_at "g"
        refine ⟨ad .obj, _, dm2, _, _, rfl, hm2, T.k_RingMap, T.a_RingMap__lying, rfl, ?_⟩
        walk_at "g"
        refine ⟨ad1 .lying, .ref (ad1 (.dict N.2)), rfl, by
          have := DGet.k (k := (.inl (N.2 : Int) : Key)) hM2.lying
          rw [lyK_at hla] at this
          exact this, ?_⟩
        walk_at "g"
        refine ⟨ad1 (.dict N.2), .ref (ad1 (.lst N.2 c.1)), rfl, by
          have := DGet.k (k := (.inr c.1 : Key)) (hM2.dict N.2 hla)
          rw [dcK_at hci] at this
          exact this, ?_⟩
        walk_at "g"
        cases hl : N.1.ly N.2 c.1 with
        | nil => exact (L.fl N.2 L.us c.1 hci hl).elim
        | cons z l =>
          obtain ⟨n, pos⟩ := z
          rw [hl] at pws
          cases pws with
          | @cons z' _ us _ hz pus =>
            have hon : N.1.on c.1 N.2 n pos := by show (n, pos) ∈ N.1.ly N.2 c.1; rw [hl]; exact List.mem_cons_self
            obtain ⟨r0, hr0, ht0, _⟩ := w2.on_ring hon
            rw [hl] at AO
            refine ⟨ad1 (.lst N.2 c.1), _, 0, .ref z', rfl, rfl, SqL.of hws, by show atI _ ((0 : Nat) : Int) = _; exact atI_nat rfl, ?_⟩
            refine ⟨z', _, rfl, SqT.of hz, rfl, _, _, rfl, _, _, rfl, rfl, ?_⟩
            walk_at "g"
            refine ⟨ad .obj, dm2, _, rfl, hm2, rfl, ?_⟩
            walk_at "g"
            refine ⟨ks.map (·.1), ps, perOf ks, t, ad1, N.1, M.pl q, n, c.1, pos + c.2, r0, (by rw [r2.ob]; rfl), hM2, w2, hr0, ht0, w2.sb _ hlb, hci, Nat.le_trans (lens_of w2 l4 hr0) (by decide), Nat.le_trans (lyl_of l4 hlb hci) (by decide), fun H5 hM5 r5 => ?_⟩
            walk_at "g"
            refine k H5 ad1 _ hM5 (((Rch.same s1).trans r2).trans r5) ?_
            exact AO.le (by rw [hlen0]; omega)
end
end Tr

/-! # RingMap.__init__, map_of. -/
namespace Tr
open PySem L2 TL
/-- steps of a reading that are plain -/
local macro_rules | `(tactic| walk_at "x") => `(tactic| (refine' ⟨_, _, _, _, rfl, rfl, ?k1, ?k2, ?_⟩; (case k1 => exact SqT.of (by assumption)); (case k2 => exact rfl)))
local macro_rules | `(tactic| walk_at "g") => `(tactic| repeat (first | (refine ⟨_, rfl, ?_⟩) | (refine ⟨_, _, rfl, rfl, ?_⟩) | (refine ⟨_, _, rfl, ?_⟩) | (refine ⟨rfl, ?_⟩) | walk_at "x"))


section
variable {CM CG t : Addr} {NS ps : List Str} {H0 H H' H4 : Hp} {ad ad' : Sl → Addr} {M M' : RM}
/-- places are others -/
theorem RmAt.plc (h : RmAt CM CG NS ps t H ad M) (ps' : List Str) (pl : Str → Nat) (kp : ∀ b o, H b = some o → b ≠ ad .spotof → H4 b = some o) (e2 : H4 (ad .spotof) = some (.dK (ps'.map fun p => ((.inr p : Key), V.int (pl p : Int))))) :
    RmAt CM CG NS ps' t H4 ad { M with pl := pl } ∧ Rch NS H ad M H4 ad { M with pl := pl } := by
  have lv : ∀ x, Lv NS { M with pl := pl } x → Lv NS M x := fun x hx => by
    match x, hx with
    | .ring _, hx => exact hx
    | .seats _, hx => exact hx
    | .obj, hx => exact hx
    | .circ, hx => exact hx
    | .spots, hx => exact hx
    | .lying, hx => exact hx
    | .spotof, hx => exact hx
    | .dict _, hx => exact hx
    | .lst _ _, hx => exact hx
  have keep : ∀ {x : Sl} {o : HO}, Lv NS M x → x ≠ .spotof → H (ad x) = some o → H4 (ad x) = some o := fun {x o} hx n2 e => kp _ _ e (adne h hx (y := .spotof) trivial n2)
  have tup : ∀ {b : Addr} {vs : List V}, H b = some (.tup vs) → H4 b = some (.tup vs) := fun {b vs} e => kp _ _ e (h.tup_ne e .spotof trivial).symm
  refine ⟨⟨fun x y hx hy => h.inj x y (lv x hx) (lv y hy), ?_, keep (x := .circ) trivial (by intro z; cases z) h.circ, keep (x := .spots) trivial (by intro z; cases z) h.spots, keep (x := .lying) trivial (by intro z; cases z) h.lying, e2, ?_, ?_, ?_, ?_⟩, ⟨fun b o e q => kp b o e (fun z => q .spotof trivial z.symm), fun x hx => .inl ⟨x, lv x hx, rfl⟩, rfl, fun _ _ => rfl, Nat.le_refl _⟩⟩
  · obtain ⟨dx, e⟩ := h.obj
    exact ⟨dx, keep (x := .obj) trivial (by intro z; cases z) e⟩
  · intro r hr
    obtain ⟨dx, e⟩ := h.ring r hr
    exact ⟨dx, keep (x := .ring r.num) ⟨r, hr, rfl⟩ (by intro z; cases z) e⟩
  · intro r hr
    obtain ⟨us, a, b⟩ := h.seats r hr
    exact ⟨us, keep (x := .seats r.num) ⟨r, hr, rfl⟩ (by intro z; cases z) a, b.mono fun _ _ e => tup e⟩
  · intro i hi
    exact keep (x := .dict i) hi (by intro z; cases z) (h.dict i hi)
  · intro i d hi hd
    obtain ⟨us, a, b⟩ := h.lst i d hi hd
    exact ⟨us, keep (x := .lst i d) ⟨hi, hd⟩ (by intro z; cases z) a, b.mono fun _ _ e => tup e⟩
/-- the map without spots -/
def ad0 (x ci sp ly so : Addr) : Sl → Addr
  | .circ => ci
  | .spots => sp
  | .lying => ly
  | .spotof => so
  | _ => x
theorem void_at {x dx ci sp ly so : Addr} (ho : H x = some (.ins CM dx (rmF t ci sp ly 0 0 so))) (hc : H ci = some (.lst [])) (hs : H sp = some (.lst [])) (hl : H ly = some (.dK [])) (hso : H so = some (.dK [])) (n1 : ci ≠ sp) (n2 : ly ≠ so) :
    RmAt CM CG NS [] t H (ad0 x ci sp ly so) RM.void := by
  have a1 := ne_of ho hc (by intro z; cases z)
  have a2 := ne_of ho hs (by intro z; cases z)
  have a3 := ne_of ho hl (by intro z; cases z)
  have a4 := ne_of ho hso (by intro z; cases z)
  have b1 := ne_of hc hl (by intro z; cases z)
  have b2 := ne_of hc hso (by intro z; cases z)
  have b3 := ne_of hs hl (by intro z; cases z)
  have b4 := ne_of hs hso (by intro z; cases z)
  refine ⟨fun a b ha hb e => ?_, ⟨dx, ho⟩, hc, hs, hl, hso, fun r hr => (by cases hr), fun r hr => (by cases hr), fun s hs => absurd hs (Nat.not_lt_zero _), fun s c hs => absurd hs (Nat.not_lt_zero _)⟩
  cases a with
  | ring n => obtain ⟨r, hr, _⟩ := ha; cases hr
  | seats n => obtain ⟨r, hr, _⟩ := ha; cases hr
  | dict s => exact absurd ha (Nat.not_lt_zero _)
  | lst s c => exact absurd ha.1 (Nat.not_lt_zero _)
  | obj =>
    cases b with
    | ring n => obtain ⟨r, hr, _⟩ := hb; cases hr
    | seats n => obtain ⟨r, hr, _⟩ := hb; cases hr
    | dict s => exact absurd hb (Nat.not_lt_zero _)
    | lst s c => exact absurd hb.1 (Nat.not_lt_zero _)
    | obj => rfl
    | circ => exact absurd e a1
    | spots => exact absurd e a2
    | lying => exact absurd e a3
    | spotof => exact absurd e a4
  | circ =>
    cases b with
    | ring n => obtain ⟨r, hr, _⟩ := hb; cases hr
    | seats n => obtain ⟨r, hr, _⟩ := hb; cases hr
    | dict s => exact absurd hb (Nat.not_lt_zero _)
    | lst s c => exact absurd hb.1 (Nat.not_lt_zero _)
    | obj => exact absurd e a1.symm
    | circ => rfl
    | spots => exact absurd e n1
    | lying => exact absurd e b1
    | spotof => exact absurd e b2
  | spots =>
    cases b with
    | ring n => obtain ⟨r, hr, _⟩ := hb; cases hr
    | seats n => obtain ⟨r, hr, _⟩ := hb; cases hr
    | dict s => exact absurd hb (Nat.not_lt_zero _)
    | lst s c => exact absurd hb.1 (Nat.not_lt_zero _)
    | obj => exact absurd e a2.symm
    | circ => exact absurd e n1.symm
    | spots => rfl
    | lying => exact absurd e b3
    | spotof => exact absurd e b4
  | lying =>
    cases b with
    | ring n => obtain ⟨r, hr, _⟩ := hb; cases hr
    | seats n => obtain ⟨r, hr, _⟩ := hb; cases hr
    | dict s => exact absurd hb (Nat.not_lt_zero _)
    | lst s c => exact absurd hb.1 (Nat.not_lt_zero _)
    | obj => exact absurd e a3.symm
    | circ => exact absurd e b1.symm
    | spots => exact absurd e b3.symm
    | lying => rfl
    | spotof => exact absurd e n2
  | spotof =>
    cases b with
    | ring n => obtain ⟨r, hr, _⟩ := hb; cases hr
    | seats n => obtain ⟨r, hr, _⟩ := hb; cases hr
    | dict s => exact absurd hb (Nat.not_lt_zero _)
    | lst s c => exact absurd hb.1 (Nat.not_lt_zero _)
    | obj => exact absurd e a4.symm
    | circ => exact absurd e b2.symm
    | spots => exact absurd e b4.symm
    | lying => exact absurd e n2.symm
    | spotof => rfl
end
theorem start_tot {NS ps : List Str} {per : Str → Int} {M : RM} (h : Sto NS per ps M) : tot NS M ≤ ps.length * NS.length := by
  have key : ∀ L : List Nat, (∀ s ∈ L, lyN NS M s ≤ NS.length) → (L.map (lyN NS M)).sum ≤ L.length * NS.length := by
    intro L
    induction L with
    | nil => intro _; show 0 ≤ _; omega
    | cons s L ih =>
      intro hL
      have h1 := hL s List.mem_cons_self
      have h2 := ih fun s hs => hL s (List.mem_cons_of_mem _ hs)
      rw [List.map_cons, List.sum_cons, List.length_cons, Nat.succ_mul]
      omega
  have := key M.spots fun s hs => by
    have k2 : ∀ L : List Str, (∀ c ∈ L, c ∈ NS) → (L.map fun c => (M.ly s c).length).sum ≤ L.length := by
      intro L
      induction L with
      | nil => intro _; exact Nat.le_refl _
      | cons c L ih =>
        intro hL
        have h1 := h.one s hs c (hL c List.mem_cons_self)
        have h2 := ih fun c hc => hL c (List.mem_cons_of_mem _ hc)
        rw [List.map_cons, List.sum_cons, List.length_cons, h1]
        omega
    exact k2 NS fun _ h => h
  rw [h.sp] at this
  exact this
section
variable {P : Program} [PM : PMain P] {w : World} {K : PySem.W.Frag} {mg : Str → Option Value} {base : Heap}
def spRM (K : PySem.W.Frag) : Sp := fun vs H Q _ => ∃ (x dx t pp : Addr) (ks : List SI) (ps : List Str) (H0 : Hp), vs = [.ref x, .ref t, .ref pp] ∧ H x = some (.ins (He.ga K "RingMap") dx []) ∧ Same H0 H ∧ H0 x = none ∧ TuAt (He.ga K "Turns") H0 t ks ∧ H0 pp = some (.tup (ps.map V.str)) ∧ Nds ks ∧ ps.Nodup ∧ (∀ c ∈ ks, 0 ≤ perOf ks c.1) ∧ ks.length ≤ 1000 ∧ ps.length ≤ 1000 ∧ ps.length * ks.length ≤ 10000 ∧
  ∀ H' ad, ad .obj = x → RmK K (ks.map (·.1)) ps t H' ad (RM.start (ks.map (·.1)) (perOf ks) ps) → Out (ks.map (·.1)) H0 H' ad (RM.start (ks.map (·.1)) (perOf ks) ps) → Q .non H'
theorem m_RingMap (T : Txt K mg) : Mak P w K mg base 4 "RingMap" (He.ga K "RingMap") (spRM K) [] := by
  have c_new_spot := @c_new_spot P PM w K mg base T
  refine makN T.i_RingMap sc_RingMap___init__ (fun vs H Q E h => ?_) (fun dvs f fd hl F => binds_all F 3 rfl (fun _ _ _ _ _ _ _ us its h1 h2 => match us, its, h1, h2.trans hl with | [_, _, _], [_], _, _ => ⟨_, rfl, rfl⟩) (by intro e; rw [e] at hl; cases hl)) (fun f cdv A outer s H vs Q E hr h => ?_)
  · obtain ⟨x, dx, t, pp, ks, ps, H0, rfl, _⟩ := h
    rfl
  · obtain ⟨x, dx, t, pp, ks, ps, H0, rfl, hx, s0, nx, hT, hpp, nd, ndp, hper, lk, lp, lpk, k⟩ := h
    refine ⟨_, (pss_cons (ps_fld (pv 0) (pv 1) rfl)
      (pss_cons (ps_fld (pv 0) (pe_lst pa_nil) rfl)
      (pss_cons (ps_fld (pv 0) (pe_lst pa_nil) rfl)
      (pss_cons (ps_fld (pv 0) pe_dnewK rfl)
      (pss_cons (ps_fld (pv 0) pe_int rfl)
      (pss_cons (ps_fld (pv 0) pe_int rfl)
      (pss_cons (ps_fld (pv 0) pe_dnewK rfl)
      (pss_one (ps_for PassesOwn.never rfl (pi_tup (pv 2)) (pg_name (i := 3) sc_RingMap___init__.nd rfl (Or.inl rfl)) (pss_one (ps_dput (hu_of hr) (pe_fldK K (pv 0) (by rfl)) (pv 3) (pe_mtx0 c_new_spot hr (by first | decide | omega) passL (pv 0)) rfl))))))))))), ?_⟩
    have hp' : ∀ d ∈ ks.map (·.1), 0 ≤ perOf ks d := fun d hd => by
      obtain ⟨e, he, rfl⟩ := List.mem_map.mp hd
      exact hper e he
    walk_at "g"
    refine ⟨x, _, dx, _, rfl, hx, T.k_RingMap, T.a_RingMap__turns, by show 0 < 1000; decide, ?_⟩
    obtain ⟨Hb0, e0⟩ : ∃ Hn, Hn = upd H x (.ins (He.ga K "RingMap") dx (putF "turns" (.ref t) [])) := ⟨_, rfl⟩
    rw [← e0]
    have hxb0 : Hb0 x = some (.ins (He.ga K "RingMap") dx [("turns", V.ref t)]) := by rw [e0]; exact upd_same
    have kpb0 : Same H0 Hb0 := fun b o e => by rw [e0, upd_ne (ne_of_none e nx)]; exact s0 _ _ e
    clear e0
    walk_at "g"
    refine ⟨by show 0 ≤ sizeLine; decide, fun ci nci => ?_⟩
    have cix : ci ≠ x := fun q => by rw [q, hxb0] at nci; cases nci
    have sa1 := same_upd (o := .lst []) nci
    have cci : upd Hb0 ci (.lst []) ci = some (.lst []) := upd_same
    have nci0 : H0 ci = none := by
      cases q : H0 ci with
      | none => rfl
      | some o => rw [kpb0 _ _ q] at nci; cases nci
    have kpa1 : Same H0 (upd Hb0 ci (.lst [])) := kpb0.trans sa1
    have hxa1 := sa1 _ _ hxb0
    generalize upd Hb0 ci (.lst []) = Ha1 at *
    walk_at "g"
    refine ⟨x, _, dx, _, rfl, hxa1, T.k_RingMap, T.a_RingMap__circles, by show 1 < 1000; decide, ?_⟩
    obtain ⟨Hb1, e1⟩ : ∃ Hn, Hn = upd Ha1 x (.ins (He.ga K "RingMap") dx (putF "circles" (.ref ci) [("turns", V.ref t)])) := ⟨_, rfl⟩
    rw [← e1]
    have hxb1 : Hb1 x = some (.ins (He.ga K "RingMap") dx [("turns", V.ref t), ("circles", V.ref ci)]) := by rw [e1]; exact upd_same
    have kpb1 : Same H0 Hb1 := fun b o e => by rw [e1, upd_ne (ne_of_none e nx)]; exact kpa1 _ _ e
    replace cci : Hb1 ci = some (.lst []) := by rw [e1, upd_ne cix]; exact cci
    clear e1
    walk_at "g"
    refine ⟨by show 0 ≤ sizeLine; decide, fun sp nsp => ?_⟩
    have spx : sp ≠ x := fun q => by rw [q, hxb1] at nsp; cases nsp
    have sa2 := same_upd (o := .lst []) nsp
    have csp : upd Hb1 sp (.lst []) sp = some (.lst []) := upd_same
    have nsp0 : H0 sp = none := by
      cases q : H0 sp with
      | none => rfl
      | some o => rw [kpb1 _ _ q] at nsp; cases nsp
    have n_sp_ci : sp ≠ ci := fun q => by rw [q, cci] at nsp; cases nsp
    replace cci := sa2 _ _ cci
    have kpa2 : Same H0 (upd Hb1 sp (.lst [])) := kpb1.trans sa2
    have hxa2 := sa2 _ _ hxb1
    generalize upd Hb1 sp (.lst []) = Ha2 at *
    walk_at "g"
    refine ⟨x, _, dx, _, rfl, hxa2, T.k_RingMap, T.a_RingMap__spots, by show 2 < 1000; decide, ?_⟩
    obtain ⟨Hb2, e2⟩ : ∃ Hn, Hn = upd Ha2 x (.ins (He.ga K "RingMap") dx (putF "spots" (.ref sp) [("turns", V.ref t), ("circles", V.ref ci)])) := ⟨_, rfl⟩
    rw [← e2]
    have hxb2 : Hb2 x = some (.ins (He.ga K "RingMap") dx [("turns", V.ref t), ("circles", V.ref ci), ("spots", V.ref sp)]) := by rw [e2]; exact upd_same
    have kpb2 : Same H0 Hb2 := fun b o e => by rw [e2, upd_ne (ne_of_none e nx)]; exact kpa2 _ _ e
    replace cci : Hb2 ci = some (.lst []) := by rw [e2, upd_ne cix]; exact cci
    replace csp : Hb2 sp = some (.lst []) := by rw [e2, upd_ne spx]; exact csp
    clear e2
    walk_at "g"
    intro ly nly
    have lyx : ly ≠ x := fun q => by rw [q, hxb2] at nly; cases nly
    have sa3 := same_upd (o := .dK []) nly
    have cly : upd Hb2 ly (.dK []) ly = some (.dK []) := upd_same
    have nly0 : H0 ly = none := by
      cases q : H0 ly with
      | none => rfl
      | some o => rw [kpb2 _ _ q] at nly; cases nly
    have n_ly_ci : ly ≠ ci := fun q => by rw [q, cci] at nly; cases nly
    have n_ly_sp : ly ≠ sp := fun q => by rw [q, csp] at nly; cases nly
    replace cci := sa3 _ _ cci
    replace csp := sa3 _ _ csp
    have kpa3 : Same H0 (upd Hb2 ly (.dK [])) := kpb2.trans sa3
    have hxa3 := sa3 _ _ hxb2
    generalize upd Hb2 ly (.dK []) = Ha3 at *
    walk_at "g"
    refine ⟨x, _, dx, _, rfl, hxa3, T.k_RingMap, T.a_RingMap__lying, by show 3 < 1000; decide, ?_⟩
    obtain ⟨Hb3, e3⟩ : ∃ Hn, Hn = upd Ha3 x (.ins (He.ga K "RingMap") dx (putF "lying" (.ref ly) [("turns", V.ref t), ("circles", V.ref ci), ("spots", V.ref sp)])) := ⟨_, rfl⟩
    rw [← e3]
    have hxb3 : Hb3 x = some (.ins (He.ga K "RingMap") dx [("turns", V.ref t), ("circles", V.ref ci), ("spots", V.ref sp), ("lying", V.ref ly)]) := by rw [e3]; exact upd_same
    have kpb3 : Same H0 Hb3 := fun b o e => by rw [e3, upd_ne (ne_of_none e nx)]; exact kpa3 _ _ e
    replace cci : Hb3 ci = some (.lst []) := by rw [e3, upd_ne cix]; exact cci
    replace csp : Hb3 sp = some (.lst []) := by rw [e3, upd_ne spx]; exact csp
    replace cly : Hb3 ly = some (.dK []) := by rw [e3, upd_ne lyx]; exact cly
    clear e3
    walk_at "g"
    walk_at "g"
    refine ⟨x, _, dx, _, rfl, hxb3, T.k_RingMap, T.a_RingMap__laid, by show 4 < 1000; decide, ?_⟩
    obtain ⟨Hb4, e4⟩ : ∃ Hn, Hn = upd Hb3 x (.ins (He.ga K "RingMap") dx (putF "laid" (.int 0) [("turns", V.ref t), ("circles", V.ref ci), ("spots", V.ref sp), ("lying", V.ref ly)])) := ⟨_, rfl⟩
    rw [← e4]
    have hxb4 : Hb4 x = some (.ins (He.ga K "RingMap") dx [("turns", V.ref t), ("circles", V.ref ci), ("spots", V.ref sp), ("lying", V.ref ly), ("laid", V.int 0)]) := by rw [e4]; exact upd_same
    have kpb4 : Same H0 Hb4 := fun b o e => by rw [e4, upd_ne (ne_of_none e nx)]; exact kpb3 _ _ e
    replace cci : Hb4 ci = some (.lst []) := by rw [e4, upd_ne cix]; exact cci
    replace csp : Hb4 sp = some (.lst []) := by rw [e4, upd_ne spx]; exact csp
    replace cly : Hb4 ly = some (.dK []) := by rw [e4, upd_ne lyx]; exact cly
    clear e4
    walk_at "g"
    walk_at "g"
    refine ⟨x, _, dx, _, rfl, hxb4, T.k_RingMap, T.a_RingMap__drawn, by show 5 < 1000; decide, ?_⟩
    obtain ⟨Hb5, e5⟩ : ∃ Hn, Hn = upd Hb4 x (.ins (He.ga K "RingMap") dx (putF "drawn" (.int 0) [("turns", V.ref t), ("circles", V.ref ci), ("spots", V.ref sp), ("lying", V.ref ly), ("laid", V.int 0)])) := ⟨_, rfl⟩
    rw [← e5]
    have hxb5 : Hb5 x = some (.ins (He.ga K "RingMap") dx [("turns", V.ref t), ("circles", V.ref ci), ("spots", V.ref sp), ("lying", V.ref ly), ("laid", V.int 0), ("drawn", V.int 0)]) := by rw [e5]; exact upd_same
    have kpb5 : Same H0 Hb5 := fun b o e => by rw [e5, upd_ne (ne_of_none e nx)]; exact kpb4 _ _ e
    replace cci : Hb5 ci = some (.lst []) := by rw [e5, upd_ne cix]; exact cci
    replace csp : Hb5 sp = some (.lst []) := by rw [e5, upd_ne spx]; exact csp
    replace cly : Hb5 ly = some (.dK []) := by rw [e5, upd_ne lyx]; exact cly
    clear e5
    walk_at "g"
    intro so nso
    have sox : so ≠ x := fun q => by rw [q, hxb5] at nso; cases nso
    have sa6 := same_upd (o := .dK []) nso
    have cso : upd Hb5 so (.dK []) so = some (.dK []) := upd_same
    have nso0 : H0 so = none := by
      cases q : H0 so with
      | none => rfl
      | some o => rw [kpb5 _ _ q] at nso; cases nso
    have n_so_ci : so ≠ ci := fun q => by rw [q, cci] at nso; cases nso
    have n_so_sp : so ≠ sp := fun q => by rw [q, csp] at nso; cases nso
    have n_so_ly : so ≠ ly := fun q => by rw [q, cly] at nso; cases nso
    replace cci := sa6 _ _ cci
    replace csp := sa6 _ _ csp
    replace cly := sa6 _ _ cly
    have kpa6 : Same H0 (upd Hb5 so (.dK [])) := kpb5.trans sa6
    have hxa6 := sa6 _ _ hxb5
    generalize upd Hb5 so (.dK []) = Ha6 at *
    walk_at "g"
    refine ⟨x, _, dx, _, rfl, hxa6, T.k_RingMap, T.a_RingMap__spot_of, by show 6 < 1000; decide, ?_⟩
    obtain ⟨Hb6, e6⟩ : ∃ Hn, Hn = upd Ha6 x (.ins (He.ga K "RingMap") dx (putF "spot_of" (.ref so) [("turns", V.ref t), ("circles", V.ref ci), ("spots", V.ref sp), ("lying", V.ref ly), ("laid", V.int 0), ("drawn", V.int 0)])) := ⟨_, rfl⟩
    rw [← e6]
    have hxb6 : Hb6 x = some (.ins (He.ga K "RingMap") dx [("turns", V.ref t), ("circles", V.ref ci), ("spots", V.ref sp), ("lying", V.ref ly), ("laid", V.int 0), ("drawn", V.int 0), ("spot_of", V.ref so)]) := by rw [e6]; exact upd_same
    have kpb6 : Same H0 Hb6 := fun b o e => by rw [e6, upd_ne (ne_of_none e nx)]; exact kpa6 _ _ e
    replace cci : Hb6 ci = some (.lst []) := by rw [e6, upd_ne cix]; exact cci
    replace csp : Hb6 sp = some (.lst []) := by rw [e6, upd_ne spx]; exact csp
    replace cly : Hb6 ly = some (.dK []) := by rw [e6, upd_ne lyx]; exact cly
    replace cso : Hb6 so = some (.dK []) := by rw [e6, upd_ne sox]; exact cso
    clear e6
    have hM0 := void_at (CG := He.ga K "Ring") (t := t) (NS := ks.map (·.1)) (H := Hb6) hxb6 cci csp cly cso n_sp_ci.symm n_so_ly.symm
    have out0 : Out (ks.map (·.1)) H0 Hb6 (ad0 x ci sp ly so) RM.void := by
      refine ⟨kpb6, fun y hy => ?_⟩
      cases y with
      | ring n => obtain ⟨r, hr, _⟩ := hy; cases hr
      | seats n => obtain ⟨r, hr, _⟩ := hy; cases hr
      | dict s => exact absurd hy (Nat.not_lt_zero _)
      | lst s c => exact absurd hy.1 (Nat.not_lt_zero _)
      | obj => exact nx
      | circ => exact nci0
      | spots => exact nsp0
      | lying => exact nly0
      | spotof => exact nso0
    walk_at "g"
    refine ⟨⟨_, SqT.of (kpb6 _ _ hpp)⟩, ?_⟩
    refine for_it (walk_tup (K := K) (xs := ps.map V.str)) (fun i σ H' => ∃ (v3 : Option V) (ad1 : Sl → Addr), σ = [some (.ref x), some (.ref t), some (.ref pp), v3] ∧ ad1 .obj = x ∧ RmK K (ks.map (·.1)) (ps.take i) t H' ad1 (RM.start (ks.map (·.1)) (perOf ks) (ps.take i)) ∧ Out (ks.map (·.1)) H0 H' ad1 (RM.start (ks.map (·.1)) (perOf ks) (ps.take i))) ⟨_, _, rfl, rfl, hM0, out0⟩ ?_ ?_ ?_
    · rintro i σ H' _ ⟨_, _, rfl, _, _, o1⟩
      exact SqT.of (o1.s _ _ hpp)
    · rintro i y σ H2 H2' hi ⟨v3, ad1, rfl, eo, hM, o1⟩ ⟨rfl, hy⟩
      rw [List.getElem?_map] at hy
      obtain ⟨p, hp, rfl⟩ := Option.map_eq_some_iff.mp hy
      have hi2 : i < ps.length := (List.getElem?_eq_some_iff.mp hp).1
      have ndi : (ps.take i).Nodup := ndp.sublist (List.take_sublist i ps)
      have nd' : (ks.map (·.1)).Nodup := nd
      have S := start_ok (NS := ks.map (·.1)) nd' hp' _ (ps.take i) rfl ndi
      have np : p ∉ ps.take i := fun hmem => by
        obtain ⟨j, hj, e⟩ := List.getElem_of_mem hmem
        rw [List.length_take] at hj
        rw [List.getElem_take] at e
        obtain ⟨hi', ei⟩ := List.getElem?_eq_some_iff.mp hp
        rw [List.nodup_iff_pairwise_ne, List.pairwise_iff_getElem] at ndp
        exact ndp j i (by omega) hi' (by omega) (by rw [e, ei])
      have li : (ps.take i).length ≤ ps.length := by rw [List.length_take]; omega
      have eS : RM.start (ks.map (·.1)) (perOf ks) (ps.take (i + 1)) = (RM.start (ks.map (·.1)) (perOf ks) (ps.take i)).put (ks.map (·.1)) (perOf ks) p := by
        rw [take_snoc hp]
        exact start_snoc _ _
      have S1 := S.laid
      have S2 := S.sp
      have S3 := S.rl
      have lmul : (ps.take i).length * (ks.map (·.1)).length ≤ ps.length * ks.length := by rw [List.length_map]; exact Nat.mul_le_mul_right _ li
      generalize RM.start (ks.map (·.1)) (perOf ks) (ps.take i) = M at *
      obtain ⟨dm, hm⟩ := hM.obj
      rw [eo] at hm
      walk_at "g"
      refine ⟨x, dm, _, rfl, hm, rfl, ?_⟩
      walk_at "g"
      refine ⟨ks, ps.take i, perOf ks, t, H0, ad1, M, (by rw [eo]; rfl), hM, S.w, nd, o1, hT, fun _ _ => rfl, lk, by omega, by omega, by omega, fun H3 ad3 hM3 r3 => ?_⟩
      have o3 := o1.rch r3
      have ex := (newSpot_ok nd' hp' S.w).ext S.w
      obtain ⟨dm3, hm3⟩ := hM3.obj
      rw [r3.ob, eo] at hm3
      walk_at "g"
      refine ⟨x, _, dm3, _, _, rfl, hm3, T.k_RingMap, T.a_RingMap__spot_of, rfl, ?_⟩
      walk_at "g"
      have plN : ∀ q ∈ plK (M.newSpot (ks.map (·.1)) (perOf ks)) (ps.take i), q.1 ≠ (.inr p : Key) := fun q hq e => by
        unfold plK at hq
        obtain ⟨z, hz, rfl⟩ := List.mem_map.mp hq
        exact np (by rw [← Sum.inr.inj e]; exact hz)
      have plL : (plK (M.newSpot (ks.map (·.1)) (perOf ks)) (ps.take i)).length ≤ 1000 := by
        unfold plK
        rw [List.length_map]
        omega
      refine ⟨ad3 .spotof, _, rfl, DPut.k (k := (.inr p : Key)) (v := .int (M.laid : Int)) hM3.spotof (Nat.lt_of_le_of_lt plL (by decide)), ?_⟩
      rw [Tr.putK_new plN]
      have e2 : upd H3 (ad3 .spotof) (.dK (plK (M.newSpot (ks.map (·.1)) (perOf ks)) (ps.take i) ++ [((.inr p : Key), V.int (M.laid : Int))])) (ad3 .spotof) = some (.dK ((ps.take (i + 1)).map fun q => ((.inr q : Key), V.int ((if q = p then M.laid else M.pl q : Nat) : Int)))) := by
        rw [upd_same, take_snoc hp, List.map_append]
        unfold plK
        congr 3
        · refine List.map_congr_left fun q hq => ?_
          rw [if_neg (fun e => np (by rw [← e]; exact hq)), ex.pl]
        · show _ = [((.inr p : Key), V.int ((if p = p then M.laid else M.pl p : Nat) : Int))]
          rw [if_pos rfl]
      obtain ⟨hM4, r4⟩ := hM3.plc (ps.take (i + 1)) (fun q => if q = p then M.laid else M.pl q) (fun b o e q => by rw [upd_ne q]; exact e) e2
      refine ⟨_, ad3, rfl, r3.ob.trans eo, ?_, ?_⟩
      · rw [eS]
        exact hM4
      · rw [eS]
        exact o3.rch r4
    · rintro σ H2 ⟨v3, ad1, rfl, eo, hM, o1⟩
      rw [List.length_map, List.take_length] at hM o1
      exact k H2 ad1 eo hM o1
/-- a fact in the heap -/
def FcT (CR CT : Addr) (ks : List SI) (H : Hp) (u : Addr) (f : Clm) : Prop := ∃ a t2, H u = some (.tup [.str f.1, .ref a, .str f.2.2]) ∧ RwAt CR CT H a t2 ks f.2.1
theorem FcT.same {CR CT : Addr} {ks : List SI} {H H' : Hp} {u : Addr} {f : Clm} (s : Same H H') (h : FcT CR CT ks H u f) : FcT CR CT ks H' u f :=
  let ⟨a, t2, e, r⟩ := h
  ⟨a, t2, s _ _ e, r.same s⟩
def csT (F : List Clm) : Nat := (F.map fun f => f.2.1.length).sum
theorem csT_snoc (F : List Clm) (f : Clm) : csT (F ++ [f]) = csT F + f.2.1.length := by
  unfold csT
  rw [List.map_append, List.sum_append]
  rfl
theorem csT_take (F : List Clm) (i : Nat) : csT (F.take i) ≤ csT F := by
  have : csT F = csT (F.take i) + csT (F.drop i) := by
    unfold csT
    rw [← List.sum_append, ← List.map_append, List.take_append_drop]
  omega
def bkF (t pp ff : Addr) : List (Str × V) := [("turns", .ref t), ("places", .ref pp), ("facts", .ref ff)]
/-- what a book's facts want of room -/
structure RoomF (ks : List SI) (ps : List Str) (F : List Clm) : Prop where
  a : ps.length + csT F ≤ 9000
  b : (ps.length + csT F) * ks.length + F.length + 1 ≤ 9000
  lps : ps.length ≤ 1000
  hF : ∀ f ∈ F, f.1 ∈ ps ∧ f.2.2 ∈ ps
def spMap (K : PySem.W.Frag) : Sp := fun vs H Q _ => ∃ (b db t pp ff : Addr) (ks : List SI) (ps : List Str) (F : List Clm) (us : List Addr), vs = [.ref b] ∧ H b = some (.ins (He.ga K "Book") db (bkF t pp ff)) ∧ TuAt (He.ga K "Turns") H t ks ∧ KsOk ks ∧ H pp = some (.tup (ps.map V.str)) ∧ ps.Nodup ∧ H ff = some (.tup (us.map V.ref)) ∧ P2 (FcT (He.ga K "Row") (He.ga K "Turns") ks H) us F ∧ RoomF ks ps F ∧
  ∀ H' ad M, RmS K ks ps (perOf ks) t H H' ad M → BkM (ks.map (·.1)) (perOf ks) ps F M → Q (.ref (ad .obj)) H'
theorem KsOk.pnn {ks : List SI} (ok : KsOk ks) : ∀ c ∈ ks, 0 ≤ perOf ks c.1 := fun c hc => by
  obtain ⟨d, hd, e1, e2⟩ := lookS_mem (z := c.1) ⟨c, hc, rfl⟩
  unfold perOf
  rw [e2]
  have := (ok.ok d hd).2
  show 0 ≤ d.2
  omega
theorem c_map_of (T : Txt K mg) : Cal P w K mg base 6 "map_of" (spMap K) [] := by
  have m_RingMap := @m_RingMap P PM w K mg base T
  have c_add_fact := @c_add_fact P PM w K mg base T
  have c_close_up := @c_close_up P PM w K mg base T
  refine calN T.d_map_of sc_map_of (fun vs H Q E h => ?_) (fun _ _ _ _ _ _ us hl => match us, hl with | [_], _ => rfl) (fun f cdv A outer s H vs Q E hr h => ?_)
  · obtain ⟨b, db, t, pp, ff, ks, ps, F, us, rfl, _⟩ := h
    rfl
  · obtain ⟨b, db, t, pp, ff, ks, ps, F, us, rfl, hb, hT, ok, hpp, ndp, hff, pF, rm, k⟩ := h
    refine ⟨_, (pss_cons (ps_set (i := 1) sc_map_of.nd rfl (Or.inl rfl) (pe_mkx m_RingMap hr (by first | decide | omega) rfl passL (pa_cons (pe_fldK K (pv 0) (by rfl)) (pa_cons (pe_fldK K (pv 0) (by rfl)) pa_nil))))
      (pss_cons (ps_for PassesOwn.never rfl (pi_tup (pe_fld (pv 0) rfl)) (pg_name (i := 2) sc_map_of.nd rfl (Or.inl rfl)) (pss_cons (ps_expr (pe_mtx c_add_fact hr (by first | decide | omega) passL (pv 1) (pa_cons (pv 2) pa_nil)))
      (pss_one (ps_expr (pe_mtx0 c_close_up hr (by first | decide | omega) passL (pv 1))))))
      (pss_one (ps_ret (pv 1))))), ?_⟩
    have ra := rm.a
    have rb := rm.b
    have rp := rm.lps
    have ul := pF.len
    have n8 := ok.n8
    have nd' : (ks.map (·.1)).Nodup := ok.nd
    have nl : (ks.map (·.1)).length = ks.length := List.length_map ..
    have m1 : ps.length * ks.length ≤ (ps.length + csT F) * ks.length := Nat.mul_le_mul_right _ (by omega)
    have hp' : ∀ d ∈ ks.map (·.1), 0 ≤ perOf ks d := fun d hd => by
      obtain ⟨e, he, rfl⟩ := List.mem_map.mp hd
      exact ok.pnn e he
    walk_at "g"
    refine ⟨b, _, db, _, _, rfl, hb, T.k_Book, T.a_Book__turns, rfl, ?_⟩
    walk_at "g"
    refine ⟨b, _, db, _, _, rfl, hb, T.k_Book, T.a_Book__places, rfl, ?_⟩
    walk_at "g"
    intro x dx nx ndx nxd
    refine ⟨x, dx, t, pp, ks, ps, H, rfl, upd_same, same_made nx ndx, nx, hT, hpp, ok.nd, ndp, ok.pnn, by omega, rp, by omega, fun H2 ad2 eo hM2 o2 => ⟨rfl, ?_⟩⟩
    have St := start_ok (NS := ks.map (·.1)) nd' hp' _ ps rfl ndp
    have Stt := start_tot St
    have BM0 := St.bk
    have S1 := St.laid
    have S2 := St.sp
    have S3 := St.rl
    rw [nl] at S3 Stt
    generalize RM.start (ks.map (·.1)) (perOf ks) ps = M2 at *
    have RS0 : RmS K ks ps (perOf ks) t H H2 ad2 M2 := ⟨hM2, ⟨BM0.w, BM0.fl, BM0.plo, nd', ⟨by omega, by omega, by omega, by omega, by omega⟩⟩, o2, hT, ok.nd, ndp⟩
    walk_at "g"
    refine ⟨b, _, db, _, _, rfl, o2.s _ _ hb, T.k_Book, T.a_Book__facts, rfl, ?_⟩
    walk_at "g"
    refine ⟨⟨_, SqT.of (o2.s _ _ hff)⟩, ?_⟩
    refine for_it (walk_tup (K := K) (xs := us.map V.ref)) (fun i σ H' => ∃ (v2 : Option V) (ad1 : Sl → Addr) (M1 : RM), σ = [some (.ref b), some (.ref x), v2] ∧ ad1 .obj = x ∧ RmS K ks ps (perOf ks) t H H' ad1 M1 ∧ BkM (ks.map (·.1)) (perOf ks) ps (F.take i) M1 ∧
      M1.laid ≤ ps.length + csT (F.take i) ∧ M1.spots.length ≤ ps.length + csT (F.take i) ∧ M1.rings.length ≤ (ps.length + csT (F.take i)) * ks.length ∧ tot (ks.map (·.1)) M1 ≤ (ps.length + csT (F.take i)) * ks.length + i) ⟨_, _, _, rfl, eo, RS0, BM0, ?_⟩ ?_ ?_ ?_
    · show _ ≤ ps.length + 0 ∧ _ ≤ ps.length + 0 ∧ _ ≤ (ps.length + 0) * ks.length ∧ _ ≤ (ps.length + 0) * ks.length + 0
      rw [Nat.add_zero]
      exact ⟨by omega, by omega, by omega, by omega⟩
    · rintro i σ H' _ ⟨_, _, _, rfl, _, S, _⟩
      exact SqT.of (S.out.s _ _ hff)
    · rintro i y σ H3 H3' hi ⟨v2, ad1, M1, rfl, eo1, S, B, l1, l2, l3, l4⟩ ⟨rfl, hy⟩
      rw [List.getElem?_map] at hy
      obtain ⟨u, hu, rfl⟩ := Option.map_eq_some_iff.mp hy
      obtain ⟨⟨p, r, q⟩, hf, a, t2, hut, hR⟩ := pF.getl hu
      have hfm := mem_of_at hf
      have hi2 : i < F.length := (List.getElem?_eq_some_iff.mp hf).1
      obtain ⟨hp, hq⟩ := rm.hF _ hfm
      dsimp only at hp hq hut hR
      obtain ⟨dm, hm⟩ := S.at_.obj
      rw [eo1] at hm
      have hx : InS (ks.map (·.1)) r := fun c hc => by
        obtain ⟨k', hk, e⟩ := hR.nm c hc
        exact List.mem_map.mpr ⟨k', hk, e⟩
      have eT : F.take (i + 1) = F.take i ++ [(p, r, q)] := take_snoc hf
      have cS : csT (F.take (i + 1)) = csT (F.take i) + r.length := by rw [eT]; exact csT_snoc _ _
      have cL := csT_take F (i + 1)
      have mm : (ps.length + csT (F.take (i + 1))) * ks.length ≤ (ps.length + csT F) * ks.length := Nat.mul_le_mul_right _ (by omega)
      have me : (ps.length + csT (F.take (i + 1))) * ks.length = (ps.length + csT (F.take i)) * ks.length + r.length * ks.length := by
        rw [cS, ← Nat.add_assoc, Nat.add_mul]
      have bud : Bud (ks.map (·.1)) ps M1 r.length := ⟨by omega, by omega, by rw [nl]; omega, by rw [nl]; omega, by omega, by omega⟩
      walk_at "g"
      refine ⟨x, dm, _, rfl, hm, rfl, ?_⟩
      walk_at "g"
      refine ⟨ks, ps, t, H, ad1, M1, u, a, t2, p, q, ks, r, (by rw [eo1]; rfl), hut, hR, hx, S.at_, S.g.w, S.g.fl, ok.nd, ndp, S.out, hT, ok.pnn, S.g.plo, bud, hp, hq, fun H4 ad4 M4 hM4 r4 AO => ?_⟩
      have o4 := S.out.rch r4
      obtain ⟨dm4, hm4⟩ := hM4.obj
      have eo4 := r4.ob.trans eo1
      rw [eo4] at hm4
      have a1 := AO.sp
      have a2 := AO.laid
      have a3 := AO.rl
      have a4 := AO.tt
      rw [nl] at a3 a4
      have S4 : RmS K ks ps (perOf ks) t H H4 ad4 M4 := ⟨hM4, ⟨AO.w, AO.fl, AO.plo, nd', ⟨by omega, by omega, by omega, by omega, by omega⟩⟩, o4, hT, ok.nd, ndp⟩
      walk_at "g"
      refine ⟨x, dm4, _, rfl, hm4, rfl, ?_⟩
      walk_at "g"
      refine ⟨ks, ps, perOf ks, t, H, ad4, M4, (by rw [eo4]; rfl), S4, fun H5 ad5 M5 S5 r5 sm cl eo5 => ?_⟩
      walk_at "g"
      have b1 := sm.laid
      have b2 := sm.sp
      have b3 := sm.rl
      have b4 := sm.tt
      refine ⟨_, ad5, M5, rfl, eo5.trans eo4, S5, ?_, by omega, by omega, by omega, by omega⟩
      rw [eT]
      exact B.add hp hq AO sm cl
    · rintro σ H3 ⟨v2, ad1, M1, rfl, eo1, S, B, _⟩
      rw [List.length_map, ul, List.take_length] at B
      walk_at "g"
      have := k H3 ad1 M1 S B
      rw [eo1] at this
      exact this
end
end Tr

/-! # is_claim of a value that is made like a claim. -/
namespace Tr
open PySem L2 TL
/-- steps of a reading that are plain -/
local macro_rules | `(tactic| walk_at "x") => `(tactic| (refine' ⟨_, _, _, _, rfl, rfl, ?k1, ?k2, ?_⟩; (case k1 => exact SqT.of (by assumption)); (case k2 => exact rfl)))
local macro_rules | `(tactic| walk_at "g") => `(tactic| repeat (first | (refine ⟨_, rfl, ?_⟩) | (refine ⟨_, _, rfl, rfl, ?_⟩) | (refine ⟨_, _, rfl, ?_⟩) | (refine ⟨rfl, ?_⟩) | walk_at "x"))


theorem inV_strM (p : Str) (ps : List Str) : inV (.str p) (ps.map V.str) = decide (p ∈ ps) := by
  unfold inV
  rw [List.any_map, Bool.eq_iff_iff, List.any_eq_true, decide_eq_true_eq]
  constructor
  · rintro ⟨x, hx, e⟩
    have e : (x == p) = true := e
    rw [eq_of_beq e] at hx
    exact hx
  · intro h
    exact ⟨p, h, by show (p == p) = true; exact beq_self_eq_true p⟩
theorem flat_strs (ps : List Str) : (ps.map V.str).all flatV = true := List.all_eq_true.mpr fun v hv => by
  obtain ⟨p, _, rfl⟩ := List.mem_map.mp hv
  rfl
section
variable {P : Program} {w : World} {K : PySem.W.Frag} {mg : Str → Option Value} {base : Heap}
def spClaim (K : PySem.W.Frag) : Sp := fun vs H Q _ => ∃ (u a t2 t pp : Addr) (p q : Str) (ks ks2 x : List SI) (ps : List Str), vs = [.ref u, .ref t, .ref pp] ∧ H u = some (.tup [.str p, .ref a, .str q]) ∧ RwAt (He.ga K "Row") (He.ga K "Turns") H a t2 ks2 x ∧ TuAt (He.ga K "Turns") H t ks ∧ KsOk ks ∧ H pp = some (.tup (ps.map V.str)) ∧ Q (.bl (decide (p ∈ ps) && decide (q ∈ ps) && decide (ks2 = ks))) H
theorem c_is_claim (T : Txt K mg) : Cal P w K mg base 3 "is_claim" (spClaim K) [] := by
  have c_teq := @c_teq P w K mg base T
  refine calN T.d_is_claim sc_is_claim (fun vs H Q E h => ?_) (fun _ _ _ _ _ _ us hl => match us, hl with | [_, _, _], _ => rfl) (fun f cdv A outer s H vs Q E hr h => ?_)
  · obtain ⟨u, a, t2, t, pp, p, q, ks, ks2, x, ps, rfl, _⟩ := h
    rfl
  · obtain ⟨u, a, t2, t, pp, p, q, ks, ks2, x, ps, rfl, hu, hR, hT, ok, hpp, k⟩ := h
    refine ⟨_, (pss_cons (ps_if (PW.pt (pw_or (pt_not (pt_val (pe_callB call_isi (by rfl) T.b_isinstance (by decide +kernel) (pa_cons (pv 0) (pa_cons (pe_bltn (v := .ty "tuple") rfl T.b_tuple (by decide +kernel) rfl) pa_nil))))) (pw_or1 (pt_cmpR op_ne (pe_callB call_len (by rfl) T.b_len (by decide +kernel) (pa_cons (pv 0) pa_nil)) pe_int (nomark _))))) (pss_one (ps_ret pe_bl)) pss_nil)
      (pss_cons (ps_asg (pv 0) (pg_tup rfl (pgs_cons (pg_name (i := 3) sc_is_claim.nd rfl (Or.inl rfl)) (pgs_cons (pg_name (i := 4) sc_is_claim.nd rfl (Or.inl rfl)) (pgs_cons (pg_name (i := 5) sc_is_claim.nd rfl (Or.inl rfl)) pgs_nil)))))
      (pss_cons (ps_if (PW.pt (pw_or (pt_not (pt_val (pe_callB call_isi (by rfl) T.b_isinstance (by decide +kernel) (pa_cons (pv 3) (pa_cons (pe_bltn (v := .ty "str") rfl T.b_str (by decide +kernel) rfl) pa_nil))))) (pw_or (pt_not (pt_val (pe_callB call_isi (by rfl) T.b_isinstance (by decide +kernel) (pa_cons (pv 5) (pa_cons (pe_bltn (v := .ty "str") rfl T.b_str (by decide +kernel) rfl) pa_nil))))) (pw_or1 (pt_not (pt_val (pe_callB call_isi (by rfl) T.b_isinstance (by decide +kernel) (pa_cons (pv 4) (pa_cons (pe_glob (v := .ref (He.ga K "Row")) (by rfl) T.v_Row rfl) pa_nil))))))))) (pss_one (ps_ret pe_bl)) pss_nil)
      (pss_one (ps_ret (pe_and (pe_cmpR op_in_seq (pv 3) (pv 2) (by rfl)) (pe_and (pe_cmpR op_in_seq (pv 5) (pv 2) (by rfl)) (pe_one (pe_cmpR (or_eqO c_teq hr (by first | decide | omega) passL) (pe_fldK K (pv 4) (by rfl)) (pv 1) (nomark _)))))))))), ?_⟩
    obtain ⟨da, st, ky, kk, pp', ys, ha, ⟨ts, hst, pst⟩, _⟩ := id hR.ex
    obtain ⟨d2, _, _, _, _, ht2, _⟩ := id hR.tu.ex
    obtain ⟨d1, _, _, _, _, ht, _⟩ := id hT.ex
    walk_at "g"
    refine ⟨.ref u, .ty "tuple", _, _, true, rfl, .ty "tuple", .base (.tup hu), kit_ty (by decide +kernel), true, rfl, ?_⟩
    walk_at "g"
    refine ⟨_, _, rfl, .inr ⟨_, SqT.of hu, rfl⟩, ?_⟩
    walk_at "g"
    refine ⟨u, _, rfl, SqT.of hu, rfl, _, _, rfl, _, _, rfl, _, _, rfl, rfl, ?_⟩
    walk_at "g"
    refine ⟨.str p, .ty "str", _, _, true, rfl, .ty "str", .base (.str p), kit_ty (by decide +kernel), true, rfl, ?_⟩
    walk_at "g"
    refine ⟨.str q, .ty "str", _, _, true, rfl, .ty "str", .base (.str q), kit_ty (by decide +kernel), true, rfl, ?_⟩
    walk_at "g"
    refine ⟨.ref a, .ref (He.ga K "Row"), _, _, true, rfl, .own _, T.o_Row.ty T.k_Row ha, kit_self, true, rfl, ?_⟩
    walk_at "g"
    refine ⟨pp, _, rfl, .inr (SqT.of hpp), rfl, flat_strs ps, ?_⟩
    rw [inV_strM]
    refine ⟨_, rfl, ?_⟩
    by_cases h1 : p ∈ ps
    · rw [decide_eq_true h1] at k ⊢
      refine iteT ?_
      walk_at "g"
      refine ⟨pp, _, rfl, .inr (SqT.of hpp), rfl, flat_strs ps, ?_⟩
      rw [inV_strM]
      refine ⟨_, rfl, ?_⟩
      by_cases h2 : q ∈ ps
      · rw [decide_eq_true h2] at k ⊢
        refine iteT ?_
        walk_at "g"
        refine ⟨a, _, da, _, _, rfl, ha, T.k_Row, T.a_Row__turns, rfl, ?_⟩
        walk_at "g"
        refine ⟨t2, d2, _, t, d1, _, rfl, rfl, ht2, ht, t2, t, ks2, ks, rfl, hR.tu, hT, hR.ok, ok, ?_⟩
        walk_at "g"
        exact k
      · rw [decide_eq_false h2] at k ⊢
        refine iteF ?_
        exact k
    · rw [decide_eq_false h1] at k ⊢
      refine iteF ?_
      exact k
end
end Tr

/-! # A book in the heap; Book.__init__ in the valid case. -/
namespace Tr
open PySem L2 TL
/-- steps of a reading that are plain -/
local macro_rules | `(tactic| walk_at "x") => `(tactic| (refine' ⟨_, _, _, _, rfl, rfl, ?k1, ?k2, ?_⟩; (case k1 => exact SqT.of (by assumption)); (case k2 => exact rfl)))
local macro_rules | `(tactic| walk_at "g") => `(tactic| repeat (first | (refine ⟨_, rfl, ?_⟩) | (refine ⟨_, _, rfl, rfl, ?_⟩) | (refine ⟨_, _, rfl, ?_⟩) | (refine ⟨rfl, ?_⟩) | walk_at "x"))


section
variable {CM CG t : Addr} {NS ps : List Str} {H0 H H' H4 : Hp} {ad ad' : Sl → Addr} {M M' : RM}
/-- what the map owns stands as it was, and so do all tuples -/
theorem RmAt.keep (h : RmAt CM CG NS ps t H ad M) (k : ∀ x o, Lv NS M x → H (ad x) = some o → H' (ad x) = some o) (tp : ∀ b vs, H b = some (.tup vs) → H' b = some (.tup vs)) : RmAt CM CG NS ps t H' ad M :=
  ⟨h.inj, let ⟨dx, e⟩ := h.obj; ⟨dx, k .obj _ trivial e⟩, k .circ _ trivial h.circ, k .spots _ trivial h.spots, k .lying _ trivial h.lying, k .spotof _ trivial h.spotof, fun r hr => let ⟨dx, e⟩ := h.ring r hr; ⟨dx, k (.ring r.num) _ ⟨r, hr, rfl⟩ e⟩,
    fun r hr => let ⟨us, e, p⟩ := h.seats r hr; ⟨us, k (.seats r.num) _ ⟨r, hr, rfl⟩ e, p.mono fun _ _ e => tp _ _ e⟩, fun i hi => k (.dict i) _ hi (h.dict i hi), fun i c hi hc => let ⟨us, e, p⟩ := h.lst i c hi hc; ⟨us, k (.lst i c) _ ⟨hi, hc⟩ e, p.mono fun _ _ e => tp _ _ e⟩⟩
/-- one address outside of the map is written -/
theorem RmAt.kpi (h : RmAt CM CG NS ps t H ad M) {x : Addr} {o : HO} (kp : ∀ b o, H b = some o → b ≠ x → H' b = some o) (hx : H x = some o) (no : ∀ vs, o ≠ .tup vs) (ne : ∀ y, Lv NS M y → ad y ≠ x) : RmAt CM CG NS ps t H' ad M :=
  h.keep (fun y _ hy e => kp _ _ e (ne y hy)) fun b vs e => kp _ _ e (ne_of e hx fun z => no vs z.symm)
end
def bkG (t pp ff rm : Addr) : List (Str × V) := [("turns", .ref t), ("places", .ref pp), ("facts", .ref ff), ("rings", .ref rm)]
/-- a book stands at b; what its map owns is none of B -/
structure BkAt (K : PySem.W.Frag) (B : Addr → Prop) (H : Hp) (b t : Addr) (ks : List SI) (ps : List Str) (F : List Clm) : Prop where
  ex : ∃ db pp ff ad M, H b = some (.ins (He.ga K "Book") db (bkG t pp ff (ad .obj))) ∧ H pp = some (.tup (ps.map V.str)) ∧ RmK K (ks.map (·.1)) ps t H ad M ∧ BkM (ks.map (·.1)) (perOf ks) ps F M ∧ (∀ x, Lv (ks.map (·.1)) M x → ¬ B (ad x)) ∧ ad .obj ≠ b ∧ ∃ us : List Addr, H ff = some (.tup (us.map V.ref))
  tu : TuAt (He.ga K "Turns") H t ks
  ok : KsOk ks
  ndp : ps.Nodup
  hF : ∀ f ∈ F, f.1 ∈ ps ∧ f.2.2 ∈ ps
  lp : ps.length ≤ 1000
section
variable {K : PySem.W.Frag} {B : Addr → Prop} {H H' : Hp} {b t : Addr} {ks : List SI} {ps : List Str} {F : List Clm}
theorem BkAt.same (s : Same H H') (h : BkAt K B H b t ks ps F) : BkAt K B H' b t ks ps F :=
  let ⟨db, pp, ff, ad, M, e1, e2, e3, e4, e5, e6, us, e7⟩ := h.ex
  ⟨⟨db, pp, ff, ad, M, s _ _ e1, s _ _ e2, e3.same s, e4, e5, e6, us, s _ _ e7⟩, h.tu.same s, h.ok, h.ndp, h.hF, h.lp⟩
/-- a dict that stood before the book was made is changed -/
theorem BkAt.kpB (h : BkAt K B H b t ks ps F) {p : Addr} {kvs : List (Key × V)} (kp : Kp p H H') (hp : H p = some (.dK kvs)) (ne : TuNe H t p) (hB : B p) : BkAt K B H' b t ks ps F := by
  obtain ⟨db, pp, ff, ad, M, e1, e2, e3, e4, e5, e6, us, e7⟩ := h.ex
  exact ⟨⟨db, pp, ff, ad, M, kp _ _ e1 (ne_of e1 hp (by intro z; cases z)), kp _ _ e2 (ne_of e2 hp (by intro z; cases z)), e3.kpi kp hp (by intro vs z; cases z) fun y hy q => e5 y hy (q ▸ hB), e4, e5, e6, us, kp _ _ e7 (ne_of e7 hp (by intro z; cases z))⟩, h.tu.kpB ne kp hp, h.ok, h.ndp, h.hF, h.lp⟩
/-- a list that stood before the book was made is changed -/
theorem BkAt.kpL (h : BkAt K B H b t ks ps F) {p : Addr} {xs : List V} (kp : Kp p H H') (hp : H p = some (.lst xs)) (hB : B p) : BkAt K B H' b t ks ps F := by
  obtain ⟨db, pp, ff, ad, M, e1, e2, e3, e4, e5, e6, us, e7⟩ := h.ex
  refine ⟨⟨db, pp, ff, ad, M, kp _ _ e1 (ne_of e1 hp (by intro z; cases z)), kp _ _ e2 (ne_of e2 hp (by intro z; cases z)), e3.kpi kp hp (by intro vs z; cases z) fun y hy q => e5 y hy (q ▸ hB), e4, e5, e6, us, kp _ _ e7 (ne_of e7 hp (by intro z; cases z))⟩, ?_, h.ok, h.ndp, h.hF, h.lp⟩
  obtain ⟨dt, p1, p2, p3, p4, e0, ⟨ts, a1, b1⟩, e2, e3, e4⟩ := h.tu.ex
  exact ⟨dt, p1, p2, p3, p4, kp _ _ e0 (ne_of e0 hp (by intro z; cases z)), ⟨ts, kp _ _ a1 (ne_of a1 hp (by intro z; cases z)), b1.mono fun _ _ e => kp _ _ e (ne_of e hp (by intro z; cases z))⟩, kp _ _ e2 (ne_of e2 hp (by intro z; cases z)), kp _ _ e3 (ne_of e3 hp (by intro z; cases z)), kp _ _ e4 (ne_of e4 hp (by intro z; cases z))⟩
theorem BkAt.mono {B' : Addr → Prop} (h : BkAt K B H b t ks ps F) (s : ∀ a, B' a → B a) : BkAt K B' H b t ks ps F :=
  let ⟨db, pp, ff, ad, M, e1, e2, e3, e4, e5, e6⟩ := h.ex
  ⟨⟨db, pp, ff, ad, M, e1, e2, e3, e4, fun x hx q => e5 x hx (s _ q), e6⟩, h.tu, h.ok, h.ndp, h.hF, h.lp⟩
end
theorem RwAt.kpi {CR CT C' x dx a t : Addr} {H H' : Hp} {ks ss : List SI} (h : RwAt CR CT H a t ks ss) (kp : Kp x H H') (hx : H x = some (.ins C' dx [])) : RwAt CR CT H' a t ks ss := by
  obtain ⟨d0, st, ky, kk, pp, ys, e0, ⟨ts, a1, b1⟩, e2, e3, e4, ⟨us, a5, b5⟩⟩ := h.ex
  have no : ∀ {a : Addr} {xs : List V}, H a = some (.tup xs) → H' a = some (.tup xs) := fun h => kp _ _ h (ne_of h hx (by intro z; cases z))
  exact ⟨⟨d0, st, ky, kk, pp, ys, kp _ _ e0 (ne_of e0 hx (by intro z; cases z)), ⟨ts, no a1, b1.mono fun _ _ e => no e⟩, no e2, no e3, e4.mono fun _ _ e => no e, ⟨us, no a5, b5.mono fun _ _ e => no e⟩⟩, h.tu.kpi kp hx, h.ok, h.nf, h.nm, h.le⟩
/-- a list or tuple -/
def LT (H : Hp) (l : Addr) (xs : List V) : Prop := H l = some (.lst xs) ∨ H l = some (.tup xs)
theorem LT.same {H H' : Hp} (s : Same H H') {l : Addr} {xs : List V} (h : LT H l xs) : LT H' l xs := h.elim (fun h => .inl (s _ _ h)) fun h => .inr (s _ _ h)
theorem cut_tk (xs : List V) (k : Nat) : cutV xs none (some (k : Int)) = xs.take k := by
  unfold cutV
  rw [HT.sIx_nat]
  show (xs.drop 0).take (min k xs.length - 0) = _
  rw [List.drop_zero, Nat.sub_zero]
  rcases Nat.le_total k xs.length with h | h
  · rw [Nat.min_eq_left h]
  · rw [Nat.min_eq_right h, List.take_length, List.take_of_length_le h]
/-- tuple(l) -/
@[irreducible] def rTupOf (K : PySem.W.Frag) : List V → Hp → VK → Prop := fun xs H Q => ∃ p ys, xs = [.ref p] ∧ ((SqL K H p ys ∧ ∀ l, H l = none → Q (.ref l) (upd H l (.tup ys))) ∨ (SqT K H p ys ∧ Q (.ref p) H))
theorem call_tupLT {X : Cx} : CallR X (.type "tuple") (rTupOf X.K) := by
  unfold rTupOf
  exact call_tuple_of
theorem tup_of {K : PySem.W.Frag} {H : Hp} {l : Addr} {xs : List V} {Q : VK} (h : LT H l xs) (k : ∀ p H', Same H H' → H' p = some (.tup xs) → Q (.ref p) H') : rTupOf K [V.ref l] H Q := by
  unfold rTupOf
  rcases h with h | h
  · exact ⟨l, xs, rfl, .inl ⟨SqL.of h, fun l2 n => k _ _ (same_upd n) upd_same⟩⟩
  · exact ⟨l, xs, rfl, .inr ⟨SqT.of h, k _ _ (Same.refl H) h⟩⟩
section
variable {P : Program} [PM : PMain P] {w : World} {K : PySem.W.Frag} {mg : Str → Option Value} {base : Heap}
def spBook (K : PySem.W.Frag) : Sp := fun vs H Q _ => ∃ (x dx t l1 l2 : Addr) (ks : List SI) (ps : List Str) (F : List Clm) (us : List Addr), vs = [.ref x, .ref t, .ref l1, .ref l2] ∧ H x = some (.ins (He.ga K "Book") dx []) ∧ TuAt (He.ga K "Turns") H t ks ∧ KsOk ks ∧ LT H l1 (ps.map V.str) ∧ ps.Nodup ∧ (∀ p ∈ ps, NmOk p) ∧ LT H l2 (us.map V.ref) ∧ P2 (FcT (He.ga K "Row") (He.ga K "Turns") ks H) us F ∧ RoomF ks ps F ∧
  ∀ H', Kp x H H' → BkAt K (fun a => H a ≠ none) H' x t ks ps F → Q .non H'
theorem m_Book (T : Txt K mg) : Mak P w K mg base 8 "Book" (He.ga K "Book") (spBook K) [] := by
  have c_is_name := @c_is_name P w K mg base T
  have c_is_claim := @c_is_claim P w K mg base T
  have c_map_of := @c_map_of P PM w K mg base T
  refine makN T.i_Book sc_Book___init__ (fun vs H Q E h => ?_) (fun dvs f fd hl F => binds_all F 4 rfl (fun _ _ _ _ _ _ _ us its h1 h2 => match us, its, h1, h2.trans hl with | [_, _, _, _], [_], _, _ => ⟨_, rfl, rfl⟩) (by intro e; rw [e] at hl; cases hl)) (fun f cdv A outer s H vs Q E hr h => ?_)
  · obtain ⟨x, dx, t, l1, l2, ks, ps, F, us, rfl, _⟩ := h
    rfl
  · obtain ⟨x, dx, t, l1, l2, ks, ps, F, us, rfl, hx, hT, ok, hl1, ndp, hnm, hl2, pF, rm, k⟩ := h
    refine ⟨_, (pss_cons (ps_fld (pv 0) (pv 1) rfl)
      (pss_cons (ps_fld (pv 0) (pe_callTy call_tupLT (by rfl) T.b_tuple (by decide +kernel) (pa_cons (pv 2) pa_nil)) rfl)
      (pss_cons (ps_fld (pv 0) (pe_callTy call_tupLT (by rfl) T.b_tuple (by decide +kernel) (pa_cons (pv 3) pa_nil)) rfl)
      (pss_cons (ps_for PassesOwn.never rfl (pi_enumT (by rfl) T.b_enumerate (pa_cons (pe_fld (pv 0) rfl) pa_nil)) (pg_tup rfl (pgs_cons (pg_name (i := 4) sc_Book___init__.nd rfl (Or.inl rfl)) (pgs_cons (pg_name (i := 5) sc_Book___init__.nd rfl (Or.inl rfl)) pgs_nil))) (pss_cons (ps_if (pt_not (pt_val (pe_cx c_is_name hr (by first | decide | omega) rfl passL (pa_cons (pv 5) pa_nil)))) (pss_one ps_never) pss_nil)
      (pss_one (ps_if (pt_cmpR op_in_seq (pv 5) (pe_slice sl_tupA (pe_fldK K (pv 0) (by rfl)) po_none (po_some (pv 4))) (by rfl)) (pss_one ps_never) pss_nil))))
      (pss_cons (ps_for PassesOwn.never rfl (pi_enumT (by rfl) T.b_enumerate (pa_cons (pe_fld (pv 0) rfl) pa_nil)) (pg_tup rfl (pgs_cons (pg_name (i := 4) sc_Book___init__.nd rfl (Or.inl rfl)) (pgs_cons (pg_name (i := 6) sc_Book___init__.nd rfl (Or.inl rfl)) pgs_nil))) (pss_one (ps_if (pt_not (pt_val (pe_cx c_is_claim hr (by first | decide | omega) rfl passL (pa_cons (pv 6) (pa_cons (pv 1) (pa_cons (pe_fldK K (pv 0) (by rfl)) pa_nil)))))) (pss_one ps_never) pss_nil)))
      (pss_one (ps_fld (pv 0) (pe_cx c_map_of hr (by first | decide | omega) rfl passL (pa_cons (pv 0) pa_nil)) rfl))))))), ?_⟩
    have x0 : ∀ {b o}, H b = some o → (∀ C d f, o ≠ .ins C d f) → b ≠ x := fun e no => ne_of e hx (no _ _ _)
    have hl1x : ∀ {H' : Hp}, Kp x H H' → LT H' l1 (ps.map V.str) := fun kp => hl1.elim (fun e => .inl (kp _ _ e (x0 e (by intro _ _ _ z; cases z)))) fun e => .inr (kp _ _ e (x0 e (by intro _ _ _ z; cases z)))
    have hl2x : ∀ {H' : Hp}, Kp x H H' → LT H' l2 (us.map V.ref) := fun kp => hl2.elim (fun e => .inl (kp _ _ e (x0 e (by intro _ _ _ z; cases z)))) fun e => .inr (kp _ _ e (x0 e (by intro _ _ _ z; cases z)))
    walk_at "g"
    refine ⟨x, _, dx, _, rfl, hx, T.k_Book, T.a_Book__turns, by show 0 < 1000; decide, ?_⟩
    have kp1 := kp_upd x H (.ins (He.ga K "Book") dx (putF "turns" (.ref t) []))
    have hx1 : upd H x (.ins (He.ga K "Book") dx (putF "turns" (.ref t) [])) x = some (.ins (He.ga K "Book") dx [("turns", .ref t)]) := upd_same
    generalize upd H x (.ins (He.ga K "Book") dx (putF "turns" (.ref t) [])) = H1 at *
    walk_at "g"
    refine tup_of (hl1x kp1) fun pp H2 s2 hpp2 => ?_
    have kp2 : Kp x H H2 := kp1.trans s2.kp
    have hx2 := s2 _ _ hx1
    walk_at "g"
    refine ⟨x, _, dx, _, rfl, hx2, T.k_Book, T.a_Book__places, by show 1 < 1000; decide, ?_⟩
    have kp3 := kp_upd x H2 (.ins (He.ga K "Book") dx (putF "places" (.ref pp) [("turns", .ref t)]))
    have hx3 : upd H2 x (.ins (He.ga K "Book") dx (putF "places" (.ref pp) [("turns", .ref t)])) x = some (.ins (He.ga K "Book") dx [("turns", .ref t), ("places", .ref pp)]) := upd_same
    generalize upd H2 x (.ins (He.ga K "Book") dx (putF "places" (.ref pp) [("turns", .ref t)])) = H3 at *
    have hpp3 := kp3 _ _ hpp2 (ne_of hpp2 hx2 (by intro z; cases z))
    walk_at "g"
    refine tup_of (hl2x (kp2.trans kp3)) fun ff H4 s4 hff4 => ?_
    have hx4 := s4 _ _ hx3
    have kp4 : Kp x H H4 := (kp2.trans kp3).trans s4.kp
    walk_at "g"
    refine ⟨x, _, dx, _, rfl, hx4, T.k_Book, T.a_Book__facts, by show 2 < 1000; decide, ?_⟩
    have kp5 := kp_upd x H4 (.ins (He.ga K "Book") dx (putF "facts" (.ref ff) [("turns", .ref t), ("places", .ref pp)]))
    have hx5 : upd H4 x (.ins (He.ga K "Book") dx (putF "facts" (.ref ff) [("turns", .ref t), ("places", .ref pp)])) x = some (.ins (He.ga K "Book") dx (bkF t pp ff)) := upd_same
    generalize upd H4 x (.ins (He.ga K "Book") dx (putF "facts" (.ref ff) [("turns", .ref t), ("places", .ref pp)])) = H5 at *
    have hpp5 := kp5 _ _ (s4 _ _ hpp3) (ne_of (s4 _ _ hpp3) hx4 (by intro z; cases z))
    have hff5 := kp5 _ _ hff4 (ne_of hff4 hx4 (by intro z; cases z))
    have kpA : Kp x H H5 := kp4.trans kp5
    have hT5 := hT.kpi kpA hx
    have pF5 : P2 (FcT (He.ga K "Row") (He.ga K "Turns") ks H5) us F := pF.mono fun u f ⟨a, t2, e, r⟩ => ⟨a, t2, kpA _ _ e (x0 e (by intro _ _ _ z; cases z)), r.kpi kpA hx⟩
    clear kp1 hx1 s2 hpp2 kp2 hx2 kp3 hx3 hpp3 s4 hff4 hx4 kp4 kp5
    walk_at "g"
    refine ⟨x, _, dx, _, _, rfl, hx5, T.k_Book, T.a_Book__places, rfl, ?_⟩
    refine ⟨pp, _, rfl, SqT.of hpp5, ?_⟩
    refine for_enumT (K := K) (xs := ps.map V.str) (fun i σ H' => ∃ v4 v5 v6 : Option V, σ = [some (.ref x), some (.ref t), some (.ref l1), some (.ref l2), v4, v5, v6] ∧ Same H5 H') ⟨_, _, _, rfl, Same.refl _⟩ ?_ ?_ ?_
    · rintro i σ H' _ ⟨_, _, _, rfl, s'⟩
      exact SqT.of (s' _ _ hpp5)
    · rintro i y σ H6 hy ⟨v4, v5, v6, rfl, s6⟩ tt nt
      rw [List.getElem?_map] at hy
      obtain ⟨p, hp, rfl⟩ := Option.map_eq_some_iff.mp hy
      have hpm := mem_of_at hp
      have hi : i < ps.length := (List.getElem?_eq_some_iff.mp hp).1
      have np : p ∉ ps.take i := fun hmem => by
        obtain ⟨j, hj, e⟩ := List.getElem_of_mem hmem
        rw [List.length_take] at hj
        rw [List.getElem_take] at e
        obtain ⟨hi', ei⟩ := List.getElem?_eq_some_iff.mp hp
        rw [List.nodup_iff_pairwise_ne, List.pairwise_iff_getElem] at ndp
        exact ndp j i (by omega) hi' (by omega) (by rw [e, ei])
      have s7 : Same H5 (upd H6 tt (.tup [.int (i : Nat), .str p])) := s6.upd' nt
      generalize upd H6 tt (.tup [.int (i : Nat), .str p]) = H7 at *
      walk_at "g"
      refine .inl ⟨p, rfl, ?_, fun H8 s8 => ?_⟩
      · obtain ⟨c, r, e, _, l, _⟩ := hnm p hpm
        rw [len_tl, e, List.length_cons]
        omega
      rw [nameB_of (hnm p hpm)]
      have s58 := s7.trans s8
      walk_at "g"
      refine ⟨x, _, dx, _, _, rfl, s58 _ _ hx5, T.k_Book, T.a_Book__places, rfl, ?_⟩
      walk_at "g"
      refine sl_st (s58 _ _ hpp5) fun p1 H9 s9 hp1 => ?_
      rw [cut_tk, ← List.map_take] at hp1
      refine ⟨p1, _, rfl, .inr (SqT.of hp1), rfl, flat_strs _, ?_⟩
      rw [inV_strM, decide_eq_false np]
      walk_at "g"
      refine iteF ?_
      exact ⟨_, _, _, rfl, s58.trans s9⟩
    · rintro σ H6 ⟨v4, v5, v6, rfl, s6⟩
      walk_at "g"
      refine ⟨x, _, dx, _, _, rfl, s6 _ _ hx5, T.k_Book, T.a_Book__facts, rfl, ?_⟩
      refine ⟨ff, _, rfl, SqT.of (s6 _ _ hff5), ?_⟩
      refine for_enumT (K := K) (xs := us.map V.ref) (fun i σ H' => ∃ v4 v5 v6 : Option V, σ = [some (.ref x), some (.ref t), some (.ref l1), some (.ref l2), v4, v5, v6] ∧ Same H5 H') ⟨_, _, _, rfl, s6⟩ ?_ ?_ ?_
      · rintro i σ H' _ ⟨_, _, _, rfl, s'⟩
        exact SqT.of (s' _ _ hff5)
      · rintro i y σ H7 hy ⟨v4, v5, v6, rfl, s7⟩ tt nt
        rw [List.getElem?_map] at hy
        obtain ⟨u, hu, rfl⟩ := Option.map_eq_some_iff.mp hy
        obtain ⟨⟨p, r, q⟩, hf, a, t2, hut, hR⟩ := pF5.getl hu
        obtain ⟨hp, hq⟩ := rm.hF _ (mem_of_at hf)
        dsimp only at hp hq hut hR
        have s8 : Same H5 (upd H7 tt (.tup [.int (i : Nat), .ref u])) := s7.upd' nt
        generalize upd H7 tt (.tup [.int (i : Nat), .ref u]) = H8 at *
        walk_at "g"
        refine ⟨x, _, dx, _, _, rfl, s8 _ _ hx5, T.k_Book, T.a_Book__places, rfl, ?_⟩
        walk_at "g"
        refine ⟨u, a, t2, t, pp, p, q, ks, ks, r, ps, rfl, s8 _ _ hut, hR.same s8, hT5.same s8, ok, s8 _ _ hpp5, ?_⟩
        rw [decide_eq_true hp, decide_eq_true hq, decide_eq_true rfl]
        walk_at "g"
        refine iteF ?_
        exact ⟨_, _, _, rfl, s8⟩
      · rintro σ H7 ⟨v4, v5, v6, rfl, s7⟩
        walk_at "g"
        refine ⟨x, dx, t, pp, ff, ks, ps, F, us, rfl, s7 _ _ hx5, hT5.same s7, ok, s7 _ _ hpp5, ndp, s7 _ _ hff5, pF5.mono fun _ _ e => FcT.same s7 e, rm, fun H8 ad M S BM => ?_⟩
        have hx8 := S.out.s _ _ (s7 _ _ hx5)
        have nex : ∀ y, Lv (ks.map (·.1)) M y → ad y ≠ x := fun y hy e => by
          have := S.out.n y hy
          rw [e, s7 _ _ hx5] at this
          cases this
        walk_at "g"
        refine ⟨x, _, dx, _, rfl, hx8, T.k_Book, T.a_Book__rings, by show 3 < 1000; decide, ?_⟩
        have kp9 := kp_upd x H8 (.ins (He.ga K "Book") dx (putF "rings" (.ref (ad .obj)) (bkF t pp ff)))
        have hx9 : upd H8 x (.ins (He.ga K "Book") dx (putF "rings" (.ref (ad .obj)) (bkF t pp ff))) x = some (.ins (He.ga K "Book") dx (bkG t pp ff (ad .obj))) := upd_same
        generalize upd H8 x (.ins (He.ga K "Book") dx (putF "rings" (.ref (ad .obj)) (bkF t pp ff))) = H9 at *
        have s58 := s7.trans S.out.s
        have kpZ : Kp x H H9 := (kpA.trans s58.kp).trans kp9
        refine k H9 kpZ ⟨⟨dx, pp, ff, ad, M, hx9, kp9 _ _ (s58 _ _ hpp5) (ne_of (s58 _ _ hpp5) hx8 (by intro z; cases z)), S.at_.kpi kp9 hx8 (by intro vs z; cases z) nex, BM, fun y hy q => ?_, nex .obj trivial, us, kp9 _ _ (s58 _ _ hff5) (ne_of (s58 _ _ hff5) hx8 (by intro z; cases z))⟩, hT.kpi kpZ hx, ok, ndp, rm.hF, rm.lps⟩
        cases e : H (ad y) with
        | none => exact q e
        | some o =>
          have := S.out.n y hy
          rw [s7 _ _ (kpA _ _ e (nex y hy))] at this
          cases this
end
end Tr

/-! # Book.need_place, Book.__contains__, Book.leads (valid cases). -/
namespace Tr
open PySem L2 TL
/-- steps of a reading that are plain -/
local macro_rules | `(tactic| walk_at "x") => `(tactic| (refine' ⟨_, _, _, _, rfl, rfl, ?k1, ?k2, ?_⟩; (case k1 => exact SqT.of (by assumption)); (case k2 => exact rfl)))
local macro_rules | `(tactic| walk_at "g") => `(tactic| repeat (first | (refine ⟨_, rfl, ?_⟩) | (refine ⟨_, _, rfl, rfl, ?_⟩) | (refine ⟨_, _, rfl, ?_⟩) | (refine ⟨rfl, ?_⟩) | walk_at "x"))


theorem lc_pick {J : It} {G : Hp → Prop} {xs : List V} {i1 : Nat} {tt : TT} {te : TE} {vs : List Nat} {σ : L2.St} {H1 : Hp} {D : Addr} {Qd : Hp → Prop} (w : Walk J xs.length G (YAt xs)) (p : V → Bool)
    (hD : H1 D = none) (hsz : xs.length ≤ 100000) (hG : ∀ H, Same H1 H → G H) (hw : ∀ x, wipe ((wipe σ vs).set i1 x) vs = wipe σ vs)
    (ht : ∀ x, x ∈ xs → ∀ H Q, Same H1 H → (∀ H', Same H H' → Q (p x) H') → tt ((wipe σ vs).set i1 (some x)) H Q)
    (he : ∀ x, x ∈ xs → ∀ H Q, Same H1 H → Q x H → te ((wipe σ vs).set i1 (some x)) H Q)
    (hd : ∀ H, Same H1 H → H D = some (.lst (xs.filter p)) → Qd H) : LcG J (gName i1) tt te vs σ H1 D Qd := by
  refine lc_gen w (fun x => (wipe σ vs).set i1 (some x)) p (fun y c _ => y = c) (fun _ _ _ _ _ _ _ e => e) hD hsz hG ?_ (fun c _ => hw _) ht (fun c hc _ H Q s q => he c hc H Q s (q c H (Same.refl H) rfl)) fun ys H s hy py => ?_
  · rintro i H x H' c hc s ⟨rfl, hx⟩
    rw [hc] at hx
    cases hx
    exact ⟨Same.refl _, fun Q q => q⟩
  · have : ys = xs.filter p := by
      have : ∀ {a b : List V}, P2 (fun y c => y = c) a b → a = b := fun h => by
        induction h with
        | nil => rfl
        | cons r _ ih => rw [r, ih]
      exact this py
    rw [this] at hy
    exact hd H s hy
section
variable {P : Program} [PM : PMain P] {w : World} {K : PySem.W.Frag} {mg : Str → Option Value} {base : Heap}
def spNeedP (K : PySem.W.Frag) : Sp := fun vs H Q _ => ∃ (b db t pp ff rm : Addr) (p : Str) (ps : List Str), vs = [.ref b, .str p] ∧ H b = some (.ins (He.ga K "Book") db (bkG t pp ff rm)) ∧ H pp = some (.tup (ps.map V.str)) ∧ p ∈ ps ∧ Q .non H
theorem c_need_place (T : Txt K mg) : Met P w K mg base 1 (He.ga K "Book") "need_place" (spNeedP K) [] := by
  refine metN T.m_Book__need_place sc_Book_need_place (fun vs H Q E h => ?_) (fun _ _ _ _ _ _ us hl => match us, hl with | [_, _], _ => rfl) (fun f cdv A outer s H vs Q E hr h => ?_)
  · obtain ⟨b, db, t, pp, ff, rm, p, ps, rfl, _⟩ := h
    rfl
  · obtain ⟨b, db, t, pp, ff, rm, p, ps, rfl, hb, hpp, hp, k⟩ := h
    refine ⟨_, (pss_one (ps_if (PW.pt (pw_or (pt_not (pt_val (pe_callB call_isi (by rfl) T.b_isinstance (by decide +kernel) (pa_cons (pv 1) (pa_cons (pe_bltn (v := .ty "str") rfl T.b_str (by decide +kernel) rfl) pa_nil))))) (pw_or1 (pt_cmpR op_notIn_seq (pv 1) (pe_fldK K (pv 0) (by rfl)) (by rfl))))) (pss_one ps_never) pss_nil)), ?_⟩
    walk_at "g"
    refine ⟨.str p, .ty "str", _, _, true, rfl, .ty "str", .base (.str p), kit_ty (by decide +kernel), true, rfl, ?_⟩
    walk_at "g"
    refine ⟨b, _, db, _, _, rfl, hb, T.k_Book, T.a_Book__places, rfl, ?_⟩
    walk_at "g"
    refine ⟨pp, _, rfl, .inr (SqT.of hpp), rfl, flat_strs ps, ?_⟩
    rw [inV_strM, decide_eq_true hp]
    first
      | (refine iteF ?_; exact k)
      | (walk_at "g"; exact k)
def spHas (K : PySem.W.Frag) : Sp := fun vs H Q _ => ∃ (B : Addr → Prop) (b t u a t2 : Addr) (p q : Str) (ks ks2 x : List SI) (ps : List Str) (F : List Clm), vs = [.ref b, .ref u] ∧ BkAt K B H b t ks ps F ∧ H u = some (.tup [.str p, .ref a, .str q]) ∧ RwAt (He.ga K "Row") (He.ga K "Turns") H a t2 ks2 x ∧
  ∀ (r : Bool) H', Same H H' → (r = true ↔ p ∈ ps ∧ q ∈ ps ∧ ks2 = ks ∧ Fo (perOf ks) F p x q) → Q (.bl r) H'
theorem c_bhas (T : Txt K mg) : Met P w K mg base 5 (He.ga K "Book") "__contains__" (spHas K) [] := by
  have c_is_claim := @c_is_claim P w K mg base T
  have c_walk := @c_walk P PM w K mg base T
  refine metN T.m_Book____contains__ sc_Book___contains__ (fun vs H Q E h => ?_) (fun _ _ _ _ _ _ us hl => match us, hl with | [_, _], _ => rfl) (fun f cdv A outer s H vs Q E hr h => ?_)
  · obtain ⟨B, b, t, u, a, t2, p, q, ks, ks2, x, ps, F, rfl, _⟩ := h
    rfl
  · obtain ⟨B, b, t, u, a, t2, p, q, ks, ks2, x, ps, F, rfl, hB, hu, hR, k⟩ := h
    refine ⟨_, (pss_cons (ps_if (pt_not (pt_val (pe_cx c_is_claim hr (by first | decide | omega) rfl passL (pa_cons (pv 1) (pa_cons (pe_fldK K (pv 0) (by rfl)) (pa_cons (pe_fldK K (pv 0) (by rfl)) pa_nil)))))) (pss_one (ps_ret pe_bl)) pss_nil)
      (pss_cons (ps_asg (pv 1) (pg_tup rfl (pgs_cons (pg_name (i := 2) sc_Book___contains__.nd rfl (Or.inl rfl)) (pgs_cons (pg_name (i := 3) sc_Book___contains__.nd rfl (Or.inl rfl)) (pgs_cons (pg_name (i := 4) sc_Book___contains__.nd rfl (Or.inl rfl)) pgs_nil)))))
      (pss_one (ps_ret (pe_cmpR op_eq (pe_mtx c_walk hr (by first | decide | omega) passL (pe_fldK K (pv 0) (by rfl)) (pa_cons (pe_dget (hu_of hr) (pe_fldK K (pe_fldK K (pv 0) (by rfl)) (by rfl)) (pv 2) (fun _ _ => rfl)) (pa_cons (pv 3) pa_nil))) (pe_dget (hu_of hr) (pe_fldK K (pe_fldK K (pv 0) (by rfl)) (by rfl)) (pv 4) (fun _ _ => rfl)) (nomark _)))))), ?_⟩
    obtain ⟨db, pp, ff, ad, M, hb, hpp, hM, BM, _, _, _⟩ := id hB.ex
    obtain ⟨dm, hm⟩ := hM.obj
    walk_at "g"
    refine ⟨b, _, db, _, _, rfl, hb, T.k_Book, T.a_Book__turns, rfl, ?_⟩
    walk_at "g"
    refine ⟨b, _, db, _, _, rfl, hb, T.k_Book, T.a_Book__places, rfl, ?_⟩
    walk_at "g"
    refine ⟨u, a, t2, t, pp, p, q, ks, ks2, x, ps, rfl, hu, hR, hB.tu, hB.ok, hpp, ?_⟩
    by_cases c : p ∈ ps ∧ q ∈ ps ∧ ks2 = ks
    · obtain ⟨c1, c2, rfl⟩ := c
      rw [decide_eq_true c1, decide_eq_true c2, decide_eq_true rfl]
      walk_at "g"
      refine ⟨u, _, rfl, SqT.of hu, rfl, _, _, rfl, _, _, rfl, _, _, rfl, rfl, ?_⟩
      walk_at "g"
      refine ⟨b, _, db, _, _, rfl, hb, T.k_Book, T.a_Book__rings, rfl, ?_⟩
      refine ⟨ad .obj, dm, _, rfl, hm, rfl, ?_⟩
      walk_at "g"
      refine ⟨b, _, db, _, _, rfl, hb, T.k_Book, T.a_Book__rings, rfl, ?_⟩
      walk_at "g"
      refine ⟨ad .obj, _, dm, _, _, rfl, hm, T.k_RingMap, T.a_RingMap__spot_of, rfl, ?_⟩
      walk_at "g"
      refine ⟨ad .spotof, .int (M.pl p : Int), rfl, by
        have := DGet.k (k := (.inr p : Key)) hM.spotof
        rw [plK_at c1] at this
        exact this, ?_⟩
      walk_at "g"
      have hin : InS (ks2.map (·.1)) x := fun c hc => by
        obtain ⟨k', hk, e⟩ := hR.nm c hc
        exact List.mem_map.mpr ⟨k', hk, e⟩
      refine ⟨ks2.map (·.1), ps, perOf ks2, t, ad, M, M.pl p, a, t2, ks2, x, rfl, hM, BM.w, BM.fl, BM.plo p c1, hR, hin, fun H2 s2 => ?_⟩
      walk_at "g"
      refine ⟨b, _, db, _, _, rfl, s2 _ _ hb, T.k_Book, T.a_Book__rings, rfl, ?_⟩
      walk_at "g"
      refine ⟨ad .obj, _, dm, _, _, rfl, s2 _ _ hm, T.k_RingMap, T.a_RingMap__spot_of, rfl, ?_⟩
      walk_at "g"
      refine ⟨ad .spotof, .int (M.pl q : Int), rfl, by
        have := DGet.k (k := (.inr q : Key)) (hM.same s2).spotof
        rw [plK_at c2] at this
        exact this, ?_⟩
      walk_at "g"
      have key := BM.wlk (fun p r q m => hB.hF (p, r, q) m) c1 c2 hR.nf hin
      cases ho : M.wlk (some (M.pl p)) x with
      | none =>
        rw [ho] at key
        refine ⟨rfl, k _ H2 s2 ⟨fun z => (by cases z), fun z => (by cases key.mpr z.2.2.2)⟩⟩
      | some v =>
        rw [ho] at key
        refine ⟨rfl, k _ H2 s2 ?_⟩
        rw [decide_eq_true_eq]
        exact ⟨fun z => ⟨c1, c2, rfl, key.mp (by have := V.int.inj z; rw [show v = M.pl q by omega])⟩, fun z => by rw [Option.some.inj (key.mpr z.2.2.2)]; rfl⟩
    · have e : (decide (p ∈ ps) && decide (q ∈ ps) && decide (ks2 = ks)) = false := by
        rw [Bool.eq_false_iff]
        intro z
        rw [Bool.and_eq_true, Bool.and_eq_true, decide_eq_true_eq, decide_eq_true_eq, decide_eq_true_eq] at z
        exact c ⟨z.1.1, z.1.2, z.2⟩
      rw [e]
      walk_at "g"
      exact k false H (Same.refl H) ⟨fun z => (by cases z), fun z => absurd ⟨z.1, z.2.1, z.2.2.1⟩ c⟩
def spLeads (K : PySem.W.Frag) : Sp := fun vs H Q _ => ∃ (B : Addr → Prop) (b t a t2 : Addr) (p : Str) (ks x : List SI) (ps : List Str) (F : List Clm), vs = [.ref b, .str p, .ref a] ∧ BkAt K B H b t ks ps F ∧ p ∈ ps ∧ RwAt (He.ga K "Row") (He.ga K "Turns") H a t2 ks x ∧
  ∀ (d : Str → Bool) y H', Same H H' → (∀ q ∈ ps, d q = true ↔ Fo (perOf ks) F p x q) → H' y = some (.tup ((ps.filter d).map V.str)) → Q (.ref y) H'
theorem c_leads (T : Txt K mg) : Met P w K mg base 5 (He.ga K "Book") "leads" (spLeads K) [] := by
  have c_need_place := @c_need_place P PM w K mg base T
  have c_teq := @c_teq P w K mg base T
  have c_walk := @c_walk P PM w K mg base T
  refine metN T.m_Book__leads sc_Book_leads (fun vs H Q E h => ?_) (fun _ _ _ _ _ _ us hl => match us, hl with | [_, _, _], _ => rfl) (fun f cdv A outer s H vs Q E hr h => ?_)
  · obtain ⟨B, b, t, a, t2, p, ks, x, ps, F, rfl, _⟩ := h
    rfl
  · obtain ⟨B, b, t, a, t2, p, ks, x, ps, F, rfl, hB, hp, hR, k⟩ := h
    refine ⟨_, (pss_cons (ps_expr (pe_mtx c_need_place hr (by first | decide | omega) passL (pv 0) (pa_cons (pv 1) pa_nil)))
      (pss_cons (ps_if (pt_cmpR (or_neO c_teq T.n_Turns hr (by first | decide | omega) passL) (pe_fldK K (pv 2) (by rfl)) (pe_fldK K (pv 0) (by rfl)) (nomark _)) (pss_one ps_never) pss_nil)
      (pss_cons (ps_set (i := 3) sc_Book_leads.nd rfl (Or.inr rfl) (pe_mtx c_walk hr (by first | decide | omega) passL (pe_fldK K (pv 0) (by rfl)) (pa_cons (pe_dget (hu_of hr) (pe_fldK K (pe_fldK K (pv 0) (by rfl)) (by rfl)) (pv 1) (fun _ _ => rfl)) (pa_cons (pv 2) pa_nil))))
      (pss_one (ps_ret (pe_callTy call_tuple_of (by rfl) T.b_tuple (by decide +kernel) (pa_cons (pe_lc (own := [("name", 4)]) (g := gName 4) rfl sc_Book_leads.nd (pi_tupK K (pe_fldK K (pv 0) (by rfl))) (blkOk_by (own := [("name", 4)]) (N := ["self", "place", "row", "spot", "name"]) (sc := defScope s_Book_leads) (by decide +kernel)) (fun _ _ _ _ _ => (pg_name (i := 4) sc_Book_leads.nd rfl (Or.inl rfl))) (fun _ _ _ _ _ => (pts_one (pt_cmpR op_eq (pe_dget (hu_of hr) (pe_fldK K (pe_fldK K (pv 0) (by rfl)) (by rfl)) (pv 4) (fun _ _ => rfl)) (pv 3) (nomark _)))) (fun _ _ _ _ _ => (pv 4))) pa_nil))))))), ?_⟩
    obtain ⟨db, pp, ff, ad, M, hb, hpp, hM, BM, _, _, _⟩ := id hB.ex
    obtain ⟨dm, hm⟩ := hM.obj
    obtain ⟨da, st, ky, kk, pq, ys, ha, _⟩ := id hR.ex
    obtain ⟨d1, _, _, _, _, ht, _⟩ := id hB.tu.ex
    obtain ⟨d2, _, _, _, _, ht2, _⟩ := id hR.tu.ex
    have hin : InS (ks.map (·.1)) x := fun c hc => by
      obtain ⟨k', hk, e⟩ := hR.nm c hc
      exact List.mem_map.mpr ⟨k', hk, e⟩
    walk_at "g"
    refine ⟨b, db, _, rfl, hb, rfl, ?_⟩
    walk_at "g"
    refine ⟨b, db, t, pp, ff, _, p, ps, rfl, hb, hpp, hp, ?_⟩
    walk_at "g"
    refine ⟨a, _, da, _, _, rfl, ha, T.k_Row, T.a_Row__turns, rfl, ?_⟩
    walk_at "g"
    refine ⟨b, _, db, _, _, rfl, hb, T.k_Book, T.a_Book__turns, rfl, ?_⟩
    walk_at "g"
    refine ⟨t2, d2, _, t, d1, _, rfl, rfl, ht2, ht, t2, t, ks, ks, rfl, hR.tu, hB.tu, hB.ok, hB.ok, ?_⟩
    rw [decide_eq_true rfl]
    walk_at "g"
    refine ⟨b, _, db, _, _, rfl, hb, T.k_Book, T.a_Book__rings, rfl, ?_⟩
    refine ⟨ad .obj, dm, _, rfl, hm, rfl, ?_⟩
    walk_at "g"
    refine ⟨b, _, db, _, _, rfl, hb, T.k_Book, T.a_Book__rings, rfl, ?_⟩
    walk_at "g"
    refine ⟨ad .obj, _, dm, _, _, rfl, hm, T.k_RingMap, T.a_RingMap__spot_of, rfl, ?_⟩
    walk_at "g"
    refine ⟨ad .spotof, .int (M.pl p : Int), rfl, by
      have := DGet.k (k := (.inr p : Key)) hM.spotof
      rw [plK_at hp] at this
      exact this, ?_⟩
    walk_at "g"
    refine ⟨ks.map (·.1), ps, perOf ks, t, ad, M, M.pl p, a, t2, ks, x, rfl, hM, BM.w, BM.fl, BM.plo p hp, hR, hin, fun H2 s2 => ?_⟩
    walk_at "g"
    refine ⟨b, _, db, _, _, rfl, s2 _ _ hb, T.k_Book, T.a_Book__places, rfl, ?_⟩
    refine ⟨pp, rfl, ⟨_, SqT.of (s2 _ _ hpp)⟩, fun D nD => ?_⟩
    have key : ∀ q ∈ ps, decide (V.int (M.pl q : Int) = oN (M.wlk (some (M.pl p)) x)) = true ↔ Fo (perOf ks) F p x q := fun q hq => by
      have key := BM.wlk (fun p r q m => hB.hF (p, r, q) m) hp hq hR.nf hin
      rw [decide_eq_true_eq]
      cases ho : M.wlk (some (M.pl p)) x with
      | none =>
        rw [ho] at key
        exact ⟨fun z => (by cases z), fun z => (by cases key.mpr z)⟩
      | some v =>
        rw [ho] at key
        exact ⟨fun z => key.mp (by have := V.int.inj z; rw [show v = M.pl q by omega]), fun z => by rw [Option.some.inj (key.mpr z)]; rfl⟩
    have hlen : ps.length ≤ 100000 := Nat.le_trans hB.lp (by decide)
    refine lc_pick (walk_tup (K := K) (xs := ps.map V.str)) (fun v => match v with | .str q => decide (V.int (M.pl q : Int) = oN (M.wlk (some (M.pl p)) x)) | _ => false) nD (by rw [List.length_map]; exact hlen) (fun H' s' => SqT.of (s' _ _ (s2 _ _ hpp))) (fun _ => rfl) ?_ ?_ ?_
    · intro v hv H3 Q3 s3 q3
      obtain ⟨q, hq, rfl⟩ := List.mem_map.mp hv
      have s23 := s2.trans s3
      walk_at "g"
      refine ⟨b, _, db, _, _, rfl, s23 _ _ hb, T.k_Book, T.a_Book__rings, rfl, ?_⟩
      refine ⟨ad .obj, _, dm, _, _, rfl, s23 _ _ hm, T.k_RingMap, T.a_RingMap__spot_of, rfl, ?_⟩
      walk_at "g"
      refine ⟨ad .spotof, .int (M.pl q : Int), rfl, by
        have := DGet.k (k := (.inr q : Key)) (hM.same s23).spotof
        rw [plK_at hq] at this
        exact this, ?_⟩
      walk_at "g"
      have q4 := q3 H3 (Same.refl _)
      dsimp only at q4
      cases ho : M.wlk (some (M.pl p)) x with
      | none =>
        rw [ho] at q4
        first
          | exact ⟨rfl, q4⟩
          | exact ⟨rfl, _, rfl, q4⟩
          | (refine ⟨rfl, ?_⟩; walk_at "g"; exact q4)
      | some v =>
        rw [ho] at q4
        first
          | exact ⟨rfl, q4⟩
          | exact ⟨rfl, _, rfl, q4⟩
          | (refine ⟨rfl, ?_⟩; walk_at "g"; exact q4)
    · intro v hv H3 Q3 s3 q3
      walk_at "g"
      exact q3
    · intro H3 s3 hD3
      walk_at "g"
      have s23 := s2.trans s3
      rw [List.filter_map] at hD3
      refine ⟨D, _, rfl, .inl ⟨SqL.of hD3, fun l nl => ?_⟩⟩
      exact k (fun q => decide (V.int (M.pl q : Int) = oN (M.wlk (some (M.pl p)) x))) l _ (s23.trans (same_upd nl)) key upd_same
end
end Tr

/-! # One ring (plain): what follows is told by positions and one modulus. -/
namespace Tr
open PySem L2 TL
def modS (m : Int) : Setoid Int := ⟨fun a b => m ∣ a - b, fun a => by show m ∣ a - a; rw [Int.sub_self]; exact Int.dvd_zero _, fun {a b} h => by
  show m ∣ b - a
  have := Int.dvd_neg.mpr h
  rwa [Int.neg_sub] at this, fun {a b c} h h' => by
  show m ∣ a - c
  have := Int.dvd_add h h'
  rwa [show a - b + (b - c) = a - c by omega] at this⟩
/-- one ring of a modulus -/
def ringM (per : Str → Int) (c : Str) (m : Int) (h : m ∣ per c) : Mech per (Quotient (modS m)) where
  act d e x := if d = c then Quotient.lift (fun a => Quotient.mk (modS m) (a + e)) (fun a b (h : m ∣ a - b) => Quotient.sound (s := modS m) (show m ∣ a + e - (b + e) by rwa [show a + e - (b + e) = a - b by omega])) x else x
  zero d x := by
    by_cases e : d = c
    · rw [if_pos e]
      induction x using Quotient.inductionOn with
      | _ a =>
        show Quotient.mk (modS m) (a + 0) = _
        rw [Int.add_zero]
    · rw [if_neg e]
  add d k l x := by
    by_cases e : d = c
    · rw [if_pos e, if_pos e, if_pos e]
      induction x using Quotient.inductionOn with
      | _ a =>
        show Quotient.mk (modS m) (a + k + l) = Quotient.mk (modS m) (a + (k + l))
        rw [Int.add_assoc]
    · rw [if_neg e, if_neg e, if_neg e]
  pers d x hd := by
    by_cases e : d = c
    · rw [if_pos e]
      induction x using Quotient.inductionOn with
      | _ a =>
        refine Quotient.sound (s := modS m) ?_
        show m ∣ a + per d - a
        rw [show a + per d - a = per d by omega, e]
        exact h
    · rw [if_neg e]
theorem nodup_inj {l : List Str} (nd : l.Nodup) {i j : Nat} {hi : i < l.length} {hj : j < l.length} : l[i] = l[j] ↔ i = j := by
  constructor
  · intro e
    rw [List.nodup_iff_pairwise_ne, List.pairwise_iff_getElem] at nd
    rcases Nat.lt_trichotomy i j with h | h | h
    · exact absurd e (nd i j hi hj h)
    · exact h
    · exact absurd e.symm (nd j i hj hi h)
  · intro e
    subst e
    rfl
/-- a place and its position -/
def At2 (ps : List Str) (sp : List Int) (p : Str) (z : Int) : Prop := ∃ i : Nat, ps[i]? = some p ∧ sp[i]? = some z
theorem At2.fn {ps : List Str} {sp : List Int} (nd : ps.Nodup) {p : Str} {z w : Int} (h : At2 ps sp p z) (h' : At2 ps sp p w) : z = w := by
  obtain ⟨i, a, b⟩ := h
  obtain ⟨j, a', b'⟩ := h'
  have e : i = j := by
    obtain ⟨h1, e1⟩ := List.getElem?_eq_some_iff.mp a
    obtain ⟨h2, e2⟩ := List.getElem?_eq_some_iff.mp a'
    exact (nodup_inj nd).mp (e1.trans e2.symm)
  rw [e, b'] at b
  exact (Option.some.inj b).symm
theorem At2.snoc {ps : List Str} {sp : List Int} {p : Str} {z w : Int} (h : At2 ps sp p z) : At2 ps (sp ++ [w]) p z := by
  obtain ⟨i, a, b⟩ := h
  exact ⟨i, a, by rw [List.getElem?_append_left (List.getElem?_eq_some_iff.mp b).1]; exact b⟩
/-- what is told on one ring -/
abbrev Tl := Str × Int × Str
structure RI (per : Str → Int) (c : Str) (ps : List Str) (sp : List Int) (T : List Tl) (m : Int) : Prop where
  dv : m ∣ per c
  nn : 0 ≤ m
  g3 : ∀ t ∈ T, ∃ z w, At2 ps sp t.1 z ∧ At2 ps sp t.2.2 w ∧ m ∣ z + t.2.1 - w
  go : ∀ {X : Type} (A : Mech per X) (x : Str → X), (∀ t ∈ T, A.act c t.2.1 (x t.1) = x t.2.2) → ∀ p0, ps[0]? = some p0 → (∀ p z, At2 ps sp p z → A.act c z (x p0) = x p) ∧ A.act c m (x p0) = x p0
section
variable {per : Str → Int} {c : Str} {ps : List Str} {sp : List Int} {T : List Tl} {m : Int}
theorem RI.start (hp : 0 ≤ per c) : RI per c ps [0] [] (per c) := by
  refine ⟨Int.dvd_refl _, hp, fun t ht => (by cases ht), fun {X} A x _ p0 h0 => ⟨fun p z ⟨i, a, b⟩ => ?_, ?_⟩⟩
  · have : i = 0 := by
      have := (List.getElem?_eq_some_iff.mp b).1
      simpa using this
    subst this
    cases b
    rw [h0] at a
    cases a
    exact A.zero _ _
  · by_cases e : 0 < per c
    · exact A.pers _ _ e
    · rw [show per c = 0 by omega]
      exact A.zero _ _
theorem RI.perm {T' : List Tl} (h : RI per c ps sp T m) (e : ∀ t, t ∈ T' ↔ t ∈ T) : RI per c ps sp T' m :=
  ⟨h.dv, h.nn, fun t ht => h.g3 t ((e t).mp ht), fun A x hx => h.go A x fun t ht => hx t ((e t).mpr ht)⟩
theorem RI.chain (h : RI per c ps sp T m) {k : Nat} {p q : Str} {z f : Int} (hp : ps[k]? = some p) (hq : ps[k + 1]? = some q) (hz : sp[k]? = some z) (hl : sp.length = k + 1) : RI per c ps (sp ++ [z + f]) (T ++ [(p, f, q)]) m := by
  have hz' : At2 ps (sp ++ [z + f]) p z := At2.snoc ⟨k, hp, hz⟩
  have hw' : At2 ps (sp ++ [z + f]) q (z + f) := ⟨k + 1, hq, by rw [← hl, List.getElem?_append_right (Nat.le_refl _), Nat.sub_self]; rfl⟩
  refine ⟨h.dv, h.nn, fun t ht => ?_, fun {X} A x hx p0 h0 => ?_⟩
  · rcases List.mem_append.mp ht with ht | ht
    · obtain ⟨z1, w1, a, b, d⟩ := h.g3 t ht
      exact ⟨z1, w1, a.snoc, b.snoc, d⟩
    · rw [List.mem_singleton.mp ht]
      exact ⟨z, z + f, hz', hw', by show m ∣ z + f - (z + f); rw [Int.sub_self]; exact Int.dvd_zero _⟩
  · obtain ⟨a, b⟩ := h.go A x (fun t ht => hx t (List.mem_append_left _ ht)) p0 h0
    refine ⟨fun p' z' ⟨i, a1, b1⟩ => ?_, b⟩
    by_cases hi : i < sp.length
    · rw [List.getElem?_append_left hi] at b1
      exact a p' z' ⟨i, a1, b1⟩
    · rw [List.getElem?_append_right (by omega)] at b1
      have e0 : i - sp.length = 0 := by
        have := (List.getElem?_eq_some_iff.mp b1).1
        simpa using this
      rw [e0] at b1
      cases b1
      have ei : i = k + 1 := by omega
      rw [ei, hq] at a1
      cases a1
      have h1 := hx (p, f, q) (List.mem_append_right _ (List.mem_singleton.mpr rfl))
      dsimp only at h1
      rw [← A.add, a p z ⟨k, hp, hz⟩]
      exact h1
theorem RI.round (h : RI per c ps sp T m) {p q : Str} {z w f : Int} (hz : At2 ps sp p z) (hw : At2 ps sp q w) : RI per c ps sp (T ++ [(p, f, q)]) (Int.gcd m (z + f - w) : Int) := by
  have d1 : ((Int.gcd m (z + f - w) : Nat) : Int) ∣ m := Int.gcd_dvd_left ..
  refine ⟨Int.dvd_trans d1 h.dv, by omega, fun t ht => ?_, fun {X} A x hx p0 h0 => ?_⟩
  · rcases List.mem_append.mp ht with ht | ht
    · obtain ⟨z1, w1, a, b, d⟩ := h.g3 t ht
      exact ⟨z1, w1, a, b, Int.dvd_trans d1 d⟩
    · rw [List.mem_singleton.mp ht]
      exact ⟨z, w, hz, hw, Int.gcd_dvd_right ..⟩
  · obtain ⟨a, b⟩ := h.go A x (fun t ht => hx t (List.mem_append_left _ ht)) p0 h0
    refine ⟨a, A.fix_gcd b ?_⟩
    have h1 := hx (p, f, q) (List.mem_append_right _ (List.mem_singleton.mpr rfl))
    dsimp only at h1
    have h2 := A.add c (z + f) (-w) (x p0)
    rw [← A.add c z f, a p z hz, h1, ← a q w hw, A.add, Int.add_right_neg, A.zero, show z + f + -w = z + f - w by omega] at h2
    exact h2.symm
def clmT (per : Str → Int) (c : Str) (T : List Tl) : List Clm := T.map fun t => (t.1, normL per [(c, t.2.1)], t.2.2)
theorem RI.fo (h : RI per c ps sp T m) (nd : ps.Nodup) {p q : Str} {z w f : Int} (hz : At2 ps sp p z) (hw : At2 ps sp q w) : Fo per (clmT per c T) p (normL per [(c, f)]) q ↔ m ∣ z + f - w := by
  constructor
  · intro k
    let pos : Str → Int := fun p => (sp[ps.idxOf p]?).getD 0
    have hpos : ∀ {p z}, At2 ps sp p z → pos p = z := fun {p z} ⟨i, a, b⟩ => by
      have e : ps.idxOf p = i := by
        obtain ⟨h1, e1⟩ := List.getElem?_eq_some_iff.mp a
        have hm : p ∈ ps := List.mem_of_getElem? a
        have h2 := List.idxOf_lt_length_of_mem hm
        have h3 : ps[ps.idxOf p]'h2 = p := List.getElem_idxOf h2
        exact (nodup_inj nd).mp (h3.trans e1.symm)
      show (sp[ps.idxOf p]?).getD 0 = z
      rw [e, b]
      rfl
    have hold : Holds (ringM per c m h.dv) (fun p => Quotient.mk (modS m) (pos p)) (clmT per c T) := by
      intro p' r q' hm
      obtain ⟨t, ht, e⟩ := List.mem_map.mp hm
      cases e
      obtain ⟨z1, w1, a, b, d⟩ := h.g3 t ht
      rw [Mech.row_norm]
      show (if c = c then _ else _) = _
      rw [if_pos rfl]
      refine Quotient.sound (s := modS m) ?_
      show m ∣ pos t.1 + t.2.1 - pos t.2.2
      rw [hpos a, hpos b]
      exact d
    have := k.holds hold
    rw [Mech.row_norm] at this
    have this : (if c = c then _ else _) = _ := this
    rw [if_pos rfl] at this
    have d : m ∣ pos p + f - pos q := Quotient.exact (s := modS m) this
    rw [hpos hz, hpos hw] at d
    exact d
  · intro d
    obtain ⟨p0, h0⟩ : ∃ p0, ps[0]? = some p0 := by
      obtain ⟨i, a, _⟩ := hz
      have := (List.getElem?_eq_some_iff.mp a).1
      exact ⟨_, List.getElem?_eq_getElem (by omega)⟩
    obtain ⟨a, b⟩ := h.go (freeM per (clmT per c T)) (freeX per (clmT per c T)) (fun t ht => by
      have := free_holds (per := per) (F := clmT per c T) _ _ _ (List.mem_map.mpr ⟨t, ht, rfl⟩)
      rw [Mech.row_norm] at this
      exact this) p0 h0
    refine free_iff.mp ?_
    show (freeM per (clmT per c T)).act c f (freeX per (clmT per c T) p) = _
    have e := (freeM per (clmT per c T)).fix_dvd b d
    have e2 := (freeM per (clmT per c T)).add c (z + f - w) w (freeX per (clmT per c T) p0)
    rw [e, a q w hw, show z + f - w + w = z + f by omega, ← Mech.add, a p z hz] at e2
    exact e2.symm
end
end Tr

/-! # A comprehension over a range that draws (T12 alone). -/
namespace Tr
open PySem L2 TL
/-- steps of a reading that are plain -/
local macro_rules | `(tactic| walk_at "x") => `(tactic| (refine' ⟨_, _, _, _, rfl, rfl, ?k1, ?k2, ?_⟩; (case k1 => exact SqT.of (by assumption)); (case k2 => exact rfl)))
local macro_rules | `(tactic| walk_at "g") => `(tactic| repeat (first | (refine ⟨_, rfl, ?_⟩) | (refine ⟨_, _, rfl, rfl, ?_⟩) | (refine ⟨_, _, rfl, ?_⟩) | (refine ⟨rfl, ?_⟩) | walk_at "x"))


theorem lc_rngJ {lo : Int} {n : Nat} {i1 : Nat} {tt : TT} {te : TE} {vs : List Nat} {σ : L2.St} {H1 : Hp} {D p q : Addr} {N d : Nat} {Qd : Hp → Prop} (R : V → Nat → Hp → Prop)
    (hR1 : ∀ y c H H' kvs, H p = some (.dK kvs) → Kp p H H' → R y c H → R y c H') (hR2 : ∀ y c H H' acc, H D = some (.lst acc) → Kp D H H' → R y c H → R y c H') (hD : H1 D = none) (hB : Bag H1 p q N) (hsz : n ≤ 100000)
    (hw : ∀ x, wipe ((wipe σ vs).set i1 x) vs = wipe σ vs) (ht : ∀ σ H Q, Q true H → tt σ H Q)
    (he : ∀ i, i < n → ∀ H Q M, Kp p H1 H → Bag H p q M → M ≤ N + d * n → (∃ acc, H D = some (.lst acc)) → (∀ y H', Kp p H H' → Bag H' p q (M + d) → R y i H' → Q y H') → te ((wipe σ vs).set i1 (some (.int (lo + i)))) H Q)
    (hd : ∀ ys H, Kp p H1 H → Bag H p q (N + d * n) → H D = some (.lst ys) → P2 (fun y c => R y c H) ys (List.range n) → Qd H) : LcG (Itr lo n) (gName i1) tt te vs σ H1 D Qd := by
  obtain ⟨kvs, cells, hp, hq⟩ := hB.at_
  have npD : p ≠ D := ne_of_none hp hD
  have nqD : q ≠ D := ne_of_none hq hD
  refine lc_range (fun i H => Kp p H1 H ∧ Bag H p q (N + d * i) ∧ ∃ ys, H D = some (.lst ys) ∧ P2 (fun y c => R y c H) ys (List.range i)) ⟨(same_upd hD).kp, hB.wr npD.symm nqD.symm, [], upd_same, .nil⟩ ?_ ?_
  · rintro i H hi ⟨s, hBi, ys, hy, py⟩
    have ll : ys.length ≤ 100000 := by
      have h1 := py.len
      rw [List.length_range] at h1
      omega
    refine ⟨hw _, ht _ _ _ ?_⟩
    rw [if_pos rfl]
    obtain ⟨kvs2, cells2, hp2, hq2⟩ := hBi.at_
    have : N + d * i ≤ N + d * n := Nat.add_le_add_left (Nat.mul_le_mul_left d (Nat.le_of_lt hi)) N
    refine he i hi H _ _ s hBi this ⟨_, hy⟩ fun y H' s' hB' r' => ⟨ys, s' _ _ hy npD.symm, small_app (Nat.le_refl _) ll, (s.trans s').wr hD, ?_, ys ++ [y], upd_same, ?_⟩
    · rw [Nat.mul_succ, ← Nat.add_assoc]
      exact hB'.wr npD.symm nqD.symm
    · rw [List.range_succ]
      have hy' := s' _ _ hy npD.symm
      exact (py.mono fun v b rb => hR2 v b H' _ _ hy' (kp_upd D H' _) (hR1 v b H H' _ hp2 s' rb)).snoc (hR2 y i H' _ _ hy' (kp_upd D H' _) r')
  · rintro H ⟨s, hBi, ys, hy, py⟩
    exact hd ys H s hBi hy py
end Tr

/-! # Turns and rows kept when a list is changed; tuples of texts compared. -/
namespace Tr
open PySem L2 TL
/-- steps of a reading that are plain -/
local macro_rules | `(tactic| walk_at "x") => `(tactic| (refine' ⟨_, _, _, _, rfl, rfl, ?k1, ?k2, ?_⟩; (case k1 => exact SqT.of (by assumption)); (case k2 => exact rfl)))
local macro_rules | `(tactic| walk_at "g") => `(tactic| repeat (first | (refine ⟨_, rfl, ?_⟩) | (refine ⟨_, _, rfl, rfl, ?_⟩) | (refine ⟨_, _, rfl, ?_⟩) | (refine ⟨rfl, ?_⟩) | walk_at "x"))


theorem TuAt.kpL {C l a : Addr} {H H' : Hp} {xs : List V} {ks : List SI} (h : TuAt C H a ks) (kp : Kp l H H') (hl : H l = some (.lst xs)) : TuAt C H' a ks := by
  obtain ⟨dt, p1, p2, p3, p4, e0, ⟨ts, a1, b1⟩, e2, e3, e4⟩ := h.ex
  exact ⟨dt, p1, p2, p3, p4, kp _ _ e0 (ne_of e0 hl (by intro z; cases z)), ⟨ts, kp _ _ a1 (ne_of a1 hl (by intro z; cases z)), b1.mono fun _ _ e => kp _ _ e (ne_of e hl (by intro z; cases z))⟩, kp _ _ e2 (ne_of e2 hl (by intro z; cases z)), kp _ _ e3 (ne_of e3 hl (by intro z; cases z)), kp _ _ e4 (ne_of e4 hl (by intro z; cases z))⟩
theorem RwAt.kpL {CR CT l a t : Addr} {H H' : Hp} {xs : List V} {ks ss : List SI} (h : RwAt CR CT H a t ks ss) (kp : Kp l H H') (hl : H l = some (.lst xs)) : RwAt CR CT H' a t ks ss := by
  obtain ⟨d0, st, ky, kk, pp, ys, e0, ⟨ts, a1, b1⟩, e2, e3, e4, ⟨us, a5, b5⟩⟩ := h.ex
  have no : ∀ {a : Addr} {xs : List V}, H a = some (.tup xs) → H' a = some (.tup xs) := fun h => kp _ _ h (ne_of h hl (by intro z; cases z))
  exact ⟨⟨d0, st, ky, kk, pp, ys, kp _ _ e0 (ne_of e0 hl (by intro z; cases z)), ⟨ts, no a1, b1.mono fun _ _ e => no e⟩, no e2, no e3, e4.mono fun _ _ e => no e, ⟨us, no a5, b5.mono fun _ _ e => no e⟩⟩, h.tu.kpL kp hl, h.ok, h.nf, h.nm, h.le⟩
theorem FcT.kpL {CR CT l u : Addr} {H H' : Hp} {xs : List V} {ks : List SI} {f : Clm} (h : FcT CR CT ks H u f) (kp : Kp l H H') (hl : H l = some (.lst xs)) : FcT CR CT ks H' u f :=
  let ⟨a, t2, e, r⟩ := h
  ⟨a, t2, kp _ _ e (ne_of e hl (by intro z; cases z)), r.kpL kp hl⟩
/-! texts as data -/
theorem dpa_strs {K : PySem.W.Frag} {H : Hp} : ∀ ps : List Str, DpAll K H (ps.map V.str) (ps.map PyData.str)
  | [] => .nil
  | p :: ps => .cons (.str p) (dpa_strs ps)
theorem lay_strs : ∀ xs : List Str, (∀ x ∈ xs, PyData.strOk x = true) → PyData.canLayAll0 (xs.map PyData.str) = true
  | [], _ => rfl
  | x :: xs, h => by
    show (PyData.strOk x && PyData.canLayAll0 (xs.map PyData.str)) = true
    rw [h x List.mem_cons_self, lay_strs xs fun y hy => h y (List.mem_cons_of_mem _ hy)]
    rfl
theorem depth_strs : ∀ xs : List Str, PyData.depthAll (xs.map PyData.str) = 0
  | [] => rfl
  | x :: xs => by
    show max 0 (PyData.depthAll (xs.map PyData.str)) = 0
    rw [depth_strs xs]
    rfl
theorem shaped_strs {xs : List Str} (ok : ∀ x ∈ xs, PyData.strOk x = true) : SeqAt.shaped (.tuple (xs.map PyData.str)) = true := by
  unfold SeqAt.shaped
  rw [Bool.and_eq_true, decide_eq_true_eq]
  refine ⟨lay_strs xs ok, ?_⟩
  show PyData.depthAll (xs.map PyData.str) + 1 ≤ 64
  rw [depth_strs]
  decide
theorem ne_strs {K : PySem.W.Frag} {H : Hp} {a b : Addr} {xs : List Str} {Q : VK} (ha : H a = some (.tup (xs.map V.str))) (hb : H b = some (.tup (xs.map V.str))) (ok : ∀ x ∈ xs, PyData.strOk x = true) (q : Q (.bl false) H) : rNeD K (.ref a) (.ref b) H Q := by
  have sh := shaped_strs ok
  refine ⟨_, _, .tup (SqT.of ha) (dpa_strs xs), .tup (SqT.of hb) (dpa_strs xs), sh, sh, ?_⟩
  have sh' := sh
  unfold SeqAt.shaped at sh'
  rw [Bool.and_eq_true] at sh'
  rw [SeqAt.eqv_refl _ sh'.1]
  exact q
end Tr

/-! # k21: the law's divisor, agrees. -/
namespace Tr
open PySem L2 TL
/-- steps of a reading that are plain -/
local macro_rules | `(tactic| walk_at "x") => `(tactic| (refine' ⟨_, _, _, _, rfl, rfl, ?k1, ?k2, ?_⟩; (case k1 => exact SqT.of (by assumption)); (case k2 => exact rfl)))
local macro_rules | `(tactic| walk_at "g") => `(tactic| repeat (first | (refine ⟨_, rfl, ?_⟩) | (refine ⟨_, _, rfl, rfl, ?_⟩) | (refine ⟨_, _, rfl, ?_⟩) | (refine ⟨rfl, ?_⟩) | walk_at "x"))


theorem P2.strs {α : Type} {S : Str → α → Prop} {ys : List V} {cs : List α} (h : P2 (fun y c => ∃ z, y = V.str z ∧ S z c) ys cs) : ∃ zs : List Str, ys = zs.map V.str ∧ P2 S zs cs := by
  induction h with
  | nil => exact ⟨[], rfl, .nil⟩
  | cons r _ ih =>
    obtain ⟨z, e, s⟩ := r
    obtain ⟨zs, e2, p⟩ := ih
    exact ⟨z :: zs, by rw [e, e2]; rfl, .cons s p⟩
/-- names by the number at their end -/
theorem nms_ok {zs : List Str} {n k : Nat} (h : P2 (fun z i => Nm (k + i) z) zs (List.range n)) : zs.length = n ∧ zs.Nodup ∧ ∀ z ∈ zs, NmOk z := by
  have hl := h.len
  rw [List.length_range] at hl
  have at_ : ∀ i (hi : i < zs.length), Nm (k + i) zs[i] := fun i hi => by
    obtain ⟨j, hj, r⟩ := h.getl (List.getElem?_eq_getElem hi)
    rw [List.getElem?_range (by omega)] at hj
    cases hj
    exact r
  refine ⟨hl, ?_, fun z hz => ?_⟩
  · rw [List.nodup_iff_pairwise_ne, List.pairwise_iff_getElem]
    intro i j hi hj lt e
    have h1 := at_ i hi
    rw [e] at h1
    have := h1.inj (at_ j hj)
    omega
  · obtain ⟨i, hi, rfl⟩ := List.getElem_of_mem hz
    exact (at_ i hi).1
structure S21 (K : PySem.W.Frag) (p q lp t : Addr) (c : Str) (P : Int) (ps : List Str) (N : Nat) (H : Hp) : Prop where
  bag : Bag H p q N
  hlp : H lp = some (.lst (ps.map V.str))
  tu : TuAt (He.ga K "Turns") H t [(c, P)]
  ne : TuNe H t p
  ok : KsOk [(c, P)]
  ndp : ps.Nodup
  nm : ∀ x ∈ ps, NmOk x
  l0 : 0 < ps.length
  l3 : ps.length ≤ 3
section
variable {K : PySem.W.Frag} {p q lp t l : Addr} {c : Str} {P : Int} {ps : List Str} {N M : Nat} {H H' : Hp} {xs ys : List V}
theorem S21.mono (h : S21 K p q lp t c P ps N H) (l : N ≤ M) : S21 K p q lp t c P ps M H := ⟨h.bag.mono l, h.hlp, h.tu, h.ne, h.ok, h.ndp, h.nm, h.l0, h.l3⟩
theorem S21.same (s : Same H H') (h : S21 K p q lp t c P ps N H) : S21 K p q lp t c P ps N H' :=
  ⟨h.bag.same s, s _ _ h.hlp, h.tu.same s, h.ne.to h.tu fun o e => s _ _ e, h.ok, h.ndp, h.nm, h.l0, h.l3⟩
theorem S21.kpB (k : Kp p H H') (hb : Bag H' p q M) (h : S21 K p q lp t c P ps N H) : S21 K p q lp t c P ps M H' :=
  let ⟨_, _, hp, _⟩ := h.bag.at_
  ⟨hb, k _ _ h.hlp (ne_of h.hlp hp (by intro z; cases z)), h.tu.kpB h.ne k hp, h.ne.kpB h.tu k hp, h.ok, h.ndp, h.nm, h.l0, h.l3⟩
theorem S21.wr (hl : H l = some (.lst xs)) (n1 : l ≠ lp) (n2 : l ≠ q) (h : S21 K p q lp t c P ps N H) : S21 K p q lp t c P ps N (upd H l (.lst ys)) := by
  obtain ⟨_, _, hp, _⟩ := h.bag.at_
  have n3 : l ≠ p := ne_of hl hp (by intro z; cases z)
  obtain ⟨dt, p1, p2, p3, p4, e0, ⟨ts, a1, b1⟩, e2, e3, e4⟩ := h.tu.ex
  have kp := kp_upd l H (.lst ys)
  refine ⟨h.bag.wr n3 n2, kp _ _ h.hlp n1.symm, ⟨dt, p1, p2, p3, p4, kp _ _ e0 (ne_of e0 hl (by intro z; cases z)), ⟨ts, kp _ _ a1 (ne_of a1 hl (by intro z; cases z)), b1.mono fun _ _ e => kp _ _ e (ne_of e hl (by intro z; cases z))⟩, kp _ _ e2 (ne_of e2 hl (by intro z; cases z)), kp _ _ e3 (ne_of e3 hl (by intro z; cases z)), kp _ _ e4 (ne_of e4 hl (by intro z; cases z))⟩, ?_, h.ok, h.ndp, h.nm, h.l0, h.l3⟩
  exact h.ne.to h.tu fun o e => kp _ _ e (by rintro rfl; rw [e0] at hl; cases hl)
/-- what is told, in the heap -/
def TlT (H : Hp) (u : Addr) (t : Tl) : Prop := H u = some (.tup [.str t.1, .int t.2.1, .str t.2.2])
theorem TlT.kp {o : HO} (k : Kp l H H') (hl : H l = some o) (no : ∀ vs, o ≠ .tup vs) {u : Addr} {t : Tl} (h : TlT H u t) : TlT H' u t := k _ _ h (ne_of h hl fun z => no _ z.symm)
end
section
variable {P : Program} {w : World} {K : PySem.W.Frag} {mg : Str → Option Value} {base : Heap}
theorem c__law_divisor (T : Txt K mg) : Cal P w K mg base 1 "_law_divisor" spGcd [] := by
  refine calN T.d__law_divisor sc__law_divisor (fun vs H Q E h => ?_) (fun _ _ _ _ _ _ us hl => match us, hl with | [_, _], _ => rfl) (fun f cdv A outer s H vs Q E hr h => ?_)
  · obtain ⟨a, b, rfl, _⟩ := h
    rfl
  · obtain ⟨a, b, rfl, k⟩ := h
    refine ⟨_, (pss_cons (ps_par (i := 0) (j := 1) (by rfl) sc__law_divisor.nd rfl rfl (by decide) rfl rfl (pa_cons (pe_callB call_abs (by rfl) T.b_abs (by decide +kernel) (pa_cons (pv 0) pa_nil)) (pa_cons (pe_callB call_abs (by rfl) T.b_abs (by decide +kernel) (pa_cons (pv 1) pa_nil)) pa_nil)) (by rfl))
      (pss_cons (ps_while PassesOwn.never (pt_cmpR op_gt (pv 1) pe_int (nomark _)) (pss_one (ps_par (i := 0) (j := 1) (by rfl) sc__law_divisor.nd rfl rfl (by decide) rfl rfl (pa_cons (pv 1) (pa_cons (pe_op op_mod (pe_callTy call_int1 (by rfl) T.b_int (by decide +kernel) (pa_cons (pv 0) pa_nil)) (pv 1)) pa_nil)) (by rfl))))
      (pss_one (ps_ret (pv 0))))), ?_⟩
    walk_at "g"
    rw [abs_eq, abs_eq]
    refine wh (fun σ H' => H' = H ∧ ∃ x y : Int, σ = [some (.int x), some (.int y)] ∧ 0 ≤ x ∧ 0 ≤ y ∧ Int.gcd x y = Int.gcd a b) (fun σ _ => match σ with | [_, some (V.int y)] => y.toNat | _ => 0)
      ⟨rfl, (a.natAbs : Int), (b.natAbs : Int), rfl, by omega, by omega, by simp [Int.gcd]⟩ ?_ ?_
    · rintro σ H' ⟨rfl, x, y, rfl, hx, hy, hg⟩
      walk_at "g"
      refine ite2 (fun c => ?_) (fun c => ?_)
      · have hy' : 0 < y := of_decide_eq_true c
        refine ⟨_, fun _ _ h => h, ?_⟩
        walk_at "g"
        refine .inl ⟨_, rfl, ?_⟩
        walk_at "g"
        refine ⟨hy', _, _, rfl, ⟨rfl, _, _, rfl, hy, Int.emod_nonneg _ (by omega), (gcd_step hy').trans hg⟩, ?_⟩
        show (x % y).toNat < y.toNat
        have := Int.emod_lt_of_pos x hy'
        omega
      · have hy' : ¬ 0 < y := fun z => c (decide_eq_true z)
        have e : y = 0 := by omega
        subst e
        walk_at "g"
        have : x = Int.gcd a b := by rw [← hg, Int.gcd_zero_right]; omega
        rw [this]
        exact k
    · rintro σ H' Q1 Q2 hq ⟨v, hv, i, j, e1, e2, b, e3, z⟩
      exact ⟨v, hv, i, j, e1, e2, b, e3, hq _ _ z⟩
def spAgr : Sp := fun vs H Q _ => ∃ f m : Int, vs = [.int f, .int m] ∧ 0 ≤ m ∧ Q (.bl (decide (m ∣ f))) H
theorem c__law_agrees (T : Txt K mg) : Cal P w K mg base 1 "_law_agrees" spAgr [] := by
  refine calN T.d__law_agrees sc__law_agrees (fun vs H Q E h => ?_) (fun _ _ _ _ _ _ us hl => match us, hl with | [_, _], _ => rfl) (fun f cdv A outer s H vs Q E hr h => ?_)
  · obtain ⟨a, b, rfl, _⟩ := h
    rfl
  · obtain ⟨a, m, rfl, hm, k⟩ := h
    refine ⟨_, (pss_one (ps_ret (pe_ifExp (pt_cmpR op_eq (pv 1) pe_int (nomark _)) (pe_cmpR op_eq (pv 0) pe_int (nomark _)) (pe_cmpR op_eq (pe_op op_mod (pe_callTy call_int1 (by rfl) T.b_int (by decide +kernel) (pa_cons (pv 0) pa_nil)) (pv 1)) pe_int (nomark _))))), ?_⟩
    walk_at "g"
    by_cases c : m = 0
    · subst c
      refine iteEq rfl ?_
      walk_at "g"
      have e : decide (V.int a = V.int 0) = decide ((0 : Int) ∣ a) := decide_eq_decide.mpr ⟨fun z => by rw [V.int.inj z]; exact Int.dvd_zero _, fun z => by rw [Int.zero_dvd.mp z]⟩
      first
        | exact e ▸ k
        | (rw [e]; exact k)
    · rw [decide_eq_false (fun q => c (V.int.inj q))]
      refine iteF ?_
      walk_at "g"
      refine .inl ⟨_, rfl, ?_⟩
      walk_at "g"
      refine ⟨by omega, ?_⟩
      walk_at "g"
      have e : decide (V.int (a % m) = V.int 0) = decide (m ∣ a) := decide_eq_decide.mpr ⟨fun z => Int.dvd_of_emod_eq_zero (V.int.inj z), fun z => by rw [Int.emod_eq_zero_of_dvd z]⟩
      rw [e]
      exact k
end
end Tr

/-! # k21: the book and the claims. -/
/- wanted: T.d__law_bag T.d__law_draw T.d__law_ident T.d__law_divisor T.d__law_agrees T.i_Turns T.i_Row T.v_Turns T.v_Row T.b_range T.b_len T.b_tuple T.v_Book T.b_abs T.b_int -/
namespace Tr
open PySem L2 TL
/-- steps of a reading that are plain -/
local macro_rules | `(tactic| walk_at "x") => `(tactic| (refine' ⟨_, _, _, _, rfl, rfl, ?k1, ?k2, ?_⟩; (case k1 => exact SqT.of (by assumption)); (case k2 => exact rfl)))
local macro_rules | `(tactic| walk_at "g") => `(tactic| repeat (first | (refine ⟨_, rfl, ?_⟩) | (refine ⟨_, _, rfl, rfl, ?_⟩) | (refine ⟨_, _, rfl, ?_⟩) | (refine ⟨rfl, ?_⟩) | walk_at "x"))


theorem csT_clm (per : Str → Int) (c : Str) : ∀ T : List Tl, csT (clmT per c T) ≤ T.length
  | [] => Nat.le_refl _
  | t :: T => by
    have h := csT_clm per c T
    have h1 := (normL_sub (per := per) (ss := [(c, t.2.1)])).2
    have h1 : (normL per [(c, t.2.1)]).length ≤ 1 := h1
    show (normL per [(c, t.2.1)]).length + csT (clmT per c T) ≤ T.length + 1
    omega
theorem clm_places {per : Str → Int} {c : Str} {ps : List Str} {sp : List Int} {T : List Tl} {m : Int} (h : RI per c ps sp T m) : ∀ f ∈ clmT per c T, f.1 ∈ ps ∧ f.2.2 ∈ ps := fun f hf => by
  obtain ⟨t, ht, rfl⟩ := List.mem_map.mp hf
  obtain ⟨z, w, ⟨i, a, _⟩, ⟨j, b, _⟩, _⟩ := h.g3 t ht
  exact ⟨mem_of_at a, mem_of_at b⟩
/-- the places whose numbers are told -/
theorem pick_eq {ps : List Str} {n : Nat} (hn : ps.length = n) (d : Str → Bool) (e : Nat → Bool) (h : ∀ i x, ps[i]? = some x → d x = e i) : ((List.range n).filter e).map (fun i => V.str (ps[i]?.getD "")) = (ps.filter d).map V.str := by
  subst hn
  have key : ∀ k, k ≤ ps.length → ((List.range k).filter e).map (fun i => V.str (ps[i]?.getD "")) = ((ps.take k).filter d).map V.str := by
    intro k
    induction k with
    | zero => intro _; rfl
    | succ k ih =>
      intro hk
      have hx : ps[k]? = some ps[k] := List.getElem?_eq_getElem hk
      rw [List.range_succ, List.filter_append, List.map_append, ih (by omega), take_snoc hx, List.filter_append, List.map_append, List.filter_cons, List.filter_cons, h k _ hx]
      cases e k with
      | false => rfl
      | true => rw [if_pos rfl, if_pos rfl, List.filter_nil, List.filter_nil, List.map_singleton, List.map_singleton, hx]; rfl
  rw [key ps.length (Nat.le_refl _), List.take_length]
/-- what stands while claims are asked -/
structure C21 (K : PySem.W.Frag) (B : Addr → Prop) (p q lp ls t b : Addr) (c : Str) (P : Int) (ps : List Str) (sp : List Int) (F : List Clm) (N : Nat) (H : Hp) : Prop where
  s : S21 K p q lp t c P ps N H
  hls : H ls = some (.lst (sp.map V.int))
  bk : BkAt K B H b t [(c, P)] ps F
  bp : B p
section
variable {K : PySem.W.Frag} {B : Addr → Prop} {p q lp ls t b : Addr} {c : Str} {P : Int} {ps : List Str} {sp : List Int} {F : List Clm} {N M : Nat} {H H' : Hp}
theorem C21.same (s' : Same H H') (h : C21 K B p q lp ls t b c P ps sp F N H) : C21 K B p q lp ls t b c P ps sp F N H' := ⟨h.s.same s', s' _ _ h.hls, h.bk.same s', h.bp⟩
theorem C21.mono (h : C21 K B p q lp ls t b c P ps sp F N H) (l : N ≤ M) : C21 K B p q lp ls t b c P ps sp F M H := ⟨h.s.mono l, h.hls, h.bk, h.bp⟩
theorem C21.kpB (k : Kp p H H') (hb : Bag H' p q M) (h : C21 K B p q lp ls t b c P ps sp F N H) : C21 K B p q lp ls t b c P ps sp F M H' :=
  let ⟨_, _, hp, _⟩ := h.s.bag.at_
  ⟨h.s.kpB k hb, k _ _ h.hls (ne_of h.hls hp (by intro z; cases z)), h.bk.kpB k hp h.s.ne h.bp, h.bp⟩
end
section
variable {P : Program} [PM : PMain P] {w : World} {K : PySem.W.Frag} {mg : Str → Option Value} {base : Heap}
theorem law_c (T : Txt K mg) (fl : Addr) (cdv : Value) (A : Around) (outer : List Env) (s : Shared) (H : Hp) (E : XK) (hr : Room 79 (A.deeper (PyProof.Rows.envOfC "law" (defScope s_law) s.heap.objs.size fl cdv))) :
    ∃ t3, PSs (cxOf (L2.CX P w) P w K mg base ["_law_script", "_law_bag_here", "_law_scale", "_law_period", "_law_name", "_law_turns", "_law_places", "_law_spots", "_law_told", "_law_k", "_law_far", "_law_modulus", "_law_one", "_law_two", "_law_book", "_law_row", "_law_due", "_law_other"] "law" (defScope s_law) fl cdv A outer s H E).nox ((defBody s_law).drop 11) t3 ∧
      ∀ (Q : VK) (σ : L2.St) (H : Hp), (∃ (a0 p q lp ls lt t : Addr) (c : Str) (P sc m : Int) (ps : List Str) (sp : List Int) (us : List Addr) (TT : List Tl) (N : Nat) (v9 v10 v12 v13 : Option V), σ = [some (.ref a0), some (.ref p), some (.int sc), some (.int P), some (.str c), some (.ref t), some (.ref lp), some (.ref ls), some (.ref lt), v9, v10, some (.int m), v12, v13, none, none, none, none] ∧ S21 K p q lp t c P ps N H ∧ N ≤ 500 ∧ H ls = some (.lst (sp.map V.int)) ∧ H lt = some (.lst (us.map V.ref)) ∧ P2 (TlT H) us TT ∧ TT.length ≤ 10 ∧ RI (perOf [(c, P)]) c ps sp TT m ∧ sp.length = ps.length) →
        (∀ H', Q (.bl true) H') → t3 { nx := fun _ H' => Q .non H', rt := Q } σ H := by
  have c__law_draw := @c__law_draw P w K mg base T
  have c__law_agrees := @c__law_agrees P w K mg base T
  have c_bhas := @c_bhas P PM w K mg base T
  have c_leads := @c_leads P PM w K mg base T
  have m_Book := @m_Book P PM w K mg base T
  have m_Row := @m_Row P w K mg base T
  refine ⟨_, (pss_cons (ps_set (i := 14) sc_law.nd rfl (Or.inl rfl) (pe_mkx m_Book hr (by first | decide | omega) rfl passL (pa_cons (pv 5) (pa_cons (pv 6) (pa_cons (pe_lc (own := [("_law_one", 12), ("_law_far", 10), ("_law_two", 13)]) (g := gTup K 3 (gCons (gName 12) (gCons (gName 10) (gCons (gName 13) gNil)))) rfl sc_law.nd (pi_listK K (pv 8)) (blkOk_by (own := [("_law_one", 12), ("_law_far", 10), ("_law_two", 13)]) (N := ["_law_script", "_law_bag_here", "_law_scale", "_law_period", "_law_name", "_law_turns", "_law_places", "_law_spots", "_law_told", "_law_k", "_law_far", "_law_modulus", "_law_one", "_law_two", "_law_book", "_law_row", "_law_due", "_law_other"]) (sc := defScope s_law) (by decide +kernel)) (fun _ _ _ _ _ => (pg_tup rfl (pgs_cons (pg_name (i := 12) sc_law.nd rfl (Or.inl rfl)) (pgs_cons (pg_name (i := 10) sc_law.nd rfl (Or.inl rfl)) (pgs_cons (pg_name (i := 13) sc_law.nd rfl (Or.inl rfl)) pgs_nil))))) (fun _ _ _ _ _ => pts_nil) (fun _ _ _ _ _ => (pe_tup (pa_cons (pv 12) (pa_cons (pe_mkx m_Row hr (by first | decide | omega) rfl passL (pa_cons (pv 5) (pa_cons (pe_lst (pa_cons (pe_tup (pa_cons (pv 4) (pa_cons (pv 10) pa_nil))) pa_nil)) pa_nil))) (pa_cons (pv 13) pa_nil)))))) pa_nil)))))
      (pss_cons (ps_for PassesOwn.never rfl (pi_range1 (by rfl) T.b_range (pa_cons pe_int pa_nil)) (pg_name (i := 9) sc_law.nd rfl (Or.inl rfl)) (pss_cons (ps_asg (pe_tup (pa_cons (pe_cx c__law_draw hr (by first | decide | omega) rfl passL (pa_cons (pv 1) (pa_cons (pe_callB call_len (by rfl) T.b_len (by decide +kernel) (pa_cons (pv 6) pa_nil)) pa_nil))) (pa_cons (pe_cx c__law_draw hr (by first | decide | omega) rfl passL (pa_cons (pv 1) (pa_cons (pe_callB call_len (by rfl) T.b_len (by decide +kernel) (pa_cons (pv 6) pa_nil)) pa_nil))) pa_nil))) (pg_tup rfl (pgs_cons (pg_name (i := 12) sc_law.nd rfl (Or.inr rfl)) (pgs_cons (pg_name (i := 13) sc_law.nd rfl (Or.inl rfl)) pgs_nil))))
      (pss_cons (ps_set (i := 10) sc_law.nd rfl (Or.inr rfl) (pe_op op_add (pe_op op_sub (pe_ix ix_list (pv 7) (pv 13) (fun _ _ => rfl)) (pe_ix ix_list (pv 7) (pv 12) (fun _ _ => rfl))) (pe_op op_mul (pv 11) (pe_op op_sub (pe_cx c__law_draw hr (by first | decide | omega) rfl passL (pa_cons (pv 1) (pa_cons pe_int pa_nil))) pe_int))))
      (C8.pss_cut (ps_if (pt_cmpR op_eq (pe_cx c__law_draw hr (by first | decide | omega) rfl passL (pa_cons (pv 1) (pa_cons pe_int pa_nil))) pe_int (nomark _)) (pss_one (ps_set (i := 10) sc_law.nd rfl (Or.inr rfl) (pe_op op_add (pv 10) (pe_op op_mul (pe_op op_sub (pe_cx c__law_draw hr (by first | decide | omega) rfl passL (pa_cons (pv 1) (pa_cons pe_int pa_nil))) pe_int) (pe_ix ix_list (pe_lst (pa_cons pe_int (pa_cons (pv 2) pa_nil))) (pe_cx c__law_draw hr (by first | decide | omega) rfl passL (pa_cons (pv 1) (pa_cons pe_int pa_nil))) (fun _ _ => rfl)))))) pss_nil)
      (pss_cons (ps_set (i := 15) sc_law.nd rfl (Or.inl rfl) (pe_mkx m_Row hr (by first | decide | omega) rfl passL (pa_cons (pv 5) (pa_cons (pe_lst (pa_cons (pe_tup (pa_cons (pv 4) (pa_cons (pv 10) pa_nil))) pa_nil)) pa_nil))))
      (pss_cons (ps_setLc (i := 16) (own := [("_law_other", 17)]) (g := gName 17) rfl sc_law.nd rfl rfl (sw_true rfl rfl rfl (by decide +kernel)) (pi_range1 (by rfl) T.b_range (pa_cons (pe_callB call_len (by rfl) T.b_len (by decide +kernel) (pa_cons (pv 6) pa_nil)) pa_nil)) (blkOk_by (own := [("_law_other", 17)]) (N := ["_law_script", "_law_bag_here", "_law_scale", "_law_period", "_law_name", "_law_turns", "_law_places", "_law_spots", "_law_told", "_law_k", "_law_far", "_law_modulus", "_law_one", "_law_two", "_law_book", "_law_row", "_law_due", "_law_other"]) (sc := defScope s_law) (by decide +kernel)) (fun _ _ _ _ _ => (pg_name (i := 17) sc_law.nd rfl (Or.inl rfl))) (fun _ _ _ _ _ => (pts_one (pt_val (pe_cx c__law_agrees hr (by first | decide | omega) rfl passL (pa_cons (pe_op op_sub (pe_op op_add (pe_ix (ix_listK K) (pv 7) (pv 12) (fun _ _ => rfl)) (pv 10)) (pe_ix (ix_listK K) (pv 7) (pv 17) (fun _ _ => rfl))) (pa_cons (pv 11) pa_nil)))))) (fun _ _ _ _ _ => (pv 17)))
      (pss_cons (ps_if (pt_cmpR op_ne (pe_cmpR (or_inO c_bhas hr (by first | decide | omega) passL) (pe_tup (pa_cons (pe_ix ix_list (pv 6) (pv 12) (fun _ _ => rfl)) (pa_cons (pv 15) (pa_cons (pe_ix ix_list (pv 6) (pv 13) (fun _ _ => rfl)) pa_nil)))) (pv 14) (by rfl)) (pe_cmpR op_in_seq (pv 13) (pv 16) (by rfl)) (nomark _)) (pss_one (ps_ret pe_bl)) pss_nil)
      (pss_one (ps_if (pt_cmpR (op_neD (units_of hr)) (pe_mtx c_leads hr (by first | decide | omega) passL (pv 14) (pa_cons (pe_ix ix_list (pv 6) (pv 12) (fun _ _ => rfl)) (pa_cons (pv 15) pa_nil))) (pe_callTy call_tuple_of (by rfl) T.b_tuple (by decide +kernel) (pa_cons (pe_lc (own := [("_law_other", 17)]) (g := gName 17) rfl sc_law.nd (pi_listK K (pv 16)) (blkOk_by (own := [("_law_other", 17)]) (N := ["_law_script", "_law_bag_here", "_law_scale", "_law_period", "_law_name", "_law_turns", "_law_places", "_law_spots", "_law_told", "_law_k", "_law_far", "_law_modulus", "_law_one", "_law_two", "_law_book", "_law_row", "_law_due", "_law_other"]) (sc := defScope s_law) (by decide +kernel)) (fun _ _ _ _ _ => (pg_name (i := 17) sc_law.nd rfl (Or.inl rfl))) (fun _ _ _ _ _ => pts_nil) (fun _ _ _ _ _ => (pe_ix (ix_listK K) (pv 6) (pv 17) (fun _ _ => rfl)))) pa_nil)) (nomark _)) (pss_one (ps_ret pe_bl)) pss_nil)))))))))
      (pss_one (ps_ret pe_bl)))), ?_⟩
  rintro Q σ H ⟨a0, p, q, lp, ls, lt, t, c, P, sc, m, ps, sp, us, TT, N, v9, v10, v12, v13, rfl, S, hN, hls, hlt, pT, lT, ri, hsp⟩ k
  have ul := pT.len
  have hper : perOf [(c, P)] c = P := by
    unfold perOf lookS
    simp
  have l0 := S.l0
  have l3 := S.l3
  obtain ⟨kvs0, cells0, hp0, hq0⟩ := id S.bag.at_
  walk_at "g"
  refine ⟨⟨_, SqL.of hlt⟩, fun D nD => ?_⟩
  have wl : Walk (Itl K lt) TT.length (fun H => SqL K H lt (us.map V.ref)) (YAt (us.map V.ref)) := by
    have := walk_list (K := K) (a := lt) (xs := us.map V.ref)
    rwa [List.length_map, ul] at this
  refine lc_gen wl (fun tt => [some (.ref a0), some (.ref p), some (.int sc), some (.int P), some (.str c), some (.ref t), some (.ref lp), some (.ref ls), some (.ref lt), v9, some (.int tt.2.1), some (.int m), some (.str tt.1), some (.str tt.2.2), none, none, none, none]) (fun _ => true) (fun y tt H => ∃ u, y = .ref u ∧ FcT (He.ga K "Row") (He.ga K "Turns") [(c, P)] H u (tt.1, normL (perOf [(c, P)]) [(c, tt.2.1)], tt.2.2)) ?_ nD (by omega) (fun H' s' => SqL.of (s' _ _ hlt)) ?_ (fun _ _ => rfl) (fun c _ H Q _ q => q H (Same.refl H)) ?_ ?_
  · rintro y tt H' H'' acc hD kp ⟨u, rfl, h⟩
    exact ⟨u, rfl, h.kpL kp hD⟩
  · rintro i H' x H'' tt htt s' ⟨rfl, hx⟩
    rw [List.getElem?_map] at hx
    obtain ⟨u, hu, rfl⟩ := Option.map_eq_some_iff.mp hx
    obtain ⟨t', ht', r⟩ := pT.getl hu
    rw [htt] at ht'
    cases ht'
    exact ⟨Same.refl _, fun Q q => ⟨u, _, rfl, SqT.of (s' _ _ r), rfl, _, _, rfl, _, _, rfl, _, _, rfl, rfl, q⟩⟩
  · rintro ⟨x1, f, x2⟩ htt _ H2 Q2 s2 q2
    walk_at "g"
    refine ⟨by show 2 ≤ sizeLine; decide, fun u nu => ?_⟩
    have s3 := same_upd (o := .tup [.str c, .int f]) nu
    have hu : upd H2 u (.tup [.str c, .int f]) u = some (.tup [.str c, .int f]) := upd_same
    generalize upd H2 u (.tup [.str c, .int f]) = H3 at *
    walk_at "g"
    refine ⟨by show 1 ≤ sizeLine; decide, fun l nl => ?_⟩
    have s4 := same_upd (o := .lst [V.ref u]) nl
    have hl : upd H3 l (.lst [V.ref u]) l = some (.lst [V.ref u]) := upd_same
    have hu4 := s4 _ _ hu
    generalize upd H3 l (.lst [V.ref u]) = H4 at *
    have s24 := s3.trans s4
    have S4 := S.same (s2.trans s24)
    walk_at "g"
    intro r dr nr ndr ner
    have sm := same_made (o := .ins (He.ga K "Row") dr []) (o2 := .own r) nr ndr
    refine ⟨r, dr, t, l, [(c, P)], [(c, f)], [u], rfl, upd_same, S4.tu.same sm, S4.ok, ⟨.inl (SqL.of (sm _ _ hl)), .cons (.inl (SqT.of (sm _ _ hu4))) .nil⟩, by show 1 ≤ 10000; decide, fun d hd => ?_, fun H5 kp5 hR => ⟨rfl, ?_⟩⟩
    · rw [List.mem_singleton.mp hd]
      exact ⟨(c, P), List.mem_singleton.mpr rfl, rfl⟩
    have s45 := mk_same kp5 nr ndr
    walk_at "g"
    refine ⟨by show 3 ≤ sizeLine; decide, fun w' nw => ?_⟩
    have s6 := same_upd (o := .tup [.str x1, .ref r, .str x2]) nw
    exact q2 _ _ ((s24.trans s45).trans s6) ⟨w', rfl, r, t, upd_same, hR.same s6⟩
  · intro ys H2 s2 hD2 py
    obtain ⟨ws, rfl, pw⟩ : ∃ ws : List Addr, ys = ws.map V.ref ∧ P2 (FcT (He.ga K "Row") (He.ga K "Turns") [(c, P)] H2) ws (clmT (perOf [(c, P)]) c TT) := by
      have ft : TT.filter (fun _ => true) = TT := List.filter_eq_self.mpr fun _ _ => rfl
      rw [ft] at py
      clear hD2
      generalize TT = T0 at py
      induction py with
      | nil => exact ⟨[], rfl, .nil⟩
      | cons r _ ih =>
        obtain ⟨u, e, h⟩ := r
        obtain ⟨ws, e2, pw⟩ := ih
        exact ⟨u :: ws, by rw [e, e2]; rfl, .cons h pw⟩
    have S2 := S.same s2
    have hls2 := s2 _ _ hls
    clear py
    intro b db nb ndb nbd
    have sm := same_made (o := .ins (He.ga K "Book") db []) (o2 := .own b) nb ndb
    have rm : RoomF [(c, P)] ps (clmT (perOf [(c, P)]) c TT) := by
      have h1 := csT_clm (perOf [(c, P)]) c TT
      refine ⟨by omega, ?_, by omega, clm_places ri⟩
      show (ps.length + csT (clmT (perOf [(c, P)]) c TT)) * 1 + (clmT (perOf [(c, P)]) c TT).length + 1 ≤ 9000
      have h2 : (clmT (perOf [(c, P)]) c TT).length = TT.length := List.length_map ..
      omega
    have SM := S2.same sm
    refine ⟨b, db, t, lp, D, [(c, P)], ps, clmT (perOf [(c, P)]) c TT, ws, rfl, upd_same, SM.tu, SM.ok, .inl SM.hlp, S.ndp, S.nm, .inl (sm _ _ hD2), pw.mono fun _ _ e => FcT.same sm e, rm, fun H3 kp3 hBk => ⟨rfl, ?_⟩⟩
    have s23 := mk_same kp3 nb ndb
    obtain ⟨kvs2, cells2, hp2, hq2⟩ := id SM.bag.at_
    have C3 : C21 K (fun a => upd (upd H2 db (.own b)) b (.ins (He.ga K "Book") db []) a ≠ none) p q lp ls t b c P ps sp (clmT (perOf [(c, P)]) c TT) N H3 := ⟨S2.same s23, s23 _ _ hls2, hBk, fun z => by rw [z] at hp2; cases hp2⟩
    generalize (fun a => upd (upd H2 db (.own b)) b (.ins (He.ga K "Book") db []) a ≠ none) = B at C3
    clear hBk kp3 SM sm rm pw hD2 hls2 S2
    walk_at "g"
    refine ⟨by decide, by decide, ?_⟩
    refine for_range (lo := 0) (n := 8) (fun i σ H' => ∃ (w9 w10 w12 w13 w15 w16 w17 : Option V), σ = [some (.ref a0), some (.ref p), some (.int sc), some (.int P), some (.str c), some (.ref t), some (.ref lp), some (.ref ls), some (.ref lt), w9, w10, some (.int m), w12, w13, some (.ref b), w15, w16, w17] ∧ C21 K B p q lp ls t b c P ps sp (clmT (perOf [(c, P)]) c TT) (N + 6 * i) H') ⟨_, _, _, _, _, _, _, rfl, C3⟩ ?_ ?_
    · rintro i σ H4 hi ⟨w9, w10, w12, w13, w15, w16, w17, rfl, C4⟩
      have bps : Bd 8000 (ps.length : Int) := Bd.mono (n := 7) (by show (ps.length : Int).natAbs < 2 ^ 7; omega) (by decide)
      walk_at "g"
      refine ⟨_, _, rfl, .inl ⟨_, SqL.of C4.s.hlp, rfl⟩, ?_⟩
      rw [List.length_map]
      walk_at "g"
      refine ⟨p, q, (ps.length : Int), _, rfl, C4.s.bag, by omega, by omega, bps, fun v2 H5 kp5 hB5 v20 v21 => ?_⟩
      have C5 := C4.kpB kp5 hB5
      walk_at "g"
      refine ⟨_, _, rfl, .inl ⟨_, SqL.of C5.s.hlp, rfl⟩, ?_⟩
      rw [List.length_map]
      walk_at "g"
      refine ⟨p, q, (ps.length : Int), _, rfl, C5.s.bag, by omega, by omega, bps, fun v3 H6 kp6 hB6 v30 v31 => ?_⟩
      have C6 := C5.kpB kp6 hB6
      obtain ⟨a, rfl⟩ : ∃ j : Nat, v2 = (j : Int) := ⟨v2.toNat, by omega⟩
      obtain ⟨e, rfl⟩ : ∃ j : Nat, v3 = (j : Int) := ⟨v3.toNat, by omega⟩
      walk_at "g"
      refine ⟨by show 2 ≤ sizeLine; decide, fun u nu => ?_⟩
      have s7 := same_upd (o := .tup [.int (a : Int), .int (e : Int)]) nu
      refine ⟨u, _, rfl, SqT.of upd_same, rfl, _, _, rfl, _, _, rfl, rfl, ?_⟩
      have C7 := C6.same s7
      generalize upd H6 u (.tup [.int (a : Int), .int (e : Int)]) = H7 at *
      obtain ⟨z, hz⟩ : ∃ z, sp[a]? = some z := ⟨_, List.getElem?_eq_getElem (by omega)⟩
      obtain ⟨w', hw'⟩ : ∃ z, sp[e]? = some z := ⟨_, List.getElem?_eq_getElem (by omega)⟩
      obtain ⟨x1, hx1⟩ : ∃ z, ps[a]? = some z := ⟨_, List.getElem?_eq_getElem (by omega)⟩
      obtain ⟨x2, hx2⟩ : ∃ z, ps[e]? = some z := ⟨_, List.getElem?_eq_getElem (by omega)⟩
      walk_at "g"
      refine ⟨ls, _, (e : Int), .int w', rfl, rfl, SqL.of C7.hls, atI_nat (by rw [List.getElem?_map, hw']; rfl), ?_⟩
      walk_at "g"
      refine ⟨ls, _, (a : Int), .int z, rfl, rfl, SqL.of C7.hls, atI_nat (by rw [List.getElem?_map, hz]; rfl), ?_⟩
      walk_at "g"
      refine ⟨p, q, 9, _, rfl, C7.s.bag, by omega, by decide, Bd.mono (n := 7) (by decide : (9 : Int).natAbs < 2 ^ 7) (by decide), fun v4 H8 kp8 hB8 v40 v41 => ?_⟩
      have C8 := C7.kpB kp8 hB8
      walk_at "g"
      refine ⟨.inr ⟨by omega, by omega⟩, ?_⟩
      walk_at "g"
      refine ⟨fun σ' H' => ∃ far : Int, σ' = [some (.ref a0), some (.ref p), some (.int sc), some (.int P), some (.str c), some (.ref t), some (.ref lp), some (.ref ls), some (.ref lt), some (.int (0 + (i : Int))), some (.int far), some (.int m), some (.int (a : Int)), some (.int (e : Int)), some (.ref b), w15, w16, w17] ∧ C21 K B p q lp ls t b c P ps sp (clmT (perOf [(c, P)]) c TT) (N + 6 * i + 6) H', ?_, ?_⟩
      · walk_at "g"
        refine ⟨p, q, 2, _, rfl, C8.s.bag, by omega, by decide, Bd.mono (n := 7) (by decide : (2 : Int).natAbs < 2 ^ 7) (by decide), fun v5 H9 kp9 hB9 v50 v51 => ?_⟩
        have C9 := C8.kpB kp9 hB9
        walk_at "g"
        refine iteB (fun c1 => ?_) (fun c1 => ?_)
        · walk_at "g"
          refine ⟨p, q, 13, _, rfl, C9.s.bag, by omega, by decide, Bd.mono (n := 7) (by decide : (13 : Int).natAbs < 2 ^ 7) (by decide), fun v6 Ha kpa hBa v60 v61 => ?_⟩
          have Ca := C9.kpB kpa hBa
          walk_at "g"
          refine ⟨by show 2 ≤ sizeLine; decide, fun l1 nl1 => ?_⟩
          have sb := same_upd (o := .lst (([1, sc] : List Int).map V.int)) nl1
          have Cb := Ca.same sb
          obtain ⟨kvsb, cellsb, hpb, hqb⟩ := id Ca.s.bag.at_
          have npl1 : l1 ≠ p := (ne_of_none hpb nl1).symm
          have hlb : upd Ha l1 (.lst (([1, sc] : List Int).map V.int)) l1 = some (.lst (([1, sc] : List Int).map V.int)) := upd_same
          walk_at "g"
          refine ⟨p, q, 2, _, rfl, Cb.s.bag, by omega, by decide, Bd.mono (n := 7) (by decide : (2 : Int).natAbs < 2 ^ 7) (by decide), fun v7 Hc kpc hBc v70 v71 => ?_⟩
          have Cc := Cb.kpB kpc hBc
          obtain ⟨j, rfl⟩ : ∃ j : Nat, v7 = (j : Int) := ⟨v7.toNat, by omega⟩
          have hj : j < ([1, sc] : List Int).length := by show j < 2; omega
          refine ⟨l1, _, (j : Int), .int (([1, sc] : List Int)[j]), rfl, rfl, SqL.of (kpc _ _ hlb npl1), atI_nat (j := j) (by rw [List.getElem?_map, List.getElem?_eq_getElem hj]; rfl), ?_⟩
          walk_at "g"
          refine ⟨.inl ⟨by omega, by omega⟩, ?_⟩
          walk_at "g"
          first
            | exact Cc.mono (by omega)
            | exact ⟨_, rfl, Cc.mono (by omega)⟩
        · walk_at "g"
          first
            | exact C9.mono (by omega)
            | exact ⟨_, rfl, C9.mono (by omega)⟩
      · rintro σ' H9 ⟨far, rfl, C9⟩
        walk_at "g"
        refine ⟨by show 2 ≤ sizeLine; decide, fun u2 nu2 => ?_⟩
        have s1 := same_upd (o := .tup [.str c, .int far]) nu2
        have hu2 : upd H9 u2 (.tup [.str c, .int far]) u2 = some (.tup [.str c, .int far]) := upd_same
        generalize upd H9 u2 (.tup [.str c, .int far]) = Ha at *
        walk_at "g"
        refine ⟨by show 1 ≤ sizeLine; decide, fun l nl => ?_⟩
        have s2' := same_upd (o := .lst [V.ref u2]) nl
        have hl : upd Ha l (.lst [V.ref u2]) l = some (.lst [V.ref u2]) := upd_same
        have hu3 := s2' _ _ hu2
        generalize upd Ha l (.lst [V.ref u2]) = Hb at *
        have Cb := C9.same (s1.trans s2')
        walk_at "g"
        intro r dr nr ndr ner
        have sm := same_made (o := .ins (He.ga K "Row") dr []) (o2 := .own r) nr ndr
        refine ⟨r, dr, t, l, [(c, P)], [(c, far)], [u2], rfl, upd_same, Cb.s.tu.same sm, Cb.s.ok, ⟨.inl (SqL.of (sm _ _ hl)), .cons (.inl (SqT.of (sm _ _ hu3))) .nil⟩, by show 1 ≤ 10000; decide, fun d hd => ?_, fun Hc kpc hR => ⟨rfl, ?_⟩⟩
        · rw [List.mem_singleton.mp hd]
          exact ⟨(c, P), List.mem_singleton.mpr rfl, rfl⟩
        have Cc := Cb.same (mk_same kpc nr ndr)
        clear sm kpc hu3 hl hu2 s1 s2'
        walk_at "g"
        refine ⟨_, _, rfl, .inl ⟨_, SqL.of Cc.s.hlp, rfl⟩, ?_⟩
        rw [List.length_map]
        walk_at "g"
        refine ⟨by omega, by omega, fun D2 nD2 => ?_⟩
        have hn : ((ps.length : Int)).toNat = ps.length := by omega
        rw [hn]
        have wr : Walk (Itr 0 ps.length) (List.range ps.length).length (fun _ => True) (YFn fun i => .int (0 + i)) := by
          rw [List.length_range]
          exact walk_range
        refine lc_gen wr (fun o => [some (.ref a0), some (.ref p), some (.int sc), some (.int P), some (.str c), some (.ref t), some (.ref lp), some (.ref ls), some (.ref lt), some (.int (0 + (i : Int))), some (.int far), some (.int m), some (.int (a : Int)), some (.int (e : Int)), some (.ref b), some (.ref r), w16, some (.int (0 + (o : Int)))]) (fun o => decide (m ∣ z + far - (sp[o]?.getD 0))) (fun y o _ => y = .int (0 + (o : Int))) (fun _ _ _ _ _ _ _ h => h) nD2 (by rw [List.length_range]; omega) (fun _ _ => trivial) ?_ (fun _ _ => rfl) ?_ ?_ ?_
        · rintro i2 H' x H'' o ho s' ⟨rfl, rfl⟩
          have : o = i2 := by
            have hi2 := (List.getElem?_eq_some_iff.mp ho).1
            rw [List.getElem?_range (by rwa [List.length_range] at hi2)] at ho
            exact (Option.some.inj ho).symm
          subst this
          exact ⟨Same.refl _, fun Q q => q⟩
        · intro o ho H' Q' s' q'
          have ho := List.mem_range.mp ho
          have C' := Cc.same s'
          obtain ⟨wo, hwo⟩ : ∃ z, sp[o]? = some z := ⟨_, List.getElem?_eq_getElem (by omega)⟩
          rw [hwo] at q'
          walk_at "g"
          refine ⟨ls, _, (a : Int), .int z, rfl, rfl, SqL.of C'.hls, atI_nat (by rw [List.getElem?_map, hz]; rfl), ?_⟩
          walk_at "g"
          refine ⟨ls, _, 0 + (o : Int), .int wo, rfl, rfl, SqL.of C'.hls, by rw [Int.zero_add]; exact atI_nat (by rw [List.getElem?_map, hwo]; rfl), ?_⟩
          walk_at "g"
          first
            | refine ⟨_, _, rfl, ri.nn, ?_⟩
            | refine ⟨ri.nn, ?_⟩
          first
            | exact ⟨_, rfl, q' _ (Same.refl _)⟩
            | exact q' _ (Same.refl _)
        · intro o ho _ H' Q' s' q'
          walk_at "g"
          exact q' _ _ (Same.refl _) rfl
        · intro ys Hd sd hDd py
          have eys : ys = ((List.range ps.length).filter fun o => decide (m ∣ z + far - (sp[o]?.getD 0))).map fun o : Nat => V.int (o : Int) := by
            generalize (List.range ps.length).filter _ = L at py
            clear hDd
            induction py with
            | nil => rfl
            | cons h _ ih => rw [h, ih, Int.zero_add]; rfl
          subst eys
          have Cd := Cc.same sd
          have hRd := hR.same sd
          obtain ⟨due, edue⟩ : ∃ due, due = (List.range ps.length).filter fun o => decide (m ∣ z + far - (sp[o]?.getD 0)) := ⟨_, rfl⟩
          rw [← edue] at hDd
          have hR2 := fun {q : Str} {w : Int} (hw : At2 ps sp q w) => ri.fo S.ndp (p := x1) (q := q) (f := far) ⟨a, hx1, hz⟩ hw
          walk_at "g"
          refine ⟨lp, _, (a : Int), .str x1, rfl, rfl, SqL.of Cd.s.hlp, atI_nat (by rw [List.getElem?_map, hx1]; rfl), ?_⟩
          walk_at "g"
          refine ⟨lp, _, (e : Int), .str x2, rfl, rfl, SqL.of Cd.s.hlp, atI_nat (by rw [List.getElem?_map, hx2]; rfl), ?_⟩
          walk_at "g"
          refine ⟨by show 3 ≤ sizeLine; decide, fun u4 nu4 => ?_⟩
          have se := same_upd (o := .tup [.str x1, .ref r, .str x2]) nu4
          have hu4 : upd Hd u4 (.tup [.str x1, .ref r, .str x2]) u4 = some (.tup [.str x1, .ref r, .str x2]) := upd_same
          generalize upd Hd u4 (.tup [.str x1, .ref r, .str x2]) = He1 at *
          have Ce := Cd.same se
          have hDe := se _ _ hDd
          obtain ⟨db, pp, ff, ad, M, hbe, _⟩ := id Ce.bk.ex
          walk_at "g"
          refine ⟨b, db, _, rfl, hbe, B, b, t, u4, r, t, x1, x2, [(c, P)], [(c, P)], _, ps, _, rfl, Ce.bk, hu4, hRd.same se, fun rr Hf sf hrr => ⟨rr, rfl, ?_⟩⟩
          have Cf := Ce.same sf
          have hDf := sf _ _ hDe
          have hRf := (hRd.same se).same sf
          walk_at "g"
          refine ⟨D2, _, rfl, .inl (SqL.of hDf), rfl, List.all_eq_true.mpr fun v hv => (by obtain ⟨o, _, rfl⟩ := List.mem_map.mp hv; rfl), ?_⟩
          have hin : inV (.int (e : Int)) (due.map fun o : Nat => V.int (o : Int)) = rr := by
            rw [Bool.eq_iff_iff, hrr]
            unfold inV
            rw [List.any_map, List.any_eq_true]
            constructor
            · rintro ⟨o, ho, h⟩
              have h : ((o : Int) == (e : Int)) = true := h
              have h := eq_of_beq h
              have : o = e := by omega
              subst this
              rw [edue, List.mem_filter, hw', decide_eq_true_eq] at ho
              exact ⟨mem_of_at hx1, mem_of_at hx2, rfl, (hR2 ⟨o, hx2, hw'⟩).mpr ho.2⟩
            · rintro ⟨_, _, _, h⟩
              refine ⟨e, ?_, by show ((e : Int) == (e : Int)) = true; exact beq_self_eq_true _⟩
              rw [edue, List.mem_filter, hw', decide_eq_true_eq]
              exact ⟨List.mem_range.mpr (by omega), (hR2 ⟨e, hx2, hw'⟩).mp h⟩
          rw [hin]
          walk_at "g"
          rw [show (!decide (V.bl rr = V.bl (if false = true then !rr else rr))) = false by rw [if_neg (by decide)]; simp]
          walk_at "g"
          obtain ⟨db2, _, _, _, _, hbf, _⟩ := id Cf.bk.ex
          refine ⟨b, db2, _, rfl, hbf, rfl, ?_⟩
          walk_at "g"
          refine ⟨lp, _, (a : Int), .str x1, rfl, rfl, SqL.of Cf.s.hlp, atI_nat (by rw [List.getElem?_map, hx1]; rfl), ?_⟩
          walk_at "g"
          refine ⟨B, b, t, r, t, x1, [(c, P)], _, ps, _, rfl, Cf.bk, mem_of_at hx1, hRf, fun d y Hg sg hd hy => ?_⟩
          have Cg := Cf.same sg
          have hDg := sg _ _ hDf
          walk_at "g"
          refine ⟨⟨_, SqL.of hDg⟩, fun D3 nD3 => ?_⟩
          have wl2 : Walk (Itl K D2) due.length (fun H => SqL K H D2 (due.map fun o : Nat => V.int (o : Int))) (YAt (due.map fun o : Nat => V.int (o : Int))) := by
            have := walk_list (K := K) (a := D2) (xs := due.map fun o : Nat => V.int (o : Int))
            rwa [List.length_map] at this
          have dlen : due.length ≤ ps.length := by
            rw [edue]
            exact Nat.le_trans (List.length_filter_le _ _) (by rw [List.length_range]; exact Nat.le_refl _)
          have dlt : ∀ o ∈ due, o < ps.length := fun o ho => by
            rw [edue, List.mem_filter] at ho
            exact List.mem_range.mp ho.1
          refine lc_gen wl2 (fun o => [some (.ref a0), some (.ref p), some (.int sc), some (.int P), some (.str c), some (.ref t), some (.ref lp), some (.ref ls), some (.ref lt), some (.int (0 + (i : Int))), some (.int far), some (.int m), some (.int (a : Int)), some (.int (e : Int)), some (.ref b), some (.ref r), some (.ref D2), some (.int (o : Int))]) (fun _ => true) (fun y o _ => y = .str (ps[o]?.getD "")) (fun _ _ _ _ _ _ _ h => h) nD3 (by omega) (fun H' s' => SqL.of (s' _ _ hDg)) ?_ (fun _ _ => rfl) (fun c _ H Q _ q => q H (Same.refl H)) ?_ ?_
          · rintro i2 H' x H'' o ho s' ⟨rfl, hx⟩
            rw [List.getElem?_map, ho] at hx
            cases hx
            exact ⟨Same.refl _, fun Q q => q⟩
          · intro o ho _ H' Q' s' q'
            have C' := Cg.same s'
            have hlt := dlt o ho
            have hxo : ps[o]? = some ps[o] := List.getElem?_eq_getElem hlt
            walk_at "g"
            refine ⟨lp, _, (o : Int), .str ps[o], rfl, rfl, SqL.of C'.s.hlp, atI_nat (by rw [List.getElem?_map, hxo]; rfl), ?_⟩
            exact q' _ _ (Same.refl _) (by rw [hxo]; rfl)
          · intro ys Hh sh hDh py
            have eys : ys = (ps.filter d).map V.str := by
              have e1 : ys = due.map fun o : Nat => V.str (ps[o]?.getD "") := by
                rw [List.filter_eq_self.mpr fun _ _ => rfl] at py
                clear hDh edue hDf hDg dlen dlt hin wl2 hDd hDe
                induction py with
                | nil => rfl
                | cons h _ ih => rw [h, ih]; rfl
              rw [e1, edue]
              refine pick_eq rfl d _ fun o x hx => ?_
              obtain ⟨wo, hwo⟩ : ∃ z, sp[o]? = some z := ⟨_, List.getElem?_eq_getElem (by rw [hsp]; exact (List.getElem?_eq_some_iff.mp hx).1)⟩
              rw [Bool.eq_iff_iff, hd x (mem_of_at hx), hwo, decide_eq_true_eq]
              exact hR2 ⟨o, hx, hwo⟩
            rw [eys] at hDh
            refine ⟨D3, _, rfl, .inl ⟨SqL.of hDh, fun l3 nl3 => ?_⟩⟩
            have s3 := same_upd (o := .tup ((ps.filter d).map V.str)) nl3
            walk_at "g"
            refine ne_strs (s3 _ _ (sh _ _ hy)) upd_same (fun x hx => (S.nm x (List.mem_filter.mp hx).1).strOk) ?_
            refine ⟨false, rfl, ?_⟩
            refine iteF ?_
            walk_at "g"
            have Cz := (Cg.same sh).same s3
            first
              | exact Cz.mono (by omega)
              | exact ⟨_, _, _, _, _, _, _, rfl, Cz.mono (by omega)⟩
    · rintro σ H4 ⟨w9, w10, w12, w13, w15, w16, w17, rfl, C4⟩
      walk_at "g"
      exact k _
end
end Tr

/-! # k21: places in a chain, rounds. -/
namespace Tr
open PySem L2 TL
/-- steps of a reading that are plain -/
local macro_rules | `(tactic| walk_at "x") => `(tactic| (refine' ⟨_, _, _, _, rfl, rfl, ?k1, ?k2, ?_⟩; (case k1 => exact SqT.of (by assumption)); (case k2 => exact rfl)))
local macro_rules | `(tactic| walk_at "g") => `(tactic| repeat (first | (refine ⟨_, rfl, ?_⟩) | (refine ⟨_, _, rfl, rfl, ?_⟩) | (refine ⟨_, _, rfl, ?_⟩) | (refine ⟨rfl, ?_⟩) | walk_at "x"))


theorem at_z {α : Type} {xs : List α} {i : Nat} {v : α} (h : xs[i]? = some v) : atI xs (0 + (i : Int)) = some v := by
  rw [Int.zero_add]
  exact atI_nat h
theorem p2_take {α β : Type} {R : α → β → Prop} {us : List α} {cs : List β} (h : P2 R us cs) : ∀ n, P2 R (us.take n) (cs.take n) := by
  induction h with
  | nil => intro n; rw [List.take_nil, List.take_nil]; exact .nil
  | cons r _ ih =>
    intro n
    cases n with
    | zero => exact .nil
    | succ n => exact .cons r (ih n)
theorem p2_drop {α β : Type} {R : α → β → Prop} {us : List α} {cs : List β} (h : P2 R us cs) : ∀ n, P2 R (us.drop n) (cs.drop n) := by
  induction h with
  | nil => intro n; rw [List.drop_nil, List.drop_nil]; exact .nil
  | cons r h ih =>
    intro n
    cases n with
    | zero => exact .cons r h
    | succ n => exact ih n
section
variable {P : Program} [PM : PMain P] {w : World} {K : PySem.W.Frag} {mg : Str → Option Value} {base : Heap}
theorem law_b (T : Txt K mg) (fl : Addr) (cdv : Value) (A : Around) (outer : List Env) (s : Shared) (H : Hp) (E : XK) (hr : Room 79 (A.deeper (PyProof.Rows.envOfC "law" (defScope s_law) s.heap.objs.size fl cdv))) :
    ∃ t2, PSs (cxOf (L2.CX P w) P w K mg base ["_law_script", "_law_bag_here", "_law_scale", "_law_period", "_law_name", "_law_turns", "_law_places", "_law_spots", "_law_told", "_law_k", "_law_far", "_law_modulus", "_law_one", "_law_two", "_law_book", "_law_row", "_law_due", "_law_other"] "law" (defScope s_law) fl cdv A outer s H E).nox ((defBody s_law).drop 7) t2 ∧
      ∀ (Q : VK) (σ : L2.St) (H : Hp), (∃ (a0 p q lp ls t : Addr) (c : Str) (P sc : Int) (ps : List Str) (N : Nat) (v9 : Option V), σ = [some (.ref a0), some (.ref p), some (.int sc), some (.int P), some (.str c), some (.ref t), some (.ref lp), some (.ref ls), none, v9, none, none, none, none, none, none, none, none] ∧ S21 K p q lp t c P ps N H ∧ N ≤ 100 ∧ H ls = some (.lst [.int 0]) ∧ ls ≠ lp ∧ ls ≠ q) →
        (∀ H', Q (.bl true) H') → t2 { nx := fun _ H' => Q .non H', rt := Q } σ H := by
  have c__law_draw := @c__law_draw P w K mg base T
  have c__law_divisor := @c__law_divisor P w K mg base T
  obtain ⟨t3, h3, hk3⟩ := @law_c P PM w K mg base T fl cdv A outer s H E hr
  refine ⟨_, (pss_cons (ps_set (i := 8) sc_law.nd rfl (Or.inl rfl) (pe_lst pa_nil))
      (pss_cons (ps_for PassesOwn.never rfl (pi_range1 (by rfl) T.b_range (pa_cons (pe_op op_sub (pe_callB call_len (by rfl) T.b_len (by decide +kernel) (pa_cons (pv 6) pa_nil)) pe_int) pa_nil)) (pg_name (i := 9) sc_law.nd rfl (Or.inl rfl)) (pss_cons (ps_set (i := 10) sc_law.nd rfl (Or.inr rfl) (pe_op op_mul (pe_op op_sub (pe_cx c__law_draw hr (by first | decide | omega) rfl passL (pa_cons (pv 1) (pa_cons pe_int pa_nil))) pe_int) (pv 2)))
      (pss_cons (ps_expr (pe_bm PySem.F.plainAttrs_list PySem.F.slot_list_append PySem.F.type_list_append mt_append (pv 7) (pa_cons (pe_op op_add (pe_ix ix_list (pv 7) (pv 9) (fun _ _ => rfl)) (pv 10)) pa_nil)))
      (pss_one (ps_expr (pe_bm PySem.F.plainAttrs_list PySem.F.slot_list_append PySem.F.type_list_append mt_append (pv 8) (pa_cons (pe_tup (pa_cons (pe_ix ix_list (pv 6) (pv 9) (fun _ _ => rfl)) (pa_cons (pv 10) (pa_cons (pe_ix ix_list (pv 6) (pe_op op_add (pv 9) pe_int) (fun _ _ => rfl)) pa_nil)))) pa_nil)))))))
      (pss_cons (ps_set (i := 11) sc_law.nd rfl (Or.inr rfl) (pv 3))
      (pss_cons (ps_for PassesOwn.never rfl (pi_range1 (by rfl) T.b_range (pa_cons (pe_cx c__law_draw hr (by first | decide | omega) rfl passL (pa_cons (pv 1) (pa_cons pe_int pa_nil))) pa_nil)) (pg_name (i := 9) sc_law.nd rfl (Or.inl rfl)) (pss_cons (ps_asg (pe_tup (pa_cons (pe_cx c__law_draw hr (by first | decide | omega) rfl passL (pa_cons (pv 1) (pa_cons (pe_callB call_len (by rfl) T.b_len (by decide +kernel) (pa_cons (pv 6) pa_nil)) pa_nil))) (pa_cons (pe_cx c__law_draw hr (by first | decide | omega) rfl passL (pa_cons (pv 1) (pa_cons (pe_callB call_len (by rfl) T.b_len (by decide +kernel) (pa_cons (pv 6) pa_nil)) pa_nil))) pa_nil))) (pg_tup rfl (pgs_cons (pg_name (i := 12) sc_law.nd rfl (Or.inr rfl)) (pgs_cons (pg_name (i := 13) sc_law.nd rfl (Or.inl rfl)) pgs_nil))))
      (pss_cons (ps_set (i := 10) sc_law.nd rfl (Or.inr rfl) (pe_op op_mul (pe_op op_sub (pe_cx c__law_draw hr (by first | decide | omega) rfl passL (pa_cons (pv 1) (pa_cons pe_int pa_nil))) pe_int) (pv 2)))
      (pss_cons (ps_expr (pe_bm PySem.F.plainAttrs_list PySem.F.slot_list_insert PySem.F.type_list_insert mt_insert (pv 8) (pa_cons (pe_cx c__law_draw hr (by first | decide | omega) rfl passL (pa_cons (pv 1) (pa_cons (pe_op op_add (pe_callB call_len (by rfl) T.b_len (by decide +kernel) (pa_cons (pv 8) pa_nil)) pe_int) pa_nil))) (pa_cons (pe_tup (pa_cons (pe_ix ix_list (pv 6) (pv 12) (fun _ _ => rfl)) (pa_cons (pv 10) (pa_cons (pe_ix ix_list (pv 6) (pv 13) (fun _ _ => rfl)) pa_nil)))) pa_nil))))
      (pss_one (ps_set (i := 11) sc_law.nd rfl (Or.inr rfl) (pe_cx c__law_divisor hr (by first | decide | omega) rfl passL (pa_cons (pv 11) (pa_cons (pe_op op_sub (pe_op op_add (pe_ix ix_list (pv 7) (pv 12) (fun _ _ => rfl)) (pv 10)) (pe_ix ix_list (pv 7) (pv 13) (fun _ _ => rfl))) pa_nil)))))))))
      h3)))), ?_⟩
  rintro Q σ H ⟨a0, p, q, lp, ls, t, c, P, sc, ps, N, v9, rfl, S, hN, hls, n1, n2⟩ k
  walk_at "g"
  refine ⟨by show 0 ≤ sizeLine; decide, fun lt nlt => ?_⟩
  have s1 := same_upd (o := .lst []) nlt
  have S1 := S.same s1
  have hlt1 : upd H lt (.lst []) lt = some (.lst []) := upd_same
  have hls1 := s1 _ _ hls
  obtain ⟨_, _, hp0, hq0⟩ := id S.bag.at_
  have m1 : lt ≠ lp := fun e => by rw [e, S.hlp] at nlt; cases nlt
  have m2 : lt ≠ q := fun e => by rw [e, hq0] at nlt; cases nlt
  have m3 : lt ≠ ls := fun e => by rw [e, hls] at nlt; cases nlt
  generalize upd H lt (.lst []) = H1 at *
  have hper : perOf [(c, P)] c = P := by
    unfold perOf lookS
    simp
  have P0 : 0 ≤ P := by
    have := (S.ok.ok _ (List.mem_singleton.mpr rfl)).2
    dsimp only at this
    omega
  have psl := S.l3
  have ps0 := S.l0
  have ri0 : RI (perOf [(c, P)]) c ps [0] [] P := by
    have := RI.start (per := perOf [(c, P)]) (c := c) (ps := ps) (by rw [hper]; exact P0)
    rwa [hper] at this
  walk_at "g"
  refine ⟨_, _, rfl, .inl ⟨_, SqL.of S1.hlp, rfl⟩, ?_⟩
  rw [List.length_map]
  walk_at "g"
  refine ⟨by omega, by omega, ?_⟩
  have stp : ∀ {H H' : Hp} {us : List Addr} {TT : List Tl}, Kp p H H' → (∃ N, Bag H p q N) → P2 (TlT H) us TT → P2 (TlT H') us TT := fun {H H' us TT} k ⟨_, hb⟩ h => by
    obtain ⟨_, _, hp, _⟩ := id hb.at_
    exact h.mono fun _ _ e => TlT.kp k hp (by intro vs z; cases z) e
  refine for_range (lo := 0) (n := ((ps.length : Int) - 1).toNat) (fun i σ H' => ∃ (sp : List Int) (us : List Addr) (TT : List Tl) (w9 w10 : Option V), σ = [some (.ref a0), some (.ref p), some (.int sc), some (.int P), some (.str c), some (.ref t), some (.ref lp), some (.ref ls), some (.ref lt), w9, w10, none, none, none, none, none, none, none] ∧ S21 K p q lp t c P ps (N + i) H' ∧ H' ls = some (.lst (sp.map V.int)) ∧ H' lt = some (.lst (us.map V.ref)) ∧ P2 (TlT H') us TT ∧ TT.length = i ∧ sp.length = i + 1 ∧ RI (perOf [(c, P)]) c ps sp TT P) ⟨[0], [], [], _, _, rfl, S1, hls1, hlt1, .nil, rfl, rfl, ri0⟩ ?_ ?_
  · rintro i σ H2 hi ⟨sp, us, TT, w9, w10, rfl, S2, hls2, hlt2, p2, lT, lsp, ri⟩
    obtain ⟨kvs2, cells2, hp2, hq2⟩ := id S2.bag.at_
    walk_at "g"
    refine ⟨p, q, 25, _, rfl, S2.bag, by omega, by decide, Bd.mono (n := 7) (by decide : (25 : Int).natAbs < 2 ^ 7) (by decide), fun v1 H3 kp3 hB3 v10 v11 => ?_⟩
    have S3 := S2.kpB kp3 hB3
    have hls3 := kp3 _ _ hls2 (ne_of hls2 hp2 (by intro z; cases z))
    have hlt3 := kp3 _ _ hlt2 (ne_of hlt2 hp2 (by intro z; cases z))
    have p3 := stp kp3 ⟨_, S2.bag⟩ p2
    walk_at "g"
    refine ⟨.inl ⟨by omega, by omega⟩, ?_⟩
    walk_at "g"
    obtain ⟨f, hf⟩ : ∃ f, f = (v1 - 12) * sc := ⟨_, rfl⟩
    rw [show ((fun i j => V.int (i * j)) (v1 - 12) sc : V) = V.int f by rw [hf]]
    have hi2 : i + 1 < ps.length := by omega
    obtain ⟨z, hz⟩ : ∃ z, sp[i]? = some z := ⟨_, List.getElem?_eq_getElem (by omega)⟩
    obtain ⟨x1, hx1⟩ : ∃ z, ps[i]? = some z := ⟨_, List.getElem?_eq_getElem (by omega)⟩
    obtain ⟨x2, hx2⟩ : ∃ z, ps[i + 1]? = some z := ⟨_, List.getElem?_eq_getElem hi2⟩
    refine ⟨.inl ⟨rfl, _, SqL.of hls3⟩, ?_⟩
    walk_at "g"
    refine ⟨ls, _, (0 + (i : Int)), .int z, rfl, rfl, SqL.of hls3, at_z (by rw [List.getElem?_map, hz]; rfl), ?_⟩
    walk_at "g"
    refine ⟨ls, sp.map V.int, _, rfl, rfl, hls3, small_app (m := 100000) (by rw [List.length_map]; omega) (Nat.le_refl _), ?_⟩
    rw [show ((fun i j => V.int (i + j)) z f : V) = V.int (z + f) from rfl]
    have S4 := S3.wr (ys := sp.map V.int ++ [V.int (z + f)]) hls3 n1 n2
    have kp4 := kp_upd ls H3 (.lst (sp.map V.int ++ [V.int (z + f)]))
    have hls4 : upd H3 ls (.lst (sp.map V.int ++ [V.int (z + f)])) ls = some (.lst ((sp ++ [z + f]).map V.int)) := by rw [List.map_append]; exact upd_same
    have hlt4 := kp4 _ _ hlt3 m3
    have p4 : P2 (TlT (upd H3 ls (.lst (sp.map V.int ++ [V.int (z + f)])))) us TT := p3.mono fun _ _ e => TlT.kp kp4 hls3 (by intro vs z; cases z) e
    generalize upd H3 ls (.lst (sp.map V.int ++ [V.int (z + f)])) = H4 at *
    walk_at "g"
    refine ⟨.inl ⟨rfl, _, SqL.of hlt4⟩, ?_⟩
    walk_at "g"
    refine ⟨lp, _, (0 + (i : Int)), .str x1, rfl, rfl, SqL.of S4.hlp, at_z (by rw [List.getElem?_map, hx1]; rfl), ?_⟩
    walk_at "g"
    refine ⟨lp, _, (0 + (i : Int)) + 1, .str x2, rfl, rfl, SqL.of S4.hlp, (by rw [show (0 + (i : Int)) + 1 = ((i + 1 : Nat) : Int) by omega]; exact atI_nat (by rw [List.getElem?_map, hx2]; rfl)), ?_⟩
    walk_at "g"
    refine ⟨by show 3 ≤ sizeLine; decide, fun u nu => ?_⟩
    have s5 := same_upd (o := .tup [.str x1, .int f, .str x2]) nu
    have hu5 : upd H4 u (.tup [.str x1, .int f, .str x2]) u = some (.tup [.str x1, .int f, .str x2]) := upd_same
    generalize upd H4 u (.tup [.str x1, .int f, .str x2]) = H5 at *
    have hlt5 := s5 _ _ hlt4
    walk_at "g"
    refine ⟨lt, us.map V.ref, _, rfl, rfl, hlt5, small_app (m := 100000) (by rw [List.length_map, p4.len]; omega) (Nat.le_refl _), ?_⟩
    have kp6 := kp_upd lt H5 (.lst (us.map V.ref ++ [.ref u]))
    refine ⟨sp ++ [z + f], us ++ [u], TT ++ [(x1, f, x2)], _, _, rfl, ((S4.same s5).wr hlt5 m1 m2).mono (by omega), kp6 _ _ (s5 _ _ hls4) m3.symm, by rw [List.map_append]; exact upd_same, ?_, by rw [List.length_append, lT]; rfl, by rw [List.length_append, lsp]; rfl, ri.chain hx1 hx2 hz lsp⟩
    have t6 : ∀ {u : Addr} {t : Tl}, TlT H5 u t → TlT (upd H5 lt (.lst (us.map V.ref ++ [.ref u]))) u t := fun e => TlT.kp (kp_upd lt H5 _) hlt5 (by intro vs z; cases z) e
    refine P2.snoc (p4.mono fun u' t' e => ?_) ?_
    · exact TlT.kp kp6 hlt5 (by intro vs z; cases z) (s5 _ _ e)
    · exact TlT.kp kp6 hlt5 (by intro vs z; cases z) (show TlT H5 u (x1, f, x2) from hu5)
  · rintro σ H2 ⟨sp, us, TT, w9, w10, rfl, S2, hls2, hlt2, p2, lT, lsp, ri⟩
    walk_at "g"
    have lsp' : sp.length = ps.length := by omega
    refine ⟨p, q, 5, _, rfl, S2.bag, by omega, by decide, Bd.mono (n := 7) (by decide : (5 : Int).natAbs < 2 ^ 7) (by decide), fun v1 H3 kp3 hB3 v10 v11 => ?_⟩
    obtain ⟨kvs2, cells2, hp2, hq2⟩ := id S2.bag.at_
    have S3 := (S2.kpB kp3 hB3).mono (M := N + 4) (by omega)
    have hls3 := kp3 _ _ hls2 (ne_of hls2 hp2 (by intro z; cases z))
    have hlt3 := kp3 _ _ hlt2 (ne_of hlt2 hp2 (by intro z; cases z))
    have p3 := stp kp3 ⟨_, S2.bag⟩ p2
    walk_at "g"
    refine ⟨by omega, by omega, ?_⟩
    refine for_range (lo := 0) (n := v1.toNat) (fun i σ H' => ∃ (us : List Addr) (TT : List Tl) (m : Int) (w9 w10 w12 w13 : Option V), σ = [some (.ref a0), some (.ref p), some (.int sc), some (.int P), some (.str c), some (.ref t), some (.ref lp), some (.ref ls), some (.ref lt), w9, w10, some (.int m), w12, w13, none, none, none, none] ∧ S21 K p q lp t c P ps (N + 4 + 4 * i) H' ∧ H' ls = some (.lst (sp.map V.int)) ∧ H' lt = some (.lst (us.map V.ref)) ∧ P2 (TlT H') us TT ∧ TT.length ≤ 2 + i ∧ RI (perOf [(c, P)]) c ps sp TT m) ⟨us, TT, P, _, _, _, _, rfl, S3, hls3, hlt3, p3, by omega, ri⟩ ?_ ?_
    · rintro i σ H4 hi ⟨us, TT, m, w9, w10, w12, w13, rfl, S4, hls4, hlt4, p4, lT4, ri4⟩
      obtain ⟨kvs4, cells4, hp4, hq4⟩ := id S4.bag.at_
      have bps : Bd 8000 (ps.length : Int) := Bd.mono (n := 7) (by show (ps.length : Int).natAbs < 2 ^ 7; omega) (by decide)
      walk_at "g"
      refine ⟨_, _, rfl, .inl ⟨_, SqL.of S4.hlp, rfl⟩, ?_⟩
      rw [List.length_map]
      walk_at "g"
      refine ⟨p, q, (ps.length : Int), _, rfl, S4.bag, by omega, by omega, bps, fun v2 H5 kp5 hB5 v20 v21 => ?_⟩
      have S5 := S4.kpB kp5 hB5
      have hls5 := kp5 _ _ hls4 (ne_of hls4 hp4 (by intro z; cases z))
      have hlt5 := kp5 _ _ hlt4 (ne_of hlt4 hp4 (by intro z; cases z))
      have p5 := stp kp5 ⟨_, S4.bag⟩ p4
      obtain ⟨kvs5, cells5, hp5, hq5⟩ := id S5.bag.at_
      walk_at "g"
      refine ⟨_, _, rfl, .inl ⟨_, SqL.of S5.hlp, rfl⟩, ?_⟩
      rw [List.length_map]
      walk_at "g"
      refine ⟨p, q, (ps.length : Int), _, rfl, S5.bag, by omega, by omega, bps, fun v3 H6 kp6 hB6 v30 v31 => ?_⟩
      have S6 := S5.kpB kp6 hB6
      have hls6 := kp6 _ _ hls5 (ne_of hls5 hp5 (by intro z; cases z))
      have hlt6 := kp6 _ _ hlt5 (ne_of hlt5 hp5 (by intro z; cases z))
      have p6 := stp kp6 ⟨_, S5.bag⟩ p5
      obtain ⟨a, rfl⟩ : ∃ j : Nat, v2 = (j : Int) := ⟨v2.toNat, by omega⟩
      obtain ⟨b, rfl⟩ : ∃ j : Nat, v3 = (j : Int) := ⟨v3.toNat, by omega⟩
      walk_at "g"
      refine ⟨by show 2 ≤ sizeLine; decide, fun u nu => ?_⟩
      have s7 := same_upd (o := .tup [.int (a : Int), .int (b : Int)]) nu
      refine ⟨u, _, rfl, SqT.of upd_same, rfl, _, _, rfl, _, _, rfl, rfl, ?_⟩
      have S7 := S6.same s7
      have hls7 := s7 _ _ hls6
      have hlt7 := s7 _ _ hlt6
      have p7 : P2 (TlT (upd H6 u (.tup [.int (a : Int), .int (b : Int)]))) us TT := p6.mono fun _ _ e => s7 _ _ e
      generalize upd H6 u (.tup [.int (a : Int), .int (b : Int)]) = H7 at *
      obtain ⟨kvs7, cells7, hp7, hq7⟩ := id S7.bag.at_
      walk_at "g"
      refine ⟨p, q, 61, _, rfl, S7.bag, by omega, by decide, Bd.mono (n := 7) (by decide : (61 : Int).natAbs < 2 ^ 7) (by decide), fun v4 H8 kp8 hB8 v40 v41 => ?_⟩
      have S8 := S7.kpB kp8 hB8
      have hls8 := kp8 _ _ hls7 (ne_of hls7 hp7 (by intro z; cases z))
      have hlt8 := kp8 _ _ hlt7 (ne_of hlt7 hp7 (by intro z; cases z))
      have p8 := stp kp8 ⟨_, S7.bag⟩ p7
      obtain ⟨kvs8, cells8, hp8, hq8⟩ := id S8.bag.at_
      walk_at "g"
      refine ⟨.inl ⟨by omega, by omega⟩, ?_⟩
      walk_at "g"
      obtain ⟨f, hf⟩ : ∃ f, f = (v4 - 30) * sc := ⟨_, rfl⟩
      rw [show ((fun i j => V.int (i * j)) (v4 - 30) sc : V) = V.int f by rw [hf]]
      obtain ⟨z, hz⟩ : ∃ z, sp[a]? = some z := ⟨_, List.getElem?_eq_getElem (by omega)⟩
      obtain ⟨w', hw'⟩ : ∃ z, sp[b]? = some z := ⟨_, List.getElem?_eq_getElem (by omega)⟩
      obtain ⟨x1, hx1⟩ : ∃ z, ps[a]? = some z := ⟨_, List.getElem?_eq_getElem (by omega)⟩
      obtain ⟨x2, hx2⟩ : ∃ z, ps[b]? = some z := ⟨_, List.getElem?_eq_getElem (by omega)⟩
      have ul := p8.len
      refine ⟨.inl ⟨rfl, _, SqL.of hlt8⟩, ?_⟩
      walk_at "g"
      refine ⟨_, _, rfl, .inl ⟨_, SqL.of hlt8, rfl⟩, ?_⟩
      rw [List.length_map]
      walk_at "g"
      refine ⟨p, q, (us.length : Int) + 1, _, rfl, S8.bag, by omega, by omega, Bd.mono (n := 7) (by show ((us.length : Int) + 1).natAbs < 2 ^ 7; omega) (by decide), fun v5 H9 kp9 hB9 v50 v51 => ?_⟩
      have S9 := S8.kpB kp9 hB9
      have hls9 := kp9 _ _ hls8 (ne_of hls8 hp8 (by intro z; cases z))
      have hlt9 := kp9 _ _ hlt8 (ne_of hlt8 hp8 (by intro z; cases z))
      have p9 := stp kp9 ⟨_, S8.bag⟩ p8
      obtain ⟨e, rfl⟩ : ∃ j : Nat, v5 = (j : Int) := ⟨v5.toNat, by omega⟩
      walk_at "g"
      refine ⟨lp, _, (a : Int), .str x1, rfl, rfl, SqL.of S9.hlp, atI_nat (by rw [List.getElem?_map, hx1]; rfl), ?_⟩
      walk_at "g"
      refine ⟨lp, _, (b : Int), .str x2, rfl, rfl, SqL.of S9.hlp, atI_nat (by rw [List.getElem?_map, hx2]; rfl), ?_⟩
      walk_at "g"
      refine ⟨by show 3 ≤ sizeLine; decide, fun u2 nu2 => ?_⟩
      have sA := same_upd (o := .tup [.str x1, .int f, .str x2]) nu2
      have huA : upd H9 u2 (.tup [.str x1, .int f, .str x2]) u2 = some (.tup [.str x1, .int f, .str x2]) := upd_same
      have SA := S9.same sA
      have hlsA := sA _ _ hls9
      have hltA := sA _ _ hlt9
      generalize upd H9 u2 (.tup [.str x1, .int f, .str x2]) = HA at *
      walk_at "g"
      refine ⟨lt, us.map V.ref, (e : Int), .ref u2, rfl, rfl, hltA, small_app (m := 100000) (by rw [List.length_map]; omega) (Nat.le_refl _), by omega, by omega, ?_⟩
      have SB := SA.wr (ys := (us.map V.ref).take (e : Int).toNat ++ [.ref u2] ++ (us.map V.ref).drop (e : Int).toNat) hltA m1 m2
      have kpB := kp_upd lt HA (.lst ((us.map V.ref).take (e : Int).toNat ++ [.ref u2] ++ (us.map V.ref).drop (e : Int).toNat))
      have hlsB := kpB _ _ hlsA m3.symm
      have hltB : upd HA lt (.lst ((us.map V.ref).take (e : Int).toNat ++ [.ref u2] ++ (us.map V.ref).drop (e : Int).toNat)) lt = some (.lst ((us.take e ++ [u2] ++ us.drop e).map V.ref)) := by
        rw [upd_same, List.map_append, List.map_append, List.map_take, List.map_drop]
        rfl
      have pB : P2 (TlT (upd HA lt (.lst ((us.map V.ref).take (e : Int).toNat ++ [.ref u2] ++ (us.map V.ref).drop (e : Int).toNat)))) (us.take e ++ [u2] ++ us.drop e) (TT.take e ++ [(x1, f, x2)] ++ TT.drop e) := by
        have pA := p9.mono fun u' t' h => TlT.kp kpB hltA (by intro vs z; cases z) (show TlT HA u' t' from sA _ _ h)
        exact ((p2_take pA e).snoc (TlT.kp kpB hltA (by intro vs z; cases z) (show TlT HA u2 (x1, f, x2) from huA))).app (p2_drop pA e)
      generalize upd HA lt (.lst ((us.map V.ref).take (e : Int).toNat ++ [.ref u2] ++ (us.map V.ref).drop (e : Int).toNat)) = HB at *
      walk_at "g"
      refine ⟨ls, _, (a : Int), .int z, rfl, rfl, SqL.of hlsB, atI_nat (by rw [List.getElem?_map, hz]; rfl), ?_⟩
      walk_at "g"
      refine ⟨ls, _, (b : Int), .int w', rfl, rfl, SqL.of hlsB, atI_nat (by rw [List.getElem?_map, hw']; rfl), ?_⟩
      walk_at "g"
      have riN : RI (perOf [(c, P)]) c ps sp (TT.take e ++ [(x1, f, x2)] ++ TT.drop e) (Int.gcd m (z + f - w') : Int) := (ri4.round (f := f) ⟨a, hx1, hz⟩ ⟨b, hx2, hw'⟩).perm fun t' => by
        rw [List.mem_append, List.mem_append, List.mem_append, List.mem_singleton]
        have := List.take_append_drop e TT
        constructor
        · rintro ((h | h) | h)
          · exact .inl (List.mem_of_mem_take h)
          · exact .inr h
          · exact .inl (List.mem_of_mem_drop h)
        · rintro (h | h)
          · rw [← this, List.mem_append] at h
            exact h.elim (fun h => .inl (.inl h)) .inr
          · exact .inl (.inr h)
      refine ⟨_, _, _, _, _, _, _, rfl, SB.mono (by omega), hlsB, hltB, pB, ?_, riN⟩
      have := congrArg List.length (List.take_append_drop e TT)
      rw [List.length_append] at this
      rw [List.length_append, List.length_append, List.length_singleton]
      omega
    · rintro σ H4 ⟨us, TT, m, w9, w10, w12, w13, rfl, S4, hls4, hlt4, p4, lT4, ri4⟩
      exact hk3 Q _ _ ⟨a0, p, q, lp, ls, lt, t, c, P, sc, m, ps, sp, us, TT, _, w9, w10, w12, w13, rfl, S4, by omega, hls4, hlt4, p4, by omega, ri4, lsp'⟩ k
end
end Tr

/-! # k21: the law. -/
namespace Tr
open PySem L2 TL
/-- steps of a reading that are plain -/
local macro_rules | `(tactic| walk_at "x") => `(tactic| (refine' ⟨_, _, _, _, rfl, rfl, ?k1, ?k2, ?_⟩; (case k1 => exact SqT.of (by assumption)); (case k2 => exact rfl)))
local macro_rules | `(tactic| walk_at "g") => `(tactic| repeat (first | (refine ⟨_, rfl, ?_⟩) | (refine ⟨_, _, rfl, rfl, ?_⟩) | (refine ⟨_, _, rfl, ?_⟩) | (refine ⟨rfl, ?_⟩) | walk_at "x"))


section
variable {P : Program} [PM : PMain P] {w : World} {K : PySem.W.Frag} {mg : Str → Option Value} {base : Heap}
def spLaw (K : PySem.W.Frag) : Sp := fun vs H Q _ => ∃ (a : Addr) (ns : List Int), vs = [.ref a] ∧ SqL K H a (ns.map V.int) ∧ ∀ H', Q (.bl true) H'
theorem ok_law (T : Txt K mg) {fl : Addr} {fdl : FuncData} (Fl : Fun K "law" "law" s_law fl fdl) : FnOk P w K mg base (L2.CX P w) 80 fl fdl ["_law_script"] (spLaw K) := by
  have c__law_bag := @c__law_bag P w K mg base T
  have c__law_ident := @c__law_ident P w K mg base T
  have c__law_draw := @c__law_draw P w K mg base T
  have m_Turns := @m_Turns P w K mg base T
  refine okN Fl sc_law (fun vs H Q E h => ?_) (fun cdv A outer s H vs Q E hr h => ?_)
  · obtain ⟨a, ns, rfl, _⟩ := h
    rfl
  · obtain ⟨a0, ns, rfl, hS, k⟩ := h
    obtain ⟨t2, h2, hk2⟩ := @law_b P PM w K mg base T fl cdv A outer s H E hr
    refine ⟨_, (pss_cons (ps_set (i := 1) sc_law.nd rfl (Or.inr rfl) (pe_cx c__law_bag hr (by first | decide | omega) rfl passL (pa_cons (pv 0) pa_nil)))
      (pss_cons (ps_set (i := 2) sc_law.nd rfl (Or.inl rfl) (pe_ix ix_list (pe_lst (pa_cons pe_int (pa_cons pe_int (pa_cons (pe_op op_add (pe_op op_pow pe_int pe_int) (pe_cx c__law_draw hr (by first | decide | omega) rfl passL (pa_cons (pv 1) (pa_cons pe_int pa_nil)))) pa_nil)))) (pe_cx c__law_draw hr (by first | decide | omega) rfl passL (pa_cons (pv 1) (pa_cons pe_int pa_nil))) (fun _ _ => rfl)))
      (pss_cons (ps_set (i := 3) sc_law.nd rfl (Or.inl rfl) (pe_op op_mul (pe_ix ix_list (pe_lst (pa_cons pe_int (pa_cons pe_int (pa_cons pe_int (pa_cons pe_int (pa_cons pe_int pa_nil)))))) (pe_cx c__law_draw hr (by first | decide | omega) rfl passL (pa_cons (pv 1) (pa_cons pe_int pa_nil))) (fun _ _ => rfl)) (pv 2)))
      (pss_cons (ps_set (i := 4) sc_law.nd rfl (Or.inr rfl) (pe_cx c__law_ident hr (by first | decide | omega) rfl passL (pa_cons (pv 1) (pa_cons pe_int pa_nil))))
      (pss_cons (ps_set (i := 5) sc_law.nd rfl (Or.inr rfl) (pe_mkx m_Turns hr (by first | decide | omega) rfl passL (pa_cons (pe_lst (pa_cons (pe_tup (pa_cons (pv 4) (pa_cons (pv 3) pa_nil))) pa_nil)) pa_nil)))
      (pss_cons (ps_set (i := 6) sc_law.nd rfl (Or.inr rfl) (pe_lc (own := [("_law_k", 9)]) (g := gName 9) rfl sc_law.nd (pi_range1 (by rfl) T.b_range (pa_cons (pe_op op_add pe_int (pe_cx c__law_draw hr (by first | decide | omega) rfl passL (pa_cons (pv 1) (pa_cons pe_int pa_nil)))) pa_nil)) (blkOk_by (own := [("_law_k", 9)]) (N := ["_law_script", "_law_bag_here", "_law_scale", "_law_period", "_law_name", "_law_turns", "_law_places", "_law_spots", "_law_told", "_law_k", "_law_far", "_law_modulus", "_law_one", "_law_two", "_law_book", "_law_row", "_law_due", "_law_other"]) (sc := defScope s_law) (by decide +kernel)) (fun _ _ _ _ _ => (pg_name (i := 9) sc_law.nd rfl (Or.inl rfl))) (fun _ _ _ _ _ => pts_nil) (fun _ _ _ _ _ => (pe_cx c__law_ident hr (by first | decide | omega) rfl passL (pa_cons (pv 1) (pa_cons (pe_op op_add pe_int (pv 9)) pa_nil))))))
      (pss_cons (ps_set (i := 7) sc_law.nd rfl (Or.inr rfl) (pe_lst (pa_cons pe_int pa_nil)))
      h2))))))), ?_⟩
    walk_at "g"
    refine ⟨a0, ns, rfl, hS, fun p q H1 s1 np hB1 => ?_⟩
    walk_at "g"
    refine ⟨⟨by decide, by decide, by decide⟩, ?_⟩
    walk_at "g"
    refine ⟨p, q, 97, _, rfl, hB1, by decide, by decide, Bd.mono (n := 7) (by decide : (97 : Int).natAbs < 2 ^ 7) (by decide), fun v1 H2 kp2 hB2 v10 v11 => ?_⟩
    walk_at "g"
    obtain ⟨kvs2, cells2, hp2, hq2⟩ := id hB2.at_
    refine ⟨by show 3 ≤ sizeLine; decide, fun l1 nl1 => ?_⟩
    obtain ⟨xs, exs⟩ : ∃ xs : List Int, xs = [1, 1, 10 ^ Int.toNat 40 + v1] := ⟨_, rfl⟩
    have s3 := same_upd (o := .lst (xs.map V.int)) nl1
    have hB3 := hB2.same s3
    have hl1 : upd H2 l1 (.lst (xs.map V.int)) l1 = some (.lst (xs.map V.int)) := upd_same
    have npl1 : l1 ≠ p := (ne_of_none hp2 nl1).symm
    rw [show ([V.int 1, V.int 1, (fun i j => V.int (i + j)) ((10 : Int) ^ Int.toNat 40) v1] : List V) = xs.map V.int by rw [exs]; rfl]
    generalize upd H2 l1 (.lst (xs.map V.int)) = H3 at *
    walk_at "g"
    refine ⟨p, q, 3, _, rfl, hB3, by decide, by decide, Bd.mono (n := 7) (by decide : (3 : Int).natAbs < 2 ^ 7) (by decide), fun v2 H4 kp4 hB4 v20 v21 => ?_⟩
    obtain ⟨j, rfl⟩ : ∃ j : Nat, v2 = (j : Int) := ⟨v2.toNat, by omega⟩
    have hj : j < xs.length := by rw [exs]; show j < 3; omega
    have hl4 := kp4 _ _ hl1 npl1
    refine ⟨l1, _, (j : Int), .int xs[j], rfl, rfl, SqL.of hl4, atI_nat (j := j) (by rw [List.getElem?_map, List.getElem?_eq_getElem hj]; rfl), ?_⟩
    have sc1 : 1 ≤ xs[j] := by
      have := List.getElem_mem hj
      generalize xs[j] = x at this
      rw [exs, show ((10 : Int) ^ Int.toNat 40) = 10000000000000000000000000000000000000000 by decide] at this
      simp only [List.mem_cons, List.not_mem_nil, or_false] at this
      omega
    generalize xs[j] = sc at sc1
    clear hl1 hl4 exs hj
    obtain ⟨kvs4, cells4, hp4, hq4⟩ := id hB4.at_
    walk_at "g"
    refine ⟨by show 5 ≤ sizeLine; decide, fun l2 nl2 => ?_⟩
    have s5 := same_upd (o := .lst (([0, 0, 12, 7, 30] : List Int).map V.int)) nl2
    have hB5 := hB4.same s5
    have hl2 : upd H4 l2 (.lst (([0, 0, 12, 7, 30] : List Int).map V.int)) l2 = some (.lst (([0, 0, 12, 7, 30] : List Int).map V.int)) := upd_same
    have npl2 : l2 ≠ p := (ne_of_none hp4 nl2).symm
    walk_at "g"
    refine ⟨p, q, 5, _, rfl, hB5, by decide, by decide, Bd.mono (n := 7) (by decide : (5 : Int).natAbs < 2 ^ 7) (by decide), fun v3 H6 kp6 hB6 v30 v31 => ?_⟩
    obtain ⟨i, rfl⟩ : ∃ i : Nat, v3 = (i : Int) := ⟨v3.toNat, by omega⟩
    have hi : i < ([0, 0, 12, 7, 30] : List Int).length := by show i < 5; omega
    have hl6 := kp6 _ _ hl2 npl2
    refine ⟨l2, _, (i : Int), .int (([0, 0, 12, 7, 30] : List Int)[i]), rfl, rfl, SqL.of hl6, atI_nat (j := i) (by rw [List.getElem?_map, List.getElem?_eq_getElem hi]; rfl), ?_⟩
    have P1 : (([0, 0, 12, 7, 30] : List Int)[i]) = 0 ∨ (2 ≤ ([0, 0, 12, 7, 30] : List Int)[i] ∧ ([0, 0, 12, 7, 30] : List Int)[i] ≤ 30) := by
      have all : ∀ x ∈ ([0, 0, 12, 7, 30] : List Int), x = 0 ∨ 2 ≤ x ∧ x ≤ 30 := by decide
      exact all _ (List.getElem_mem hi)
    generalize ([0, 0, 12, 7, 30] : List Int)[i] = pv0 at P1
    clear hl2 hl6
    walk_at "g"
    refine ⟨.inl ⟨by omega, by omega⟩, ?_⟩
    have P2h : pv0 * sc = 0 ∨ 2 ≤ pv0 * sc := by
      rcases P1 with e | ⟨e, _⟩
      · exact .inl (by rw [e, Int.zero_mul])
      · have := Int.mul_le_mul_of_nonneg_left sc1 (show 0 ≤ pv0 by omega)
        rw [Int.mul_one] at this
        exact .inr (by omega)
    walk_at "g"
    obtain ⟨Pd, hPd⟩ : ∃ Pd, Pd = pv0 * sc := ⟨_, rfl⟩
    rw [show ((fun i j => V.int (i * j)) pv0 sc : V) = V.int Pd by rw [hPd]]
    rw [← hPd] at P2h
    refine ⟨p, q, _, 0, rfl, hB6, by decide, by decide, fun c H7 kp7 hB7 hc => ?_⟩
    obtain ⟨kvs7, cells7, hp7, hq7⟩ := id hB7.at_
    walk_at "g"
    refine ⟨by show 2 ≤ sizeLine; decide, fun u nu => ?_⟩
    have s8 := same_upd (o := .tup [.str c, .int Pd]) nu
    have hu : upd H7 u (.tup [.str c, .int Pd]) u = some (.tup [.str c, .int Pd]) := upd_same
    generalize upd H7 u (.tup [.str c, .int Pd]) = H8 at *
    walk_at "g"
    refine ⟨by show 1 ≤ sizeLine; decide, fun l nl => ?_⟩
    have s9 := same_upd (o := .lst [V.ref u]) nl
    have hl : upd H8 l (.lst [V.ref u]) l = some (.lst [V.ref u]) := upd_same
    have hu9 := s9 _ _ hu
    generalize upd H8 l (.lst [V.ref u]) = H9 at *
    have hB9 := (hB7.same s8).same s9
    have ok : KsOk [(c, Pd)] := ⟨by show 0 < 1; decide, by show 1 ≤ 8; decide, by show ([(c, Pd)].map (·.1)).Nodup; exact List.nodup_cons.mpr ⟨List.not_mem_nil, List.nodup_nil⟩, fun d hd => by rw [List.mem_singleton.mp hd]; exact ⟨hc.1, P2h⟩⟩
    walk_at "g"
    intro t dt nt ndt net
    have sm := same_made (o := .ins (He.ga K "Turns") dt []) (o2 := .own t) nt ndt
    refine ⟨t, dt, l, [(c, Pd)], rfl, upd_same, ⟨[u], sm _ _ hl, .cons (sm _ _ hu9) .nil⟩, ok, fun Ha kpa hT tne => ⟨rfl, ?_⟩⟩
    have s9a := mk_same kpa nt ndt
    have hBa := hB9.same s9a
    obtain ⟨kvs9, cells9, hp9, hq9⟩ := id hB9.at_
    have tne := tne p _ (sm _ _ hp9)
    clear kpa sm net
    walk_at "g"
    refine ⟨p, q, 3, _, rfl, hBa, by decide, by decide, Bd.mono (n := 7) (by decide : (3 : Int).natAbs < 2 ^ 7) (by decide), fun v4 Hb kpb hBb v40 v41 => ?_⟩
    obtain ⟨kvsa, cellsa, hpa, hqa⟩ := id hBa.at_
    have hTb := hT.kpB tne kpb hpa
    have tneb := tne.kpB hT kpb hpa
    obtain ⟨kvsb, cellsb, hpb, hqb⟩ := id hBb.at_
    obtain ⟨m, hm, m3⟩ : ∃ m : Nat, v4 = (m : Int) ∧ m < 3 := ⟨v4.toNat, by omega, by omega⟩
    subst hm
    walk_at "g"
    refine ⟨by omega, by omega, fun D nD => ?_⟩
    refine lc_rngJ (n := (1 + (m : Int)).toNat) (d := 4) (fun y i _ => ∃ z, y = V.str z ∧ Nm (1 + i) z) (fun _ _ _ _ _ _ _ r => r) (fun _ _ _ _ _ _ _ r => r) nD hBb (by omega) (fun _ => rfl) (fun σ H Q q => q) ?_ ?_
    · rintro i hi H4 Q4 M kp4 hB4 hM _ q4
      walk_at "g"
      refine ⟨p, q, M, 1 + i, by rw [Int.zero_add, Int.natCast_add]; rfl, hB4, by omega, by omega, fun z H5 kp5 hB5 hz => ?_⟩
      exact q4 _ H5 kp5 hB5 ⟨z, rfl, hz⟩
    · intro ys Hc kpc hBc hDc py
      obtain ⟨ps, rfl, pz⟩ := P2.strs py
      obtain ⟨pl, pn, pk⟩ := nms_ok pz
      have S : S21 K p q D t c Pd ps 100 Hc := ⟨hBc.mono (by omega), hDc, hTb.kpB tneb kpc hpb, tneb.kpB hTb kpc hpb, ok, pn, pk, by omega, by omega⟩
      walk_at "g"
      refine ⟨by show 1 ≤ sizeLine; decide, fun ls nls => ?_⟩
      have sd := same_upd (o := .lst [V.int 0]) nls
      walk_at "g"
      refine hk2 Q _ _ ⟨a0, p, q, D, ls, t, c, Pd, sc, ps, 100, _, rfl, S.same sd, Nat.le_refl _, upd_same, fun e => ?_, fun e => ?_⟩ k
      · rw [e, hDc] at nls
        cases nls
      · obtain ⟨_, _, _, z⟩ := id hBc.at_
        rw [e, z] at nls
        cases nls
end
end Tr

/-! # The head by facts: a hook of own booleans and of functions by their places. -/
namespace Tr
open PySem PySem.Spec PyProof.Rows L2
theorem _root_.L2.FnOk.to0 {P : Program} {w : World} {K : PySem.W.Frag} {mg : Str → Option Value} {base : Heap} {k : Nat} {f : Addr} {fd : FuncData} {ps : List Str} {sp : Sp} (F : FnOk P w K mg base (L2.CX P w) k f fd ps sp) (h : ∀ vs H Q E, sp vs H Q E → sp vs H Q E0) :
    FnOk P w K mg base CX0 k f fd ps sp := ⟨F.len, fun A outer s H args us vs Q E hr he hb hv hs => codeAny_mono (F.run A outer s H args us vs Q E0 hr he hb hv (h _ _ _ _ hs)) fun r s' q => by
  cases r with
  | error e =>
    obtain ⟨_, _, _, _, _, _, _, _, _, _, _, _, z⟩ := q
    exact z.elim
  | ok fl => cases fl <;> exact q⟩
theorem _root_.L2.FunD.fun_ {K : PySem.W.Frag} {x qual : Str} {st : Stmt} {f : Addr} {fd : FuncData} (F : FunD K x qual (defArgs st) (defBody st) (defScope st) [] [] f fd) : Fun K x qual st f fd := by
  obtain ⟨oc, od, dV, kV, doc, pm, an, cdv, ct, osl, e, lk, hcd, hD, _⟩ := F.ex
  rcases hD with ⟨_, rfl⟩ | ⟨e, _⟩
  · exact ⟨⟨oc, od, kV, doc, pm, an, cdv, ct, osl, e, lk, hcd⟩, F.kp⟩
  · exact absurd rfl e
/-- one def: its place, names, parameters, body, scope, defaults -/
structure DefX where
  at_ : PySem.W.Frag → Addr
  name : Str
  qual : Str
  params : Arguments
  body : List Stmt
  scope : Scope
  dfl : List He.Dv := []
  clo : List Str := []
  kwd : List (Str × He.Dv) := []
def DefX.val (d : DefX) : He.FnW := some (d.name, d.qual, d.params, .stmts d.body, d.scope, mainGlobals, d.clo.map (·, 0), builtinsNs)
def fnX (K : PySem.W.Frag) (a : Addr) : He.FnW := match K.lookup a with
  | some ⟨_, _, .func fd, _⟩ => some (fd.name, fd.qualname, fd.params, fd.body, fd.scope, fd.globals, fd.closure.map fun p => (p.1, 0), fd.builtins)
  | _ => none
def DefX.ok (K : PySem.W.Frag) (d : DefX) : Bool := PySem.W.keepIn K (.ref (d.at_ K)) && (match K.lookup (d.at_ K) with
  | some ⟨_, _, .func fd, _⟩ => PySem.W.codeIn K fd.code d.qual && (He.dflB K fd.defaults (d.dfl.map (He.Dv.v K)) && He.kwdB K fd.kwdefaults (d.kwd.map fun q => (q.1, He.Dv.v K q.2)))
  | _ => false)
theorem DefX.funD {K : PySem.W.Frag} {d : DefX} (hc : d.clo = []) (e : fnX K (d.at_ K) = d.val) (c : d.ok K = true) : ∃ fd, FunD K d.name d.qual d.params d.body d.scope (d.dfl.map (He.Dv.v K)) (d.kwd.map fun q => (q.1, He.Dv.v K q.2)) (d.at_ K) fd := by
  obtain ⟨kp, c2⟩ := He.ba c
  unfold fnX at e
  cases q : K.lookup (d.at_ K) with
  | none =>
    rw [q] at c2
    cases c2
  | some o =>
    obtain ⟨oc, od, dt, osl⟩ := o
    rw [q] at c2 e
    cases dt with
    | func fd =>
      obtain ⟨n1, n2, n3, n4, n5, n6, n7, n8, n9, n10, n11, n12, n13, n14, n15⟩ := fd
      have e2 : (some (n1, n2, n3, n4, n5, n6, n7.map fun p => (p.1, 0), n15) : He.FnW) = some (d.name, d.qual, d.params, .stmts d.body, d.scope, mainGlobals, d.clo.map (·, 0), builtinsNs) := e
      rw [hc] at e2
      simp only [Option.some.injEq, Prod.mk.injEq, List.map_nil, List.map_eq_nil_iff] at e2
      obtain ⟨h1, h2, h3, h4, h5, h6, h7, h8⟩ := e2
      subst h1 h2 h3 h4 h5 h6 h7 h8
      have c3 : (PySem.W.codeIn K n13 d.qual && (He.dflB K n8 (d.dfl.map (He.Dv.v K)) && He.kwdB K n9 (d.kwd.map fun q => (q.1, He.Dv.v K q.2)))) = true := c2
      obtain ⟨k1, k2⟩ := He.ba c3
      obtain ⟨k3, k4⟩ := He.ba k2
      exact ⟨_, ⟨oc, od, n8, n9, n10, n11, n12, n13, n14, osl, rfl, q, k1, He.dflB_ok k3, He.kwdB_ok k4⟩, kp⟩
    | _ => cases c2
abbrev AlX : Type := Bool × List He.FnW
def obsX (fb : List (PySem.W.Frag → Bool)) (fx : List DefX) (K : PySem.W.Frag) : AlX := ((fb.all fun f => f K) && fx.all fun d => d.ok K, fx.map fun d => fnX K (d.at_ K))
def valX (fx : List DefX) : AlX := (true, fx.map DefX.val)
def SaysX (fb : List (PySem.W.Frag → Bool)) (fx : List DefX) (K : PySem.W.Frag) : Prop := obsX fb fx K = valX fx
/-- what the module's names and the C statics reach in n steps -/
def asX (g : Addr → Option Obj) : Nat → List Addr
  | 0 => [mainGlobals, cStatics]
  | n + 1 => He.growD g (asX g n)
def obsXG (n : Nat) (fb : List (PySem.W.Frag → Bool)) (fx : List DefX) (g : Addr → Option Obj) : AlX := obsX fb fx (He.frG g (asX g n))
def hookX (n : Nat) (fb : List (PySem.W.Frag → Bool)) (fx : List DefX) : PySem.W.Hook where
  α := AlX
  obs := fun s => obsXG n fb fx s.heap.get?
  val := fun _ => valX fx
  says := fun _ h => ∃ K : PySem.W.Frag, K.In h ∧ SaysX fb fx K
  of := fun _ _ e => ⟨_, He.frG_in, e⟩
  keeps := fun _ _ _ ⟨K, hK, c⟩ k => ⟨K, PySem.W.Frag.In.keeps hK k, c⟩
theorem obsXG_eq {n : Nat} {fb : List (PySem.W.Frag → Bool)} {fx : List DefX} {g : Addr → Option Obj} {s : Shared} (h : ∀ a, g a = s.heap.get? a) : obsXG n fb fx g = (hookX n fb fx).obs s := by
  have e : g = s.heap.get? := funext h
  rw [e] <;> rfl
/-- the same, over addresses that are written out -/
def obsXL (as : List Addr) (fb : List (PySem.W.Frag → Bool)) (fx : List DefX) (g : Addr → Option Obj) : AlX := obsX fb fx (He.frG g as)
def hookL (as : List Addr) (fb : List (PySem.W.Frag → Bool)) (fx : List DefX) : PySem.W.Hook where
  α := AlX
  obs := fun s => obsXL as fb fx s.heap.get?
  val := fun _ => valX fx
  says := fun _ h => ∃ K : PySem.W.Frag, K.In h ∧ SaysX fb fx K
  of := fun _ _ e => ⟨_, He.frG_in, e⟩
  keeps := fun _ _ _ ⟨K, hK, c⟩ k => ⟨K, PySem.W.Frag.In.keeps hK k, c⟩
theorem obsXL_eq {as : List Addr} {fb : List (PySem.W.Frag → Bool)} {fx : List DefX} {g : Addr → Option Obj} {s : Shared} (h : ∀ a, g a = s.heap.get? a) : obsXL as fb fx g = (hookL as fb fx).obs s := by
  have e : g = s.heap.get? := funext h
  rw [e] <;> rfl
section
variable {fb : List (PySem.W.Frag → Bool)} {fx : List DefX} {K : PySem.W.Frag}
theorem SaysX.fact (c : SaysX fb fx K) (i : Nat) {f : PySem.W.Frag → Bool} (h : fb[i]? = some f := by rfl) : f K = true := by
  have c1 := (He.ba (show ((fb.all fun f => f K) && fx.all fun d => d.ok K) = true from congrArg (fun z : AlX => z.1) c)).1
  exact List.all_eq_true.mp c1 f (List.mem_of_getElem? h)
theorem SaysX.def_ (c : SaysX fb fx K) (i : Nat) {d : DefX} (h : fx[i]? = some d := by rfl) (hc : d.clo = [] := by rfl) : ∃ fd, FunD K d.name d.qual d.params d.body d.scope (d.dfl.map (He.Dv.v K)) (d.kwd.map fun q => (q.1, He.Dv.v K q.2)) (d.at_ K) fd := by
  have c2 := (He.ba (show ((fb.all fun f => f K) && fx.all fun d => d.ok K) = true from congrArg (fun z : AlX => z.1) c)).2
  have e : fx.map (fun d => fnX K (d.at_ K)) = fx.map DefX.val := congrArg (fun z : AlX => z.2) c
  have e2 : (fx.map fun d => fnX K (d.at_ K))[i]? = (fx.map DefX.val)[i]? := by rw [e]
  rw [List.getElem?_map, List.getElem?_map, h] at e2
  exact DefX.funD hc (Option.some.inj e2) (List.all_eq_true.mp c2 d (List.mem_of_getElem? h))
end
/-! ### own facts -/
def gof (kind : String) (K : PySem.W.Frag) (p : Addr) : Addr := match PySem.W.recIn K p kind with
  | some (.ref g :: _) => g
  | _ => 0
def decO (a : Option (Option Value)) (b : Option (Option Value)) : Bool := decide (a = b)
def propB (x m : Str) (K : PySem.W.Frag) : Bool :=
  decO (PySem.W.findIn K (.ref (He.ga K x)) m) (some (some (.ref (He.ma K (He.ga K x) m)))) && (decO (PySem.W.specialIn K (.ref (He.ma K (He.ga K x) m)) "__get__") (some (some (.builtin "property.__get__"))) &&
    (decide (PySem.W.takesIn K (.ref (He.ma K (He.ga K x) m)) = some true) && (match PySem.W.recIn K (He.ma K (He.ga K x) m) "property" with
      | some (.ref _ :: _) => true
      | _ => false)))
theorem propB_ok {x m : Str} {K : PySem.W.Frag} (h : propB x m K = true) : PropOf K (He.ga K x) m (He.ma K (He.ga K x) m) (gof "property" K (He.ma K (He.ga K x) m)) := by
  obtain ⟨h1, h⟩ := He.ba h
  obtain ⟨h2, h⟩ := He.ba h
  obtain ⟨h3, h4⟩ := He.ba h
  refine ⟨of_decide_eq_true h1, of_decide_eq_true h2, of_decide_eq_true h3, ?_⟩
  unfold gof
  split at h4
  · rename_i g r e
    rw [e]
    exact ⟨r, rfl⟩
  · cases h4
def isoB (x : Str) (K : PySem.W.Frag) : Bool :=
  decO (PySem.W.findIn K (.ref (He.ga K x)) "__class__") (some (some (.builtin "object.__class__"))) && (decO (PySem.W.specialIn K (.builtin "object.__class__") "__get__") (some (some (.builtin "getset_descriptor.__get__"))) &&
    (decide (PySem.W.takesIn K (.builtin "object.__class__") = some true) && decide (PySem.W.mroIn K (He.ga K x) (.type "object") = some true)))
theorem isoB_ok {x : Str} {K : PySem.W.Frag} (h : isoB x K = true) : IsO K (He.ga K x) := by
  obtain ⟨h1, h⟩ := He.ba h
  obtain ⟨h2, h⟩ := He.ba h
  obtain ⟨h3, h4⟩ := He.ba h
  exact ⟨of_decide_eq_true h1, of_decide_eq_true h2, of_decide_eq_true h3, of_decide_eq_true h4⟩
def kindB (x : Str) (K : PySem.W.Frag) : Bool := bNames.all fun n => decide (PySem.W.kitOne K (.type n) (.ref (He.ga K x)) = some false) && (decide (PySem.W.subIn K (.type n) (.ref (He.ga K x)) = some false) && decide (PySem.W.subIn K (.ref (He.ga K x)) (.type n) = some false))
theorem kindB_ok {x : Str} {K : PySem.W.Frag} (h : kindB x K = true) : KindO K (He.ga K x) := by
  have g : ∀ n ∈ bNames, PySem.W.kitOne K (.type n) (.ref (He.ga K x)) = some false ∧ PySem.W.subIn K (.type n) (.ref (He.ga K x)) = some false ∧ PySem.W.subIn K (.ref (He.ga K x)) (.type n) = some false := fun n hn => by
    have := List.all_eq_true.mp h n hn
    rw [Bool.and_eq_true, Bool.and_eq_true, decide_eq_true_eq, decide_eq_true_eq, decide_eq_true_eq] at this
    exact this
  exact ⟨fun n hn => (g n hn).1, fun n hn => (g n hn).2.1, fun n hn => (g n hn).2.2⟩
def neB_ (x : Str) (K : PySem.W.Frag) : Bool := decO (PySem.W.findIn K (.ref (He.ga K x)) "__ne__") (some (some (.builtin "object.__ne__"))) && decide (PySem.W.mroIn K (He.ga K x) (.type "object") = some true)
theorem neB_ok {x : Str} {K : PySem.W.Frag} (h : neB_ x K = true) : NeOf K (He.ga K x) := by
  obtain ⟨h1, h2⟩ := He.ba h
  exact ⟨of_decide_eq_true h1, of_decide_eq_true h2⟩
end Tr

/-! ### what the top has left -/
namespace Tr
open PySem PySem.Spec PyProof.Rows L2
def fb : List (PySem.W.Frag → Bool) := [
  (fun K => (He.Fa.noat "Book" "facts").ok K),
  (fun K => (He.Fa.noat "Book" "places").ok K),
  (fun K => (He.Fa.noat "Book" "rings").ok K),
  (fun K => (He.Fa.noat "Book" "turns").ok K),
  (fun K => (He.Fa.noat "RingMap" "circles").ok K),
  (fun K => (He.Fa.noat "RingMap" "drawn").ok K),
  (fun K => (He.Fa.noat "RingMap" "laid").ok K),
  (fun K => (He.Fa.noat "RingMap" "lying").ok K),
  (fun K => (He.Fa.noat "RingMap" "spot_of").ok K),
  (fun K => (He.Fa.noat "RingMap" "spots").ok K),
  (fun K => (He.Fa.noat "RingMap" "turns").ok K),
  (fun K => (He.Fa.noat "Ring" "modulus").ok K),
  (fun K => (He.Fa.noat "Ring" "number").ok K),
  (fun K => (He.Fa.noat "Ring" "seats").ok K),
  (fun K => (He.Fa.noat "Ring" "turn").ok K),
  (fun K => (He.Fa.noat "Row" "key").ok K),
  (fun K => (He.Fa.noat "Row" "steps").ok K),
  (fun K => (He.Fa.noat "Row" "turns").ok K),
  (fun K => (He.Fa.noat "Turns" "names").ok K),
  (fun K => (He.Fa.noat "Turns" "pairs").ok K),
  (fun K => (He.Fa.noat "Turns" "periods").ok K),
  (fun K => (He.Fa.noat "Turns" "ranks").ok K),
  (fun K => (He.Fa.free "abs").ok K),
  (fun K => (He.Fa.free "all").ok K),
  (fun K => (He.Fa.free "bool").ok K),
  (fun K => (He.Fa.free "enumerate").ok K),
  (fun K => (He.Fa.free "int").ok K),
  (fun K => (He.Fa.free "isinstance").ok K),
  (fun K => (He.Fa.free "len").ok K),
  (fun K => (He.Fa.free "list").ok K),
  (fun K => (He.Fa.free "min").ok K),
  (fun K => (He.Fa.free "range").ok K),
  (fun K => (He.Fa.free "str").ok K),
  (fun K => (He.Fa.free "tuple").ok K),
  (fun K => (He.Fa.str "DIGITS" "0123456789").ok K),
  (fun K => (He.Fa.str "LETTERS" "abcdefghijklmnopqrstuvwxyz").ok K),
  (fun K => (He.Fa.int "LONGEST_NAME" 12).ok K),
  (fun K => (He.Fa.glo "_law_agrees").ok K),
  (fun K => (He.Fa.glo "_law_bag").ok K),
  (fun K => (He.Fa.glo "_law_divisor").ok K),
  (fun K => (He.Fa.glo "_law_draw").ok K),
  (fun K => (He.Fa.glo "_law_ident").ok K),
  (fun K => (He.Fa.glo "common_divisor").ok K),
  (fun K => (He.Fa.glo "is_claim").ok K),
  (fun K => (He.Fa.glo "is_name").ok K),
  (fun K => (He.Fa.glo "is_whole").ok K),
  (fun K => (He.Fa.glo "map_of").ok K),
  (fun K => (He.Fa.glo "normal_steps").ok K),
  (fun K => (He.Fa.glo "reduced").ok K),
  (fun K => (He.Fa.glo "step_key").ok K),
  (fun K => (He.Fa.mkr "Row").ok K),
  (fun K => (He.Fa.glo "Row").ok K),
  (empB (He.dflAt ("Row", some "__init__") 0)),
  (fun K => (He.Fa.mkr "Book").ok K),
  (fun K => (He.Fa.glo "Book").ok K),
  (fun K => (He.Fa.mkr "Ring").ok K),
  (fun K => (He.Fa.glo "Ring").ok K),
  (fun K => (He.Fa.mkr "RingMap").ok K),
  (fun K => (He.Fa.glo "RingMap").ok K),
  (fun K => (He.Fa.mkr "Turns").ok K),
  (fun K => (He.Fa.glo "Turns").ok K),
  (fun K => (He.Fa.cls "Book").ok K),
  (fun K => (He.Fa.cls "Ring").ok K),
  (fun K => (He.Fa.cls "RingMap").ok K),
  (fun K => (He.Fa.cls "Row").ok K),
  (fun K => (He.Fa.cls "Turns").ok K),
  (fun K => (He.Fa.meth "Book" "__contains__").ok K),
  (fun K => (He.Fa.meth "Book" "leads").ok K),
  (fun K => (He.Fa.meth "Book" "need_place").ok K),
  (fun K => (He.Fa.meth "RingMap" "add_fact").ok K),
  (fun K => (He.Fa.meth "RingMap" "after").ok K),
  (fun K => (He.Fa.meth "RingMap" "close_up").ok K),
  (fun K => (He.Fa.meth "RingMap" "drop_ring").ok K),
  (fun K => (He.Fa.meth "RingMap" "join_rings").ok K),
  (fun K => (He.Fa.meth "RingMap" "join_spots").ok K),
  (fun K => (He.Fa.meth "RingMap" "lay").ok K),
  (fun K => (He.Fa.meth "RingMap" "lessen").ok K),
  (fun K => (He.Fa.meth "RingMap" "new_spot").ok K),
  (fun K => (He.Fa.meth "RingMap" "ring_at").ok K),
  (fun K => (He.Fa.meth "RingMap" "seat").ok K),
  (fun K => (He.Fa.meth "RingMap" "settle_once").ok K),
  (fun K => (He.Fa.meth "RingMap" "settle_ring").ok K),
  (fun K => (He.Fa.meth "RingMap" "settle_spot").ok K),
  (fun K => (He.Fa.meth "RingMap" "unseat").ok K),
  (fun K => (He.Fa.meth "RingMap" "walk").ok K),
  (fun K => (He.Fa.meth "Ring" "place").ok K),
  (fun K => (He.Fa.meth "Ring" "spot_at").ok K),
  (fun K => (He.Fa.meth "Row" "__len__").ok K),
  (fun K => (He.Fa.meth "Turns" "__contains__").ok K),
  (fun K => (He.Fa.meth "Turns" "__eq__").ok K),
  (fun K => (He.Fa.meth "Turns" "period_of").ok K),
  (fun K => (He.Fa.meth "Turns" "rank").ok K),
  (neB_ "Turns"),
  (isoB "Row"),
  (isoB "Turns"),
  (cconB "Turns" "MOST" (.int 8)),
  (fun K => (He.Fa.glo "law").ok K)]
def fx : List DefX := [
  ⟨fun K => He.ga K "_law_agrees", "_law_agrees", "_law_agrees", defArgs s__law_agrees, defBody s__law_agrees, defScope s__law_agrees, [], [], []⟩,
  ⟨fun K => He.ga K "_law_bag", "_law_bag", "_law_bag", defArgs s__law_bag, defBody s__law_bag, defScope s__law_bag, [], [], []⟩,
  ⟨fun K => He.ga K "_law_divisor", "_law_divisor", "_law_divisor", defArgs s__law_divisor, defBody s__law_divisor, defScope s__law_divisor, [], [], []⟩,
  ⟨fun K => He.ga K "_law_draw", "_law_draw", "_law_draw", defArgs s__law_draw, defBody s__law_draw, defScope s__law_draw, [], [], []⟩,
  ⟨fun K => He.ga K "_law_ident", "_law_ident", "_law_ident", defArgs s__law_ident, defBody s__law_ident, defScope s__law_ident, [], [], []⟩,
  ⟨fun K => He.ga K "common_divisor", "common_divisor", "common_divisor", defArgs s_common_divisor, defBody s_common_divisor, defScope s_common_divisor, [], [], []⟩,
  ⟨fun K => He.ga K "is_claim", "is_claim", "is_claim", defArgs s_is_claim, defBody s_is_claim, defScope s_is_claim, [], [], []⟩,
  ⟨fun K => He.ga K "is_name", "is_name", "is_name", defArgs s_is_name, defBody s_is_name, defScope s_is_name, [], [], []⟩,
  ⟨fun K => He.ga K "is_whole", "is_whole", "is_whole", defArgs s_is_whole, defBody s_is_whole, defScope s_is_whole, [], [], []⟩,
  ⟨fun K => He.ga K "map_of", "map_of", "map_of", defArgs s_map_of, defBody s_map_of, defScope s_map_of, [], [], []⟩,
  ⟨fun K => He.ga K "normal_steps", "normal_steps", "normal_steps", defArgs s_normal_steps, defBody s_normal_steps, defScope s_normal_steps, [], [], []⟩,
  ⟨fun K => He.ga K "reduced", "reduced", "reduced", defArgs s_reduced, defBody s_reduced, defScope s_reduced, [], [], []⟩,
  ⟨fun K => He.ga K "step_key", "step_key", "step_key", defArgs s_step_key, defBody s_step_key, defScope s_step_key, [], [], []⟩,
  ⟨fun K => He.ma K (He.ga K "Row") "__init__", "__init__", "Row.__init__", defArgs s_Row___init__, defBody s_Row___init__, defScope s_Row___init__, [.adr (He.dflAt ("Row", some "__init__") 0)], [], []⟩,
  ⟨fun K => He.ma K (He.ga K "Book") "__init__", "__init__", "Book.__init__", defArgs s_Book___init__, defBody s_Book___init__, defScope s_Book___init__, [.adr (He.dflAt ("Book", some "__init__") 0)], [], []⟩,
  ⟨fun K => He.ma K (He.ga K "Ring") "__init__", "__init__", "Ring.__init__", defArgs s_Ring___init__, defBody s_Ring___init__, defScope s_Ring___init__, [], [], []⟩,
  ⟨fun K => He.ma K (He.ga K "RingMap") "__init__", "__init__", "RingMap.__init__", defArgs s_RingMap___init__, defBody s_RingMap___init__, defScope s_RingMap___init__, [.adr (He.dflAt ("RingMap", some "__init__") 0)], [], []⟩,
  ⟨fun K => He.ma K (He.ga K "Row") "__init__", "__init__", "Row.__init__", defArgs s_Row___init__, defBody s_Row___init__, defScope s_Row___init__, [.adr (He.dflAt ("Row", some "__init__") 0)], [], []⟩,
  ⟨fun K => He.ma K (He.ga K "Turns") "__init__", "__init__", "Turns.__init__", defArgs s_Turns___init__, defBody s_Turns___init__, defScope s_Turns___init__, [], [], []⟩,
  ⟨fun K => He.ma K (He.ga K "Book") "__contains__", "__contains__", "Book.__contains__", defArgs s_Book___contains__, defBody s_Book___contains__, defScope s_Book___contains__, [], [], []⟩,
  ⟨fun K => He.ma K (He.ga K "Book") "leads", "leads", "Book.leads", defArgs s_Book_leads, defBody s_Book_leads, defScope s_Book_leads, [], [], []⟩,
  ⟨fun K => He.ma K (He.ga K "Book") "need_place", "need_place", "Book.need_place", defArgs s_Book_need_place, defBody s_Book_need_place, defScope s_Book_need_place, [], [], []⟩,
  ⟨fun K => He.ma K (He.ga K "RingMap") "add_fact", "add_fact", "RingMap.add_fact", defArgs s_RingMap_add_fact, defBody s_RingMap_add_fact, defScope s_RingMap_add_fact, [], [], []⟩,
  ⟨fun K => He.ma K (He.ga K "RingMap") "after", "after", "RingMap.after", defArgs s_RingMap_after, defBody s_RingMap_after, defScope s_RingMap_after, [], [], []⟩,
  ⟨fun K => He.ma K (He.ga K "RingMap") "close_up", "close_up", "RingMap.close_up", defArgs s_RingMap_close_up, defBody s_RingMap_close_up, defScope s_RingMap_close_up, [], [], []⟩,
  ⟨fun K => He.ma K (He.ga K "RingMap") "drop_ring", "drop_ring", "RingMap.drop_ring", defArgs s_RingMap_drop_ring, defBody s_RingMap_drop_ring, defScope s_RingMap_drop_ring, [], [], []⟩,
  ⟨fun K => He.ma K (He.ga K "RingMap") "join_rings", "join_rings", "RingMap.join_rings", defArgs s_RingMap_join_rings, defBody s_RingMap_join_rings, defScope s_RingMap_join_rings, [], [], []⟩,
  ⟨fun K => He.ma K (He.ga K "RingMap") "join_spots", "join_spots", "RingMap.join_spots", defArgs s_RingMap_join_spots, defBody s_RingMap_join_spots, defScope s_RingMap_join_spots, [], [], []⟩,
  ⟨fun K => He.ma K (He.ga K "RingMap") "lay", "lay", "RingMap.lay", defArgs s_RingMap_lay, defBody s_RingMap_lay, defScope s_RingMap_lay, [], [], []⟩,
  ⟨fun K => He.ma K (He.ga K "RingMap") "lessen", "lessen", "RingMap.lessen", defArgs s_RingMap_lessen, defBody s_RingMap_lessen, defScope s_RingMap_lessen, [], [], []⟩,
  ⟨fun K => He.ma K (He.ga K "RingMap") "new_spot", "new_spot", "RingMap.new_spot", defArgs s_RingMap_new_spot, defBody s_RingMap_new_spot, defScope s_RingMap_new_spot, [], [], []⟩,
  ⟨fun K => He.ma K (He.ga K "RingMap") "ring_at", "ring_at", "RingMap.ring_at", defArgs s_RingMap_ring_at, defBody s_RingMap_ring_at, defScope s_RingMap_ring_at, [], [], []⟩,
  ⟨fun K => He.ma K (He.ga K "RingMap") "seat", "seat", "RingMap.seat", defArgs s_RingMap_seat, defBody s_RingMap_seat, defScope s_RingMap_seat, [], [], []⟩,
  ⟨fun K => He.ma K (He.ga K "RingMap") "settle_once", "settle_once", "RingMap.settle_once", defArgs s_RingMap_settle_once, defBody s_RingMap_settle_once, defScope s_RingMap_settle_once, [], [], []⟩,
  ⟨fun K => He.ma K (He.ga K "RingMap") "settle_ring", "settle_ring", "RingMap.settle_ring", defArgs s_RingMap_settle_ring, defBody s_RingMap_settle_ring, defScope s_RingMap_settle_ring, [], [], []⟩,
  ⟨fun K => He.ma K (He.ga K "RingMap") "settle_spot", "settle_spot", "RingMap.settle_spot", defArgs s_RingMap_settle_spot, defBody s_RingMap_settle_spot, defScope s_RingMap_settle_spot, [], [], []⟩,
  ⟨fun K => He.ma K (He.ga K "RingMap") "unseat", "unseat", "RingMap.unseat", defArgs s_RingMap_unseat, defBody s_RingMap_unseat, defScope s_RingMap_unseat, [], [], []⟩,
  ⟨fun K => He.ma K (He.ga K "RingMap") "walk", "walk", "RingMap.walk", defArgs s_RingMap_walk, defBody s_RingMap_walk, defScope s_RingMap_walk, [], [], []⟩,
  ⟨fun K => He.ma K (He.ga K "Ring") "place", "place", "Ring.place", defArgs s_Ring_place, defBody s_Ring_place, defScope s_Ring_place, [], [], []⟩,
  ⟨fun K => He.ma K (He.ga K "Ring") "spot_at", "spot_at", "Ring.spot_at", defArgs s_Ring_spot_at, defBody s_Ring_spot_at, defScope s_Ring_spot_at, [], [], []⟩,
  ⟨fun K => He.ma K (He.ga K "Row") "__len__", "__len__", "Row.__len__", defArgs s_Row___len__, defBody s_Row___len__, defScope s_Row___len__, [], [], []⟩,
  ⟨fun K => He.ma K (He.ga K "Turns") "__contains__", "__contains__", "Turns.__contains__", defArgs s_Turns___contains__, defBody s_Turns___contains__, defScope s_Turns___contains__, [], [], []⟩,
  ⟨fun K => He.ma K (He.ga K "Turns") "__eq__", "__eq__", "Turns.__eq__", defArgs s_Turns___eq__, defBody s_Turns___eq__, defScope s_Turns___eq__, [], [], []⟩,
  ⟨fun K => He.ma K (He.ga K "Turns") "period_of", "period_of", "Turns.period_of", defArgs s_Turns_period_of, defBody s_Turns_period_of, defScope s_Turns_period_of, [], [], []⟩,
  ⟨fun K => He.ma K (He.ga K "Turns") "rank", "rank", "Turns.rank", defArgs s_Turns_rank, defBody s_Turns_rank, defScope s_Turns_rank, [], [], []⟩,
  ⟨fun K => He.ga K "law", "law", "law", defArgs s_law, defBody s_law, defScope s_law, [], [], []⟩]
def d0 : DefX := ⟨fun _ => 0, "law", "law", ⟨[], [], none, [], [], none, []⟩, [], ⟨.function, [], false, false, []⟩, [], [], []⟩
theorem txt_of {K : PySem.W.Frag} {h : Heap} {mg : Str → Option Value} (X : K.In h) (G : h.Ns mainGlobals mg) (c : SaysX fb fx K) : Txt K mg where
  a_Book__facts := He.noat_ok (c.fact 0 (f := (fun K => (He.Fa.noat "Book" "facts").ok K)) rfl)
  a_Book__places := He.noat_ok (c.fact 1 (f := (fun K => (He.Fa.noat "Book" "places").ok K)) rfl)
  a_Book__rings := He.noat_ok (c.fact 2 (f := (fun K => (He.Fa.noat "Book" "rings").ok K)) rfl)
  a_Book__turns := He.noat_ok (c.fact 3 (f := (fun K => (He.Fa.noat "Book" "turns").ok K)) rfl)
  a_RingMap__circles := He.noat_ok (c.fact 4 (f := (fun K => (He.Fa.noat "RingMap" "circles").ok K)) rfl)
  a_RingMap__drawn := He.noat_ok (c.fact 5 (f := (fun K => (He.Fa.noat "RingMap" "drawn").ok K)) rfl)
  a_RingMap__laid := He.noat_ok (c.fact 6 (f := (fun K => (He.Fa.noat "RingMap" "laid").ok K)) rfl)
  a_RingMap__lying := He.noat_ok (c.fact 7 (f := (fun K => (He.Fa.noat "RingMap" "lying").ok K)) rfl)
  a_RingMap__spot_of := He.noat_ok (c.fact 8 (f := (fun K => (He.Fa.noat "RingMap" "spot_of").ok K)) rfl)
  a_RingMap__spots := He.noat_ok (c.fact 9 (f := (fun K => (He.Fa.noat "RingMap" "spots").ok K)) rfl)
  a_RingMap__turns := He.noat_ok (c.fact 10 (f := (fun K => (He.Fa.noat "RingMap" "turns").ok K)) rfl)
  a_Ring__modulus := He.noat_ok (c.fact 11 (f := (fun K => (He.Fa.noat "Ring" "modulus").ok K)) rfl)
  a_Ring__number := He.noat_ok (c.fact 12 (f := (fun K => (He.Fa.noat "Ring" "number").ok K)) rfl)
  a_Ring__seats := He.noat_ok (c.fact 13 (f := (fun K => (He.Fa.noat "Ring" "seats").ok K)) rfl)
  a_Ring__turn := He.noat_ok (c.fact 14 (f := (fun K => (He.Fa.noat "Ring" "turn").ok K)) rfl)
  a_Row__key := He.noat_ok (c.fact 15 (f := (fun K => (He.Fa.noat "Row" "key").ok K)) rfl)
  a_Row__steps := He.noat_ok (c.fact 16 (f := (fun K => (He.Fa.noat "Row" "steps").ok K)) rfl)
  a_Row__turns := He.noat_ok (c.fact 17 (f := (fun K => (He.Fa.noat "Row" "turns").ok K)) rfl)
  a_Turns__names := He.noat_ok (c.fact 18 (f := (fun K => (He.Fa.noat "Turns" "names").ok K)) rfl)
  a_Turns__pairs := He.noat_ok (c.fact 19 (f := (fun K => (He.Fa.noat "Turns" "pairs").ok K)) rfl)
  a_Turns__periods := He.noat_ok (c.fact 20 (f := (fun K => (He.Fa.noat "Turns" "periods").ok K)) rfl)
  a_Turns__ranks := He.noat_ok (c.fact 21 (f := (fun K => (He.Fa.noat "Turns" "ranks").ok K)) rfl)
  b_abs := He.free_ok X G (c.fact 22 (f := (fun K => (He.Fa.free "abs").ok K)) rfl)
  b_all := He.free_ok X G (c.fact 23 (f := (fun K => (He.Fa.free "all").ok K)) rfl)
  b_bool := He.free_ok X G (c.fact 24 (f := (fun K => (He.Fa.free "bool").ok K)) rfl)
  b_enumerate := He.free_ok X G (c.fact 25 (f := (fun K => (He.Fa.free "enumerate").ok K)) rfl)
  b_int := He.free_ok X G (c.fact 26 (f := (fun K => (He.Fa.free "int").ok K)) rfl)
  b_isinstance := He.free_ok X G (c.fact 27 (f := (fun K => (He.Fa.free "isinstance").ok K)) rfl)
  b_len := He.free_ok X G (c.fact 28 (f := (fun K => (He.Fa.free "len").ok K)) rfl)
  b_list := He.free_ok X G (c.fact 29 (f := (fun K => (He.Fa.free "list").ok K)) rfl)
  b_min := He.free_ok X G (c.fact 30 (f := (fun K => (He.Fa.free "min").ok K)) rfl)
  b_range := He.free_ok X G (c.fact 31 (f := (fun K => (He.Fa.free "range").ok K)) rfl)
  b_str := He.free_ok X G (c.fact 32 (f := (fun K => (He.Fa.free "str").ok K)) rfl)
  b_tuple := He.free_ok X G (c.fact 33 (f := (fun K => (He.Fa.free "tuple").ok K)) rfl)
  c_DIGITS := gconS (He.str_ok X G (c.fact 34 (f := (fun K => (He.Fa.str "DIGITS" "0123456789").ok K)) rfl))
  c_LETTERS := gconS (He.str_ok X G (c.fact 35 (f := (fun K => (He.Fa.str "LETTERS" "abcdefghijklmnopqrstuvwxyz").ok K)) rfl))
  c_LONGEST_NAME := gconI (He.int_ok X G (c.fact 36 (f := (fun K => (He.Fa.int "LONGEST_NAME" 12).ok K)) rfl))
  d__law_agrees := let ⟨fd, F⟩ := c.def_ 0 (d := fx.getD 0 d0) rfl; ⟨_, fd, F.fun_, He.glo_ok X G (c.fact 37 (f := (fun K => (He.Fa.glo "_law_agrees").ok K)) rfl)⟩
  d__law_bag := let ⟨fd, F⟩ := c.def_ 1 (d := fx.getD 1 d0) rfl; ⟨_, fd, F.fun_, He.glo_ok X G (c.fact 38 (f := (fun K => (He.Fa.glo "_law_bag").ok K)) rfl)⟩
  d__law_divisor := let ⟨fd, F⟩ := c.def_ 2 (d := fx.getD 2 d0) rfl; ⟨_, fd, F.fun_, He.glo_ok X G (c.fact 39 (f := (fun K => (He.Fa.glo "_law_divisor").ok K)) rfl)⟩
  d__law_draw := let ⟨fd, F⟩ := c.def_ 3 (d := fx.getD 3 d0) rfl; ⟨_, fd, F.fun_, He.glo_ok X G (c.fact 40 (f := (fun K => (He.Fa.glo "_law_draw").ok K)) rfl)⟩
  d__law_ident := let ⟨fd, F⟩ := c.def_ 4 (d := fx.getD 4 d0) rfl; ⟨_, fd, F.fun_, He.glo_ok X G (c.fact 41 (f := (fun K => (He.Fa.glo "_law_ident").ok K)) rfl)⟩
  d_common_divisor := let ⟨fd, F⟩ := c.def_ 5 (d := fx.getD 5 d0) rfl; ⟨_, fd, F.fun_, He.glo_ok X G (c.fact 42 (f := (fun K => (He.Fa.glo "common_divisor").ok K)) rfl)⟩
  d_is_claim := let ⟨fd, F⟩ := c.def_ 6 (d := fx.getD 6 d0) rfl; ⟨_, fd, F.fun_, He.glo_ok X G (c.fact 43 (f := (fun K => (He.Fa.glo "is_claim").ok K)) rfl)⟩
  d_is_name := let ⟨fd, F⟩ := c.def_ 7 (d := fx.getD 7 d0) rfl; ⟨_, fd, F.fun_, He.glo_ok X G (c.fact 44 (f := (fun K => (He.Fa.glo "is_name").ok K)) rfl)⟩
  d_is_whole := let ⟨fd, F⟩ := c.def_ 8 (d := fx.getD 8 d0) rfl; ⟨_, fd, F.fun_, He.glo_ok X G (c.fact 45 (f := (fun K => (He.Fa.glo "is_whole").ok K)) rfl)⟩
  d_map_of := let ⟨fd, F⟩ := c.def_ 9 (d := fx.getD 9 d0) rfl; ⟨_, fd, F.fun_, He.glo_ok X G (c.fact 46 (f := (fun K => (He.Fa.glo "map_of").ok K)) rfl)⟩
  d_normal_steps := let ⟨fd, F⟩ := c.def_ 10 (d := fx.getD 10 d0) rfl; ⟨_, fd, F.fun_, He.glo_ok X G (c.fact 47 (f := (fun K => (He.Fa.glo "normal_steps").ok K)) rfl)⟩
  d_reduced := let ⟨fd, F⟩ := c.def_ 11 (d := fx.getD 11 d0) rfl; ⟨_, fd, F.fun_, He.glo_ok X G (c.fact 48 (f := (fun K => (He.Fa.glo "reduced").ok K)) rfl)⟩
  d_step_key := let ⟨fd, F⟩ := c.def_ 12 (d := fx.getD 12 d0) rfl; ⟨_, fd, F.fun_, He.glo_ok X G (c.fact 49 (f := (fun K => (He.Fa.glo "step_key").ok K)) rfl)⟩
  e_Row := let ⟨fd, F⟩ := c.def_ 13 (d := fx.getD 13 d0) rfl; ⟨_, fd, _, He.mkr_ok (c.fact 50 (f := (fun K => (He.Fa.mkr "Row").ok K)) rfl), He.glo_ok X G (c.fact 51 (f := (fun K => (He.Fa.glo "Row").ok K)) rfl), F, empB_ok (c.fact 52 (f := (empB (He.dflAt ("Row", some "__init__") 0))) rfl)⟩
  i_Book := let ⟨fd, F⟩ := c.def_ 14 (d := fx.getD 14 d0) rfl; ⟨_, fd, _, He.mkr_ok (c.fact 53 (f := (fun K => (He.Fa.mkr "Book").ok K)) rfl), He.glo_ok X G (c.fact 54 (f := (fun K => (He.Fa.glo "Book").ok K)) rfl), F, rfl⟩
  i_Ring := let ⟨fd, F⟩ := c.def_ 15 (d := fx.getD 15 d0) rfl; ⟨_, fd, _, He.mkr_ok (c.fact 55 (f := (fun K => (He.Fa.mkr "Ring").ok K)) rfl), He.glo_ok X G (c.fact 56 (f := (fun K => (He.Fa.glo "Ring").ok K)) rfl), F, rfl⟩
  i_RingMap := let ⟨fd, F⟩ := c.def_ 16 (d := fx.getD 16 d0) rfl; ⟨_, fd, _, He.mkr_ok (c.fact 57 (f := (fun K => (He.Fa.mkr "RingMap").ok K)) rfl), He.glo_ok X G (c.fact 58 (f := (fun K => (He.Fa.glo "RingMap").ok K)) rfl), F, rfl⟩
  i_Row := let ⟨fd, F⟩ := c.def_ 17 (d := fx.getD 17 d0) rfl; ⟨_, fd, _, He.mkr_ok (c.fact 50 (f := (fun K => (He.Fa.mkr "Row").ok K)) rfl), He.glo_ok X G (c.fact 51 (f := (fun K => (He.Fa.glo "Row").ok K)) rfl), F, rfl⟩
  i_Turns := let ⟨fd, F⟩ := c.def_ 18 (d := fx.getD 18 d0) rfl; ⟨_, fd, _, He.mkr_ok (c.fact 59 (f := (fun K => (He.Fa.mkr "Turns").ok K)) rfl), He.glo_ok X G (c.fact 60 (f := (fun K => (He.Fa.glo "Turns").ok K)) rfl), F, rfl⟩
  k_Book := He.cls_ok (c.fact 61 (f := (fun K => (He.Fa.cls "Book").ok K)) rfl)
  k_Ring := He.cls_ok (c.fact 62 (f := (fun K => (He.Fa.cls "Ring").ok K)) rfl)
  k_RingMap := He.cls_ok (c.fact 63 (f := (fun K => (He.Fa.cls "RingMap").ok K)) rfl)
  k_Row := He.cls_ok (c.fact 64 (f := (fun K => (He.Fa.cls "Row").ok K)) rfl)
  k_Turns := He.cls_ok (c.fact 65 (f := (fun K => (He.Fa.cls "Turns").ok K)) rfl)
  m_Book____contains__ := let ⟨fd, F⟩ := c.def_ 19 (d := fx.getD 19 d0) rfl; ⟨He.cls_ok (c.fact 61 (f := (fun K => (He.Fa.cls "Book").ok K)) rfl), _, fd, He.meth_ok (c.fact 66 (f := (fun K => (He.Fa.meth "Book" "__contains__").ok K)) rfl), F.fun_⟩
  m_Book__leads := let ⟨fd, F⟩ := c.def_ 20 (d := fx.getD 20 d0) rfl; ⟨He.cls_ok (c.fact 61 (f := (fun K => (He.Fa.cls "Book").ok K)) rfl), _, fd, He.meth_ok (c.fact 67 (f := (fun K => (He.Fa.meth "Book" "leads").ok K)) rfl), F.fun_⟩
  m_Book__need_place := let ⟨fd, F⟩ := c.def_ 21 (d := fx.getD 21 d0) rfl; ⟨He.cls_ok (c.fact 61 (f := (fun K => (He.Fa.cls "Book").ok K)) rfl), _, fd, He.meth_ok (c.fact 68 (f := (fun K => (He.Fa.meth "Book" "need_place").ok K)) rfl), F.fun_⟩
  m_RingMap__add_fact := let ⟨fd, F⟩ := c.def_ 22 (d := fx.getD 22 d0) rfl; ⟨He.cls_ok (c.fact 63 (f := (fun K => (He.Fa.cls "RingMap").ok K)) rfl), _, fd, He.meth_ok (c.fact 69 (f := (fun K => (He.Fa.meth "RingMap" "add_fact").ok K)) rfl), F.fun_⟩
  m_RingMap__after := let ⟨fd, F⟩ := c.def_ 23 (d := fx.getD 23 d0) rfl; ⟨He.cls_ok (c.fact 63 (f := (fun K => (He.Fa.cls "RingMap").ok K)) rfl), _, fd, He.meth_ok (c.fact 70 (f := (fun K => (He.Fa.meth "RingMap" "after").ok K)) rfl), F.fun_⟩
  m_RingMap__close_up := let ⟨fd, F⟩ := c.def_ 24 (d := fx.getD 24 d0) rfl; ⟨He.cls_ok (c.fact 63 (f := (fun K => (He.Fa.cls "RingMap").ok K)) rfl), _, fd, He.meth_ok (c.fact 71 (f := (fun K => (He.Fa.meth "RingMap" "close_up").ok K)) rfl), F.fun_⟩
  m_RingMap__drop_ring := let ⟨fd, F⟩ := c.def_ 25 (d := fx.getD 25 d0) rfl; ⟨He.cls_ok (c.fact 63 (f := (fun K => (He.Fa.cls "RingMap").ok K)) rfl), _, fd, He.meth_ok (c.fact 72 (f := (fun K => (He.Fa.meth "RingMap" "drop_ring").ok K)) rfl), F.fun_⟩
  m_RingMap__join_rings := let ⟨fd, F⟩ := c.def_ 26 (d := fx.getD 26 d0) rfl; ⟨He.cls_ok (c.fact 63 (f := (fun K => (He.Fa.cls "RingMap").ok K)) rfl), _, fd, He.meth_ok (c.fact 73 (f := (fun K => (He.Fa.meth "RingMap" "join_rings").ok K)) rfl), F.fun_⟩
  m_RingMap__join_spots := let ⟨fd, F⟩ := c.def_ 27 (d := fx.getD 27 d0) rfl; ⟨He.cls_ok (c.fact 63 (f := (fun K => (He.Fa.cls "RingMap").ok K)) rfl), _, fd, He.meth_ok (c.fact 74 (f := (fun K => (He.Fa.meth "RingMap" "join_spots").ok K)) rfl), F.fun_⟩
  m_RingMap__lay := let ⟨fd, F⟩ := c.def_ 28 (d := fx.getD 28 d0) rfl; ⟨He.cls_ok (c.fact 63 (f := (fun K => (He.Fa.cls "RingMap").ok K)) rfl), _, fd, He.meth_ok (c.fact 75 (f := (fun K => (He.Fa.meth "RingMap" "lay").ok K)) rfl), F.fun_⟩
  m_RingMap__lessen := let ⟨fd, F⟩ := c.def_ 29 (d := fx.getD 29 d0) rfl; ⟨He.cls_ok (c.fact 63 (f := (fun K => (He.Fa.cls "RingMap").ok K)) rfl), _, fd, He.meth_ok (c.fact 76 (f := (fun K => (He.Fa.meth "RingMap" "lessen").ok K)) rfl), F.fun_⟩
  m_RingMap__new_spot := let ⟨fd, F⟩ := c.def_ 30 (d := fx.getD 30 d0) rfl; ⟨He.cls_ok (c.fact 63 (f := (fun K => (He.Fa.cls "RingMap").ok K)) rfl), _, fd, He.meth_ok (c.fact 77 (f := (fun K => (He.Fa.meth "RingMap" "new_spot").ok K)) rfl), F.fun_⟩
  m_RingMap__ring_at := let ⟨fd, F⟩ := c.def_ 31 (d := fx.getD 31 d0) rfl; ⟨He.cls_ok (c.fact 63 (f := (fun K => (He.Fa.cls "RingMap").ok K)) rfl), _, fd, He.meth_ok (c.fact 78 (f := (fun K => (He.Fa.meth "RingMap" "ring_at").ok K)) rfl), F.fun_⟩
  m_RingMap__seat := let ⟨fd, F⟩ := c.def_ 32 (d := fx.getD 32 d0) rfl; ⟨He.cls_ok (c.fact 63 (f := (fun K => (He.Fa.cls "RingMap").ok K)) rfl), _, fd, He.meth_ok (c.fact 79 (f := (fun K => (He.Fa.meth "RingMap" "seat").ok K)) rfl), F.fun_⟩
  m_RingMap__settle_once := let ⟨fd, F⟩ := c.def_ 33 (d := fx.getD 33 d0) rfl; ⟨He.cls_ok (c.fact 63 (f := (fun K => (He.Fa.cls "RingMap").ok K)) rfl), _, fd, He.meth_ok (c.fact 80 (f := (fun K => (He.Fa.meth "RingMap" "settle_once").ok K)) rfl), F.fun_⟩
  m_RingMap__settle_ring := let ⟨fd, F⟩ := c.def_ 34 (d := fx.getD 34 d0) rfl; ⟨He.cls_ok (c.fact 63 (f := (fun K => (He.Fa.cls "RingMap").ok K)) rfl), _, fd, He.meth_ok (c.fact 81 (f := (fun K => (He.Fa.meth "RingMap" "settle_ring").ok K)) rfl), F.fun_⟩
  m_RingMap__settle_spot := let ⟨fd, F⟩ := c.def_ 35 (d := fx.getD 35 d0) rfl; ⟨He.cls_ok (c.fact 63 (f := (fun K => (He.Fa.cls "RingMap").ok K)) rfl), _, fd, He.meth_ok (c.fact 82 (f := (fun K => (He.Fa.meth "RingMap" "settle_spot").ok K)) rfl), F.fun_⟩
  m_RingMap__unseat := let ⟨fd, F⟩ := c.def_ 36 (d := fx.getD 36 d0) rfl; ⟨He.cls_ok (c.fact 63 (f := (fun K => (He.Fa.cls "RingMap").ok K)) rfl), _, fd, He.meth_ok (c.fact 83 (f := (fun K => (He.Fa.meth "RingMap" "unseat").ok K)) rfl), F.fun_⟩
  m_RingMap__walk := let ⟨fd, F⟩ := c.def_ 37 (d := fx.getD 37 d0) rfl; ⟨He.cls_ok (c.fact 63 (f := (fun K => (He.Fa.cls "RingMap").ok K)) rfl), _, fd, He.meth_ok (c.fact 84 (f := (fun K => (He.Fa.meth "RingMap" "walk").ok K)) rfl), F.fun_⟩
  m_Ring__place := let ⟨fd, F⟩ := c.def_ 38 (d := fx.getD 38 d0) rfl; ⟨He.cls_ok (c.fact 62 (f := (fun K => (He.Fa.cls "Ring").ok K)) rfl), _, fd, He.meth_ok (c.fact 85 (f := (fun K => (He.Fa.meth "Ring" "place").ok K)) rfl), F.fun_⟩
  m_Ring__spot_at := let ⟨fd, F⟩ := c.def_ 39 (d := fx.getD 39 d0) rfl; ⟨He.cls_ok (c.fact 62 (f := (fun K => (He.Fa.cls "Ring").ok K)) rfl), _, fd, He.meth_ok (c.fact 86 (f := (fun K => (He.Fa.meth "Ring" "spot_at").ok K)) rfl), F.fun_⟩
  m_Row____len__ := let ⟨fd, F⟩ := c.def_ 40 (d := fx.getD 40 d0) rfl; ⟨He.cls_ok (c.fact 64 (f := (fun K => (He.Fa.cls "Row").ok K)) rfl), _, fd, He.meth_ok (c.fact 87 (f := (fun K => (He.Fa.meth "Row" "__len__").ok K)) rfl), F.fun_⟩
  m_Turns____contains__ := let ⟨fd, F⟩ := c.def_ 41 (d := fx.getD 41 d0) rfl; ⟨He.cls_ok (c.fact 65 (f := (fun K => (He.Fa.cls "Turns").ok K)) rfl), _, fd, He.meth_ok (c.fact 88 (f := (fun K => (He.Fa.meth "Turns" "__contains__").ok K)) rfl), F.fun_⟩
  m_Turns____eq__ := let ⟨fd, F⟩ := c.def_ 42 (d := fx.getD 42 d0) rfl; ⟨He.cls_ok (c.fact 65 (f := (fun K => (He.Fa.cls "Turns").ok K)) rfl), _, fd, He.meth_ok (c.fact 89 (f := (fun K => (He.Fa.meth "Turns" "__eq__").ok K)) rfl), F.fun_⟩
  m_Turns__period_of := let ⟨fd, F⟩ := c.def_ 43 (d := fx.getD 43 d0) rfl; ⟨He.cls_ok (c.fact 65 (f := (fun K => (He.Fa.cls "Turns").ok K)) rfl), _, fd, He.meth_ok (c.fact 90 (f := (fun K => (He.Fa.meth "Turns" "period_of").ok K)) rfl), F.fun_⟩
  m_Turns__rank := let ⟨fd, F⟩ := c.def_ 44 (d := fx.getD 44 d0) rfl; ⟨He.cls_ok (c.fact 65 (f := (fun K => (He.Fa.cls "Turns").ok K)) rfl), _, fd, He.meth_ok (c.fact 91 (f := (fun K => (He.Fa.meth "Turns" "rank").ok K)) rfl), F.fun_⟩
  n_Turns := neB_ok (c.fact 92 (f := (neB_ "Turns")) rfl)
  o_Row := isoB_ok (c.fact 93 (f := (isoB "Row")) rfl)
  o_Turns := isoB_ok (c.fact 94 (f := (isoB "Turns")) rfl)
  q_Turns__MOST := cconB_ok (c.fact 95 (f := (cconB "Turns" "MOST" (.int 8))) rfl)
  v_Book := He.glo_ok X G (c.fact 54 (f := (fun K => (He.Fa.glo "Book").ok K)) rfl)
  v_RingMap := He.glo_ok X G (c.fact 58 (f := (fun K => (He.Fa.glo "RingMap").ok K)) rfl)
  v_Row := He.glo_ok X G (c.fact 51 (f := (fun K => (He.Fa.glo "Row").ok K)) rfl)
  v_Turns := He.glo_ok X G (c.fact 60 (f := (fun K => (He.Fa.glo "Turns").ok K)) rfl)
def names : List PySem.Str := (["_wall", "common_divisor", "common_multiple", "combination", "inverse", "common_class", "Ring", "RingMap", "map_of", "DrawnMap", "TurnError", "BadName", "TwiceNamed", "BadPeriod", "NoTurns", "TooMany", "NoTurn", "OtherTurns", "BadText", "NoPlace", "OtherPlaces", "BadFact", "BadLine", "LETTERS", "DIGITS", "LONGEST_NAME", "is_name", "reduced", "normal_steps", "step_key"] : List PySem.Str) ++ (["read_step", "Row", "join_letter", "Tree", "facts_of_map", "PairMap", "common_facts", "is_whole", "Turns", "is_claim", "same_names", "book_lines", "Book", "is_period", "Reader", "_law_bag", "_law_draw", "_law_ident", "_law_divisor", "_law_agrees"] : List PySem.Str)
abbrev R : PySem.W.OpenRow := PySem.W.OpenLaw.row PySem.Challenge.rw_turnrings_k21_rings_by_common_divisors
instance pmain : PMain PySem.Challenge.rw_turnrings_k21_rings_by_common_divisors.prog := ⟨by rfl, by rfl⟩
def asL : List Addr := [3, 2, 28, 87, 237, 248, 549, 556, 563, 570, 686, 798, 870, 881, 1015, 1087, 1094, 1101, 1108, 1115, 1120, 27, 86, 236, 247, 548, 555, 562, 569, 685, 797, 869, 880, 1014, 1086, 1093, 1100, 1107, 1114, 1119, 70, 77, 84, 107, 114, 121, 126, 131, 138, 152, 159, 166, 173, 178, 185, 192, 199, 206, 213, 220, 589, 629, 810, 817, 824, 853, 867, 907, 914, 929, 934, 69, 76, 83, 106, 100, 113, 120, 125, 130, 137, 151, 158, 165, 172, 177, 184, 191, 198, 205, 212, 219, 588, 584, 628, 809, 816, 823, 852, 866, 906, 900, 913, 928, 933, 583]
def hk : PySem.W.Hook := hookL asL fb fx
def ob (s : PySem.W.SharedT) : AlX := obsXL asL fb fx (HandSHeadRun.getT s)
theorem ob_eq (s : PySem.W.SharedT) : ob s = hk.obs s.abs := obsXL_eq (HandSHeadRun.getT_eq s)
theorem map3 {α β γ δ : Type} {o : Option α} {f : α → β} {g : α → γ} {h : α → δ} {x : β} {y : γ} {z : δ} (a : o.map f = some x) (b : o.map g = some y) (c : o.map h = some z) : o.map (fun s => (f s, g s, h s)) = some (x, y, z) := by
  cases o with
  | none => cases a
  | some s =>
    have a := Option.some.inj a
    have b := Option.some.inj b
    have c := Option.some.inj c
    show some (f s, g s, h s) = _
    rw [a, b, c]
theorem runL (w : World) (os : OsState) : (HandSHeadRun.endF (HandSHeadRun.stepQ (HandSHeadRun.denQ HandSHeadRun.tabQ) R.prog w) 40000 R.prog w os).map (fun s => HandSHeadRun.looksF R.prog (PySem.W.boot_heap w.params) s.abs) = some true := by kernel_rfl
open PySem PySem.W in
theorem runS (w : World) (os : OsState) : (HandSHeadRun.endF (HandSHeadRun.stepQ (HandSHeadRun.denQ HandSHeadRun.tabQ) R.prog w) 40000 R.prog w os).map (fun s => HandSHeadRun.seenQ (PySem.W.view R.prog [61]) names (importedModules R.prog.main.body) (fun s => PySem.W.xlAt (PySem.W.view R.prog [61]) [] s && PySem.W.recOk R.toRowW.records s) s.abs) = some (PySem.W.openGood (PySem.W.view R.prog [61]) names) := by kernel_rfl
theorem runO (w : World) (os : OsState) : (HandSHeadRun.endF (HandSHeadRun.stepQ (HandSHeadRun.denQ HandSHeadRun.tabQ) R.prog w) 40000 R.prog w os).map (fun s => ob s) = some (hk.val w) := by kernel_rfl
theorem run (w : World) : HandSHeadRun.RunEq R (PySem.W.view R.prog [61]) hk ob 40000 names w := fun os => map3 (runL w os) (runS w os) (runO w os)
end Tr
open PySem PySem.W PySem.Calls PyProof.Rows
set_option maxHeartbeats 0
theorem PySem.Challenge.cw_turnrings_k21_rings_by_common_divisors_holds : PySem.Challenge.rw_turnrings_k21_rings_by_common_divisors.Holds := by
  w_on; o_law
  refine HandSHeadRun.head_any (r := OpenLaw.row PySem.Challenge.rw_turnrings_k21_rings_by_common_divisors) (q := view (OpenLaw.row PySem.Challenge.rw_turnrings_k21_rings_by_common_divisors).prog [61]) (H := Tr.hk) (ob := Tr.ob) (M := 40000) (loose := Tr.names) (d := HandSHeadRun.topDef (OpenLaw.row PySem.Challenge.rw_turnrings_k21_rings_by_common_divisors).prog 61) (kwd := []) Tr.ob_eq
    (by kernel_rfl) (fun s => by kernel_rfl) Tr.run (by kernel_rfl) (by kernel_rfl) (by kernel_rfl) (by rfl) (by first | assumption | decide +kernel) (by decide +kernel) ⟨rfl, rfl, rfl, rfl, rfl, by decide +kernel⟩ ?hw ?hc
  case hw => w_witness2
  case hc =>
    refine L2.walk_ofE (l := PySem.Challenge.rw_turnrings_k21_rings_by_common_divisors) (n := 63) (k := 80) (x := "_law_script") (CX := L2.CX0) rfl (by decide) (by kernel_rfl) ⟨rfl, by decide, by decide⟩ ?F (fun _ _ _ _ z => z)
    intro w mg fa h Y G hmg0
    obtain ⟨K, KX, c⟩ := Y
    have hmg : mg ("law" : PySem.Str) = some (.ref fa) := by
      have e : (HandSHeadRun.topDef (OpenLaw.row PySem.Challenge.rw_turnrings_k21_rings_by_common_divisors).prog 61).name = ("law" : PySem.Str) := by kernel_rfl
      rw [← e]
      exact hmg0
    have e := hmg.symm.trans (He.glo_ok KX G (Tr.SaysX.fact c 96 (f := (fun K => (He.Fa.glo "law").ok K)) rfl))
    cases e
    obtain ⟨fd, F⟩ := Tr.SaysX.def_ c 45 (d := Tr.fx.getD 45 Tr.d0) rfl
    have T := Tr.txt_of KX G c
    refine ⟨K, fd, Tr.spLaw K, KX, fun s u => L2.FunD.bindsA (ps := ["_law_script"]) F (fun _ _ _ _ _ _ us hl => match us, hl with | [_], _ => rfl) s [u] rfl, fun H a ns hl _ hS => ⟨a, ns, rfl, hS, fun _ => rfl⟩, fun base _ _ => L2.FnOk.to0 (Tr.ok_law T F.fun_) fun vs H Q E h => h⟩
