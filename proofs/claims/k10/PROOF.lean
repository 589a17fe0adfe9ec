import PyProof.Rows.All
import Wide.All
import OpenK.AllK
import Wide.FinOn
import HandS.ForMost
import HandS.ForExc
import HandS.TupSets
import HandS.Strs
import HandS.Wide
import HandS.Codes
import HandS.Star
import HandS.IsInst
import HandS.Property
import HandS.Defaults
import HandS.OwnEq
import HandS.SetFor
import HandS.TupLe
import HandS.Style
import HandS.HeadHook2
import HandS.Head2
import HandS.HeadEnd
import HandS.ClsMeth
import KE.GoesEnum
import KE.KOpsOwn
import KE.DataMinMax
import HandS.SortKw
import HandS.Walk
import HandS.HeadHook3
import HandS.TupAny
import KE.KRevSl
import HandS.ExcInit
import HandS.Nested
import KE.KExcSuper
import HandS.TryOnly
import HandS.TryMany
import HandS.ExcOwn
import HandS.ExcField
import HandS.ExcIs
import KE.DataCmp
import KE.SortData
import KE.KCallOwn
import HandS.Lambda
import HandS.Deep
import HandS.MakeKw
import HandS.MakeKwOnly
import PyProof.StrBlock2
import HandS.FStr
import HandS.CallLocal
import KE.IntTextLaws
import HandS.HotCalls
import HandS.HeadWalk
import KE.KNestM
import PySem.Challenge.RW_turnrings_k10_turns_declared
set_option Elab.async false
set_option linter.all false
set_option maxRecDepth 100000
set_option maxHeartbeats 4000000
/-! # My layer over HandS: defs by name (Cal), own operators. -/
namespace Tr
open PySem L2
open PyProof.Rows (envOfC)

theorem units_of {A : Around} {k : Nat} (hr : Room k A) : A.units + 64 < cLine := hr.units

/-- a def that may be called by its name -/
structure Cal (P : Program) (w : World) (K : PySem.W.Frag) (mg : Str → Option Value) (base : Heap) (k : Nat) (x : Str) (sp : Sp) (dvs : List V) : Prop where
  ex : ∃ (f : Addr) (fd : FuncData) (ps : List Str) (ds : List Value), FnOk P w K mg base (L2.CX P w) k f fd ps sp ∧ mg x = some (.ref f) ∧ PySem.W.keepIn K (.ref f) = true ∧ Binds K fd ps ds ∧ Vals dvs ds
/-- a method of the class at C -/
structure Met (P : Program) (w : World) (K : PySem.W.Frag) (mg : Str → Option Value) (base : Heap) (k : Nat) (C : Addr) (m : Str) (sp : Sp) (dvs : List V) : Prop where
  ex : ∃ (f : Addr) (fd : FuncData) (ps : List Str) (ds : List Value), Cls K C ∧ Meth K C m f ∧ FnOk P w K mg base (L2.CX P w) k f fd ps sp ∧ Binds K fd ps ds ∧ Vals dvs ds
/-- a class that may be made by its name; sp: its __init__ -/
structure Mak (P : Program) (w : World) (K : PySem.W.Frag) (mg : Str → Option Value) (base : Heap) (k : Nat) (x : Str) (C : Addr) (sp : Sp) (dvs : List V) : Prop where
  ex : ∃ (f : Addr) (fd : FuncData) (ps : List Str) (ds : List Value), Mk K C f ∧ FnOk P w K mg base (L2.CX P w) k f fd ps sp ∧ mg x = some (.ref C) ∧ Binds K fd ps ds ∧ Vals dvs ds
/-- a def of the module, as the top has left it -/
def Dfn (K : PySem.W.Frag) (mg : Str → Option Value) (x : Str) (st : Stmt) : Prop := ∃ f fd, Fun K x x st f fd ∧ mg x = some (.ref f)

section
variable {P : Program} {w : World} {K : PySem.W.Frag} {mg : Str → Option Value} {base : Heap}
theorem Cal.mono {j k : Nat} {x : Str} {sp : Sp} {dvs : List V} (c : Cal P w K mg base j x sp dvs) (h : j ≤ k) : Cal P w K mg base k x sp dvs :=
  let ⟨f, fd, ps, ds, F, r⟩ := c.ex
  ⟨f, fd, ps, ds, F.mono h, r⟩
theorem Cal.imp {k : Nat} {x : Str} {sp sp' : Sp} {dvs : List V} (c : Cal P w K mg base k x sp dvs) (h : ∀ vs H Q E, sp' vs H Q E → sp vs H Q E) : Cal P w K mg base k x sp' dvs :=
  let ⟨f, fd, ps, ds, F, r⟩ := c.ex
  ⟨f, fd, ps, ds, F.imp h, r⟩
/-- a def that raises nothing, by its body -/
theorem okN {x qual : Str} {st : Stmt} {f : Addr} {fd : FuncData} {N ps : List Str} {k : Nat} {sp : Sp} (F : Fun K x qual st f fd) (S : FnScope N ps (defScope st)) (len : ∀ vs H Q E, sp vs H Q E → vs.length = ps.length)
    (hbody : ∀ (cdv : Value) (A : Around) (outer : List Env) (s : Shared) (H : Hp) (vs : List V) (Q : VK) (E : XK), Room k (A.deeper (envOfC qual (defScope st) s.heap.objs.size f cdv)) → sp vs H Q E →
      ∃ t, PSs (cxOf (L2.CX P w) P w K mg base N qual (defScope st) f cdv A outer s H E).nox (defBody st) t ∧ t { nx := fun _ H' => Q .non H', rt := Q } (start N vs) H) : FnOk P w K mg base (L2.CX P w) (k + 1) f fd ps sp :=
  F.okX S len fun cdv A outer s H vs Q E hr h =>
    let ⟨t, h1, h2⟩ := hbody cdv A outer s H vs Q E hr h
    ⟨t, h1.nox, h2⟩
theorem calN {x : Str} {st : Stmt} {N ps : List Str} {k : Nat} {sp : Sp} (D : Dfn K mg x st) (S : FnScope N ps (defScope st)) (len : ∀ vs H Q E, sp vs H Q E → vs.length = ps.length)
    (hb : ∀ (kV doc pm : Value) (an : Option Addr) (cdv ct : Value) (us : List Value), us.length = ps.length → bindArgs (PySem.W.fnOf x x (defArgs st) (defBody st) (defScope st) .none kV doc pm an cdv ct) ⟨us, []⟩ = pure (ps.zip us))
    (hbody : ∀ (f : Addr) (cdv : Value) (A : Around) (outer : List Env) (s : Shared) (H : Hp) (vs : List V) (Q : VK) (E : XK), Room k (A.deeper (envOfC x (defScope st) s.heap.objs.size f cdv)) → sp vs H Q E →
      ∃ t, PSs (cxOf (L2.CX P w) P w K mg base N x (defScope st) f cdv A outer s H E).nox (defBody st) t ∧ t { nx := fun _ H' => Q .non H', rt := Q } (start N vs) H) : Cal P w K mg base (k + 1) x sp [] :=
  let ⟨f, fd, F, hm⟩ := D
  ⟨f, fd, ps, [], okN F S len (hbody f), hm, F.kp, F.binds hb, .nil⟩
/-- a def that may raise -/
theorem calX {x : Str} {st : Stmt} {N ps : List Str} {k : Nat} {sp : Sp} (D : Dfn K mg x st) (S : FnScope N ps (defScope st)) (len : ∀ vs H Q E, sp vs H Q E → vs.length = ps.length)
    (hb : ∀ (kV doc pm : Value) (an : Option Addr) (cdv ct : Value) (us : List Value), us.length = ps.length → bindArgs (PySem.W.fnOf x x (defArgs st) (defBody st) (defScope st) .none kV doc pm an cdv ct) ⟨us, []⟩ = pure (ps.zip us))
    (hbody : ∀ (f : Addr) (cdv : Value) (A : Around) (outer : List Env) (s : Shared) (H : Hp) (vs : List V) (Q : VK) (E : XK), Room k (A.deeper (envOfC x (defScope st) s.heap.objs.size f cdv)) → sp vs H Q E →
      ∃ t, PSs (cxOf (L2.CX P w) P w K mg base N x (defScope st) f cdv A outer s H E) (defBody st) t ∧ t { nx := fun _ H' => Q .non H', rt := Q } (start N vs) H) : Cal P w K mg base (k + 1) x sp [] :=
  let ⟨f, fd, F, hm⟩ := D
  ⟨f, fd, ps, [], F.okX S len (hbody f), hm, F.kp, F.binds hb, .nil⟩
theorem dfn_of {h : Heap} {x : Str} {st : Stmt} {f : Addr} {oc : Value} {od an : Option Addr} {osl : Array (Option Value)} {kV doc pm cdv ct : Value} (X : K.In h) (G : h.Ns mainGlobals mg)
    (a : PySem.W.nsIn K mainGlobals x = some (some (.ref f))) (l : K.lookup f = some ⟨oc, od, .func (PySem.W.fnOf x x (defArgs st) (defBody st) (defScope st) .none kV doc pm an cdv ct), osl⟩)
    (c : PySem.W.codeIn K cdv x = true) (k : PySem.W.keepIn K (.ref f) = true) : Dfn K mg x st := ⟨f, _, fun_mk l c k, PySem.W.mg_of X G a⟩
end

section
variable {X : Cx} {k j : Nat} {C : Addr} {x m : Str} {sp : Sp} {dvs : List V} {p pos apos : Pos} {e o : Expr} {es : List Expr} {ta : TE} {t : TA} {E : XK}
theorem pe_cx (c : Cal X.prog X.w X.K X.mg X.base k x sp dvs) (hr : Room j X.A) (hk : k ≤ j) (hg : Gl X x) (hx : Passes (L2.CX X.prog X.w) X E) (ha : PA X (e :: es) t)
    (hdb : (x == ("__debug__" : Str)) = false := by decide) (he : starEach (e :: es) X.env = (false, eval e X.env) :: starEach es X.env := by rfl) (hpl : (backTo pos (starEach es X.env)).any (·.1) = false := by rfl) :
    PE X (.Call (.Name x p) (e :: es) [] pos) (tCall sp dvs E t) := by
  obtain ⟨f, fd, ps, ds, F, hm, kp, b, d⟩ := c.ex
  exact pe_call F (hr.mono hk) hg hm kp b d hx ha hdb he hpl
theorem pe_cx0 (c : Cal X.prog X.w X.K X.mg X.base k x sp dvs) (hr : Room j X.A) (hk : k ≤ j) (hg : Gl X x) (hx : Passes (L2.CX X.prog X.w) X E)
    (hdb : (x == ("__debug__" : Str)) = false := by decide) : PE X (.Call (.Name x p) [] [] pos) (tCall sp dvs E tNil) := by
  obtain ⟨f, fd, ps, ds, F, hm, kp, b, d⟩ := c.ex
  exact pe_call0 F (hr.mono hk) hg hm kp b d hx hdb
end
end Tr

/-! # Lists of pairs, loops and comprehensions over them. -/
namespace Tr
open PySem L2

/-- two lists, item by item -/
inductive P2 {α β : Type} (R : α → β → Prop) : List α → List β → Prop where
  | nil : P2 R [] []
  | cons {a : α} {b : β} {l : List α} {m : List β} : R a b → P2 R l m → P2 R (a :: l) (b :: m)
namespace P2
variable {α β γ : Type} {R S : α → β → Prop}
theorem len {l : List α} {m : List β} (h : P2 R l m) : l.length = m.length := by
  induction h with
  | nil => rfl
  | cons _ _ ih => simp only [List.length_cons, ih]
theorem mono {l : List α} {m : List β} (h : P2 R l m) (f : ∀ a b, R a b → S a b) : P2 S l m := by
  induction h with
  | nil => exact .nil
  | cons r _ ih => exact .cons (f _ _ r) ih
theorem monoM {l : List α} {m : List β} (h : P2 R l m) (f : ∀ a b, a ∈ l → b ∈ m → R a b → S a b) : P2 S l m := by
  induction h with
  | nil => exact .nil
  | cons r _ ih => exact .cons (f _ _ List.mem_cons_self List.mem_cons_self r) (ih fun a b ha hb => f a b (List.mem_cons_of_mem _ ha) (List.mem_cons_of_mem _ hb))
theorem app {l l' : List α} {m m' : List β} (h : P2 R l m) (h' : P2 R l' m') : P2 R (l ++ l') (m ++ m') := by
  induction h with
  | nil => exact h'
  | cons r _ ih => exact .cons r ih
theorem snoc {l : List α} {m : List β} {a : α} {b : β} (h : P2 R l m) (r : R a b) : P2 R (l ++ [a]) (m ++ [b]) := h.app (.cons r .nil)
theorem get {l : List α} {m : List β} (h : P2 R l m) {i : Nat} {b : β} (e : m[i]? = some b) : ∃ a, l[i]? = some a ∧ R a b := by
  induction h generalizing i with
  | nil => simp at e
  | cons r _ ih =>
    cases i with
    | zero =>
      simp only [List.getElem?_cons_zero, Option.some.injEq] at e
      subst e
      exact ⟨_, rfl, r⟩
    | succ i => exact ih (by simpa using e)
theorem getl {l : List α} {m : List β} (h : P2 R l m) {i : Nat} {a : α} (e : l[i]? = some a) : ∃ b, m[i]? = some b ∧ R a b := by
  induction h generalizing i with
  | nil => simp at e
  | cons r _ ih =>
    cases i with
    | zero =>
      simp only [List.getElem?_cons_zero, Option.some.injEq] at e
      subst e
      exact ⟨_, rfl, r⟩
    | succ i => exact ih (by simpa using e)
theorem eq_map {g : β → α} {l : List α} {m : List β} (h : P2 (fun a b => a = g b) l m) : l = m.map g := by
  induction h with
  | nil => rfl
  | cons r _ ih => rw [r, ih]; rfl
theorem of_map {g : β → α} (m : List β) (h : ∀ b ∈ m, R (g b) b) : P2 R (m.map g) m := by
  induction m with
  | nil => exact .nil
  | cons b m ih => exact .cons (h b List.mem_cons_self) (ih fun c hc => h c (List.mem_cons_of_mem _ hc))
theorem mapr {f : γ → β} {l : List α} {m : List γ} (h : P2 (fun a c => R a (f c)) l m) : P2 R l (m.map f) := by
  induction h with
  | nil => exact .nil
  | cons r _ ih => exact .cons r ih
theorem memr {l : List α} {m : List β} (h : P2 R l m) {b : β} (hb : b ∈ m) : ∃ a ∈ l, R a b := by
  induction h with
  | nil => cases hb
  | cons r _ ih =>
    rcases List.mem_cons.mp hb with e | hb
    · rw [e]; exact ⟨_, List.mem_cons_self, r⟩
    · obtain ⟨a, ha, r⟩ := ih hb
      exact ⟨a, List.mem_cons_of_mem _ ha, r⟩
theorem meml {l : List α} {m : List β} (h : P2 R l m) {a : α} (ha : a ∈ l) : ∃ b ∈ m, R a b := by
  induction h with
  | nil => cases ha
  | cons r _ ih =>
    rcases List.mem_cons.mp ha with e | ha
    · rw [e]; exact ⟨_, List.mem_cons_self, r⟩
    · obtain ⟨b, hb, r⟩ := ih ha
      exact ⟨b, List.mem_cons_of_mem _ hb, r⟩
theorem ref {f : α → V} {l : List V} {m : List β} {T : V → β → Prop} (h : P2 T l m) (hf : ∀ v b, T v b → ∃ a, v = f a) : ∃ as : List α, l = as.map f := by
  induction h with
  | nil => exact ⟨[], rfl⟩
  | cons r _ ih =>
    obtain ⟨as, e⟩ := ih
    obtain ⟨a, e2⟩ := hf _ _ r
    exact ⟨a :: as, by rw [e2, e]; rfl⟩
theorem map_l {f : α → γ} {T : γ → β → Prop} {l : List α} {m : List β} : P2 T (l.map f) m ↔ P2 (fun a b => T (f a) b) l m := by
  constructor
  · intro h
    generalize hl : l.map f = k at h
    induction h generalizing l with
    | nil =>
      cases l with
      | nil => exact .nil
      | cons a l => cases hl
    | cons r _ ih =>
      cases l with
      | nil => cases hl
      | cons a l =>
        simp only [List.map_cons, List.cons.injEq] at hl
        obtain ⟨e1, e2⟩ := hl
        subst e1
        exact .cons r (ih e2)
  · intro h
    induction h with
    | nil => exact .nil
    | cons r _ ih => exact .cons r ih
theorem take {l : List α} {m : List β} (h : P2 R l m) (n : Nat) : P2 R (l.take n) (m.take n) := by
  induction h generalizing n with
  | nil => simp only [List.take_nil]; exact .nil
  | cons r _ ih =>
    cases n with
    | zero => exact .nil
    | succ n => exact .cons r (ih n)
theorem drop {l : List α} {m : List β} (h : P2 R l m) (n : Nat) : P2 R (l.drop n) (m.drop n) := by
  induction h generalizing n with
  | nil => simp only [List.drop_nil]; exact .nil
  | cons r h ih =>
    cases n with
    | zero => exact .cons r h
    | succ n => exact ih n
theorem rev {l : List α} {m : List β} (h : P2 R l m) : P2 R l.reverse m.reverse := by
  induction h with
  | nil => exact .nil
  | cons r _ ih => rw [List.reverse_cons, List.reverse_cons]; exact ih.snoc r
end P2

theorem take_snoc {α : Type} {l : List α} {i : Nat} {x : α} (h : l[i]? = some x) : l.take (i + 1) = l.take i ++ [x] := by
  obtain ⟨hi, e⟩ := List.getElem?_eq_some_iff.mp h
  rw [← e]
  exact List.take_succ_eq_append_getElem hi
theorem mem_of_at {α : Type} {l : List α} {i : Nat} {x : α} (h : l[i]? = some x) : x ∈ l := List.mem_of_getElem? h

theorem nodup_len {α : Type} [DecidableEq α] : ∀ (l m : List α), l.Nodup → (∀ x ∈ l, x ∈ m) → l.length ≤ m.length
  | [], _, _, _ => Nat.zero_le _
  | a :: l, m, nd, h => by
    have ha := h a List.mem_cons_self
    obtain ⟨n1, n2⟩ := List.nodup_cons.mp nd
    have := nodup_len l (m.erase a) n2 fun x hx => (List.mem_erase_of_ne (fun e => n1 (by rw [← e]; exact hx))).mpr (h x (List.mem_cons_of_mem _ hx))
    rw [List.length_erase_of_mem ha] at this
    have : 0 < m.length := List.length_pos_of_mem ha
    simp only [List.length_cons]
    omega
/-! ### heaps -/
theorem same_upd {H : Hp} {p : Addr} {o : HO} (h : H p = none) : Same H (upd H p o) := fun b u e => by rw [upd_ne (ne_of_none e h)]; exact e
theorem _root_.L2.Same.upd' {H H1 : Hp} {p : Addr} {o : HO} (s : Same H H1) (h : H1 p = none) : Same H (L2.upd H1 p o) := s.trans (same_upd h)
/-- an object made since is written -/
theorem _root_.L2.Same.wr {H H1 : Hp} {p : Addr} {o : HO} (s : Same H H1) (h : H p = none) : Same H (L2.upd H1 p o) := fun b u e => by
  rw [upd_ne (ne_of_none e h)]
  exact s b u e
theorem _root_.L2.Same.seqT {K : PySem.W.Frag} {H H' : Hp} {a : Addr} {xs : List V} (e : Same H H') (h : SqT K H a xs) : SqT K H' a xs :=
  h.elim (fun h => .inl (h.elim (fun h => .inl (e _ _ h)) fun ⟨o, h⟩ => .inr ⟨o, e _ _ h⟩)) fun h => .inr h

/-- all but what stands at D is as it was -/
def Kp (D : Addr) (H H' : Hp) : Prop := ∀ b o, H b = some o → b ≠ D → H' b = some o
theorem Kp.refl (D : Addr) (H : Hp) : Kp D H H := fun _ _ e _ => e
theorem Kp.trans {D : Addr} {H H1 H2 : Hp} (a : Kp D H H1) (b : Kp D H1 H2) : Kp D H H2 := fun c o e n => b c o (a c o e n) n
theorem _root_.L2.Same.kp {D : Addr} {H H' : Hp} (s : Same H H') : Kp D H H' := fun b o e _ => s b o e
theorem kp_upd (D : Addr) (H : Hp) (o : HO) : Kp D H (L2.upd H D o) := fun b u e n => by rw [upd_ne n]; exact e

/-- a pair (r, m) stands at t -/
def PrT (H : Hp) (t : Addr) (c : Int × Int) : Prop := H t = some (.tup [.int c.1, .int c.2])
/-- a list of pairs stands at p -/
def PL (H : Hp) (p : Addr) (cs : List (Int × Int)) : Prop := ∃ ts : List Addr, H p = some (.lst (ts.map V.ref)) ∧ P2 (PrT H) ts cs
theorem PrT.ne {H : Hp} {t D : Addr} {c : Int × Int} {xs : List V} (h : PrT H t c) (hD : H D = some (.lst xs)) : t ≠ D := ne_of h hD (by intro z; cases z)
theorem P2.same {H H' : Hp} (s : Same H H') {ts : List Addr} {cs : List (Int × Int)} (h : P2 (PrT H) ts cs) : P2 (PrT H') ts cs := h.mono fun _ _ e => s _ _ e
theorem PL.same {H H' : Hp} {p : Addr} {cs : List (Int × Int)} (s : Same H H') (h : PL H p cs) : PL H' p cs :=
  let ⟨ts, a, b⟩ := h
  ⟨ts, s _ _ a, b.same s⟩

/-! ### loops -/
section
variable {K : PySem.W.Frag}
theorem wh {c : TT} {tb : TS} {D : Ends} {σ : St} {H : Hp} (Pv : St → Hp → Prop) (μ : St → Hp → Nat) (h0 : Pv σ H)
    (hs : ∀ σ H, Pv σ H → c σ H fun b H1 => if b = true then ∃ N : St → Hp → Prop, (∀ σ' H', N σ' H' → Pv σ' H' ∧ μ σ' H' < μ σ H) ∧ tb { D with nx := N, ct := N, bk := D.nx } σ H1 else D.nx σ H1)
    (mono : ∀ σ H Q Q', (∀ b H1, Q b H1 → Q' b H1) → c σ H Q → c σ H Q') : tWhile c tb D σ H := by
  refine ⟨fun m σ H => m = μ σ H ∧ Pv σ H, ⟨_, rfl, h0⟩, ?_⟩
  rintro m σ H ⟨rfl, p⟩
  refine mono σ H _ _ (fun b H1 q => ?_) (hs σ H p)
  cases b with
  | true =>
    obtain ⟨N, hN, q⟩ := q
    exact ⟨N, fun σ' H' n => ⟨_, (hN σ' H' n).2, rfl, (hN σ' H' n).1⟩, q⟩
  | false => exact q

/-- for a, b in pairs -/
theorem for_pairs {a : Addr} {i1 i2 : Nat} {tb : TS} {D : Ends} {σ : St} {H : Hp} {cs : List (Int × Int)} {ts : List Addr} (Pv : Nat → St → Hp → Prop) (h0 : Pv 0 σ H)
    (hl : ∀ i σ H, i ≤ cs.length → Pv i σ H → SqL K H a (ts.map V.ref) ∧ P2 (PrT H) ts cs)
    (hs : ∀ i c σ H, cs[i]? = some c → Pv i σ H → tb { D with nx := Pv (i + 1), ct := Pv (i + 1), bk := D.nx } ((σ.set i1 (some (.int c.1))).set i2 (some (.int c.2))) H)
    (hd : ∀ σ H, Pv cs.length σ H → D.nx σ H) :
    ∃ W : Nat → Nat → St → Hp → Prop, (∃ m, W 0 m σ H) ∧ ∀ i m σ H, W i m σ H →
      ((Itl K a).stop i H ∧ D.nx σ H) ∨ ((Itl K a).go i H ∧ ∃ N : St → Hp → Prop, (∀ σ' H', N σ' H' → ∃ m', m' < m ∧ W (i + 1) m' σ' H') ∧ ∀ x H', (Itl K a).yld i H x H' → gTup K 2 (gCons (gName i1) (gCons (gName i2) gNil)) x σ H' fun σ2 H2 => tb { D with nx := N, ct := N, bk := D.nx } σ2 H2) := by
  have hlen := (hl 0 σ H (Nat.zero_le _) h0).2.len
  have e : (ts.map V.ref).length = cs.length := by rw [List.length_map, hlen]
  refine for_list (K := K) (a := a) (xs := ts.map V.ref) Pv h0 (fun i σ H hi p => (hl i σ H (by omega) p).1) ?_ (fun σ H p => hd σ H (by rw [← e]; exact p))
  intro i x σ H hx p
  rw [List.getElem?_map] at hx
  cases ht : ts[i]? with
  | none => rw [ht] at hx; cases hx
  | some t =>
    rw [ht] at hx
    cases hx
    have hi : i < ts.length := (List.getElem?_eq_some_iff.mp ht).1
    obtain ⟨c, hc, r⟩ := (hl i σ H (by omega) p).2.getl ht
    exact ⟨t, _, rfl, SqT.of r, rfl, _, _, rfl, _, _, rfl, rfl, hs i c σ H hc p⟩

/-- the end of a comprehension -/
def LcG (J : It) (g : TG) (tt : TT) (te : TE) (vs : List Nat) (σ : St) (H1 : Hp) (D : Addr) (Qd : Hp → Prop) : Prop :=
    ∃ W : Nat → Nat → Hp → Prop, (∃ m, W 0 m (upd H1 D (.lst []))) ∧ ∀ i m H, W i m H →
      (J.stop i H ∧ Qd H) ∨ (J.go i H ∧ ∃ Nx : Hp → Prop, (∀ H', Nx H' → ∃ m', m' < m ∧ W (i + 1) m' H') ∧ ∀ x H', J.yld i H x H' → g x (wipe σ vs) H' fun σ2 H2 => wipe σ2 vs = wipe σ vs ∧ tt σ2 H2 fun b H3 =>
        if b = true then te σ2 H3 fun y H4 => ∃ acc, H4 D = some (.lst acc) ∧ acc.length < sizeLine ∧ Nx (upd H4 D (.lst (acc ++ [y]))) else Nx H3)

theorem small_app {n m : Nat} (h : n ≤ m) (hm : m ≤ 100000) : n < sizeLine := Nat.lt_of_le_of_lt (Nat.le_trans h hm) (by decide)

/-- [e for x in xs if p]: over a list of values; what stood stands, each item has the relation R to its source -/
theorem lc_vals {α : Type} {a : Addr} {xs : List V} {cs : List α} {i1 : Nat} {tt : TT} {te : TE} {vs : List Nat} {σ : St} {H1 : Hp} {D : Addr} {Qd : Hp → Prop} (p : α → Bool) (val : α → V) (R : V → α → Hp → Prop)
    (hR : ∀ y c H H' acc, H D = some (.lst acc) → Kp D H H' → R y c H → R y c H') (hD : H1 D = none) (hL : SqL K H1 a (cs.map val)) (hsz : cs.length ≤ 100000)
    (hw : ∀ x, wipe ((wipe σ vs).set i1 x) vs = wipe σ vs)
    (ht : ∀ c ∈ cs, ∀ H Q, Same H1 H → (∀ H', Same H H' → Q (p c) H') → tt ((wipe σ vs).set i1 (some (val c))) H Q)
    (he : ∀ c ∈ cs, p c = true → ∀ H Q, Same H1 H → (∀ y H', Same H H' → R y c H' → Q y H') → te ((wipe σ vs).set i1 (some (val c))) H Q)
    (hd : ∀ ys H, Same H1 H → H D = some (.lst ys) → P2 (fun y c => R y c H) ys (cs.filter p) → Qd H) : LcG (Itl K a) (gName i1) tt te vs σ H1 D Qd := by
  refine lc_list (K := K) (a := a) (xs := cs.map val) (fun i H => Same H1 H ∧ ∃ ys, H D = some (.lst ys) ∧ P2 (fun y c => R y c H) ys ((cs.take i).filter p)) ⟨same_upd hD, [], upd_same, .nil⟩ (fun i H _ ⟨s, _⟩ => s.seq hL) ?_ ?_
  · rintro i x H hx ⟨s, ys, hy, py⟩
    rw [List.getElem?_map] at hx
    cases hc : cs[i]? with
    | none => rw [hc] at hx; cases hx
    | some c =>
      rw [hc] at hx
      cases hx
      have hi : i < cs.length := (List.getElem?_eq_some_iff.mp hc).1
      have ll : ys.length ≤ 100000 := by
        have h1 := py.len
        have h2 := List.length_filter_le p (cs.take i)
        rw [List.length_take] at h2
        omega
      refine ⟨hw _, ht c (mem_of_at hc) H _ s fun H2 s2 => ?_⟩
      have py2 := py.mono fun v b rb => hR v b H H2 _ hy s2.kp rb
      have hy2 := s2 _ _ hy
      by_cases hp : p c = true
      · rw [if_pos hp]
        refine he c (mem_of_at hc) hp H2 _ (s.trans s2) fun y H' s' r => ⟨ys, s' _ _ hy2, small_app (Nat.le_refl _) ll, ((s.trans s2).trans s').wr hD, ys ++ [y], upd_same, ?_⟩
        rw [take_snoc hc, List.filter_append, List.filter_cons, if_pos hp, List.filter_nil]
        exact (py2.mono fun v b rb => hR v b H' _ _ (s' _ _ hy2) (kp_upd D H' _) (hR v b H2 H' _ hy2 s'.kp rb)).snoc (hR y c H' _ _ (s' _ _ hy2) (kp_upd D H' _) r)
      · rw [if_neg hp]
        refine ⟨s.trans s2, ys, hy2, ?_⟩
        rw [take_snoc hc, List.filter_append, List.filter_cons, if_neg hp, List.filter_nil, List.append_nil]
        exact py2
  · rintro H ⟨s, ys, hy, py⟩
    rw [List.length_map, List.take_length] at py
    exact hd ys H s hy py

/-- [e for a, b in pairs if p] -/
theorem lc_pairs {a : Addr} {ts : List Addr} {cs : List (Int × Int)} {i1 i2 : Nat} {tt : TT} {te : TE} {vs : List Nat} {σ : St} {H1 : Hp} {D : Addr} {Qd : Hp → Prop} (p : Int × Int → Bool) (R : V → Int × Int → Hp → Prop)
    (hR : ∀ y c H H' acc, H D = some (.lst acc) → Kp D H H' → R y c H → R y c H') (hD : H1 D = none) (hL : SqL K H1 a (ts.map V.ref)) (hP : P2 (PrT H1) ts cs) (hsz : cs.length ≤ 100000)
    (hw : ∀ x y, wipe (((wipe σ vs).set i1 x).set i2 y) vs = wipe σ vs)
    (ht : ∀ c ∈ cs, ∀ H Q, Same H1 H → (∀ H', Same H H' → Q (p c) H') → tt (((wipe σ vs).set i1 (some (.int c.1))).set i2 (some (.int c.2))) H Q)
    (he : ∀ c ∈ cs, p c = true → ∀ H Q, Same H1 H → (∀ y H', Same H H' → R y c H' → Q y H') → te (((wipe σ vs).set i1 (some (.int c.1))).set i2 (some (.int c.2))) H Q)
    (hd : ∀ ys H, Same H1 H → H D = some (.lst ys) → P2 (fun y c => R y c H) ys (cs.filter p) → Qd H) : LcG (Itl K a) (gTup K 2 (gCons (gName i1) (gCons (gName i2) gNil))) tt te vs σ H1 D Qd := by
  have hlen := hP.len
  refine lc_list (K := K) (a := a) (xs := ts.map V.ref) (fun i H => Same H1 H ∧ ∃ ys, H D = some (.lst ys) ∧ P2 (fun y c => R y c H) ys ((cs.take i).filter p)) ⟨same_upd hD, [], upd_same, .nil⟩ (fun i H _ ⟨s, _⟩ => s.seq hL) ?_ ?_
  · rintro i x H hx ⟨s, ys, hy, py⟩
    rw [List.getElem?_map] at hx
    cases ht' : ts[i]? with
    | none => rw [ht'] at hx; cases hx
    | some t =>
      rw [ht'] at hx
      cases hx
      obtain ⟨c, hc, r⟩ := hP.getl ht'
      have hi : i < cs.length := (List.getElem?_eq_some_iff.mp hc).1
      have ll : ys.length ≤ 100000 := by
        have h1 := py.len
        have h2 := List.length_filter_le p (cs.take i)
        rw [List.length_take] at h2
        omega
      refine ⟨t, _, rfl, SqT.of (s _ _ r), rfl, _, _, rfl, _, _, rfl, rfl, hw _ _, ht c (mem_of_at hc) H _ s fun H2 s2 => ?_⟩
      have py2 := py.mono fun v b rb => hR v b H H2 _ hy s2.kp rb
      have hy2 := s2 _ _ hy
      by_cases hp : p c = true
      · rw [if_pos hp]
        refine he c (mem_of_at hc) hp H2 _ (s.trans s2) fun y H' s' r => ⟨ys, s' _ _ hy2, small_app (Nat.le_refl _) ll, ((s.trans s2).trans s').wr hD, ys ++ [y], upd_same, ?_⟩
        rw [take_snoc hc, List.filter_append, List.filter_cons, if_pos hp, List.filter_nil]
        exact (py2.mono fun v b rb => hR v b H' _ _ (s' _ _ hy2) (kp_upd D H' _) (hR v b H2 H' _ hy2 s'.kp rb)).snoc (hR y c H' _ _ (s' _ _ hy2) (kp_upd D H' _) r)
      · rw [if_neg hp]
        refine ⟨s.trans s2, ys, hy2, ?_⟩
        rw [take_snoc hc, List.filter_append, List.filter_cons, if_neg hp, List.filter_nil, List.append_nil]
        exact py2
  · rintro H ⟨s, ys, hy, py⟩
    rw [List.length_map, hlen, List.take_length] at py
    exact hd ys H s hy py
/-- [e for i in range(lo, lo + n) if p] -/
theorem lc_rng {lo : Int} {n : Nat} {i1 : Nat} {tt : TT} {te : TE} {vs : List Nat} {σ : St} {H1 : Hp} {D : Addr} {Qd : Hp → Prop} (p : Nat → Bool) (R : V → Nat → Hp → Prop)
    (hR : ∀ y c H H' acc, H D = some (.lst acc) → Kp D H H' → R y c H → R y c H') (hD : H1 D = none) (hsz : n ≤ 100000)
    (hw : ∀ x, wipe ((wipe σ vs).set i1 x) vs = wipe σ vs)
    (ht : ∀ i, i < n → ∀ H Q, Same H1 H → (∀ H', Same H H' → Q (p i) H') → tt ((wipe σ vs).set i1 (some (.int (lo + i)))) H Q)
    (he : ∀ i, i < n → p i = true → ∀ H Q, Same H1 H → (∀ y H', Same H H' → R y i H' → Q y H') → te ((wipe σ vs).set i1 (some (.int (lo + i)))) H Q)
    (hd : ∀ ys H, Same H1 H → H D = some (.lst ys) → P2 (fun y c => R y c H) ys ((List.range n).filter p) → Qd H) : LcG (Itr lo n) (gName i1) tt te vs σ H1 D Qd := by
  refine lc_range (fun i H => Same H1 H ∧ ∃ ys, H D = some (.lst ys) ∧ P2 (fun y c => R y c H) ys ((List.range i).filter p)) ⟨same_upd hD, [], upd_same, .nil⟩ ?_ ?_
  · rintro i H hi ⟨s, ys, hy, py⟩
    have ll : ys.length ≤ 100000 := by
      have h1 := py.len
      have h2 := List.length_filter_le p (List.range i)
      rw [List.length_range] at h2
      omega
    refine ⟨hw _, ht i hi H _ s fun H2 s2 => ?_⟩
    have py2 := py.mono fun v b rb => hR v b H H2 _ hy s2.kp rb
    have hy2 := s2 _ _ hy
    by_cases hp : p i = true
    · rw [if_pos hp]
      refine he i hi hp H2 _ (s.trans s2) fun y H' s' r => ⟨ys, s' _ _ hy2, small_app (Nat.le_refl _) ll, ((s.trans s2).trans s').wr hD, ys ++ [y], upd_same, ?_⟩
      rw [List.range_succ, List.filter_append, List.filter_cons, if_pos hp, List.filter_nil]
      exact (py2.mono fun v b rb => hR v b H' _ _ (s' _ _ hy2) (kp_upd D H' _) (hR v b H2 H' _ hy2 s'.kp rb)).snoc (hR y i H' _ _ (s' _ _ hy2) (kp_upd D H' _) r)
    · rw [if_neg hp]
      refine ⟨s.trans s2, ys, hy2, ?_⟩
      rw [List.range_succ, List.filter_append, List.filter_cons, if_neg hp, List.filter_nil, List.append_nil]
      exact py2
  · rintro H ⟨s, ys, hy, py⟩
    exact hd ys H s hy py
theorem filter_all {α : Type} (l : List α) : l.filter (fun _ => true) = l := List.filter_eq_self.mpr fun _ _ => rfl
end
end Tr

namespace Tr
/-! Arithmetic behind common_divisor, combination, inverse. -/

theorem gcd_step {a b : Int} (hb : 0 < b) : Int.gcd b (a % b) = Int.gcd a b := by
  rw [Int.gcd_comm a b]
  have h : a = a % b + b * (a / b) := by have := Int.emod_add_mul_ediv a b; omega
  conv => rhs; rw [h]
  rw [Int.gcd_add_mul_left_right]

structure Comb (a b x0 u0 v0 x1 u1 v1 : Int) : Prop where
  h0 : u0 * a + v0 * b = x0
  h1 : u1 * a + v1 * b = x1
  n0 : 0 ≤ x0
  n1 : 0 ≤ x1
  g : Int.gcd x0 x1 = Int.gcd a b
  sg : (0 ≤ u0 ∧ u1 ≤ 0 ∧ v0 ≤ 0 ∧ 0 ≤ v1 ∧ u0 * x1 - u1 * x0 = b ∧ v1 * x0 - v0 * x1 = a) ∨
       (u0 ≤ 0 ∧ 0 ≤ u1 ∧ 0 ≤ v0 ∧ v1 ≤ 0 ∧ u1 * x0 - u0 * x1 = b ∧ v0 * x1 - v1 * x0 = a)
  bu0 : u0.natAbs ≤ b.natAbs
  bu1 : u1.natAbs ≤ b.natAbs
  bv0 : v0.natAbs ≤ a.natAbs + 1
  bv1 : v1.natAbs ≤ a.natAbs + 1
  bx : x0.natAbs ≤ a.natAbs + b.natAbs
  by_ : x1.natAbs ≤ a.natAbs + b.natAbs

theorem comb_start {a b : Int} (ha : 0 ≤ a) (hb : 0 < b) : Comb a b a 1 0 b 0 1 where
  h0 := by omega
  h1 := by omega
  n0 := ha
  n1 := Int.le_of_lt hb
  g := rfl
  sg := .inl ⟨by omega, by omega, by omega, by omega, by omega, by omega⟩
  bu0 := by omega
  bu1 := by omega
  bv0 := by omega
  bv1 := by omega
  bx := by omega
  by_ := by omega

theorem mul_bound {x y c : Int} (hx : 0 < x) (hy : 0 ≤ y) (h : y * x ≤ c) : y ≤ c := by
  have h1 : y * 1 ≤ y * x := Int.mul_le_mul_of_nonneg_left (by omega) hy
  omega

theorem comb_step {a b x0 u0 v0 x1 u1 v1 : Int} (ha : 0 ≤ a) (hb : 0 < b) (c : Comb a b x0 u0 v0 x1 u1 v1) (hx : x1 ≠ 0) :
    Comb a b x1 u1 v1 (x0 - x0 / x1 * x1) (u0 - x0 / x1 * u1) (v0 - x0 / x1 * v1) := by
  have px : 0 < x1 := by have := c.n1; omega
  have e2 : x0 - x0 / x1 * x1 = x0 % x1 := by
    have := Int.emod_add_mul_ediv x0 x1
    rw [Int.mul_comm] at this
    omega
  have q0 : 0 ≤ x0 / x1 := Int.ediv_nonneg c.n0 c.n1
  have r0 : 0 ≤ x0 % x1 := Int.emod_nonneg _ hx
  have r1 : x0 % x1 < x1 := Int.emod_lt_of_pos _ px
  generalize hq : x0 / x1 = q at *
  have n2 : 0 ≤ x0 - q * x1 := by omega
  have key : (0 ≤ u1 ∧ (u0 - q * u1) ≤ 0 ∧ v1 ≤ 0 ∧ 0 ≤ (v0 - q * v1) ∧ u1 * (x0 - q * x1) - (u0 - q * u1) * x1 = b ∧ (v0 - q * v1) * x1 - v1 * (x0 - q * x1) = a) ∨
       (u1 ≤ 0 ∧ 0 ≤ (u0 - q * u1) ∧ 0 ≤ v1 ∧ (v0 - q * v1) ≤ 0 ∧ (u0 - q * u1) * x1 - u1 * (x0 - q * x1) = b ∧ v1 * (x0 - q * x1) - (v0 - q * v1) * x1 = a) := by
    rcases c.sg with ⟨s1, s2, s3, s4, s5, s6⟩ | ⟨s1, s2, s3, s4, s5, s6⟩
    · refine .inr ⟨s2, ?_, s4, ?_, ?_, ?_⟩
      · have := Int.mul_nonneg q0 (show 0 ≤ -u1 by omega)
        rw [Int.mul_neg] at this
        omega
      · have := Int.mul_nonneg q0 s4
        omega
      · rw [← s5]
        simp only [Int.sub_mul, Int.mul_sub]
        have : q * u1 * x1 = u1 * (q * x1) := by rw [Int.mul_comm q u1, Int.mul_assoc]
        omega
      · rw [← s6]
        simp only [Int.sub_mul, Int.mul_sub]
        have : q * v1 * x1 = v1 * (q * x1) := by rw [Int.mul_comm q v1, Int.mul_assoc]
        omega
    · refine .inl ⟨s2, ?_, s4, ?_, ?_, ?_⟩
      · have := Int.mul_nonneg q0 s2
        omega
      · have := Int.mul_nonneg q0 (show 0 ≤ -v1 by omega)
        rw [Int.mul_neg] at this
        omega
      · rw [← s5]
        simp only [Int.sub_mul, Int.mul_sub]
        have : q * u1 * x1 = u1 * (q * x1) := by rw [Int.mul_comm q u1, Int.mul_assoc]
        omega
      · rw [← s6]
        simp only [Int.sub_mul, Int.mul_sub]
        have : q * v1 * x1 = v1 * (q * x1) := by rw [Int.mul_comm q v1, Int.mul_assoc]
        omega
  have bnd : (u0 - q * u1).natAbs ≤ b.natAbs ∧ (v0 - q * v1).natAbs ≤ a.natAbs + 1 := by
    rcases key with ⟨s1, s2, s3, s4, s5, s6⟩ | ⟨s1, s2, s3, s4, s5, s6⟩
    · have t1 : 0 ≤ u1 * (x0 - q * x1) := Int.mul_nonneg s1 n2
      have t2 : -(u0 - q * u1) * x1 ≤ b := by rw [Int.neg_mul]; omega
      have t3 := mul_bound px (by omega) t2
      have t4 : 0 ≤ -v1 * (x0 - q * x1) := Int.mul_nonneg (by omega) n2
      rw [Int.neg_mul] at t4
      have t5 : (v0 - q * v1) * x1 ≤ a := by omega
      have t6 := mul_bound px s4 t5
      omega
    · have t1 : 0 ≤ -u1 * (x0 - q * x1) := Int.mul_nonneg (by omega) n2
      rw [Int.neg_mul] at t1
      have t2 : (u0 - q * u1) * x1 ≤ b := by omega
      have t3 := mul_bound px s2 t2
      have t4 : 0 ≤ v1 * (x0 - q * x1) := Int.mul_nonneg s3 n2
      have t5 : -(v0 - q * v1) * x1 ≤ a := by rw [Int.neg_mul]; omega
      have t6 := mul_bound px (by omega) t5
      omega
  exact {
    h0 := c.h1
    h1 := by
      have e0 := c.h0
      have e1 := c.h1
      simp only [Int.sub_mul, Int.mul_assoc]
      have : q * x1 = q * (u1 * a) + q * (v1 * b) := by rw [← e1, Int.mul_add]
      omega
    n0 := c.n1
    n1 := n2
    g := by rw [e2, gcd_step px]; exact c.g
    sg := key.elim .inl .inr
    bu0 := c.bu1
    bu1 := bnd.1
    bv0 := c.bv1
    bv1 := bnd.2
    bx := c.by_
    by_ := by have := c.by_; omega }

/-- the quotient of a step is bounded -/
theorem comb_q {a b x0 u0 v0 x1 u1 v1 : Int} (c : Comb a b x0 u0 v0 x1 u1 v1) (hx : x1 ≠ 0) : (x0 / x1).natAbs ≤ a.natAbs + b.natAbs := by
  have px : 0 < x1 := by have := c.n1; omega
  have q0 : 0 ≤ x0 / x1 := Int.ediv_nonneg c.n0 c.n1
  have : x0 / x1 ≤ x0 := Int.ediv_le_self _ c.n0
  have := c.bx
  omega
end Tr
namespace Tr
/-! Classes (r, m): what they cover. -/
abbrev Cl := Int × Int
/-- n lies in one of the classes -/
def cov (cs : List Cl) (n : Int) : Prop := ∃ c ∈ cs, c.2 ∣ n - c.1
theorem cov_nil (n : Int) : ¬ cov [] n := fun ⟨_, h, _⟩ => by cases h
theorem cov_app {a b : List Cl} {n : Int} : cov (a ++ b) n ↔ cov a n ∨ cov b n := by
  constructor
  · rintro ⟨c, h, d⟩
    rcases List.mem_append.mp h with h | h
    · exact .inl ⟨c, h, d⟩
    · exact .inr ⟨c, h, d⟩
  · rintro (⟨c, h, d⟩ | ⟨c, h, d⟩)
    · exact ⟨c, List.mem_append_left _ h, d⟩
    · exact ⟨c, List.mem_append_right _ h, d⟩
/-- every class of the one lies within a class of the other -/
def within (cs ds : List Cl) : Prop := ∀ c ∈ cs, ∃ d ∈ ds, d.2 ∣ c.2 ∧ d.2 ∣ c.1 - d.1
theorem dvd_chain {k m n r s : Int} (h1 : k ∣ m) (h2 : k ∣ r - s) (h3 : m ∣ n - r) : k ∣ n - s := by
  have h4 : k ∣ n - r := Int.dvd_trans h1 h3
  have h5 : n - s = (n - r) + (r - s) := by omega
  rw [h5]
  exact Int.dvd_add h4 h2
theorem cov_within {cs ds : List Cl} (h : within cs ds) {n : Int} (c : cov cs n) : cov ds n := by
  obtain ⟨c, hc, d⟩ := c
  obtain ⟨e, he, h1, h2⟩ := h c hc
  exact ⟨e, he, dvd_chain h1 h2 d⟩
theorem within_refl (cs : List Cl) : within cs cs := fun c hc => ⟨c, hc, Int.dvd_refl _, by rw [Int.sub_self]; exact Int.dvd_zero _⟩
/-- what tidy_classes hands back -/
structure Tidy (cs ds : List Cl) : Prop where
  from_ : ∀ d ∈ ds, ∃ c ∈ cs, d.2 = c.2 ∧ d.1 = c.1 % c.2
  to : within cs ds
  len : ds.length ≤ cs.length
theorem emod_sub_dvd (r m : Int) : m ∣ r - r % m := by
  have := Int.emod_add_mul_ediv r m
  exact ⟨r / m, by omega⟩
theorem Tidy.back {cs ds : List Cl} (t : Tidy cs ds) : within ds cs := fun d hd => by
  obtain ⟨c, hc, e1, e2⟩ := t.from_ d hd
  refine ⟨c, hc, by rw [e1]; exact Int.dvd_refl _, ?_⟩
  rw [e2]
  have := emod_sub_dvd c.1 c.2
  obtain ⟨k, hk⟩ := this
  exact ⟨-k, by rw [Int.mul_neg]; omega⟩
theorem Tidy.cov {cs ds : List Cl} (t : Tidy cs ds) (n : Int) : cov ds n ↔ cov cs n := ⟨cov_within t.back, cov_within t.to⟩
theorem Tidy.pos {cs ds : List Cl} (t : Tidy cs ds) (h : ∀ c ∈ cs, 0 < c.2) : ∀ d ∈ ds, 0 < d.2 ∧ 0 ≤ d.1 ∧ d.1 < d.2 := fun d hd => by
  obtain ⟨c, hc, e1, e2⟩ := t.from_ d hd
  have p := h c hc
  rw [e1, e2]
  exact ⟨p, Int.emod_nonneg _ (by omega), Int.emod_lt_of_pos _ p⟩
theorem Tidy.nil {ds : List Cl} (t : Tidy [] ds) : ds = [] := List.eq_nil_of_length_eq_zero (by have := t.len; simp at this; exact this ▸ rfl)
theorem Tidy.ne {cs ds : List Cl} (t : Tidy cs ds) (h : cs ≠ []) : ds ≠ [] := by
  rintro rfl
  cases cs with
  | nil => exact h rfl
  | cons c r =>
    obtain ⟨d, hd, _⟩ := t.to c List.mem_cons_self
    cases hd
/-- inverse: a * x - 1 is a multiple of m -/
def Inv1 (a m x : Int) : Prop := 0 ≤ x ∧ x < m ∧ m ∣ a * x - 1
theorem inv_of {a m u v : Int} (hm : 0 < m) (h : u * (a % m) + v * m = 1) : Inv1 a m (u % m) := by
  refine ⟨Int.emod_nonneg _ (by omega), Int.emod_lt_of_pos _ hm, ?_⟩
  have e1 := Int.emod_add_mul_ediv u m
  have e2 := Int.emod_add_mul_ediv a m
  -- a * (u % m) - 1 = u * (a % m) + v * m  modulo m
  refine ⟨a / m * u - v - a * (u / m), ?_⟩
  have k1 : u % m = u - m * (u / m) := by omega
  have k2 : u * a = u * (a % m) + u * (m * (a / m)) := by rw [← Int.mul_add, e2]
  rw [k1, Int.mul_sub, Int.mul_comm a u, k2]
  have k3 : u * (m * (a / m)) = m * (a / m * u) := by rw [Int.mul_left_comm, Int.mul_comm u]
  have k4 : a * (m * (u / m)) = m * (a * (u / m)) := by rw [Int.mul_left_comm]
  rw [k3, k4, Int.mul_sub, Int.mul_sub, Int.mul_comm m v]
  omega

/-- the classes of refined, ahead of tidying: of (s, k) the t with r + m * t in it -/
structure Ref1 (s k r m t j : Int) : Prop where
  pos : 0 < j
  bd : j ≤ k
  lo : 0 ≤ t
  hi : t < j
  iff : ∀ x : Int, j ∣ x - t ↔ k ∣ r + m * x - s
theorem gcd_pos' {m k : Int} (hk : 0 < k) : 0 < (Int.gcd m k : Int) := by
  have : Int.gcd m k ≠ 0 := fun h => by
    have := (Int.gcd_eq_zero_iff.mp h).2
    omega
  omega
theorem ediv_gcd {m k : Int} (hk : 0 < k) : ∃ m' k', m = Int.gcd m k * m' ∧ k = Int.gcd m k * k' ∧ 0 < k' ∧ m / Int.gcd m k = m' ∧ k / Int.gcd m k = k' ∧ Int.gcd m' k' = 1 := by
  have g0 := gcd_pos' (m := m) hk
  obtain ⟨m', hm⟩ := Int.gcd_dvd_left m k
  obtain ⟨k', hk'⟩ := Int.gcd_dvd_right m k
  have p : 0 < k' := by
    rcases Int.lt_trichotomy k' 0 with h | h | h
    · have := Int.mul_neg_of_pos_of_neg g0 h
      omega
    · rw [h] at hk'; omega
    · exact h
  have e1 : m / Int.gcd m k = m' := Int.ediv_eq_of_eq_mul_right (by omega) hm
  have e2 : k / Int.gcd m k = k' := Int.ediv_eq_of_eq_mul_right (by omega) hk'
  refine ⟨m', k', hm, hk', p, e1, e2, ?_⟩
  have gn : 0 < Int.gcd m k := by omega
  have e3 : Int.gcd m k = Int.gcd m k * Int.gcd m' k' := by
    have := Int.gcd_mul_left (Int.gcd m k : Int) m' k'
    rw [← hm, ← hk'] at this
    simpa using this
  have e4 : Int.gcd m k * Int.gcd m' k' = Int.gcd m k * 1 := by rw [Nat.mul_one]; exact e3.symm
  exact Nat.eq_of_mul_eq_mul_left gn e4
theorem ref_no {s k r m : Int} (h : ¬ (Int.gcd m k : Int) ∣ s - r) (x : Int) : ¬ k ∣ r + m * x - s := fun d => h (by
  have h1 : (Int.gcd m k : Int) ∣ r + m * x - s := Int.dvd_trans (Int.gcd_dvd_right m k) d
  have h2 : (Int.gcd m k : Int) ∣ m * x := Int.dvd_trans (Int.gcd_dvd_left m k) (Int.dvd_mul_right _ _)
  have h3 : s - r = m * x - (r + m * x - s) := by omega
  rw [h3]
  exact Int.dvd_sub h2 h1)
/-- the case small > 1 -/
theorem ref_yes {s k r m i : Int} (hk : 0 < k) (hd : (Int.gcd m k : Int) ∣ s - r) (hi : Inv1 (m / Int.gcd m k) (k / Int.gcd m k) i) :
    Ref1 s k r m ((s - r) / Int.gcd m k * i % (k / Int.gcd m k)) (k / Int.gcd m k) := by
  obtain ⟨m', k', e1, e2, p, d1, d2, co⟩ := ediv_gcd (m := m) hk
  have g0 := gcd_pos' (m := m) hk
  generalize hg : (Int.gcd m k : Int) = g at *
  obtain ⟨q, hq⟩ := hd
  have dq : (s - r) / g = q := Int.ediv_eq_of_eq_mul_right (by omega) hq
  rw [d1, d2] at hi
  rw [dq, d2]
  obtain ⟨i0, i1, z, hz⟩ := hi
  refine ⟨p, ?_, Int.emod_nonneg _ (by omega), Int.emod_lt_of_pos _ p, fun x => ?_⟩
  · rw [e2]
    have := Int.mul_le_mul_of_nonneg_right (show 1 ≤ g by omega) (Int.le_of_lt p)
    omega
  · -- k | r + m x - s  iff  k' | m' x - q  iff  k' | x - q i
    have a1 : r + m * x - s = g * (m' * x - q) := by
      rw [Int.mul_sub, ← Int.mul_assoc, ← e1, ← hq]
      omega
    have a2 : k ∣ r + m * x - s ↔ k' ∣ m' * x - q := by
      rw [a1]
      constructor
      · rintro ⟨c, hc⟩
        refine ⟨c, ?_⟩
        rw [e2, Int.mul_assoc] at hc
        exact Int.eq_of_mul_eq_mul_left (by omega) hc
      · rintro ⟨c, hc⟩
        exact ⟨c, by rw [hc, ← Int.mul_assoc, ← e2]⟩
    rw [a2]
    have b1 : k' ∣ q * i - q * i % k' := emod_sub_dvd _ _
    constructor
    · intro h
      have h1 : k' ∣ x - q * i := by
        have : x - q * i = (x - q * i % k') - (q * i - q * i % k') := by omega
        rw [this]
        exact Int.dvd_sub h b1
      have h2 : k' ∣ m' * (x - q * i) := Int.dvd_trans h1 (Int.dvd_mul_left _ _)
      have h3 : k' ∣ q * (m' * i - 1) := Int.dvd_trans ⟨z, hz⟩ (Int.dvd_mul_left _ _)
      have h4 : m' * x - q = m' * (x - q * i) + q * (m' * i - 1) := by
        simp only [Int.mul_sub, Int.mul_one]
        have : m' * (q * i) = q * (m' * i) := Int.mul_left_comm _ _ _
        omega
      rw [h4]
      exact Int.dvd_add h2 h3
    · intro h
      have h1 : k' ∣ i * (m' * x - q) := Int.dvd_trans h (Int.dvd_mul_left _ _)
      have h3 : k' ∣ x * (m' * i - 1) := Int.dvd_trans ⟨z, hz⟩ (Int.dvd_mul_left _ _)
      have h4 : x - q * i = i * (m' * x - q) - x * (m' * i - 1) := by
        simp only [Int.mul_sub, Int.mul_one]
        have : i * (m' * x) = x * (m' * i) := by rw [Int.mul_left_comm, Int.mul_comm i x, Int.mul_left_comm]
        have : i * q = q * i := Int.mul_comm _ _
        omega
      have h5 : x - q * i % k' = (x - q * i) + (q * i - q * i % k') := by omega
      rw [h5]
      refine Int.dvd_add ?_ b1
      rw [h4]
      exact Int.dvd_sub h1 h3
/-- the case small = 1 -/
theorem ref_one {s k r m : Int} (hk : 0 < k) (hd : (Int.gcd m k : Int) ∣ s - r) (h1 : ¬ k / Int.gcd m k > 1) : Ref1 s k r m 0 (k / Int.gcd m k) := by
  obtain ⟨m', k', e1, e2, p, d1, d2, co⟩ := ediv_gcd (m := m) hk
  have e : k / Int.gcd m k = 1 := by rw [d2] at h1 ⊢; omega
  have ek : k = (Int.gcd m k : Int) := by
    rw [d2] at e
    rw [e, Int.mul_one] at e2
    exact e2
  rw [e]
  refine ⟨by omega, by omega, by omega, by omega, fun x => ⟨fun _ => ?_, fun _ => Int.one_dvd _⟩⟩
  have h2 : k ∣ m * x := by
    rw [ek]
    exact Int.dvd_trans (Int.gcd_dvd_left m k) (Int.dvd_mul_right _ _)
  have h3 : k ∣ s - r := by rw [ek]; exact hd
  have h4 : r + m * x - s = m * x - (s - r) := by omega
  rw [h4]
  exact Int.dvd_sub h2 h3

/-- what refined builds ahead of tidying -/
inductive RefL (r m : Int) : List Cl → List Cl → Prop where
  | nil : RefL r m [] []
  | no {s k : Int} {cs ds : List Cl} : ¬ (Int.gcd m k : Int) ∣ s - r → RefL r m cs ds → RefL r m ((s, k) :: cs) ds
  | yes {s k t : Int} {cs ds : List Cl} : (Int.gcd m k : Int) ∣ s - r → Ref1 s k r m t (k / Int.gcd m k) → RefL r m cs ds → RefL r m ((s, k) :: cs) ((t, k / Int.gcd m k) :: ds)
theorem RefL.cov {r m : Int} {cs ds : List Cl} (h : RefL r m cs ds) (x : Int) : cov ds x ↔ Tr.cov cs (r + m * x) := by
  induction h with
  | nil => exact ⟨fun c => (cov_nil _ c).elim, fun c => (cov_nil _ c).elim⟩
  | @no s k cs ds hn _ ih =>
    constructor
    · intro c
      obtain ⟨c, hc, d⟩ := ih.mp c
      exact ⟨c, List.mem_cons_of_mem _ hc, d⟩
    · rintro ⟨c, hc, d⟩
      rcases List.mem_cons.mp hc with rfl | hc
      · exact (ref_no hn x d).elim
      · exact ih.mpr ⟨c, hc, d⟩
  | @yes s k t cs ds hd hr _ ih =>
    constructor
    · rintro ⟨c, hc, d⟩
      rcases List.mem_cons.mp hc with rfl | hc
      · exact ⟨(s, k), List.mem_cons_self, (hr.iff x).mp d⟩
      · obtain ⟨c', hc', d'⟩ := ih.mp ⟨c, hc, d⟩
        exact ⟨c', List.mem_cons_of_mem _ hc', d'⟩
    · rintro ⟨c, hc, d⟩
      rcases List.mem_cons.mp hc with rfl | hc
      · exact ⟨_, List.mem_cons_self, (hr.iff x).mpr d⟩
      · obtain ⟨c', hc', d'⟩ := ih.mpr ⟨c, hc, d⟩
        exact ⟨c', List.mem_cons_of_mem _ hc', d'⟩
theorem RefL.snoc_no {r m : Int} {cs ds : List Cl} (h : RefL r m cs ds) {s k : Int} (hn : ¬ (Int.gcd m k : Int) ∣ s - r) : RefL r m (cs ++ [(s, k)]) ds := by
  induction h with
  | nil => exact .no hn .nil
  | no a _ ih => exact .no a ih
  | yes a b _ ih => exact .yes a b ih
theorem RefL.snoc_yes {r m : Int} {cs ds : List Cl} (h : RefL r m cs ds) {s k t : Int} (hn : (Int.gcd m k : Int) ∣ s - r) (hr : Ref1 s k r m t (k / Int.gcd m k)) : RefL r m (cs ++ [(s, k)]) (ds ++ [(t, k / Int.gcd m k)]) := by
  induction h with
  | nil => exact .yes hn hr .nil
  | no a _ ih => exact .no a ih
  | yes a b _ ih => exact .yes a b ih
theorem RefL.len {r m : Int} {cs ds : List Cl} (h : RefL r m cs ds) : ds.length ≤ cs.length := by
  induction h with
  | nil => exact Nat.le_refl _
  | no _ _ ih => simp only [List.length_cons]; omega
  | yes _ _ _ ih => simp only [List.length_cons]; omega
theorem RefL.pos {r m : Int} {cs ds : List Cl} (h : RefL r m cs ds) : ∀ d ∈ ds, 0 < d.2 ∧ 0 ≤ d.1 ∧ d.1 < d.2 := by
  induction h with
  | nil => intro d hd; cases hd
  | no _ _ ih => exact ih
  | yes _ hr _ ih =>
    intro d hd
    rcases List.mem_cons.mp hd with rfl | hd
    · exact ⟨hr.pos, hr.lo, hr.hi⟩
    · exact ih d hd
theorem RefL.bd {r m B : Int} {cs ds : List Cl} (h : RefL r m cs ds) (hb : ∀ c ∈ cs, c.2 ≤ B) : ∀ d ∈ ds, d.2 ≤ B := by
  induction h with
  | nil => intro d hd; cases hd
  | no _ _ ih => exact ih fun c hc => hb c (List.mem_cons_of_mem _ hc)
  | yes _ hr _ ih =>
    intro d hd
    rcases List.mem_cons.mp hd with rfl | hd
    · exact Int.le_trans hr.bd (hb _ List.mem_cons_self)
    · exact ih (fun c hc => hb c (List.mem_cons_of_mem _ hc)) d hd
/-- a class with the modulus m either meets r + m * Z in all of it, or falls away -/
theorem RefL.less {r m : Int} {cs ds : List Cl} (hm : 0 < m) (h : RefL r m cs ds) (hc : ∃ c ∈ cs, c.2 = m) : (∃ d ∈ ds, d.2 = 1) ∨ ds.length < cs.length := by
  induction h with
  | nil => obtain ⟨c, hc, _⟩ := hc; cases hc
  | no _ h' ih => exact .inr (by have := h'.len; simp only [List.length_cons]; omega)
  | @yes s k t cs ds hd hr h' ih =>
    by_cases e : k = m
    · subst e
      refine .inl ⟨_, List.mem_cons_self, ?_⟩
      have : (Int.gcd k k : Int) = k := by rw [Int.gcd_self]; omega
      show k / (Int.gcd k k : Int) = 1
      rw [this]
      exact Int.ediv_self (by omega)
    · obtain ⟨c, hc, ec⟩ := hc
      rcases List.mem_cons.mp hc with rfl | hc
      · exact (e ec).elim
      · rcases ih ⟨c, hc, ec⟩ with ⟨d, hd, ed⟩ | hl
        · exact .inl ⟨d, List.mem_cons_of_mem _ hd, ed⟩
        · exact .inr (by simp only [List.length_cons]; omega)
theorem Tidy.one {cs ds : List Cl} (t : Tidy cs ds) (hp : ∀ c ∈ cs, 0 < c.2) (h : ∃ c ∈ cs, c.2 = 1) : ∃ d ∈ ds, d.2 = 1 := by
  obtain ⟨c, hc, e⟩ := h
  obtain ⟨d, hd, h1, _⟩ := t.to c hc
  refine ⟨d, hd, ?_⟩
  have p := (t.pos hp d hd).1
  rw [e] at h1
  have := Int.le_of_dvd (by omega) h1
  omega

/-- the answer of bare_number -/
def Bare (cs : List Cl) : Option Int → Prop
  | none => ∀ n, cov cs n
  | some b => 0 ≤ b ∧ ¬ cov cs b
/-- a number within the first ones that none of the classes has: their moduli are above their number -/
theorem pigeon : ∀ (cs : List Cl), (∀ c ∈ cs, (cs.length : Int) < c.2) → ∃ n : Int, 0 ≤ n ∧ n ≤ cs.length ∧ ¬ cov cs n := by
  intro cs h
  -- each class has at most one of 0 .. length
  have gen : ∀ (ds : List Cl) (L : List Int) (N : Int), L.Nodup → (∀ x ∈ L, 0 ≤ x ∧ x ≤ N) → (∀ c ∈ ds, N < c.2) → ds.length < L.length → ∃ n ∈ L, ¬ cov ds n := by
    intro ds
    induction ds with
    | nil =>
      intro L N _ _ _ hl
      cases L with
      | nil => simp at hl
      | cons x L => exact ⟨x, List.mem_cons_self, cov_nil _⟩
    | cons d ds ih =>
      intro L N nd hL hc hl
      -- at most one member of L lies in d
      have one : ∀ x ∈ L, ∀ y ∈ L, d.2 ∣ x - d.1 → d.2 ∣ y - d.1 → x = y := by
        intro x hx y hy h1 h2
        have h3 : d.2 ∣ x - y := by
          have : x - y = (x - d.1) - (y - d.1) := by omega
          rw [this]
          exact Int.dvd_sub h1 h2
        have b := hc d List.mem_cons_self
        have bx := hL x hx
        have b_y := hL y hy
        obtain ⟨q, hq⟩ := h3
        have q0 : q = 0 := by
          rcases Int.lt_trichotomy q 0 with z | z | z
          · have := Int.mul_le_mul_of_nonneg_left (show q ≤ -1 by omega) (show 0 ≤ d.2 by omega)
            omega
          · exact z
          · have := Int.mul_le_mul_of_nonneg_left (show 1 ≤ q by omega) (show 0 ≤ d.2 by omega)
            omega
        rw [q0] at hq
        omega
      by_cases ex : ∃ x ∈ L, d.2 ∣ x - d.1
      · obtain ⟨x, hx, hd⟩ := ex
        obtain ⟨n, hn, hn2⟩ := ih (L.erase x) N (nd.erase _) (fun y hy => hL y (List.mem_of_mem_erase hy)) (fun c hc' => hc c (List.mem_cons_of_mem _ hc'))
          (by rw [List.length_erase_of_mem hx]; simp only [List.length_cons] at hl; omega)
        have hnL := List.mem_of_mem_erase hn
        refine ⟨n, hnL, ?_⟩
        rintro ⟨c, hc', hcd⟩
        rcases List.mem_cons.mp hc' with rfl | hc'
        · have e := one n hnL x hx hcd hd
          subst e
          exact (List.Nodup.not_mem_erase nd) hn
        · exact hn2 ⟨c, hc', hcd⟩
      · obtain ⟨n, hn, hn2⟩ := ih L N nd hL (fun c hc' => hc c (List.mem_cons_of_mem _ hc')) (by simp only [List.length_cons] at hl; omega)
        refine ⟨n, hn, ?_⟩
        rintro ⟨c, hc', hcd⟩
        rcases List.mem_cons.mp hc' with rfl | hc'
        · exact ex ⟨n, hn, hcd⟩
        · exact hn2 ⟨c, hc', hcd⟩
  obtain ⟨n, hn, hc⟩ := gen cs ((List.range (cs.length + 1)).map (fun i : Nat => (i : Int))) cs.length (by
      refine List.Pairwise.map _ (fun a b (h : a ≠ b) e => h (by omega)) List.nodup_range) (fun x hx => by
      obtain ⟨i, hi, rfl⟩ := List.mem_map.mp hx
      have := List.mem_range.mp hi
      omega) h (by simp)
  obtain ⟨i, hi, rfl⟩ := List.mem_map.mp hn
  have := List.mem_range.mp hi
  exact ⟨i, by omega, by omega, hc⟩
end Tr

namespace Tr
open PySem L2
/-! ### bounds -/
def Bd (n : Nat) (x : Int) : Prop := x.natAbs < 2 ^ n
theorem Bd.mono {n m : Nat} {x : Int} (h : Bd n x) (l : n ≤ m) : Bd m x := Nat.lt_of_lt_of_le h (Nat.pow_le_pow_right (by decide) l)
theorem Bd.le {n : Nat} {x y : Int} (h : Bd n x) (l : y.natAbs ≤ x.natAbs) : Bd n y := Nat.lt_of_le_of_lt l h
theorem Bd.mul {n m : Nat} {x y : Int} (h : Bd n x) (k : Bd m y) : Bd (n + m) (x * y) := wide_lt h k
theorem Bd.add {n m : Nat} {x y : Int} (h : Bd n x) (k : Bd n y) (l : n < m) : Bd m (x + y) := by
  refine Bd.mono (n := n + 1) ?_ l
  have h' : x.natAbs < 2 ^ n := h
  have k' : y.natAbs < 2 ^ n := k
  show (x + y).natAbs < 2 ^ (n + 1)
  have := Int.natAbs_add_le x y
  rw [Nat.pow_succ]
  omega
theorem Bd.neg {n : Nat} {x : Int} (h : Bd n x) : Bd n (-x) := h.le (by simp)
theorem Bd.sub {n m : Nat} {x y : Int} (h : Bd n x) (k : Bd n y) (l : n < m) : Bd m (x - y) := by
  rw [Int.sub_eq_add_neg]
  exact h.add k.neg l
theorem Bd.div {n : Nat} {x y : Int} (h : Bd n x) (hy : 0 < y) : Bd n (x / y) := h.le (Int.natAbs_ediv_le_natAbs x y)
theorem Bd.mod {n : Nat} {x y : Int} (h : Bd n y) (hy : 0 < y) : Bd n (x % y) := by
  have := Int.emod_nonneg x (show y ≠ 0 by omega)
  have := Int.emod_lt_of_pos x hy
  exact h.le (by omega)
theorem Bd.two {n : Nat} {a b x : Int} (h : Bd n a) (k : Bd n b) (l : x.natAbs ≤ a.natAbs + b.natAbs) : Bd (n + 1) x := by
  have h' : a.natAbs < 2 ^ n := h
  have k' : b.natAbs < 2 ^ n := k
  show x.natAbs < 2 ^ (n + 1)
  rw [Nat.pow_succ]
  omega
theorem Bd.one {n : Nat} {a x : Int} (h : Bd n a) (l : x.natAbs ≤ a.natAbs + 1) : Bd (n + 1) x := by
  have h' : a.natAbs < 2 ^ n := h
  show x.natAbs < 2 ^ (n + 1)
  rw [Nat.pow_succ]
  have := Nat.two_pow_pos n
  omega
theorem cmulw {n m : Nat} {x y : Int} (h : Bd n x) (k : Bd m y) (l : n + m ≤ 900000) : CMulW x y :=
  wide_mul (a := n + 1) (b := m + 1) (h.mono (Nat.le_succ _)) (k.mono (Nat.le_succ _)) (Nat.succ_pos _) (Nat.succ_pos _) (by omega)
theorem cdivw {m : Nat} {x y : Int} (hy : 0 < y) (k : Bd m y) (l : m ≤ 8999) : CDivW x y :=
  wide_div (b := m + 1) hy (k.mono (Nat.le_succ _)) (Nat.succ_pos _) (by omega)

theorem dI (a b : Int) : decide (V.int a = V.int b) = decide (a = b) := by
  rw [dec_int, Bool.beq_eq_decide_eq]
theorem iteB {b : Bool} {A B : Prop} (h1 : b = true → A) (h2 : b = false → B) : if b = true then A else B := by
  cases b
  · rw [if_neg Bool.false_ne_true]; exact h2 rfl
  · rw [if_pos rfl]; exact h1 rfl
theorem of_dI {a b : Int} (h : decide (V.int a = V.int b) = true) : a = b := by rw [dI] at h; exact of_decide_eq_true h
theorem of_dI' {a b : Int} (h : decide (V.int a = V.int b) = false) : a ≠ b := by rw [dI] at h; exact of_decide_eq_false h
end Tr

/-! # Classes: their making, methods, own operators. -/
namespace Tr
open PySem PySem.Spec PyProof.Rows L2

/-- a method of the class at C, as the top has left it -/
structure Mth (K : PySem.W.Frag) (C : Addr) (m qual : Str) (st : Stmt) : Prop where
  cls : Cls K C
  ex : ∃ f fd, Meth K C m f ∧ Fun K m qual st f fd
/-- a property -/
structure Prp (K : PySem.W.Frag) (C : Addr) (m qual : Str) (st : Stmt) : Prop where
  cls : Cls K C
  ex : ∃ p g fd, PropOf K C m p g ∧ Fun K m qual st g fd
/-- a class that is made by its name, n defaults -/
structure Ini (K : PySem.W.Frag) (mg : Str → Option Value) (x qual : Str) (C : Addr) (st : Stmt) (n : Nat) : Prop where
  ex : ∃ f fd dvs, Mk K C f ∧ mg x = some (.ref C) ∧ FunD K "__init__" qual (defArgs st) (defBody st) (defScope st) dvs [] f fd ∧ dvs.length = n
/-- a property that may be read -/
structure Pro (P : Program) (w : World) (K : PySem.W.Frag) (mg : Str → Option Value) (base : Heap) (k : Nat) (C : Addr) (m : Str) (sp : Sp) : Prop where
  ex : ∃ (p g : Addr) (fd : FuncData) (ps : List Str), Cls K C ∧ PropOf K C m p g ∧ FnOk P w K mg base (L2.CX P w) k g fd ps sp ∧ Binds K fd ps []

section
variable {P : Program} {w : World} {K : PySem.W.Frag} {mg : Str → Option Value} {base : Heap}
theorem Met.mono {j k : Nat} {C : Addr} {x : Str} {sp : Sp} {dvs : List V} (c : Met P w K mg base j C x sp dvs) (h : j ≤ k) : Met P w K mg base k C x sp dvs :=
  let ⟨f, fd, ps, ds, a, b, F, r⟩ := c.ex
  ⟨f, fd, ps, ds, a, b, F.mono h, r⟩
theorem Mak.mono {j k : Nat} {C : Addr} {x : Str} {sp : Sp} {dvs : List V} (c : Mak P w K mg base j x C sp dvs) (h : j ≤ k) : Mak P w K mg base k x C sp dvs :=
  let ⟨f, fd, ps, ds, a, F, r⟩ := c.ex
  ⟨f, fd, ps, ds, a, F.mono h, r⟩
theorem metN {m qual : Str} {C : Addr} {st : Stmt} {N ps : List Str} {k : Nat} {sp : Sp} (D : Mth K C m qual st) (S : FnScope N ps (defScope st)) (len : ∀ vs H Q E, sp vs H Q E → vs.length = ps.length)
    (hb : ∀ (kV doc pm : Value) (an : Option Addr) (cdv ct : Value) (us : List Value), us.length = ps.length → bindArgs (PySem.W.fnOf m qual (defArgs st) (defBody st) (defScope st) .none kV doc pm an cdv ct) ⟨us, []⟩ = pure (ps.zip us))
    (hbody : ∀ (f : Addr) (cdv : Value) (A : Around) (outer : List Env) (s : Shared) (H : Hp) (vs : List V) (Q : VK) (E : XK), Room k (A.deeper (envOfC qual (defScope st) s.heap.objs.size f cdv)) → sp vs H Q E →
      ∃ t, PSs (cxOf (L2.CX P w) P w K mg base N qual (defScope st) f cdv A outer s H E).nox (defBody st) t ∧ t { nx := fun _ H' => Q .non H', rt := Q } (start N vs) H) : Met P w K mg base (k + 1) C m sp [] :=
  let ⟨f, fd, M, F⟩ := D.ex
  ⟨f, fd, ps, [], D.cls, M, okN F S len (hbody f), F.binds hb, .nil⟩
theorem metX {m qual : Str} {C : Addr} {st : Stmt} {N ps : List Str} {k : Nat} {sp : Sp} (D : Mth K C m qual st) (S : FnScope N ps (defScope st)) (len : ∀ vs H Q E, sp vs H Q E → vs.length = ps.length)
    (hb : ∀ (kV doc pm : Value) (an : Option Addr) (cdv ct : Value) (us : List Value), us.length = ps.length → bindArgs (PySem.W.fnOf m qual (defArgs st) (defBody st) (defScope st) .none kV doc pm an cdv ct) ⟨us, []⟩ = pure (ps.zip us))
    (hbody : ∀ (f : Addr) (cdv : Value) (A : Around) (outer : List Env) (s : Shared) (H : Hp) (vs : List V) (Q : VK) (E : XK), Room k (A.deeper (envOfC qual (defScope st) s.heap.objs.size f cdv)) → sp vs H Q E →
      ∃ t, PSs (cxOf (L2.CX P w) P w K mg base N qual (defScope st) f cdv A outer s H E) (defBody st) t ∧ t { nx := fun _ H' => Q .non H', rt := Q } (start N vs) H) : Met P w K mg base (k + 1) C m sp [] :=
  let ⟨f, fd, M, F⟩ := D.ex
  ⟨f, fd, ps, [], D.cls, M, F.okX S len (hbody f), F.binds hb, .nil⟩
theorem proN {m qual : Str} {C : Addr} {st : Stmt} {N ps : List Str} {k : Nat} {sp : Sp} (D : Prp K C m qual st) (S : FnScope N ps (defScope st)) (len : ∀ vs H Q E, sp vs H Q E → vs.length = ps.length)
    (hb : ∀ (kV doc pm : Value) (an : Option Addr) (cdv ct : Value) (us : List Value), us.length = ps.length → bindArgs (PySem.W.fnOf m qual (defArgs st) (defBody st) (defScope st) .none kV doc pm an cdv ct) ⟨us, []⟩ = pure (ps.zip us))
    (hbody : ∀ (f : Addr) (cdv : Value) (A : Around) (outer : List Env) (s : Shared) (H : Hp) (vs : List V) (Q : VK) (E : XK), Room k (A.deeper (envOfC qual (defScope st) s.heap.objs.size f cdv)) → sp vs H Q E →
      ∃ t, PSs (cxOf (L2.CX P w) P w K mg base N qual (defScope st) f cdv A outer s H E).nox (defBody st) t ∧ t { nx := fun _ H' => Q .non H', rt := Q } (start N vs) H) : Pro P w K mg base (k + 1) C m sp :=
  let ⟨p, g, fd, M, F⟩ := D.ex
  ⟨p, g, fd, ps, D.cls, M, okN F S len (hbody g), F.binds hb⟩
/-- all parameters written -/
theorem binds_all {x qual : Str} {params : Arguments} {body : List Stmt} {scope : Scope} {dvs : List V} {f : Addr} {fd : FuncData} {ps : List Str} (F : FunD K x qual params body scope dvs [] f fd) (n : Nat) (hn : n = ps.length)
    (h : ∀ (T : Addr) (kV doc pm : Value) (an : Option Addr) (cdv ct : Value) (us its : List Value), us.length = n → its.length = dvs.length →
      ∃ k, bindArgs (PySem.W.fnOf x qual params body scope (.ref T) kV doc pm an cdv ct) ⟨us, []⟩ = seqItems? (.ref T) >>= k ∧ k (some its.toArray) = pure (ps.zip (us ++ []))) (hd : dvs ≠ []) : Binds K fd ps [] := by
  obtain ⟨ds, r, b⟩ := F.binds1 (ps := ps) n dvs.length hd (by omega) (fun T kV doc pm an cdv ct us its h1 h2 => by
    obtain ⟨k, e1, e2⟩ := h T kV doc pm an cdv ct us its h1 h2
    refine ⟨k, e1, ?_⟩
    rw [e2, ← h2, List.drop_length])
  rw [List.drop_length] at r
  cases r
  exact b
theorem makN {x qual : Str} {C : Addr} {st : Stmt} {n : Nat} {N ps : List Str} {k : Nat} {sp : Sp} (D : Ini K mg x qual C st n) (S : FnScope N ps (defScope st)) (len : ∀ vs H Q E, sp vs H Q E → vs.length = ps.length)
    (hb : ∀ dvs f fd, dvs.length = n → FunD K "__init__" qual (defArgs st) (defBody st) (defScope st) dvs [] f fd → Binds K fd ps [])
    (hbody : ∀ (f : Addr) (cdv : Value) (A : Around) (outer : List Env) (s : Shared) (H : Hp) (vs : List V) (Q : VK) (E : XK), Room k (A.deeper (envOfC qual (defScope st) s.heap.objs.size f cdv)) → sp vs H Q E →
      ∃ t, PSs (cxOf (L2.CX P w) P w K mg base N qual (defScope st) f cdv A outer s H E).nox (defBody st) t ∧ t { nx := fun _ H' => Q .non H', rt := Q } (start N vs) H) : Mak P w K mg base (k + 1) x C sp [] :=
  let ⟨f, fd, dvs, M, hm, F, hl⟩ := D.ex
  ⟨f, fd, ps, [], M, F.ok S len (fun cdv A outer s H vs Q E hr h =>
    let ⟨t, h1, h2⟩ := hbody f cdv A outer s H vs Q E hr h
    ⟨t, h1.nox, h2⟩), hm, hb dvs f fd hl F, .nil⟩
end

section
variable {X : Cx} {k j : Nat} {C : Addr} {x m : Str} {sp : Sp} {dvs : List V} {p pos apos : Pos} {e o : Expr} {es : List Expr} {ta : TE} {t : TA} {E : XK}
theorem pe_mkx (c : Mak X.prog X.w X.K X.mg X.base k x C sp dvs) (hr : Room j X.A) (hk : k + 1 ≤ j) (hg : Gl X x) (hx : Passes (L2.CX X.prog X.w) X E) (ha : PA X (e :: es) t)
    (hdb : (x == ("__debug__" : Str)) = false := by decide) (he : starEach (e :: es) X.env = (false, eval e X.env) :: starEach es X.env := by rfl) (hpl : (backTo pos (starEach es X.env)).any (·.1) = false := by rfl) :
    PE X (.Call (.Name x p) (e :: es) [] pos) (tMake C sp dvs E t) := by
  obtain ⟨f, fd, ps, ds, M, F, hm, b, d⟩ := c.ex
  exact pe_make M F (hr.mono hk) hg hm b d hx ha hdb he hpl
theorem pe_mtx {pl : Sem Bool} (c : Met X.prog X.w X.K X.mg X.base k C m sp dvs) (hr : Room j X.A) (hk : k ≤ j) (hx : Passes (L2.CX X.prog X.w) X E) (he : PE X o ta) (ha : PA X (e :: es) t)
    (hst : starEach (e :: es) X.env = (false, eval e X.env) :: starEach es X.env := by rfl) (hpl : (backTo pos (starEach es X.env)).any (·.1) = false := by rfl)
    (ht : eval (.Call (.Attribute o m apos) (e :: es) [] pos) X.env = (do
      let ov ← eval o X.env
      standAt apos.atName
      let (f, first) ← holding [ov] (getMethod ov m pl)
      callWith pos f first (backTo pos (starEach (e :: es) X.env)) (backToKw pos (keywordEach [] X.env))) := by rfl) :
    PE X (.Call (.Attribute o m apos) (e :: es) [] pos) (tMeth C m sp dvs E ta t) := by
  obtain ⟨f, fd, ps, ds, hc, hm, F, b, d⟩ := c.ex
  exact pe_meth (pl := pl) he hc hm F (hr.mono hk) b d hx ha hst hpl ht
theorem pe_mtx0 {pl : Sem Bool} (c : Met X.prog X.w X.K X.mg X.base k C m sp dvs) (hr : Room j X.A) (hk : k ≤ j) (hx : Passes (L2.CX X.prog X.w) X E) (he : PE X o ta)
    (ht : eval (.Call (.Attribute o m apos) [] [] pos) X.env = (do
      let ov ← eval o X.env
      standAt apos.atName
      let (f, first) ← holding [ov] (getMethod ov m pl)
      callWith pos f first (backTo pos (starEach [] X.env)) (backToKw pos (keywordEach [] X.env))) := by rfl) :
    PE X (.Call (.Attribute o m apos) [] [] pos) (tMeth C m sp dvs E ta tNil) := by
  obtain ⟨f, fd, ps, ds, hc, hm, F, b, d⟩ := c.ex
  exact pe_meth0 (pl := pl) he hc hm F (hr.mono hk) b d hx ht
theorem pe_px (c : Pro X.prog X.w X.K X.mg X.base k C m sp) (hr : Room j X.A) (hk : k + 1 ≤ j) (he : PE X e ta) (hx : Passes (L2.CX X.prog X.w) X.nox E)
    (hab : attributeBase e m X.env (eval e X.env) = eval e X.env := by rfl) : PE X (.Attribute e m pos) (tProp C sp [] E ta) := by
  obtain ⟨p, g, fd, ps, hc, hp, F, b⟩ := c.ex
  exact pe_prop he hc hp F (hr.mono hk) b .nil hx hab
end

/-! ### own operators -/
section
variable {X : Cx} {k : Nat} {C : Addr} {sp : Sp} {E : XK}
theorem run_at {CX : CXT} {f : Addr} {fd : FuncData} {ps : List Str} {pins : List (Addr × Obj)} {σ : L2.St} {H : Hp} {s : Shared} {Q : VK} {us : List Value} {vs : List V} {A : Around} (F : FnOk X.prog X.w X.K X.mg X.base CX k f fd ps sp) (hr : Room k A) (hf : A.frames = X.A.frames)
    (hb : Binds X.K fd ps []) (hx : Passes CX X E) (I : Inv X pins σ H s) (r : Vals vs us) (h : sp vs H Q E) : wpAny (model X.prog X.w) A (call (.ref f) us) (EP X pins σ Q) X.xe s := by
  have e0 : Env0 X.prog X.w X.K X.mg X.base A X.stack s H := by
    have e := I.env0
    exact ⟨by rw [hf]; exact e.frames, e.mod, e.bs, e.bsz, e.funs, e.frf, e.hok, e.bare⟩
  have hl : (us ++ []).length = ps.length := by rw [List.append_nil, ← r.length]; exact F.len _ _ _ _ h
  have b := hb s us I.kIn hl
  rw [List.append_nil] at b
  refine wpAny_call (codeAny_mono (F.run A X.stack s H ⟨us, []⟩ us vs Q E hr e0 b r h) fun r s' hq => ?_)
  cases r with
  | error e => exact hx pins σ H s e s' I hq
  | ok fl =>
    cases fl with
    | ret u => exact I.after hq
    | next => exact False.elim hq
    | brk => exact False.elim hq
    | cont => exact False.elim hq
/-- the reading of an own operator -/
def rOwn (C : Addr) (sp : Sp) (E : XK) (g : V → V → List V) (out : Bool → V) : V → V → V → Hp → VK → Prop := fun o x y H Q => ∃ a dx fs, o = .ref a ∧ H a = some (.ins C dx fs) ∧ sp (g x y) H (fun v H' => ∃ b, v = .bl b ∧ Q (out b) H') E
def rInO (C : Addr) (sp : Sp) (E : XK) (out : Bool → V) : R2 := fun x y H Q => ∃ a dx fs, y = .ref a ∧ H a = some (.ins C dx fs) ∧ sp [y, x] H (fun v H' => ∃ b, v = .bl b ∧ Q (out b) H') E
theorem or_inO (c : Met X.prog X.w X.K X.mg X.base k C "__contains__" sp []) {j : Nat} (hr : Room j X.A) (hk : k ≤ j) (hx : Passes (L2.CX X.prog X.w) X E) : OpR X (compareOp .In) (rInO C sp E .bl) := by
  obtain ⟨f, fd, ps, ds, hc, hm, F, b, d⟩ := c.ex
  cases d
  intro pins s σ H x y v u Q I rx ry h
  obtain ⟨a, dx, fs, rfl, ha, h⟩ := h
  cases ry
  obtain ⟨mA, J, _⟩ := ins_get I.hok ha
  obtain ⟨od, J, _⟩ := J.look
  obtain ⟨m, hF⟩ := I.fr
  refine PySem.W.in_K hF I.ok.mod.kin J hm.at_ hm.fn ?_
  refine wpAny_mono (run_at F (hr.mono hk) rfl b hx I (us := [.ref a, v]) (vs := [.ref a, x]) (.cons rfl (.cons rx .nil)) h) (fun r s' q => ?_) fun _ _ z => z
  obtain ⟨z, H', I', rz, b', rfl, q⟩ := q
  cases rz
  exact wpAny_truthy_bool ⟨.bl b', H', I', rfl, q⟩
theorem or_notInO (c : Met X.prog X.w X.K X.mg X.base k C "__contains__" sp []) {j : Nat} (hr : Room j X.A) (hk : k ≤ j) (hx : Passes (L2.CX X.prog X.w) X E) : OpR X (compareOp .NotIn) (rInO C sp E fun b => .bl (!b)) := by
  obtain ⟨f, fd, ps, ds, hc, hm, F, b, d⟩ := c.ex
  cases d
  intro pins s σ H x y v u Q I rx ry h
  obtain ⟨a, dx, fs, rfl, ha, h⟩ := h
  cases ry
  obtain ⟨mA, J, _⟩ := ins_get I.hok ha
  obtain ⟨od, J, _⟩ := J.look
  obtain ⟨m, hF⟩ := I.fr
  refine PySem.W.notIn_K hF I.ok.mod.kin J hm.at_ hm.fn ?_
  refine wpAny_mono (run_at F (hr.mono hk) rfl b hx I (us := [.ref a, v]) (vs := [.ref a, x]) (.cons rfl (.cons rx .nil)) h) (fun r s' q => ?_) fun _ _ z => z
  obtain ⟨z, H', I', rz, b', rfl, q⟩ := q
  cases rz
  exact wpAny_truthy_bool ⟨.bl (!b'), H', I', rfl, q⟩
/-- == of two instances of one class -/
def rEqO (C : Addr) (sp : Sp) (E : XK) (out : Bool → V) : R2 := fun x y H Q => ∃ a dx fs b dy gs, x = .ref a ∧ y = .ref b ∧ H a = some (.ins C dx fs) ∧ H b = some (.ins C dy gs) ∧ sp [x, y] H (fun v H' => ∃ b, v = .bl b ∧ Q (out b) H') E
theorem or_eqO (c : Met X.prog X.w X.K X.mg X.base k C "__eq__" sp []) {j : Nat} (hr : Room j X.A) (hk : k ≤ j) (hx : Passes (L2.CX X.prog X.w) X E) : OpR X (compareOp .Eq) (rEqO C sp E .bl) := by
  obtain ⟨f, fd, ps, ds, hc, hm, F, b, d⟩ := c.ex
  cases d
  intro pins s σ H x y v u Q I rx ry h
  obtain ⟨a, dx, fs, c, dy, gs, rfl, rfl, ha, hc', h⟩ := h
  cases rx
  cases ry
  obtain ⟨mA, J, _⟩ := ins_get I.hok ha
  obtain ⟨mB, J', _⟩ := ins_get I.hok hc'
  obtain ⟨od, J, _⟩ := J.look
  obtain ⟨od', J', _⟩ := J'.look
  obtain ⟨m, hF⟩ := I.fr
  show wpAny (model X.prog X.w) X.A (richCompare .Eq (.ref a) (.ref c)) _ _ s
  refine PySem.W.cmp_K (op := .Eq) (tb := .ref C) hr.units0 hF I.ok.mod.kin J J'.type (by simp [PySem.W.notFirst]) hm.at_ hm.fn ?_
  refine wpAny_mono (run_at F (hr.mono hk) rfl b hx I (us := [.ref a, .ref c]) (vs := [.ref a, .ref c]) (.cons rfl (.cons rfl .nil)) h) (fun r s' q => ?_) fun _ _ z => z
  obtain ⟨z, H', I', rz, b', rfl, q⟩ := q
  cases rz
  exact ⟨.bl b', H', I', rfl, q⟩

/-- what != of a class without own __ne__ leans on -/
structure NeOf (K : PySem.W.Frag) (C : Addr) : Prop where
  ne : PySem.W.findIn K (.ref C) "__ne__" = some (some (.builtin "object.__ne__"))
  mro : PySem.W.mroIn K C (.type "object") = some true
theorem ifBound_ne {M : Model} {A : Around} {E : Value → Shared → Prop} {s : Shared} {K : PySem.W.Frag} {x C : Addr} {ox : Obj} {od : Option Obj} {args : List Value} {Q : Option Value → Shared → Prop} (X : K.In s.heap) (I : PySem.W.InstAt s.heap x ox C od) (hs : PySem.W.findIn K (.ref C) "__ne__" = some (some (.builtin "object.__ne__")))
    (h : wpAny M A (call (.builtin "object.__ne__") (.ref x :: args)) (fun v => Q (some v)) E s) : wpAny M A (callSpecialIfBound? (.ref x) "__ne__" args) Q E s := by
  simp only [callSpecialIfBound?, bindSpecialIfBound?]
  refine wpAny_holding (wpAny_bind (wpAny_bind (wpAny_bind (I.type.here ((PySem.W.looks_findIn X hs).here ?_)))))
  refine wpAny_bind (wpAny_askSetting (wpAny_ite ?_))
  have fin : wpAny M A (call (.builtin "object.__ne__") ([.ref x] ++ args) >>= fun v => pure (some v)) Q E s := wpAny_bind (wpAny_mono h (fun v s' h' => wpAny_pure h') fun _ _ h' => h')
  split
  · exact wpAny_bind (wpAny_of_eq (F.cmp_object.ne.bind _) (wpAny_pure (by exact fin)))
  · exact wpAny_tryCatch (wpAny_bind (wpAny_of_eq (F.cmp_object.ne.bind _) (wpAny_pure (by exact fin))))
theorem entry_ne {prog : Program} {w : World} {A : Around} {E : Value → Shared → Prop} {s : Shared} {K : PySem.W.Frag} {x C f : Addr} {b : Value} {ox : Obj} {od : Option Obj} {Q : Fin → Shared → Prop} (hu : A.units < cLine) (X : K.In s.heap) (I : PySem.W.InstAt s.heap x ox C od)
    (hs : PySem.W.findIn K (.ref C) "__eq__" = some (some (.ref f))) (hf : PySem.W.isFn K (.ref f) = true)
    (h : wpAny (model prog w) A (call (.ref f) [.ref x, b]) (fun v s' => ∃ b, v = .bool b ∧ Q (.done (.ret (.bool (!b)))) s') E s) : wpAny (model prog w) A (Builtin.«object.__ne__» ⟨[.ref x, b], []⟩) Q E s := by
  unfold Builtin.«object.__ne__»
  repeat (first
    | with_reducible refine wpAny_cRoomFor hu ?_
    | (refine wpAny_bind (m := callSpecialIfBound? (.ref x) (Str.ofString "__eq__") [b]) (PySem.W.ifBound_K X I hs hf (wpAny_mono h (fun r s' hr => by
          obtain ⟨b, rfl, hq⟩ := hr
          repeat (first | exact hq | exact wpAny_pure hq | exact wpAny_truthy_bool hq | (refine wpAny_bind (m := truthy (.bool _)) (wpAny_truthy_bool ?_)) | wp_step)) fun _ _ e => e)))
    | wp_step)
theorem ne_K {prog : Program} {w : World} {A : Around} {E : Value → Shared → Prop} {s : Shared} {K : PySem.W.Frag} {x C L f : Addr} {h₀ : Heap} {m : Str → Option Value} {ox : Obj} {od : Option Obj} {b tb : Value} {Q : Value → Shared → Prop} (hu : A.units + 1 < cLine) (FF : Fr h₀ L s.heap m) (X₀ : K.In h₀) (I : PySem.W.InstAt s.heap x ox C od) (hb : PySem.W.Looks (model prog w) s.heap (typeOf b) tb)
    (hn : PySem.W.notFirst K C tb = true) (n : NeOf K C) (hs : PySem.W.findIn K (.ref C) "__eq__" = some (some (.ref f))) (hf : PySem.W.isFn K (.ref f) = true)
    (h : wpAny (model prog w) A.in1 (call (.ref f) [.ref x, b]) (fun v s' => ∃ b, v = .bool b ∧ Q (.bool (!b)) s') E s) : wpAny (model prog w) A (richCompare .NotEq (.ref x) b) Q E s := by
  have X := X₀.keeps FF.keep
  have one : wpAny (model prog w) A (tryCompare (.ref x) (cmpInfo .NotEq).2.1 b) (fun r s' => ∃ v, r = some v ∧ Q v s') E s := by
    unfold tryCompare
    refine wpAny_bind (ifBound_ne X I n.ne (wpAny_call (codeAny_call_builtin F.cmp_object.ne.plain F.cmpEntry_ne (PySem.W.check_slot F.cmpKind_ne F.cmpSplit_ne (I.type.andThen (PySem.W.looks_mroIn X n.mro)) (F.cmpArgs_ne _ _)
      (entry_ne (A := A.in1) hu X I hs hf (wpAny_mono h (fun v s' hv => ?_) fun _ _ e => e))))))
    obtain ⟨c, rfl, hq⟩ := hv
    exact ⟨c, rfl, wpAny_pure ⟨_, rfl, hq⟩⟩
  unfold richCompare
  simp only [oneThing_ref]
  refine wpAny_holding (wpAny_bind (wpAny_cRoomFor (Nat.lt_of_succ_lt hu) ?_))
  refine wpAny_bind (I.type.here (wpAny_bind (hb.here ?_)))
  split
  · rename_i q
    have e : PySem.W.subIn K tb (.ref C) = some false := by
      rcases Bool.or_eq_true_iff.mp hn with e | e
      · rw [beq_iff_eq.mp e] at q; simp at q
      · exact beq_iff_eq.mp e
    refine wpAny_bind ((PySem.W.looks_subIn X e).here ?_)
    simp only [Bool.false_eq_true, if_false]
    refine wpAny_bind (wpAny_mono one (fun r s' z => ?_) fun _ _ e => e)
    obtain ⟨v, rfl, hq⟩ := z
    exact wpAny_pure hq
  · refine wpAny_bind (wpAny_pure ?_)
    simp only [Bool.false_eq_true, if_false]
    refine wpAny_bind (wpAny_mono one (fun r s' z => ?_) fun _ _ e => e)
    obtain ⟨v, rfl, hq⟩ := z
    exact wpAny_pure hq
theorem or_neO (c : Met X.prog X.w X.K X.mg X.base k C "__eq__" sp []) (n : NeOf X.K C) {j : Nat} (hr : Room j X.A) (hk : k + 1 ≤ j) (hx : Passes (L2.CX X.prog X.w) X E) : OpR X (compareOp .NotEq) (rEqO C sp E fun b => .bl (!b)) := by
  obtain ⟨f, fd, ps, ds, hc, hm, F, b, d⟩ := c.ex
  cases d
  intro pins s σ H x y v u Q I rx ry h
  obtain ⟨a, dx, fs, c, dy, gs, rfl, rfl, ha, hc', h⟩ := h
  cases rx
  cases ry
  obtain ⟨mA, J, _⟩ := ins_get I.hok ha
  obtain ⟨mB, J', _⟩ := ins_get I.hok hc'
  obtain ⟨od, J, _⟩ := J.look
  obtain ⟨od', J', _⟩ := J'.look
  obtain ⟨m, hF⟩ := I.fr
  show wpAny (model X.prog X.w) X.A (richCompare .NotEq (.ref a) (.ref c)) _ _ s
  refine ne_K (tb := .ref C) (by have := hr.units; omega) hF I.ok.mod.kin J J'.type (by simp [PySem.W.notFirst]) n hm.at_ hm.fn ?_
  refine wpAny_mono (run_at (A := X.A.in1) F (hr.mono hk).in1 rfl b hx I (us := [.ref a, .ref c]) (vs := [.ref a, .ref c]) (.cons rfl (.cons rfl .nil)) h) (fun r s' q => ?_) fun _ _ z => z
  obtain ⟨z, H', I', rz, b', rfl, q⟩ := q
  cases rz
  exact ⟨_, rfl, .bl (!b'), H', I', rfl, q⟩
/-- bool(o) by an own __bool__ -/
theorem call_bool_own {prog : Program} {w : World} {A : Around} {E : Value → Shared → Prop} {s : Shared} {x : Addr} {Q : Value → Shared → Prop} (h : wpAny (model prog w) A.in1.in1 (truthy (.ref x)) (fun b s' => Q (.bool b) s') E s) :
    wpAny (model prog w) A (call (.type "bool") [.ref x]) Q E s := by
  have ft := F.called_bool
  have hct := F.typeCall_bool_1 (.ref x)
  obtain ⟨c, tl, hmro⟩ := ft.mro
  have hmade := ft.made
  have hsub := ft.sub
  refine wpAny_call (codeAny_of_tree ?_)
  show wpAny _ _ (callAny (.type "bool") _) _ _ _
  refine wpAny_pure ⟨Code.quiet_builtin _ (by decide +kernel), codeAny_builtin F.entry_type_call ?_⟩
  rw [Around.under_plain (weight_type_call_type "bool" [.ref x] []) (units_type_call_type "bool" [.ref x] [])]
  have h1 := ft.notType
  have h2 := ft.canCreate
  repeat (any_goals (first | assumption | wp_step))

  refine codeAny_mono (codeAny_call_builtin (R := wants (fun obj s₁ => ∃ b, obj = .bool b ∧ Q (.bool b) s₁) E) ft.plain F.entry_bool_new (wpAny_of_eq (F.newCall_bool_1 _) ?_)) fun r s₁ hr => ?_
  · unfold Builtin.«bool.__new__»
    have f1 := F.conv_sub_bool
    repeat (any_goals (first | assumption | (with_reducible refine wpAny_bind (m := truthy (.ref x)) (wpAny_mono h (fun b s' hq => ?_) fun _ _ e => e)) | wp_step))
    all_goals exact ⟨_, rfl, hq⟩
  cases r with
  | error e => exact hr
  | ok fl =>
    cases fl with
    | ret obj =>
      obtain ⟨bb, rfl, hr⟩ := hr
      have hT : s₁.TypeIs (.bool bb) "bool" := rfl
      have hli := ft.init.lookup
      have hbi := ft.init.bind (.bool bb)
      repeat (any_goals (first | assumption | wp_step))

      refine codeAny_mono (codeAny_call_builtin ft.init.plain F.entry_object_init (ft.init.check _ _ _ _ _ _ _ _ hT (F.args_object_init_2 _ _) (object_init_meets (self := .bool bb) (rest := [.ref x]) ft.init.lookup ft.made F.newNe_bool prog w A.in1 (wants (fun r s₂ => r = .none ∧ Q (.bool bb) s₂) E) s₁ ⟨hT, rfl, hr⟩))) fun r₂ s₂ hr₂ => ?_
      cases r₂ with
      | error e => exact hr₂
      | ok fl₂ =>
        cases fl₂ with
        | ret r =>
          obtain ⟨rfl, hq⟩ := hr₂
          repeat (any_goals (first | assumption | wp_step))
        | _ => exact hr₂.elim
    | _ => exact hr.elim
theorem cr_boolO (c : Met X.prog X.w X.K X.mg X.base k C "__bool__" sp []) {j : Nat} (hr : Room j X.A) (hk : k + 2 ≤ j) (hx : Passes (L2.CX X.prog X.w) X E) :
    CallR X (.type "bool") (fun xs H Q => ∃ a dx fs, xs = [.ref a] ∧ H a = some (.ins C dx fs) ∧ sp [.ref a] H (fun v H' => ∃ b, v = .bl b ∧ Q (.bl b) H') E) := by
  obtain ⟨f, fd, ps, ds, hc, hm, F, b, d⟩ := c.ex
  cases d
  intro pins s σ H xs us Q I r h
  obtain ⟨a, dx, fs, rfl, ha, h⟩ := h
  rw [Vals.ref1 r]
  obtain ⟨mA, J, _⟩ := ins_get I.hok ha
  obtain ⟨od, J, _⟩ := J.look
  obtain ⟨m, hF⟩ := I.fr
  refine call_bool_own (PySem.W.truthy_K hF I.ok.mod.kin J hm.at_ hm.fn ?_)
  refine wpAny_mono (run_at (A := X.A.in1.in1) F (hr.mono hk).in1.in1 rfl b hx I (us := [.ref a]) (vs := [.ref a]) (.cons rfl .nil) h) (fun r s' q => ?_) fun _ _ z => z
  obtain ⟨z, H', I', rz, b', rfl, q⟩ := q
  cases rz
  exact ⟨.bl b', H', I', rfl, q⟩
end
end Tr

/-! # enumerate, isinstance of own things, fields. -/
namespace Tr
open PySem L2
section
variable {K : PySem.W.Frag}
/-- for i, x in enumerate(list) -/
theorem for_enum {a : Addr} {xs : List V} {i1 i2 : Nat} {tb : TS} {D : Ends} {σ : St} {H : Hp} (Pv : Nat → St → Hp → Prop) (h0 : Pv 0 σ H) (hl : ∀ i σ H, i ≤ xs.length → Pv i σ H → SqL K H a xs)
    (hs : ∀ i x σ H, xs[i]? = some x → Pv i σ H → ∀ T, H T = none → tb { D with nx := Pv (i + 1), ct := Pv (i + 1), bk := D.nx } ((σ.set i1 (some (.int (i : Nat)))).set i2 (some x)) (upd H T (.tup [.int (i : Nat), x]))) (hd : ∀ σ H, Pv xs.length σ H → D.nx σ H) :
    ∃ W : Nat → Nat → St → Hp → Prop, (∃ m, W 0 m σ H) ∧ ∀ i m σ H, W i m σ H →
      ((Ite K a).stop i H ∧ D.nx σ H) ∨ ((Ite K a).go i H ∧ ∃ N : St → Hp → Prop, (∀ σ' H', N σ' H' → ∃ m', m' < m ∧ W (i + 1) m' σ' H') ∧ ∀ x H', (Ite K a).yld i H x H' → gTup K 2 (gCons (gName i1) (gCons (gName i2) gNil)) x σ H' fun σ2 H2 => tb { D with nx := N, ct := N, bk := D.nx } σ2 H2) := by
  refine ⟨fun i m σ H => m = xs.length - i ∧ i ≤ xs.length ∧ Pv i σ H, ⟨xs.length, by simp, Nat.zero_le _, h0⟩, ?_⟩
  rintro i m σ H ⟨rfl, hi, p⟩
  have q := hl i σ H hi p
  by_cases hlt : i < xs.length
  · refine .inr ⟨⟨xs, xs[i], q, by simp [hlt]⟩, Pv (i + 1), fun σ' H' p' => ⟨xs.length - (i + 1), by omega, rfl, hlt, p'⟩, fun x H' y => ?_⟩
    obtain ⟨T, z, rfl, nT, rfl, y⟩ := y
    exact ⟨T, _, rfl, SqT.of upd_same, rfl, _, _, rfl, _, _, rfl, rfl, hs i z σ H (y xs q) p T nT⟩
  · have e : i = xs.length := by omega
    subst e
    exact .inl ⟨⟨xs, q, Nat.le_refl _⟩, hd σ H p⟩
end
/-- e.f, K by its name (inside a comprehension X.K would hold what is bound there) -/
theorem pe_fldK {X : Cx} (K : PySem.W.Frag) {e : Expr} {ta : TE} {f : Str} {pos : Pos} (he : PE X e ta) (hb : attributeBase e f X.env (eval e X.env) = eval e X.env) (hk : X.K = K := by rfl) : PE X (.Attribute e f pos) (tFld K ta f) := by
  subst hk
  exact pe_fld he hb
theorem pi_listK {X : Cx} (K : PySem.W.Frag) {tg l : Expr} {tl : TE} (hl : PE X l tl) (hk : X.K = K := by rfl) : PI X tg l (iList K tl) := by
  subst hk
  exact pi_list hl
/-- a walk over a list, whatever is done at each turn -/
theorem it_list {K : PySem.W.Frag} {a : Addr} {xs : List V} {Hs : Hp} {Qd : Hp → Prop} {F : V → Hp → (Hp → Prop) → Prop} (Pv : Nat → Hp → Prop) (h0 : Pv 0 Hs) (hl : ∀ i H, i ≤ xs.length → Pv i H → SqL K H a xs)
    (hs : ∀ i x H, xs[i]? = some x → Pv i H → F x H (Pv (i + 1))) (hd : ∀ H, Pv xs.length H → Qd H) :
    ∃ W : Nat → Nat → Hp → Prop, (∃ m, W 0 m Hs) ∧ ∀ i m H, W i m H → ((Itl K a).stop i H ∧ Qd H) ∨ ((Itl K a).go i H ∧ ∃ Nx : Hp → Prop, (∀ H', Nx H' → ∃ m', m' < m ∧ W (i + 1) m' H') ∧ ∀ x H', (Itl K a).yld i H x H' → F x H' Nx) := by
  refine ⟨fun i m H => m = xs.length - i ∧ i ≤ xs.length ∧ Pv i H, ⟨xs.length, by simp, Nat.zero_le _, h0⟩, ?_⟩
  rintro i m H ⟨rfl, hi, p⟩
  have q := hl i H hi p
  by_cases hlt : i < xs.length
  · refine .inr ⟨⟨xs, xs[i], q, by simp [hlt]⟩, Pv (i + 1), fun H' p' => ⟨xs.length - (i + 1), by omega, rfl, hlt, p'⟩, fun x H' y => ?_⟩
    obtain ⟨e, y⟩ := y
    subst e
    exact hs i x _ (y xs q) p
  · have e : i = xs.length := by omega
    subst e
    exact .inl ⟨⟨xs, q, Nat.le_refl _⟩, hd H p⟩
/-- another reading of the same -/
theorem pe_imp {X : Cx} {e : Expr} {t t' : TE} (h : PE X e t) (f : ∀ σ H Q, t' σ H Q → t σ H Q) : PE X e t' := ⟨fun pins s σ H Q I q => h.run pins s σ H Q I (f σ H Q q)⟩
/-- what isinstance of an instance of the class leans on -/
structure IsO (K : PySem.W.Frag) (C : Addr) : Prop where
  ha : PySem.W.findIn K (.ref C) "__class__" = some (some (.builtin "object.__class__"))
  hn : PySem.W.specialIn K (.builtin "object.__class__") "__get__" = some (some (.builtin "getset_descriptor.__get__"))
  ht : PySem.W.takesIn K (.builtin "object.__class__") = some true
  hm : PySem.W.mroIn K C (.type "object") = some true
theorem IsO.ty {K : PySem.W.Frag} {C a dx : Addr} {H : Hp} {fs : List (Str × V)} (o : IsO K C) (c : Cls K C) (e : H a = some (.ins C dx fs)) : TyX K H (.ref a) (.ref C) := .base (.ins e c o.ha o.hn o.ht o.hm)
theorem kit_self {K : PySem.W.Frag} {t : Value} : PySem.W.kitOne K t t = some true := by
  unfold PySem.W.kitOne
  first
    | rfl
    | simp
/-- isinstance(x, int) and not isinstance(x, bool) -/
structure IsW (K : PySem.W.Frag) (H : Hp) (x : V) (b : Bool) : Prop where
  ex : ∃ t b1 b2, TyX K H x t ∧ PySem.W.kitOne K t (.type "int") = some b1 ∧ PySem.W.kitOne K t (.type "bool") = some b2 ∧ b = (b1 && !b2)
theorem isW_int {K : PySem.W.Frag} {H : Hp} (i : Int) : IsW K H (.int i) true := ⟨_, true, false, .base (.int i), kit_ty (by decide +kernel), kit_ty (by decide +kernel), rfl⟩
end Tr

/-! # Static methods, own binary operators, own truth, two ways to iterate. -/
namespace Tr
open PySem PySem.Spec PyProof.Rows L2
/-- C.m is a static method: its record at p, its def at g -/
structure SMet (K : PySem.W.Frag) (C : Addr) (m : Str) (p g : Addr) : Prop where
  rd : PySem.W.readsIn K C (.type "type") = true
  ga : PySem.W.specialIn K (.ref C) "__getattribute__" = some (some (.builtin "type.__getattribute__"))
  at_ : PySem.W.findCls K (.ref C) (.type "type") m = some (.get (.builtin "staticmethod.__get__") (.ref p) .none (.ref C))
  rc : ∃ rest, PySem.W.recIn K p "staticmethod" = some (.ref g :: rest)
  kp : PySem.W.keepIn K (.ref g) = true
structure Smt (K : PySem.W.Frag) (C : Addr) (m qual : Str) (st : Stmt) : Prop where
  ex : ∃ p g fd, SMet K C m p g ∧ Fun K m qual st g fd
/-- a static method that may be called -/
structure Sta (P : Program) (w : World) (K : PySem.W.Frag) (mg : Str → Option Value) (base : Heap) (k : Nat) (C : Addr) (m : Str) (sp : Sp) : Prop where
  ex : ∃ (p g : Addr) (fd : FuncData) (ps : List Str), SMet K C m p g ∧ FnOk P w K mg base (L2.CX P w) k g fd ps sp ∧ Binds K fd ps []
section
variable {P : Program} {w : World} {K : PySem.W.Frag} {mg : Str → Option Value} {base : Heap}
theorem staN {m qual : Str} {C : Addr} {st : Stmt} {N ps : List Str} {k : Nat} {sp : Sp} (D : Smt K C m qual st) (S : FnScope N ps (defScope st)) (len : ∀ vs H Q E, sp vs H Q E → vs.length = ps.length)
    (hb : ∀ (kV doc pm : Value) (an : Option Addr) (cdv ct : Value) (us : List Value), us.length = ps.length → bindArgs (PySem.W.fnOf m qual (defArgs st) (defBody st) (defScope st) .none kV doc pm an cdv ct) ⟨us, []⟩ = pure (ps.zip us))
    (hbody : ∀ (f : Addr) (cdv : Value) (A : Around) (outer : List Env) (s : Shared) (H : Hp) (vs : List V) (Q : VK) (E : XK), Room k (A.deeper (envOfC qual (defScope st) s.heap.objs.size f cdv)) → sp vs H Q E →
      ∃ t, PSs (cxOf (L2.CX P w) P w K mg base N qual (defScope st) f cdv A outer s H E).nox (defBody st) t ∧ t { nx := fun _ H' => Q .non H', rt := Q } (start N vs) H) : Sta P w K mg base (k + 1) C m sp :=
  let ⟨p, g, fd, M, F⟩ := D.ex
  ⟨p, g, fd, ps, M, okN F S len (hbody g), F.binds hb⟩
end
section
variable {X : Cx} {k j : Nat} {C : Addr} {m : Str} {sp : Sp} {p pos apos : Pos} {e o : Expr} {es : List Expr} {ta : TE} {t : TA} {E : XK}
theorem getsm_ok {pins : List (Addr × Obj)} {σ : L2.St} {H : Hp} {s : Shared} {A : Around} {E' : Value → Shared → Prop} {p g : Addr} {pl : Sem Bool} {Q : Value × List Value → Shared → Prop} (I : Inv X pins σ H s) (c : SMet X.K C m p g)
    (h : ∀ s', Inv X pins σ H s' → Q (.ref g, []) s') : wpAny (model X.prog X.w) A (getMethod (.ref C) m pl) Q E' s := by
  obtain ⟨rest, hp⟩ := c.rc
  exact PySem.W.method_cls I.kIn c.ga (PySem.W.cls_bind I.kIn c.rd c.at_ (wpAny_call (PySem.W.sm_get (s := { s with toks := s.toks + 1 }) I.kIn hp (PySem.W.handed_on rfl (h _ (I.tok _))))))
/-- C.m(e, ..) of a static method -/
def tSta (C : Addr) (sp : Sp) (E : XK) (ta : TE) (t : TA) : TE := fun σ H Q => ta σ H fun x H1 => x = .ref C ∧ t σ H1 fun vs H2 => sp vs H2 Q E
theorem pe_sta {pl : Sem Bool} (c : Sta X.prog X.w X.K X.mg X.base k C m sp) (hr : Room j X.A) (hk : k ≤ j) (hx : Passes (L2.CX X.prog X.w) X E) (he : PE X o ta) (ha : PA X (e :: es) t)
    (hst : starEach (e :: es) X.env = (false, eval e X.env) :: starEach es X.env := by rfl) (hpl : (backTo pos (starEach es X.env)).any (·.1) = false := by rfl)
    (ht : eval (.Call (.Attribute o m apos) (e :: es) [] pos) X.env = (do
      let ov ← eval o X.env
      standAt apos.atName
      let (f, first) ← holding [ov] (getMethod ov m pl)
      callWith pos f first (backTo pos (starEach (e :: es) X.env)) (backToKw pos (keywordEach [] X.env))) := by rfl) :
    PE X (.Call (.Attribute o m apos) (e :: es) [] pos) (tSta C sp E ta t) := by
  obtain ⟨p, g, fd, ps, M, F, b⟩ := c.ex
  refine ⟨fun pins s σ H Q I h => ?_⟩
  refine PySem.W.methodCall_KW (pl := pl) (thn (he.run pins s σ H _ I h) fun u s1 ⟨x, H1, I1, rx, ex, q⟩ => ?_) ht
  subst ex
  obtain rfl : u = Value.ref C := rx
  refine getsm_ok I1 M fun s2 I2 => ?_
  refine PySem.W.callWith_K (first := []) (h₀ := X.base) I.ok.mod.kin M.kp (thn (ha.run pos pins s2 σ H1 _ I2 q) fun us s3 ⟨vs, H2, I3, r, q2⟩ => ⟨I3.kIn, ?_⟩) hst hpl
  exact run_fn F (hr.mono hk) b .nil hx I3 r (by rw [List.append_nil]; exact q2)
theorem pe_sta0 {pl : Sem Bool} (c : Sta X.prog X.w X.K X.mg X.base k C m sp) (hr : Room j X.A) (hk : k ≤ j) (hx : Passes (L2.CX X.prog X.w) X E) (he : PE X o ta)
    (ht : eval (.Call (.Attribute o m apos) [] [] pos) X.env = (do
      let ov ← eval o X.env
      standAt apos.atName
      let (f, first) ← holding [ov] (getMethod ov m pl)
      callWith pos f first (backTo pos (starEach [] X.env)) (backToKw pos (keywordEach [] X.env))) := by rfl) :
    PE X (.Call (.Attribute o m apos) [] [] pos) (tSta C sp E ta tNil) := by
  obtain ⟨p, g, fd, ps, M, F, b⟩ := c.ex
  refine ⟨fun pins s σ H Q I h => ?_⟩
  refine PySem.W.methodCall_KW (pl := pl) (thn (he.run pins s σ H _ I h) fun u s1 ⟨x, H1, I1, rx, ex, q⟩ => ?_) ht
  subst ex
  obtain rfl : u = Value.ref C := rx
  refine getsm_ok I1 M fun s2 I2 => ?_
  exact PySem.W.callWith_K0 (first := []) I2.kIn M.kp (run_fn (us := []) (vs := []) F (hr.mono hk) b .nil hx I2 .nil q)
/-- a binary operator of two instances of one class -/
def rBinO (C : Addr) (sp : Sp) (E : XK) : R2 := fun x y H Q => ∃ a dx fs b dy gs, x = .ref a ∧ y = .ref b ∧ H a = some (.ins C dx fs) ∧ H b = some (.ins C dy gs) ∧ sp [x, y] H (fun v H' => ∃ z, v = .ref z ∧ Q (.ref z) H') E
theorem or_binO {op : Operator} (c : Met X.prog X.w X.K X.mg X.base k C m sp []) (hm : PySem.dunder op.info.2 = m) (hs : PySem.W.selfFirst X.K C = true) (hr : Room j X.A) (hk : k ≤ j) (hx : Passes (L2.CX X.prog X.w) X E) : OpR X (binaryOp op) (rBinO C sp E) := by
  subst hm
  obtain ⟨f, fd, ps, ds, hc, hm, F, b, d⟩ := c.ex
  cases d
  intro pins s σ H x y v u Q I rx ry h
  obtain ⟨a, dx, fs, c, dy, gs, rfl, rfl, ha, hc', h⟩ := h
  cases rx
  cases ry
  obtain ⟨mA, J, _⟩ := ins_get I.hok ha
  obtain ⟨mB, J', _⟩ := ins_get I.hok hc'
  obtain ⟨od, J, _⟩ := J.look
  obtain ⟨od', J', _⟩ := J'.look
  obtain ⟨m, hF⟩ := I.fr
  refine PySem.W.binop_K hF I.ok.mod.kin J J'.type hs hm.at_ hm.fn ?_
  refine wpAny_mono (run_at F (hr.mono hk) rfl b hx I (us := [.ref a, .ref c]) (vs := [.ref a, .ref c]) (.cons rfl (.cons rfl .nil)) h) (fun r s' q => ?_) fun _ _ z => z
  obtain ⟨z, H', I', rz, b', rfl, q⟩ := q
  cases rz
  exact ⟨.ref b', H', I', rfl, q⟩
/-- the truth of an instance -/
theorem pt_truO {C : Addr} {sp : Sp} (c : Met X.prog X.w X.K X.mg X.base k C "__bool__" sp []) (hr : Room j X.A) (hk : k ≤ j) (hx : Passes (L2.CX X.prog X.w) X E) (ha : PE X e ta) (he : ∀ whole, isTrue e X.env whole = (do let v ← whole; standAt e.pos; holding [v] (truthy v))) :
    PT X e (fun σ H Q => ta σ H fun x H1 => ∃ a dx fs, x = .ref a ∧ H1 a = some (.ins C dx fs) ∧ sp [.ref a] H1 (fun v H2 => ∃ b, v = .bl b ∧ Q b H2) E) := by
  obtain ⟨f, fd, ps, ds, hc, hm, F, b, d⟩ := c.ex
  cases d
  refine ⟨fun pins s σ H Q I h => ?_⟩
  refine isTrue_plain (thn (ha.run pins s σ H _ I h) fun v s1 ⟨x, H1, I1, r1, a, dx, fs, ex, ea, q1⟩ => ?_) (he _)
  subst ex
  cases r1
  obtain ⟨mA, J, _⟩ := ins_get I1.hok ea
  obtain ⟨od, J, _⟩ := J.look
  obtain ⟨m, hF⟩ := I1.fr
  refine PySem.W.truthy_K hF I1.ok.mod.kin J hm.at_ hm.fn ?_
  refine wpAny_mono (run_at F (hr.mono hk) rfl b hx I1 (us := [.ref a]) (vs := [.ref a]) (.cons rfl .nil) q1) (fun r s' q => ?_) fun _ _ z => z
  obtain ⟨z, H', I', rz, b', rfl, q⟩ := q
  cases rz
  exact ⟨H', I', q⟩
theorem pi_or {tg e : Expr} {w1 w2 : TI} (h1 : PI X tg e w1) (h2 : PI X tg e w2) : PI X tg e (fun σ H R => w1 σ H R ∨ w2 σ H R) := ⟨fun pins s σ H R I h => h.elim (h1.run pins s σ H R I) (h2.run pins s σ H R I)⟩
end
end Tr

/-! # Small words. -/
namespace Tr
open PySem L2
theorem iteNe {x y : V} {A B : Prop} (h : x = y) (b : B) : if (!decide (x = y)) = true then A else B := by
  rw [if_neg (by rw [decide_eq_true h]; exact Bool.false_ne_true)]
  exact b
theorem iteEq {x y : V} {A B : Prop} (h : x = y) (b : A) : if decide (x = y) = true then A else B := by
  rw [if_pos (decide_eq_true h)]
  exact b
theorem iteOr {b1 b2 : Bool} {σ : St} {j : Nat} {H : Hp} {Q : VK} (e : σ[j]? = some (some (.bl b2))) (h : Q (.bl (b1 || b2)) H) : if b1 = true then Q (.bl true) H else tVar j σ H Q := by
  cases b1
  · rw [if_neg Bool.false_ne_true]
    exact ⟨_, e, h⟩
  · rw [if_pos rfl]
    exact h
theorem iteAnd {b1 b2 : Bool} {σ : St} {j : Nat} {H : Hp} {Q : VK} (e : σ[j]? = some (some (.bl b2))) (h : Q (.bl (b1 && b2)) H) : if b1 = true then tVar j σ H Q else Q (.bl false) H := by
  cases b1
  · rw [if_neg Bool.false_ne_true]
    exact h
  · rw [if_pos rfl]
    exact ⟨_, e, h⟩
end Tr

/-! # enumerate over a tuple; loops and comprehensions over a tuple of pairs. -/
namespace Tr
open PySem PySem.Spec PyProof.Rows L2
abbrev enumO (it : Addr) : Obj := { cls := .type "enumerate", data := .fields #[.none, .bool false, .ref it, rawInt 0, .none, .none] }
theorem meets_enum1 {v : Value} {o : Obj} {W : Heap → Prop} (B : Begins v o W) :
    Meets (Builtin.«enumerate.__new__» ⟨[.type "enumerate", v], []⟩) (fun _ R s => W s.heap ∧ R (.ok (.ret (.ref (s.heap.push o).objs.size))) { s with heap := (s.heap.push o).push (enumO s.heap.objs.size) }) := .of_wp fun prog w A R s h => by
  obtain ⟨hp, g, d, tk, os⟩ := s
  obtain ⟨h1, h⟩ := h
  have hsub := sub_enumerate
  have q1 : ∀ {A' : Around} {E : Value → Shared → Prop} {Q : Value → Shared → Prop}, Q (.ref hp.objs.size) ⟨hp.push o, g, d, tk, os⟩ → wpAny (model prog w) A' (pyIter v) Q E ⟨hp, g, d, tk, os⟩ := fun q => B.iter prog w _ _ ⟨hp, g, d, tk, os⟩ _ h1 q
  wp_walk using q1
  refine wpAny_stack_any fun st => wpAny_pure ?_
  split
  · rename_i c _ _ _ _ _
    cases (c == Value.type "enumerate") <;> (wp_walk using q1; exact ⟨_, rfl, h⟩)
  · wp_walk using q1
    exact ⟨_, rfl, h⟩
section
variable {prog : Program} {w : World} {A : Around} {E : Value → Shared → Prop} {s : Shared}
theorem call_enum1 {v : Value} {o : Obj} {W : Heap → Prop} {Q : Value → Shared → Prop} (B : Begins v o W) (h1 : W s.heap)
    (h : ∀ h', IsEnum h' (s.heap.objs.size + 1) s.heap.objs.size 0 .none → h'.get? s.heap.objs.size = some o → (∀ b o, s.heap.get? b = some o → h'.get? b = some o) → Q (.ref (s.heap.objs.size + 1)) { s with heap := h' }) :
    wpAny (model prog w) A (call (.type "enumerate") [v]) Q E s := by
  refine callType_new F.called_enumerate (by decide) (F.typeCall_enumerate_1 _) (F.newCall_enumerate_1 _) (fun obj => F.args_object_init_2 obj _) F.entry_enumerate_new (meets_enum1 B) ⟨h1, ?_⟩
  have hz : (s.heap.push o).objs.size = s.heap.objs.size + 1 := Heap.size_push ..
  show _ ∧ _
  rw [hz]
  have he : IsEnum ((s.heap.push o).push (enumO s.heap.objs.size)) (s.heap.objs.size + 1) s.heap.objs.size 0 .none := by
    have := Heap.get?_push_size (s.heap.push o) (o := enumO s.heap.objs.size) rfl
    rw [hz] at this
    exact this
  exact ⟨⟨_, he, rfl⟩, h _ he (Heap.get?_push_of_some _ (Heap.get?_push_size _ B.free)) fun b o x => Heap.get?_push_of_some _ (Heap.get?_push_of_some _ x)⟩
end
/-- the tuple at a, each item in a new pair with its index -/
def IteT (K : PySem.W.Frag) (a : Addr) : It :=
  ⟨fun i H => ∃ (xs : List V) (x : V), SqT K H a xs ∧ xs[i]? = some x, fun i H v H' => ∃ T x, v = .ref T ∧ H T = none ∧ H' = upd H T (.tup [.int (i : Nat), x]) ∧ ∀ xs, SqT K H a xs → xs[i]? = some x, fun i H => ∃ xs : List V, SqT K H a xs ∧ xs.length = i⟩
theorem turn_enumT {P : Program} {w : World} {K : PySem.W.Frag} {elts : List Expr} {kk : Nat} {tpos : Pos} (a e it : Addr) :
    Turn P w K (.Tuple elts kk tpos) (IteT K a) [e, it] e (fun i h => (∃ old, IsEnum h e it ((i : Nat) : Int) old) ∧ h.IsTupleIter it a i ∧ e ≠ it) where
  mem := by simp
  obj := fun i h st b hb => by
    obtain ⟨⟨old, he⟩, ⟨o, ho, hc, hd⟩, _⟩ := st
    rcases (show b = e ∨ b = it by simpa using hb) with z | z
    · rw [z]; exact ⟨_, he, fun v q => nomatch q⟩
    · rw [z]; exact ⟨o, ho, fun v q => by rw [hd] at q; cases q⟩
  keep := fun i h h' ⟨⟨old, he⟩, hi, hne⟩ k => ⟨⟨old, k e (by simp) _ he⟩, hi.at fun o q => k it (by simp) o q, hne⟩
  item := by
    intro X hP hw hK hc i pins s σ H E I hf st hg
    subst hP hw hK
    obtain ⟨⟨old, he⟩, hit, hne⟩ := st
    obtain ⟨xs, x, hq, hx⟩ := hg
    obtain ⟨its, rv, p, hz⟩ := I.tuple hq
    obtain ⟨u, hu, ru⟩ := rv.get hx
    have p' : s.heap.IsTuple a its.toArray := p
    have hel : e < s.heap.objs.size := Heap.lt_size he
    have hil : it < s.heap.objs.size := by obtain ⟨_, q, _⟩ := hit; exact Heap.lt_size q
    have ait : a ≠ it := by
      rintro rfl
      obtain ⟨o, q1, q2, _⟩ := hit
      obtain ⟨o', q3, q4, _⟩ := p'
      rw [q1] at q3
      cases q3
      rw [q2] at q4
      injection q4 with q4
      exact absurd q4 (by decide)
    have ae : a ≠ e := by
      rintro rfl
      obtain ⟨o', q3, q4, _⟩ := p'
      rw [he] at q3
      cases q3
      injection q4 with q4
      exact absurd q4 (by decide)
    have hh : X.A.in1.handled = none := I.ok.hd hc
    have hi : i < its.toArray.size := by
      have := (List.getElem?_eq_some_iff.mp hu).1
      simpa using this
    refine wpAny_pyNext_enum_itemC (Draws.tuple hh it a ait its.toArray) he ⟨hit, p'⟩ hi hne (by simp [hne, ae.symm]) fun x' h' tk hP ho hst hT hsz hk => ?_
    obtain ⟨hit', _⟩ := hst
    have ex : x' = u := by
      have : its[i]? = some x' := by simpa using hP
      rw [hu] at this
      exact (Option.some.inj this).symm
    subst ex
    refine ⟨_, rfl, wpAny_letOwnedTupleGo_enum (s := { s with heap := h', toks := tk + 1 }) ho fun h'' he' sb => ?_⟩
    have hT2 : h''.get? s.heap.objs.size = some { cls := .type "tuple", data := .seq #[.int i tk, x'] } := (sb.2 _ (Nat.ne_of_gt hel)).trans hT
    have new : ObjOk X.prog X.w (upd H s.heap.objs.size (.tup [.int (i : Nat), x])) h'' s.heap.objs.size (.tup [.int (i : Nat), x]) :=
      ⟨by show 2 ≤ sizeLine; decide, [.int i tk, x'], .cons ⟨_, rfl⟩ (.cons ru .nil), ⟨_, hT2, rfl, _, rfl⟩⟩
    have I1 : Inv X pins σ (upd H s.heap.objs.size (.tup [.int (i : Nat), x])) { s with heap := h'', toks := tk + 1 } :=
      I.turnedNew (ch := [e, it]) (fun b ob hb q => (sb.2 b (fun z => hb (by simp [z]))).trans (hk b ob (fun z => hb (by simp [z])) (fun z => hb (by simp [z])) q)) hf (Nat.le_refl _) new
    refine ⟨.ref s.heap.objs.size, _, I1, rfl, ⟨_, x, rfl, I.hok.fresh (Nat.le_refl _), rfl, fun ys hy => by rw [I.tuple_inj hy hq]; exact hx⟩, ⟨⟨x', ?_⟩, hit'.at fun o q => (sb.2 it (Ne.symm hne)).trans q, hne⟩, fun b hb => ?_⟩
    · have e1 : ((i + 1 : Nat) : Int) = (i : Int) + 1 := by omega
      rw [e1]
      exact he'
    · have hb' : b < s.heap.objs.size := by
        rcases (show b = e ∨ b = it by simpa using hb) with z | z
        · rw [z]; exact hel
        · rw [z]; exact hil
      rw [upd_ne (Nat.ne_of_lt hb')]
      exact (hf b hb).1
  done := by
    intro X hP hw hK hc i pins s σ H E I hf st hg
    subst hP hw hK
    obtain ⟨⟨old, he⟩, hit, hne⟩ := st
    obtain ⟨xs, hq, hx⟩ := hg
    obtain ⟨its, rv, p, hz⟩ := I.tuple hq
    obtain ⟨f0, f1, f2, f3, f4, f5⟩ := hf it (by simp)
    have p' : s.heap.IsTuple a its.toArray := p
    have ait : a ≠ it := by
      rintro rfl
      obtain ⟨o, q1, q2, _⟩ := hit
      obtain ⟨o', q3, q4, _⟩ := p'
      rw [q1] at q3
      cases q3
      rw [q2] at q4
      injection q4 with q4
      exact absurd q4 (by decide)
    have hh : X.A.in1.handled = none := I.ok.hd hc
    have hl : i = its.toArray.size := by
      have := rv.length
      simp
      omega
    subst hl
    exact wpAny_pyNext_enum_endD (Draws.tuple hh it a ait its.toArray) he ⟨hit, p'⟩ fun h' eb => ⟨rfl, I.turned (t' := s.toks) (fun b o hb q => eb b o hb q) f0 f1 f3 f4 f5⟩
  self := fun A i s Q E ⟨⟨_, he⟩, _⟩ h => wpAny_pyIter_enum he h
def iEnumT (K : PySem.W.Frag) (ta : TA) : TI := fun σ H R => ta σ H fun vs H1 => ∃ a xs, vs = [.ref a] ∧ SqT K H1 a xs ∧ R (IteT K a) H1
theorem pi_enumT {X : Cx} {e : Expr} {ta : TA} {p pos tpos : Pos} {elts : List Expr} {kk : Nat} (hg : Gl X "enumerate") (hm : X.mg "enumerate" = none) (ha : PA X [e] ta) (hs : starEach [e] X.env = [(false, eval e X.env)] := by rfl) :
    PI X (.Tuple elts kk tpos) (.Call (.Name "enumerate" p) [e] [] pos) (iEnumT X.K ta) := by
  refine ⟨fun pins s σ H R I h => ?_⟩
  refine Call_ (ld_blt I hg hm boot_enumerate (PyProof.Rows.callWith_type1 (thn (ha.run pos pins s σ H _ I h) fun us s1 ⟨vs, H1, I1, r1, q1⟩ => ?_) hs rfl))
  obtain ⟨a, xs, ex, hq, q⟩ := q1
  subst ex
  cases r1 with
  | cons r rr =>
    cases rr
    cases r
    obtain ⟨its, rv, p', hz⟩ := I1.tuple hq
    have p2 : s1.heap.IsTuple a its.toArray := p'
    refine call_enum1 (begins_tuple a its.toArray) p2 fun h' he hit hk => wpAny_pyIter_enum he ?_
    have I2 : Inv X pins σ H1 { s1 with heap := h' } := I1.kept (t' := s1.toks) hk
    refine ⟨s1.heap.objs.size + 1, [s1.heap.objs.size + 1, s1.heap.objs.size], _, _, H1, rfl, I2, turn_enumT a (s1.heap.objs.size + 1) s1.heap.objs.size, ⟨⟨.none, he⟩, ⟨_, hit, rfl, rfl⟩, Nat.succ_ne_self _⟩, fun b hb => ?_, q⟩
    have hle : s1.heap.objs.size ≤ b := by
      rcases (show b = s1.heap.objs.size + 1 ∨ b = s1.heap.objs.size by simpa using hb) with z | z
      · rw [z]; exact Nat.le_add_right _ _
      · rw [z]; exact Nat.le_refl _
    exact I1.fpOk hle (I1.hok.fresh hle)
/-- for i, x in enumerate(tuple) -/
theorem for_enumT {K : PySem.W.Frag} {a : Addr} {xs : List V} {i1 i2 : Nat} {tb : TS} {D : Ends} {σ : L2.St} {H : Hp} (Pv : Nat → L2.St → Hp → Prop) (h0 : Pv 0 σ H) (hl : ∀ i σ H, i ≤ xs.length → Pv i σ H → SqT K H a xs)
    (hs : ∀ i x σ H, xs[i]? = some x → Pv i σ H → ∀ T, H T = none → tb { D with nx := Pv (i + 1), ct := Pv (i + 1), bk := D.nx } ((σ.set i1 (some (.int (i : Nat)))).set i2 (some x)) (upd H T (.tup [.int (i : Nat), x]))) (hd : ∀ σ H, Pv xs.length σ H → D.nx σ H) :
    ∃ W : Nat → Nat → L2.St → Hp → Prop, (∃ m, W 0 m σ H) ∧ ∀ i m σ H, W i m σ H →
      ((IteT K a).stop i H ∧ D.nx σ H) ∨ ((IteT K a).go i H ∧ ∃ N : L2.St → Hp → Prop, (∀ σ' H', N σ' H' → ∃ m', m' < m ∧ W (i + 1) m' σ' H') ∧ ∀ x H', (IteT K a).yld i H x H' → gTup K 2 (gCons (gName i1) (gCons (gName i2) gNil)) x σ H' fun σ2 H2 => tb { D with nx := N, ct := N, bk := D.nx } σ2 H2) := by
  refine ⟨fun i m σ H => m = xs.length - i ∧ i ≤ xs.length ∧ Pv i σ H, ⟨xs.length, by simp, Nat.zero_le _, h0⟩, ?_⟩
  rintro i m σ H ⟨rfl, hi, p⟩
  have q := hl i σ H hi p
  by_cases hlt : i < xs.length
  · refine .inr ⟨⟨xs, xs[i], q, by simp [hlt]⟩, Pv (i + 1), fun σ' H' p' => ⟨xs.length - (i + 1), by omega, rfl, hlt, p'⟩, fun x H' y => ?_⟩
    obtain ⟨T, z, rfl, nT, rfl, y⟩ := y
    exact ⟨T, _, rfl, SqT.of upd_same, rfl, _, _, rfl, _, _, rfl, rfl, hs i z σ H (y xs q) p T nT⟩
  · have e : i = xs.length := by omega
    subst e
    exact .inl ⟨⟨xs, q, rfl⟩, hd σ H p⟩
/-- [e for a, b in tuple of pairs if p] -/
theorem lc_pairsT {K : PySem.W.Frag} {a : Addr} {ts : List Addr} {cs : List (Int × Int)} {i1 i2 : Nat} {tt : TT} {te : TE} {vs : List Nat} {σ : L2.St} {H1 : Hp} {D : Addr} {Qd : Hp → Prop} (p : Int × Int → Bool) (R : V → Int × Int → Hp → Prop)
    (hR : ∀ y c H H' acc, H D = some (.lst acc) → Kp D H H' → R y c H → R y c H') (hD : H1 D = none) (hL : SqT K H1 a (ts.map V.ref)) (hP : P2 (PrT H1) ts cs) (hsz : cs.length ≤ 100000)
    (hw : ∀ x y, wipe (((wipe σ vs).set i1 x).set i2 y) vs = wipe σ vs)
    (ht : ∀ c ∈ cs, ∀ H Q, Same H1 H → (∀ H', Same H H' → Q (p c) H') → tt (((wipe σ vs).set i1 (some (.int c.1))).set i2 (some (.int c.2))) H Q)
    (he : ∀ c ∈ cs, p c = true → ∀ H Q, Same H1 H → (∀ y H', Same H H' → R y c H' → Q y H') → te (((wipe σ vs).set i1 (some (.int c.1))).set i2 (some (.int c.2))) H Q)
    (hd : ∀ ys H, Same H1 H → H D = some (.lst ys) → P2 (fun y c => R y c H) ys (cs.filter p) → Qd H) : LcG (Itt K a) (gTup K 2 (gCons (gName i1) (gCons (gName i2) gNil))) tt te vs σ H1 D Qd := by
  have hlen := hP.len
  refine lc_tup (K := K) (a := a) (xs := ts.map V.ref) (fun i H => Same H1 H ∧ ∃ ys, H D = some (.lst ys) ∧ P2 (fun y c => R y c H) ys ((cs.take i).filter p)) ⟨same_upd hD, [], upd_same, .nil⟩ (fun i H _ ⟨s, _⟩ => s.seqT hL) ?_ ?_
  · rintro i x H hx ⟨s, ys, hy, py⟩
    rw [List.getElem?_map] at hx
    cases ht' : ts[i]? with
    | none => rw [ht'] at hx; cases hx
    | some t =>
      rw [ht'] at hx
      cases hx
      obtain ⟨c, hc, r⟩ := hP.getl ht'
      have hi : i < cs.length := (List.getElem?_eq_some_iff.mp hc).1
      have ll : ys.length ≤ 100000 := by
        have h1 := py.len
        have h2 := List.length_filter_le p (cs.take i)
        rw [List.length_take] at h2
        omega
      refine ⟨t, _, rfl, SqT.of (s _ _ r), rfl, _, _, rfl, _, _, rfl, rfl, hw _ _, ht c (mem_of_at hc) H _ s fun H2 s2 => ?_⟩
      have py2 := py.mono fun v b rb => hR v b H H2 _ hy s2.kp rb
      have hy2 := s2 _ _ hy
      by_cases hp : p c = true
      · rw [if_pos hp]
        refine he c (mem_of_at hc) hp H2 _ (s.trans s2) fun y H' s' r => ⟨ys, s' _ _ hy2, small_app (Nat.le_refl _) ll, ((s.trans s2).trans s').wr hD, ys ++ [y], upd_same, ?_⟩
        rw [take_snoc hc, List.filter_append, List.filter_cons, if_pos hp, List.filter_nil]
        exact (py2.mono fun v b rb => hR v b H' _ _ (s' _ _ hy2) (kp_upd D H' _) (hR v b H2 H' _ hy2 s'.kp rb)).snoc (hR y c H' _ _ (s' _ _ hy2) (kp_upd D H' _) r)
      · rw [if_neg hp]
        refine ⟨s.trans s2, ys, hy2, ?_⟩
        rw [take_snoc hc, List.filter_append, List.filter_cons, if_neg hp, List.filter_nil, List.append_nil]
        exact py2
  · rintro H ⟨s, ys, hy, py⟩
    rw [List.length_map, hlen, List.take_length] at py
    exact hd ys H s hy py
/-- a class that is made by its name, one default: an empty tuple -/
structure Ini0 (K : PySem.W.Frag) (mg : Str → Option Value) (x qual : Str) (C : Addr) (st : Stmt) : Prop where
  ex : ∃ f fd d, Mk K C f ∧ mg x = some (.ref C) ∧ FunD K "__init__" qual (defArgs st) (defBody st) (defScope st) [.ref d] [] f fd ∧ ∀ H, SqT K H d []
def empB (a : PySem.W.Frag → Addr) (K : PySem.W.Frag) : Bool := match K.lookup (a K) with
  | some ⟨.type c, _, .seq its _, _⟩ => decide (c = "tuple") && its.toList.isEmpty
  | _ => false
theorem empB_ok {a : PySem.W.Frag → Addr} {K : PySem.W.Frag} (h : empB a K = true) : ∀ H, SqT K H (a K) [] := by
  intro H
  unfold empB at h
  split at h
  · rename_i c od its n osl e
    obtain ⟨h1, h2⟩ := He.ba h
    have e2 : its.toList = [] := List.isEmpty_iff.mp h2
    refine .inr ⟨_, its, n, e, by rw [of_decide_eq_true h1], rfl, ?_, by rw [e2]; exact .nil⟩
    have : its.size = 0 := by rw [← Array.length_toList, e2]; rfl
    rw [this]
    exact Nat.zero_le _
  · cases h
/-- a class made without an argument, a default kept -/
theorem pe_mkx0 {X : Cx} {k j : Nat} {C : Addr} {x : Str} {sp : Sp} {dvs : List V} {p pos : Pos} {E : XK} (c : Mak X.prog X.w X.K X.mg X.base k x C sp dvs) (hr : Room j X.A) (hk : k + 1 ≤ j) (hg : Gl X x) (hx : Passes (L2.CX X.prog X.w) X E)
    (hdb : (x == ("__debug__" : Str)) = false := by decide) : PE X (.Call (.Name x p) [] [] pos) (tMake C sp dvs E tNil) := by
  obtain ⟨f, fd, ps, ds, M, F, hm, b, d⟩ := c.ex
  exact pe_make0 M F (hr.mono hk) hg hm b d hx hdb
theorem pi_tupK {X : Cx} (K : PySem.W.Frag) {tg l : Expr} {tl : TE} (hl : PE X l tl) (hk : X.K = K := by rfl) : PI X tg l (iTup K tl) := by
  subst hk
  exact pi_tup hl
end Tr

/-! # Own operators with an int: o + n, n + o, -o. -/
namespace Tr
open PySem PySem.Spec PyProof.Rows L2
/-- what o + n leans on -/
structure IntOp (K : PySem.W.Frag) (C : Addr) (nm : String) : Prop where
  hc : PySem.W.selfFirst K C = true
  hr : ∃ rc, PySem.W.findIn K (.ref C) (dunderR nm) = some rc ∧ (rc = none ∨ ∃ g : Addr, rc = some (.ref g))
  h1 : ∃ fo, PySem.W.findIn K (.type "int") (PySem.dunder nm) = some fo
  h2 : ∃ ro, PySem.W.findIn K (.type "int") (dunderR nm) = some ro
  hs : PySem.W.subIn K (.type "int") (.ref C) = some false
  hs' : PySem.W.subIn K (.ref C) (.type "int") = some false
def intOpB (x : Str) (nm : String) (K : PySem.W.Frag) : Bool :=
  PySem.W.selfFirst K (He.ga K x) && ((match PySem.W.findIn K (.ref (He.ga K x)) (dunderR nm) with
    | some none => true
    | some (some (.ref _)) => true
    | _ => false) && ((PySem.W.findIn K (.type "int") (PySem.dunder nm)).isSome && ((PySem.W.findIn K (.type "int") (dunderR nm)).isSome &&
      (decide (PySem.W.subIn K (.type "int") (.ref (He.ga K x)) = some false) && decide (PySem.W.subIn K (.ref (He.ga K x)) (.type "int") = some false)))))
theorem intOpB_ok {x : Str} {nm : String} {K : PySem.W.Frag} (h : intOpB x nm K = true) : IntOp K (He.ga K x) nm := by
  obtain ⟨h1, h⟩ := He.ba h
  obtain ⟨h2, h⟩ := He.ba h
  obtain ⟨h3, h⟩ := He.ba h
  obtain ⟨h4, h⟩ := He.ba h
  obtain ⟨h5, h6⟩ := He.ba h
  refine ⟨h1, ?_, Option.isSome_iff_exists.mp h3, Option.isSome_iff_exists.mp h4, of_decide_eq_true h5, of_decide_eq_true h6⟩
  split at h2
  · rename_i e
    exact ⟨none, e, .inl rfl⟩
  · rename_i g e
    exact ⟨_, e, .inr ⟨g, rfl⟩⟩
  · cases h2
section
variable {prog : Program} {w : World} {A : Around} {E : Value → Shared → Prop} {s : Shared} {K : PySem.W.Frag} {x C L f f0 : Addr} {h₀ : Heap} {m : Str → Option Value} {ox : Obj} {od : Option Obj}
theorem int_add_no (a : Int) (t : Tok) (x C dx : Addr) : Meets (Builtin.«int.__add__» ⟨[.int a t, .ref x], []⟩) (fun _ R s => s.heap.get? x = some (PySem.W.instObj C dx) ∧ R (.ok (.ret Value.notImplemented)) s) := .of_wp fun prog w A R s h => by
  obtain ⟨hp, g, d, tk, os⟩ := s
  obtain ⟨hl, h⟩ := h
  unfold PySem.W.instObj at hl
  wp_walk
  exact ⟨_, rfl, h⟩
theorem int_mul_no (a : Int) (t : Tok) (x C dx : Addr) : Meets (Builtin.«int.__mul__» ⟨[.int a t, .ref x], []⟩) (fun _ R s => s.heap.get? x = some (PySem.W.instObj C dx) ∧ R (.ok (.ret Value.notImplemented)) s) := .of_wp fun prog w A R s h => by
  obtain ⟨hp, g, d, tk, os⟩ := s
  obtain ⟨hl, h⟩ := h
  unfold PySem.W.instObj at hl
  wp_walk
  exact ⟨_, rfl, h⟩
/-- int op o, by the class's reflected method -/
theorem binop_R {op : Operator} {a : Int} {t : Tok} {id : String} {Q : Value → Shared → Prop} (F : Fr h₀ L s.heap m) (X₀ : K.In h₀) (I : PySem.W.InstAt s.heap x ox C od) (i : IntOp K C op.info.2)
    (hs : PySem.W.findIn K (.ref C) (PySem.dunder op.info.2) = some (some (.ref f0))) (hr : PySem.W.findIn K (.ref C) (dunderR op.info.2) = some (some (.ref f))) (hf : PySem.W.isFn K (.ref f) = true)
    (hfT : fillsNumberSlot (.type "int") op.info.2 = pure true) (sl : Slot "int" (PySem.dunder op.info.2) id) (hd : ∀ E', wpAny (model prog w) A (call (.builtin id) [.int a t, .ref x]) (fun v s' => v = .notImplemented ∧ s' = s) E' s)
    (h : wpAny (model prog w) A (call (.ref f) [.ref x, .int a t]) (PySem.W.CmpBack Q) E s) : wpAny (model prog w) A (binaryOp op (.int a t) (.ref x)) Q E s := by
  have X := X₀.keeps F.keep
  obtain ⟨cd, rest, hcd, hm⟩ := PySem.W.ksp_first i.hc
  have one := PySem.W.ksp_try X I hr hf h
  have two : wpAny (model prog w) A (tryMethod (.int a t) (PySem.dunder op.info.2) (.ref x)) (fun r s' => r = none ∧ s' = s) E s :=
    wpAny_tryMethod_declines (T := "int") rfl sl (wpAny_mono (hd E) (fun v s' q => ⟨q.1, rfl, q.2⟩) fun _ _ z => z)
  rcases hi : op.info with ⟨sym, nm'⟩
  have i' := i
  rw [hi] at hs hr hfT sl one two i'
  dsimp only at hs hr hfT sl one two i'
  have L1 : PySem.W.Looks (model prog w) s.heap (typeOf (.ref x)) (.ref C) := I.type
  have L3 : PySem.W.Looks (model prog w) s.heap (fillsNumberSlot (.ref C) nm') true := PySem.W.fills_K X hcd hm hs
  have L5 : PySem.W.Looks (model prog w) s.heap (isSubtype (.ref C) (.type "int")) false := PySem.W.looks_subIn X i'.hs'
  have hne : (Value.type "int" == Value.ref C) = false := Bool.eq_false_iff.mpr fun q => by cases beq_iff_eq.mp q
  simp only [binaryOp, hi]
  refine wpAny_holding (wpAny_bind ?_)
  unfold binaryOp1
  refine wpAny_bind (wpAny_of_eq (a := Value.type "int") rfl (wpAny_bind (L1.here (wpAny_bind (wpAny_of_eq hfT ?_)))))
  simp only [hne, Bool.false_eq_true, if_false]
  refine wpAny_bind (L3.here ?_)
  simp only [Bool.and_self, if_true]
  refine wpAny_bind (L5.here ?_)
  simp only [Bool.false_eq_true, if_false, Bool.not_false, Bool.and_self, if_true]
  refine wpAny_bind (wpAny_of_eq (a := false) rfl ?_)
  simp only [Bool.false_eq_true, if_false, Bool.not_false, Bool.and_self, if_true]
  refine wpAny_bind (wpAny_mono two (fun r s' q => ?_) fun _ _ z => z)
  obtain ⟨rfl, rfl⟩ := q
  refine wpAny_bind (wpAny_mono one (fun r s' q => ?_) fun _ _ z => z)
  obtain ⟨v, rfl, q⟩ := q
  exact wpAny_bind (wpAny_rule (wpAny_pure (wpAny_pure q)))
end
section
variable {X : Cx} {k : Nat} {C : Addr} {m : Str} {sp : Sp} {E : XK}
/-- o op n -/
def rBinI (C : Addr) (sp : Sp) (E : XK) : R2 := fun x y H Q => ∃ a dx fs i, x = .ref a ∧ y = .int i ∧ H a = some (.ins C dx fs) ∧ sp [x, y] H (fun v H' => ∃ z, v = .ref z ∧ Q (.ref z) H') E
/-- n op o -/
def rBinR (C : Addr) (sp : Sp) (E : XK) : R2 := fun x y H Q => ∃ a dx fs i, x = .int i ∧ y = .ref a ∧ H a = some (.ins C dx fs) ∧ sp [y, x] H (fun v H' => ∃ z, v = .ref z ∧ Q (.ref z) H') E
theorem or_binI {op : Operator} (c : Met X.prog X.w X.K X.mg X.base k C m sp []) (hm : PySem.dunder op.info.2 = m) (i : IntOp X.K C op.info.2) {j : Nat} (hr : Room j X.A) (hk : k ≤ j) (hx : Passes (L2.CX X.prog X.w) X E) : OpR X (binaryOp op) (rBinI C sp E) := by
  subst hm
  obtain ⟨f, fd, ps, ds, hc, hm, F, b, d⟩ := c.ex
  cases d
  intro pins s σ H x y v u Q I rx ry h
  obtain ⟨a, dx, fs, n, rfl, rfl, ha, h⟩ := h
  cases rx
  obtain ⟨tk, rfl⟩ := ry
  obtain ⟨mA, J, _⟩ := ins_get I.hok ha
  obtain ⟨od, J, _⟩ := J.look
  obtain ⟨m, hF⟩ := I.fr
  obtain ⟨rc, hr1, hr2⟩ := i.hr
  obtain ⟨fo, h1⟩ := i.h1
  obtain ⟨ro, h2⟩ := i.h2
  refine PySem.W.ksp_binT (T := "int") hF I.ok.mod.kin J rfl i.hc hm.at_ hm.fn hr1 hr2 h1 h2 i.hs ?_
  refine wpAny_mono (run_at F (hr.mono hk) rfl b hx I (us := [.ref a, .int n tk]) (vs := [.ref a, .int n]) (.cons rfl (.cons ⟨_, rfl⟩ .nil)) h) (fun r s' q => ?_) fun _ _ z => z
  obtain ⟨z, H', I', rz, b', rfl, q⟩ := q
  cases rz
  exact ⟨.ref b', H', I', rfl, q⟩
/-- the left int's own method says no -/
structure IntNo (op : Operator) : Prop where
  fills : fillsNumberSlot (.type "int") op.info.2 = pure true
  ex : ∃ id b, Slot "int" (PySem.dunder op.info.2) id ∧ entryFor table id = some b ∧ (∀ x y, argsOk id ⟨[x, y], []⟩) ∧ ∀ (a : Int) (t : Tok) (x C dx : Addr), Meets (b ⟨[.int a t, .ref x], []⟩) (fun _ R s => s.heap.get? x = some (PySem.W.instObj C dx) ∧ R (.ok (.ret Value.notImplemented)) s)
theorem intNo_add : IntNo .Add := ⟨F.fills_int_add, _, _, F.slot_int_add, F.entry_int_add, F.args_int_add_2, int_add_no⟩
theorem intNo_mul : IntNo .Mult := ⟨F.fills_int_mul, _, _, F.slot_int_mul, F.entry_int_mul, F.args_int_mul_2, int_mul_no⟩
theorem or_binR {op : Operator} {m0 : Str} {sp0 : Sp} {k0 : Nat} (c : Met X.prog X.w X.K X.mg X.base k C m sp []) (c0 : Met X.prog X.w X.K X.mg X.base k0 C m0 sp0 []) (hm : dunderR op.info.2 = m) (hm0 : PySem.dunder op.info.2 = m0) (i : IntOp X.K C op.info.2) (no : IntNo op) {j : Nat} (hr : Room j X.A) (hk : k ≤ j) (hx : Passes (L2.CX X.prog X.w) X E) : OpR X (binaryOp op) (rBinR C sp E) := by
  subst hm hm0
  obtain ⟨f0, _, _, _, _, hm0, _, _, _⟩ := c0.ex
  obtain ⟨f, fd, ps, ds, hc, hm, F, b, d⟩ := c.ex
  cases d
  intro pins s σ H x y v u Q I rx ry h
  obtain ⟨a, dx, fs, n, rfl, rfl, ha, h⟩ := h
  obtain ⟨tk, rfl⟩ := rx
  cases ry
  obtain ⟨mA, J0, _⟩ := ins_get I.hok ha
  obtain ⟨od, J, _⟩ := J0.look
  obtain ⟨m, hF⟩ := I.fr
  obtain ⟨fills, id, bb, sl, en, ar, me⟩ := no
  refine binop_R hF I.ok.mod.kin J i hm0.at_ hm.at_ hm.fn fills sl (fun E' => ?_) ?_
  · exact call_meets sl (show s.TypeIs (.int n tk) "int" from rfl) en (ar _ _) (me n tk a C dx) ⟨J0.obj, rfl, rfl⟩
  · refine wpAny_mono (run_at F (hr.mono hk) rfl b hx I (us := [.ref a, .int n tk]) (vs := [.ref a, .int n]) (.cons rfl (.cons ⟨_, rfl⟩ .nil)) h) (fun r s' q => ?_) fun _ _ z => z
    obtain ⟨z, H', I', rz, b', rfl, q⟩ := q
    cases rz
    exact ⟨.ref b', H', I', rfl, q⟩
/-- -o -/
def rNegO (C : Addr) (sp : Sp) (E : XK) (x : V) (H : Hp) (Q : VK) : Prop := ∃ a dx fs, x = .ref a ∧ H a = some (.ins C dx fs) ∧ sp [x] H Q E
theorem pe_unO {u : UnaryOp} {j : Nat} {e : Expr} {ta : TE} {pos : Pos} (c : Met X.prog X.w X.K X.mg X.base k C m sp []) (hu : (u = .USub ∧ m = "__neg__") ∨ (u = .Invert ∧ m = "__invert__")) (hr : Room j X.A) (hk : k ≤ j) (hx : Passes (L2.CX X.prog X.w) X E) (ha : PE X e ta) :
    PE X (.UnaryOp u e pos) (fun σ H Q => ta σ H fun x H1 => rNegO C sp E x H1 Q) := by
  obtain ⟨f, fd, ps, ds, hc, hm, F, b, d⟩ := c.ex
  cases d
  refine ⟨fun pins s σ H Q I h => ?_⟩
  refine UnaryOp_ (thn (ha.run pins s σ H _ I h) fun v s1 ⟨x, H1, I1, r1, a, dx, fs, ex, ea, q1⟩ => ?_)
  subst ex
  cases r1
  obtain ⟨mA, J, _⟩ := ins_get I1.hok ea
  obtain ⟨od, J, _⟩ := J.look
  obtain ⟨m, hF⟩ := I1.fr
  have go := run_at (A := X.A) F (hr.mono hk) rfl b hx I1 (us := [.ref a]) (vs := [.ref a]) (.cons rfl .nil) q1
  rcases hu with ⟨rfl, rfl⟩ | ⟨rfl, rfl⟩
  · exact PySem.W.ksp_neg hF I1.ok.mod.kin J hm.at_ hm.fn go
  · exact PySem.W.ksp_inv hF I1.ok.mod.kin J hm.at_ hm.fn go
end
end Tr

/-! # min, max of a list of ints with a default. -/
namespace Tr
open PySem PySem.Spec PyProof.Rows L2 PySem.W
def rMinD (K : PySem.W.Frag) : List V → List V → Hp → VK → Prop := fun vs zs H Q => ∃ (a : Addr) (ns : List Int) (d : V), vs = [V.ref a] ∧ zs = [d] ∧ SqL K H a (ns.map V.int) ∧ (ns = [] → Q d H) ∧ ∀ m, m ∈ ns → (∀ y, y ∈ ns → m ≤ y) → Q (.int m) H
def rMaxD (K : PySem.W.Frag) : List V → List V → Hp → VK → Prop := fun vs zs H Q => ∃ (a : Addr) (ns : List Int) (d : V), vs = [V.ref a] ∧ zs = [d] ∧ SqL K H a (ns.map V.int) ∧ (ns = [] → Q d H) ∧ ∀ m, m ∈ ns → (∀ y, y ∈ ns → y ≤ m) → Q (.int m) H
theorem reads_ints {h : Heap} {ns : List Int} {its : List Value} (r : Vals (ns.map V.int) its) : ReadsAll h its (ns.map PyData.int) [] := by
  induction ns generalizing its with
  | nil =>
    cases r
    exact .nil
  | cons n ns ih =>
    cases r with
    | cons r rr =>
      obtain ⟨t, rfl⟩ := r
      exact .cons (as := []) (.int n t) (ih rr)
theorem alike_ints (ns : List Int) : AlikeAll (ns.map PyData.int) := by
  refine ⟨fun x hx y hy => ?_, fun x hx => ?_⟩
  · obtain ⟨a, _, rfl⟩ := List.mem_map.mp hx
    obtain ⟨b, _, rfl⟩ := List.mem_map.mp hy
    rfl
  · obtain ⟨a, _, rfl⟩ := List.mem_map.mp hx
    intro z
    cases z
theorem depth_ints0 : ∀ ns : List Int, PyData.depthAll (ns.map PyData.int) ≤ 0
  | [] => Nat.zero_le _
  | c :: cs => by
    have h := depth_ints0 cs
    show max 0 (PyData.depthAll (cs.map PyData.int)) ≤ 0
    omega
theorem fold_min (n : Int) : ∀ ns : List Int, (ns.foldl min n) ∈ n :: ns ∧ ∀ y ∈ n :: ns, ns.foldl min n ≤ y := by
  intro ns
  induction ns generalizing n with
  | nil => exact ⟨List.mem_cons_self, fun y hy => by rw [List.mem_singleton.mp hy]; exact Int.le_refl _⟩
  | cons k r ih =>
    obtain ⟨h1, h2⟩ := ih (min n k)
    rw [List.foldl_cons]
    have h3 := h2 _ List.mem_cons_self
    refine ⟨?_, fun y hy => ?_⟩
    · rcases List.mem_cons.mp h1 with e | h
      · rw [e]
        rcases Int.le_total n k with z | z
        · rw [Int.min_eq_left z]; exact List.mem_cons_self
        · rw [Int.min_eq_right z]; exact List.mem_cons_of_mem _ List.mem_cons_self
      · exact List.mem_cons_of_mem _ (List.mem_cons_of_mem _ h)
    · rcases List.mem_cons.mp hy with rfl | hy
      · omega
      · rcases List.mem_cons.mp hy with rfl | hy
        · omega
        · exact h2 y (List.mem_cons_of_mem _ hy)
theorem fold_max (n : Int) : ∀ ns : List Int, (ns.foldl max n) ∈ n :: ns ∧ ∀ y ∈ n :: ns, y ≤ ns.foldl max n := by
  intro ns
  induction ns generalizing n with
  | nil => exact ⟨List.mem_cons_self, fun y hy => by rw [List.mem_singleton.mp hy]; exact Int.le_refl _⟩
  | cons k r ih =>
    obtain ⟨h1, h2⟩ := ih (max n k)
    rw [List.foldl_cons]
    have h3 := h2 _ List.mem_cons_self
    refine ⟨?_, fun y hy => ?_⟩
    · rcases List.mem_cons.mp h1 with e | h
      · rw [e]
        rcases Int.le_total n k with z | z
        · rw [Int.max_eq_right z]; exact List.mem_cons_of_mem _ List.mem_cons_self
        · rw [Int.max_eq_left z]; exact List.mem_cons_self
      · exact List.mem_cons_of_mem _ (List.mem_cons_of_mem _ h)
    · rcases List.mem_cons.mp hy with rfl | hy
      · omega
      · rcases List.mem_cons.mp hy with rfl | hy
        · omega
        · exact h2 y (List.mem_cons_of_mem _ hy)
theorem cr_minD {X : Cx} (hc : X.calm = true) (hu : X.A.units + 64 < cLine) : CallRK X (.builtin "min") ["default"] (rMinD X.K) := by
  intro pins s σ H xs zs us ws Q I r rz h
  obtain ⟨a, ns, d, rfl, rfl, hs, q0, q⟩ := h
  obtain ⟨its, rv, hl, _⟩ := I.list hs
  rw [Vals.ref1 r]
  cases rz with
  | cons rd rr =>
    cases rr
    refine min_list_default (I.ok.hd hc) hl.isList (by simpa using reads_ints rv) (alike_ints ns) ?_ (fun e h' tk hk => ?_) fun y ys i v h' tk bs e hv hr hk => ?_
    · have := depth_ints0 ns
      omega
    · exact ⟨d, H, I.kept hk, rd, q0 (by cases ns with | nil => rfl | cons _ _ => cases e)⟩
    · cases ns with
      | nil => cases e
      | cons n ns =>
        rw [List.map_cons] at e
        injection e with e1 e2
        subst e1 e2
        rw [minD_ints] at hr
        cases hr
        obtain ⟨m1, m2⟩ := fold_min n ns
        exact ⟨.int _, H, I.kept hk, ⟨_, rfl⟩, q _ m1 m2⟩
theorem cr_maxD {X : Cx} (hc : X.calm = true) (hu : X.A.units + 64 < cLine) : CallRK X (.builtin "max") ["default"] (rMaxD X.K) := by
  intro pins s σ H xs zs us ws Q I r rz h
  obtain ⟨a, ns, d, rfl, rfl, hs, q0, q⟩ := h
  obtain ⟨its, rv, hl, _⟩ := I.list hs
  rw [Vals.ref1 r]
  cases rz with
  | cons rd rr =>
    cases rr
    refine max_list_default (I.ok.hd hc) hl.isList (by simpa using reads_ints rv) (alike_ints ns) ?_ (fun e h' tk hk => ?_) fun y ys i v h' tk bs e hv hr hk => ?_
    · have := depth_ints0 ns
      omega
    · exact ⟨d, H, I.kept hk, rd, q0 (by cases ns with | nil => rfl | cons _ _ => cases e)⟩
    · cases ns with
      | nil => cases e
      | cons n ns =>
        rw [List.map_cons] at e
        injection e with e1 e2
        subst e1 e2
        rw [maxD_ints] at hr
        cases hr
        obtain ⟨m1, m2⟩ := fold_max n ns
        exact ⟨.int _, H, I.kept hk, ⟨_, rfl⟩, q _ m1 m2⟩
end Tr

/-! # Constants of the module and of classes; comprehensions over any walk. -/
namespace Tr
open PySem PySem.Spec PyProof.Rows L2
/-- the module's name x holds the constant v -/
def GCon (mg : Str → Option Value) (x : Str) (v : V) : Prop := ∃ u, mg x = some u ∧ RelV v u
theorem gconS {mg : Str → Option Value} {x z : Str} (h : ∃ t, mg x = some (.str z t)) : GCon mg x (.str z) :=
  let ⟨t, e⟩ := h
  ⟨_, e, ⟨t, rfl⟩⟩
theorem gconI {mg : Str → Option Value} {x : Str} {i : Int} (h : ∃ t, mg x = some (.int i t)) : GCon mg x (.int i) :=
  let ⟨t, e⟩ := h
  ⟨_, e, ⟨t, rfl⟩⟩
theorem pe_gcon {X : Cx} {x : Str} {v : V} {pos : Pos} (h : GCon X.mg x v) (hg : Gl X x) (hd : (x == ("__debug__" : Str)) = false := by decide) : PE X (.Name x pos) (tC v) := by
  obtain ⟨u, hm, r⟩ := h
  exact pe_glob hg hm r hd
/-- C.f is the constant v -/
def CCon (K : PySem.W.Frag) (C : Addr) (f : Str) (v : V) : Prop := ∃ u, ClX.CRead K C (.type "type") ∧ ClX.CVal K C (.type "type") f v u
/-- e.f, e the class at C -/
def tCCon (C : Addr) (v : V) (ta : TE) : TE := fun σ H Q => ta σ H fun x H1 => x = .ref C ∧ Q v H1
theorem pe_ccon {X : Cx} {C : Addr} {e : Expr} {ta : TE} {f : Str} {v : V} {pos : Pos} (h : CCon X.K C f v) (he : PE X e ta) (hb : attributeBase e f X.env (eval e X.env) = eval e X.env := by rfl) : PE X (.Attribute e f pos) (tCCon C v ta) := by
  obtain ⟨w, r, k⟩ := h
  refine ⟨fun pins s σ H Q I h => ?_⟩
  refine attr_of hb (thn (he.run pins s σ H _ I h) fun u s1 ⟨x, H1, I1, rx, ex, q⟩ => ?_)
  subst ex
  obtain rfl : u = Value.ref C := rx
  exact ClX.getcval_ok I1 r k fun s2 I2 => ⟨v, H1, I2, k.rel, q⟩
theorem funD0 {K : PySem.W.Frag} {x qual : Str} {st : Stmt} {f : Addr} {fd : FuncData} (F : FunD K x qual (defArgs st) (defBody st) (defScope st) [] [] f fd) : Fun K x qual st f fd := by
  obtain ⟨oc, od, dV, kV, doc, pm, an, cdv, ct, osl, e, lk, hcd, hD, _⟩ := F.ex
  rcases hD with ⟨_, rfl⟩ | ⟨e, _⟩
  · exact ⟨⟨oc, od, kV, doc, pm, an, cdv, ct, osl, e, lk, hcd⟩, F.kp⟩
  · exact absurd rfl e
/-- a class method -/
structure Cmt (K : PySem.W.Frag) (C : Addr) (m qual : Str) (st : Stmt) : Prop where
  ex : ∃ p g fd, (ClX.CRead K C (.type "type") ∧ ClX.CMet K C (.type "type") m p g) ∧ Fun K m qual st g fd
/-- a class method that may be called -/
structure Cme (P : Program) (w : World) (K : PySem.W.Frag) (mg : Str → Option Value) (base : Heap) (k : Nat) (C : Addr) (m : Str) (sp : Sp) : Prop where
  ex : ∃ (p g : Addr), ClX.CRead K C (.type "type") ∧ ClX.CMet K C (.type "type") m p g ∧ FnR P w K mg base (L2.CX P w) k g sp
section
variable {P : Program} {w : World} {K : PySem.W.Frag} {mg : Str → Option Value} {base : Heap}
theorem cmeN {m qual : Str} {C : Addr} {st : Stmt} {N ps : List Str} {k : Nat} {sp : Sp} (D : Cmt K C m qual st) (S : FnScope N ps (defScope st)) (len : ∀ vs H Q E, sp vs H Q E → vs.length = ps.length)
    (hb : ∀ (kV doc pm : Value) (an : Option Addr) (cdv ct : Value) (us : List Value), us.length = ps.length → bindArgs (PySem.W.fnOf m qual (defArgs st) (defBody st) (defScope st) .none kV doc pm an cdv ct) ⟨us, []⟩ = pure (ps.zip us))
    (hbody : ∀ (f : Addr) (cdv : Value) (A : Around) (outer : List Env) (s : Shared) (H : Hp) (vs : List V) (Q : VK) (E : XK), Room k (A.deeper (envOfC qual (defScope st) s.heap.objs.size f cdv)) → sp vs H Q E →
      ∃ t, PSs (cxOf (L2.CX P w) P w K mg base N qual (defScope st) f cdv A outer s H E).nox (defBody st) t ∧ t { nx := fun _ H' => Q .non H', rt := Q } (start N vs) H) : Cme P w K mg base (k + 1) C m sp :=
  let ⟨p, g, fd, ⟨r, c⟩, F⟩ := D.ex
  ⟨p, g, r, c, ((okN F S len (hbody g)).raw (F.binds hb) .nil).imp fun vs H Q E h => by rw [List.append_nil]; exact h⟩
theorem cmeX {m qual : Str} {C : Addr} {st : Stmt} {N ps : List Str} {k : Nat} {sp : Sp} (D : Cmt K C m qual st) (S : FnScope N ps (defScope st)) (len : ∀ vs H Q E, sp vs H Q E → vs.length = ps.length)
    (hb : ∀ (kV doc pm : Value) (an : Option Addr) (cdv ct : Value) (us : List Value), us.length = ps.length → bindArgs (PySem.W.fnOf m qual (defArgs st) (defBody st) (defScope st) .none kV doc pm an cdv ct) ⟨us, []⟩ = pure (ps.zip us))
    (hbody : ∀ (f : Addr) (cdv : Value) (A : Around) (outer : List Env) (s : Shared) (H : Hp) (vs : List V) (Q : VK) (E : XK), Room k (A.deeper (envOfC qual (defScope st) s.heap.objs.size f cdv)) → sp vs H Q E →
      ∃ t, PSs (cxOf (L2.CX P w) P w K mg base N qual (defScope st) f cdv A outer s H E) (defBody st) t ∧ t { nx := fun _ H' => Q .non H', rt := Q } (start N vs) H) : Cme P w K mg base (k + 1) C m sp :=
  let ⟨p, g, fd, ⟨r, c⟩, F⟩ := D.ex
  ⟨p, g, r, c, ((F.okX S len (hbody g)).raw (F.binds hb) .nil).imp fun vs H Q E h => by rw [List.append_nil]; exact h⟩
end
/-- C.m(e, ..), m a class method -/
theorem pe_cme {X : Cx} {k j : Nat} {C : Addr} {m : Str} {sp : Sp} {pos apos : Pos} {e o : Expr} {es : List Expr} {ta : TE} {t : TA} {E : XK} {pl : Sem Bool} (c : Cme X.prog X.w X.K X.mg X.base k C m sp) (hr : Room j X.A) (hk : k ≤ j) (hx : Passes (L2.CX X.prog X.w) X E) (he : PE X o ta) (ha : PA X (e :: es) t)
    (hst : starEach (e :: es) X.env = (false, eval e X.env) :: starEach es X.env := by rfl) (hpl : (backTo pos (starEach es X.env)).any (·.1) = false := by rfl)
    (ht : eval (.Call (.Attribute o m apos) (e :: es) [] pos) X.env = (do
      let ov ← eval o X.env
      standAt apos.atName
      let (f, first) ← holding [ov] (getMethod ov m pl)
      callWith pos f first (backTo pos (starEach (e :: es) X.env)) (backToKw pos (keywordEach [] X.env))) := by rfl) :
    PE X (.Call (.Attribute o m apos) (e :: es) [] pos) (ClX.tCMeth C sp E ta t) := by
  obtain ⟨p, g, r, cm, F⟩ := c.ex
  exact ClX.pe_cmeth (pl := pl) he r cm F (hr.mono hk) hx ha hst hpl ht
/-- any comprehension over a walk of items of cs -/
theorem lc_gen {α : Type} {J : It} {G : Hp → Prop} {Y : Nat → Hp → V → Hp → Prop} {cs : List α} {g : TG} {tt : TT} {te : TE} {vs : List Nat} {σ : L2.St} {H1 : Hp} {D : Addr} {Qd : Hp → Prop} (w : Walk J cs.length G Y) (S : α → L2.St) (p : α → Bool) (R : V → α → Hp → Prop)
    (hR : ∀ y c H H' acc, H D = some (.lst acc) → Kp D H H' → R y c H → R y c H') (hD : H1 D = none) (hsz : cs.length ≤ 100000)
    (hG : ∀ H, Same H1 H → G H)
    (hY : ∀ i H x H' c, cs[i]? = some c → Same H1 H → Y i H x H' → Same H H' ∧ ∀ Q : L2.St → Hp → Prop, Q (S c) H' → g x (wipe σ vs) H' Q)
    (hw : ∀ c ∈ cs, wipe (S c) vs = wipe σ vs)
    (ht : ∀ c ∈ cs, ∀ H Q, Same H1 H → (∀ H', Same H H' → Q (p c) H') → tt (S c) H Q)
    (he : ∀ c ∈ cs, p c = true → ∀ H Q, Same H1 H → (∀ y H', Same H H' → R y c H' → Q y H') → te (S c) H Q)
    (hd : ∀ ys H, Same H1 H → H D = some (.lst ys) → P2 (fun y c => R y c H) ys (cs.filter p) → Qd H) : LcG J g tt te vs σ H1 D Qd := by
  refine lc_it w (fun i H => Same H1 H ∧ ∃ ys, H D = some (.lst ys) ∧ P2 (fun y c => R y c H) ys ((cs.take i).filter p)) ⟨same_upd hD, [], upd_same, .nil⟩ (fun i H _ ⟨s, _⟩ => hG H s) ?_ ?_
  · rintro i x H H0 hi ⟨s, ys, hy, py⟩ hyl
    have hc : cs[i]? = some cs[i] := List.getElem?_eq_getElem hi
    generalize cs[i] = c at hc
    obtain ⟨s0, hg⟩ := hY i H x H0 c hc s hyl
    have ll : ys.length ≤ 100000 := by
      have h1 := py.len
      have h2 := List.length_filter_le p (cs.take i)
      rw [List.length_take] at h2
      omega
    refine hg _ ⟨hw c (mem_of_at hc), ht c (mem_of_at hc) H0 _ (s.trans s0) fun H2 s2' => ?_⟩
    have s2 := s0.trans s2'
    have py2 := py.mono fun v b rb => hR v b H H2 _ hy s2.kp rb
    have hy2 := s2 _ _ hy
    by_cases hp : p c = true
    · rw [if_pos hp]
      refine he c (mem_of_at hc) hp H2 _ (s.trans s2) fun y H' s' r => ⟨ys, s' _ _ hy2, small_app (Nat.le_refl _) ll, ((s.trans s2).trans s').wr hD, ys ++ [y], upd_same, ?_⟩
      rw [take_snoc hc, List.filter_append, List.filter_cons, if_pos hp, List.filter_nil]
      exact (py2.mono fun v b rb => hR v b H' _ _ (s' _ _ hy2) (kp_upd D H' _) (hR v b H2 H' _ hy2 s'.kp rb)).snoc (hR y c H' _ _ (s' _ _ hy2) (kp_upd D H' _) r)
    · rw [if_neg hp]
      refine ⟨s.trans s2, ys, hy2, ?_⟩
      rw [take_snoc hc, List.filter_append, List.filter_cons, if_neg hp, List.filter_nil, List.append_nil]
      exact py2
  · rintro H ⟨s, ys, hy, py⟩
    rw [List.take_length] at py
    exact hd ys H s hy py
/-- a text's signs, as a walk of items -/
theorem walk_txt {z : Str} : Walk (Its z) (TL.tl z).length (fun _ => True) (fun i H v H' => H' = H ∧ ∃ c, (TL.tl z)[i]? = some c ∧ v = .str ⟨#[c]⟩) := by
  have e : (TL.tl z).length = z.cps.size := Array.length_toList
  rw [e]
  refine walk_str.mono (fun _ h => h) fun i H x H' hi _ y => ⟨y.1, ?_⟩
  obtain ⟨c, h1, h2⟩ := y.2
  exact ⟨c, by show z.cps.toList[i]? = _; rw [Array.getElem?_toList]; exact h1, h2⟩
/-! ### facts of the head -/
def creadB (x : Str) (K : PySem.W.Frag) : Bool := PySem.W.readsIn K (He.ga K x) (.type "type") && He.eqO (PySem.W.specialIn K (.ref (He.ga K x)) "__getattribute__") (some (some (.builtin "type.__getattribute__")))
theorem creadB_ok {x : Str} {K : PySem.W.Frag} (h : creadB x K = true) : ClX.CRead K (He.ga K x) (.type "type") := by
  obtain ⟨h1, h2⟩ := He.ba h
  exact ⟨h1, He.eqO_ok h2⟩
def cvalB (r : Option PySem.W.CFound) (v : V) : Bool := match r with
  | some (.val u) => He.relB v u
  | _ => false
def cconB (x f : Str) (v : V) (K : PySem.W.Frag) : Bool := creadB x K && cvalB (PySem.W.findCls K (.ref (He.ga K x)) (.type "type") f) v
theorem cconB_ok {x f : Str} {v : V} {K : PySem.W.Frag} (h : cconB x f v K = true) : CCon K (He.ga K x) f v := by
  obtain ⟨h1, h2⟩ := He.ba h
  unfold cvalB at h2
  split at h2
  · rename_i u e
    exact ⟨u, creadB_ok h1, e, He.relB_ok h2⟩
  · cases h2
def cmfB (r : Option PySem.W.CFound) (p C : Addr) : Bool := match r with
  | some (.get (.builtin b) (.ref q) .none (.ref D)) => decide (b = "classmethod.__get__") && (decide (q = p) && decide (D = C))
  | _ => false
def gofC (K : PySem.W.Frag) (p : Addr) : Addr := match PySem.W.recIn K p "classmethod" with
  | some (.ref g :: _) => g
  | _ => 0
def cmB (x m : Str) (K : PySem.W.Frag) : Bool := creadB x K && (cmfB (PySem.W.findCls K (.ref (He.ga K x)) (.type "type") m) (He.ma K (He.ga K x) m) (He.ga K x) && ((match PySem.W.recIn K (He.ma K (He.ga K x) m) "classmethod" with
    | some (.ref _ :: _) => true
    | _ => false) && PySem.W.fnIn K (gofC K (He.ma K (He.ga K x) m))))
theorem cmB_ok {x m : Str} {K : PySem.W.Frag} (h : cmB x m K = true) : ClX.CRead K (He.ga K x) (.type "type") ∧ ClX.CMet K (He.ga K x) (.type "type") m (He.ma K (He.ga K x) m) (gofC K (He.ma K (He.ga K x) m)) := by
  obtain ⟨h1, h⟩ := He.ba h
  obtain ⟨h2, h⟩ := He.ba h
  obtain ⟨h3, h4⟩ := He.ba h
  refine ⟨creadB_ok h1, ?_, ?_, h4⟩
  · unfold cmfB at h2
    split at h2
    · rename_i b q D e
      obtain ⟨k1, k⟩ := He.ba h2
      obtain ⟨k2, k3⟩ := He.ba k
      rw [e, of_decide_eq_true k1, of_decide_eq_true k2, of_decide_eq_true k3]
    · cases h2
  · unfold gofC
    split at h3
    · rename_i g r e
      rw [e]
      exact ⟨r, rfl⟩
    · cases h3
end Tr

/-! # Slices with a step, of lists and tuples; parts that may be None. -/
namespace Tr
open PySem PySem.Spec PyProof.Rows L2 HT
theorem same_made {H : Hp} {x dx : Addr} {o o2 : HO} (nx : H x = none) (ndx : H dx = none) : Same H (upd (upd H dx o2) x o) := fun b u e => by
  rw [upd_ne (ne_of_none e nx), upd_ne (ne_of_none e ndx)]
  exact e
theorem mk_same {H H' : Hp} {x dx : Addr} {o o2 : HO} (k : ∀ b u, upd (upd H dx o2) x o b = some u → b ≠ x → H' b = some u) (nx : H x = none) (ndx : H dx = none) : Same H H' := fun b u e => k b u (same_made nx ndx _ _ e) (ne_of_none e nx)
/-- first place, step, number of places -/
def slB (lo hi st : Option Int) (n : Nat) : Int × Int × Nat := ((Builtin.Slice.sliceAdjust lo hi (st.getD 1) (n : Int)).1, st.getD 1, Builtin.Slice.slicePlaces (Builtin.Slice.sliceAdjust lo hi (st.getD 1) (n : Int)).1 (Builtin.Slice.sliceAdjust lo hi (st.getD 1) (n : Int)).2 (st.getD 1))
def slP {α : Type} (xs : List α) (b : Int × Int × Nat) : List α := (List.range b.2.2).filterMap fun (m : Nat) => xs[(b.1 + (m : Int) * b.2.1).toNat]?
/-- xs[lo:hi:st] -/
def slV {α : Type} (xs : List α) (lo hi st : Option Int) : List α := slP xs (slB lo hi st xs.length)
theorem slV_map {α β : Type} (f : α → β) (xs : List α) (lo hi st : Option Int) : slV (xs.map f) lo hi st = (slV xs lo hi st).map f := by
  unfold slV slP
  rw [List.length_map, List.map_filterMap]
  congr 1
  funext m
  rw [List.getElem?_map]
theorem slV_mem {α : Type} {xs : List α} {lo hi st : Option Int} {x : α} (h : x ∈ slV xs lo hi st) : x ∈ xs := by
  unfold slV slP at h
  obtain ⟨m, _, e⟩ := List.mem_filterMap.mp h
  exact List.mem_of_getElem? e
theorem slV_len {α : Type} (xs : List α) (lo hi st : Option Int) : (slV xs lo hi st).length ≤ (slB lo hi st xs.length).2.2 := by
  unfold slV slP
  exact Nat.le_trans (List.length_filterMap_le _ _) (by rw [List.length_range]; exact Nat.le_refl _)
theorem P2.sl {α β : Type} {R : α → β → Prop} {l : List α} {m : List β} (h : P2 R l m) (lo hi st : Option Int) : P2 R (slV l lo hi st) (slV m lo hi st) := by
  unfold slV
  rw [h.len]
  generalize slB lo hi st m.length = b
  unfold slP
  generalize b.2.2 = k
  induction k with
  | zero => exact .nil
  | succ k ih =>
    rw [List.range_succ, List.filterMap_append, List.filterMap_append]
    refine ih.app ?_
    rw [List.filterMap_cons, List.filterMap_cons, List.filterMap_nil, List.filterMap_nil]
    cases e : l[(b.1 + (k : Int) * b.2.1).toNat]? with
    | none =>
      have : m[(b.1 + (k : Int) * b.2.1).toNat]? = none := by
        rw [List.getElem?_eq_none_iff] at e ⊢
        rw [← h.len]
        exact e
      rw [this]
      exact .nil
    | some x =>
      obtain ⟨y, ey, r⟩ := h.getl e
      rw [ey]
      exact .cons r .nil
theorem slB_eq (lo hi st : Option Int) (n : Nat) (h0 : st ≠ some 0) :
    (sliceRange (sliceBounds lo hi st n).1 (sliceBounds lo hi st n).2.1 (sliceBounds lo hi st n).2.2) = (List.range (slB lo hi st n).2.2).map fun (m : Nat) => ((slB lo hi st n).1 + (m : Int) * (slB lo hi st n).2.1).toNat := by
  have hs : st.getD 1 ≠ 0 := by
    cases st with
    | none => decide
    | some i => exact fun z => h0 (by show some i = some 0; rw [show i = 0 from z])
  have b1 : (sliceBounds lo hi st n).1 = (slB lo hi st n).1 := by
    unfold sliceBounds slB Builtin.Slice.sliceAdjust
    dsimp only
    generalize st.getD 1 = c at hs
    by_cases hc : c > 0
    · have : ¬ c < 0 := by omega
      simp only [hc, this, if_true, if_false]
      cases lo with
      | none => rfl
      | some v => dsimp only; split <;> omega
    · have : c < 0 := by omega
      simp only [hc, this, if_true, if_false]
      cases lo with
      | none => rfl
      | some v => dsimp only; split <;> omega
  have b2 : (sliceBounds lo hi st n).2.1 = (Builtin.Slice.sliceAdjust lo hi (st.getD 1) (n : Int)).2 := by
    unfold sliceBounds Builtin.Slice.sliceAdjust
    dsimp only
    generalize st.getD 1 = c at hs
    by_cases hc : c > 0
    · have : ¬ c < 0 := by omega
      simp only [hc, this, if_true, if_false]
      cases hi with
      | none => rfl
      | some v => dsimp only; split <;> omega
    · have : c < 0 := by omega
      simp only [hc, this, if_true, if_false]
      cases hi with
      | none => rfl
      | some v => dsimp only; split <;> omega
  have b3 : (sliceBounds lo hi st n).2.2 = st.getD 1 := rfl
  have e1 : (slB lo hi st n).1 = (Builtin.Slice.sliceAdjust lo hi (st.getD 1) (n : Int)).1 := rfl
  have e2 : (slB lo hi st n).2.1 = st.getD 1 := rfl
  have e3 : (slB lo hi st n).2.2 = Builtin.Slice.slicePlaces (Builtin.Slice.sliceAdjust lo hi (st.getD 1) (n : Int)).1 (Builtin.Slice.sliceAdjust lo hi (st.getD 1) (n : Int)).2 (st.getD 1) := rfl
  rw [b1, b2, b3, e3, ← e1, e2]
  generalize (slB lo hi st n).1 = a
  generalize (Builtin.Slice.sliceAdjust lo hi (st.getD 1) (n : Int)).2 = b
  generalize st.getD 1 = c at hs
  unfold sliceRange Builtin.Slice.slicePlaces
  dsimp only
  have ec : (if c > 0 then (if a < b then (b - a + c - 1) / c else 0) else (if a > b then (a - b - c - 1) / (-c) else 0)) = (if c > 0 then (if a < b then (b - a - 1) / c + 1 else 0) else (if a > b then (a - b - 1) / (-c) + 1 else 0)) := by
    split
    · split
      · rw [show b - a + c - 1 = (b - a - 1) + c by omega, Int.add_ediv_of_dvd_right ⟨1, (Int.mul_one c).symm⟩, Int.ediv_self hs]
      · rfl
    · split
      · rw [show a - b - c - 1 = (a - b - 1) + (-c) by omega, Int.add_ediv_of_dvd_right ⟨1, (Int.mul_one (-c)).symm⟩, Int.ediv_self (by omega)]
      · rfl
  rw [ec]
  congr 1
  funext k
  rw [Int.mul_comm]
theorem slicePick_eq (items : Array Value) (lo hi st : Option Int) (h0 : st ≠ some 0) : slicePick items lo hi st = (slV items.toList lo hi st).toArray := by
  unfold slicePick slV slP
  rw [slB_eq lo hi st items.size h0, List.filterMap_map, Array.length_toList]
  congr 2
  funext m
  show items[_]? = items.toList[_]?
  rw [Array.getElem?_toList]
/-- none of the places is beyond the ends -/
theorem slV_le {α : Type} (xs : List α) (lo hi st : Option Int) (h0 : st ≠ some 0) : (slV xs lo hi st).length ≤ xs.length := by
  have h := slB_eq lo hi st xs.length h0
  have h2 : (slV xs lo hi st) = (sliceRange (sliceBounds lo hi st xs.length).1 (sliceBounds lo hi st xs.length).2.1 (sliceBounds lo hi st xs.length).2.2).filterMap fun i => xs[i]? := by
    rw [h, List.filterMap_map]
    rfl
  rw [h2]
  refine Nat.le_trans (List.length_filterMap_le _ _) (sliceRange_length_le _ _ _ _ (fun hc => ?_) fun hc => ?_)
  · simp only [sliceBounds] at hc ⊢
    simp only [hc, if_true]
    constructor
    · cases lo with
      | none => simp
      | some i => dsimp only; omega
    · cases hi with
      | none => simp
      | some i => dsimp only; omega
  · simp only [sliceBounds] at hc ⊢
    simp only [hc, if_false]
    constructor
    · cases lo with
      | none => simp
      | some i => dsimp only; omega
    · cases hi with
      | none => simp
      | some i => dsimp only; omega
theorem slP_whole {α : Type} (xs : List α) : slP xs (0, 1, xs.length) = xs := by
  unfold slP
  show (List.range xs.length).filterMap (fun (m : Nat) => xs[((0 : Int) + (m : Int) * 1).toNat]?) = xs
  have e : (fun (m : Nat) => xs[((0 : Int) + (m : Int) * 1).toNat]?) = fun m => xs[m]? := by
    funext m
    have : ((0 : Int) + (m : Int) * 1).toNat = m := by omega
    rw [this]
  rw [e]
  have key : ∀ (ys zs : List α), (List.range zs.length).filterMap (fun m => (zs ++ ys)[m]?) = zs := by
    intro ys zs
    rcases List.eq_nil_or_concat zs with rfl | ⟨l, x, rfl⟩
    · rfl
    · induction l generalizing ys x with
      | nil => simp
      | cons a l ih =>
        rw [List.concat_eq_append] at *
        rw [List.cons_append, List.length_cons, List.range_succ_eq_map, List.filterMap_cons]
        simp only [List.cons_append, List.getElem?_cons_zero, List.filterMap_map]
        have := ih ys x
        rw [List.concat_eq_append] at this
        congr 1
  have := key [] xs
  rwa [List.append_nil] at this
section
variable {prog : Program} {w : World} {A : Around} {E : Value → Shared → Prop} {s : Shared}
theorem sliceApplied_any {sl : Addr} {vl vu vs : Value} {lo hi st : Option Int} {n : Nat} {Q : Int × Int × Nat → Shared → Prop} (hs : s.heap.IsSliceOf sl vl vu vs) (pl : IsPart vl lo) (pu : IsPart vu hi) (ps : IsPart vs st) (h0 : st ≠ some 0)
    (h : Q (slB lo hi st n) s) : wpAny (model prog w) A (Builtin.Slice.sliceApplied (.ref sl) (pure (n : Int))) Q E s := by
  have hst : st.getD 1 ≠ 0 := by
    cases st with
    | none => decide
    | some i => exact fun z => h0 (by show some i = some 0; rw [show i = 0 from z])
  obtain ⟨os, hos, hcs, hds⟩ := id hs
  unfold Builtin.Slice.sliceApplied Builtin.Slice.sliceFields
  refine wpAny_bind (wpAny_bind (wpAny_field hos hds (x := vl) rfl (wpAny_bind (wpAny_field hos hds (x := vu) rfl (wpAny_bind (wpAny_field hos hds (x := vs) rfl (wpAny_pure ?_)))))))
  refine wpAny_bind (slicePart_ ps ?_)
  show wpAny _ _ (if ((st.getD 1) == 0) = true then _ else _) _ _ s
  rw [if_neg (by simpa using hst)]
  refine wpAny_bind (slicePart_ pl (wpAny_bind (slicePart_ pu (wpAny_bind (wpAny_pure ?_)))))
  exact wpAny_pure h
theorem getItem_tuple_any {t sl : Addr} {items : Array Value} {vl vu vs : Value} {lo hi st : Option Int} {Q : Value → Shared → Prop} (ht : IsTup s.heap t items) (hs : s.heap.IsSliceOf sl vl vu vs) (pl : IsPart vl lo) (pu : IsPart vu hi) (ps : IsPart vs st) (h0 : st ≠ some 0)
    (h1 : slB lo hi st items.size = (0, 1, items.size) → Q (.ref t) s) (h2 : Q (.ref s.heap.objs.size) { s with heap := s.heap.push { cls := .type "tuple", data := .seq (slV items.toList lo hi st).toArray } })
    (hsz : items.size ≤ sizeLine) : wpAny (model prog w) A (getItem (.ref t) (.ref sl)) Q E s := by
  have htake : sizeOk (.seq (slV items.toList lo hi st).toArray) := by
    show (slV items.toList lo hi st).toArray.size ≤ sizeLine
    rw [List.size_toArray]
    exact Nat.le_trans (slV_le _ _ _ _ h0) (by rw [Array.length_toList]; exact hsz)
  obtain ⟨os, hos, hcs, hds⟩ := id hs
  have hTs : s.TypeIs (.ref sl) "slice" := ⟨os, hos, hcs⟩
  unfold getItem
  try with_reducible refine wpAny_holding ?_
  first | refine wpAny_bind (wpAny_pure ?_) | skip
  refine wpAny_bind (wpAny_sequenceKey ht.typeIs (by decide) ?_)
  refine wpAny_bind (wpAny_callSpecial?_slot (name := Str.ofString "__getitem__") ht.typeIs PyProof.Rows.slot_tuple_getitem
    (wpAny_call_entry PyProof.Rows.slot_tuple_getitem ht.typeIs entry_tuple_getitem ?_ (args_tuple_getitem _ _)))
  show wpAny _ _ (Builtin.Tuple.tupleItemsOf (.ref t) >>= _) _ _ s
  refine wpAny_bind (tupleItemsOf_ ht ?_)
  refine wpAny_bind (wpAny_typeOf hTs ?_)
  rw [if_pos (by decide)]
  refine wpAny_bind (sliceApplied_any hs pl pu ps h0 ?_)
  have ev : slV items.toList lo hi st = slP items.toList (slB lo hi st items.size) := by unfold slV; rw [Array.length_toList]
  rw [ev] at h2 htake
  generalize slB lo hi st items.size = b at *
  obtain ⟨b1, b2, b3⟩ := b
  show wpAny _ _ (if ((b1 : Int) == 0 && b2 == 1 && b3 == items.size) = true then _ else _) _ _ s
  by_cases hw : ((b1 : Int) == 0 && b2 == 1 && b3 == items.size) = true
  · rw [if_pos hw]
    rw [Bool.and_eq_true, Bool.and_eq_true] at hw
    have e1 : b1 = 0 := eq_of_beq hw.1.1
    have e2 : b2 = 1 := eq_of_beq hw.1.2
    have e3 : b3 = items.size := eq_of_beq hw.2
    subst e1 e2 e3
    have h := h1 rfl
    refine wpAny_bind ?_
    show wpAny _ _ (typeOf (.ref t) >>= fun T => pure (T == .type "tuple")) _ _ s
    refine wpAny_bind (wpAny_typeOf ht.typeIs (wpAny_pure ?_))
    first
      | rw [if_pos (by decide)]
      | simp only [beq_self_eq_true, if_true]
    first
      | exact wpAny_bind (wpAny_rule (wpAny_pure ⟨_, rfl, wpAny_pure h⟩))
      | exact wpAny_bind (wpAny_rule (wpAny_bind (wpAny_pure (wpAny_pure ⟨_, rfl, wpAny_pure h⟩))))
  · rw [if_neg hw]
    have ep : ((List.range b3).filterMap fun (m : Nat) => items[(b1 + (m : Int) * b2).toNat]?).toArray = (slP items.toList (b1, b2, b3)).toArray := by
      unfold slP
      congr 2
      funext m
      show items[_]? = items.toList[_]?
      rw [Array.getElem?_toList]
    rw [ep]
    first
      | exact wpAny_bind (m := Builtin.Tuple.tupleExact _) (wpAny_newObj_type (wpAny_pure ⟨_, rfl, wpAny_pure h2⟩) htake)
      | exact wpAny_bind (m := Builtin.Tuple.tupleExact _) (wpAny_newObj_type (wpAny_bind (wpAny_pure (wpAny_pure ⟨_, rfl, wpAny_pure h2⟩))) htake)
      | exact wpAny_bind (wpAny_bind (m := Builtin.Tuple.tupleExact _) (wpAny_newObj_type (wpAny_pure (wpAny_pure ⟨_, rfl, wpAny_pure h2⟩)) htake))
      | exact wpAny_bind (wpAny_bind (m := Builtin.Tuple.tupleExact _) (wpAny_newObj_type (wpAny_pure ⟨_, rfl, wpAny_pure h2⟩) htake))
end
section
variable {X : Cx} {e se : Expr} {te ts : TE} {lo hi : Option Expr} {tl th tst : TO} {pos p2 p3 : Pos}
/-- a part that is an int or None -/
def tPartN (t : TE) : TO := fun σ H Q => t σ H fun x H1 => (∃ i, x = .int i ∧ Q (some i) H1) ∨ (x = .non ∧ Q none H1)
theorem po_someN (h : PE X e te) : PO X (some e) (tPartN te) := by
  refine ⟨fun pins s σ H Q I hw => ?_⟩
  rw [evalPart_some]
  refine thn (h.run pins s σ H _ I hw) fun u s1 ⟨x, H1, I1, r1, q1⟩ => ?_
  rcases q1 with ⟨i, rfl, q⟩ | ⟨rfl, q⟩
  · obtain ⟨t, rfl⟩ := r1
    exact ⟨some i, H1, I1, .int i t, q⟩
  · cases r1
    exact ⟨none, H1, I1, .none, q⟩
/-- x[lo:hi:st] by values -/
abbrev R3s := V → Option Int → Option Int → Option Int → Hp → VK → Prop
def tSl3 (r : R3s) (te : TE) (tl th tst : TO) : TE := fun σ H Q => te σ H fun x H1 => tl σ H1 fun l H2 => th σ H2 fun u H3 => tst σ H3 fun c H4 => r x l u c H4 Q
def rSl3L (K : PySem.W.Frag) : R3s := fun x lo hi st H Q => ∃ a xs, x = .ref a ∧ SqL K H a xs ∧ st ≠ some 0 ∧ ∀ p, H p = none → Q (.ref p) (upd H p (.lst (slV xs lo hi st)))
def rSl3T (K : PySem.W.Frag) : R3s := fun x lo hi st H Q => ∃ a xs, x = .ref a ∧ SqT K H a xs ∧ st ≠ some 0 ∧ ∀ p H', Same H H' → SqT K H' p (slV xs lo hi st) → Q (.ref p) H'
theorem vals_sl {xs : List V} {us : List Value} (r : Vals xs us) (lo hi st : Option Int) : Vals (slV xs lo hi st) (slV us lo hi st) := by
  have hlen := r.length
  unfold slV
  rw [hlen]
  generalize slB lo hi st us.length = b
  unfold slP
  generalize b.2.2 = k
  induction k with
  | zero => exact .nil
  | succ k ih =>
    rw [List.range_succ, List.filterMap_append, List.filterMap_append]
    refine ih.append ?_
    rw [List.filterMap_cons, List.filterMap_cons, List.filterMap_nil, List.filterMap_nil]
    cases e : xs[(b.1 + (k : Int) * b.2.1).toNat]? with
    | none =>
      have : us[(b.1 + (k : Int) * b.2.1).toNat]? = none := by
        rw [List.getElem?_eq_none_iff] at e ⊢
        rw [← hlen]
        exact e
      rw [this]
      exact .nil
    | some x =>
      obtain ⟨y, ey, ry⟩ := r.get e
      rw [ey]
      exact .cons ry .nil
theorem pe_sl3L (he : PE X e te) (hl : PO X lo tl) (hh : PO X hi th) (hst : PO X (some se) tst) : PE X (.Subscript e (.Slice lo hi (some se) p3) pos) (tSl3 (rSl3L X.K) te tl th tst) := by
  refine ⟨fun pins s σ H Q I h => ?_⟩
  refine Subscript_ (thn (he.run pins s σ H _ I h) fun v s1 ⟨x, H1, I1, r1, q1⟩ => ?_)
  refine wpAny_Slice (thn (hl.run pins s1 σ H1 _ I1 q1) fun vl s2 ⟨l, H2, I2, pl, q2⟩ => thn (hh.run pins s2 σ H2 _ I2 q2) fun vu s3 ⟨u, H3, I3, pu, q3⟩ => thn (hst.run pins s3 σ H3 _ I3 q3) fun vs s4 ⟨c, H4, I4, ps, q4⟩ => ?_)
  obtain ⟨a, xs, ex, hx, h0, q⟩ := q4
  subst ex
  cases r1
  have I5 : Inv X pins σ H4 { s4 with heap := s4.heap.push { cls := .type "slice", data := .fields #[vl, vu, vs] } } := I4.kept (t' := s4.toks) fun b ob q => Heap.get?_push_of_some _ q
  obtain ⟨its, r, ht, hz⟩ := I5.list hx
  have hlen := r.length
  show wpAny (model X.prog X.w) X.A (subscriptTail e (.Slice lo hi (some se) p3) (.ref a) (.ref s4.heap.objs.size)) (EP X pins σ Q) X.xe { s4 with heap := s4.heap.push { cls := .type "slice", data := .fields #[vl, vu, vs] } }
  refine tail_any (ops := [.ref a, .ref s4.heap.objs.size]) ht.isList.typeIs (PySem.slot_list_getitem.lookup) ?_ (by with_unfolding_all rfl)
  refine wpAny_getItem_list_slice ht.isList (Heap.IsSliceOf.new _ vl vu vs) pl pu ps h0 ?_ (by rw [List.size_toArray]; omega)
  rw [slicePick_eq _ _ _ _ h0]
  refine ⟨.ref _, _, I5.laid (t' := s4.toks) (o := .lst (slV xs l u c)) (fun b ob q => Heap.get?_push_of_some _ q) (Nat.le_refl _) ?_, rfl, q _ (I5.hok.fresh (Nat.le_refl _))⟩
  exact ⟨Nat.le_trans (slV_le _ _ _ _ h0) hz, _, 0, by simpa using vals_sl r l u c, Heap.get?_push_size _ rfl⟩
theorem pe_sl3T (he : PE X e te) (hl : PO X lo tl) (hh : PO X hi th) (hst : PO X (some se) tst) : PE X (.Subscript e (.Slice lo hi (some se) p3) pos) (tSl3 (rSl3T X.K) te tl th tst) := by
  refine ⟨fun pins s σ H Q I h => ?_⟩
  refine Subscript_ (thn (he.run pins s σ H _ I h) fun v s1 ⟨x, H1, I1, r1, q1⟩ => ?_)
  refine wpAny_Slice (thn (hl.run pins s1 σ H1 _ I1 q1) fun vl s2 ⟨l, H2, I2, pl, q2⟩ => thn (hh.run pins s2 σ H2 _ I2 q2) fun vu s3 ⟨u, H3, I3, pu, q3⟩ => thn (hst.run pins s3 σ H3 _ I3 q3) fun vs s4 ⟨c, H4, I4, ps, q4⟩ => ?_)
  obtain ⟨a, xs, ex, hx, h0, q⟩ := q4
  subst ex
  cases r1
  have I5 : Inv X pins σ H4 { s4 with heap := s4.heap.push { cls := .type "slice", data := .fields #[vl, vu, vs] } } := I4.kept (t' := s4.toks) fun b ob q => Heap.get?_push_of_some _ q
  obtain ⟨its, r, ht, hz⟩ := I5.tuple hx
  have hlen := r.length
  show wpAny (model X.prog X.w) X.A (subscriptTail e (.Slice lo hi (some se) p3) (.ref a) (.ref s4.heap.objs.size)) (EP X pins σ Q) X.xe { s4 with heap := s4.heap.push { cls := .type "slice", data := .fields #[vl, vu, vs] } }
  refine tail_any (ops := [.ref a, .ref s4.heap.objs.size]) ht.typeIs (PyProof.Rows.slot_tuple_getitem.lookup) ?_ (by with_unfolding_all rfl)
  refine getItem_tuple_any ht (Heap.IsSliceOf.new _ vl vu vs) pl pu ps h0 (fun ew => ?_) ?_ (by rw [List.size_toArray]; omega)
  · refine ⟨.ref a, H4, I5, rfl, q _ _ (Same.refl _) ?_⟩
    have e : slV xs l u c = xs := by
      rw [List.size_toArray, ← hlen] at ew
      unfold slV
      rw [ew]
      exact slP_whole xs
    rw [e]
    exact hx
  · refine ⟨.ref _, _, I5.laid (t' := s4.toks) (o := .tup (slV xs l u c)) (fun b ob q => Heap.get?_push_of_some _ q) (Nat.le_refl _) ?_, rfl, q _ _ (same_upd (I5.hok.fresh (Nat.le_refl _))) (SqT.of upd_same)⟩
    exact ⟨Nat.le_trans (slV_le _ _ _ _ h0) hz, _, by simpa using vals_sl r l u c, IsTup.new _ _⟩
end
end Tr

/-! # Slice objects as values; own subscripts. -/
namespace Tr
open PySem PySem.Spec PyProof.Rows L2 HT
section
theorem sk_lk : typeLookup (.type "slice") "__class__" = pure (some (.builtin "object.__class__")) := by rw [typeLookup_type, builtinLookup_eq_fast]; kernel_rfl
theorem sk_ga : Slot "slice" "__getattribute__" "slice.__getattribute__" :=
  .of (owner := "slice") (n := "__getattribute__") (by rw [typeLookup_type, builtinLookup_eq_fast]; kernel_rfl) (by decide +kernel) (by decide +kernel) (by decide +kernel) (by first | exact .inl (by decide +kernel) | exact .inr (by decide +kernel)) (by rw [isSubtype_type]; kernel_rfl)
theorem sk_en : entryFor table "slice.__getattribute__" = some Builtin.«object.__getattribute__» := entryFor_alias (id' := "object.__getattribute__") (by kernel_rfl) (by first | rfl | decide +kernel) (by decide +kernel) (by kernel_rfl)
theorem sk_ar (a b : Value) : argsOk "slice.__getattribute__" ⟨[a, b], []⟩ := by unfold argsOk; kernel_rfl
theorem sk_ow : isSubtype (.type "slice") (.type (".".intercalate ("object.__class__".cutAt '.').dropLast)) = pure true := by rw [F.owner_object_class, isSubtype_type]; kernel_rfl
variable {prog : Program} {w : World} {A : Around} {E : Value → Shared → Prop} {s : Shared} {a : Addr} {o : Obj}
theorem sk_get {R : Result → Shared → Prop} (hT : s.TypeIs (.ref a) "slice") (hq : R (.ok (.ret (.type "slice"))) s) : codeAny (model prog w) A (.call (.builtin "getset_descriptor.__get__") ⟨[.builtin "object.__class__", .ref a, .type "slice"], []⟩) R s := by
  obtain ⟨h, g, d, t, os⟩ := s
  have g1 : (⟨h, g, d, t, os⟩ : Shared).TypeIs (.builtin "object.__class__") "getset_descriptor" := F.typeOf_object_class
  have g2 := sk_ow
  refine codeAny_call_builtin F.slot_gs_get.plain F.entry_gs_get (F.slot_gs_get.check _ _ _ _ _ _ _ _ g1 (F.args_gs_get _ _ _) ?_)
  repeat (any_goals (first | assumption | wp_step))
  refine ⟨Code.quiet_builtin _ (by decide +kernel), codeAny_builtin F.entry_object_class ?_⟩
  repeat (any_goals (first | assumption | wp_step))
theorem sk_cls {Q : Option Value → Shared → Prop} (hT : s.TypeIs (.ref a) "slice") (hq : Q (some (.type "slice")) { s with toks := s.toks + 1 }) : wpAny (model prog w) A (getAttr? (.ref a) "__class__") Q E s := by
  obtain ⟨h, g, d, t, os⟩ := s
  have hT1 : (⟨h, g, d, t + 1, os⟩ : Shared).TypeIs (.ref a) "slice" := hT
  have one : ∀ {tk : Tok} {Q : Fin → Shared → Prop}, Q (.done (.ret (.type "slice"))) ⟨h, g, d, t + 1, os⟩ → ∀ A E, wpAny (model prog w) A (Builtin.«object.__getattribute__» ⟨[.ref a, .str "__class__" tk], []⟩) Q E ⟨h, g, d, t + 1, os⟩ := by
    intro tk Q hq A E
    have g1 := sk_lk
    have g2 := F.typeOf_object_class
    have g3 : (⟨h, g, d, t + 1, os⟩ : Shared).TypeIs (.builtin "object.__class__") "getset_descriptor" := F.typeOf_object_class
    have g4 := F.slot_gs_get.lookup
    have g5 := F.slot_gs_set.lookup
    repeat (any_goals (first | assumption | wp_step))
    refine sk_get hT1 ?_
    repeat (any_goals (first | assumption | wp_step))
  have two : ∀ {tk : Tok} {R : Result → Shared → Prop}, R (.ok (.ret (.type "slice"))) ⟨h, g, d, t + 1, os⟩ → ∀ A, codeAny (model prog w) A (.call (.builtin "slice.__getattribute__") ⟨[.ref a, .str "__class__" tk], []⟩) R ⟨h, g, d, t + 1, os⟩ := fun hq A =>
    codeAny_call_builtin sk_ga.plain sk_en (sk_ga.check _ _ _ _ _ _ _ _ hT1 (sk_ar _ _) (one hq _ _))
  have three : ∀ {tk : Tok} {Q : Value → Shared → Prop}, Q (.type "slice") ⟨h, g, d, t + 1, os⟩ → ∀ A E, wpAny (model prog w) A (getAttrBy (.ref a) (.str "__class__" tk) false) Q E ⟨h, g, d, t + 1, os⟩ := by
    intro tk Q hq A E
    have f2 := sk_ga.lookup
    have f3 := sk_ga.bind (.ref a)
    repeat (any_goals (first | assumption | wp_step))
    refine two ?_ _
    repeat (any_goals (first | assumption | wp_step))
  unfold getAttr? getAttrBy?
  repeat (any_goals (first | assumption | exact three (by assumption) _ _ | with_reducible apply three | wp_step))
end
/-- a slice object -/
def slO (a : Addr) (lo hi st : Option Int) : HO := .ext fun h => ∃ vl vu vs, h.IsSliceOf a vl vu vs ∧ IsPart vl lo ∧ IsPart vu hi ∧ IsPart vs st
section
variable {X : Cx} {pins : List (Addr × Obj)} {σ : L2.St} {H : Hp} {s : Shared}
theorem slO_at {a : Addr} {lo hi st : Option Int} (I : Inv X pins σ H s) (h : H a = some (slO a lo hi st)) : ∃ vl vu vs, s.heap.IsSliceOf a vl vu vs ∧ IsPart vl lo ∧ IsPart vu hi ∧ IsPart vs st :=
  (show ObjOk X.prog X.w H s.heap a (slO a lo hi st) from I.hok a _ h).1
/-- isinstance of a slice object -/
def rIsiSl (K : PySem.W.Frag) : List V → Hp → VK → Prop := fun xs H Q => ∃ (a : Addr) (lo hi st : Option Int) (c : V) (u : Value) (b : Bool), xs = [.ref a, c] ∧ H a = some (slO a lo hi st) ∧ ClsV c u ∧ PySem.W.kitOne K (.type "slice") u = some b ∧ Q (.bl b) H
theorem call_isiSl : CallR X (.builtin "isinstance") (rIsiSl X.K) := by
  intro pins s σ H xs us Q I r h
  obtain ⟨a, lo, hi, st, c, u, b, rfl, ha, k, e, q⟩ := h
  obtain ⟨u1, u2, rfl, r1, r2⟩ := vals2 r
  have e2 := k.eq r2
  subst e2
  cases (show u1 = Value.ref a from r1)
  obtain ⟨vl, vu, vs, ⟨o, ho, hc, hd⟩, _⟩ := slO_at I ha
  exact PySem.W.kia_one (K := X.K) (t := .type "slice") (H := PySem.W.KitAt a "slice") (PySem.W.kitx_of PySem.W.kitAt_ty fun p k => sk_cls p k) I.kIn ⟨o, ho, hc⟩ e (fun z => nomatch z) fun tk => ⟨.bl b, H, I.tok tk, rfl, q⟩
/-- t[k], k a slice object -/
def rIxTS (K : PySem.W.Frag) : R2 := fun x y H Q => ∃ (p sl : Addr) (lo hi st : Option Int) (xs : List V), x = .ref p ∧ y = .ref sl ∧ SqT K H p xs ∧ H sl = some (slO sl lo hi st) ∧ st ≠ some 0 ∧ ∀ q H', Same H H' → SqT K H' q (slV xs lo hi st) → Q (.ref q) H'
theorem ix_tupS : IxR X (rIxTS X.K) := by
  intro value slice pins s σ H x y v u Q I rx ry h hs
  obtain ⟨p, sl, lo, hi, st, xs, rfl, rfl, hq, hsl, h0, q⟩ := h
  cases rx
  cases ry
  obtain ⟨its, r, pl, hz⟩ := I.tuple hq
  have hlen := r.length
  obtain ⟨vl, vu, vs, hS, p1, p2, p3⟩ := slO_at I hsl
  refine tail_any pl.typeIs slot_tuple_getitem.lookup ?_ hs
  refine getItem_tuple_any pl hS p1 p2 p3 h0 (fun ew => ?_) ?_ (by rw [List.size_toArray]; omega)
  · refine ⟨.ref p, H, I, rfl, q _ _ (Same.refl _) ?_⟩
    have e : slV xs lo hi st = xs := by
      rw [List.size_toArray, ← hlen] at ew
      unfold slV
      rw [ew]
      exact slP_whole xs
    rw [e]
    exact hq
  · refine ⟨.ref _, _, I.laid (t' := s.toks) (o := .tup (slV xs lo hi st)) (fun b ob q => Heap.get?_push_of_some _ q) (Nat.le_refl _) ?_, rfl, q _ _ (same_upd (I.hok.fresh (Nat.le_refl _))) (SqT.of upd_same)⟩
    exact ⟨Nat.le_trans (slV_le _ _ _ _ h0) hz, _, by simpa using vals_sl r lo hi st, IsTup.new _ _⟩
/-- o[lo:hi] goes by getItem itself -/
theorem sub_two {prog : Program} {w : World} {A : Around} {E : Value → Shared → Prop} {s : Shared} {K : PySem.W.Frag} {x C L f : Addr} {h₀ : Heap} {m : Str → Option Value} {ox : Obj} {od : Option Obj} {value slice : Expr} {i : Value} {ops : List Value} {Q : Value → Shared → Prop} (FF : Fr h₀ L s.heap m) (X₀ : K.In h₀) (I : PySem.W.InstAt s.heap x ox C od) (hq : PySem.W.noSeq K C = true)
    (hs : PySem.W.findIn K (.ref C) "__getitem__" = some (some (.ref f))) (hf : PySem.W.fnIn K f = true) (hfn : PySem.W.isFn K (.ref f) = true) (h : wpAny (model prog w) A (call (.ref f) [.ref x, i]) Q E s) (hsl : subscripted slice true (.ref x) i = operate ops (getItem (.ref x) i)) :
    wpAny (model prog w) A (subscriptTail value slice (.ref x) i) Q E s := by
  have X := X₀.keeps FF.keep
  have go := PySem.W.getItem_K FF X₀ I hq hs hfn h
  unfold PySem.W.fnIn at hf
  split at hf
  · rename_i e
    unfold subscriptTail getitemInPython
    refine wpAny_bind (wpAny_bind (wpAny_bind (I.type.here ((PySem.W.looks_findIn X hs).here ?_))))
    dsimp only
    refine wpAny_bind (wpAny_load (X _ _ e) (wpAny_pure ?_))
    dsimp only
    rw [hsl]
    refine wpAny_bind (wpAny_operateT (wpAny_mono go (fun v s' z => ?_) fun _ _ z => z))
    show wpAny (model prog w) A (letTemporaryGo value (.ref x) v >>= fun _ => pure v) Q E s'
    exact wpAny_bind (wpAny_letTemporaryGo (wpAny_pure z))
  · cases hf
/-- what an own subscript leans on -/
structure GetO (K : PySem.W.Frag) (C : Addr) : Prop where
  nq : PySem.W.noSeq K C = true
  fi : ∀ f : Addr, PySem.W.findIn K (.ref C) "__getitem__" = some (some (.ref f)) → PySem.W.fnIn K f = true
def rGetO (C : Addr) (sp : Sp) (E : XK) : R2 := fun x y H Q => ∃ a dx fs, x = .ref a ∧ H a = some (.ins C dx fs) ∧ sp [x, y] H Q E
theorem pe_getO {C : Addr} {sp : Sp} {E : XK} {k j : Nat} {ea eb : Expr} {ta tb : TE} {pos : Pos} (c : Met X.prog X.w X.K X.mg X.base k C "__getitem__" sp []) (g : GetO X.K C) (hr : Room j X.A) (hk : k + 1 ≤ j) (hx : Passes (L2.CX X.prog X.w) X E) (he : PE X ea ta) (hb : PE X eb tb)
    (hsl : ∀ v i, subscripted eb true v i = runValue (.builtin "lifetime.subscript" ⟨[v, i], []⟩) := by intros; with_unfolding_all rfl) : PE X (.Subscript ea eb pos) (tOp (rGetO C sp E) ta tb) := by
  obtain ⟨f, fd, ps, ds, hc, hm, F, b, d⟩ := c.ex
  cases d
  refine ⟨fun pins s σ H Q I h => ?_⟩
  refine Subscript_ (binT he hb I h fun v u s2 x y H2 I2 rx ry q => ?_)
  obtain ⟨a, dx, fs, rfl, ha, h⟩ := q
  cases rx
  obtain ⟨mA, J, _⟩ := ins_get I2.hok ha
  obtain ⟨od, J, _⟩ := J.look
  obtain ⟨m, hF⟩ := I2.fr
  refine PySem.W.sub_K hF I2.ok.mod.kin J hm.at_ (g.fi _ hm.at_) hm.fn ?_ (hsl _ _)
  exact run_at (A := X.A.in1) F (hr.mono hk).in1 rfl b hx I2 (us := [.ref a, u]) (vs := [.ref a, y]) (.cons rfl (.cons ry .nil)) h
end
section
variable {X : Cx} {e : Expr} {te : TE} {lo hi st : Option Expr} {tl th tst : TO} {pos p3 : Pos} {C : Addr} {sp : Sp} {E : XK}
/-- o[lo:hi:st], o an instance with its own __getitem__ -/
def tGetS (C : Addr) (sp : Sp) (E : XK) (te : TE) (tl th tst : TO) : TE := fun σ H Q => te σ H fun x H1 => tl σ H1 fun l H2 => th σ H2 fun u H3 => tst σ H3 fun c H4 => ∃ a dx fs, x = .ref a ∧ H4 a = some (.ins C dx fs) ∧ ∀ q, H4 q = none → sp [.ref a, .ref q] (upd H4 q (slO q l u c)) Q E
theorem pe_getS {k j : Nat} (c : Met X.prog X.w X.K X.mg X.base k C "__getitem__" sp []) (g : GetO X.K C) (hr : Room j X.A) (hk : k + 1 ≤ j) (hx : Passes (L2.CX X.prog X.w) X E) (he : PE X e te) (hl : PO X lo tl) (hh : PO X hi th) (hst : PO X st tst)
    (hsl : ∀ v i, subscripted (.Slice lo hi st p3) true v i = runValue (.builtin "lifetime.subscript" ⟨[v, i], []⟩) := by intros; with_unfolding_all rfl) :
    PE X (.Subscript e (.Slice lo hi st p3) pos) (tGetS C sp E te tl th tst) := by
  obtain ⟨f, fd, ps, ds, hc, hm, F, b, d⟩ := c.ex
  cases d
  refine ⟨fun pins s σ H Q I h => ?_⟩
  refine Subscript_ (thn (he.run pins s σ H _ I h) fun v s1 ⟨x, H1, I1, r1, q1⟩ => ?_)
  refine wpAny_Slice (thn (hl.run pins s1 σ H1 _ I1 q1) fun vl s2 ⟨l, H2, I2, pl, q2⟩ => thn (hh.run pins s2 σ H2 _ I2 q2) fun vu s3 ⟨u, H3, I3, pu, q3⟩ => thn (hst.run pins s3 σ H3 _ I3 q3) fun vs s4 ⟨c, H4, I4, ps', q4⟩ => ?_)
  obtain ⟨a, dx, fs, ex, ha, q⟩ := q4
  subst ex
  cases r1
  have free := I4.hok.fresh (Nat.le_refl s4.heap.objs.size)
  have hS : (s4.heap.push { cls := .type "slice", data := .fields #[vl, vu, vs] }).IsSliceOf s4.heap.objs.size vl vu vs := Heap.IsSliceOf.new _ vl vu vs
  have I5 : Inv X pins σ (upd H4 s4.heap.objs.size (slO s4.heap.objs.size l u c)) { s4 with heap := s4.heap.push { cls := .type "slice", data := .fields #[vl, vu, vs] } } :=
    I4.laid (t' := s4.toks) (fun b ob q => Heap.get?_push_of_some _ q) (Nat.le_refl _) ⟨⟨vl, vu, vs, hS, pl, pu, ps'⟩, ⟨_, Heap.get?_push_size _ rfl⟩, fun h1 h2 ⟨a1, a2, a3, ⟨o, b1, b2⟩, c1⟩ k => ⟨a1, a2, a3, ⟨o, k o b1, b2⟩, c1⟩⟩
  have ha5 : upd H4 s4.heap.objs.size (slO s4.heap.objs.size l u c) a = some (.ins C dx fs) := by rw [upd_ne (ne_of_none ha free)]; exact ha
  obtain ⟨mA, J, _⟩ := ins_get I5.hok ha5
  obtain ⟨od, J, _⟩ := J.look
  obtain ⟨m, hF⟩ := I5.fr
  show wpAny (model X.prog X.w) X.A (subscriptTail e (.Slice lo hi st p3) (.ref a) (.ref s4.heap.objs.size)) (EP X pins σ Q) X.xe { s4 with heap := s4.heap.push { cls := .type "slice", data := .fields #[vl, vu, vs] } }
  refine PySem.W.sub_K hF I5.ok.mod.kin J hm.at_ (g.fi _ hm.at_) hm.fn ?_ (hsl _ _)
  exact run_at (A := X.A.in1) F (hr.mono hk).in1 rfl b hx I5 (us := [.ref a, .ref s4.heap.objs.size]) (vs := [.ref a, .ref s4.heap.objs.size]) (.cons rfl (.cons rfl .nil)) (q _ free)
theorem pe_getS2 {k j : Nat} (c : Met X.prog X.w X.K X.mg X.base k C "__getitem__" sp []) (g : GetO X.K C) (hr : Room j X.A) (hk : k ≤ j) (hx : Passes (L2.CX X.prog X.w) X E) (he : PE X e te) (hl : PO X lo tl) (hh : PO X hi th) :
    PE X (.Subscript e (.Slice lo hi none p3) pos) (tGetS C sp E te tl th tNoPart) := by
  obtain ⟨f, fd, ps, ds, hc, hm, F, b, d⟩ := c.ex
  cases d
  refine ⟨fun pins s σ H Q I h => ?_⟩
  refine Subscript_ (thn (he.run pins s σ H _ I h) fun v s1 ⟨x, H1, I1, r1, q1⟩ => ?_)
  refine wpAny_Slice (thn (hl.run pins s1 σ H1 _ I1 q1) fun vl s2 ⟨l, H2, I2, pl, q2⟩ => thn (hh.run pins s2 σ H2 _ I2 q2) fun vu s3 ⟨u, H3, I3, pu, q3⟩ => thn (po_none.run pins s3 σ H3 _ I3 q3) fun vs s4 ⟨c, H4, I4, ps', q4⟩ => ?_)
  obtain ⟨a, dx, fs, ex, ha, q⟩ := q4
  subst ex
  cases r1
  have free := I4.hok.fresh (Nat.le_refl s4.heap.objs.size)
  have hS : (s4.heap.push { cls := .type "slice", data := .fields #[vl, vu, vs] }).IsSliceOf s4.heap.objs.size vl vu vs := Heap.IsSliceOf.new _ vl vu vs
  have I5 : Inv X pins σ (upd H4 s4.heap.objs.size (slO s4.heap.objs.size l u c)) { s4 with heap := s4.heap.push { cls := .type "slice", data := .fields #[vl, vu, vs] } } :=
    I4.laid (t' := s4.toks) (fun b ob q => Heap.get?_push_of_some _ q) (Nat.le_refl _) ⟨⟨vl, vu, vs, hS, pl, pu, ps'⟩, ⟨_, Heap.get?_push_size _ rfl⟩, fun h1 h2 ⟨a1, a2, a3, ⟨o, b1, b2⟩, c1⟩ k => ⟨a1, a2, a3, ⟨o, k o b1, b2⟩, c1⟩⟩
  have ha5 : upd H4 s4.heap.objs.size (slO s4.heap.objs.size l u c) a = some (.ins C dx fs) := by rw [upd_ne (ne_of_none ha free)]; exact ha
  obtain ⟨mA, J, _⟩ := ins_get I5.hok ha5
  obtain ⟨od, J, _⟩ := J.look
  obtain ⟨m, hF⟩ := I5.fr
  show wpAny (model X.prog X.w) X.A (subscriptTail e (.Slice lo hi none p3) (.ref a) (.ref s4.heap.objs.size)) (EP X pins σ Q) X.xe { s4 with heap := s4.heap.push { cls := .type "slice", data := .fields #[vl, vu, vs] } }
  refine sub_two (ops := [.ref s4.heap.objs.size, .ref a]) hF I5.ok.mod.kin J g.nq hm.at_ (g.fi _ hm.at_) hm.fn ?_ (by with_unfolding_all rfl)
  exact run_at (A := X.A) F (hr.mono hk) rfl b hx I5 (us := [.ref a, .ref s4.heap.objs.size]) (vs := [.ref a, .ref s4.heap.objs.size]) (.cons rfl (.cons rfl .nil)) (q _ free)
end
def getOB (x : Str) (K : PySem.W.Frag) : Bool := PySem.W.noSeq K (He.ga K x) && match PySem.W.findIn K (.ref (He.ga K x)) "__getitem__" with
  | some (some (.ref f)) => PySem.W.fnIn K f
  | _ => true
theorem getOB_ok {x : Str} {K : PySem.W.Frag} (h : getOB x K = true) : GetO K (He.ga K x) := by
  obtain ⟨h1, h2⟩ := He.ba h
  refine ⟨h1, fun f e => ?_⟩
  rw [e] at h2
  exact h2
end Tr

/-! # Exceptions of the program's own, whose __init__ says super().__init__(text) first. -/
namespace Tr
open PySem PySem.Spec PyProof.Rows L2
/-- the main module: its file; «super» is not its own name -/
class PMain (P : Program) : Prop where
  file : P.main.file = ("/claim/cut.py" : Str)
  sup : (P.main.scope.names.lookup ("super" : Str)).isSome = false

section
variable {X : Cx} {pins : List (Addr × Obj)} {σ : L2.St} {H : Hp} {s : Shared} {body : List Stmt} {a C f cda cc : Addr} {z : Str} {kd : Nat} {p0 p1 p2 p3 p4 p5 : Pos} {fd : FuncData} {ar : Arg} {vs : Array Value} {tf : Tok} {oc ccl cl : Value} {od cdd cld : Option Addr} {osl ccs csl : Array (Option Value)}
  {Q : Flow → Shared → Prop} {E' : Value → Shared → Prop}
theorem sup_call {u : Addr} {rest : List Value} {Q : Value → Shared → Prop} {A : Around} (T : OexC X.K C) (I : Inv X pins σ H s) (e : H a = some (exo a C none)) (hu : s.heap.get? u = some (PySem.W.kxs_mw "ValueError.__init__" a)) (hz : rest.length ≤ sizeLine)
    (hq : ∀ s', Inv X pins σ H s' → Q .none s') : wpAny (model X.prog X.w) A (call (.ref u) rest) Q E' s := by
  obtain ⟨nm, q, N, bs, bm, sn, sub, ab, col, dd, k0, k1, k2, k3, k5, hC, hbm⟩ := T.cls
  obtain ⟨t1, he⟩ := exo_at I.hok e
  have hC' := I.kIn _ _ hC
  obtain ⟨hp, g, d, tk, os⟩ := s
  refine wpAny_call (codeAny_of_tree ?_)
  show wpAny _ A.in1 (callAny (.ref u) ⟨rest, []⟩) _ _ _
  simp only [callAny]
  refine wpAny_bind (wpAny_load hu ?_)
  simp only [PySem.W.kxs_mw, show (Value.type "method-wrapper" == Value.type "method" || Value.type "method-wrapper" == Value.type "builtin_function_or_method" || Value.type "method-wrapper" == Value.type "method-wrapper") = true by decide, if_true]
  refine PySem.W.KFB.if_so (by decide) ?_
  refine wpAny_bind (PySem.W.check_bound_init F.excBase_ValueError.toExcCallFacts hC' he rfl ?_)
  refine wpAny_bind (wpAny_pure (wpAny_pure ?_))
  refine ⟨plainId_quiet F.excBase_ValueError.init.plain _, codeAny_builtin F.excBase_ValueError.initEntry ?_⟩
  refine PySem.W.exc_init_tree (cls := .ref C) (t0 := t1) (dv := none) (c2 := .none) (c3 := .none) (b4 := .bool false) he hz fun h' k hx _ => ?_
  have J := I.write (t' := tk) (x := a) (e := a) (o := exo a C none) (by rw [e]; exact True.intro) (.inl rfl) k ⟨_, hx⟩ (exo_ok hx)
  have eu : upd H a (exo a C none) = H := by
    funext b
    by_cases hb : b = a
    · rw [hb, upd_same, e]
    · rw [upd_ne hb]
  rw [eu] at J
  exact hq _ J

theorem sup_ok (I : Inv X pins σ H s) [PM : PMain X.prog] (T : OexC X.K C) (e : H a = some (exo a C none)) (h0 : σ[0]? = some (some (.ref a))) (hN0 : X.N[0]? = some ("self" : Str)) (hself : X.env.scope.names.lookup ("self" : Str) = some .local)
    (hfu : X.env.func = some f) (lk : X.K.lookup f = some ⟨oc, od, .func fd, osl⟩) (hp : (fd.params.posonlyargs ++ fd.params.args).head? = some ar) (har : ar.arg = ("self" : Str))
    (hco : X.env.code = .ref cda) (hcode : X.K.lookup cda = some ⟨ccl, cdd, .fields vs, ccs⟩) (hvs : vs[2]? = some (.str "/claim/cut.py" tf))
    (hks : X.env.scope.names.lookup ("super" : Str) = some .globalImplicit) (hkc : X.env.scope.names.lookup ("__class__" : Str) = some .free) (hcl : X.env.cells.lookup ("__class__" : Str) = some cc) (hcell : X.K.lookup cc = some ⟨cl, cld, .cell (some (.ref C)), csl⟩)
    (hsuper : X.mg "super" = none) (ho : PySem.W.nsIn X.K cStatics "thirdparty.any" = some none) (hm : PySem.W.ks_superIn X.K C C "__init__" = some (some (.builtin "ValueError.__init__")))
    (hsub : PySem.W.mroIn X.K C (.ref C) = some true) (hB : PySem.W.subIn X.K (.ref C) (.type "ValueError") = some true)
    (hi : interactive X.env = false) (hs : swapsWith (.Call (.Attribute (.Call (.Name "super" p0) [] [] p1) "__init__" p2) [.Constant (.str z) kd p5] [] p3) none p4.line X.env = pure false)
    {pl : Sem Bool} (hev : eval (.Call (.Attribute (.Call (.Name "super" p0) [] [] p1) "__init__" p2) [.Constant (.str z) kd p5] [] p3) X.env = (do
      let ov ← attributeBase (.Call (.Name "super" p0) [] [] p1) "__init__" X.env (eval (.Call (.Name "super" p0) [] [] p1) X.env)
      standAt p2.atName
      let (f, first) ← holding [ov] (getMethod ov "__init__" pl)
      callWith p3 f first (backTo p3 (starEach [.Constant (.str z) kd p5] X.env)) []))
    (hq : ∀ s', Inv X pins σ H s' → Q .next s') :
    PySem.wpAt (model X.prog X.w) X.A (.func body X.env) (exec (.Expr (.Call (.Attribute (.Call (.Name "super" p0) [] [] p1) "__init__" p2) [.Constant (.str z) kd p5] [] p3) p4) X.env) Q E' s := by
  refine ks_wpAt_Expr_any ?_ hi hs
  refine ks_wpAt_MethodCall (pl := pl) ?_ hev
  refine ks_wpAt_super_base (attr := "__init__") (body := body) hks hkc (by decide) hfu (I.kIn _ _ lk) rfl hp hco (I.kIn _ _ hcode) rfl hvs (by rw [PM.file]; decide) PM.sup ?_
  obtain ⟨mb, h1, h2⟩ := I.mod.blt
  refine PySem.W.ks_loadName_global I.ok.kind hks (Calls.loadGlobal_builtin (by rw [I.ok.glob]; exact I.mod.glob.keeps I.bk) hsuper (by rw [I.ok.blt]; exact h1.keeps I.bk) ((h2 "super" (by decide)).trans PyProof.Rows.Boot.super) ⟨rfl, ?_⟩)
  refine wpAny_loadName_free I.ok.kind hkc hcl ⟨_, I.kIn _ _ hcell, rfl⟩ ?_
  obtain ⟨m, hn, hl⟩ := I.loc
  obtain ⟨u, r, l⟩ := hl 0 _ (.ref a) hN0 h0 (.inl hself)
  obtain rfl : u = Value.ref a := r
  have hv : m ("self" : Str) = some (.ref a) := by
    rcases l with ⟨_, z⟩ | ⟨z, _⟩
    · exact z
    · have z' : X.env.scope.names.lookup ("self" : Str) = some .cell ∨ X.env.scope.names.lookup ("self" : Str) = some .free := z
      rw [hself] at z'
      rcases z' with z' | z' <;> cases z'
  rw [har]
  refine wpAny_loadName_local I.ok.kind hself hn hv ?_
  obtain ⟨nm, q, N, bs, bm, sn, sub, ab, col, dd, k0, k1, k2, k3, k5, hC, hbm⟩ := T.cls
  have hcd : PySem.W.clsIn X.K C = some { name := nm, bases := bs, mro := .ref C :: bm, ns := N, qualname := q, hasDict := true, slotNames := sn, subclasses := sub, abstract := ab, collection := col, hasDel := false } := by unfold PySem.W.clsIn; rw [hC] <;> rfl
  have hC' := I.kIn _ _ hC
  obtain ⟨t1, he⟩ := exo_at I.hok e
  obtain ⟨hp0, g, d, tk, os⟩ := s
  refine ks_wpAny_isType_cls hC' rfl ⟨rfl, ?_⟩
  refine ks_wpAny_call_super hC' rfl he rfl (fun c z => by cases z) (PySem.W.looks_mroIn I.kIn hsub) (fun h1 es k => ?_)
  have I1 : Inv X pins σ H ⟨h1, g, d, tk, os⟩ := I.kept (t' := tk) k
  obtain ⟨t2, he1⟩ := exo_at I1.hok e
  have hxC : a ≠ C := fun y => by
    have hC1 := I1.kIn _ _ hC
    rw [← y] at hC1
    have w := hC1.symm.trans he1
    cases w
  unfold PySem.W.ks_superIn at hm
  rw [hcd] at hm
  have IA : PySem.W.InstAt h1 a { cls := .ref C, dict := none, data := .fields #[.ref t2, .none, .none, .none, .bool false, .none] } C none := ⟨he1, rfl, rfl, trivial⟩
  refine PySem.W.kxs_getMethod PySem.W.kxs_ValueError es (PySem.W.looks_opaque I1.kIn ho) (l₀ := .ref C :: bm) (fun A Q E s k q => wpAny_bind ((PySem.W.looks_clsIn I1.kIn hcd) A _ E s k (wpAny_pure q))) rfl I1.kIn hm (IA.type.andThen (PySem.W.looks_subIn I1.kIn hB)) hxC (by decide) ?_
  have I2 : Inv X pins σ H ⟨h1.push (PySem.W.kxs_mw "ValueError.__init__" a), g, d, tk + 1, os⟩ := I1.kept (t' := tk + 1) fun b o e => Heap.get?_push_of_some _ e
  have hu : (h1.push (PySem.W.kxs_mw "ValueError.__init__" a)).get? h1.objs.size = some (PySem.W.kxs_mw "ValueError.__init__" a) := Heap.get?_push_at rfl rfl
  refine PySem.W.kxs_callWith (i := "ValueError.__init__") (x := a) (by rfl) ?_
  have est : starEach [Expr.Constant (.str z) kd p5] X.env = (false, eval (.Constant (.str z) kd p5) X.env) :: starEach [] X.env := by rfl
  rw [est]
  refine Calls.evalArgs_plain ?_
  show wpAny _ _ (spliced ((false, eval (.Constant (.str z) kd p5) X.env) :: [])) _ _ _
  refine Calls.spliced_cons (Calls.Constant_str (Calls.spliced_nil ⟨hu, ?_⟩))
  exact sup_call T (I2.tok _) e hu (by rw [sizeLine_eq]; exact (by decide : 1 ≤ 16777216)) hq
end
abbrev exPs (fs : List Str) : List Str := "self" :: fs
abbrev exNs (fs : List Str) : List Str := exPs fs ++ [("__class__" : Str)]
abbrev exF (qual : Str) (st : Stmt) (cc cda : Addr) : NdefX.NF := ⟨"__init__", qual, defArgs st, defBody st, defScope st, [("__class__", cc)], cda⟩
/-- what the top has left of an own exception's class: its __init__ (a def with the cell of __class__), its fields' names -/
structure Exn (K : PySem.W.Frag) (mg : Str → Option Value) (x : Str) (C : Addr) (qual : Str) (st : Stmt) (fs : List Str) : Prop where
  oex : OexC K C
  glo : mg x = some (.ref C)
  sup : mg "super" = none
  fn : ∃ (f cc cda : Addr) (kV doc pm ct oc ccl cl : Value) (an od cdd cld : Option Addr) (osl ccs csl : Array (Option Value)) (vs : Array Value) (tf : Tok), PySem.W.findIn K (.ref C) "__init__" = some (some (.ref f)) ∧ PySem.W.typeIn K (.ref f) = some (.type "function") ∧
    K.lookup f = some ⟨oc, od, .func (PySem.W.fnX "__init__" qual (defArgs st) (defBody st) (defScope st) [("__class__", cc)] .none kV doc pm an (.ref cda) ct), osl⟩ ∧ PySem.W.codeIn K (.ref cda) qual = true ∧
    K.lookup cda = some ⟨ccl, cdd, .fields vs, ccs⟩ ∧ vs[2]? = some (.str "/claim/cut.py" tf) ∧ K.lookup cc = some ⟨cl, cld, .cell (some (.ref C)), csl⟩
  any : PySem.W.nsIn K cStatics "thirdparty.any" = some none
  up : PySem.W.ks_superIn K C C "__init__" = some (some (.builtin "ValueError.__init__"))
  sub : PySem.W.mroIn K C (.ref C) = some true
  ve : PySem.W.subIn K (.ref C) (.type "ValueError") = some true
  no : ∀ f ∈ fs, PySem.W.findIn K (.ref C) f = some none
  xf : XfC K C
/-- an own exception that may be made: sp its __init__ -/
structure Exm (P : Program) (w : World) (K : PySem.W.Frag) (mg : Str → Option Value) (base : Heap) (k : Nat) (x : Str) (C : Addr) (sp : Sp) : Prop where
  ex : ∃ (f : Addr) (fd : FuncData) (ps : List Str), OexC K C ∧ mg x = some (.ref C) ∧ PySem.W.findIn K (.ref C) "__init__" = some (some (.ref f)) ∧ PySem.W.typeIn K (.ref f) = some (.type "function") ∧ FnOk P w K mg base (L2.CX P w) k f fd ps sp ∧ Binds K fd ps []
theorem Exm.mono {P : Program} {w : World} {K : PySem.W.Frag} {mg : Str → Option Value} {base : Heap} {j k : Nat} {x : Str} {C : Addr} {sp : Sp} (c : Exm P w K mg base j x C sp) (h : j ≤ k) : Exm P w K mg base k x C sp :=
  let ⟨f, fd, ps, a, b, d, e, F, r⟩ := c.ex
  ⟨f, fd, ps, a, b, d, e, F.mono h, r⟩

section
variable {P : Program} [PM : PMain P] {w : World} {K : PySem.W.Frag} {mg : Str → Option Value} {base : Heap}
theorem exn_fn {x qual : Str} {C : Addr} {st : Stmt} {fs : List Str} {rest : List Stmt} {k : Nat} {sp : Sp} {ar : Arg} {z : Str} {kd : Nat} {p0 p1 p2 p3 p4 p5 : Pos} (D : Exn K mg x C qual st fs) (S : NdefX.NScope (exNs fs) (exPs fs) ["__class__"] (defScope st))
    (hbody : defBody st = .Expr (.Call (.Attribute (.Call (.Name "super" p0) [] [] p1) "__init__" p2) [.Constant (.str z) kd p5] [] p3) p4 :: rest)
    (hp : ((defArgs st).posonlyargs ++ (defArgs st).args).head? = some ar) (har : ar.arg = ("self" : Str)) (hks : (defScope st).names.lookup ("super" : Str) = some .globalImplicit)
    (hb : ∀ (kV doc pm : Value) (an : Option Addr) (cdv ct : Value) (cc : Addr) (us : List Value), us.length = (exPs fs).length → bindArgs (PySem.W.fnX "__init__" qual (defArgs st) (defBody st) (defScope st) [("__class__", cc)] .none kV doc pm an cdv ct) ⟨us, []⟩ = pure ((exPs fs).zip us))
    (hi : ∀ cc cda f L, interactive (NdefX.envF (exF qual st cc cda) f L) = false)
    (hev : ∀ cc cda f L, ∃ pl : Sem Bool, eval (.Call (.Attribute (.Call (.Name "super" p0) [] [] p1) "__init__" p2) [.Constant (.str z) kd p5] [] p3) (NdefX.envF (exF qual st cc cda) f L) = (do
      let ov ← attributeBase (.Call (.Name "super" p0) [] [] p1) "__init__" (NdefX.envF (exF qual st cc cda) f L) (eval (.Call (.Name "super" p0) [] [] p1) (NdefX.envF (exF qual st cc cda) f L))
      standAt p2.atName
      let (g, first) ← holding [ov] (getMethod ov "__init__" pl)
      callWith p3 g first (backTo p3 (starEach [.Constant (.str z) kd p5] (NdefX.envF (exF qual st cc cda) f L))) []))
    (len : ∀ vs H Q E, sp vs H Q E → ∃ a ws, vs = .ref a :: ws ∧ ws.length = fs.length ∧ H a = some (exo a C none))
    (hr : ∀ (cc cda f : Addr) (A : Around) (outer : List Env) (s : Shared) (H : Hp) (vs : List V) (Q : VK) (E : XK), sp vs H Q E →
      ∃ t, PSs (NdefX.ncx (L2.CX P w) P w K mg base (exNs fs) (exF qual st cc cda) f A outer s H E) rest t ∧ t { nx := fun _ H' => Q .non H', rt := Q } (NdefX.startF (exNs fs) vs [none]) H) : Exm P w K mg base (k + 1) x C sp := by
  obtain ⟨f, cc, cda, kV, doc, pm, ct, oc, ccl, cl, an, od, cdd, cld, osl, ccs, csl, cvs, tf, iC, tI, lk, hcd, hcode, hvs, hcell⟩ := D.fn
  refine ⟨f, PySem.W.fnX "__init__" qual (defArgs st) (defBody st) (defScope st) [("__class__", cc)] .none kV doc pm an (.ref cda) ct, exPs fs, D.oex, D.glo, iC, tI, ⟨fun vs H Q E h => ?_, fun A outer s H args us vs Q E hr0 e0 hbi r hsp => ?_⟩, Binds.all (hb kV doc pm an _ ct cc)⟩
  · obtain ⟨a, ws, rfl, h2, _⟩ := len _ _ _ _ h
    rw [List.length_cons, List.length_cons, h2]
  obtain ⟨a, ws, rfl, hwl, hea⟩ := len _ _ _ _ hsp
  have hl : (V.ref a :: ws).length = (exPs fs).length := by rw [List.length_cons, List.length_cons, hwl]
  have KX : K.In s.heap := e0.mod.kin.keeps fun b o e => (e0.bs b o e).1
  have lim : s.heap.NoLimit := e0.mod.nolimit.keeps fun b o e => (e0.bs b o e).1
  have hCn : H cc = none := (e0.bs cc _ (e0.mod.kin _ _ hcell)).2
  refine ks_codeAny_call_defAt (body := defBody st) (binds := (exPs fs).zip us) hr0.depth (KX _ _ lk) rfl lim (PySem.W.codeRec_of KX hcd) rfl hbi S.nocell (fun ⟨n, _⟩ hy => S.par n (List.of_mem_zip hy).1) (fun h₁ hns kp => ?_) S.co S.gen S.kind
  have CA : NdefX.CellsAt [("__class__", cc)] ["__class__"] [none] s.heap H := by
    have hx : ∀ (y : Str) (c : Addr), [(("__class__" : Str), cc)].lookup y = some c → c = cc := fun y c e => by
      simp only [List.lookup] at e
      split at e
      · exact (Option.some.inj e).symm
      · cases e
    refine ⟨rfl, fun y c e => ?_, fun x y c e1 e2 => ?_, fun i y e => ?_⟩
    · obtain rfl := hx y c e
      exact ⟨hCn, _, _, KX _ _ hcell, rfl⟩
    · have q : ∀ (y : Str) (c : Addr), [(("__class__" : Str), cc)].lookup y = some c → y = "__class__" := fun y c e => by
        simp only [List.lookup] at e
        split at e
        · rename_i hb
          exact eq_of_beq hb
        · cases e
      rw [q x c e1, q y c e2]
    · cases i with
      | zero =>
        obtain rfl := Option.some.inj (show some (("__class__" : Str)) = some y from e)
        refine ⟨cc, by rfl, fun v hv => ?_⟩
        have hv : some (none : Option V) = some (some v) := hv
        cases hv
      | succ i => cases (show (none : Option Str) = some y from e)
  have I := NdefX.inv_startN (CX := L2.CX P w) (E := E) (f := f) (tk := s.toks + ((exPs fs).zip us).length) (F := exF qual st cc cda) S hr0.hd e0 hl r CA hns kp
  obtain ⟨t, ht, hq⟩ := hr cc cda f A outer s H _ Q E hsp
  have fin : ∀ {σ' : L2.St} {H' : Hp} {v : V} {u : Value} {s' : Shared}, Inv (NdefX.ncx (L2.CX P w) P w K mg base (exNs fs) (exF qual st cc cda) f A outer s H E) [] σ' H' s' → L2.RelV v u → Q v H' → CE outer P w H s Q u s' :=
    fun {σ' H' v u s'} J rv q => ⟨v, H', J.os, J.bare, J.base, J.hok, rv, q⟩
  have key : ∀ b, b = defBody st → PySem.wpAt (model P w) (A.deeper (NdefX.envF (exF qual st cc cda) f s.heap.objs.size)) (.func b (NdefX.envF (exF qual st cc cda) f s.heap.objs.size)) (execs b (NdefX.envF (exF qual st cc cda) f s.heap.objs.size))
      (fun fl s' => CR (L2.CX P w) outer P w H s Q E (.ok (.ret (match fl with | .ret v => v | _ => .none))) s') (NdefX.ncx (L2.CX P w) P w K mg base (exNs fs) (exF qual st cc cda) f A outer s H E).xe { s with heap := h₁, toks := s.toks + ((exPs fs).zip us).length } := by
    intro b hbb
    rw [hbody] at hbb
    subst hbb
    refine ks_wpAt_execs_cons ?_
    obtain ⟨pl, hpl⟩ := hev cc cda f s.heap.objs.size
    refine sup_ok (PM := PM) (X := NdefX.ncx (L2.CX P w) P w K mg base (exNs fs) (exF qual st cc cda) f A outer s H E) (a := a) (C := C) (f := f) (cda := cda) (cc := cc) (ar := ar) I D.oex hea (by rfl) (by rfl) (S.par _ (List.mem_cons_self ..)) rfl lk hp har rfl hcode hvs hks (S.frk _ (List.mem_cons_self ..)) rfl hcell D.sup D.any D.up D.sub D.ve (hi ..) (by rfl) hpl fun s' J => ?_
    refine wpAt_of_wpAny (wpAny_mono (ht.run [] _ _ H _ J hq) (fun fl s' hs => ?_) fun e s' hs => hs)
    cases fl with
    | ret u =>
      obtain ⟨v, σ', H', J, rv, q⟩ := hs
      exact fin J rv q
    | next =>
      obtain ⟨σ', H', J, q⟩ := hs
      exact fin (v := V.non) (u := Value.none) J rfl q
    | brk =>
      obtain ⟨_, _, _, q⟩ := hs
      exact False.elim q
    | cont =>
      obtain ⟨_, _, _, q⟩ := hs
      exact False.elim q
  exact key _ rfl
end
/-- what the text has of such an __init__ -/
structure ExS (qual : Str) (st : Stmt) (fs : List Str) (rest : List Stmt) : Prop where
  S : NdefX.NScope (exNs fs) (exPs fs) ["__class__"] (defScope st)
  body : ∃ (z : Str) (kd : Nat) (p0 p1 p2 p3 p4 p5 : Pos), defBody st = .Expr (.Call (.Attribute (.Call (.Name "super" p0) [] [] p1) "__init__" p2) [.Constant (.str z) kd p5] [] p3) p4 :: rest ∧
    (∀ cc cda f L, interactive (NdefX.envF (exF qual st cc cda) f L) = false) ∧
    (∀ cc cda f L, ∃ pl : Sem Bool, eval (.Call (.Attribute (.Call (.Name "super" p0) [] [] p1) "__init__" p2) [.Constant (.str z) kd p5] [] p3) (NdefX.envF (exF qual st cc cda) f L) = (do
      let ov ← attributeBase (.Call (.Name "super" p0) [] [] p1) "__init__" (NdefX.envF (exF qual st cc cda) f L) (eval (.Call (.Name "super" p0) [] [] p1) (NdefX.envF (exF qual st cc cda) f L))
      standAt p2.atName
      let (g, first) ← holding [ov] (getMethod ov "__init__" pl)
      callWith p3 g first (backTo p3 (starEach [.Constant (.str z) kd p5] (NdefX.envF (exF qual st cc cda) f L))) []))
  ar : ∃ ar, ((defArgs st).posonlyargs ++ (defArgs st).args).head? = some ar ∧ ar.arg = ("self" : Str)
  ks : (defScope st).names.lookup ("super" : Str) = some .globalImplicit
  bind : ∀ (kV doc pm : Value) (an : Option Addr) (cdv ct : Value) (cc : Addr) (us : List Value), us.length = (exPs fs).length → bindArgs (PySem.W.fnX "__init__" qual (defArgs st) (defBody st) (defScope st) [("__class__", cc)] .none kV doc pm an cdv ct) ⟨us, []⟩ = pure ((exPs fs).zip us)
/-- the exception at a with its dict at dx -/
def exH (H : Hp) (a C dx : Addr) (l : List (Str × V)) : Hp := upd (upd H dx (exd dx l)) a (exo a C (some dx))
/-- what such an __init__ does -/
def spE (C : Addr) (fs : List Str) : Sp := fun vs H Q _ => ∃ a ws, vs = .ref a :: ws ∧ ws.length = fs.length ∧ H a = some (exo a C none) ∧ (fs = [] → Q .non H) ∧ (fs ≠ [] → ∀ dx, H dx = none → dx ≠ a → Q .non (exH H a C dx (fs.zip ws).reverse))
theorem exH_next {H : Hp} {a C dx : Addr} {l l' : List (Str × V)} (h : dx ≠ a) : upd (exH H a C dx l) dx (exd dx l') = exH H a C dx l' := by
  funext b
  unfold exH upd
  by_cases h1 : b = dx
  · subst h1
    rw [if_pos rfl, if_neg h, if_pos rfl]
  · rw [if_neg h1]
    by_cases h2 : b = a
    · rw [if_pos h2, if_pos h2]
    · rw [if_neg h2, if_neg h2, if_neg h1, if_neg h1]
section
variable {P : Program} [PM : PMain P] {w : World} {K : PySem.W.Frag} {mg : Str → Option Value} {base : Heap} {k : Nat} {x qual : Str} {C : Addr} {st : Stmt} {f1 f2 f3 : Str} {q1 q2 q3 q4 q5 q6 q7 q8 q9 q10 q11 q12 : Pos} {rest : List Stmt}
theorem exn0 (D : Exn K mg x C qual st []) (W : ExS qual st [] []) : Exm P w K mg base (k + 1) x C (spE C []) := by
  obtain ⟨z, kd, p0, p1, p2, p3, p4, p5, hb, hi, hev⟩ := W.body
  obtain ⟨ar, hp, har⟩ := W.ar
  refine exn_fn D W.S hb hp har W.ks W.bind hi hev (fun vs H Q E ⟨a, ws, e1, e2, e3, _⟩ => ⟨a, ws, e1, e2, e3⟩) fun cc cda f A outer s H vs Q E h => ?_
  obtain ⟨a, ws, e1, e2, e3, e4, _⟩ := h
  exact ⟨_, pss_nil, e4 rfl⟩
theorem exn1 (D : Exn K mg x C qual st [f1]) (W : ExS qual st [f1] rest) (hr : rest = [.Assign [.Attribute (.Name "self" q1) f1 q2] (.Name f1 q3) q4] := by rfl) (hd : (f1 == ("__debug__" : Str)) = false := by decide) (hc : (f1 == ("__classdict__" : Str)) = false := by decide) : Exm P w K mg base (k + 1) x C (spE C [f1]) := by
  subst hr
  obtain ⟨z, kd, p0, p1, p2, p3, p4, p5, hb, hi, hev⟩ := W.body
  obtain ⟨ar, hp, har⟩ := W.ar
  refine exn_fn D W.S hb hp har W.ks W.bind hi hev (fun vs H Q E ⟨a, ws, e1, e2, e3, _⟩ => ⟨a, ws, e1, e2, e3⟩) fun cc cda f A outer s H vs Q E h => ?_
  obtain ⟨a, ws, e1, e2, e3, _, e4⟩ := h
  subst e1
  obtain ⟨y, rfl⟩ : ∃ y, ws = [y] := by
    match ws, e2 with
    | [y], _ => exact ⟨y, rfl⟩
  refine ⟨_, pss_one (ps_ost (pe_var (i := 0) rfl (.inl (W.S.par _ (by simp)))) (pe_var (i := 1) rfl (.inl (W.S.par _ (by simp))) hd hc)), ?_⟩
  exact ⟨y, rfl, .ref a, rfl, a, C, rfl, D.oex, D.no _ (by simp), .inl ⟨e3, fun dx h1 h2 => e4 (by simp) dx h1 h2⟩⟩
theorem exn2 (D : Exn K mg x C qual st [f1, f2]) (W : ExS qual st [f1, f2] rest) (hr : rest = [.Assign [.Attribute (.Name "self" q1) f1 q2] (.Name f1 q3) q4, .Assign [.Attribute (.Name "self" q5) f2 q6] (.Name f2 q7) q8] := by rfl)
    (hd : (f1 == ("__debug__" : Str)) = false := by decide) (hc : (f1 == ("__classdict__" : Str)) = false := by decide) (hd2 : (f2 == ("__debug__" : Str)) = false := by decide) (hc2 : (f2 == ("__classdict__" : Str)) = false := by decide) : Exm P w K mg base (k + 1) x C (spE C [f1, f2]) := by
  subst hr
  obtain ⟨z, kd, p0, p1, p2, p3, p4, p5, hb, hi, hev⟩ := W.body
  obtain ⟨ar, hp, har⟩ := W.ar
  refine exn_fn D W.S hb hp har W.ks W.bind hi hev (fun vs H Q E ⟨a, ws, e1, e2, e3, _⟩ => ⟨a, ws, e1, e2, e3⟩) fun cc cda f A outer s H vs Q E h => ?_
  obtain ⟨a, ws, e1, e2, e3, _, e4⟩ := h
  subst e1
  obtain ⟨y1, y2, rfl⟩ : ∃ y1 y2, ws = [y1, y2] := by
    match ws, e2 with
    | [y1, y2], _ => exact ⟨y1, y2, rfl⟩
  refine ⟨_, pss_cons (ps_ost (pe_var (i := 0) rfl (.inl (W.S.par _ (by simp)))) (pe_var (i := 1) rfl (.inl (W.S.par _ (by simp))) hd hc)) (pss_one (ps_ost (pe_var (i := 0) rfl (.inl (W.S.par _ (by simp)))) (pe_var (i := 2) rfl (.inl (W.S.par _ (by simp))) hd2 hc2))), ?_⟩
  refine ⟨y1, rfl, .ref a, rfl, a, C, rfl, D.oex, D.no _ (by simp), .inl ⟨e3, fun dx h1 h2 => ?_⟩⟩
  refine ⟨y2, rfl, .ref a, rfl, a, C, rfl, D.oex, D.no _ (by simp), .inr ⟨dx, [(f1, y1)], upd_same, (upd_ne h2).trans upd_same, by simp, ?_⟩⟩
  have e := e4 (by simp) dx h1 h2
  rw [← exH_next (l := [(f1, y1)]) h2] at e
  exact e
theorem exn3 (D : Exn K mg x C qual st [f1, f2, f3]) (W : ExS qual st [f1, f2, f3] rest) (hr : rest = [.Assign [.Attribute (.Name "self" q1) f1 q2] (.Name f1 q3) q4, .Assign [.Attribute (.Name "self" q5) f2 q6] (.Name f2 q7) q8, .Assign [.Attribute (.Name "self" q9) f3 q10] (.Name f3 q11) q12] := by rfl)
    (hd : (f1 == ("__debug__" : Str)) = false := by decide) (hc : (f1 == ("__classdict__" : Str)) = false := by decide) (hd2 : (f2 == ("__debug__" : Str)) = false := by decide) (hc2 : (f2 == ("__classdict__" : Str)) = false := by decide)
    (hd3 : (f3 == ("__debug__" : Str)) = false := by decide) (hc3 : (f3 == ("__classdict__" : Str)) = false := by decide) : Exm P w K mg base (k + 1) x C (spE C [f1, f2, f3]) := by
  subst hr
  obtain ⟨z, kd, p0, p1, p2, p3, p4, p5, hb, hi, hev⟩ := W.body
  obtain ⟨ar, hp, har⟩ := W.ar
  refine exn_fn D W.S hb hp har W.ks W.bind hi hev (fun vs H Q E ⟨a, ws, e1, e2, e3, _⟩ => ⟨a, ws, e1, e2, e3⟩) fun cc cda f A outer s H vs Q E h => ?_
  obtain ⟨a, ws, e1, e2, e3, _, e4⟩ := h
  subst e1
  obtain ⟨y1, y2, y3, rfl⟩ : ∃ y1 y2 y3, ws = [y1, y2, y3] := by
    match ws, e2 with
    | [y1, y2, y3], _ => exact ⟨y1, y2, y3, rfl⟩
  refine ⟨_, pss_cons (ps_ost (pe_var (i := 0) rfl (.inl (W.S.par _ (by simp)))) (pe_var (i := 1) rfl (.inl (W.S.par _ (by simp))) hd hc)) (pss_cons (ps_ost (pe_var (i := 0) rfl (.inl (W.S.par _ (by simp)))) (pe_var (i := 2) rfl (.inl (W.S.par _ (by simp))) hd2 hc2))
    (pss_one (ps_ost (pe_var (i := 0) rfl (.inl (W.S.par _ (by simp)))) (pe_var (i := 3) rfl (.inl (W.S.par _ (by simp))) hd3 hc3)))), ?_⟩
  refine ⟨y1, rfl, .ref a, rfl, a, C, rfl, D.oex, D.no _ (by simp), .inl ⟨e3, fun dx h1 h2 => ?_⟩⟩
  refine ⟨y2, rfl, .ref a, rfl, a, C, rfl, D.oex, D.no _ (by simp), .inr ⟨dx, [(f1, y1)], upd_same, (upd_ne h2).trans upd_same, by simp, ?_⟩⟩
  rw [show upd (upd (upd H dx (exd dx [(f1, y1)])) a (exo a C (some dx))) dx (exd dx [(f2, y2), (f1, y1)]) = exH H a C dx [(f2, y2), (f1, y1)] from exH_next (l := [(f1, y1)]) h2]
  refine ⟨y3, rfl, .ref a, rfl, a, C, rfl, D.oex, D.no _ (by simp), .inr ⟨dx, [(f2, y2), (f1, y1)], upd_same, (upd_ne h2).trans upd_same, by simp, ?_⟩⟩
  have e := e4 (by simp) dx h1 h2
  rw [← exH_next (l := [(f2, y2), (f1, y1)]) h2] at e
  exact e
end
/-! ### C(e, ..) made to be raised -/
/-- a reading that may be weakened -/
def taW (ta : TA) : TA := fun σ H P => ∃ P0 : List V → Hp → Prop, ta σ H P0 ∧ ∀ vs H1, P0 vs H1 → P vs H1
theorem pa_w {X : Cx} {es : List Expr} {ta : TA} (ha : PA X es ta) : PA X es (taW ta) := ⟨fun pos pins s σ H Q I ⟨P0, h, hp⟩ => thn (ha.run pos pins s σ H P0 I h) fun us s' ⟨vs, H', J, r, q⟩ => ⟨vs, H', J, r, hp _ _ q⟩⟩
/-- C(e, ..), C an own exception with the fields fs: its dict has them -/
def tExn (C : Addr) (fs : List Str) (ta : TA) : L2.St → Hp → XK → Prop := fun σ H Q => ta σ H fun vs H1 => vs.length = fs.length ∧ ∀ d, H1 d = none → Q (.ref C) (some d) (upd H1 d (.xd (fs.zip vs).reverse))
def tExn0 (C : Addr) : L2.St → Hp → XK → Prop := fun _ H Q => Q (.ref C) none H
theorem exH_end {H : Hp} {a C d : Addr} {l : List (Str × V)} (ha : H a = none) (hd : d ≠ a) : upd (del (exH (upd H a (exo a C none)) a C d l) a) d (.xd l) = upd H d (.xd l) := by
  funext b
  unfold exH upd del
  by_cases h1 : b = d
  · rw [if_pos h1, if_pos h1]
  · rw [if_neg h1, if_neg h1]
    by_cases h2 : b = a
    · rw [h2, ha]
      exact if_pos rfl
    · show (if b = a then none else _) = _
      rw [if_neg h2]
      show (if b = a then _ else if b = d then _ else if b = a then _ else H b) = _
      rw [if_neg h2, if_neg h1, if_neg h2]
section
variable {X : Cx} {e : Expr} {es : List Expr} {ta : TA} {p pos : Pos} {x : Str} {C : Addr} {k j : Nat} {fs : List Str}
theorem pmk_exn (c : Exm X.prog X.w X.K X.mg X.base k x C (spE C fs)) (hr : Room j X.A) (hk : k + 1 ≤ j) (hg : Gl X x) (ha : PA X (e :: es) ta) (hn : fs ≠ []) (hn2 : fs.length ≤ 1000 := by decide)
    (hdb : (x == ("__debug__" : Str)) = false := by decide) (he : starEach (e :: es) X.env = (false, eval e X.env) :: starEach es X.env := by rfl) (hpl : (backTo pos (starEach es X.env)).any (·.1) = false := by rfl) :
    PMk X (.Call (.Name x p) (e :: es) [] pos) (tExn C fs ta) := by
  obtain ⟨f, fd, ps, T, hm, iC, tI, F, b⟩ := c.ex
  intro pins s σ H Q I h
  refine pmk_oex T iC tI F (hr.mono hk) b .nil (fun pins σ H s e s' I hq => ?_) hg hm (pa_w ha) hdb he hpl pins s σ H Q I ?_
  · obtain ⟨_, _, _, _, _, _, _, _, _, _, _, _, z⟩ := hq
    exact z.elim
  · refine ⟨_, h, fun vs H1 ⟨hl, q⟩ => ⟨by omega, fun a ha => ?_⟩⟩
    rw [List.append_nil]
    refine ⟨a, vs, rfl, hl, upd_same, fun z => absurd z hn, fun _ dx h1 h2 => ⟨rfl, dx, (fs.zip vs).reverse, upd_same, (upd_ne h2).trans upd_same, ?_, ?_⟩⟩
    · rw [upd_ne h2] at h1
      exact h1
    · rw [exH_end ha h2]
      rw [upd_ne h2] at h1
      exact q dx h1
end
section
variable {X : Cx} {p pos : Pos} {x : Str} {C : Addr} {k j : Nat}
/-- the end of C(), an exception without fields -/
theorem mk_endN {pins : List (Addr × Obj)} {σ : L2.St} {H1 : Hp} {hp hp2 h2 : Heap} {g1 g2 : Array GenState} {d1 d2 : Drawn} {t1 t2 : Nat} {os1 os2 : OsState} {a : Addr} (I1 : Inv X pins σ H1 ⟨hp, g1, d1, t1, os1⟩)
    (ha : hp.objs.size ≤ a) (k : ∀ b o, hp.get? b = some o → hp2.get? b = some o) (un : Un (frs X.stack) [] (upd H1 a (exo a C none)) (upd H1 a (exo a C none)) hp2 h2) (hok : HOk X.prog X.w (upd H1 a (exo a C none)) h2) (ho : os2 = os1) (hb : AllBare g2) :
    ∃ (t0 : Addr) (G : Heap), Inv X pins σ H1 ⟨G, g2, d2, t2, os2⟩ ∧ (∀ b o, G.get? b = some o → h2.get? b = some o) ∧ G.get? a = none ∧
      h2.get? a = some ({ cls := .ref C, dict := none, data := .fields #[.ref t0, .none, .none, .none, .bool false, .none] } : Obj) ∧ H1 a = none := by
  obtain ⟨t0, hoe⟩ := exo_at hok upd_same
  have hn : H1 a = none := I1.hok.fresh ha
  obtain ⟨G, g1', g2'⟩ := restrict h2 fun b => decide (b ≠ a)
  have gk : ∀ b, b ≠ a → G.get? b = h2.get? b := fun b hb => g1' b (decide_eq_true hb)
  have ge : G.get? a = none := g2' a (by simp)
  have nha : ∀ {b : Addr} {o : Obj}, hp.get? b = some o → b ≠ a := fun {b o} z => Nat.ne_of_lt (Nat.lt_of_lt_of_le (Heap.lt_size z) ha)
  have up : ∀ {b : Addr}, b ≠ a → H1 b = none → upd H1 a (exo a C none) b = none := fun {b} hb n => by rw [upd_ne hb]; exact n
  have U : Un (frs X.stack) [] H1 H1 hp G := {
    keep := fun b o z n hf hx => by
      rw [gk b (nha z)]
      exact un.keep b o (k b o z) (up (nha z) n) hf hx
    slot := fun b o z n hf hx => by
      rw [gk b (nha z)]
      exact un.slot b o (k b o z) (up (nha z) n) hf hx
    free := fun b o z n hx => n
    there := fun b o z hx => by
      rw [gk b (nha z)]
      exact un.there b o (k b o z) hx
    tups := fun b xs z => z
    frzs := fun b o v z => z
    tbls := fun b ps z => ⟨#[], by rw [z]; simp⟩ }
  have hok3 : HOk X.prog X.w H1 G := fun b o z => by
    have hba : b ≠ a := fun e => by
      rw [e, hn] at z
      cases z
    have z2 : upd H1 a (exo a C none) b = some o := by rw [upd_ne hba]; exact z
    have noa : ∀ {c : Addr} {u : HO}, H1 c = some u → c ≠ a := fun {c u} hc e => by
      rw [e, hn] at hc
      cases hc
    have nox : ∀ {c : Addr}, upd H1 a (exo a C none) c = some (.own b) → c ≠ a := fun {c} hc => at_ne upd_same hc exo_own
    exact (hok b o z2).stay (fun c v hc y => by
        have hca : c ≠ a := by
          rcases hc with hc | hc
          · rw [hc]
            exact hba
          · exact nox hc
        rw [gk c hca]
        exact y)
      (fun c hc => by
        have e := nox hc
        rw [upd_ne e] at hc
        exact hc)
      (fun c xs hc => by
        have e : c ≠ a := at_ne upd_same hc exo_tup
        rw [upd_ne e] at hc
        exact hc)
  have J : Inv X pins σ H1 ⟨G, g2, d2, t2, os2⟩ := I1.call' (ch := []) ho U hok3 hb (fun b z => absurd z (by simp))
  refine ⟨t0, G, J, fun b o z => ?_, ge, hoe, hn⟩
  by_cases hba : b = a
  · rw [hba, ge] at z
    cases z
  · exact (gk b hba).symm.trans z
/-- C(), C an own exception without fields -/
theorem pmk_exn0 (c : Exm X.prog X.w X.K X.mg X.base k x C (spE C [])) (hr : Room j X.A) (hk : k + 1 ≤ j) (hg : Gl X x)
    (hdb : (x == ("__debug__" : Str)) = false := by decide) : PMk X (.Call (.Name x p) [] [] pos) (tExn0 C) := by
  obtain ⟨f, fd, ps, T, hm, iC, tI, F1, hb⟩ := c.ex
  intro pins s σ H Q I h
  obtain ⟨nm, q, N, bs, bm, sn, sub, ab, col, dd, k0, k1, k2, k3, k5, hC, hbm⟩ := T.cls
  refine wpAny_Call_Name_kw (ld_glob I hg hm ?_ hdb)
  refine PySem.W.callWith_K0 I.kIn T.kC ?_
  show wpAny _ _ (call (.ref C) []) _ _ _
  obtain ⟨hp, g, dr, tk, os⟩ := s
  have hsz : hp.objs.size ≤ hp.objs.size + 1 := Nat.le_succ _
  have hn : H (hp.objs.size + 1) = none := I.hok.fresh hsz
  have kk : ∀ b o, hp.get? b = some o → ((hp.push (PySem.W.kdv_tup [])).push (PySem.HandSPX.excO C hp.objs.size)).get? b = some o := fun b o e => Heap.get?_push_of_some _ (Heap.get?_push_of_some _ e)
  have hget : ((hp.push (PySem.W.kdv_tup [])).push (PySem.HandSPX.excO C hp.objs.size)).get? (hp.objs.size + 1) = some (PySem.HandSPX.excO C hp.objs.size) := by heap_get
  have I2 : Inv X pins σ (upd H (hp.objs.size + 1) (exo (hp.objs.size + 1) C none)) ⟨(hp.push (PySem.W.kdv_tup [])).push (PySem.HandSPX.excO C hp.objs.size), g, dr, tk, os⟩ :=
    I.laid (t' := tk) (a := hp.objs.size + 1) (o := exo (hp.objs.size + 1) C none) (h' := (hp.push (PySem.W.kdv_tup [])).push (PySem.HandSPX.excO C hp.objs.size)) kk hsz (exo_ok hget)
  have hq : spE C [] [V.ref (hp.objs.size + 1)] (upd H (hp.objs.size + 1) (exo (hp.objs.size + 1) C none)) (fun v H2 => v = .non ∧ H2 = upd H (hp.objs.size + 1) (exo (hp.objs.size + 1) C none)) (fun _ _ _ => False) := ⟨_, [], rfl, rfl, upd_same, fun _ => ⟨rfl, rfl⟩, fun z => absurd rfl z⟩
  have r2 : Vals [V.ref (hp.objs.size + 1)] [Value.ref (hp.objs.size + 1)] := .cons rfl .nil
  have hl : ([Value.ref (hp.objs.size + 1)] ++ []).length = ps.length := by
    rw [← F1.len _ _ _ _ hq]
    rfl
  refine wpAny_call (PySem.HandSPX.call_own F.excBase_ValueError (fun Y => PySem.HandSPX.refsVE_contains Y bm hbm) (I.kIn _ _ hC) (PySem.W.looks_findIn I.kIn iC) (fun self => PySem.W.bind_fn I.kIn self tI) (by rw [sizeLine_eq]; exact Nat.zero_le _)
    (codeAny_mono (F1.run _ X.stack _ _ ⟨[Value.ref (hp.objs.size + 1)], []⟩ [Value.ref (hp.objs.size + 1)] _ _ (fun _ _ _ => False) ((hr.mono hk).make C [] []) (I2.env0.make C [] []) (hb _ _ I2.kIn hl) r2 hq) fun r s' hq' => ?_))
  cases r with
  | error er =>
    obtain ⟨_, _, _, _, _, _, _, _, _, _, _, _, z⟩ := hq'
    exact z.elim
  | ok fl =>
    cases fl with
    | ret u =>
      obtain ⟨v, H2, os2, bare2, un2, hok2, rv, ev, eH⟩ := hq'
      subst ev
      subst eH
      obtain ⟨h2, g2, d2, t2, os'⟩ := s'
      obtain ⟨t0, G, J, kG, ge, hoe, na⟩ := mk_endN (d2 := d2) (t2 := t2) I hsz kk un2 hok2 os2 bare2
      exact ⟨rv, _, _, _, ⟨G, g2, d2, t2, os'⟩, _, .ref C, none, rfl, J, kG, ge, hoe, ⟨rfl, rfl⟩, rfl, rfl, na, rfl, bare2, raises_own T.exC T.tyC, h⟩
    | next => exact False.elim hq'
    | brk => exact False.elim hq'
    | cont => exact False.elim hq'
end
/-! ### calls that may raise: in a def that lets it out (passE), in a try (passAt) -/
theorem passE {X : Cx} {E : XK} {E₁ : Value → Shared → Prop} (hs : X.stack = X.env :: X.outer) (hf : X.env.frame = some X.env.locals) (hex : X.ex = [])
    (hx : X.xe = fun e s' => wpAny (model X.prog X.w) X.A (leaving X.env e) (fun _ s'' => L2.CX X.prog X.w X.outer X.H_0 X.s_0 E e s'') E₁ s') : Passes (L2.CX X.prog X.w) X E :=
  fun _ _ _ _ e s' I c => takes_of hs hf hex hx e s' (XE.of_call I (fun _ _ _ h => h) c)
def tMethS (C : Addr) (m : Str) (sp : Sp) (E : L2.St → XK) (ta : TE) (t : TA) : TE := fun σ H Q => ta σ H fun x H1 => ∃ a dx fs, x = .ref a ∧ H1 a = some (.ins C dx fs) ∧ fs.lookup m = none ∧ t σ H1 fun vs H2 => sp (x :: vs) H2 Q (E σ)
def tMakeS (C : Addr) (sp : Sp) (E : L2.St → XK) (t : TA) : TE := fun σ H Q => t σ H fun vs H1 => ∀ x dx, H1 x = none → H1 dx = none → dx ≠ x →
  sp (.ref x :: vs) (upd (upd H1 dx (.own x)) x (.ins C dx [])) (fun v H2 => v = .non ∧ Q (.ref x) H2) (E σ)
section
variable {X : Cx} {k j : Nat} {C : Addr} {x m : Str} {sp : Sp} {p pos apos : Pos} {e o : Expr} {es : List Expr} {ta : TE} {t : TA} {E : L2.St → XK}
theorem pe_cxS (c : Cal X.prog X.w X.K X.mg X.base k x sp []) (hr : Room j X.A) (hk : k ≤ j) (hg : Gl X x) (hx : ∀ σ, PassesAt (L2.CX X.prog X.w) X σ (E σ)) (ha : PA X (e :: es) t)
    (hdb : (x == ("__debug__" : Str)) = false := by decide) (he : starEach (e :: es) X.env = (false, eval e X.env) :: starEach es X.env := by rfl) (hpl : (backTo pos (starEach es X.env)).any (·.1) = false := by rfl) :
    PE X (.Call (.Name x p) (e :: es) [] pos) (tCallS sp E t) := by
  obtain ⟨f, fd, ps, ds, F, hm, kp, b, d⟩ := c.ex
  cases d
  exact pe_callS F (hr.mono hk) hg hm kp b hx ha hdb he hpl
theorem pe_mtxS {pl : Sem Bool} (c : Met X.prog X.w X.K X.mg X.base k C m sp []) (hr : Room j X.A) (hk : k ≤ j) (hx : ∀ σ, PassesAt (L2.CX X.prog X.w) X σ (E σ)) (he : PE X o ta) (ha : PA X (e :: es) t)
    (hst : starEach (e :: es) X.env = (false, eval e X.env) :: starEach es X.env := by rfl) (hpl : (backTo pos (starEach es X.env)).any (·.1) = false := by rfl)
    (ht : eval (.Call (.Attribute o m apos) (e :: es) [] pos) X.env = (do
      let ov ← eval o X.env
      standAt apos.atName
      let (f, first) ← holding [ov] (getMethod ov m pl)
      callWith pos f first (backTo pos (starEach (e :: es) X.env)) (backToKw pos (keywordEach [] X.env))) := by rfl) :
    PE X (.Call (.Attribute o m apos) (e :: es) [] pos) (tMethS C m sp E ta t) := by
  obtain ⟨f, fd, ps, ds, hc, hm, F, b, d⟩ := c.ex
  cases d
  refine ⟨fun pins s σ H Q I h => ?_⟩
  refine PySem.W.methodCall_KW (pl := pl) (thn (he.run pins s σ H _ I h) fun u s1 ⟨x, H1, I1, rx, a, dx, fs, ex, ea, l, q⟩ => ?_) ht
  subst ex
  obtain rfl : u = Value.ref a := rx
  refine getmeth_ok I1 ea hc hm l ?_
  refine PySem.W.callWith_K (first := [.ref a]) (h₀ := X.base) I.ok.mod.kin hm.kp (thn (ha.run pos pins s1 σ H1 _ I1 q) fun us s2 ⟨vs, H2, I2, r, q2⟩ => ⟨I2.kIn, ?_⟩) hst hpl
  exact run_fnS (us := .ref a :: us) (vs := .ref a :: vs) F (hr.mono hk) b (hx σ) I2 (.cons rfl r) q2
theorem pe_mkxS (c : Mak X.prog X.w X.K X.mg X.base k x C sp []) (hr : Room j X.A) (hk : k + 1 ≤ j) (hg : Gl X x) (hx : ∀ σ, PassesAt (L2.CX X.prog X.w) X σ (E σ)) (ha : PA X (e :: es) t)
    (hdb : (x == ("__debug__" : Str)) = false := by decide) (he : starEach (e :: es) X.env = (false, eval e X.env) :: starEach es X.env := by rfl) (hpl : (backTo pos (starEach es X.env)).any (·.1) = false := by rfl) :
    PE X (.Call (.Name x p) (e :: es) [] pos) (tMakeS C sp E t) := by
  obtain ⟨f, fd, ps, ds, M, F, hm, b, d⟩ := c.ex
  cases d
  refine ⟨fun pins s σ H Q I h => ?_⟩
  refine wpAny_Call_Name_kw (ld_glob I hg hm ?_ hdb)
  refine PySem.W.callWith_K (h₀ := X.base) I.ok.mod.kin M.kp (thn (ha.run pos pins s σ H _ I h) fun us s1 ⟨vs, H1, I1, r, q⟩ => ⟨I1.kIn, ?_⟩) he hpl
  have hq := q (s1.heap.objs.size + 1) s1.heap.objs.size (I1.hok.fresh (Nat.le_succ _)) (I1.hok.fresh (Nat.le_refl _)) (Nat.ne_of_lt (Nat.lt_succ_self _))
  have I2 := Inv.made (C := C) I1
  have r2 : Vals (V.ref (s1.heap.objs.size + 1) :: vs) (Value.ref (s1.heap.objs.size + 1) :: us) := .cons rfl r
  have hl : (Value.ref (s1.heap.objs.size + 1) :: us ++ []).length = ps.length := by
    have e := r2.length
    rw [F.len _ _ _ _ hq] at e
    rw [List.append_nil]
    exact e.symm
  have bb := b _ (Value.ref (s1.heap.objs.size + 1) :: us) I2.kIn hl
  rw [List.append_nil] at bb
  refine wpAny_call (make_map (f := f) I1.kIn M.makes M.init (beq_iff_eq.mp M.fn) (codeAny_mono (F.run _ X.stack _ _ ⟨Value.ref (s1.heap.objs.size + 1) :: us, []⟩ (Value.ref (s1.heap.objs.size + 1) :: us) _ _ (E σ) ((hr.mono hk).make C us [])
    (I2.env0.make C us []) bb r2 hq) fun r s' hq' => ?_))
  cases r with
  | error e => exact hx σ pins _ _ e s' I2 hq'
  | ok fl =>
    cases fl with
    | ret u =>
      obtain ⟨v, H', I3, rv, ev, q3⟩ := I2.after hq'
      subst ev
      exact ⟨rv, ⟨V.ref (s1.heap.objs.size + 1), H', I3, rfl, q3⟩⟩
    | next => exact False.elim hq'
    | brk => exact False.elim hq'
    | cont => exact False.elim hq'
end
/-- no exception of the body goes further than the clauses -/
theorem takesN {X : Cx} : Takes X (fun _ _ _ _ => False) := fun _ _ x => by
  obtain ⟨_, _, _, _, _, _, _, _, _, _, _, _, _, _, _, _, z⟩ := x
  exact z.elim
/-- the clause of an own class tells of an exception of a class -/
theorem Exn.exm {K : PySem.W.Frag} {mg : Str → Option Value} {x qual : Str} {C : Addr} {st : Stmt} {fs : List Str} (D : Exn K mg x C qual st fs) {cls : Value} {b : Bool} (h : PySem.W.subIn K cls (.ref C) = some b) : PySem.W.exmOne K cls (.ref C) = some b :=
  PySem.W.exm_ref D.oex.exC (by
    obtain ⟨nm, q, N, bs, bm, sn, sub, ab, col, dd, k0, k1, k2, k3, k5, hC, hbm⟩ := D.oex.cls
    unfold PySem.W.hasDictIn PySem.W.clsIn
    rw [hC]
    rfl) D.oex.tyC h
theorem Exn.self {K : PySem.W.Frag} {mg : Str → Option Value} {x qual : Str} {C : Addr} {st : Stmt} {fs : List Str} (D : Exn K mg x C qual st fs) : PySem.W.exmOne K (.ref C) (.ref C) = some true := D.exm (by
  have e := D.sub
  unfold PySem.W.subIn
  first | exact e | (simp [e]))
end Tr

/-! # a, b = an item that is a tuple or a list. -/
namespace Tr
open PySem PySem.Spec PyProof.Rows L2
/-- a tuple or a list -/
def SqE (K : PySem.W.Frag) (H : Hp) (a : Addr) (xs : List V) : Prop := SqT K H a xs ∨ SqL K H a xs
/-- a, b, .. = a tuple or a list of that length -/
def gSeq (K : PySem.W.Frag) (n : Nat) (t : TGs) : TG := fun v σ H Q => ∃ a xs, v = .ref a ∧ SqE K H a xs ∧ xs.length = n ∧ t xs σ H Q
theorem pg_seq {X : Cx} {pos : Pos} {es : List Expr} {k : Nat} {t : TGs} {n : Nat} (hc : X.calm = true) (h : PGs X es t)
    (hn : (assignEach es X.env).length = n := by rfl) (hst : (assignEach es X.env).findIdx? (·.1) = none := by rfl) : PG X (.Tuple es k pos) (gSeq X.K n t) := by
  refine ⟨fun pins s σ H v u Q I r hw => ?_⟩
  obtain ⟨a, xs, e1, hq, hl, hw⟩ := hw
  rcases hq with hq | hq
  · exact (pg_tup hc h hn hst).run pins s σ H v u Q I r ⟨a, xs, e1, hq, hl, hw⟩
  · exact (pg_lst hc h hn hst).run pins s σ H v u Q I r ⟨a, xs, e1, hq, hl, hw⟩
end Tr

/-! # A method that answers NotImplemented; == of an object and a thing of another kind. -/
namespace Tr
open PySem PySem.Spec PyProof.Rows L2
/-- statements that end by NotImplemented, the heap as it was -/
structure PNi (X : Cx) (st : List Stmt) (t : L2.St → Hp → Prop) : Prop where
  run : ∀ (pins : List (Addr × Obj)) (s : Shared) (σ : L2.St) (H : Hp), Inv X pins σ H s → t σ H → wpAny (model X.prog X.w) X.A (execs st X.env) (fun f s' => f = .ret .notImplemented ∧ ∃ σ', Inv X pins σ' H s') X.xe s
theorem pni_ret {X : Cx} {pos p2 : Pos} {rest : List Stmt} (hg : Gl X "NotImplemented") (hm : X.mg "NotImplemented" = none) : PNi X (.Return (some (.Name "NotImplemented" pos)) p2 :: rest) fun _ _ => True := by
  refine ⟨fun pins s σ H I _ => ?_⟩
  refine wpAny_execs_cons (wpAny_Return_some (ld_blt I hg hm (u := .notImplemented) (by rfl) ?_))
  exact ⟨rfl, σ, I⟩
theorem pni_if {X : Cx} {c : Expr} {a b : List Stmt} {pos : Pos} {rest : List Stmt} {tc : TT} {t : L2.St → Hp → Prop} (hc : PT X c tc) (ha : PNi X a t) : PNi X (.If c a b pos :: rest) fun σ H => tc σ H fun d H' => d = true ∧ H' = H ∧ t σ H := by
  refine ⟨fun pins s σ H I h => ?_⟩
  refine wpAny_execs_cons (wpAny_If (thn (hc.run pins s σ H _ I h) fun d s1 ⟨H1, I1, q1⟩ => ?_))
  obtain ⟨rfl, rfl, q⟩ := q1
  refine thn (ha.run pins s1 σ H1 I1 q) fun f s2 q2 => ?_
  obtain ⟨rfl, q2⟩ := q2
  exact ⟨rfl, q2⟩
theorem PNi.nox {X : Cx} {st : List Stmt} {t : L2.St → Hp → Prop} (h : PNi X.nox st t) : PNi X st t := ⟨fun pins s σ H I q => wpAny_mono (h.run pins s σ H (I.wish _) q) (fun _ _ ⟨e, σ', I'⟩ => ⟨e, σ', I'.unwish⟩) fun _ _ z => False.elim z⟩
/-- the end of such a call -/
def CNi (outer : List Env) (P : Program) (w : World) (H : Hp) (s : Shared) (r : Result) (s' : Shared) : Prop :=
  r = .ok (.ret .notImplemented) ∧ s'.os = s.os ∧ AllBare s'.gens ∧ Un (frs outer) [] H H s.heap s'.heap ∧ HOk P w H s'.heap
structure FnNi (P : Program) (w : World) (K : PySem.W.Frag) (mg : Str → Option Value) (base : Heap) (k : Nat) (f : Addr) (fd : FuncData) (ps : List Str) (sp : List V → Hp → Prop) : Prop where
  len : ∀ vs H, sp vs H → vs.length = ps.length
  run : ∀ (A : Around) (outer : List Env) (s : Shared) (H : Hp) (args : Args) (us : List Value) (vs : List V), Room k A → Env0 P w K mg base A outer s H → BindsTo s fd args (ps.zip us) → Vals vs us → sp vs H →
    codeAny (model P w) A (.call (.ref f) args) (CNi outer P w H s) s
/-- a method that answers NotImplemented -/
structure NiMet (P : Program) (w : World) (K : PySem.W.Frag) (mg : Str → Option Value) (base : Heap) (k : Nat) (C : Addr) (m : Str) (sp : List V → Hp → Prop) : Prop where
  ex : ∃ (f : Addr) (fd : FuncData) (ps : List Str), Cls K C ∧ Meth K C m f ∧ FnNi P w K mg base k f fd ps sp ∧ Binds K fd ps []
section
variable {P : Program} {w : World} {K : PySem.W.Frag} {mg : Str → Option Value} {base : Heap}
theorem fni_of {k : Nat} {f : Addr} {name qual : Str} {params : Arguments} {body : List Stmt} {scope : Scope} {dV kV doc pm cdv ct oc : Value} {an od : Option Addr}
    {osl : Array (Option Value)} {N ps : List Str} {sp : List V → Hp → Prop} (lk : K.lookup f = some ⟨oc, od, .func (PySem.W.fnOf name qual params body scope dV kV doc pm an cdv ct), osl⟩) (hcd : PySem.W.codeIn K cdv qual = true) (S : FnScope N ps scope)
    (len : ∀ vs H, sp vs H → vs.length = ps.length)
    (hbody : ∀ (A : Around) (outer : List Env) (s : Shared) (H : Hp) (vs : List V) (E : XK), Room k (A.deeper (envOfC qual scope s.heap.objs.size f cdv)) → sp vs H →
      ∃ t, PNi (cxOf (L2.CX P w) P w K mg base N qual scope f cdv A outer s H E).nox body t ∧ t (start N vs) H) :
    FnNi P w K mg base (k + 1) f (PySem.W.fnOf name qual params body scope dV kV doc pm an cdv ct) ps sp := by
  refine ⟨len, fun A outer s H args us vs hr e0 hb r hsp => ?_⟩
  have stands : ∀ b o, base.get? b = some o → s.heap.get? b = some o := fun b o e => (e0.bs b o e).1
  have inK := e0.mod.kin.keeps stands
  obtain ⟨t, body_, start_⟩ := hbody A outer s H vs (fun _ _ _ => False) (hr.deeper _) hsp
  refine codeAny_call_function hr.depth (inK _ _ lk) rfl S.co S.gen rfl (PySem.W.codeRec_of inK hcd) (hb _ _ _ _ (wpAny_newFunctionEnv_cells S.kind (fun y hy => ?_) fun env he s1 x => ?_))
  · exact (S.par y.1 (List.of_mem_zip hy).1).imp id fun q => ⟨q, PySem.W.cellsFrom_some _ _ _ (.inl q)⟩
  · subst he
    refine ⟨(e0.mod.nolimit.keeps stands).keeps x.toInCall.keep, codeAny_func ?_⟩
    have begun := inv_start (CX := L2.CX P w) (E := fun _ _ _ => False) S hr.hd e0 (len _ _ hsp) r x
    refine wpAny_mono (body_.run [] s1 _ H (begun.wish _) start_) (fun fl s' ended => ?_) fun _ _ z => False.elim z
    obtain ⟨rfl, σ', J⟩ := ended
    exact ⟨rfl, J.os, J.bare, J.base, J.hok⟩
theorem niN {m qual : Str} {C : Addr} {st : Stmt} {N ps : List Str} {k : Nat} {sp : List V → Hp → Prop} (D : Mth K C m qual st) (S : FnScope N ps (defScope st)) (len : ∀ vs H, sp vs H → vs.length = ps.length)
    (hb : ∀ (kV doc pm : Value) (an : Option Addr) (cdv ct : Value) (us : List Value), us.length = ps.length → bindArgs (PySem.W.fnOf m qual (defArgs st) (defBody st) (defScope st) .none kV doc pm an cdv ct) ⟨us, []⟩ = pure (ps.zip us))
    (hbody : ∀ (f : Addr) (cdv : Value) (A : Around) (outer : List Env) (s : Shared) (H : Hp) (vs : List V) (E : XK), Room k (A.deeper (envOfC qual (defScope st) s.heap.objs.size f cdv)) → sp vs H →
      ∃ t, PNi (cxOf (L2.CX P w) P w K mg base N qual (defScope st) f cdv A outer s H E).nox (defBody st) t ∧ t (start N vs) H) : NiMet P w K mg base (k + 1) C m sp := by
  obtain ⟨f, fd, hm, F⟩ := D.ex
  have F0 := F
  obtain ⟨oc, od, kV, doc, pm, an, cdv, ct, osl, rfl, lk, hcd⟩ := F.ex
  exact ⟨f, _, ps, D.cls, hm, fni_of lk hcd S len fun A outer s H vs E hr h => hbody f cdv A outer s H vs E hr h, F0.binds hb⟩
end
/-! ## richCompare -/
section
variable {M : Model} {A : Around} {E : Value → Shared → Prop} {s : Shared}
/-- == where both decline -/
theorem eq_ni {prog : Program} {w : World} {K : PySem.W.Frag} {x C f : Addr} {tb : String} {b : Value} {ox : Obj} {od : Option Obj} {R R2 : Shared → Prop} {Q : Value → Shared → Prop} (hu : A.units < cLine) (X : K.In s.heap) (I : PySem.W.InstAt s.heap x ox C od)
    (hb : PySem.W.Looks (model prog w) s.heap (typeOf b) (.type tb)) (hn : PySem.W.subIn K (.type tb) (.ref C) = some false) (hs : PySem.W.findIn K (.ref C) "__eq__" = some (some (.ref f))) (hf : PySem.W.isFn K (.ref f) = true)
    (h1 : wpAny (model prog w) A (call (.ref f) [.ref x, b]) (fun v s' => v = .notImplemented ∧ R s') E s)
    (h2 : ∀ s', R s' → wpAny (model prog w) A (tryCompare b "__eq__" (.ref x)) (fun r s' => r = none ∧ R2 s') E s')
    (h3 : ∀ s', R2 s' → wpAny (model prog w) A (isSame (.ref x) b) (fun c s'' => Q (.bool c) s'') E s') : wpAny (model prog w) A (richCompare .Eq (.ref x) b) Q E s := by
  have one : wpAny (model prog w) A (tryCompare (.ref x) "__eq__" b) (fun r s' => r = none ∧ R s') E s := by
    unfold tryCompare
    refine wpAny_bind (PySem.W.ifBound_K X I hs hf (wpAny_mono h1 (fun v s' hv => ?_) fun _ _ e => e))
    obtain ⟨rfl, hv⟩ := hv
    exact wpAny_pure ⟨rfl, hv⟩
  simp only [richCompare, cmpInfo_Eq, oneThing_ref]
  refine wpAny_holding (wpAny_bind (wpAny_cRoomFor hu ?_))
  refine wpAny_bind (I.type.here (wpAny_bind (hb.here ?_)))
  split
  · refine wpAny_bind ((PySem.W.looks_subIn X hn).here ?_)
    simp only [Bool.false_eq_true, if_false, Bool.not_false, if_true]
    refine wpAny_bind (wpAny_mono one (fun r s1 z => ?_) fun _ _ e => e)
    obtain ⟨rfl, z2⟩ := z
    refine wpAny_bind (wpAny_mono (h2 s1 z2) (fun r s2 z => ?_) fun _ _ e => e)
    obtain ⟨rfl, z2⟩ := z
    exact wpAny_bind (wpAny_rule (wpAny_bind (wpAny_mono (h3 _ z2) (fun _ _ q => wpAny_pure q) fun _ _ e => e)))
  · rename_i q
    exact absurd (by simp) q
theorem list_ni (l x : Addr) (items : Array Value) (n : Nat) (dd : Option Addr) (sl : Array (Option Value)) {prog : Program} {w : World} {A : Around} {R : Fin → Shared → Prop} {s : Shared} (hl : s.heap.get? l = some { cls := .type "list", dict := dd, data := .seq items n, slots := sl })
    (hi : PySem.W.Looks (model prog w) s.heap (isInstance (.ref x) (.type "list")) false) (h : R (.done (.ret .notImplemented)) s) {E : Value → Shared → Prop} : wpAny (model prog w) A (Builtin.«list.__eq__» ⟨[.ref l, .ref x], []⟩) R E s := by
  repeat (first | with_reducible refine hi.here ?_ | wp_step)
  exact h
end
/-- a class that is apart from the built-in ones -/
def bNames : List String := ["list", "tuple", "dict", "int", "str", "NoneType", "bool", "set"]
structure KindO (K : PySem.W.Frag) (C : Addr) : Prop where
  one : ∀ n ∈ bNames, PySem.W.kitOne K (.type n) (.ref C) = some false
  sub : ∀ n ∈ bNames, PySem.W.subIn K (.type n) (.ref C) = some false
  mro : ∀ n ∈ bNames, PySem.W.subIn K (.ref C) (.type n) = some false
section
variable {X : Cx} {k : Nat} {C : Addr}
theorem run_ni {f : Addr} {fd : FuncData} {ps : List Str} {sp : List V → Hp → Prop} {pins : List (Addr × Obj)} {σ : L2.St} {H : Hp} {s : Shared} {us : List Value} {vs : List V} {A : Around} {E : Value → Shared → Prop} (F : FnNi X.prog X.w X.K X.mg X.base k f fd ps sp) (hr : Room k A) (hf : A.frames = X.A.frames)
    (hb : Binds X.K fd ps []) (I : Inv X pins σ H s) (r : Vals vs us) (h : sp vs H) : wpAny (model X.prog X.w) A (call (.ref f) us) (fun v s' => v = .notImplemented ∧ Inv X pins σ H s') E s := by
  have there := I.env0
  have e0 : Env0 X.prog X.w X.K X.mg X.base A X.stack s H := { there with frames := hf.trans there.frames }
  have bound := hb s us I.kIn (by rw [List.append_nil]; exact r.length.symm.trans (F.len _ _ h))
  rw [List.append_nil] at bound
  refine wpAny_call (codeAny_mono (F.run A X.stack s H ⟨us, []⟩ us vs hr e0 bound r h) fun r s' hq => ?_)
  obtain ⟨rfl, os, bare, un, hok⟩ := hq
  obtain ⟨v, H', I', _, _, rfl⟩ := I.after (Q := fun v H' => v = .non ∧ H' = H) (u := Value.none) ⟨.non, H, os, bare, un, hok, rfl, rfl, rfl⟩
  exact ⟨rfl, I'⟩
/-- an object == a list: the object's __eq__ declines -/
def rEqNi (C : Addr) (sp : List V → Hp → Prop) (out : Bool → V) : R2 := fun x y H Q => ∃ a dx fs l xs, x = .ref a ∧ y = .ref l ∧ H a = some (.ins C dx fs) ∧ H l = some (.lst xs) ∧ sp [x, y] H ∧ Q (out false) H
theorem or_eqNi {sp : List V → Hp → Prop} (c : NiMet X.prog X.w X.K X.mg X.base k C "__eq__" sp) (kd : KindO X.K C) {j : Nat} (hr : Room j X.A) (hk : k ≤ j) : OpR X (compareOp .Eq) (rEqNi C sp .bl) := by
  obtain ⟨f, fd, ps, hc, hm, F1, b⟩ := c.ex
  intro pins s σ H x y v u Q I rx ry h
  obtain ⟨a, dx, fs, l, xs, rfl, rfl, ha, hl, h, q⟩ := h
  cases rx
  cases ry
  obtain ⟨mA, J, _⟩ := ins_get I.hok ha
  obtain ⟨od, J, _⟩ := J.look
  obtain ⟨its, rv, hL, _⟩ := I.list (SqL.of hl)
  obtain ⟨⟨cls0, dd0, data0, sl0⟩, ho0, hc0, n0, hd0⟩ := hL.isList
  simp only at hc0 hd0
  subst hc0 hd0
  show wpAny (model X.prog X.w) X.A (richCompare .Eq (.ref a) (.ref l)) _ _ s
  refine eq_ni (R := fun s' => Inv X pins σ H s') (R2 := fun s' => Inv X pins σ H s') hr.units0 I.kIn J (tb := "list") ?_ (kd.sub _ (by decide)) hm.at_ hm.fn ?_ ?_ ?_
  · exact (PySem.W.Looks.ld ho0).andThen .now
  · exact run_ni F1 (hr.mono hk) rfl b I (us := [.ref a, .ref l]) (vs := [.ref a, .ref l]) (.cons rfl (.cons rfl .nil)) h
  · intro s' I'
    obtain ⟨its, rv, hL, _⟩ := I'.list (SqL.of hl)
    obtain ⟨mA, J, _⟩ := ins_get I'.hok ha
    obtain ⟨od, J, _⟩ := J.look
    obtain ⟨⟨cls, dd, data, sl⟩, ho, hc, n, hd⟩ := hL.isList
    simp only at hc hd
    subst hc hd
    refine wpAny_tryCompare_declines ⟨_, ho, rfl⟩ F.slot_list_eq_refl (wpAny_call (codeAny_call_builtin F.slot_list_eq_refl.plain F.entry_list_eq (F.slot_list_eq_refl.check _ _ _ _ _ _ _ _ ⟨_, ho, rfl⟩ (F.args_list_eq_2 _ _) ?_)))
    exact list_ni l a _ n dd sl ho (J.type.andThen (PySem.W.looks_subIn I'.kIn (kd.mro _ (by decide)))) ⟨rfl, rfl, I'⟩
  · intro s' I'
    have ne : a ≠ l := ne_of ha hl (by intro z; cases z)
    obtain ⟨its, rv, hL, _⟩ := I'.list (SqL.of hl)
    obtain ⟨mA, J, _⟩ := ins_get I'.hok ha
    obtain ⟨od, J, _⟩ := J.look
    obtain ⟨o2, ho2, hc2, _⟩ := hL.isList
    exact wpAny_isSame_ref_other ne J.at_ ho2 (by rw [J.cls]; intro z; cases z) ⟨.bl false, H, I', rfl, q⟩
end
end Tr

/-! # try with several clauses, each with or without a name. -/
namespace Tr
open PySem PySem.Spec PyProof.Rows L2
/-- a clause: the class it names, the slot of its name, its suite's reading -/
structure Clz where
  cls : Value
  slot : Option Nat
  ts : Addr → Value → Option Addr → TS
/-- behind the suite the name is gone -/
def goneD (D : Ends) : Option Nat → Ends
  | none => D
  | some i => { nx := fun σ H => D.nx (σ.set i none) H, rt := D.rt, bk := fun σ H => D.bk (σ.set i none) H, ct := fun σ H => D.ct (σ.set i none) H }
def heldS (σ : L2.St) (a : Addr) : Option Nat → L2.St
  | none => σ
  | some i => σ.set i (some (.ref a))
/-- what the clauses wish -/
def wAny (K : PySem.W.Frag) (Wout : WX) (D : Ends) : List Clz → WX
  | [] => Wout
  | z :: r => fun cls d σ H => ∃ b, PySem.W.exmOne K cls z.cls = some b ∧ (b = true → ∀ a, H a = none → z.ts a cls d (goneD D z.slot) (heldS σ a z.slot) H) ∧ (b = false → wAny K Wout D r cls d σ H)
/-- a suite, of any such exception -/
def SuiteOk (X : Cx) (b : List Stmt) (ts : Addr → Value → Option Addr → TS) : Prop :=
  ∀ (a : Addr) (oe : Obj) (cls : Value) (d : Option Addr) (pn : List (Addr × Obj)), Zc cls d oe → (∃ vs, oe.data = .fields vs) → PSs (X.suite a ((a, oe) :: pn)) b (ts a cls d)
inductive ClzOk (X : Cx) : List ExceptHandler → List Clz → Prop
  | nil : ClzOk X [] []
  | bare {x : Str} {c : Value} {ts : Addr → Value → Option Addr → TS} {b : Stmt} {bs : List Stmt} {p q : Pos} {hs : List ExceptHandler} {l : List Clz} (n : Names X x c) (s : SuiteOk X (b :: bs) ts) (r : ClzOk X hs l) :
      ClzOk X (.ExceptHandler (some (.Name x p)) none (b :: bs) q :: hs) (⟨c, none, ts⟩ :: l)
  | named {x y : Str} {i : Nat} {c : Value} {ts : Addr → Value → Option Addr → TS} {b : Stmt} {bs : List Stmt} {p q : Pos} {hs : List ExceptHandler} {l : List Clz} (nd : X.N.Nodup) (hi : X.N[i]? = some y) (hk : X.env.kindOf y = some .local) (n : Names X x c) (s : SuiteOk X (b :: bs) ts) (r : ClzOk X hs l) :
      ClzOk X (.ExceptHandler (some (.Name x p)) (some y) (b :: bs) q :: hs) (⟨c, some i, ts⟩ :: l)
section
variable {X : Cx}
theorem sp_off {pins : List (Addr × Obj)} {D : Ends} {f : Flow} {s : Shared} {pn : List (Addr × Obj)} {xe : Value → Shared → Prop} (ok : X.Ok) (h : SP (X.tr pn xe) [] D f s) (hx : pn = X.pn ++ pins) : SP X pins D f s := by
  subst hx
  cases f with
  | ret u => exact let ⟨v, σ, H, J, r, q⟩ := h; ⟨v, σ, H, J.ofTry ok, r, q⟩
  | next => exact let ⟨σ, H, J, q⟩ := h; ⟨σ, H, J.ofTry ok, q⟩
  | brk => exact let ⟨σ, H, J, q⟩ := h; ⟨σ, H, J.ofTry ok, q⟩
  | cont => exact let ⟨σ, H, J, q⟩ := h; ⟨σ, H, J.ofTry ok, q⟩
/-- the value of a class's name in a suite -/
theorem name_in {x : Str} {c : Value} {np : Pos} {a : Addr} {oe : Obj} {pn pins : List (Addr × Obj)} {σ : L2.St} {H : Hp} {s : Shared} {Q : Value → Shared → Prop} {E : Value → Shared → Prop} (n : Names X x c) (S : Inv (X.suite a ((a, oe) :: pn)) pins σ H s) (q : Q c s) :
    wpAny (model X.prog X.w) (X.A.mark (some (.ref a))) (eval (.Name x np) X.env) Q E s := by
  rcases n with ⟨g, nd, m | ⟨m, v, nn⟩⟩
  · exact ld_glob (X := X.suite a ((a, oe) :: pn)) S g m q nd
  · exact ld_blt (X := X.suite a ((a, oe) :: pn)) S g m v q nn nd
theorem sp_suite {pins : List (Addr × Obj)} {D : Ends} {f : Flow} {s : Shared} {a : Addr} {oe : Obj} (ok : X.Ok) (h : SP (X.suite a ((a, oe) :: (X.pn ++ pins))) [] D f s) : SP X pins D f s := by
  cases f with
  | ret u => exact let ⟨v, σ, H, S, r, q⟩ := h; ⟨v, σ, H, S.unsuite ok, r, q⟩
  | next => exact let ⟨σ, H, S, q⟩ := h; ⟨σ, H, S.unsuite ok, q⟩
  | brk => exact let ⟨σ, H, S, q⟩ := h; ⟨σ, H, S.unsuite ok, q⟩
  | cont => exact let ⟨σ, H, S, q⟩ := h; ⟨σ, H, S.unsuite ok, q⟩
variable {body : List Stmt} {h₀ : ExceptHandler} {hds : List ExceptHandler} {l : List Clz} {pos : Pos} {tb : WX → TS} {Wout : WX}
theorem ps_try_any (st : X.stack = X.env :: X.outer) (fr : X.env.frame = some X.env.locals) (tk : Takes X Wout)
    (hb : ∀ (W : WX) (pn : List (Addr × Obj)) (xe : Value → Shared → Prop), Takes (X.tr pn xe) W → PassesOwn (model X.prog X.w) X.A X.env xe → PSs (X.tr pn xe) body (tb W))
    (cl : ClzOk X (h₀ :: hds) l) : PS X (.Try body (h₀ :: hds) [] [] pos) (fun D σ H => tb (wAny X.K Wout D l) D σ H) := by
  refine ⟨fun pins s σ H D I h => wpAny_Try_except ?_⟩
  have ok := I.ok
  have afr : X.A.frames = some (X.env :: X.outer) := ok.frames.trans (congrArg some st)
  refine wpAny_mono ((hb (wAny X.K Wout D l) (X.pn ++ pins) (fun e s1 => wpAny (model X.prog X.w) X.A (noteFrame e X.env) (fun _ s2 => wpAny (model X.prog X.w) X.A (setFlight e none)
    (fun _ s3 => wpAny (model X.prog X.w) X.A (handleBy e X.env (h₀ :: hds)) (SP X pins D) X.xe s3) X.xe s2) X.xe s1) (fun u s' caught => ?_) PassesOwn.looking).run [] s σ H D (I.toTry _) h) (fun f s1 r => ?_) fun _ _ z => z
  · obtain ⟨a, B, sI, pins', σ1, H1, cls, d, rfl, J1, nb, up, sky, na, os, ag, w⟩ := caught
    have J := J1.ofTry ok
    rw [st] at sky
    refine (show wpAny (model X.prog X.w) X.A (noteFrame (.ref a) X.env) _ _ _ from Sky.land Zc.steady afr fr sky fun h3 fl up3 => ?_)
    obtain ⟨o3, v3, at3, z3, dt3⟩ := fl.there
    have off : a ∉ frs (X.env :: X.outer) := fun hm => by
      obtain ⟨_, o, e, no⟩ := fl.2.2.1.mem hm
      rw [at3] at e
      cases e
      exact no _ dt3
    have off1 : a ≠ X.env.locals := fun z => off (List.mem_filterMap.mpr ⟨X.env, .head _, by rw [fr, z]⟩)
    have off2 : a ∉ X.fs := fun hm => let ⟨e, me, q⟩ := List.mem_filterMap.mp hm; off (List.mem_filterMap.mpr ⟨e, .tail _ me, q⟩)
    have J3 : Inv X pins σ1 H1 { s' with heap := h3 } := J.landed nb fl.1 (up.trans up3) os ag
    have S3 := J3.suite at3 dt3 na off1 off2
    suffices go : ∀ {hs' : List ExceptHandler} {l' : List Clz}, ClzOk X hs' l' → wAny X.K Wout D l' cls d σ1 H1 → wpAny (model X.prog X.w) X.A (handleBy (.ref a) X.env hs') (SP X pins D) X.xe { s' with heap := h3 } from go cl w
    intro hs' l' k
    induction k with
    | nil =>
      intro w
      refine wpAny_handleBy_nil ?_
      obtain ⟨_, _, _, oe, vs, T, _, _, eT, _, dT, fT, _⟩ := id fl
      have away : wpAny (model X.prog X.w) X.A (setFlight (.ref a) X.env.frame) (fun _ s4 => wpAny (model X.prog X.w) X.A (throw (.ref a) : Sem Flow) (SP X pins D) X.xe s4) X.xe { s' with heap := h3 } := by
        rw [fr]
        exact HandSPX.setFlight_upZ fl fun h4 sky4 up4 => wpAny_throw (tk _ _ ⟨a, B, sI, pins, σ1, H1, cls, d, rfl, J, nb, (up.trans up3).trans up4, .inr (.inr (st ▸ sky4)), na, os, ag, w⟩)
      unfold PySem.passOn
      refine wpAny_bind (wpAny_field eT dT fT ?_)
      rw [if_neg (by simp : ¬ ((Value.ref T == Value.none) = true))]
      first
        | exact wpAny_bind away
        | exact wpAny_bind (wpAny_pure (wpAny_bind away))
    | @bare x c ts b bs p q hs2 l2 n su r ih =>
      rintro ⟨y, e, yes, no⟩
      refine wpAny_handleBy_cons (codeAny_handlers_test (name_in n S3 ((PySem.W.exm_one (M := model X.prog X.w) J3.kIn (fun A Q E s k q => wpAny_typeOf_ref (k _ _ at3) (by rw [z3.1]; exact q)) e).here ?_))) (by intro z; cases z)
      cases y with
      | false => exact ih (no rfl)
      | true =>
        refine codeAny_handlers_suite (HandSPX.lands_againZ fl fun h4 fl4 up4 => ?_)
        obtain ⟨o4, v4, at4, z4, dt4⟩ := fl4.there
        have S4 := (J.landed nb fl4.1 ((up.trans up3).trans up4) os ag : Inv X pins σ1 H1 { s' with heap := h4 }).suite at4 dt4 na off1 off2
        exact wpAny_mono ((su a o4 cls d (X.pn ++ pins) z4 ⟨_, dt4⟩).run [] _ _ H1 _ S4 (yes rfl a na)) (fun f s6 r6 => by cases f <;> exact sp_suite ok r6) fun _ _ z => z.elim
    | @named x yn i c ts b bs p q hs2 l2 nd hi hk n su r ih =>
      rintro ⟨y, e, yes, no⟩
      refine wpAny_handleBy_cons (codeAny_handlers_test (name_in n S3 ((PySem.W.exm_one (M := model X.prog X.w) J3.kIn (fun A Q E s k q => wpAny_typeOf_ref (k _ _ at3) (by rw [z3.1]; exact q)) e).here ?_))) (by intro z; cases z)
      cases y with
      | false => exact ih (no rfl)
      | true =>
        refine codeAny_handlers_suite_as (HandSPX.lands_againZ fl fun h4 fl4 up4 => ?_)
        obtain ⟨o4, v4, at4, z4, dt4⟩ := fl4.there
        have S4 := (J.landed nb fl4.1 ((up.trans up3).trans up4) os ag : Inv X pins σ1 H1 { s' with heap := h4 }).suite at4 dt4 na off1 off2
        refine store_ok (X := X.suite a ((a, o4) :: (X.pn ++ pins))) (v := .ref a) S4 nd hi (.inl hk) rfl (fun s5 S5 => ?_) (.inr hk)
        refine wpAny_mono ((su a o4 cls d (X.pn ++ pins) z4 ⟨_, dt4⟩).run [] s5 _ H1 _ S5 (yes rfl a na)) (fun f s6 r6 => ?_) fun _ _ z => z.elim
        cases f with
        | ret u =>
          obtain ⟨v6, σ6, H6, S6, rv, q6⟩ := r6
          exact gone_ok (S6.unsuite ok) nd hi hk fun s7 J7 => ⟨_, _, _, J7, rv, q6⟩
        | next =>
          obtain ⟨σ6, H6, S6, q6⟩ := r6
          exact gone_ok (S6.unsuite ok) nd hi hk fun s7 J7 => ⟨_, _, J7, q6⟩
        | brk =>
          obtain ⟨σ6, H6, S6, q6⟩ := r6
          exact gone_ok (S6.unsuite ok) nd hi hk fun s7 J7 => ⟨_, _, J7, q6⟩
        | cont =>
          obtain ⟨σ6, H6, S6, q6⟩ := r6
          exact gone_ok (S6.unsuite ok) nd hi hk fun s7 J7 => ⟨_, _, J7, q6⟩
  · have r2 := sp_off ok r rfl
    cases f with
    | next => exact wpAny_execs_nil r2
    | ret u => exact r2
    | brk => exact r2
    | cont => exact r2
end
end Tr

/-! # < and > of alike data; the order of triples and of lists of triples. -/
namespace Tr
open PySem PySem.Spec PyProof.Rows L2
def rCmpD (K : PySem.W.Frag) (f : PyData → PyData → Bool) : R2 := fun x y H Q => ∃ d e, Dp K H x d ∧ Dp K H y e ∧ PySem.W.alike d e = true ∧ d ≠ .none ∧ d.depth ≤ 64 ∧ Q (.bl (f d e)) H
section
variable {X : Cx}
theorem op_ltD (hu : X.A.units + 64 < cLine) : OpR X (compareOp .Lt) (rCmpD X.K fun d e => PySem.W.dataLt d e) := by
  intro pins s σ H x y v u Q I rx ry h
  obtain ⟨d, e, hd, he, al, nn, dp, q⟩ := h
  obtain ⟨as, r1⟩ := Dp.reads I d x v hd rx
  obtain ⟨bs, r2⟩ := Dp.reads I e y u he ry
  exact PySem.W.rcLt_alike d e X.A s v u as bs r1 r2 al nn (by omega) _ _ _ _ ⟨.bl _, H, I, rfl, q⟩
theorem op_gtD (hu : X.A.units + 64 < cLine) : OpR X (compareOp .Gt) (rCmpD X.K fun d e => PySem.W.dataLt e d) := by
  intro pins s σ H x y v u Q I rx ry h
  obtain ⟨d, e, hd, he, al, nn, dp, q⟩ := h
  obtain ⟨as, r1⟩ := Dp.reads I d x v hd rx
  obtain ⟨bs, r2⟩ := Dp.reads I e y u he ry
  exact PySem.W.rcGt_alike d e X.A s v u as bs r1 r2 al nn (by omega) _ _ _ _ ⟨.bl _, H, I, rfl, q⟩
end
theorem ix_tupK {X : Cx} (K : PySem.W.Frag) (h : X.K = K := by rfl) : IxR X (rIxT K) := by
  subst h
  exact ix_tup
theorem ix_listK {X : Cx} (K : PySem.W.Frag) (h : X.K = K := by rfl) : IxR X (rIxL K) := by
  subst h
  exact ix_list
abbrev T3 := Int × Int × Int
def t3D (t : T3) : PyData := .tuple [.int t.1, .int t.2.1, .int t.2.2]
/-- the order of triples -/
def lt3 (a b : T3) : Bool := if a.1 = b.1 then (if a.2.1 = b.2.1 then decide (a.2.2 < b.2.2) else decide (a.2.1 < b.2.1)) else decide (a.1 < b.1)
/-- the order of lists of triples -/
def lexT : List T3 → List T3 → Bool
  | [], [] => false
  | [], _ :: _ => true
  | _ :: _, [] => false
  | a :: as, b :: bs => if a = b then lexT as bs else lt3 a b
/-- by the length, then place by place -/
def ltR (a b : List T3) : Bool := if a.length = b.length then lexT a b else decide (a.length < b.length)
theorem lt3_asym {a b : T3} (h : lt3 a b = true) : lt3 b a = false := by
  unfold lt3 at *
  obtain ⟨a1, a2, a3⟩ := a
  obtain ⟨b1, b2, b3⟩ := b
  dsimp only at *
  repeat' split at h
  all_goals repeat' split
  all_goals simp at *
  all_goals omega
theorem lt3_total {a b : T3} (h : a ≠ b) : lt3 a b = true ∨ lt3 b a = true := by
  unfold lt3
  obtain ⟨a1, a2, a3⟩ := a
  obtain ⟨b1, b2, b3⟩ := b
  dsimp only
  have : ¬ (a1 = b1 ∧ a2 = b2 ∧ a3 = b3) := fun ⟨x, y, z⟩ => h (by rw [x, y, z])
  by_cases h1 : a1 = b1
  · by_cases h2 : a2 = b2
    · rw [if_pos h1, if_pos h2, if_pos h1.symm, if_pos h2.symm, decide_eq_true_eq, decide_eq_true_eq]
      omega
    · rw [if_pos h1, if_neg h2, if_pos h1.symm, if_neg fun e => h2 e.symm, decide_eq_true_eq, decide_eq_true_eq]
      omega
  · rw [if_neg h1, if_neg fun e => h1 e.symm, decide_eq_true_eq, decide_eq_true_eq]
    omega
theorem lexT_irr : ∀ a : List T3, lexT a a = false
  | [] => rfl
  | x :: a => by
    unfold lexT
    rw [if_pos rfl]
    exact lexT_irr a
theorem lexT_asym : ∀ {a b : List T3}, lexT a b = true → lexT b a = false
  | [], [], h => rfl
  | [], _ :: _, h => rfl
  | _ :: _, [], h => by cases h
  | x :: a, y :: b, h => by
    unfold lexT at h ⊢
    by_cases e : x = y
    · rw [if_pos e] at h
      rw [if_pos e.symm]
      exact lexT_asym h
    · rw [if_neg e] at h
      rw [if_neg fun z => e z.symm]
      exact lt3_asym h
theorem lexT_total : ∀ {a b : List T3}, a ≠ b → lexT a b = true ∨ lexT b a = true
  | [], [], h => (h rfl).elim
  | [], _ :: _, h => .inl rfl
  | _ :: _, [], h => .inr rfl
  | x :: a, y :: b, h => by
    unfold lexT
    by_cases e : x = y
    · rw [if_pos e, if_pos e.symm]
      exact lexT_total fun z => h (by rw [e, z])
    · rw [if_neg e, if_neg fun z => e z.symm]
      exact lt3_total e
theorem ltR_irr (a : List T3) : ltR a a = false := by
  unfold ltR
  rw [if_pos rfl]
  exact lexT_irr a
theorem ltR_asym {a b : List T3} (h : ltR a b = true) : ltR b a = false := by
  unfold ltR at *
  by_cases e : a.length = b.length
  · rw [if_pos e] at h
    rw [if_pos e.symm]
    exact lexT_asym h
  · rw [if_neg e, decide_eq_true_eq] at h
    rw [if_neg fun z => e z.symm, decide_eq_false_iff_not]
    omega
theorem ltR_total {a b : List T3} (h : a ≠ b) : ltR a b = true ∨ ltR b a = true := by
  unfold ltR
  by_cases e : a.length = b.length
  · rw [if_pos e, if_pos e.symm]
    exact lexT_total h
  · rw [if_neg e, if_neg fun z => e z.symm, decide_eq_true_eq, decide_eq_true_eq]
    omega
/-! ### what the model's comparison tells of such data -/
theorem eqv_t3 (a b : T3) : PyData.eqv (t3D a) (t3D b) = decide (a = b) := by
  obtain ⟨a1, a2, a3⟩ := a
  obtain ⟨b1, b2, b3⟩ := b
  show ((a1 == b1) && ((a2 == b2) && ((a3 == b3) && true))) = _
  rw [Bool.and_true, Bool.eq_iff_iff, Bool.and_eq_true, Bool.and_eq_true, decide_eq_true_eq, beq_iff_eq, beq_iff_eq, beq_iff_eq, Prod.mk.injEq, Prod.mk.injEq]
theorem alike_t3 (a b : T3) : PySem.W.alike (t3D a) (t3D b) = true := by
  unfold t3D
  simp [PySem.W.alike, PySem.W.alikeAll]
theorem alike_t3s : ∀ a b : List T3, PySem.W.alikeAll (a.map t3D) (b.map t3D) = true
  | [], _ => by simp [PySem.W.alikeAll]
  | _ :: _, [] => by simp [PySem.W.alikeAll]
  | x :: a, y :: b => by
    rw [List.map_cons, List.map_cons, PySem.W.alikeAll, alike_t3, alike_t3s a b]
    rfl
theorem lt_t3 (a b : T3) : PySem.W.dataLt (t3D a) (t3D b) = if a = b then false else lt3 a b := by
  obtain ⟨a1, a2, a3⟩ := a
  obtain ⟨b1, b2, b3⟩ := b
  have ei : ∀ x y : Int, PyData.eqv (.int x) (.int y) = decide (x = y) := fun x y => by
    show (x == y) = _
    rw [Bool.eq_iff_iff, beq_iff_eq, decide_eq_true_eq]
  have ai : ∀ x y : Int, PySem.W.alike (.int x) (.int y) = true := fun x y => by simp [PySem.W.alike]
  unfold t3D lt3
  rw [PySem.W.dataLt_tuple, PySem.W.dataLt_cons (ai _ _), PySem.W.dataLt_cons (ai _ _), PySem.W.dataLt_cons (ai _ _), ei, ei, ei, PySem.W.dataLt_int, PySem.W.dataLt_int, PySem.W.dataLt_int]
  dsimp only
  have e0 : PyProof.Rows.lexLt itemOrd (PySem.W.keyToksAll []) (PySem.W.keyToksAll []) = false := lex_irrefl _
  rw [e0]
  by_cases h1 : a1 = b1 <;> by_cases h2 : a2 = b2 <;> by_cases h3 : a3 = b3 <;> simp [h1, h2, h3]
theorem toks_t3 : ∀ a b : List T3, PyProof.Rows.lexLt itemOrd (PySem.W.keyToksAll (a.map t3D)) (PySem.W.keyToksAll (b.map t3D)) = lexT a b
  | [], [] => lex_irrefl _
  | [], y :: b => by
    simp [PySem.W.keyToksAll, lexT, PyProof.Rows.lexLt, itemOrd, itemLt]
  | x :: a, [] => by
    simp [PySem.W.keyToksAll, lexT, PyProof.Rows.lexLt, itemOrd, itemLt]
  | x :: a, y :: b => by
    rw [List.map_cons, List.map_cons, PySem.W.dataLt_cons (alike_t3 x y), eqv_t3, lt_t3, toks_t3 a b]
    rw [show lexT (x :: a) (y :: b) = if x = y then lexT a b else lt3 x y by rw [lexT]]
    by_cases h : x = y
    · rw [decide_eq_true h, if_pos rfl, if_pos h]
    · rw [decide_eq_false h, if_neg Bool.false_ne_true, if_neg h, if_neg h]
end Tr

/-! # o(e, ..), o an object of a class with __call__. -/
namespace Tr
open PySem PySem.Spec PyProof.Rows L2
/-- a method whose function stands in the written part -/
structure MetF (P : Program) (w : World) (K : PySem.W.Frag) (mg : Str → Option Value) (base : Heap) (k : Nat) (C : Addr) (m : Str) (sp : Sp) : Prop where
  ex : ∃ (f : Addr) (fd : FuncData) (ps : List Str), Meth K C m f ∧ PySem.W.fnIn K f = true ∧ FnOk P w K mg base (L2.CX P w) k f fd ps sp ∧ Binds K fd ps []
section
variable {P : Program} {w : World} {K : PySem.W.Frag} {mg : Str → Option Value} {base : Heap}
theorem metF {m qual : Str} {C : Addr} {st : Stmt} {N ps : List Str} {k : Nat} {sp : Sp} (D : Mth K C m qual st) (S : FnScope N ps (defScope st)) (len : ∀ vs H Q E, sp vs H Q E → vs.length = ps.length)
    (hb : ∀ (kV doc pm : Value) (an : Option Addr) (cdv ct : Value) (us : List Value), us.length = ps.length → bindArgs (PySem.W.fnOf m qual (defArgs st) (defBody st) (defScope st) .none kV doc pm an cdv ct) ⟨us, []⟩ = pure (ps.zip us))
    (hbody : ∀ (f : Addr) (cdv : Value) (A : Around) (outer : List Env) (s : Shared) (H : Hp) (vs : List V) (Q : VK) (E : XK), Room k (A.deeper (envOfC qual (defScope st) s.heap.objs.size f cdv)) → sp vs H Q E →
      ∃ t, PSs (cxOf (L2.CX P w) P w K mg base N qual (defScope st) f cdv A outer s H E).nox (defBody st) t ∧ t { nx := fun _ H' => Q .non H', rt := Q } (start N vs) H) : MetF P w K mg base (k + 1) C m sp := by
  obtain ⟨f, fd, M, F⟩ := D.ex
  refine ⟨f, fd, ps, M, ?_, okN F S len (hbody f), F.binds hb⟩
  obtain ⟨oc, od, kV, doc, pm, an, cdv, ct, osl, rfl, lk, hcd⟩ := F.ex
  unfold PySem.W.fnIn
  rw [lk]
end
def tCallO (C : Addr) (sp : Sp) (E : XK) (ta : TE) (t : TA) : TE := fun σ H Q => ta σ H fun x H1 => ∃ a, x = .ref a ∧ t σ H1 fun vs H2 => ∃ dx fs, H2 a = some (.ins C dx fs) ∧ sp (x :: vs) H2 Q E
theorem with_obj {M : Model} {A : Around} {E : Value → Shared → Prop} {s : Shared} {pos : Pos} {x : Addr} {Q : Value → Shared → Prop} {args : List (Bool × Sem Value)} (few : (args.any (·.1)) = false)
    (h : wpAny M A (evalArgs (.ref x) true args []) (fun a s1 => (∃ o, s1.heap.get? x = some o ∧ o.data = .plain) ∧ wpAny M A (call (.ref x) ([] ++ a.pos) a.kw) Q E s1) E s) : wpAny M A (callWith pos (.ref x) [] args []) Q E s := by
  have none_ : (args.any (·.1) || ([] : List (Option Str × Sem Value)).any (·.1.isNone)) = false := by rw [few]; rfl
  unfold callWith
  refine wpAny_bind (wpAny_holding (wpAny_mono h (fun a s1 r => wpAny_bind (wpAny_standAt ?_)) fun _ _ e => e))
  obtain ⟨⟨o, at_, plain⟩, run⟩ := r
  have keeps : PySem.W.Looks M s1.heap (keeperOf (.ref x)) .caller := by
    refine (PySem.W.Looks.ld (part := none) at_).andThen ?_
    simp only [plain]
    exact .now
  simp only [none_]
  refine wpAny_bind (keeps.here ?_)
  exact wpAny_bind (wpAny_mono (wpAny_operateT run) (fun r s2 q => wpAny_bind (wpAny_holding (wpAny_point (wpAny_pure q)))) fun _ _ e => e)
theorem pe_callO {X : Cx} {k j : Nat} {C : Addr} {x : Str} {sp : Sp} {p pos : Pos} {e : Expr} {es : List Expr} {ta : TE} {t : TA} {E : XK} (c : MetF X.prog X.w X.K X.mg X.base k C "__call__" sp) (hr : Room j X.A) (hk : k ≤ j) (hx : Passes (L2.CX X.prog X.w) X E) (he : PE X (.Name x p) ta) (ha : PA X (e :: es) t)
    (hst : starEach (e :: es) X.env = (false, eval e X.env) :: starEach es X.env := by rfl) (hpl : (backTo pos (starEach es X.env)).any (·.1) = false := by rfl) :
    PE X (.Call (.Name x p) (e :: es) [] pos) (tCallO C sp E ta t) := by
  obtain ⟨f, fd, ps, M, fin, F, b⟩ := c.ex
  refine ⟨fun pins s σ H Q I h => ?_⟩
  refine wpAny_Call_Name_kw (thn (he.run pins s σ H _ I h) fun u s1 ⟨v, H1, I1, r1, q1⟩ => ?_)
  obtain ⟨a, rfl, q1⟩ := q1
  cases r1
  have args := ha.run pos pins s1 σ H1 _ I1 q1
  rw [hst] at args ⊢
  refine with_obj (by show (false || (backTo pos (starEach es X.env)).any (·.1)) = false; rw [hpl]; rfl) (Calls.evalArgs_plain (thn args fun us s2 ⟨vs, H2, I2, r2, q2⟩ => ?_))
  obtain ⟨dx, fs, hi, q2⟩ := q2
  obtain ⟨mA, J, _⟩ := ins_get I2.hok hi
  obtain ⟨od, J, _⟩ := J.look
  refine ⟨⟨_, J.at_, rfl⟩, wpAny_call (PySem.W.kco_code I2.kIn J rfl M.at_ M.fn fin ?_)⟩
  have there := I2.env0
  have bound := b s2 (.ref a :: us) I2.kIn (by rw [List.append_nil]; have := F.len _ _ _ _ q2; have := r2.length; simp only [List.length_cons] at *; omega)
  rw [List.append_nil] at bound
  refine codeAny_mono (F.run X.A X.stack s2 H2 ⟨.ref a :: us, []⟩ (.ref a :: us) (.ref a :: vs) Q E (hr.mono hk) { there with frames := there.frames } bound (.cons rfl r2) q2) fun r s' done => ?_
  cases r with
  | error z => exact hx pins σ H2 s2 z s' I2 done
  | ok fl =>
    cases fl with
    | ret u => exact I2.after done
    | next => exact False.elim done
    | brk => exact False.elim done
    | cont => exact False.elim done
end Tr

/-! # A law that makes lambdas: its code object and the table are known; f(lambda: e). -/
namespace Tr
open PySem PySem.Spec PyProof.Rows L2
section
variable {P : Program} {w : World} {K : PySem.W.Frag} {mg : Str → Option Value} {base : Heap}
theorem okT {x qual : Str} {st : Stmt} {f c : Addr} {fd : FuncData} {N ps : List Str} {k : Nat} {sp : Sp} (F : Fun K x qual st f fd) (hc : fd.code = .ref c) (S : FnScope N ps (defScope st)) (len : ∀ vs H Q E, sp vs H Q E → vs.length = ps.length)
    (hbody : ∀ (A : Around) (outer : List Env) (s : Shared) (H : Hp) (vs : List V) (Q : VK) (E : XK), Room k (A.deeper (envOfC qual (defScope st) s.heap.objs.size f (.ref c))) → sp vs H Q E →
      ∃ t, PSs (cxOf (L2.CX P w) P w K mg base N qual (defScope st) f (.ref c) A outer s H E).nox (defBody st) t ∧ t { nx := fun _ H' => Q .non H', rt := Q } (start N vs) H) : FnOk P w K mg base (L2.CX P w) (k + 1) f fd ps sp := by
  obtain ⟨oc, od, kV, doc, pm, an, cdv, ct, osl, rfl, lk, hcd⟩ := F.ex
  obtain rfl : cdv = .ref c := hc
  exact fn_of lk hcd S len fun A outer s H vs Q E hr h =>
    let ⟨t, h1, h2⟩ := hbody A outer s H vs Q E hr h
    ⟨t, h1.nox, h2⟩
end
section
variable {X : Cx}
/-- f(lambda: e), f a def of the module of one parameter -/
theorem pe_lam {T : List (Addr × Str)} {TT : (XK → Hp → VK → Prop) → Hp → VK → Prop} {x a : Str} {st : Stmt} {c Pt : Addr} {k j : Nat} {Ng : List Str} {params : Arguments} {body : Expr} {scope : Scope} {t : XK → TE} {p lpos pos : Pos}
    (D : Dfn X.K X.mg x st) (Sg : FnScope Ng [a] (defScope st)) (hNg : Ng[0]? = some a) (hva : Vis (defScope st) a)
    (hb : ∀ (kV doc pm : Value) (an : Option Addr) (cdv ct : Value) (us : List Value), us.length = [a].length → bindArgs (PySem.W.fnOf x x (defArgs st) (defBody st) (defScope st) .none kV doc pm an cdv ct) ⟨us, []⟩ = pure ([a].zip us))
    (hG : ∀ g cdg, LamX.GivesTo X Ng x (defScope st) g cdg (defBody st) a (X.env.qual ++ "<lambda>") TT) (hg : Gl X x)
    (TB : LamX.TabB X.base X.mg c Pt) (hcode : X.env.code = .ref c) (hmT : (Pt, X.env.qual ++ "<lambda>") ∈ T) (hu : ∀ p ∈ T, p.1 = Pt → p.2 = X.env.qual ++ "<lambda>") (hr : Room j X.A) (hk : k + 2 ≤ j) (L : LamX.LamS X.env.scope scope) (hdef : defaultsOf params X.env = ([], []))
    (hbind : ∀ (q : Str) (cl : List (Str × Addr)) (pm cv ctv : Value), bindArgs (PySem.W.kla_fn "<lambda>" q params body scope cl pm cv ctv) ⟨[], []⟩ = pure [])
    (hbody : ∀ (A : Around) (outer : List Env) (s : Shared) (H : Hp) (E : XK) (f c' : Addr), Room k (A.deeper (LamX.lamEnv X scope s.heap.objs.size f c')) → PE (LamX.lamCx X A outer s H E scope f c') body (t E))
    (hdb : (x == ("__debug__" : Str)) = false := by decide) (hd : (a == ("__debug__" : Str)) = false := by decide) (hcd : (a == ("__classdict__" : Str)) = false := by decide) :
    PE X (.Call (.Name x p) [.Lambda params body scope lpos] [] pos) (LamX.tLam T TT t) := by
  obtain ⟨g, fd, F, hm⟩ := D
  have b := F.binds hb
  have kp := F.kp
  obtain ⟨oc, od, kV, doc, pm, an, cdv, ct, osl, rfl, lk, hcg⟩ := F.ex
  exact LamX.pe_lamcall hg hm kp lk hcg b Sg hNg hva (hG g cdv) TB hcode hmT hu (hr.mono hk) L hdef hbind hbody hdb hd hcd
/-- the same with one table -/
theorem pe_lam1 {TT : (XK → Hp → VK → Prop) → Hp → VK → Prop} {x a q : Str} {st : Stmt} {c Pt : Addr} {k j : Nat} {Ng : List Str} {params : Arguments} {body : Expr} {scope : Scope} {t : XK → TE} {p lpos pos : Pos} (hq : X.env.qual ++ "<lambda>" = q)
    (D : Dfn X.K X.mg x st) (Sg : FnScope Ng [a] (defScope st)) (hNg : Ng[0]? = some a) (hva : Vis (defScope st) a)
    (hb : ∀ (kV doc pm : Value) (an : Option Addr) (cdv ct : Value) (us : List Value), us.length = [a].length → bindArgs (PySem.W.fnOf x x (defArgs st) (defBody st) (defScope st) .none kV doc pm an cdv ct) ⟨us, []⟩ = pure ([a].zip us))
    (hG : ∀ g cdg, LamX.GivesTo X Ng x (defScope st) g cdg (defBody st) a (X.env.qual ++ "<lambda>") TT) (hg : Gl X x)
    (TB : LamX.TabB X.base X.mg c Pt) (hcode : X.env.code = .ref c) (hr : Room j X.A) (hk : k + 2 ≤ j) (L : LamX.LamS X.env.scope scope) (hdef : defaultsOf params X.env = ([], []))
    (hbind : ∀ (q : Str) (cl : List (Str × Addr)) (pm cv ctv : Value), bindArgs (PySem.W.kla_fn "<lambda>" q params body scope cl pm cv ctv) ⟨[], []⟩ = pure [])
    (hbody : ∀ (A : Around) (outer : List Env) (s : Shared) (H : Hp) (E : XK) (f c' : Addr), Room k (A.deeper (LamX.lamEnv X scope s.heap.objs.size f c')) → PE (LamX.lamCx X A outer s H E scope f c') body (t E))
    (hdb : (x == ("__debug__" : Str)) = false := by decide) (hd : (a == ("__debug__" : Str)) = false := by decide) (hcd : (a == ("__classdict__" : Str)) = false := by decide) :
    PE X (.Call (.Name x p) [.Lambda params body scope lpos] [] pos) (LamX.tLam [(Pt, q)] TT t) := by
  subst hq
  exact pe_lam D Sg hNg hva hb hG hg TB hcode List.mem_cons_self (fun p hp _ => by rw [List.mem_singleton.mp hp]) hr hk L hdef hbind hbody hdb hd hcd
/-- try: a() / except CS: return True, and False behind it: what it makes of the lambda's reading -/
def TRef (K : PySem.W.Frag) (CS : Addr) : (XK → Hp → VK → Prop) → Hp → VK → Prop := fun tl H Q =>
  tl (fun cls _ H' => ∃ b, PySem.W.exmOne K cls (.ref CS) = some b ∧ (b = true → Q (.bl true) H') ∧ (b = false → False)) H fun _ H' => Q (.bl false) H'
theorem refuses_gives {Ng : List Str} {x a e q : Str} {sg : Scope} {g CS : Addr} {cdg : Value} {j1 j2 : Nat} {p1 p2 p3 p4 p5 p6 p7 p8 p9 p0 : Pos} (ge : sg.names.lookup e = some .globalImplicit) (me : X.mg e = some (.ref CS)) (de : (e == ("__debug__" : Str)) = false) (h0 : ∀ f : Addr, (L2.start Ng [V.ref f])[0]? = some (some (V.ref f))) :
    LamX.GivesTo X Ng x sg g cdg [.Try [.Expr (.Call (.Name a p1) [] [] p2) p3] [.ExceptHandler (some (.Name e p4)) none [.Return (some (.Constant (.bool true) j1 p5)) p6] p7] [] [] p8, .Return (some (.Constant (.bool false) j2 p9)) p0] a q (TRef X.K CS) := by
  intro f c' s H Q tl act hc h
  refine ⟨_, pss_cons (ps_try_only (X := (cxOf C8.CX0 X.prog X.w X.K X.mg X.base Ng x sg g cdg X.A X.stack s H C8.E0).nox) (c := .ref CS)
      (tb := fun W D σ H => ∃ Ew : XK, (∀ cls d σ' H', Ew cls d H' → W cls d σ' H') ∧ σ[0]? = some (some (.ref f)) ∧ H c' = some (LamX.CodeO c' q) ∧ tl Ew H fun _ H' => D.nx σ H')
      rfl rfl ⟨ge, de, .inl me⟩ LamX.takes0 (fun W pn xe tk _ => ⟨fun pins s' σ H' D I ⟨Ew, wish, h1, h2, h3⟩ => ?_⟩) (fun a oe cls d pn _ _ => pss_one (ps_ret pe_bl))) (pss_one (ps_ret pe_bl)), ?_⟩
  · exact (pss_one (ps_expr (pos := p3) (act W pn xe Ew p1 p2 tk wish))).run pins s' σ H' D I ⟨h1, h2, h3⟩
  · exact ⟨fun cls _ H' => ∃ b, PySem.W.exmOne X.K cls (.ref CS) = some b ∧ (b = true → Q (.bl true) H') ∧ (b = false → False), fun cls d σ' H' ⟨b, e1, e2, e3⟩ => ⟨b, e1, fun hb a _ => e2 hb, fun hb => e3 hb⟩, h0 f, hc, h⟩
end
end Tr

/-! # A class method called in a try; in, not in. -/
namespace Tr
open PySem L2 TL
def tCMethS (C : Addr) (sp : Sp) (E : L2.St → XK) (ta : TE) (t : TA) : TE := fun σ H Q => ta σ H fun x H1 => x = .ref C ∧ t σ H1 fun vs H2 => sp (.ref C :: vs) H2 Q (E σ)
theorem run_fnRS {X : Cx} {pins : List (Addr × Obj)} {σ : L2.St} {H : Hp} {s : Shared} {CX : CXT} {k : Nat} {f : Addr} {sp : Sp} {E : L2.St → XK} {Q : VK} {us : List Value} {vs : List V} (F : FnR X.prog X.w X.K X.mg X.base CX k f sp) (hr : Room k X.A) (hx : PassesAt CX X σ (E σ)) (I : Inv X pins σ H s) (r : Vals vs us) (h : sp vs H Q (E σ)) :
    codeAny (model X.prog X.w) X.A (.call (.ref f) ⟨us, []⟩) (fun r s' => match r with | .ok (.ret v) => EP X pins σ Q v s' | .ok _ => False | .error e => X.xe e s') s := by
  refine codeAny_mono (F X.A X.stack s H us vs Q (E σ) hr I.env0 r h) fun r s' hq => ?_
  cases r with
  | error e => exact hx pins H s e s' I hq
  | ok fl =>
    cases fl with
    | ret u => exact I.after hq
    | next => exact False.elim hq
    | brk => exact False.elim hq
    | cont => exact False.elim hq
theorem run_cmS {X : Cx} {pins : List (Addr × Obj)} {σ : L2.St} {H : Hp} {s : Shared} {CX : CXT} {k : Nat} {C g q : Addr} {sp : Sp} {E : L2.St → XK} {Q : VK} {us : List Value} {vs : List V} (F : FnR X.prog X.w X.K X.mg X.base CX k g sp) (hr : Room k X.A) (hx : PassesAt CX X σ (E σ)) (I : Inv X ((q, PySem.W.methodObj (.ref g) (.ref C)) :: pins) σ H s)
    (r : Vals vs us) (h : sp (.ref C :: vs) H Q (E σ)) : wpAny (model X.prog X.w) X.A (call (.ref q) us) (EP X pins σ Q) X.xe s := by
  have z : wpAny (model X.prog X.w) X.A (call (.ref q) us) (EP X ((q, PySem.W.methodObj (.ref g) (.ref C)) :: pins) σ Q) X.xe s :=
    wpAny_call (PySem.W.method_call (ClX.pin_at I) (run_fnRS (us := .ref C :: us) (vs := .ref C :: vs) F hr hx I (.cons rfl r) h))
  exact thn z fun _ _ y => ClX.unpinE y
/-- C.m(e, ..), m a class method, in a try -/
theorem pe_cmeS {X : Cx} {k j : Nat} {C : Addr} {m : Str} {sp : Sp} {pos apos : Pos} {e o : Expr} {es : List Expr} {ta : TE} {t : TA} {E : L2.St → XK} {pl : Sem Bool} (c : Cme X.prog X.w X.K X.mg X.base k C m sp) (hr : Room j X.A) (hk : k ≤ j) (hx : ∀ σ, PassesAt (L2.CX X.prog X.w) X σ (E σ)) (he : PE X o ta) (ha : PA X (e :: es) t)
    (hst : starEach (e :: es) X.env = (false, eval e X.env) :: starEach es X.env := by rfl) (hpl : (backTo pos (starEach es X.env)).any (·.1) = false := by rfl)
    (ht : eval (.Call (.Attribute o m apos) (e :: es) [] pos) X.env = (do
      let ov ← eval o X.env
      standAt apos.atName
      let (f, first) ← holding [ov] (getMethod ov m pl)
      callWith pos f first (backTo pos (starEach (e :: es) X.env)) (backToKw pos (keywordEach [] X.env))) := by rfl) :
    PE X (.Call (.Attribute o m apos) (e :: es) [] pos) (tCMethS C sp E ta t) := by
  obtain ⟨p, g, r, c, F⟩ := c.ex
  refine ⟨fun pins s σ H Q I h => ?_⟩
  refine PySem.W.methodCall_KW (pl := pl) (thn (he.run pins s σ H _ I h) fun u s1 ⟨x, H1, I1, rx, ex, q⟩ => ?_) ht
  subst ex
  obtain rfl : u = Value.ref C := rx
  refine ClX.getmethcm_ok I1 r c fun s2 I2 => ?_
  refine ClX.callwith_cm I2 (ClX.base_none I1 (Nat.le_refl _)) c.fi (thn (ha.run pos _ s2 σ H1 _ I2 q) fun us s3 ⟨vs, H2, I3, rv, q2⟩ => ⟨⟨ClX.pin_at I3, I3.kIn⟩, ?_⟩) hst hpl
  exact run_cmS F (hr.mono hk) (hx σ) I3 rv q2
theorem units65 {A : Around} {k : Nat} (hr : Room k A) : A.units + 65 < cLine := by
  have := hr.un
  omega
theorem op_notIn_seqK {X : Cx} (K : PySem.W.Frag) (hk : X.K = K := by rfl) : OpR X (compareOp .NotIn) (rIn K true) := by
  subst hk
  exact op_notIn_seq
end Tr

/-! # A binary operator of two own classes; a method with a default, called with keywords. -/
namespace Tr
open PySem PySem.Spec PyProof.Rows L2
/-- what x op y leans on, x of the class C, y of the class D -/
structure TwoOp (K : PySem.W.Frag) (C D : Addr) (nm : String) : Prop where
  hc : PySem.W.selfFirst K C = true
  hd : PySem.W.selfFirst K D = true
  ne : C ≠ D
  rc : ∃ rc, PySem.W.findIn K (.ref C) (dunderR nm) = some rc ∧ (rc = none ∨ ∃ g : Addr, rc = some (.ref g))
  rd : ∃ rc, PySem.W.findIn K (.ref D) (dunderR nm) = some rc ∧ (rc = none ∨ ∃ g : Addr, rc = some (.ref g))
  sub : PySem.W.subIn K (.ref D) (.ref C) = some false
def refB (o : Option (Option Value)) : Bool := match o with
  | some none => true
  | some (some (.ref _)) => true
  | _ => false
theorem refB_ok {o : Option (Option Value)} (h : refB o = true) : ∃ rc, o = some rc ∧ (rc = none ∨ ∃ g : Addr, rc = some (.ref g)) := by
  unfold refB at h
  split at h
  · exact ⟨none, rfl, .inl rfl⟩
  · rename_i g
    exact ⟨_, rfl, .inr ⟨g, rfl⟩⟩
  · cases h
def twoB (c d : Str) (nm : String) (K : PySem.W.Frag) : Bool :=
  PySem.W.selfFirst K (He.ga K c) && (PySem.W.selfFirst K (He.ga K d) && (decide (He.ga K c ≠ He.ga K d) && (refB (PySem.W.findIn K (.ref (He.ga K c)) (dunderR nm)) && (refB (PySem.W.findIn K (.ref (He.ga K d)) (dunderR nm)) &&
    decide (PySem.W.subIn K (.ref (He.ga K d)) (.ref (He.ga K c)) = some false)))))
theorem twoB_ok {c d : Str} {nm : String} {K : PySem.W.Frag} (h : twoB c d nm K = true) : TwoOp K (He.ga K c) (He.ga K d) nm := by
  obtain ⟨h1, h⟩ := He.ba h
  obtain ⟨h2, h⟩ := He.ba h
  obtain ⟨h3, h⟩ := He.ba h
  obtain ⟨h4, h⟩ := He.ba h
  obtain ⟨h5, h6⟩ := He.ba h
  exact ⟨h1, h2, of_decide_eq_true h3, refB_ok h4, refB_ok h5, of_decide_eq_true h6⟩
section
variable {prog : Program} {w : World} {A : Around} {E : Value → Shared → Prop} {s : Shared} {K : PySem.W.Frag} {x y C D L f g f2 : Addr} {h₀ : Heap} {m : Str → Option Value} {ox oy : Obj} {od od' : Option Obj}
theorem binop_two {op : Operator} {Q : Value → Shared → Prop} {R : Shared → Prop} (F : Fr h₀ L s.heap m) (X₀ : K.In h₀) (I : PySem.W.InstAt s.heap x ox C od) (J : PySem.W.InstAt s.heap y oy D od') (t : TwoOp K C D op.info.2)
    (hs : PySem.W.findIn K (.ref C) (PySem.dunder op.info.2) = some (some (.ref f))) (hd : PySem.W.findIn K (.ref D) (PySem.dunder op.info.2) = some (some (.ref g)))
    (h : wpAny (model prog w) A (tryMethod (.ref x) (PySem.dunder op.info.2) (.ref y)) (fun r s' => (∃ v, r = some v ∧ Q v s') ∨ (r = none ∧ R s')) E s)
    (h2 : ∀ s', R s' → PySem.W.Looks (model prog w) s'.heap (typeOf (.ref x)) (.ref C) ∧ PySem.W.Looks (model prog w) s'.heap (typeOf (.ref y)) (.ref D) ∧
      wpAny (model prog w) A (tryMethod (.ref y) (dunderR op.info.2) (.ref x)) (fun r s'' => ∃ v, r = some v ∧ Q v s'') E s') : wpAny (model prog w) A (binaryOp op (.ref x) (.ref y)) Q E s := by
  have X := X₀.keeps F.keep
  obtain ⟨cd, rest, hcd, hm⟩ := PySem.W.ksp_first t.hc
  obtain ⟨cd2, rest2, hcd2, hm2⟩ := PySem.W.ksp_first t.hd
  rcases hi : op.info with ⟨sym, nm'⟩
  have t' := t
  rw [hi] at hs hd h h2 t'
  dsimp only at hs hd h h2 t'
  obtain ⟨rc, rc1, rc2⟩ := t'.rc
  obtain ⟨rd, rd1, rd2⟩ := t'.rd
  have L1 : PySem.W.Looks (model prog w) s.heap (typeOf (.ref x)) (.ref C) := I.type
  have L2 : PySem.W.Looks (model prog w) s.heap (typeOf (.ref y)) (.ref D) := J.type
  have L3 : PySem.W.Looks (model prog w) s.heap (fillsNumberSlot (.ref C) nm') true := PySem.W.fills_K X hcd hm hs
  have L4 : PySem.W.Looks (model prog w) s.heap (fillsNumberSlot (.ref D) nm') true := PySem.W.fills_K X hcd2 hm2 hd
  have L5 : PySem.W.Looks (model prog w) s.heap (isSubtype (.ref D) (.ref C)) false := PySem.W.looks_subIn X t'.sub
  have L6 : PySem.W.Looks (model prog w) s.heap (numberSlotInPython (.ref C) nm') true := PySem.W.ksp_inPy X hs rc1 rc2
  have L7 : PySem.W.Looks (model prog w) s.heap (numberSlotInPython (.ref D) nm') true := PySem.W.ksp_inPy X hd rd1 rd2
  have hne : (Value.ref C == Value.ref D) = false := Bool.eq_false_iff.mpr fun q => t.ne (by cases beq_iff_eq.mp q; rfl)
  simp only [binaryOp, hi]
  refine wpAny_holding (wpAny_bind ?_)
  unfold binaryOp1
  refine wpAny_bind (L1.here (wpAny_bind (L2.here (wpAny_bind (L3.here ?_)))))
  simp only [hne, Bool.false_eq_true, if_false]
  refine wpAny_bind (L4.here ?_)
  simp only [Bool.and_self, if_true]
  refine wpAny_bind (L5.here ?_)
  simp only [Bool.false_eq_true, if_false, Bool.not_false, Bool.and_self, if_true]
  refine wpAny_bind (L6.here ?_)
  simp only [Bool.false_eq_true, if_false, Bool.not_false, Bool.and_self, if_true]
  refine wpAny_bind (L7.here ?_)
  simp only [Bool.false_eq_true, if_false, Bool.not_true, Bool.not_false, Bool.and_self, if_true]
  refine wpAny_bind (wpAny_mono h (fun r s' q => ?_) fun _ _ z => z)
  rcases q with ⟨v, rfl, q⟩ | ⟨rfl, q⟩
  · exact wpAny_pure (wpAny_pure q)
  · obtain ⟨M1, M2, h2⟩ := h2 s' q
    refine wpAny_bind (M1.here (wpAny_bind (M2.here ?_)))
    simp only [hne, Bool.false_eq_true, if_false, Bool.not_false, Bool.and_self, if_true]
    refine wpAny_bind (wpAny_mono h2 (fun r s'' q => ?_) fun _ _ z => z)
    obtain ⟨v, rfl, q⟩ := q
    exact wpAny_bind (wpAny_rule (wpAny_pure (wpAny_pure q)))
end
section
variable {X : Cx} {k k2 k3 : Nat} {C D : Addr} {m m2 : Str} {sp sp2 sp3 : Sp} {E : XK}
/-- x op y by the method of x -/
def rBinD (C D : Addr) (sp : Sp) (E : XK) : R2 := fun x y H Q => ∃ a dx fs b dy gs, x = .ref a ∧ y = .ref b ∧ H a = some (.ins C dx fs) ∧ H b = some (.ins D dy gs) ∧ sp [x, y] H (fun v H' => ∃ z, v = .ref z ∧ Q (.ref z) H') E
theorem or_binD {op : Operator} (c : Met X.prog X.w X.K X.mg X.base k C m sp []) (c2 : Met X.prog X.w X.K X.mg X.base k2 D m sp2 []) (hm : PySem.dunder op.info.2 = m) (t : TwoOp X.K C D op.info.2) {j : Nat} (hr : Room j X.A) (hk : k ≤ j) (hx : Passes (L2.CX X.prog X.w) X E) : OpR X (binaryOp op) (rBinD C D sp E) := by
  subst hm
  obtain ⟨f, fd, ps, ds, hc, hm, F, b, d⟩ := c.ex
  obtain ⟨f2, _, _, _, _, hm2, _, _, _⟩ := c2.ex
  cases d
  intro pins s σ H x y v u Q I rx ry h
  obtain ⟨a, dx, fs, c, dy, gs, rfl, rfl, ha, hc', h⟩ := h
  cases rx
  cases ry
  obtain ⟨mA, J, _⟩ := ins_get I.hok ha
  obtain ⟨mB, J', _⟩ := ins_get I.hok hc'
  obtain ⟨od, J, _⟩ := J.look
  obtain ⟨od', J', _⟩ := J'.look
  obtain ⟨m, hF⟩ := I.fr
  refine binop_two (R := fun _ => False) hF I.ok.mod.kin J J' t hm.at_ hm2.at_ ?_ (fun _ z => z.elim)
  refine wpAny_mono (PySem.W.ksp_try I.kIn J hm.at_ hm.fn (Q := EP X pins σ fun v H' => Q v H') ?_) (fun r s' q => .inl q) fun _ _ z => z
  refine wpAny_mono (run_at F (hr.mono hk) rfl b hx I (us := [.ref a, .ref c]) (vs := [.ref a, .ref c]) (.cons rfl (.cons rfl .nil)) h) (fun r s' q => ?_) fun _ _ z => z
  obtain ⟨z, H', I', rz, b', rfl, q⟩ := q
  cases rz
  exact ⟨.ref b', H', I', rfl, q⟩
/-- x op y by the reflected method of y, the method of x declines -/
def rBinN (C D : Addr) (spN : List V → Hp → Prop) (sp : Sp) (E : XK) : R2 := fun x y H Q => ∃ a dx fs b dy gs, x = .ref a ∧ y = .ref b ∧ H a = some (.ins C dx fs) ∧ H b = some (.ins D dy gs) ∧ spN [x, y] H ∧ sp [y, x] H (fun v H' => ∃ z, v = .ref z ∧ Q (.ref z) H') E
theorem or_binN {op : Operator} {spN : List V → Hp → Prop} (c : NiMet X.prog X.w X.K X.mg X.base k C m spN) (c2 : Met X.prog X.w X.K X.mg X.base k2 D m sp2 []) (c3 : Met X.prog X.w X.K X.mg X.base k3 D m2 sp []) (hm : PySem.dunder op.info.2 = m) (hm2 : dunderR op.info.2 = m2) (t : TwoOp X.K C D op.info.2) {j : Nat} (hr : Room j X.A) (hk : k ≤ j) (hk3 : k3 ≤ j)
    (hx : Passes (L2.CX X.prog X.w) X E) : OpR X (binaryOp op) (rBinN C D spN sp E) := by
  subst hm hm2
  obtain ⟨f, fd, ps, hc, hm, F1, b1⟩ := c.ex
  obtain ⟨f2, _, _, _, _, hm2, _, _, _⟩ := c2.ex
  obtain ⟨f3, fd3, ps3, ds3, hc3, hm3, F, b, d⟩ := c3.ex
  cases d
  intro pins s σ H x y v u Q I rx ry h
  obtain ⟨a, dx, fs, c, dy, gs, rfl, rfl, ha, hc', hn, h⟩ := h
  cases rx
  cases ry
  obtain ⟨mA, J0, _⟩ := ins_get I.hok ha
  obtain ⟨mB, J0', _⟩ := ins_get I.hok hc'
  obtain ⟨od, J, _⟩ := J0.look
  obtain ⟨od', J', _⟩ := J0'.look
  obtain ⟨m, hF⟩ := I.fr
  refine binop_two (R := fun s' => Inv X pins σ H s') hF I.ok.mod.kin J J' t hm.at_ hm2.at_ ?_ (fun s' I' => ?_)
  · unfold tryMethod
    refine wpAny_bind (PySem.W.special_fn I.kIn J hm.at_ (beq_iff_eq.mp hm.fn) (wpAny_mono (run_ni F1 (hr.mono hk) rfl b1 I (us := [.ref a, .ref c]) (vs := [.ref a, .ref c]) (.cons rfl (.cons rfl .nil)) hn) (fun v s' hv => ?_) fun _ _ e => e))
    obtain ⟨rfl, I'⟩ := hv
    exact wpAny_pure (.inr ⟨rfl, I'⟩)
  · obtain ⟨mA', K0, _⟩ := ins_get I'.hok ha
    obtain ⟨mB', K0', _⟩ := ins_get I'.hok hc'
    obtain ⟨od2, K1, _⟩ := K0.look
    obtain ⟨od2', K1', _⟩ := K0'.look
    refine ⟨K1.type, K1'.type, ?_⟩
    refine PySem.W.ksp_try I'.kIn K1' hm3.at_ hm3.fn ?_
    refine wpAny_mono (run_at F (hr.mono hk3) rfl b hx I' (us := [.ref c, .ref a]) (vs := [.ref c, .ref a]) (.cons rfl (.cons rfl .nil)) h) (fun r s' q => ?_) fun _ _ z => z
    obtain ⟨z, H', I'', rz, b', rfl, q⟩ := q
    cases rz
    exact ⟨.ref b', H', I'', rfl, q⟩
end
/-! ### a method with defaults -/
structure MthD (K : PySem.W.Frag) (C : Addr) (m qual : Str) (st : Stmt) (dvs : List V) : Prop where
  cls : Cls K C
  ex : ∃ f fd, Meth K C m f ∧ FunD K m qual (defArgs st) (defBody st) (defScope st) dvs [] f fd
/-- a method that is called with keywords ks behind n positional values (self among them) -/
structure MetK (P : Program) (w : World) (K : PySem.W.Frag) (mg : Str → Option Value) (base : Heap) (k : Nat) (C : Addr) (m : Str) (sp : Sp) (n : Nat) (ks : List Str) (gV : List V → List V → List V) : Prop where
  ex : ∃ (f : Addr) (fd : FuncData) (ps : List Str) (g : List Value → List Value → List Value), Cls K C ∧ Meth K C m f ∧ FnOk P w K mg base (L2.CX P w) k f fd ps sp ∧ KBn K fd ps n ks g gV
/-- o.m(k = v, ..) -/
def tMethK (C : Addr) (m : Str) (nk : Nat) (sp : Sp) (gV : List V → List V → List V) (E : XK) (ta : TE) (tk : TA) : TE := fun σ H Q => ta σ H fun x H1 => ∃ a dx fs, x = .ref a ∧ H1 a = some (.ins C dx fs) ∧ fs.lookup m = none ∧ tk σ H1 fun zs H2 => zs.length = nk ∧ sp (gV [x] zs) H2 Q E
theorem pe_mtk {X : Cx} {k j : Nat} {C : Addr} {m : Str} {sp : Sp} {ks : List Str} {gV : List V → List V → List V} {E : XK} {o : Expr} {ta : TE} {tk : TA} {kws : List Keyword} {apos pos : Pos} {pl : Sem Bool} (c : MetK X.prog X.w X.K X.mg X.base k C m sp 1 ks gV) (hr : Room j X.A) (hk : k ≤ j) (hx : Passes (L2.CX X.prog X.w) X E) (he : PE X o ta) (hkw : PK X kws tk)
    (hall : (backToKw pos (keywordEach kws X.env)).all (·.1.isSome) = true := by rfl) (hks : (backToKw pos (keywordEach kws X.env)).filterMap (·.1) = ks := by rfl) (hpl : ((backTo pos (starEach [] X.env)).any (·.1) || (backToKw pos (keywordEach kws X.env)).any (·.1.isNone)) = false := by rfl)
    (ht : eval (.Call (.Attribute o m apos) [] kws pos) X.env = (do
      let ov ← eval o X.env
      standAt apos.atName
      let (f, first) ← holding [ov] (getMethod ov m pl)
      callWith pos f first (backTo pos (starEach [] X.env)) (backToKw pos (keywordEach kws X.env))) := by rfl) :
    PE X (.Call (.Attribute o m apos) [] kws pos) (tMethK C m ks.length sp gV E ta tk) := by
  obtain ⟨f, fd, ps, g, hc, hm, F, hb⟩ := c.ex
  refine ⟨fun pins s σ H Q I h => ?_⟩
  refine PySem.W.methodCall_KW (pl := pl) (thn (he.run pins s σ H _ I h) fun u s1 ⟨x, H1, I1, rx, a, dx, fs, ex, ea, l, q⟩ => ?_) ht
  subst ex
  obtain rfl : u = Value.ref a := rx
  refine getmeth_ok I1 ea hc hm l ?_
  refine PySem.W.callWith_KW0 (first := [.ref a]) (h₀ := X.base) I.ok.mod.kin hm.kp hall (thn (hkw.run pos pins s1 σ H1 _ I1 q) fun ws s2 ⟨zs, H2, I2, rz, l2, q2⟩ => ⟨I2.kIn, ?_⟩) hpl
  rw [hks]
  exact run_fnN (us := [.ref a]) (vs := [.ref a]) F (hr.mono hk) hb hx I2 (.cons rfl .nil) rz rfl l2 q2
section
variable {P : Program} {w : World} {K : PySem.W.Frag} {mg : Str → Option Value} {base : Heap}
theorem metDN {m qual : Str} {C : Addr} {st : Stmt} {dvs : List V} {N ps : List Str} {k : Nat} {sp : Sp} (D : MthD K C m qual st dvs) (S : FnScope N ps (defScope st)) (len : ∀ vs H Q E, sp vs H Q E → vs.length = ps.length)
    (hbody : ∀ (f : Addr) (cdv : Value) (A : Around) (outer : List Env) (s : Shared) (H : Hp) (vs : List V) (Q : VK) (E : XK), Room k (A.deeper (envOfC qual (defScope st) s.heap.objs.size f cdv)) → sp vs H Q E →
      ∃ t, PSs (cxOf (L2.CX P w) P w K mg base N qual (defScope st) f cdv A outer s H E).nox (defBody st) t ∧ t { nx := fun _ H' => Q .non H', rt := Q } (start N vs) H) :
    ∃ f fd, Cls K C ∧ Meth K C m f ∧ FunD K m qual (defArgs st) (defBody st) (defScope st) dvs [] f fd ∧ FnOk P w K mg base (L2.CX P w) (k + 1) f fd ps sp :=
  let ⟨f, fd, M, F⟩ := D.ex
  ⟨f, fd, D.cls, M, F, F.ok S len fun cdv A outer s H vs Q E hr h =>
    let ⟨t, h1, h2⟩ := hbody f cdv A outer s H vs Q E hr h
    ⟨t, h1.nox, h2⟩⟩
end
end Tr

/-! # Keyword-only parameters; isinstance of a caught error that has fields. -/
namespace Tr
open PySem PySem.Spec PyProof.Rows L2
/-- a def of the module with keyword-only parameters that have constant defaults -/
def DfnK (K : PySem.W.Frag) (mg : Str → Option Value) (x : Str) (st : Stmt) (kws : List (Str × V)) : Prop := ∃ f fd, FunD K x x (defArgs st) (defBody st) (defScope st) [] kws f fd ∧ mg x = some (.ref f)
/-- such a def, called with all its keyword-only parameters written, or without them -/
structure CalK (P : Program) (w : World) (K : PySem.W.Frag) (mg : Str → Option Value) (base : Heap) (k : Nat) (x : Str) (sp : Sp) (dvs : List V) (n : Nat) (ks : List Str) : Prop where
  cal : Cal P w K mg base k x sp dvs
  kw : ∃ (f : Addr) (fd : FuncData) (ps : List Str) (g : List Value → List Value → List Value), FnOk P w K mg base (L2.CX P w) k f fd ps sp ∧ mg x = some (.ref f) ∧ PySem.W.keepIn K (.ref f) = true ∧ KBn K fd ps n ks g (fun vs zs => vs ++ zs)
theorem CalK.mono {P : Program} {w : World} {K : PySem.W.Frag} {mg : Str → Option Value} {base : Heap} {j k n : Nat} {x : Str} {sp : Sp} {dvs : List V} {ks : List Str} (c : CalK P w K mg base j x sp dvs n ks) (h : j ≤ k) : CalK P w K mg base k x sp dvs n ks :=
  ⟨c.cal.mono h, let ⟨f, fd, ps, g, F, r⟩ := c.kw; ⟨f, fd, ps, g, F.mono h, r⟩⟩
section
variable {P : Program} {w : World} {K : PySem.W.Frag} {mg : Str → Option Value} {base : Heap}
theorem calKX {x : Str} {st : Stmt} {kws : List (Str × V)} {N ps ks : List Str} {k n : Nat} {sp : Sp} (D : DfnK K mg x st kws) (S : FnScope N ps (defScope st)) (len : ∀ vs H Q E, sp vs H Q E → vs.length = ps.length) (hk : kws ≠ []) (hn : n + kws.length = ps.length)
    (h0 : ∀ (D : Addr) (doc pm : Value) (an : Option Addr) (cdv ct : Value) (us vs : List Value), us.length = n → vs.length = kws.length → KwChain D ((kws.map (·.1)).zip vs) (bindArgs (PySem.W.fnOf x x (defArgs st) (defBody st) (defScope st) .none (.ref D) doc pm an cdv ct) ⟨us, []⟩) (ps.zip (us ++ vs)))
    (h1 : ∀ (D : Addr) (doc pm : Value) (an : Option Addr) (cdv ct : Value) (us ws : List Value), us.length = n → ws.length = ks.length → bindArgs (PySem.W.fnOf x x (defArgs st) (defBody st) (defScope st) .none (.ref D) doc pm an cdv ct) ⟨us, ks.zip ws⟩ = pure (ps.zip (us ++ ws)))
    (hbody : ∀ (f : Addr) (cdv : Value) (A : Around) (outer : List Env) (s : Shared) (H : Hp) (vs : List V) (Q : VK) (E : XK), Room k (A.deeper (envOfC x (defScope st) s.heap.objs.size f cdv)) → sp vs H Q E →
      ∃ t, PSs (cxOf (L2.CX P w) P w K mg base N x (defScope st) f cdv A outer s H E) (defBody st) t ∧ t { nx := fun _ H' => Q .non H', rt := Q } (start N vs) H) : CalK P w K mg base (k + 1) x sp (kws.map (·.2)) n ks := by
  obtain ⟨f, fd, F, hm⟩ := D
  have ok : FnOk P w K mg base (L2.CX P w) (k + 1) f fd ps sp := F.ok S len (hbody f)
  obtain ⟨ds, hv, hb⟩ := F.binds0 n hk hn h0
  obtain ⟨mv, kb⟩ := F.kbinds0 n ks [] (fun us _ ws => us ++ ws) hk (fun q hq => nomatch hq) (fun a _ b => a.append b) (fun D doc pm an cdv ct us mv ws l1 _ l3 => h1 D doc pm an cdv ct us ws l1 l3)
  exact ⟨⟨f, fd, ps, ds, ok, hm, F.kp, hb, hv⟩, f, fd, ps, _, ok, hm, F.kp, kb⟩
end
/-- f(e, .., k = v, ..) within a try -/
def tKwS (n m : Nat) (sp : Sp) (E : L2.St → XK) (t tk : TA) : TE := fun σ H Q => t σ H fun vs H1 => tk σ H1 fun zs H2 => vs.length = n ∧ zs.length = m ∧ sp (vs ++ zs) H2 Q (E σ)
section
variable {X : Cx} {k j n : Nat} {ks : List Str} {sp : Sp} {dvs : List V} {E : L2.St → XK} {x : Str} {p pos : Pos} {e : Expr} {es : List Expr} {kws : List Keyword} {t tk : TA}
theorem pe_kwS (c : CalK X.prog X.w X.K X.mg X.base k x sp dvs n ks) (hr : Room j X.A) (hle : k ≤ j) (hg : Gl X x) (hx : ∀ σ, PassesAt (L2.CX X.prog X.w) X σ (E σ)) (ha : PA X (e :: es) t) (hkw : PK X kws tk)
    (hall : (backToKw pos (keywordEach kws X.env)).all (·.1.isSome) = true := by rfl) (hks : (backToKw pos (keywordEach kws X.env)).filterMap (·.1) = ks := by rfl)
    (hdb : (x == ("__debug__" : Str)) = false := by decide) (he : starEach (e :: es) X.env = (false, eval e X.env) :: starEach es X.env := by rfl)
    (hpl : ((backTo pos (starEach (e :: es) X.env)).any (·.1) || (backToKw pos (keywordEach kws X.env)).any (·.1.isNone)) = false := by rfl) :
    PE X (.Call (.Name x p) (e :: es) kws pos) (tKwS n ks.length sp E t tk) := by
  obtain ⟨f, fd, ps, g, F, hm, kp, hb⟩ := c.kw
  have F := F.mono hle
  refine ⟨fun pins s σ H Q I h => wpAny_Call_Name_kw (ld_glob I hg hm ?_ hdb)⟩
  refine PySem.W.callWith_KW (h₀ := X.base) I.ok.mod.kin kp hall (thn (ha.run pos pins s σ H _ I h) fun us s1 ⟨vs, H1, I1, r, q⟩ => thn (hkw.run pos pins s1 σ H1 _ I1 q) fun ws s2 ⟨zs, H2, I2, rz, l1, l2, q2⟩ => ⟨I2.kIn, ?_⟩) hpl he
  rw [hks]
  refine wpAny_call (codeAny_mono (F.run X.A X.stack s2 H2 ⟨us, ks.zip ws⟩ (g us ws) (vs ++ zs) Q (E σ) hr I2.env0 (hb.to s2 us ws I2.kIn (r.length.symm.trans l1) (rz.length.symm.trans l2)) (hb.rel r rz) q2) fun z s' hq => ?_)
  match z, hq with
  | .error e, hq => exact hx σ pins H2 s2 e s' I2 hq
  | .ok (.ret u), hq => exact I2.after hq
  | .ok .next, hq => exact hq.elim
  | .ok .brk, hq => exact hq.elim
  | .ok .cont, hq => exact hq.elim
end
/-! ### isinstance(e, C), e a caught error with fields -/
section
variable {prog : Program} {w : World} {A : Around} {E : Value → Shared → Prop} {s : Shared} {F : PySem.W.Frag} {a D : Addr} {o : Obj} {dd : Option Obj}
open PySem.W PySem.Calls in
theorem exc_class {Q : Option Value → Shared → Prop} (T : ExcC F D) (X : F.In s.heap) (I : PySem.W.InstAt s.heap a o D dd) (h : Q (some (.ref D)) { s with toks := s.toks + 1 }) : wpAny (model prog w) A (getAttr? (.ref a) "__class__") Q E s := by
  have hf : PySem.W.findObj F D dd "__class__" = some (.bind (.builtin "getset_descriptor.__get__") (.builtin "object.__class__")) := by
    obtain ⟨cd, hc, _⟩ := any_some T.hd
    unfold PySem.W.findObj
    rw [show PySem.W.clsIn F D = some cd from hc, Option.bind_some, T.ha, Option.bind_some]
    show ((PySem.W.specialIn F (.builtin "object.__class__") "__get__").bind _) = _
    rw [T.hn, Option.bind_some]
    show ((PySem.W.takesIn F (.builtin "object.__class__")).bind _) = _
    rw [T.ht]
    rfl
  obtain ⟨hp, g, d, t, os⟩ := s
  have L0 := I.type (M := model prog w)
  have La := looks_findIn (M := model prog w) X T.hg
  have Lb := looks_findIn (M := model prog w) X T.hk
  have Lc := looks_find (M := model prog w) X I hf
  have own : Looks (model prog w) hp (isInstance (.ref a) (.type "BaseException")) true := L0.andThen (looks_subIn X T.hs)
  have ne : (onTheHeap (Value.ref D) && Value.builtin "BaseException.__getattribute__" == Value.builtin "object.__getattribute__") = false := by
    rw [show (Value.builtin "BaseException.__getattribute__" == Value.builtin "object.__getattribute__") = false by decide +kernel] <;> rfl
  unfold getAttr? getAttrBy? getAttrBy
  refine wpAny_bind (wpAny_mkText (wpAny_bind (wpAny_attempt (wpAny_holding (wpAny_bind (L0.at (wpAny_bind (La.at ?_))))))))
  show wpAny _ _ (ite ((onTheHeap (Value.ref D) && Value.builtin "BaseException.__getattribute__" == Value.builtin "object.__getattribute__") = true) _ _) _ _ _
  rw [ne, if_neg (by decide)]
  unfold getAttrByItsOwn hookBefore
  refine wpAny_bind (by
    rw [if_pos (show onTheHeap (Value.ref D) = true from rfl)]
    refine Lb.at (wpAny_bind (wpAny_attempt (wpAny_holding ?_)))
    unfold callGetattribute
    rw [show (false && onTheHeap (Value.builtin "BaseException.__getattribute__")) = false from rfl, if_neg (by decide)]
    unfold boundAndCalled
    rw [PySem.F.excAttr_ValueError.ga.bind (.ref a)]
    refine wpAny_bind (wpAny_pure (wpAny_call (codeAny_call_builtin PySem.F.excAttr_ValueError.ga.plain PySem.F.entry_bexc_ga ?_)))
    refine @check_slot (model prog w) _ _ ⟨hp, g, d, t + 1, os⟩ "BaseException.__getattribute__" "BaseException" "__getattribute__" (.ref a) [.str "__class__" t] [] _ (by decide +kernel) (by decide +kernel) own (PySem.F.args_bexc_ga (.ref a) (.str "__class__" t)) ?_
    unfold Builtin.«object.__getattribute__»
    refine wpAny_bind (wpAny_of_eq (a := ((Value.ref a : Value), [Value.str "__class__" t])) (by first | rfl | (simp only [slotArgs]; rfl)) (wpAny_bind (wpAny_pure (wpAny_bind (L0.at (wpAny_bind (Lc.at ?_)))))))
    show wpAny _ _ (holding [Value.builtin "object.__class__"] (call (.builtin "getset_descriptor.__get__") [.builtin "object.__class__", .ref a, .ref D]) >>= ret) _ _ _
    refine wpAny_bind (wpAny_holding (wpAny_call (class_get (s := ⟨hp, g, d, t + 1, os⟩) (ox := o) (od := dd) X I T.hm (wpAny_pure ?_))))
    show wpAny _ _ (handedOut (.ref D)) _ _ _
    rw [handedOut_of (v := .ref D) rfl]
    first
      | exact wpAny_pure (wpAny_pure h)
      | exact wpAny_pure h
      | exact wpAny_pure (wpAny_bind (wpAny_pure (wpAny_pure h))))
open PySem.W in
theorem exc_kit (T : ExcC F D) : PySem.W.KitX F (.ref a) (.ref D) (fun h => PySem.W.InstAt h a o D dd) := by
  obtain ⟨cd, hc, _⟩ := any_some T.hd
  obtain ⟨c', d', sl', ho⟩ : ∃ c' d' sl', F.lookup D = some ⟨c', d', .cls cd, sl'⟩ := by
    unfold PySem.W.clsIn at hc
    split at hc
    · rename_i c' d' cd' sl' ho
      cases hc
      exact ⟨_, _, _, ho⟩
    · cases hc
  exact {
    ty := fun _ _ _ I => I.type
    it := fun _ _ X _ A' Q' E' s' k q => by
      unfold isType loadHead
      exact wpAny_bind (wpAny_loadPart (k _ _ (X _ _ ho)) (wpAny_pure q))
    ne := fun h tp dd its n sl X htp => Bool.eq_false_iff.mpr fun q => by
      cases Value.ref.inj (beq_iff_eq.mp q)
      cases (X _ _ ho).symm.trans htp
    ca := fun X I k => exc_class T X I k }
end
theorem excC_of {K : PySem.W.Frag} {C : Addr} (x : XfC K C) (o : IsO K C) : ExcC K C := ⟨x.ga, x.gg, x.exC, x.hdC, o.ha, o.hn, o.ht, o.hm⟩
def rIsX (K : PySem.W.Frag) (a : Addr) (cls : Value) (d : Option Addr) (C : Addr) : List V → Hp → VK → Prop := fun xs H Q => ∃ (c : V) (cv : Value) (b : Bool) (dd : Addr) (fs : List (Str × V)), xs = [.ref a, c] ∧ cls = .ref C ∧ d = some dd ∧ H dd = some (.xd fs) ∧ (∀ u, RelV c u → u = cv) ∧ PySem.W.kitOne K (.ref C) cv = some b ∧ Q (.bl b) H
theorem call_isX {X : Cx} {a C : Addr} {oe : Obj} {cls : Value} {d : Option Addr} {pn : List (Addr × Obj)} (T : ExcC X.K C) (hz : Zc cls d oe) (hf : ∃ vs, oe.data = .fields vs) : CallR (X.suite a ((a, oe) :: pn)) (.builtin "isinstance") (rIsX X.K a cls d C) := by
  intro pins s σ H xs us Q I r ⟨c, cv, b, dd, fs, ex, ec, ed, hx, hcv, e, q⟩
  subst ex ec ed
  match us, r with
  | [_, _], .cons rx (.cons rt .nil) =>
    cases rx
    cases hcv _ rt
    obtain ⟨ha, _⟩ := I.pin (a, oe) (List.mem_append_left _ List.mem_cons_self)
    obtain ⟨vs, hd⟩ := hf
    obtain ⟨mA, hns, _⟩ := (show ObjOk X.prog X.w H s.heap dd (.xd fs) from I.hok dd _ hx)
    obtain ⟨od, ho, _⟩ := lookIn_ns hns
    have J : PySem.W.InstAt s.heap a oe C (some od) := ⟨ha, hz.1, by unfold PySem.W.notCls; rw [hd] <;> rfl, by rw [hz.2]; exact ho⟩
    exact PySem.W.kia_one (exc_kit T) I.kIn J e (fun z => nomatch z) fun tk => ⟨.bl b, H, I.kept (t' := tk) fun _ _ z => z, rfl, q⟩
end Tr

/-! # Texts: repeated, of letters and digits. -/
namespace Tr
open PySem L2 TL
section
variable {X : Cx}
theorem op_mulS : OpR X (binaryOp .Mult) (fun x y H Q => ∃ z n, x = .str z ∧ y = .int n ∧ MulOk z n ∧ Q (.str (Txt.mul z n)) H) := by
  intro pins s σ H x y v u Q I rx ry h
  obtain ⟨z, n, rfl, rfl, ok, q⟩ := h
  obtain ⟨t, rfl⟩ := rx
  obtain ⟨t', rfl⟩ := ry
  exact SB.mul ok fun _ k => ⟨.str _, H, I.tok _, ⟨_, rfl⟩, q⟩
end
theorem mulOk_small {z : Str} {n : Int} (hz : z.length = 1) (h0 : 0 < n) (h1 : n ≤ 100) : MulOk z n := by
  obtain ⟨k, rfl⟩ : ∃ k : Nat, n = (k : Int) := ⟨n.toNat, by omega⟩
  refine ⟨?_, fun _ _ => ?_, fun _ _ => ?_⟩
  · rw [decide_eq_false (by omega), decide_eq_false (by omega)]
    rfl
  · rw [hz]
    have : (1 : Int) ≤ (2 ^ 63 - 1) / (k : Int) := (Int.le_ediv_iff_mul_le (by omega)).mpr (by omega)
    omega
  · rw [hz]
    have hs : sizeLine = 16777216 := sizeLine_eq
    unfold Builtin.Str.tooLong
    simp
    omega
theorem tl_mul {z : Str} {n : Int} (hz : z.length = 1) (h0 : 0 < n) : tl (Txt.mul z n) = (List.replicate n.toNat (tl z)).flatten := by
  have e : ∀ (ls : List (Array Nat)) (a : Array Nat), (ls.foldl (· ++ ·) a).toList = a.toList ++ (ls.map Array.toList).flatten := by
    intro ls
    induction ls with
    | nil => intro a; simp
    | cons l ls ih => intro a; rw [List.foldl_cons, ih]; simp
  unfold Txt.mul
  rw [if_neg (by omega)]
  by_cases h1 : n = 1
  · subst h1
    rw [if_pos (by rw [hz]; decide)]
    show _ = (List.replicate 1 (tl z)).flatten
    simp
  · rw [if_neg (by rw [hz]; simp; exact h1)]
    show ((List.replicate n.toNat z.cps).foldl (· ++ ·) #[]).toList = _
    rw [e, List.map_replicate]
    rfl
def isL (c : Nat) : Prop := 97 ≤ c ∧ c ≤ 122
def isD (c : Nat) : Prop := 48 ≤ c ∧ c ≤ 57
/-- a name -/
def NmOk (z : Str) : Prop := ∃ c r, tl z = c :: r ∧ isL c ∧ r.length ≤ 11 ∧ ∀ d ∈ r, isL d ∨ isD d
/-- a name that ends with the sign of k -/
def Nm (k : Nat) (z : Str) : Prop := NmOk z ∧ ∃ r, tl z = r ++ [48 + k]
theorem Nm.inj {j k : Nat} {z : Str} (h : Nm j z) (h' : Nm k z) : j = k := by
  obtain ⟨r, e⟩ := h.2
  obtain ⟨r', e'⟩ := h'.2
  rw [e] at e'
  have := (List.append_inj' e' rfl).2
  simp at this
  exact this
def abc : Str := "abcdefghijklmnopqrstuvwxyz"
theorem tl_abc : tl abc = List.range' 97 26 := by
  unfold abc
  rw [tl_ofString]
  decide
theorem nm_mk {z : Str} {k : Nat} (hk : k < 10) (h : ∃ c r, tl z = c :: r ∧ isL c ∧ r.length ≤ 10 ∧ ∀ d ∈ r, isL d) : Nm k (z ++ Str.ofString (toString (k : Int))) := by
  obtain ⟨c, r, e, hc, hl, hr⟩ := h
  have e2 : tl (z ++ Str.ofString (toString (k : Int))) = c :: (r ++ [48 + k]) := by rw [tl_append, e, tl_num, numL_lt hk]; rfl
  refine ⟨⟨c, _, e2, hc, by rw [List.length_append]; exact Nat.succ_le_succ hl, fun d hd => ?_⟩, c :: r, e2⟩
  rcases List.mem_append.mp hd with hd | hd
  · exact .inl (hr d hd)
  · rw [List.mem_singleton.mp hd]
    exact .inr ⟨by omega, by omega⟩
theorem num_len {k : Nat} (hk : k < 10) : (Str.ofString (toString (k : Int))).length = 1 := by
  rw [len_tl, tl_num, numL_lt hk]
  rfl
theorem abc_at {j : Nat} (h : j < 26) : atI (abc.cps.toList) (j : Int) = some (97 + j) := by
  refine atI_nat ?_
  show (tl abc)[j]? = _
  rw [tl_abc, List.getElem?_range' h]
  simp
theorem abc_len : abc.length ≤ sizeLine := by
  rw [len_tl, tl_abc]
  decide
end Tr

/-! # Lists and tuples of (text, int) (printed by tools/mkT0b.py). -/
namespace Tr
open PySem L2 TL
abbrev SI := Str × Int
def SrT (H : Hp) (t : Addr) (c : Str × Int) : Prop := H t = some (.tup [.str c.1, .int c.2])
def SL (H : Hp) (p : Addr) (cs : List SI) : Prop := ∃ ts : List Addr, H p = some (.lst (ts.map V.ref)) ∧ P2 (SrT H) ts cs
def ST (H : Hp) (p : Addr) (cs : List SI) : Prop := ∃ ts : List Addr, H p = some (.tup (ts.map V.ref)) ∧ P2 (SrT H) ts cs
theorem SrT.ne {H : Hp} {t D : Addr} {c : SI} {o : HO} (h : SrT H t c) (hD : H D = some o) (no : ∀ xs, o ≠ .tup xs) : t ≠ D := fun e => by
  rw [e] at h
  exact no _ (Option.some.inj (hD.symm.trans h))
theorem P2.sameS {H H' : Hp} (s : Same H H') {ts : List Addr} {cs : List SI} (h : P2 (SrT H) ts cs) : P2 (SrT H') ts cs := h.mono fun _ _ e => s _ _ e
theorem P2.kpS {H H' : Hp} {p : Addr} {o : HO} (k : Kp p H H') (hp : H p = some o) (no : ∀ xs, o ≠ .tup xs) {ts : List Addr} {cs : List SI} (h : P2 (SrT H) ts cs) : P2 (SrT H') ts cs := h.mono fun _ _ e => k _ _ e (e.ne hp no)
theorem SL.same {H H' : Hp} {p : Addr} {cs : List SI} (s : Same H H') (h : SL H p cs) : SL H' p cs :=
  let ⟨ts, a, b⟩ := h
  ⟨ts, s _ _ a, b.sameS s⟩
theorem ST.same {H H' : Hp} {p : Addr} {cs : List SI} (s : Same H H') (h : ST H p cs) : ST H' p cs :=
  let ⟨ts, a, b⟩ := h
  ⟨ts, s _ _ a, b.sameS s⟩
theorem SL.kp {p l : Addr} {H H' : Hp} {o : HO} {cs : List SI} (k : Kp p H H') (hp : H p = some o) (no : ∀ xs, o ≠ .tup xs) (n : l ≠ p) (h : SL H l cs) : SL H' l cs :=
  let ⟨ts, a, b⟩ := h
  ⟨ts, k _ _ a n, b.kpS k hp no⟩
theorem ST.kp {p l : Addr} {H H' : Hp} {o : HO} {cs : List SI} (k : Kp p H H') (hp : H p = some o) (no : ∀ xs, o ≠ .tup xs) (h : ST H l cs) : ST H' l cs :=
  let ⟨ts, a, b⟩ := h
  ⟨ts, k _ _ a (fun e => by rw [e] at a; exact no _ (Option.some.inj (hp.symm.trans a))), b.kpS k hp no⟩
theorem SL.kpB {p l : Addr} {H H' : Hp} {kvs : List (Key × V)} {cs : List SI} (k : Kp p H H') (hp : H p = some (.dK kvs)) (h : SL H l cs) : SL H' l cs :=
  h.kp k hp (fun _ => by intro z; cases z) (let ⟨_, a, _⟩ := h; ne_of a hp (by intro z; cases z))
section
variable {K : PySem.W.Frag}
theorem for_sp {a : Addr} {i1 i2 : Nat} {tb : TS} {D : Ends} {σ : St} {H : Hp} {cs : List (Str × Int)} {ts : List Addr} (Pv : Nat → St → Hp → Prop) (h0 : Pv 0 σ H)
    (hl : ∀ i σ H, i ≤ cs.length → Pv i σ H → SqL K H a (ts.map V.ref) ∧ P2 (SrT H) ts cs)
    (hs : ∀ i c σ H, cs[i]? = some c → Pv i σ H → tb { D with nx := Pv (i + 1), ct := Pv (i + 1), bk := D.nx } ((σ.set i1 (some (.str c.1))).set i2 (some (.int c.2))) H)
    (hd : ∀ σ H, Pv cs.length σ H → D.nx σ H) :
    ∃ W : Nat → Nat → St → Hp → Prop, (∃ m, W 0 m σ H) ∧ ∀ i m σ H, W i m σ H →
      ((Itl K a).stop i H ∧ D.nx σ H) ∨ ((Itl K a).go i H ∧ ∃ N : St → Hp → Prop, (∀ σ' H', N σ' H' → ∃ m', m' < m ∧ W (i + 1) m' σ' H') ∧ ∀ x H', (Itl K a).yld i H x H' → gTup K 2 (gCons (gName i1) (gCons (gName i2) gNil)) x σ H' fun σ2 H2 => tb { D with nx := N, ct := N, bk := D.nx } σ2 H2) := by
  have hlen := (hl 0 σ H (Nat.zero_le _) h0).2.len
  have e : (ts.map V.ref).length = cs.length := by rw [List.length_map, hlen]
  refine for_list (K := K) (a := a) (xs := ts.map V.ref) Pv h0 (fun i σ H hi p => (hl i σ H (by omega) p).1) ?_ (fun σ H p => hd σ H (by rw [← e]; exact p))
  intro i x σ H hx p
  rw [List.getElem?_map] at hx
  cases ht : ts[i]? with
  | none => rw [ht] at hx; cases hx
  | some t =>
    rw [ht] at hx
    cases hx
    have hi : i < ts.length := (List.getElem?_eq_some_iff.mp ht).1
    obtain ⟨c, hc, r⟩ := (hl i σ H (by omega) p).2.getl ht
    exact ⟨t, _, rfl, SqT.of r, rfl, _, _, rfl, _, _, rfl, rfl, hs i c σ H hc p⟩

theorem for_spT {a : Addr} {i1 i2 : Nat} {tb : TS} {D : Ends} {σ : St} {H : Hp} {cs : List (Str × Int)} {ts : List Addr} (Pv : Nat → St → Hp → Prop) (h0 : Pv 0 σ H)
    (hl : ∀ i σ H, i ≤ cs.length → Pv i σ H → SqT K H a (ts.map V.ref) ∧ P2 (SrT H) ts cs)
    (hs : ∀ i c σ H, cs[i]? = some c → Pv i σ H → tb { D with nx := Pv (i + 1), ct := Pv (i + 1), bk := D.nx } ((σ.set i1 (some (.str c.1))).set i2 (some (.int c.2))) H)
    (hd : ∀ σ H, Pv cs.length σ H → D.nx σ H) :
    ∃ W : Nat → Nat → St → Hp → Prop, (∃ m, W 0 m σ H) ∧ ∀ i m σ H, W i m σ H →
      ((Itt K a).stop i H ∧ D.nx σ H) ∨ ((Itt K a).go i H ∧ ∃ N : St → Hp → Prop, (∀ σ' H', N σ' H' → ∃ m', m' < m ∧ W (i + 1) m' σ' H') ∧ ∀ x H', (Itt K a).yld i H x H' → gTup K 2 (gCons (gName i1) (gCons (gName i2) gNil)) x σ H' fun σ2 H2 => tb { D with nx := N, ct := N, bk := D.nx } σ2 H2) := by
  have hlen := (hl 0 σ H (Nat.zero_le _) h0).2.len
  have e : (ts.map V.ref).length = cs.length := by rw [List.length_map, hlen]
  refine for_tup (K := K) (a := a) (xs := ts.map V.ref) Pv h0 (fun i σ H hi p => (hl i σ H (by omega) p).1) ?_ (fun σ H p => hd σ H (by rw [← e]; exact p))
  intro i x σ H hx p
  rw [List.getElem?_map] at hx
  cases ht : ts[i]? with
  | none => rw [ht] at hx; cases hx
  | some t =>
    rw [ht] at hx
    cases hx
    have hi : i < ts.length := (List.getElem?_eq_some_iff.mp ht).1
    obtain ⟨c, hc, r⟩ := (hl i σ H (by omega) p).2.getl ht
    exact ⟨t, _, rfl, SqT.of r, rfl, _, _, rfl, _, _, rfl, rfl, hs i c σ H hc p⟩

theorem lc_sp {a : Addr} {ts : List Addr} {cs : List (Str × Int)} {i1 i2 : Nat} {tt : TT} {te : TE} {vs : List Nat} {σ : St} {H1 : Hp} {D : Addr} {Qd : Hp → Prop} (p : Str × Int → Bool) (R : V → Str × Int → Hp → Prop)
    (hR : ∀ y c H H' acc, H D = some (.lst acc) → Kp D H H' → R y c H → R y c H') (hD : H1 D = none) (hL : SqL K H1 a (ts.map V.ref)) (hP : P2 (SrT H1) ts cs) (hsz : cs.length ≤ 100000)
    (hw : ∀ x y, wipe (((wipe σ vs).set i1 x).set i2 y) vs = wipe σ vs)
    (ht : ∀ c ∈ cs, ∀ H Q, Same H1 H → (∀ H', Same H H' → Q (p c) H') → tt (((wipe σ vs).set i1 (some (.str c.1))).set i2 (some (.int c.2))) H Q)
    (he : ∀ c ∈ cs, p c = true → ∀ H Q, Same H1 H → (∀ y H', Same H H' → R y c H' → Q y H') → te (((wipe σ vs).set i1 (some (.str c.1))).set i2 (some (.int c.2))) H Q)
    (hd : ∀ ys H, Same H1 H → H D = some (.lst ys) → P2 (fun y c => R y c H) ys (cs.filter p) → Qd H) : LcG (Itl K a) (gTup K 2 (gCons (gName i1) (gCons (gName i2) gNil))) tt te vs σ H1 D Qd := by
  have hlen := hP.len
  refine lc_list (K := K) (a := a) (xs := ts.map V.ref) (fun i H => Same H1 H ∧ ∃ ys, H D = some (.lst ys) ∧ P2 (fun y c => R y c H) ys ((cs.take i).filter p)) ⟨same_upd hD, [], upd_same, .nil⟩ (fun i H _ ⟨s, _⟩ => s.seq hL) ?_ ?_
  · rintro i x H hx ⟨s, ys, hy, py⟩
    rw [List.getElem?_map] at hx
    cases ht' : ts[i]? with
    | none => rw [ht'] at hx; cases hx
    | some t =>
      rw [ht'] at hx
      cases hx
      obtain ⟨c, hc, r⟩ := hP.getl ht'
      have hi : i < cs.length := (List.getElem?_eq_some_iff.mp hc).1
      have ll : ys.length ≤ 100000 := by
        have h1 := py.len
        have h2 := List.length_filter_le p (cs.take i)
        rw [List.length_take] at h2
        omega
      refine ⟨t, _, rfl, SqT.of (s _ _ r), rfl, _, _, rfl, _, _, rfl, rfl, hw _ _, ht c (mem_of_at hc) H _ s fun H2 s2 => ?_⟩
      have py2 := py.mono fun v b rb => hR v b H H2 _ hy s2.kp rb
      have hy2 := s2 _ _ hy
      by_cases hp : p c = true
      · rw [if_pos hp]
        refine he c (mem_of_at hc) hp H2 _ (s.trans s2) fun y H' s' r => ⟨ys, s' _ _ hy2, small_app (Nat.le_refl _) ll, ((s.trans s2).trans s').wr hD, ys ++ [y], upd_same, ?_⟩
        rw [take_snoc hc, List.filter_append, List.filter_cons, if_pos hp, List.filter_nil]
        exact (py2.mono fun v b rb => hR v b H' _ _ (s' _ _ hy2) (kp_upd D H' _) (hR v b H2 H' _ hy2 s'.kp rb)).snoc (hR y c H' _ _ (s' _ _ hy2) (kp_upd D H' _) r)
      · rw [if_neg hp]
        refine ⟨s.trans s2, ys, hy2, ?_⟩
        rw [take_snoc hc, List.filter_append, List.filter_cons, if_neg hp, List.filter_nil, List.append_nil]
        exact py2
  · rintro H ⟨s, ys, hy, py⟩
    rw [List.length_map, hlen, List.take_length] at py
    exact hd ys H s hy py
theorem lc_spT {K : PySem.W.Frag} {a : Addr} {ts : List Addr} {cs : List (Str × Int)} {i1 i2 : Nat} {tt : TT} {te : TE} {vs : List Nat} {σ : L2.St} {H1 : Hp} {D : Addr} {Qd : Hp → Prop} (p : Str × Int → Bool) (R : V → Str × Int → Hp → Prop)
    (hR : ∀ y c H H' acc, H D = some (.lst acc) → Kp D H H' → R y c H → R y c H') (hD : H1 D = none) (hL : SqT K H1 a (ts.map V.ref)) (hP : P2 (SrT H1) ts cs) (hsz : cs.length ≤ 100000)
    (hw : ∀ x y, wipe (((wipe σ vs).set i1 x).set i2 y) vs = wipe σ vs)
    (ht : ∀ c ∈ cs, ∀ H Q, Same H1 H → (∀ H', Same H H' → Q (p c) H') → tt (((wipe σ vs).set i1 (some (.str c.1))).set i2 (some (.int c.2))) H Q)
    (he : ∀ c ∈ cs, p c = true → ∀ H Q, Same H1 H → (∀ y H', Same H H' → R y c H' → Q y H') → te (((wipe σ vs).set i1 (some (.str c.1))).set i2 (some (.int c.2))) H Q)
    (hd : ∀ ys H, Same H1 H → H D = some (.lst ys) → P2 (fun y c => R y c H) ys (cs.filter p) → Qd H) : LcG (Itt K a) (gTup K 2 (gCons (gName i1) (gCons (gName i2) gNil))) tt te vs σ H1 D Qd := by
  have hlen := hP.len
  refine lc_tup (K := K) (a := a) (xs := ts.map V.ref) (fun i H => Same H1 H ∧ ∃ ys, H D = some (.lst ys) ∧ P2 (fun y c => R y c H) ys ((cs.take i).filter p)) ⟨same_upd hD, [], upd_same, .nil⟩ (fun i H _ ⟨s, _⟩ => s.seqT hL) ?_ ?_
  · rintro i x H hx ⟨s, ys, hy, py⟩
    rw [List.getElem?_map] at hx
    cases ht' : ts[i]? with
    | none => rw [ht'] at hx; cases hx
    | some t =>
      rw [ht'] at hx
      cases hx
      obtain ⟨c, hc, r⟩ := hP.getl ht'
      have hi : i < cs.length := (List.getElem?_eq_some_iff.mp hc).1
      have ll : ys.length ≤ 100000 := by
        have h1 := py.len
        have h2 := List.length_filter_le p (cs.take i)
        rw [List.length_take] at h2
        omega
      refine ⟨t, _, rfl, SqT.of (s _ _ r), rfl, _, _, rfl, _, _, rfl, rfl, hw _ _, ht c (mem_of_at hc) H _ s fun H2 s2 => ?_⟩
      have py2 := py.mono fun v b rb => hR v b H H2 _ hy s2.kp rb
      have hy2 := s2 _ _ hy
      by_cases hp : p c = true
      · rw [if_pos hp]
        refine he c (mem_of_at hc) hp H2 _ (s.trans s2) fun y H' s' r => ⟨ys, s' _ _ hy2, small_app (Nat.le_refl _) ll, ((s.trans s2).trans s').wr hD, ys ++ [y], upd_same, ?_⟩
        rw [take_snoc hc, List.filter_append, List.filter_cons, if_pos hp, List.filter_nil]
        exact (py2.mono fun v b rb => hR v b H' _ _ (s' _ _ hy2) (kp_upd D H' _) (hR v b H2 H' _ hy2 s'.kp rb)).snoc (hR y c H' _ _ (s' _ _ hy2) (kp_upd D H' _) r)
      · rw [if_neg hp]
        refine ⟨s.trans s2, ys, hy2, ?_⟩
        rw [take_snoc hc, List.filter_append, List.filter_cons, if_neg hp, List.filter_nil, List.append_nil]
        exact py2
  · rintro H ⟨s, ys, hy, py⟩
    rw [List.length_map, hlen, List.take_length] at py
    exact hd ys H s hy py
end
end Tr

/-! # Plain: a dict made of pairs, steps made normal, (text, int) lists as data. -/
namespace Tr
open PySem L2 TL
theorem mergeK_new : ∀ (more kvs : List (Key × V)), (∀ m ∈ more, ∀ k ∈ kvs, k.1 ≠ m.1) → (more.map (·.1)).Nodup → mergeK kvs more = kvs ++ more
  | [], kvs, _, _ => by rw [List.append_nil]; rfl
  | m :: ms, kvs, h, nd => by
    rw [List.map_cons, List.nodup_cons] at nd
    have e : putK kvs m.1 m.2 = kvs ++ [m] := by
      unfold putK
      rw [if_neg]
      intro z
      obtain ⟨k, hk, e⟩ := List.any_eq_true.mp z
      exact h m List.mem_cons_self k hk (of_decide_eq_true e)
    show mergeK (putK kvs m.1 m.2) ms = _
    rw [e, mergeK_new ms (kvs ++ [m]) ?_ nd.2, List.append_assoc]
    · rfl
    · intro x hx k hk
      rcases List.mem_append.mp hk with hk | hk
      · exact h x (List.mem_cons_of_mem _ hx) k hk
      · rw [List.mem_singleton.mp hk]
        intro z
        exact nd.1 (List.mem_map.mpr ⟨x, hx, z.symm⟩)
/-- names and numbers as a dict's content -/
def kdic (ks : List SI) : List (Key × V) := ks.map fun c => ((.inr c.1 : Key), V.int c.2)
def Nds (ks : List SI) : Prop := (ks.map (·.1)).Nodup
theorem kdic_nodup {ks : List SI} (h : Nds ks) : ((kdic ks).map (·.1)).Nodup := by
  have e : (kdic ks).map (·.1) = (ks.map (·.1)).map (Sum.inr : Str → Key) := by
    unfold kdic
    rw [List.map_map, List.map_map]
    rfl
  rw [e]
  exact List.Pairwise.map _ (fun a b n z => n (Sum.inr.inj z)) h
theorem merge_kdic {ks : List SI} (h : Nds ks) : mergeK [] (kdic ks) = kdic ks := mergeK_new _ _ (fun _ _ _ hk => by cases hk) (kdic_nodup h)
def lookS (ks : List SI) (z : Str) : Option Int := (ks.find? fun c => decide (c.1 = z)).map (·.2)
def perOf (ks : List SI) (z : Str) : Int := (lookS ks z).getD 0
theorem valV_kdic (z : Str) : ∀ ks : List SI, valV (kdic ks) (.inr z) = (lookS ks z).map V.int
  | [] => rfl
  | c :: cs => by
    have ih := valV_kdic z cs
    unfold lookS at ih ⊢
    by_cases e : c.1 = z
    · rw [List.find?_cons_of_pos (by exact decide_eq_true e)]
      exact valV_pos (p := ((.inr c.1 : Key), V.int c.2)) (congrArg Sum.inr e)
    · rw [List.find?_cons_of_neg (by simp [e])]
      rw [← ih]
      exact valV_neg (p := ((.inr c.1 : Key), V.int c.2)) (fun w => e (Sum.inr.inj w))
theorem lookS_mem {z : Str} {ks : List SI} (h : ∃ k ∈ ks, k.1 = z) : ∃ c ∈ ks, c.1 = z ∧ lookS ks z = some c.2 := by
  obtain ⟨k, hk, e⟩ := h
  unfold lookS
  cases hf : ks.find? fun c => decide (c.1 = z) with
  | none => exact absurd (decide_eq_true e) (List.find?_eq_none.mp hf k hk)
  | some c => exact ⟨c, List.mem_of_find?_eq_some hf, of_decide_eq_true (List.find?_some (p := fun c : SI => decide (c.1 = z)) hf), rfl⟩
/-- what stays, and the exponent, when a step comes behind a row -/
def pickN (acc : List SI) (c : SI) : List SI × Int :=
  match acc.getLast? with
  | some d => if d.1 = c.1 then (acc.dropLast, c.2 + d.2) else (acc, c.2)
  | none => (acc, c.2)
def modN (per : Str → Int) (z : Str) (e : Int) : Int := if 0 < per z then e % per z else e
def putN (acc : List SI) (z : Str) (e : Int) : List SI := if e = 0 then acc else acc ++ [(z, e)]
/-- one more step behind a normal row -/
def stepN (per : Str → Int) (acc : List SI) (c : SI) : List SI := putN (pickN acc c).1 c.1 (modN per c.1 (pickN acc c).2)
def normL (per : Str → Int) (ss : List SI) : List SI := ss.foldl (stepN per) []
theorem normL_snoc {per : Str → Int} {ss : List SI} {c : SI} : normL per (ss ++ [c]) = stepN per (normL per ss) c := by
  unfold normL
  rw [List.foldl_append]
  rfl
theorem pickN_sub {acc : List SI} {c : SI} : (∀ d ∈ (pickN acc c).1, d ∈ acc) ∧ (pickN acc c).1.length ≤ acc.length := by
  unfold pickN
  split
  · split
    · exact ⟨fun d hd => (List.dropLast_subset acc) hd, by rw [List.length_dropLast]; omega⟩
    · exact ⟨fun d hd => hd, Nat.le_refl _⟩
  · exact ⟨fun d hd => hd, Nat.le_refl _⟩
theorem stepN_sub {per : Str → Int} {acc : List SI} {c : SI} : (∀ d ∈ stepN per acc c, d ∈ acc ∨ d.1 = c.1) ∧ (stepN per acc c).length ≤ acc.length + 1 := by
  unfold stepN putN
  have h := @pickN_sub acc c
  split
  · exact ⟨fun d hd => .inl (h.1 d hd), by omega⟩
  · refine ⟨fun d hd => ?_, by rw [List.length_append]; exact Nat.succ_le_succ h.2⟩
    rcases List.mem_append.mp hd with hd | hd
    · exact .inl (h.1 d hd)
    · rw [List.mem_singleton.mp hd]
      exact .inr rfl
theorem foldN_sub {per : Str → Int} : ∀ (ss acc : List SI), (∀ d ∈ ss.foldl (stepN per) acc, d ∈ acc ∨ ∃ c ∈ ss, c.1 = d.1) ∧ (ss.foldl (stepN per) acc).length ≤ acc.length + ss.length
  | [], acc => ⟨fun d hd => .inl hd, Nat.le_refl _⟩
  | c :: ss, acc => by
    have h := foldN_sub (per := per) ss (stepN per acc c)
    have h2 := @stepN_sub per acc c
    refine ⟨fun d hd => ?_, by have := h.2; rw [List.length_cons]; exact Nat.le_trans this (by omega)⟩
    rcases h.1 d hd with z | ⟨x, hx, e⟩
    · rcases h2.1 d z with z | z
      · exact .inl z
      · exact .inr ⟨c, List.mem_cons_self, z.symm⟩
    · exact .inr ⟨x, List.mem_cons_of_mem _ hx, e⟩
theorem normL_sub {per : Str → Int} {ss : List SI} : (∀ d ∈ normL per ss, ∃ c ∈ ss, c.1 = d.1) ∧ (normL per ss).length ≤ ss.length := by
  have h := foldN_sub (per := per) ss []
  refine ⟨fun d hd => ?_, by have := h.2; rw [List.length_nil, Nat.zero_add] at this; exact this⟩
  rcases h.1 d hd with z | z
  · cases z
  · exact z
def siD (c : SI) : PyData := .tuple [.str c.1, .int c.2]
theorem lay_si : ∀ cs : List SI, (∀ c ∈ cs, PyData.strOk c.1 = true) → PyData.canLayAll0 (cs.map siD) = true
  | [], _ => rfl
  | c :: cs, h => by
    show ((PyData.strOk c.1 && (true && true)) && PyData.canLayAll0 (cs.map siD)) = true
    rw [lay_si cs fun d hd => h d (List.mem_cons_of_mem _ hd), h c List.mem_cons_self]
    rfl
theorem depth_si : ∀ cs : List SI, PyData.depthAll (cs.map siD) ≤ 1
  | [] => Nat.zero_le _
  | c :: cs => by
    have h := depth_si cs
    show max 1 (PyData.depthAll (cs.map siD)) ≤ 1
    omega
theorem shaped_si {cs : List SI} (ok : ∀ c ∈ cs, PyData.strOk c.1 = true) : SeqAt.shaped (.list (cs.map siD)) = true := by
  unfold SeqAt.shaped
  rw [Bool.and_eq_true, decide_eq_true_eq]
  refine ⟨lay_si cs ok, ?_⟩
  have h := depth_si cs
  show PyData.depthAll (cs.map siD) + 1 ≤ 64
  omega
theorem dp_si {K : PySem.W.Frag} {H : Hp} {l : Addr} {cs : List SI} (h : SL H l cs) : Dp K H (.ref l) (.list (cs.map siD)) := by
  obtain ⟨ts, hl, pp⟩ := h
  refine .lst (SqL.of hl) ?_
  clear hl
  induction pp with
  | nil => exact .nil
  | cons r _ ih => exact .cons (.tup (SqT.of r) (.cons (.str _) (.cons (.int _) .nil))) ih
theorem eqv_nilS (cs : List SI) : (!PyData.eqv (.list (cs.map siD)) (.list (([] : List SI).map siD))) = !cs.isEmpty := by
  cases cs <;> rfl
theorem snocC {α : Type} : ∀ l : List α, l = [] ∨ ∃ a b, l = a ++ [b]
  | [] => .inl rfl
  | x :: l => by
    rcases snocC l with rfl | ⟨a, b, rfl⟩
    · exact .inr ⟨[], x, rfl⟩
    · exact .inr ⟨x :: a, b, rfl⟩
theorem P2.unsnoc {α β : Type} {R : α → β → Prop} {u : α} {d : β} : ∀ {vr : List α} {ac : List β}, P2 R (vr ++ [u]) (ac ++ [d]) → P2 R vr ac ∧ R u d
  | [], [], h => by
    cases h with
    | cons r _ => exact ⟨.nil, r⟩
  | [], _ :: _, h => by
    have := h.len
    simp at this
  | _ :: _, [], h => by
    have := h.len
    simp at this
  | x :: vr, y :: ac, h => by
    cases h with
    | cons r t =>
      obtain ⟨h1, h2⟩ := P2.unsnoc t
      exact ⟨.cons r h1, h2⟩
theorem pickN_nil {c : SI} : pickN [] c = ([], c.2) := rfl
theorem pickN_eq {ac : List SI} {d c : SI} (h : d.1 = c.1) : pickN (ac ++ [d]) c = (ac, c.2 + d.2) := by
  unfold pickN
  rw [List.getLast?_concat]
  dsimp only
  rw [if_pos h, List.dropLast_concat]
theorem pickN_ne {ac : List SI} {d c : SI} (h : d.1 ≠ c.1) : pickN (ac ++ [d]) c = (ac ++ [d], c.2) := by
  unfold pickN
  rw [List.getLast?_concat]
  dsimp only
  rw [if_neg h]
end Tr

/-! # Plain: the normal rows are a group. -/
namespace Tr
open PySem L2 TL
section
variable {per : Str → Int}
theorem modN_zero (z : Str) : modN per z 0 = 0 := by unfold modN; split <;> simp
theorem modN_l (z : Str) (d e : Int) : modN per z (modN per z d + e) = modN per z (d + e) := by
  unfold modN
  split
  · rw [Int.emod_add_emod]
  · rfl
theorem modN_r (z : Str) (d e : Int) : modN per z (d + modN per z e) = modN per z (d + e) := by
  rw [Int.add_comm, modN_l, Int.add_comm]
theorem modN_m (z : Str) (d : Int) : modN per z (modN per z d) = modN per z d := by
  have := modN_l (per := per) z d 0
  rwa [Int.add_zero, Int.add_zero] at this
def goodN (per : Str → Int) (c : SI) : Prop := modN per c.1 c.2 = c.2 ∧ c.2 ≠ 0
/-- a normal row -/
def Nf (per : Str → Int) : List SI → Prop
  | [] => True
  | [c] => goodN per c
  | c :: d :: r => goodN per c ∧ c.1 ≠ d.1 ∧ Nf per (d :: r)
def lastNe (l : List SI) (z : Str) : Prop := ∀ d, l.getLast? = some d → d.1 ≠ z
theorem nf_snoc : ∀ (l : List SI) (c : SI), Nf per (l ++ [c]) ↔ Nf per l ∧ goodN per c ∧ lastNe l c.1
  | [], c => ⟨fun h => ⟨trivial, h, fun d e => by cases e⟩, fun h => h.2.1⟩
  | [a], c => ⟨fun h => ⟨h.1, h.2.2, fun d e => by cases e; exact h.2.1⟩, fun h => ⟨h.1, h.2.2 a rfl, h.2.1⟩⟩
  | a :: b :: r, c => by
    have ih := nf_snoc (b :: r) c
    have e : ∀ z, lastNe (a :: b :: r) z ↔ lastNe (b :: r) z := fun z => by
      unfold lastNe
      rw [List.getLast?_cons_cons]
    rw [e]
    constructor
    · rintro ⟨h1, h2, h3⟩
      obtain ⟨k1, k2⟩ := ih.mp h3
      exact ⟨⟨h1, h2, k1⟩, k2⟩
    · rintro ⟨⟨h1, h2, h3⟩, k⟩
      exact ⟨h1, h2, ih.mpr ⟨h3, k⟩⟩
theorem nf_put {M : List SI} {z : Str} {m : Int} (h : Nf per M) (hl : lastNe M z) (hm : modN per z m = m) : Nf per (putN M z m) := by
  unfold putN
  split
  · exact h
  · rename_i n
    exact (nf_snoc M (z, m)).mpr ⟨h, ⟨hm, n⟩, hl⟩
theorem step_put {M : List SI} {z : Str} {f : Int} (e : Int) (hl : lastNe M z) : stepN per (putN M z f) (z, e) = putN M z (modN per z (e + f)) := by
  have key : pickN (putN M z f) (z, e) = (M, e + f) := by
    unfold putN
    split
    · rename_i f0
      subst f0
      rw [Int.add_zero]
      unfold pickN
      split
      · rename_i d hd
        rw [if_neg (hl d hd)]
      · rfl
    · exact pickN_eq rfl
  unfold stepN
  rw [key]
theorem nf_view {N : List SI} (h : Nf per N) (z : Str) : ∃ M f, Nf per M ∧ lastNe M z ∧ modN per z f = f ∧ N = putN M z f := by
  rcases snocC N with rfl | ⟨a, b, rfl⟩
  · exact ⟨[], 0, trivial, fun d e => (by cases e), modN_zero z, rfl⟩
  · by_cases e : b.1 = z
    · obtain ⟨h1, h2, h3⟩ := (nf_snoc a b).mp h
      subst e
      exact ⟨a, b.2, h1, h3, h2.1, by unfold putN; rw [if_neg h2.2]⟩
    · exact ⟨a ++ [b], 0, h, fun d hd => (by rw [List.getLast?_concat] at hd; cases hd; exact e), modN_zero z, by unfold putN; rw [if_pos rfl]⟩
theorem nf_step {N : List SI} (h : Nf per N) (c : SI) : Nf per (stepN per N c) := by
  obtain ⟨M, f, h1, h2, h3, rfl⟩ := nf_view h c.1
  obtain ⟨z, e⟩ := c
  rw [step_put e h2]
  exact nf_put h1 h2 (modN_m _ _)
theorem step_step {N : List SI} (h : Nf per N) (z : Str) (d e : Int) : stepN per (stepN per N (z, d)) (z, e) = stepN per N (z, d + e) := by
  obtain ⟨M, f, h1, h2, h3, rfl⟩ := nf_view h z
  rw [step_put d h2, step_put e h2, step_put (d + e) h2, modN_r]
  congr 2
  omega
theorem step_mod (N : List SI) (z : Str) (e : Int) (h : Nf per N) : stepN per N (z, modN per z e) = stepN per N (z, e) := by
  obtain ⟨M, f, h1, h2, h3, rfl⟩ := nf_view h z
  rw [step_put _ h2, step_put _ h2, modN_l]
theorem step_zero {N : List SI} (h : Nf per N) (z : Str) : stepN per N (z, 0) = N := by
  obtain ⟨M, f, h1, h2, h3, rfl⟩ := nf_view h z
  rw [step_put _ h2, Int.zero_add, h3]
/-- steps done behind a normal row -/
def actN (per : Str → Int) (N ss : List SI) : List SI := ss.foldl (stepN per) N
theorem actN_app (N a b : List SI) : actN per N (a ++ b) = actN per (actN per N a) b := List.foldl_append ..
theorem actN_snoc (N a : List SI) (c : SI) : actN per N (a ++ [c]) = stepN per (actN per N a) c := by rw [actN_app]; rfl
theorem nf_act {N : List SI} (h : Nf per N) : ∀ ss, Nf per (actN per N ss) := by
  intro ss
  induction ss generalizing N with
  | nil => exact h
  | cons c ss ih => exact ih (nf_step h c)
theorem nf_norm (ss : List SI) : Nf per (normL per ss) := nf_act (N := []) trivial ss
theorem act_put {N M : List SI} (h : Nf per N) (z : Str) (m : Int) : actN per N (putN M z m) = stepN per (actN per N M) (z, m) := by
  unfold putN
  split
  · rename_i e
    subst e
    exact (step_zero (nf_act h M) z).symm
  · exact actN_snoc N M (z, m)
theorem act_step {N p : List SI} (h : Nf per N) (hp : Nf per p) (c : SI) : actN per N (stepN per p c) = stepN per (actN per N p) c := by
  obtain ⟨z, e⟩ := c
  obtain ⟨M, f, h1, h2, h3, rfl⟩ := nf_view hp z
  rw [step_put e h2, act_put h, act_put h, step_mod _ _ _ (nf_act h M), step_step (nf_act h M), Int.add_comm]
theorem act_norm {N : List SI} (h : Nf per N) (ss : List SI) : actN per N (normL per ss) = actN per N ss := by
  have key : ∀ (ss p : List SI), Nf per p → actN per N (actN per p ss) = actN per (actN per N p) ss := by
    intro ss
    induction ss with
    | nil => intro p _; rfl
    | cons c ss ih =>
      intro p hp
      show actN per N (actN per (stepN per p c) ss) = actN per (stepN per (actN per N p) c) ss
      rw [ih _ (nf_step hp c), act_step h hp]
  exact key ss [] trivial
theorem norm_nf : ∀ {N : List SI}, Nf per N → normL per N = N := by
  intro N
  have key : ∀ n (N : List SI), N.length = n → Nf per N → normL per N = N := by
    intro n
    induction n with
    | zero => intro N e _; rw [List.eq_nil_of_length_eq_zero e]; rfl
    | succ n ih =>
      intro N e h
      rcases snocC N with rfl | ⟨a, b, rfl⟩
      · rfl
      · obtain ⟨h1, h2, h3⟩ := (nf_snoc a b).mp h
        rw [normL_snoc, ih a (by rw [List.length_append] at e; simp at e; exact e) h1]
        obtain ⟨z, m⟩ := b
        have := step_put (per := per) (M := a) (z := z) (f := 0) m h3
        unfold putN at this
        rw [if_pos rfl, Int.add_zero, h2.1, if_neg h2.2] at this
        exact this
  exact key _ N rfl
theorem norm_app (a b : List SI) : normL per (a ++ b) = actN per (normL per a) b := actN_app [] a b
theorem norm_l (a b : List SI) : normL per (normL per a ++ b) = normL per (a ++ b) := by
  rw [norm_app, norm_app, norm_nf (nf_norm a)]
theorem norm_r (a b : List SI) : normL per (a ++ normL per b) = normL per (a ++ b) := by
  rw [norm_app, norm_app, act_norm (nf_norm a)]
/-- steps taken back -/
def backL (ss : List SI) : List SI := ss.reverse.map fun c => (c.1, -c.2)
theorem backL_app (a b : List SI) : backL (a ++ b) = backL b ++ backL a := by
  unfold backL
  rw [List.reverse_append, List.map_append]
theorem backL_back (a : List SI) : backL (backL a) = a := by
  unfold backL
  rw [← List.map_reverse, List.reverse_reverse, List.map_map]
  have : ((fun c : SI => (c.1, -c.2)) ∘ fun c : SI => (c.1, -c.2)) = id := by
    funext c
    simp
  rw [this, List.map_id]
theorem act_back {N : List SI} (h : Nf per N) : ∀ a, actN per N (a ++ backL a) = N := by
  intro a
  induction a generalizing N with
  | nil => rfl
  | cons c a ih =>
    have e : backL (c :: a) = backL a ++ [(c.1, -c.2)] := by rw [show c :: a = [c] ++ a from rfl, backL_app]; rfl
    rw [e, ← List.append_assoc, actN_snoc, show c :: a ++ backL a = [c] ++ (a ++ backL a) from rfl, actN_app, ih (nf_act h [c])]
    show stepN per (stepN per N c) (c.1, -c.2) = N
    have := step_step h c.1 c.2 (-c.2)
    rw [Int.add_right_neg, step_zero h] at this
    exact this
theorem act_back' {N : List SI} (h : Nf per N) (a : List SI) : actN per N (backL a ++ a) = N := by
  have := act_back h (backL a)
  rwa [backL_back] at this
theorem act_cancel {N M : List SI} (h : Nf per N) (h' : Nf per M) {a : List SI} (e : actN per N a = actN per M a) : N = M := by
  have h1 := act_back h a
  have h2 := act_back h' a
  rw [actN_app, e, ← actN_app, h2] at h1
  exact h1.symm
theorem act_backnorm {N : List SI} (h : Nf per N) (b : List SI) : actN per N (backL (normL per b)) = actN per N (backL b) := by
  refine act_cancel (a := b) (nf_act h _) (nf_act h _) ?_
  rw [← act_norm (nf_act h (backL (normL per b))) b, ← actN_app, ← actN_app, act_back' h, act_back' h]
theorem norm_back (b : List SI) : normL per (backL (normL per b)) = normL per (backL b) := act_backnorm (N := []) trivial b
end
end Tr

/-! # Rewriting a list of steps at any places comes to its normal row. -/
namespace Tr
open PySem PySem.Spec PyProof.Rows L2
section
variable {per : Str → Int}
theorem norm_at (a b c : List SI) (h : ∀ N, Nf per N → actN per N b = actN per N c) (d : List SI) : normL per (a ++ b ++ d) = normL per (a ++ c ++ d) := by
  rw [norm_app, norm_app, norm_app, norm_app, h _ (nf_norm a)]
theorem norm_join (a d : List SI) (z : Str) (e f : Int) : normL per (a ++ [(z, e), (z, f)] ++ d) = normL per (a ++ [(z, e + f)] ++ d) :=
  norm_at a _ _ (fun N h => by
    show stepN per (stepN per N (z, e)) (z, f) = stepN per N (z, e + f)
    exact step_step h z e f) d
theorem norm_less (a d : List SI) (z : Str) (e : Int) : normL per (a ++ [(z, e)] ++ d) = normL per (a ++ [(z, modN per z e)] ++ d) :=
  norm_at a [(z, e)] [(z, modN per z e)] (fun N h => show stepN per N (z, e) = stepN per N (z, modN per z e) from (step_mod N z e h).symm) d
theorem norm_drop (a d : List SI) (z : Str) : normL per (a ++ [(z, 0)] ++ d) = normL per (a ++ d) := by
  have q := norm_at (per := per) a [(z, 0)] [] (fun N h => step_zero h z) d
  rw [List.append_nil] at q
  exact q
/-- how much there may still be to do -/
def badS (per : Str → Int) (c : SI) : Bool := decide (0 < per c.1) && !(decide (0 ≤ c.2) && decide (c.2 < per c.1))
def wS (per : Str → Int) (c : SI) : Nat := if badS per c then 3 else 2
def muS (per : Str → Int) (ss : List SI) : Nat := (ss.map (wS per)).sum
theorem wS_le (c : SI) : wS per c ≤ 3 ∧ 2 ≤ wS per c := by unfold wS; split <;> omega
theorem mu_app (a b : List SI) : muS per (a ++ b) = muS per a + muS per b := by unfold muS; rw [List.map_append, List.sum_append]
theorem mu_one (c : SI) : muS per [c] = wS per c := by simp [muS]
theorem mu_join (a d : List SI) (z : Str) (e f : Int) : muS per (a ++ [(z, e + f)] ++ d) < muS per (a ++ [(z, e), (z, f)] ++ d) := by
  have h1 := @wS_le per (z, e + f)
  have h2 := @wS_le per (z, e)
  have h3 := @wS_le per (z, f)
  have h4 : muS per [(z, e), (z, f)] = wS per (z, e) + wS per (z, f) := by simp [muS]
  rw [mu_app, mu_app, mu_app, mu_app, mu_one, h4]
  omega
theorem mu_less (a d : List SI) (z : Str) (e : Int) (h : badS per (z, e) = true) : muS per (a ++ [(z, modN per z e)] ++ d) < muS per (a ++ [(z, e)] ++ d) := by
  have hp : 0 < per z := by
    unfold badS at h
    simp only [Bool.and_eq_true, decide_eq_true_eq] at h
    exact h.1
  have h1 : wS per (z, e) = 3 := by unfold wS; rw [if_pos h]
  have h2 : badS per (z, modN per z e) = false := by
    unfold badS modN
    rw [if_pos hp]
    have a1 := Int.emod_nonneg e (by omega : per z ≠ 0)
    have a2 := Int.emod_lt_of_pos e hp
    simp [a1, a2]
  have h3 : wS per (z, modN per z e) = 2 := by unfold wS; rw [h2]; rfl
  rw [mu_app, mu_app, mu_app, mu_app, mu_one, mu_one, h1, h3]
  omega
theorem mu_drop (a d : List SI) (c : SI) : muS per (a ++ d) < muS per (a ++ [c] ++ d) := by
  have h1 := @wS_le per c
  rw [mu_app, mu_app, mu_app, mu_one]
  omega
/-- nothing more to do -/
def DoneS (per : Str → Int) (ss : List SI) : Prop := (∀ (i : Nat) (c : SI), ss[i]? = some c → badS per c = false ∧ c.2 ≠ 0) ∧ ∀ (i : Nat) (c d : SI), ss[i]? = some c → ss[i + 1]? = some d → d.1 ≠ c.1
theorem good_of {c : SI} (h : badS per c = false) (h0 : c.2 ≠ 0) : goodN per c := by
  refine ⟨?_, h0⟩
  unfold modN
  unfold badS at h
  by_cases hp : 0 < per c.1
  · rw [if_pos hp]
    simp [hp] at h
    exact Int.emod_eq_of_lt h.1 h.2
  · rw [if_neg hp]
theorem nf_doneN : ∀ (n : Nat) {ss l : List SI}, l.length = n → (∃ r, ss = l ++ r) → DoneS per ss → Nf per l
  | 0, ss, l, hn, _, _ => by
    obtain rfl := List.eq_nil_of_length_eq_zero hn
    exact trivial
  | n + 1, ss, l, hn, ⟨r, hr⟩, hd => by
    obtain ⟨l, c, rfl⟩ : ∃ l' c, l = l' ++ [c] := by
      rcases snocC l with rfl | h
      · cases hn
      · exact h
    subst hr
    rw [nf_snoc]
    have hc : (l ++ [c] ++ r)[l.length]? = some c := by simp
    obtain ⟨b, m⟩ := hd.1 _ _ hc
    refine ⟨nf_doneN n (by rw [List.length_append] at hn; simpa using hn) ⟨[c] ++ r, by simp⟩ hd, good_of b m, fun d hl => ?_⟩
    obtain ⟨l', rfl⟩ : ∃ l', l = l' ++ [d] := by
      rcases snocC l with rfl | ⟨l', d', rfl⟩
      · simp at hl
      · simp at hl
        exact ⟨l', by rw [hl]⟩
    have e1 : (l' ++ [d] ++ [c] ++ r)[l'.length]? = some d := by simp
    have e2 : (l' ++ [d] ++ [c] ++ r)[l'.length + 1]? = some c := by simp
    exact fun z => hd.2 _ _ _ e1 e2 z.symm
theorem norm_done {ss : List SI} (h : DoneS per ss) : normL per ss = ss := norm_nf (nf_doneN _ rfl ⟨[], by simp⟩ h)
end
end Tr

/-! # Texts: words of steps; str of an own object; a class held by a local name. -/
namespace Tr
open PySem PySem.Spec PyProof.Rows L2 TL
def tMakeV (i : Nat) (C : Addr) (sp : Sp) (dvs : List V) (E : XK) (t : TA) : TE := fun σ H Q => σ[i]? = some (some (.ref C)) ∧ tMake C sp dvs E t σ H Q
theorem pe_mkv {X : Cx} {k j i : Nat} {C : Addr} {x y : Str} {sp : Sp} {dvs : List V} {p pos : Pos} {e : Expr} {es : List Expr} {t : TA} {E : XK} (c : Mak X.prog X.w X.K X.mg X.base k y C sp dvs) (hr : Room j X.A) (hk : k + 1 ≤ j) (hN : X.N[i]? = some x) (hv : Vis X.env.scope x) (hx : Passes (L2.CX X.prog X.w) X E) (ha : PA X (e :: es) t)
    (hd : (x == ("__debug__" : Str)) = false := by decide) (hcd : (x == ("__classdict__" : Str)) = false := by decide) (he : starEach (e :: es) X.env = (false, eval e X.env) :: starEach es X.env := by rfl) (hpl : (backTo pos (starEach es X.env)).any (·.1) = false := by rfl) :
    PE X (.Call (.Name x p) (e :: es) [] pos) (tMakeV i C sp dvs E t) := by
  obtain ⟨f, fd, ps, ds, M, F, hm, b, d⟩ := c.ex
  refine ⟨fun pins s σ H Q I h => ?_⟩
  obtain ⟨hs, ht⟩ := h
  refine wpAny_Call_Name_kw (thn ((pe_var (pos := p) hN hv hd hcd).run pins s σ H (fun v H1 => v = .ref C ∧ H1 = H) I ⟨.ref C, hs, rfl, rfl⟩) fun u s1 ⟨v, H1, I1, r1, q1⟩ => ?_)
  obtain ⟨rfl, rfl⟩ := q1
  cases r1
  refine PySem.W.callWith_K (h₀ := X.base) I.ok.mod.kin M.kp (thn (ha.run pos pins s1 σ _ _ I1 ht) fun us s2 ⟨vs, H2, I2, r, q⟩ => ⟨I2.kIn, ?_⟩) he hpl
  exact run_make M F (hr.mono hk) b d hx I2 r q
/-- str of an own object -/
theorem cr_strO {X : Cx} {k j : Nat} {C : Addr} {sp : Sp} {E : XK} (c : Met X.prog X.w X.K X.mg X.base k C "__str__" sp []) (hr : Room j X.A) (hk : k + 2 ≤ j) (hx : Passes (L2.CX X.prog X.w) X E) :
    CallR X (.type "str") (fun xs H Q => ∃ a dx fs, xs = [.ref a] ∧ H a = some (.ins C dx fs) ∧ sp [.ref a] H (fun v H' => ∃ z, v = .str z ∧ Q (.str z) H') E) := by
  obtain ⟨f, fd, ps, ds, hc, hm, F, b, d⟩ := c.ex
  cases d
  intro pins s σ H xs us Q I r h
  obtain ⟨a, dx, fs, rfl, ha, h⟩ := h
  rw [Vals.ref1 r]
  obtain ⟨mA, J, _⟩ := ins_get I.hok ha
  obtain ⟨od, J, _⟩ := J.look
  refine PySem.W.kso_call (hr.mono hk).in1.in1.units0 I.kIn J hm.at_ hm.fn ?_
  refine wpAny_mono (run_at (A := X.A.in1.in1) F (hr.mono hk).in1.in1 rfl b hx I (us := [.ref a]) (vs := [.ref a]) (.cons rfl .nil) h) (fun r s' q => ?_) fun _ _ z => z
  obtain ⟨z, H', I', rz, y, rfl, q⟩ := q
  obtain ⟨t, rfl⟩ := rz
  exact ⟨.str y, H', I', ⟨_, rfl⟩, q⟩
/-! ### numbers as texts -/
def intS (e : Int) : Str := Str.ofString (toString e)
theorem tl_pos (n : Nat) : tl (intS (n : Int)) = numL n := tl_num n
theorem tl_neg (n : Nat) : tl (intS (Int.negSucc n)) = 45 :: numL (n + 1) := by
  unfold intS
  rw [tl_ofString]
  show (("-" ++ Nat.repr (n + 1) : String)).toList.map Char.toNat = _
  rw [String.toList_append, List.map_append, Nat.toList_repr]
  rfl
theorem numL_head : ∀ {n : Nat}, 0 < n → ∃ d r, numL n = d :: r ∧ d ≠ 48 := by
  intro n
  induction n using Nat.strongRecOn with
  | _ n ih =>
    intro h
    by_cases h1 : n < 10
    · rw [numL_lt h1]
      exact ⟨_, _, rfl, by omega⟩
    · obtain ⟨d, r, e, ne⟩ := ih (n / 10) (by omega) (by omega)
      rw [numL_step (by omega), e]
      exact ⟨d, _, rfl, ne⟩
theorem numL_short {n : Nat} (h : n < 2 ^ 1000) : (numL n).length ≤ 302 := numL_len (by decide) (Nat.lt_trans h (by decide +kernel))
theorem intS_len {e : Int} (h : Bd 1000 e) : (intS e).length ≤ 303 := by
  have h : e.natAbs < 2 ^ 1000 := h
  rw [len_tl]
  cases e with
  | ofNat n =>
    rw [show Int.ofNat n = (n : Int) from rfl, tl_pos]
    exact Nat.le_succ_of_le (numL_short h)
  | negSucc n =>
    rw [tl_neg, List.length_cons]
    exact Nat.succ_le_succ (numL_short h)
theorem intS_chars {e : Int} {c : Nat} (h : c ∈ tl (intS e)) : c = 45 ∨ isD c := by
  cases e with
  | ofNat n =>
    rw [show Int.ofNat n = (n : Int) from rfl, tl_pos] at h
    exact .inr (numL_digits n c h)
  | negSucc n =>
    rw [tl_neg] at h
    rcases List.mem_cons.mp h with h | h
    · exact .inl h
    · exact .inr (numL_digits _ c h)
theorem intS_int {e : Int} (h : Bd 1000 e) : intText? (intS e) = some e := by
  have h : e.natAbs < 2 ^ 1000 := h
  cases e with
  | ofNat n => exact int_num (Nat.le_trans (numL_short h) (by decide))
  | negSucc n =>
    have e := intText_neg (x := intS (Int.negSucc n)) (cs := numL (n + 1)) (tl_neg n) (numL_digits _) (numL_ne _) (by rw [len_tl, tl_neg, List.length_cons]; exact Nat.le_trans (Nat.succ_le_succ (numL_short h)) (by decide))
    rw [e, numL_val]
    rfl
def dashB : List Nat → Bool
  | [] => false
  | c :: _ => decide (c = 45)
theorem sw_dash (x : Str) : Txt.startswith x "-" = dashB (tl x) := by
  have h2 : tl ("-" : Str) = [45] := by rw [tl_ofString]; rfl
  have h3 : ("-" : Str).length = 1 := by rw [len_tl, h2]; rfl
  unfold Txt.startswith
  rw [h3, len_tl, PySem.StrLaws.subAt_eq, h3, show ("-" : Str).cps.toList = [45] from h2, List.drop_zero]
  show (decide (0 + 1 ≤ (tl x).length) && ((tl x).take 1 == [45])) = _
  cases tl x with
  | nil => rfl
  | cons c r =>
    have : decide (0 + 1 ≤ (c :: r).length) = true := decide_eq_true (by rw [List.length_cons]; omega)
    rw [this, Bool.true_and]
    show (([c] : List Nat) == [45]) = decide (c = 45)
    by_cases e : c = 45
    · rw [e]; rfl
    · rw [decide_eq_false e]
      simpa using e
theorem cut1 (x : Str) : tl (cutS x (some 1) none) = (tl x).drop 1 := by
  show ((tl x).drop (HT.sIx x.length 0 (some 1))).take (x.length - HT.sIx x.length 0 (some 1)) = _
  have e : HT.sIx x.length 0 (some ((1 : Nat) : Int)) = min 1 x.length := HT.sIx_nat _ _ _
  rw [show (some 1 : Option Int) = some ((1 : Nat) : Int) from rfl, e]
  have hl := len_tl x
  rw [List.take_of_length_le (by rw [List.length_drop, hl]; exact Nat.le_refl _)]
  cases ht : tl x with
  | nil => simp
  | cons c r =>
    rw [ht, List.length_cons] at hl
    rw [hl, show min 1 (r.length + 1) = 1 by omega]
/-! ### words of steps -/
theorem tl_hat : tl ("^" : Str) = [94] := by rw [tl_ofString]; rfl
theorem tl_sp : tl (" " : Str) = [32] := by rw [tl_ofString]; rfl
/-- the word w tells the step c -/
structure Wd (w : Str) (c : SI) : Prop where
  nm : NmOk c.1
  bd : Bd 1000 c.2
  eq : (w = c.1 ∧ c.2 = 1) ∨ w = c.1 ++ "^" ++ intS c.2
theorem NmOk.chars {z : Str} (h : NmOk z) {c : Nat} (hc : c ∈ tl z) : isL c ∨ isD c := by
  obtain ⟨a, r, e, h1, h2, h3⟩ := h
  rw [e] at hc
  rcases List.mem_cons.mp hc with rfl | hc
  · exact .inl h1
  · exact h3 c hc
theorem NmOk.no {z : Str} (h : NmOk z) {c : Nat} (h1 : ¬ isL c) (h2 : ¬ isD c) : c ∉ tl z := fun hc => (h.chars hc).elim h1 h2
theorem NmOk.len {z : Str} (h : NmOk z) : z.length ≤ 12 := by
  obtain ⟨c, r, e, _, h2, _⟩ := h
  rw [len_tl, e, List.length_cons]
  omega
theorem Wd.len {w : Str} {c : SI} (h : Wd w c) : w.length ≤ 320 := by
  have h1 := h.nm.len
  rcases h.eq with ⟨e, _⟩ | e
  · rw [e]; omega
  · have h2 := intS_len h.bd
    rw [e, len_tl, tl_append, tl_append, List.length_append, List.length_append, tl_hat, ← len_tl, ← len_tl]
    show c.1.length + 1 + (intS c.2).length ≤ 320
    omega
theorem Wd.free {w : Str} {c : SI} (h : Wd w c) : 32 ∉ tl w := by
  have n1 : 32 ∉ tl c.1 := h.nm.no (by unfold isL; omega) (by unfold isD; omega)
  rcases h.eq with ⟨e, _⟩ | e
  · rw [e]; exact n1
  · rw [e, tl_append, tl_append, tl_hat]
    intro hm
    rcases List.mem_append.mp hm with hm | hm
    · rcases List.mem_append.mp hm with hm | hm
      · exact n1 hm
      · rw [List.mem_singleton] at hm; omega
    · rcases intS_chars hm with k | k
      · omega
      · unfold isD at k; omega
/-- the text of words -/
theorem words_back {ws : List Str} {cs : List SI} (h : P2 Wd ws cs) (hne : ws ≠ []) : Txt.split (Txt.join " " ws) " " = ws :=
  split_join tl_sp (by decide +kernel) hne fun p hp => by
    obtain ⟨c, _, r⟩ := h.meml hp
    exact r.free
theorem words_dot {ws : List Str} {cs : List SI} (h : P2 Wd ws cs) (hne : ws ≠ []) : Txt.join " " ws ≠ "." := by
  intro e
  have hd : tl ("." : Str) = [46] := by rw [tl_ofString]; rfl
  have h2 := congrArg tl e
  rw [hd, join_eq, tl_join] at h2
  cases h with
  | nil => exact hne rfl
  | @cons w c ws cs r t =>
    obtain ⟨a, rr, ew, ha, _⟩ := r.nm
    have hw : ∃ x, tl w = a :: x := by
      rcases r.eq with ⟨e, _⟩ | e
      · rw [e]; exact ⟨_, ew⟩
      · rw [e, tl_append, tl_append, ew]; exact ⟨_, rfl⟩
    obtain ⟨x, hx⟩ := hw
    cases ws with
    | nil =>
      rw [List.map_cons, List.map_nil] at h2
      have h2 : tl w = [46] := h2
      rw [hx] at h2
      injection h2 with h3 _
      unfold isL at ha
      omega
    | cons w2 ws =>
      have h2 : tl w ++ _ = [46] := h2
      rw [hx] at h2
      injection h2 with h3 _
      unfold isL at ha
      omega
end Tr

/-! # Texts, continued: comprehensions over values; the lengths of joined texts. -/
namespace Tr
open PySem L2 TL
/-- [e for x in xs], xs values that tell cs -/
theorem lc_v2 {α : Type} {J : It} {G : Hp → Prop} {R0 : V → α → Prop} {us : List V} {cs : List α} {i1 : Nat} {te : TE} {vs : List Nat} {σ : L2.St} {H1 : Hp} {D : Addr} {Qd : Hp → Prop} (w : Walk J us.length G (YAt us)) (hP : P2 R0 us cs) (R : V → α → Hp → Prop)
    (hR : ∀ y c H H' acc, H D = some (.lst acc) → Kp D H H' → R y c H → R y c H') (hD : H1 D = none) (hsz : cs.length ≤ 100000)
    (hG : ∀ H, Same H1 H → G H) (hw : ∀ x, wipe ((wipe σ vs).set i1 x) vs = wipe σ vs)
    (he : ∀ u c, c ∈ cs → R0 u c → ∀ H Q, Same H1 H → (∀ y H', Same H H' → R y c H' → Q y H') → te ((wipe σ vs).set i1 (some u)) H Q)
    (hd : ∀ ys H, Same H1 H → H D = some (.lst ys) → P2 (fun y c => R y c H) ys cs → Qd H) : LcG J (gName i1) tYes te vs σ H1 D Qd := by
  have hlen := hP.len
  refine lc_it w (fun i H => Same H1 H ∧ ∃ ys, H D = some (.lst ys) ∧ P2 (fun y c => R y c H) ys (cs.take i)) ⟨same_upd hD, [], upd_same, .nil⟩ (fun i H _ ⟨s, _⟩ => hG H s) ?_ ?_
  · rintro i x H H0 hi ⟨s, ys, hy, py⟩ ⟨rfl, hx⟩
    obtain ⟨c, hc, r⟩ := hP.getl hx
    have ll : ys.length ≤ 100000 := by
      have h1 := py.len
      rw [List.length_take] at h1
      omega
    refine ⟨hw _, ?_⟩
    show te _ _ _
    refine he x c (mem_of_at hc) r H0 _ s fun y H' s' ry => ⟨ys, s' _ _ hy, small_app (Nat.le_refl _) ll, (s.trans s').wr hD, ys ++ [y], upd_same, ?_⟩
    rw [take_snoc hc]
    exact (py.mono fun v b rb => hR v b H' _ _ (s' _ _ hy) (kp_upd D H' _) (hR v b H0 H' _ hy s'.kp rb)).snoc (hR y c H' _ _ (s' _ _ hy) (kp_upd D H' _) ry)
  · rintro H ⟨s, ys, hy, py⟩
    rw [hlen, List.take_length] at py
    exact hd ys H s hy py
def wdS (c : SI) : Str := if c.2 = 1 then c.1 else c.1 ++ "^" ++ intS c.2
def rowTxt (ss : List SI) : Str := if ss = [] then "." else Txt.join " " (ss.map wdS)
theorem wdS_wd {c : SI} (h1 : NmOk c.1) (h2 : Bd 1000 c.2) : Wd (wdS c) c := by
  refine ⟨h1, h2, ?_⟩
  unfold wdS
  by_cases e : c.2 = 1
  · rw [if_pos e]; exact .inl ⟨rfl, e⟩
  · rw [if_neg e]; exact .inr rfl
theorem bd_log {e : Int} (h : Bd 1000 e) : e.natAbs.log2 < 1920 := by
  have h : e.natAbs < 2 ^ 1000 := h
  by_cases h0 : e.natAbs = 0
  · rw [h0]; decide
  · exact Nat.lt_trans ((Nat.log2_lt h0).mpr h) (by decide)
theorem empty_app (x : Str) : Str.empty ++ x = x := by
  refine ext_tl ?_
  rw [tl_append]
  rfl
theorem sum_le {α : Type} {f : α → Nat} {m : Nat} : ∀ {l : List α}, (∀ x ∈ l, f x ≤ m) → (l.map f).sum ≤ m * l.length
  | [], _ => Nat.zero_le _
  | x :: l, h => by
    have h1 := h x List.mem_cons_self
    have h2 := sum_le (f := f) (m := m) (l := l) fun y hy => h y (List.mem_cons_of_mem _ hy)
    rw [List.map_cons, List.sum_cons, List.length_cons, Nat.mul_succ]
    omega
theorem joinL_len (S : List Nat) : ∀ l : List (List Nat), (joinL S l).length ≤ (l.map List.length).sum + l.length * S.length
  | [] => Nat.zero_le _
  | [p] => by
    show p.length ≤ (p.length + 0) + 1 * S.length
    omega
  | p :: q :: r => by
    have ih := joinL_len S (q :: r)
    show (p ++ (S ++ joinL S (q :: r))).length ≤ _
    rw [List.length_append, List.length_append, List.map_cons, List.sum_cons, List.length_cons, Nat.succ_mul]
    omega
theorem words_len {ws : List Str} {cs : List SI} (h : P2 Wd ws cs) : (Txt.join " " ws).length ≤ 321 * ws.length := by
  rw [len_tl, join_eq, tl_join, tl_sp]
  have h1 := joinL_len [32] (ws.map tl)
  have h2 := sum_le (l := ws.map tl) (f := List.length) (m := 320) fun z hz => by
    obtain ⟨x, hx, rfl⟩ := List.mem_map.mp hz
    obtain ⟨c, _, r⟩ := h.meml hx
    have := r.len
    rw [len_tl] at this
    exact this
  rw [List.length_map] at h1 h2
  have e1 : ([32] : List Nat).length = 1 := rfl
  rw [e1] at h1
  omega
end Tr

/-! # The classes of errors, all at once. -/
namespace Tr
open PySem PySem.Spec PyProof.Rows L2
/-- classes of errors that are apart, all below one and below ValueError -/
structure ErrTab (K : PySem.W.Frag) (ns : List Str) (top : Str) : Prop where
  kit : ∀ i j, i < ns.length → j < ns.length → PySem.W.kitOne K (.ref (He.ga K (ns.getD i ""))) (.ref (He.ga K (ns.getD j ""))) = some (decide (i = j))
  exm : ∀ i j, i < ns.length → j < ns.length → PySem.W.exmOne K (.ref (He.ga K (ns.getD i ""))) (.ref (He.ga K (ns.getD j ""))) = some (decide (i = j))
  up : ∀ i, i < ns.length → PySem.W.exmOne K (.ref (He.ga K (ns.getD i ""))) (.ref (He.ga K top)) = some true
  ve : ∀ i, i < ns.length → PySem.W.kitOne K (.ref (He.ga K (ns.getD i ""))) (.type "ValueError") = some true
def errTabB (ns : List Str) (top : Str) (K : PySem.W.Frag) : Bool := (List.range ns.length).all fun i =>
  decide (PySem.W.exmOne K (.ref (He.ga K (ns.getD i ""))) (.ref (He.ga K top)) = some true) && (decide (PySem.W.kitOne K (.ref (He.ga K (ns.getD i ""))) (.type "ValueError") = some true) &&
    (List.range ns.length).all fun j => decide (PySem.W.kitOne K (.ref (He.ga K (ns.getD i ""))) (.ref (He.ga K (ns.getD j ""))) = some (Nat.beq i j)) && decide (PySem.W.exmOne K (.ref (He.ga K (ns.getD i ""))) (.ref (He.ga K (ns.getD j ""))) = some (Nat.beq i j)))
theorem errTabB_ok {ns : List Str} {top : Str} {K : PySem.W.Frag} (h : errTabB ns top K = true) : ErrTab K ns top := by
  have bq : ∀ i j : Nat, Nat.beq i j = decide (i = j) := fun i j => by
    rw [Bool.eq_iff_iff, Nat.beq_eq, decide_eq_true_eq]
  unfold errTabB at h
  rw [List.all_eq_true] at h
  have one : ∀ i, i < ns.length → _ := fun i hi => h i (List.mem_range.mpr hi)
  have two : ∀ i j, i < ns.length → j < ns.length → PySem.W.kitOne K (.ref (He.ga K (ns.getD i ""))) (.ref (He.ga K (ns.getD j ""))) = some (decide (i = j)) ∧ PySem.W.exmOne K (.ref (He.ga K (ns.getD i ""))) (.ref (He.ga K (ns.getD j ""))) = some (decide (i = j)) := fun i j hi hj => by
    have h1 := one i hi
    rw [Bool.and_eq_true, Bool.and_eq_true, List.all_eq_true] at h1
    have h2 := h1.2.2 j (List.mem_range.mpr hj)
    rw [Bool.and_eq_true, decide_eq_true_eq, decide_eq_true_eq, bq] at h2
    exact h2
  refine ⟨fun i j hi hj => (two i j hi hj).1, fun i j hi hj => (two i j hi hj).2, fun i hi => ?_, fun i hi => ?_⟩
  · have h1 := one i hi
    rw [Bool.and_eq_true, decide_eq_true_eq] at h1
    exact h1.1
  · have h1 := one i hi
    rw [Bool.and_eq_true, Bool.and_eq_true, decide_eq_true_eq, decide_eq_true_eq] at h1
    exact h1.2.1
/-! ### a caught error handed to a def -/
section
variable {X : Cx} {a : Addr} {oe : Obj} {cls : Value} {d : Option Addr}
/-- what is known of a caught error -/
def ExcAt (K : PySem.W.Frag) (H : Hp) (cls : Value) (d : Option Addr) (C : Addr) : Prop := cls = .ref C ∧ ExcC K C ∧ (d = none ∨ ∃ dd fs, d = some dd ∧ H dd = some (.xd fs))
def rIsA (K : PySem.W.Frag) (a : Addr) (cls : Value) (d : Option Addr) : List V → Hp → VK → Prop := fun xs H Q => ∃ (C : Addr) (c : V) (cv : Value) (b : Bool), xs = [.ref a, c] ∧ ExcAt K H cls d C ∧ (∀ u, RelV c u → u = cv) ∧ PySem.W.kitOne K (.ref C) cv = some b ∧ Q (.bl b) H
theorem call_isA (K : PySem.W.Frag) (hp : (a, oe) ∈ X.pn) (hz : Zc cls d oe) (hf : ∃ vs, oe.data = .fields vs) (hk : X.K = K := by rfl) : CallR X (.builtin "isinstance") (rIsA K a cls d) := by
  subst hk
  intro pins s σ H xs us Q I r ⟨C, c, cv, b, ex, ⟨ec, T, ed⟩, hcv, e, q⟩
  subst ex ec
  match us, r with
  | [_, _], .cons rx (.cons rt .nil) =>
    cases rx
    cases hcv _ rt
    obtain ⟨ha, _⟩ := I.pin (a, oe) (List.mem_append_left _ hp)
    obtain ⟨vs, hd⟩ := hf
    obtain ⟨od, J⟩ : ∃ od, PySem.W.InstAt s.heap a oe C od := by
      rcases ed with rfl | ⟨dd, fs, rfl, hx⟩
      · obtain ⟨oc, odd, oda, osl⟩ := oe
        obtain ⟨h1, h2⟩ := hz
        dsimp only at h1 h2 hd
        subst h1 h2 hd
        exact ⟨none, ha, rfl, rfl, trivial⟩
      · obtain ⟨mA, hns, _⟩ := (show ObjOk X.prog X.w H s.heap dd (.xd fs) from I.hok dd _ hx)
        obtain ⟨od, ho, _⟩ := lookIn_ns hns
        exact ⟨some od, ha, hz.1, by unfold PySem.W.notCls; rw [hd] <;> rfl, by rw [hz.2]; exact ho⟩
    exact PySem.W.kia_one (exc_kit T) I.kIn J e (fun z => nomatch z) fun tk => ⟨.bl b, H, I.kept (t' := tk) fun _ _ z => z, rfl, q⟩
end
/-- a def that is handed a caught error -/
structure FnE (P : Program) (w : World) (K : PySem.W.Frag) (mg : Str → Option Value) (base : Heap) (CX : CXT) (k : Nat) (f : Addr) (fd : FuncData) (ps : List Str) (sp : Addr → Value → Option Addr → Sp) : Prop where
  len : ∀ a cls d vs H Q E, sp a cls d vs H Q E → vs.length = ps.length
  run : ∀ (A : Around) (outer : List Env) (s : Shared) (H : Hp) (args : Args) (us : List Value) (vs : List V) (Q : VK) (E : XK) (a : Addr) (oe : Obj) (cls : Value) (d : Option Addr), Zc cls d oe → (∃ vs, oe.data = .fields vs) → L2H.RoomH k A → L2H.PinOk outer H s (a, oe) → Env0 P w K mg base A outer s H → BindsTo s fd args (ps.zip us) → Vals vs us → sp a cls d vs H Q E →
    codeAny (model P w) A (.call (.ref f) args) (CR CX outer P w H s Q E) s
structure CalE (P : Program) (w : World) (K : PySem.W.Frag) (mg : Str → Option Value) (base : Heap) (k : Nat) (x : Str) (sp : Addr → Value → Option Addr → Sp) : Prop where
  ex : ∃ (f : Addr) (fd : FuncData) (ps : List Str), FnE P w K mg base (L2.CX P w) k f fd ps sp ∧ mg x = some (.ref f) ∧ PySem.W.keepIn K (.ref f) = true ∧ Binds K fd ps []
section
variable {P : Program} {w : World} {K : PySem.W.Frag} {mg : Str → Option Value} {base : Heap}
theorem calE {x : Str} {st : Stmt} {N ps : List Str} {k : Nat} {sp : Addr → Value → Option Addr → Sp} (D : Dfn K mg x st) (S : FnScope N ps (defScope st)) (len : ∀ a cls d vs H Q E, sp a cls d vs H Q E → vs.length = ps.length)
    (hb : ∀ (kV doc pm : Value) (an : Option Addr) (cdv ct : Value) (us : List Value), us.length = ps.length → bindArgs (PySem.W.fnOf x x (defArgs st) (defBody st) (defScope st) .none kV doc pm an cdv ct) ⟨us, []⟩ = pure (ps.zip us))
    (hbody : ∀ (f : Addr) (cdv : Value) (A : Around) (outer : List Env) (s : Shared) (H : Hp) (vs : List V) (Q : VK) (E : XK) (a : Addr) (oe : Obj) (cls : Value) (d : Option Addr), Zc cls d oe → (∃ vs, oe.data = .fields vs) → sp a cls d vs H Q E →
      ∃ t, PSs (L2H.cxH (L2.CX P w) P w K mg base N x (defScope st) f cdv A outer s H E (a, oe)) (defBody st) t ∧ t { nx := fun _ H' => Q .non H', rt := Q } (L2.start N vs) H) : CalE P w K mg base (k + 1) x sp := by
  obtain ⟨f, fd, F, hm⟩ := D
  have F0 := F
  obtain ⟨oc, od, kV, doc, pm, an, cdv, ct, osl, rfl, lk, hcd⟩ := F.ex
  refine ⟨f, _, ps, ⟨len, fun A outer s H args us vs Q E a oe cls d hz hf hr hpin e0 hb r hsp => ?_⟩, hm, F0.kp, F0.binds hb⟩
  have hl := len _ _ _ _ _ _ _ hsp
  have KX : K.In s.heap := e0.mod.kin.keeps fun b o e => (e0.bs b o e).1
  have lim : s.heap.NoLimit := e0.mod.nolimit.keeps fun b o e => (e0.bs b o e).1
  have hkind : ∀ y ∈ ps.zip us, (defScope st).names.lookup y.1 = some .local ∨ ((defScope st).names.lookup y.1 = some .cell ∧ ((cellsFrom (s.heap.objs.size + 1) (defScope st).names []).lookup y.1).isSome = true) := fun ⟨n, v⟩ hy => by
    rcases S.par n (List.of_mem_zip hy).1 with q | q
    · exact .inl q
    · exact .inr ⟨q, PySem.W.cellsFrom_some _ _ _ (.inl q)⟩
  refine codeAny_call_function hr.depth (KX _ _ lk) rfl S.co S.gen rfl (PySem.W.codeRec_of KX hcd) (hb _ _ _ _ ?_)
  refine wpAny_newFunctionEnv_cells S.kind hkind fun env he s1 x => ?_
  subst he
  refine ⟨lim.keeps x.toInCall.keep, codeAny_func ?_⟩
  obtain ⟨t, ht, hq⟩ := hbody f cdv A outer s H vs Q E a oe cls d hz hf hsp
  have I := L2H.inv_startH (CX := L2.CX P w) (E := E) (f := f) (cd := cdv) S hpin e0 hl r x
  refine wpAny_mono (ht.run [] s1 (L2.start N vs) H _ I hq) (fun fl s' hs => ?_) fun e s' hs => hs
  cases fl with
  | ret u =>
    obtain ⟨v, σ', H', J, rv, q⟩ := hs
    exact ⟨v, H', J.os, J.bare, J.base, J.hok, rv, q⟩
  | next =>
    obtain ⟨σ', H', J, q⟩ := hs
    exact ⟨V.non, H', J.os, J.bare, J.base, J.hok, rfl, q⟩
  | brk =>
    obtain ⟨_, _, _, q⟩ := hs
    exact False.elim q
  | cont =>
    obtain ⟨_, _, _, q⟩ := hs
    exact False.elim q
end
section
theorem roomE {A : Around} {j k : Nat} {h : Option Value} (r : Room j A) (hk : k ≤ j) : L2H.RoomH k (A.mark h) := ⟨by have := r.dp; show A.depth + 3 * k + 5 < _; omega, by have := r.un; show A.units + 16 * k + 200 < _; omega⟩
variable {X : Cx} {k : Nat} {sp : Addr → Value → Option Addr → Sp} {x : Str} {q pos : Pos} {e : Expr} {es : List Expr} {t : TA} {a : Addr} {oe : Obj} {cls : Value} {d : Option Addr}
theorem pe_callE (c : CalE X.prog X.w X.K X.mg X.base k x sp) (hr : L2H.RoomH k X.A) (hp : (a, oe) ∈ X.pn) (hz : Zc cls d oe) (hf : ∃ vs, oe.data = .fields vs) (hg : Gl X x)
    (ha : PA X (e :: es) t) (hdb : (x == ("__debug__" : Str)) = false := by decide) (he : starEach (e :: es) X.env = (false, eval e X.env) :: starEach es X.env := by rfl) (hpl : (backTo pos (starEach es X.env)).any (·.1) = false := by rfl) :
    PE X (.Call (.Name x q) (e :: es) [] pos) (tCall (sp a cls d) [] E0 t) := by
  obtain ⟨f, fd, ps, F, hm, hk, hb⟩ := c.ex
  refine ⟨fun pins s σ H Q I h => ?_⟩
  refine wpAny_Call_Name_kw (ld_glob I hg hm ?_ hdb)
  refine PySem.W.callWith_K (h₀ := X.base) I.ok.mod.kin hk (thn (ha.run pos pins s σ H _ I h) fun us s1 ⟨vs, H1, I1, r, q⟩ => ⟨I1.kIn, ?_⟩) he hpl
  have q : sp a cls d (vs ++ []) H1 Q E0 := q
  rw [List.append_nil] at q
  have hl : us.length = ps.length := by rw [← r.length]; exact F.len _ _ _ _ _ _ _ q
  have b := hb s1 us I1.kIn (by rw [List.append_nil]; exact hl)
  rw [List.append_nil] at b
  have P1 := I1.pin (a, oe) (List.mem_append_left _ hp)
  have hpin : L2H.PinOk X.stack H1 s1 (a, oe) := ⟨P1.1, P1.2.1, fun hm => (List.mem_cons.mp (I1.stkSub a hm)).elim P1.2.2.1 P1.2.2.2.1, P1.2.2.2.2⟩
  refine wpAny_call (codeAny_mono (F.run X.A X.stack s1 H1 ⟨us, []⟩ us vs Q E0 a oe cls d hz hf hr hpin I1.env0 b r q) fun r s' hq => ?_)
  cases r with
  | error e => exact (passL pins (show L2.St from σ) H1 s1 e s' I1 hq)
  | ok fl =>
    cases fl with
    | ret u => exact I1.after hq
    | next => exact False.elim hq
    | brk => exact False.elim hq
    | cont => exact False.elim hq
end
end Tr

/-! # Lists of tuples of the same things; lists of other lengths; isinstance of a caught error with a tuple of classes. -/
namespace Tr
open PySem PySem.Spec PyProof.Rows L2
/-- a thing that is itself -/
def Slf (v : V) : Prop := flatB v = true ∨ ∃ a, v = .ref a
theorem eqAt_self {A : Around} {s : Shared} {v : V} {u u' : Value} (r : RelV v u) (r' : RelV v u') (f : Slf v) : SeqAt.EqAt A s u u' true := by
  rcases f with f | ⟨a, rfl⟩
  · exact eqAt_same r r' f
  · cases (show u = Value.ref a from r)
    cases (show u' = Value.ref a from r')
    exact SeqAt.EqAt.same _
theorem eqAt_selfs {A : Around} {s : Shared} : ∀ {xs : List V} {us ws : List Value}, Vals xs us → Vals xs ws → (∀ v ∈ xs, Slf v) → ∀ j (h1 : j < us.length) (h2 : j < ws.length), SeqAt.EqAt A s us[j] ws[j] true
  | [], _, _, r, _, _, j, h1, _ => by
    cases r
    exact absurd h1 (Nat.not_lt_zero j)
  | v :: xs, _, _, r, r2, f, j, h1, h2 => by
    cases r with
    | cons a1 b1 =>
      cases r2 with
      | cons a2 b2 =>
        cases j with
        | zero => exact eqAt_self a1 a2 (f v List.mem_cons_self)
        | succ j => exact eqAt_selfs b1 b2 (fun v hv => f v (List.mem_cons_of_mem _ hv)) j (Nat.lt_of_succ_lt_succ h1) (Nat.lt_of_succ_lt_succ h2)
/-- two tuples of the same things -/
def TupS (K : PySem.W.Frag) (H : Hp) (u w : Addr) : Prop := ∃ xs, SqT K H u xs ∧ SqT K H w xs ∧ ∀ v ∈ xs, Slf v
section
variable {X : Cx} {pins : List (Addr × Obj)} {σ : L2.St} {H : Hp} {s : Shared}
theorem eqAt_tup {A : Around} (I : Inv X pins σ H s) (hu : A.units < cLine) {u w : Addr} (h : TupS X.K H u w) : SeqAt.EqAt A s (.ref u) (.ref w) true := by
  by_cases e : u = w
  · rw [e]
    exact SeqAt.EqAt.same _
  · obtain ⟨xs, hU, hW, hf⟩ := h
    obtain ⟨its, r, e1, _⟩ := I.tuple hU
    obtain ⟨its2, r2, e2, _⟩ := I.tuple hW
    have hz : its.length = its2.length := by rw [← r.length, ← r2.length]
    refine SeqAt.EqAt.of_refs e ?_
    have key := SeqAt.RcAt.tuples (A := A) (s := s) (e := fun _ => true) (show s.heap.IsTuple u its.toArray from e1) (show s.heap.IsTuple w its2.toArray from e2) hu (fun j h1 h2 => eqAt_selfs (A := A.in1) (s := s) r r2 hf j h1 h2)
    have eb : ((List.range (min its.toArray.size its2.toArray.size)).all (fun _ => true) && its.toArray.size == its2.toArray.size) = true := by
      rw [List.size_toArray, List.size_toArray, hz]
      simp
    rw [eb] at key
    exact key
theorem eqAt_tups {A : Around} (I : Inv X pins σ H s) (hu : A.units < cLine) : ∀ {us ws : List Addr} {is js : List Value}, P2 (TupS X.K H) us ws → Vals (us.map V.ref) is → Vals (ws.map V.ref) js → ∀ j (h1 : j < is.length) (h2 : j < js.length), SeqAt.EqAt A s is[j] js[j] true
  | [], _, _, _, .nil, r, _, j, h1, _ => by
    cases r
    exact absurd h1 (Nat.not_lt_zero j)
  | u :: us, w :: ws, _, _, .cons h t, r, r2, j, h1, h2 => by
    cases r with
    | cons a1 b1 =>
      cases r2 with
      | cons a2 b2 =>
        cases j with
        | zero =>
          cases a1
          cases a2
          exact eqAt_tup I hu h
        | succ j => exact eqAt_tups I hu t b1 b2 j (Nat.lt_of_succ_lt_succ h1) (Nat.lt_of_succ_lt_succ h2)
end
def rNeLT (K : PySem.W.Frag) : R2 := fun x y H Q => ∃ a b us ws, x = .ref a ∧ y = .ref b ∧ SqL K H a (us.map V.ref) ∧ SqL K H b (ws.map V.ref) ∧ P2 (TupS K H) us ws ∧ Q (.bl false) H
theorem op_neLT {X : Cx} (hu : X.A.units + 64 < cLine) : OpR X (compareOp .NotEq) (rNeLT X.K) := by
  intro pins s σ H x y v u Q I rx ry h
  obtain ⟨a, b, us, ws, rfl, rfl, ha, hb, hp, q⟩ := h
  cases rx
  cases ry
  obtain ⟨its, r, e, _⟩ := I.list ha
  obtain ⟨its2, r2, e2, _⟩ := I.list hb
  have hz : its.length = its2.length := by rw [← r.length, ← r2.length, List.length_map, List.length_map, hp.len]
  have key := SeqAt.RcNeAt.lists (A := X.A) (s := s) (e := fun _ => true) e.isList e2.isList (by rw [List.size_toArray, List.size_toArray, hz]) (by omega) (fun j h1 h2 => eqAt_tups (A := X.A.in1) I (by show X.A.units + 1 < _; omega) hp r r2 j h1 h2)
  have eb : (!(List.range its.toArray.size).all (fun _ => true)) = false := by simp
  rw [eb] at key
  exact key X.prog X.w _ _ ⟨.bl false, H, I, rfl, q⟩
/-- x == y, lists of other lengths or both empty -/
def rEqE (K : PySem.W.Frag) (n : Bool) : R2 := fun x y H Q => ∃ a b xs ys, x = .ref a ∧ y = .ref b ∧ SqL K H a xs ∧ SqL K H b ys ∧ ((xs.length ≠ ys.length ∧ Q (.bl n) H) ∨ (xs = [] ∧ ys = [] ∧ Q (.bl !n) H))
theorem op_eqE {X : Cx} (hu : X.A.units + 64 < cLine) : OpR X (compareOp .Eq) (rEqE X.K false) := by
  intro pins s σ H x y v u Q I rx ry h
  obtain ⟨a, b, xs, ys, rfl, rfl, ha, hb, h⟩ := h
  cases rx
  cases ry
  obtain ⟨its, r, e, _⟩ := I.list ha
  obtain ⟨its2, r2, e2, _⟩ := I.list hb
  rcases h with ⟨ne, q⟩ | ⟨rfl, rfl, q⟩
  · exact SeqAt.RcAt.lists_lengths (A := X.A) (s := s) e.isList e2.isList (by rw [List.size_toArray, List.size_toArray, ← r.length, ← r2.length]; simpa using ne) (by omega) X.prog X.w _ _ ⟨.bl false, H, I, rfl, q⟩
  · cases r
    cases r2
    have key := SeqAt.RcAt.lists (A := X.A) (s := s) (e := fun _ => true) e.isList e2.isList rfl (by omega) (fun j h1 _ => absurd h1 (Nat.not_lt_zero j))
    exact key X.prog X.w _ _ ⟨.bl true, H, I, rfl, q⟩
theorem op_neE {X : Cx} (hu : X.A.units + 64 < cLine) : OpR X (compareOp .NotEq) (rEqE X.K true) := by
  intro pins s σ H x y v u Q I rx ry h
  obtain ⟨a, b, xs, ys, rfl, rfl, ha, hb, h⟩ := h
  cases rx
  cases ry
  obtain ⟨its, r, e, _⟩ := I.list ha
  obtain ⟨its2, r2, e2, _⟩ := I.list hb
  rcases h with ⟨ne, q⟩ | ⟨rfl, rfl, q⟩
  · exact SeqAt.RcNeAt.lists_lengths (A := X.A) (s := s) e.isList e2.isList (by rw [List.size_toArray, List.size_toArray, ← r.length, ← r2.length]; simpa using ne) (by omega) X.prog X.w _ _ ⟨.bl true, H, I, rfl, q⟩
  · cases r
    cases r2
    have key := SeqAt.RcNeAt.lists (A := X.A) (s := s) (e := fun _ => true) e.isList e2.isList rfl (by omega) (fun j h1 _ => absurd h1 (Nat.not_lt_zero j))
    exact key X.prog X.w _ _ ⟨.bl false, H, I, rfl, q⟩
section
variable {X : Cx} {a : Addr} {oe : Obj} {cls : Value} {d : Option Addr}
/-- isinstance of a caught error, the classes in a tuple just laid -/
def rIsAT (K : PySem.W.Frag) (a : Addr) (cls : Value) (d : Option Addr) : List V → Hp → VK → Prop := fun xs H Q => ∃ (C tp : Addr) (cs : List V) (us : List Value) (b : Bool), xs = [.ref a, .ref tp] ∧ H tp = some (.tup cs) ∧ Paired ClsV cs us ∧ ExcAt K H cls d C ∧ PySem.W.kitAny K (.ref C) us = some b ∧ Q (.bl b) H
theorem call_isAT (K : PySem.W.Frag) (hp : (a, oe) ∈ X.pn) (hz : Zc cls d oe) (hf : ∃ vs, oe.data = .fields vs) (hk : X.K = K := by rfl) : CallR X (.builtin "isinstance") (rIsAT K a cls d) := by
  subst hk
  intro pins s σ H xs us Q I r ⟨C, tp, cs, ws, b, ex, hT, k, ⟨ec, T, ed⟩, e, q⟩
  subst ex ec
  match us, r with
  | [_, _], .cons rx (.cons rt .nil) =>
    cases rx
    cases rt
    obtain ⟨_, its, rv, o, h1, h2, n, h3⟩ := (show ObjOk X.prog X.w H s.heap tp (.tup cs) from I.hok tp _ hT)
    have e3 := ClsV.all k rv
    subst e3
    obtain ⟨oc, od0, dt, sl⟩ := o
    simp only at h2 h3
    subst h2 h3
    obtain ⟨ha, _⟩ := I.pin (a, oe) (List.mem_append_left _ hp)
    obtain ⟨vs, hd⟩ := hf
    obtain ⟨od, J⟩ : ∃ od, PySem.W.InstAt s.heap a oe C od := by
      rcases ed with rfl | ⟨dd, fs, rfl, hx⟩
      · obtain ⟨oc, odd, oda, osl⟩ := oe
        obtain ⟨h1, h2⟩ := hz
        dsimp only at h1 h2 hd
        subst h1 h2 hd
        exact ⟨none, ha, rfl, rfl, trivial⟩
      · obtain ⟨mA, hns, _⟩ := (show ObjOk X.prog X.w H s.heap dd (.xd fs) from I.hok dd _ hx)
        obtain ⟨od, ho, _⟩ := lookIn_ns hns
        exact ⟨some od, ha, hz.1, by unfold PySem.W.notCls; rw [hd] <;> rfl, by rw [hz.2]; exact ho⟩
    exact PySem.W.kia_tup (exc_kit T) I.kIn J h1 e (fun z => nomatch z) fun tk => ⟨.bl b, H, I.kept (t' := tk) fun _ _ z => z, rfl, q⟩
end
/-- a field of a caught error, its class told by the promise -/
def tXfA (K : PySem.W.Frag) (a : Addr) (cls : Value) (d : Option Addr) (f : Str) (te : TE) : TE := fun σ H Q => te σ H fun x H1 => x = .ref a ∧ ∃ C : Addr, cls = .ref C ∧ XfC K C ∧ PySem.W.findIn K (.ref C) f = some none ∧ ∃ (dd : Addr) (fs : List (Str × V)) (v : V), d = some dd ∧ H1 dd = some (.xd fs) ∧ fs.lookup f = some v ∧ Q v H1
theorem pe_xfA {X : Cx} {a : Addr} {oe : Obj} {cls : Value} {d : Option Addr} {pn : List (Addr × Obj)} {e : Expr} {te : TE} {pos : Pos} {n : Str}
    (hz : Zc cls d oe) (hf : ∃ vs, oe.data = .fields vs) (he : PE (X.suite a ((a, oe) :: pn)) e te) (hb : attributeBase e n X.env (eval e X.env) = eval e X.env := by rfl) :
    PE (X.suite a ((a, oe) :: pn)) (.Attribute e n pos) (tXfA X.K a cls d n te) := by
  refine ⟨fun pins s σ H Q I h => ?_⟩
  refine attr_of hb (thn (he.run pins s σ H _ I h) fun u s1 hh => ?_)
  obtain ⟨x, H1, I1, rx, ex, C, ec, T, hno, dd, fs, v, ed, ea, l, q⟩ := hh
  subst ex
  obtain rfl : u = Value.ref a := rx
  subst ec
  subst ed
  obtain ⟨ha, _⟩ := I1.pin (a, oe) (List.mem_append_left _ List.mem_cons_self)
  obtain ⟨vs, hd⟩ := hf
  have hx : ObjOk X.prog X.w H1 s1.heap dd (.xd fs) := I1.hok dd _ ea
  obtain ⟨mA, hns, hr⟩ := hx
  obtain ⟨od, ho, hl⟩ := lookIn_ns hns
  obtain ⟨u, hu, ru⟩ := RelO.some_of (v := v) (o := mA n) (by rw [← l]; exact hr n)
  have J : PySem.W.InstAt s1.heap a oe C (some od) := ⟨ha, hz.1, by unfold PySem.W.notCls; rw [hd] <;> rfl, by rw [hz.2]; exact ho⟩
  exact HandSPX.exc_get I1.kIn J T.ga T.gg T.exC (PySem.W.findObj_own T.hdC hno rfl (by rw [hl, hu])) (handed_of ru) ⟨v, H1, I1.tok _, ru, q⟩
section
variable {X : Cx}
/-- f(lambda: e), two tables known -/
theorem pe_lam2 {TT : (XK → Hp → VK → Prop) → Hp → VK → Prop} {x a q q2 : Str} {st : Stmt} {c Pt Pt2 : Addr} {k j : Nat} {Ng : List Str} {params : Arguments} {body : Expr} {scope : Scope} {t : XK → TE} {p lpos pos : Pos} (hne : Pt2 ≠ Pt) (hq : X.env.qual ++ "<lambda>" = q)
    (D : Dfn X.K X.mg x st) (Sg : FnScope Ng [a] (defScope st)) (hNg : Ng[0]? = some a) (hva : Vis (defScope st) a)
    (hb : ∀ (kV doc pm : Value) (an : Option Addr) (cdv ct : Value) (us : List Value), us.length = [a].length → bindArgs (PySem.W.fnOf x x (defArgs st) (defBody st) (defScope st) .none kV doc pm an cdv ct) ⟨us, []⟩ = pure ([a].zip us))
    (hG : ∀ g cdg, LamX.GivesTo X Ng x (defScope st) g cdg (defBody st) a (X.env.qual ++ "<lambda>") TT) (hg : Gl X x)
    (TB : LamX.TabB X.base X.mg c Pt) (hcode : X.env.code = .ref c) (hr : Room j X.A) (hk : k + 2 ≤ j) (L : LamX.LamS X.env.scope scope) (hdef : defaultsOf params X.env = ([], []))
    (hbind : ∀ (q : Str) (cl : List (Str × Addr)) (pm cv ctv : Value), bindArgs (PySem.W.kla_fn "<lambda>" q params body scope cl pm cv ctv) ⟨[], []⟩ = pure [])
    (hbody : ∀ (A : Around) (outer : List Env) (s : Shared) (H : Hp) (E : XK) (f c' : Addr), Room k (A.deeper (LamX.lamEnv X scope s.heap.objs.size f c')) → PE (LamX.lamCx X A outer s H E scope f c') body (t E))
    (hdb : (x == ("__debug__" : Str)) = false := by decide) (hd : (a == ("__debug__" : Str)) = false := by decide) (hcd : (a == ("__classdict__" : Str)) = false := by decide) :
    PE X (.Call (.Name x p) [.Lambda params body scope lpos] [] pos) (LamX.tLam [(Pt, q), (Pt2, q2)] TT t) := by
  subst hq
  exact pe_lam D Sg hNg hva hb hG hg TB hcode List.mem_cons_self (fun p hp e => by
    rcases List.mem_cons.mp hp with rfl | hp
    · rfl
    · rw [List.mem_singleton.mp hp] at e
      exact (hne e).elim) hr hk L hdef hbind hbody hdb hd hcd
end
end Tr

/-! ### the text by places; what the top has left -/
namespace Tr
open PySem L2
def top (i : Nat) : Stmt := PySem.Challenge.pw_turnrings_k10_turns_declared.main.body.getD i (.Pass ⟨0, 0, 0, 0⟩)
abbrev s_NoTurn___init__ : Stmt := inClass (top 8) 0
theorem ex_NoTurn : ExS "NoTurn.__init__" s_NoTurn___init__ ["name"] ((defBody s_NoTurn___init__).drop 1) := ⟨NdefX.nscope_by (by decide +kernel), ⟨_, _, _, _, _, _, _, _, rfl, fun _ _ _ _ => rfl, fun _ _ _ _ => ⟨_, rfl⟩⟩, ⟨_, rfl, rfl⟩, rfl, fun _ _ _ _ _ _ _ us hl => match us, hl with | [_, _], _ => rfl⟩
abbrev s_BadName___init__ : Stmt := inClass (top 3) 0
theorem ex_BadName : ExS "BadName.__init__" s_BadName___init__ ["name"] ((defBody s_BadName___init__).drop 1) := ⟨NdefX.nscope_by (by decide +kernel), ⟨_, _, _, _, _, _, _, _, rfl, fun _ _ _ _ => rfl, fun _ _ _ _ => ⟨_, rfl⟩⟩, ⟨_, rfl, rfl⟩, rfl, fun _ _ _ _ _ _ _ us hl => match us, hl with | [_, _], _ => rfl⟩
abbrev s_TwiceNamed___init__ : Stmt := inClass (top 4) 0
theorem ex_TwiceNamed : ExS "TwiceNamed.__init__" s_TwiceNamed___init__ ["name"] ((defBody s_TwiceNamed___init__).drop 1) := ⟨NdefX.nscope_by (by decide +kernel), ⟨_, _, _, _, _, _, _, _, rfl, fun _ _ _ _ => rfl, fun _ _ _ _ => ⟨_, rfl⟩⟩, ⟨_, rfl, rfl⟩, rfl, fun _ _ _ _ _ _ _ us hl => match us, hl with | [_, _], _ => rfl⟩
abbrev s_BadPeriod___init__ : Stmt := inClass (top 5) 0
theorem ex_BadPeriod : ExS "BadPeriod.__init__" s_BadPeriod___init__ ["period"] ((defBody s_BadPeriod___init__).drop 1) := ⟨NdefX.nscope_by (by decide +kernel), ⟨_, _, _, _, _, _, _, _, rfl, fun _ _ _ _ => rfl, fun _ _ _ _ => ⟨_, rfl⟩⟩, ⟨_, rfl, rfl⟩, rfl, fun _ _ _ _ _ _ _ us hl => match us, hl with | [_, _], _ => rfl⟩
abbrev s_NoTurns___init__ : Stmt := inClass (top 6) 0
theorem ex_NoTurns : ExS "NoTurns.__init__" s_NoTurns___init__ [] ((defBody s_NoTurns___init__).drop 1) := ⟨NdefX.nscope_by (by decide +kernel), ⟨_, _, _, _, _, _, _, _, rfl, fun _ _ _ _ => rfl, fun _ _ _ _ => ⟨_, rfl⟩⟩, ⟨_, rfl, rfl⟩, rfl, fun _ _ _ _ _ _ _ us hl => match us, hl with | [_], _ => rfl⟩
abbrev s_TooMany___init__ : Stmt := inClass (top 7) 0
theorem ex_TooMany : ExS "TooMany.__init__" s_TooMany___init__ ["what", "many", "most"] ((defBody s_TooMany___init__).drop 1) := ⟨NdefX.nscope_by (by decide +kernel), ⟨_, _, _, _, _, _, _, _, rfl, fun _ _ _ _ => rfl, fun _ _ _ _ => ⟨_, rfl⟩⟩, ⟨_, rfl, rfl⟩, rfl, fun _ _ _ _ _ _ _ us hl => match us, hl with | [_, _, _, _], _ => rfl⟩
abbrev s__law_bag : Stmt := top 26
theorem sc__law_bag : FnScope ["_law_script", "_law_fold", "_law_cell"] ["_law_script"] (defScope s__law_bag) := ⟨rfl, rfl, rfl, by decide +kernel, rfl, by decide +kernel, by decide +kernel⟩
abbrev s__law_draw : Stmt := top 27
theorem sc__law_draw : FnScope ["_law_bag_here", "_law_limit", "_law_cell", "_law_digit", "_law_base"] ["_law_bag_here", "_law_limit"] (defScope s__law_draw) := ⟨rfl, rfl, rfl, by decide +kernel, rfl, by decide +kernel, by decide +kernel⟩
abbrev s__law_ident : Stmt := top 28
theorem sc__law_ident : FnScope ["_law_bag_here", "_law_k", "_law_letters", "_law_text"] ["_law_bag_here", "_law_k"] (defScope s__law_ident) := ⟨rfl, rfl, rfl, by decide +kernel, rfl, by decide +kernel, by decide +kernel⟩
abbrev s_is_whole : Stmt := top 12
theorem sc_is_whole : FnScope ["value"] ["value"] (defScope s_is_whole) := ⟨rfl, rfl, rfl, by decide +kernel, rfl, by decide +kernel, by decide +kernel⟩
abbrev s_is_name : Stmt := top 17
theorem sc_is_name : FnScope ["value", "sign"] ["value"] (defScope s_is_name) := ⟨rfl, rfl, rfl, by decide +kernel, rfl, by decide +kernel, by decide +kernel⟩
abbrev s_Turns___init__ : Stmt := inClass (top 24) 1
theorem sc_Turns___init__ : FnScope ["self", "pairs", "told", "periods", "ranks", "name", "period"] ["self", "pairs"] (defScope s_Turns___init__) := ⟨rfl, rfl, rfl, by decide +kernel, rfl, by decide +kernel, by decide +kernel⟩
abbrev s_Turns___contains__ : Stmt := inClass (top 24) 7
theorem sc_Turns___contains__ : FnScope ["self", "name"] ["self", "name"] (defScope s_Turns___contains__) := ⟨rfl, rfl, rfl, by decide +kernel, rfl, by decide +kernel, by decide +kernel⟩
abbrev s_Turns_period_of : Stmt := inClass (top 24) 2
theorem sc_Turns_period_of : FnScope ["self", "name"] ["self", "name"] (defScope s_Turns_period_of) := ⟨rfl, rfl, rfl, by decide +kernel, rfl, by decide +kernel, by decide +kernel⟩
abbrev s_Turns_rank : Stmt := inClass (top 24) 3
theorem sc_Turns_rank : FnScope ["self", "name"] ["self", "name"] (defScope s_Turns_rank) := ⟨rfl, rfl, rfl, by decide +kernel, rfl, by decide +kernel, by decide +kernel⟩
abbrev s_Turns___eq__ : Stmt := inClass (top 24) 9
theorem sc_Turns___eq__ : FnScope ["self", "other"] ["self", "other"] (defScope s_Turns___eq__) := ⟨rfl, rfl, rfl, by decide +kernel, rfl, by decide +kernel, by decide +kernel⟩
abbrev s_reduced : Stmt := top 18
theorem sc_reduced : FnScope ["turns", "name", "exponent", "period"] ["turns", "name", "exponent"] (defScope s_reduced) := ⟨rfl, rfl, rfl, by decide +kernel, rfl, by decide +kernel, by decide +kernel⟩
abbrev s_step_key : Stmt := top 20
theorem sc_step_key : FnScope ["turns", "step", "name", "exponent", "period", "clicks"] ["turns", "step"] (defScope s_step_key) := ⟨rfl, rfl, rfl, by decide +kernel, rfl, by decide +kernel, by decide +kernel⟩
abbrev s_normal_steps : Stmt := top 19
theorem sc_normal_steps : FnScope ["turns", "steps", "kept", "name", "exponent"] ["turns", "steps"] (defScope s_normal_steps) := ⟨rfl, rfl, rfl, by decide +kernel, rfl, by decide +kernel, by decide +kernel⟩
abbrev s_Row___init__ : Stmt := inClass (top 22) 1
theorem sc_Row___init__ : FnScope ["self", "turns", "steps", "name", "exponent", "keys", "step"] ["self", "turns", "steps"] (defScope s_Row___init__) := ⟨rfl, rfl, rfl, by decide +kernel, rfl, by decide +kernel, by decide +kernel⟩
abbrev s_Turns_still : Stmt := inClass (top 24) 6
theorem sc_Turns_still : FnScope ["self"] ["self"] (defScope s_Turns_still) := ⟨rfl, rfl, rfl, by decide +kernel, rfl, by decide +kernel, by decide +kernel⟩
abbrev s__law_is_name : Stmt := top 29
theorem sc__law_is_name : FnScope ["_law_value", "_law_sign"] ["_law_value"] (defScope s__law_is_name) := ⟨rfl, rfl, rfl, by decide +kernel, rfl, by decide +kernel, by decide +kernel⟩
abbrev s__law_due : Stmt := top 31
theorem sc__law_due : FnScope ["_law_pairs", "_law_at", "_law_name", "_law_period", "_law_pair"] ["_law_pairs"] (defScope s__law_due) := ⟨rfl, rfl, rfl, by decide +kernel, rfl, by decide +kernel, by decide +kernel⟩
abbrev s_Turns___len__ : Stmt := inClass (top 24) 8
theorem sc_Turns___len__ : FnScope ["self"] ["self"] (defScope s_Turns___len__) := ⟨rfl, rfl, rfl, by decide +kernel, rfl, by decide +kernel, by decide +kernel⟩
abbrev s_Turns___getitem__ : Stmt := inClass (top 24) 5
theorem sc_Turns___getitem__ : FnScope ["self", "name"] ["self", "name"] (defScope s_Turns___getitem__) := ⟨rfl, rfl, rfl, by decide +kernel, rfl, by decide +kernel, by decide +kernel⟩
abbrev s__law_spoiled : Stmt := top 30
theorem sc__law_spoiled : FnScope ["_law_bag_here", "_law_pairs", "_law_at", "_law_name", "_law_period", "_law_names", "_law_periods"] ["_law_bag_here", "_law_pairs"] (defScope s__law_spoiled) := ⟨rfl, rfl, rfl, by decide +kernel, rfl, by decide +kernel, by decide +kernel⟩
abbrev s__law_told : Stmt := top 32
theorem sc__law_told : FnScope ["_law_act", "e"] ["_law_act"] (defScope s__law_told) := ⟨rfl, rfl, rfl, by decide +kernel, rfl, by decide +kernel, by decide +kernel⟩
abbrev s__law_strangers : Stmt := top 33
theorem sc__law_strangers : FnScope ["_law_turns", "_law_value", "_law_told_here"] ["_law_turns"] (defScope s__law_strangers) := ⟨rfl, rfl, rfl, by decide +kernel, rfl, by decide +kernel, by decide +kernel⟩
abbrev s_law : Stmt := top 34
theorem sc_law : FnScope ["_law_script", "_law_bag_here", "_law_periods", "_law_many", "_law_pairs", "_law_k", "_law_due_here", "_law_given", "_law_turns", "_law_at", "_law_name", "_law_period", "_law_pair"] ["_law_script"] (defScope s_law) := ⟨rfl, rfl, rfl, by decide +kernel, rfl, by decide +kernel, by decide +kernel⟩
structure Txt (K : PySem.W.Frag) (mg : Str → Option Value) : Prop where
  a_Row__key : NoAttr K (He.ga K "Row") "key"
  a_Row__steps : NoAttr K (He.ga K "Row") "steps"
  a_Row__turns : NoAttr K (He.ga K "Row") "turns"
  a_Turns__names : NoAttr K (He.ga K "Turns") "names"
  a_Turns__pairs : NoAttr K (He.ga K "Turns") "pairs"
  a_Turns__periods : NoAttr K (He.ga K "Turns") "periods"
  a_Turns__ranks : NoAttr K (He.ga K "Turns") "ranks"
  b_abs : mg "abs" = none
  b_all : mg "all" = none
  b_bool : mg "bool" = none
  b_int : mg "int" = none
  b_isinstance : mg "isinstance" = none
  b_len : mg "len" = none
  b_list : mg "list" = none
  b_min : mg "min" = none
  b_range : mg "range" = none
  b_str : mg "str" = none
  b_tuple : mg "tuple" = none
  c_DIGITS : GCon mg "DIGITS" (.str "0123456789")
  c_LETTERS : GCon mg "LETTERS" (.str "abcdefghijklmnopqrstuvwxyz")
  c_LONGEST_NAME : GCon mg "LONGEST_NAME" (.int 12)
  d__law_bag : Dfn K mg "_law_bag" s__law_bag
  d__law_draw : Dfn K mg "_law_draw" s__law_draw
  d__law_due : Dfn K mg "_law_due" s__law_due
  d__law_ident : Dfn K mg "_law_ident" s__law_ident
  d__law_is_name : Dfn K mg "_law_is_name" s__law_is_name
  d__law_spoiled : Dfn K mg "_law_spoiled" s__law_spoiled
  d__law_strangers : Dfn K mg "_law_strangers" s__law_strangers
  d__law_told : Dfn K mg "_law_told" s__law_told
  d_is_name : Dfn K mg "is_name" s_is_name
  d_is_whole : Dfn K mg "is_whole" s_is_whole
  d_normal_steps : Dfn K mg "normal_steps" s_normal_steps
  d_reduced : Dfn K mg "reduced" s_reduced
  d_step_key : Dfn K mg "step_key" s_step_key
  e_Row : Ini0 K mg "Row" "Row.__init__" (He.ga K "Row") s_Row___init__
  g_Turns : GetO K (He.ga K "Turns")
  i_Row : Ini K mg "Row" "Row.__init__" (He.ga K "Row") s_Row___init__ 1
  i_Turns : Ini K mg "Turns" "Turns.__init__" (He.ga K "Turns") s_Turns___init__ 0
  k_Row : Cls K (He.ga K "Row")
  k_Turns : Cls K (He.ga K "Turns")
  l_Turns : KindO K (He.ga K "Turns")
  m_Turns____contains__ : Mth K (He.ga K "Turns") "__contains__" "Turns.__contains__" s_Turns___contains__
  m_Turns____eq__ : Mth K (He.ga K "Turns") "__eq__" "Turns.__eq__" s_Turns___eq__
  m_Turns____getitem__ : Mth K (He.ga K "Turns") "__getitem__" "Turns.__getitem__" s_Turns___getitem__
  m_Turns____len__ : Mth K (He.ga K "Turns") "__len__" "Turns.__len__" s_Turns___len__
  m_Turns__period_of : Mth K (He.ga K "Turns") "period_of" "Turns.period_of" s_Turns_period_of
  m_Turns__rank : Mth K (He.ga K "Turns") "rank" "Turns.rank" s_Turns_rank
  n_Turns : NeOf K (He.ga K "Turns")
  o_BadName : IsO K (He.ga K "BadName")
  o_BadPeriod : IsO K (He.ga K "BadPeriod")
  o_NoTurn : IsO K (He.ga K "NoTurn")
  o_NoTurns : IsO K (He.ga K "NoTurns")
  o_TooMany : IsO K (He.ga K "TooMany")
  o_Turns : IsO K (He.ga K "Turns")
  o_TwiceNamed : IsO K (He.ga K "TwiceNamed")
  p_Turns__still : Prp K (He.ga K "Turns") "still" "Turns.still" s_Turns_still
  q_Turns__MOST : CCon K (He.ga K "Turns") "MOST" (.int 8)
  v_BadName : mg "BadName" = some (.ref (He.ga K "BadName"))
  v_BadPeriod : mg "BadPeriod" = some (.ref (He.ga K "BadPeriod"))
  v_NoTurn : mg "NoTurn" = some (.ref (He.ga K "NoTurn"))
  v_NoTurns : mg "NoTurns" = some (.ref (He.ga K "NoTurns"))
  v_TooMany : mg "TooMany" = some (.ref (He.ga K "TooMany"))
  v_TurnError : mg "TurnError" = some (.ref (He.ga K "TurnError"))
  v_Turns : mg "Turns" = some (.ref (He.ga K "Turns"))
  v_TwiceNamed : mg "TwiceNamed" = some (.ref (He.ga K "TwiceNamed"))
  x_BadName : Exn K mg "BadName" (He.ga K "BadName") "BadName.__init__" s_BadName___init__ ["name"]
  x_BadPeriod : Exn K mg "BadPeriod" (He.ga K "BadPeriod") "BadPeriod.__init__" s_BadPeriod___init__ ["period"]
  x_NoTurn : Exn K mg "NoTurn" (He.ga K "NoTurn") "NoTurn.__init__" s_NoTurn___init__ ["name"]
  x_NoTurns : Exn K mg "NoTurns" (He.ga K "NoTurns") "NoTurns.__init__" s_NoTurns___init__ []
  x_TooMany : Exn K mg "TooMany" (He.ga K "TooMany") "TooMany.__init__" s_TooMany___init__ ["what", "many", "most"]
  x_TwiceNamed : Exn K mg "TwiceNamed" (He.ga K "TwiceNamed") "TwiceNamed.__init__" s_TwiceNamed___init__ ["name"]
  A_err : ErrTab K ["BadName", "TwiceNamed", "BadPeriod", "NoTurns", "TooMany", "NoTurn"] "TurnError"
end Tr


namespace Tr
open PySem L2
/-- steps of a reading that are plain -/
local macro_rules | `(tactic| walk_at "x") => `(tactic| (refine' ⟨_, _, _, _, rfl, rfl, ?k1, ?k2, ?_⟩; (case k1 => exact SqT.of (by assumption)); (case k2 => exact rfl)))
local macro_rules | `(tactic| walk_at "g") => `(tactic| repeat (first | (refine ⟨_, rfl, ?_⟩) | (refine ⟨_, _, rfl, rfl, ?_⟩) | (refine ⟨_, _, rfl, ?_⟩) | (refine ⟨rfl, ?_⟩) | walk_at "x"))


/-! ### the law's bag -/
def bagK (q : Addr) (a : Nat) (d c f : Int) : List (Key × V) := [(.inr "cells", .ref q), (.inr "at", .int a), (.inr "digits", .int d), (.inr "count", .int c), (.inr "fold", .int f)]
/-- a bag at p, at most N numbers drawn -/
structure Bag (H : Hp) (p q : Addr) (N : Nat) : Prop where
  ex : ∃ (ns : List Int) (a : Nat) (d c f : Int), H p = some (.dK (bagK q a d c f)) ∧ H q = some (.lst (ns.map V.int)) ∧ 0 ≤ d ∧ 0 ≤ c ∧ c ≤ N ∧ 0 ≤ f ∧ f < 2147483587
section
variable {q : Addr} {a a' : Nat} {d c f x : Int} {H : Hp} {p : Addr}
theorem bg_cells (h : H p = some (.dK (bagK q a d c f))) : DGet H p (.str "cells") (some (.ref q)) := DGet.k (k := Sum.inr "cells") h
theorem bg_at (h : H p = some (.dK (bagK q a d c f))) : DGet H p (.str "at") (some (.int a)) := DGet.k (k := Sum.inr "at") h
theorem bg_digits (h : H p = some (.dK (bagK q a d c f))) : DGet H p (.str "digits") (some (.int d)) := DGet.k (k := Sum.inr "digits") h
theorem bg_count (h : H p = some (.dK (bagK q a d c f))) : DGet H p (.str "count") (some (.int c)) := DGet.k (k := Sum.inr "count") h
theorem bg_fold (h : H p = some (.dK (bagK q a d c f))) : DGet H p (.str "fold") (some (.int f)) := DGet.k (k := Sum.inr "fold") h
theorem bp_at (h : H p = some (.dK (bagK q a d c f))) : DPut H p (.str "at") (.int ((a : Int) + 1)) (upd H p (.dK (bagK q (a + 1) d c f))) := DPut.k (k := Sum.inr "at") h (by show 5 < sizeLine; decide)
theorem bp_digits (h : H p = some (.dK (bagK q a d c f))) : DPut H p (.str "digits") (.int x) (upd H p (.dK (bagK q a x c f))) := DPut.k (k := Sum.inr "digits") h (by show 5 < sizeLine; decide)
theorem bp_count (h : H p = some (.dK (bagK q a d c f))) : DPut H p (.str "count") (.int x) (upd H p (.dK (bagK q a d x f))) := DPut.k (k := Sum.inr "count") h (by show 5 < sizeLine; decide)
theorem bp_fold (h : H p = some (.dK (bagK q a d c f))) : DPut H p (.str "fold") (.int x) (upd H p (.dK (bagK q a d c x))) := DPut.k (k := Sum.inr "fold") h (by show 5 < sizeLine; decide)
theorem bag_new : mergeK [] (bagK q a d c f) = bagK q a d c f := rfl
end
section
variable {P : Program} {w : World} {K : PySem.W.Frag} {mg : Str → Option Value} {base : Heap}
def spBag (K : PySem.W.Frag) : Sp := fun vs H Q _ => ∃ (a : Addr) (ns : List Int), vs = [.ref a] ∧ SqL K H a (ns.map V.int) ∧ ∀ p q H', Same H H' → H p = none → Bag H' p q 0 → Q (.ref p) H'
theorem c__law_bag (T : Txt K mg) : Cal P w K mg base 1 "_law_bag" (spBag K) [] := by
  refine calN T.d__law_bag sc__law_bag (fun vs H Q E h => ?_) (fun _ _ _ _ _ _ us hl => match us, hl with | [_], _ => rfl) (fun f cdv A outer s H vs Q E hr h => ?_)
  · obtain ⟨a, ns, rfl, _⟩ := h
    rfl
  · obtain ⟨a, ns, rfl, hS, k⟩ := h
    refine ⟨_, (pss_cons (ps_set (i := 1) sc__law_bag.nd rfl (Or.inl rfl) pe_int)
      (pss_cons (ps_for PassesOwn.never rfl (pi_list (pv 0)) (pg_name (i := 2) sc__law_bag.nd rfl (Or.inl rfl)) (pss_one (ps_set (i := 1) sc__law_bag.nd rfl (Or.inl rfl) (pe_op op_mod (pe_callTy call_int1 (by rfl) T.b_int (by decide +kernel) (pa_cons (pe_op op_add (pe_op op_mul (pv 1) pe_int) (pv 2)) pa_nil)) pe_int))))
      (pss_one (ps_ret (pe_disp (pps_cons pe_str (pe_callTy call_list_of (by rfl) T.b_list (by decide +kernel) (pa_cons (pv 0) pa_nil)) (pps_cons pe_str pe_int (pps_cons pe_str pe_int (pps_cons pe_str pe_int (pps_cons pe_str (pv 1) pps_nil))))) rfl rfl (List.cons_ne_nil _ _) (by decide)))))), ?_⟩
    walk_at "g"
    refine ⟨⟨_, hS⟩, ?_⟩
    refine for_list (xs := ns.map V.int) (fun i σ H' => ∃ (f : Int) (v : Option V), σ = [some (.ref a), some (.int f), v] ∧ H' = H ∧ 0 ≤ f ∧ f < 1000000009) ⟨0, _, rfl, rfl, by omega, by omega⟩ ?_ ?_ ?_
    · rintro i σ H' _ ⟨f, v, rfl, rfl, _⟩
      exact hS
    · rintro i y σ H' hy ⟨f, v, rfl, rfl, f0, f1⟩
      rw [List.getElem?_map] at hy
      cases hn : ns[i]? with
      | none => rw [hn] at hy; cases hy
      | some n =>
        rw [hn] at hy
        cases hy
        walk_at "g"
        refine ⟨.inr ⟨by decide, by decide⟩, ?_⟩
        walk_at "g"
        refine .inl ⟨_, rfl, ?_⟩
        walk_at "g"
        refine ⟨by show (0 : Int) < 1000000009; decide, ?_⟩
        exact ⟨_, _, rfl, rfl, Int.emod_nonneg _ (by decide), Int.emod_lt_of_pos _ (by decide)⟩
    · rintro σ H' ⟨f, v, rfl, rfl, f0, f1⟩
      walk_at "g"
      intro p np
      walk_at "g"
      refine ⟨a, _, rfl, .inl ((same_upd np).seq hS), fun l nl => ?_⟩
      have npl : p ≠ l := ne_of_none (upd_same : upd H' p (.dK []) p = _) nl
      walk_at "g"
      refine ⟨by rw [upd_ne npl]; exact upd_same, bagK l 0 0 0 f, rfl, by show 5 ≤ 15; decide, ?_⟩
      refine k p l _ (((same_upd np).upd' nl).wr np) np ⟨ns, 0, 0, 0, f, upd_same, ?_, by omega, by omega, by omega, f0, by omega⟩
      rw [upd_ne npl.symm]
      exact upd_same
def spDraw : Sp := fun vs H Q _ => ∃ (p q : Addr) (lim : Int) (N : Nat), vs = [.ref p, .int lim] ∧ Bag H p q N ∧ N < 1000000 ∧ 0 < lim ∧ Bd 8000 lim ∧ ∀ v H', Kp p H H' → Bag H' p q (N + 1) → 0 ≤ v → v < lim → Q (.int v) H'
theorem c__law_draw (T : Txt K mg) : Cal P w K mg base 1 "_law_draw" spDraw [] := by
  refine calN T.d__law_draw sc__law_draw (fun vs H Q E h => ?_) (fun _ _ _ _ _ _ us hl => match us, hl with | [_, _], _ => rfl) (fun f cdv A outer s H vs Q E hr h => ?_)
  · obtain ⟨p, q, lim, N, rfl, _⟩ := h
    rfl
  · obtain ⟨p, q, lim, N, rfl, ⟨ns, a, d, c, fo, hp, hq, d0, c0, c1, f0, f1⟩, hN, l0, lB, k⟩ := h
    refine ⟨_, (pss_cons (ps_dput (hu_of hr) (pv 0) pe_str (pe_op op_add (pe_dget (hu_of hr) (pv 0) pe_str (fun _ _ => rfl)) pe_int) rfl)
      (C8.pss_cut (ps_if (PW.pt (pw_and (pt_cmpR op_eq (pe_dget (hu_of hr) (pv 0) pe_str (fun _ _ => rfl)) pe_int (nomark _)) (pw_and1 (pt_cmpR op_lt (pe_dget (hu_of hr) (pv 0) pe_str (fun _ _ => rfl)) (pe_callB call_len (by rfl) T.b_len (by decide +kernel) (pa_cons (pe_dget (hu_of hr) (pv 0) pe_str (fun _ _ => rfl)) pa_nil)) (nomark _))))) (pss_cons (ps_set (i := 2) sc__law_draw.nd rfl (Or.inl rfl) (pe_ix ix_list (pe_dget (hu_of hr) (pv 0) pe_str (fun _ _ => rfl)) (pe_dget (hu_of hr) (pv 0) pe_str (fun _ _ => rfl)) (fun _ _ => rfl)))
      (pss_cons (ps_dput (hu_of hr) (pv 0) pe_str (pe_op op_add (pe_dget (hu_of hr) (pv 0) pe_str (fun _ _ => rfl)) pe_int) rfl)
      (pss_one (ps_if (pt_cmpR op_ge (pv 2) (pe_op op_pow pe_int pe_int) (nomark _)) (pss_one (ps_dput (hu_of hr) (pv 0) pe_str (pe_op op_sub (pv 2) (pe_op op_pow pe_int pe_int)) rfl)) (pss_one (ps_dput (hu_of hr) (pv 0) pe_str (pe_op op_mod (pe_callTy call_int1 (by rfl) T.b_int (by decide +kernel) (pa_cons (pe_op op_add (pe_op op_mul (pe_dget (hu_of hr) (pv 0) pe_str (fun _ _ => rfl)) pe_int) (pv 2)) pa_nil)) pe_int) rfl)))))) pss_nil)
      (pss_cons (ps_if (pt_cmpR op_gt (pe_dget (hu_of hr) (pv 0) pe_str (fun _ _ => rfl)) pe_int (nomark _)) (pss_cons (ps_set (i := 3) sc__law_draw.nd rfl (Or.inl rfl) (pe_op op_mod (pe_callTy call_int1 (by rfl) T.b_int (by decide +kernel) (pa_cons (pe_dget (hu_of hr) (pv 0) pe_str (fun _ _ => rfl)) pa_nil)) (pv 1)))
      (pss_cons (ps_dput (hu_of hr) (pv 0) pe_str (pe_op op_fdivW (pe_dget (hu_of hr) (pv 0) pe_str (fun _ _ => rfl)) (pv 1)) rfl)
      (pss_one (ps_ret (pv 3))))) pss_nil)
      (pss_cons (ps_set (i := 4) sc__law_draw.nd rfl (Or.inl rfl) (pe_op op_add (pe_op op_add (pe_dget (hu_of hr) (pv 0) pe_str (fun _ _ => rfl)) (pe_op op_mul (pe_dget (hu_of hr) (pv 0) pe_str (fun _ _ => rfl)) pe_int)) pe_int))
      (pss_one (ps_ret (pe_op op_mod (pe_op op_fdivW (pe_callTy call_int1 (by rfl) T.b_int (by decide +kernel) (pa_cons (pe_op op_mod (pe_op op_pow (pv 4) pe_int) pe_int) pa_nil)) pe_int) (pv 1)))))))), ?_⟩
    have nqp : q ≠ p := ne_of hq hp (by intro z; cases z)
    walk_at "g"
    refine ⟨p, _, rfl, bg_count hp, ?_⟩
    walk_at "g"
    refine ⟨p, _, rfl, bp_count hp, ?_⟩
    obtain ⟨H1, e1⟩ : ∃ H1, H1 = upd H p (.dK (bagK q a d (c + 1) fo)) := ⟨_, rfl⟩
    rw [← e1]
    have kp1 : Kp p H H1 := by rw [e1]; exact kp_upd p H _
    have hp1 : H1 p = some (.dK (bagK q a d (c + 1) fo)) := by rw [e1]; exact upd_same
    have hq1 : H1 q = some (.lst (ns.map V.int)) := kp1 _ _ hq nqp
    refine ⟨fun σ' H2 => ∃ (v : Option V) (a2 : Nat) (d2 f2 : Int), σ' = [some (.ref p), some (.int lim), v, none, none] ∧ Kp p H H2 ∧ H2 p = some (.dK (bagK q a2 d2 (c + 1) f2)) ∧ H2 q = some (.lst (ns.map V.int)) ∧ 0 ≤ d2 ∧ 0 ≤ f2 ∧ f2 < 2147483587, ?_, ?_⟩
    · walk_at "g"
      refine ⟨p, _, rfl, bg_digits hp1, ?_⟩
      walk_at "g"
      have stay : (fun σ' H2 => ∃ (v : Option V) (a2 : Nat) (d2 f2 : Int), σ' = [some (.ref p), some (.int lim), v, none, none] ∧ Kp p H H2 ∧ H2 p = some (.dK (bagK q a2 d2 (c + 1) f2)) ∧ H2 q = some (.lst (ns.map V.int)) ∧ 0 ≤ d2 ∧ 0 ≤ f2 ∧ f2 < 2147483587) [some (.ref p), some (.int lim), none, none, none] H1 :=
        ⟨_, a, d, fo, rfl, kp1, hp1, hq1, d0, f0, f1⟩
      refine iteB (fun c2 => ?_) (fun c2 => ?_)
      · walk_at "g"
        refine ⟨p, _, rfl, bg_at hp1, ?_⟩
        walk_at "g"
        refine ⟨p, _, rfl, bg_cells hp1, ?_⟩
        refine ⟨_, _, rfl, .inl ⟨_, SqL.of hq1, rfl⟩, ?_⟩
        walk_at "g"
        rw [List.length_map]
        refine iteB (fun c3 => ?_) (fun c3 => ?_)
        · have ha : a < ns.length := by have := of_decide_eq_true c3; omega
          walk_at "g"
          refine ⟨p, _, rfl, bg_cells hp1, ?_⟩
          walk_at "g"
          refine ⟨p, _, rfl, bg_at hp1, ?_⟩
          refine ⟨q, _, (a : Int), .int ns[a], rfl, rfl, SqL.of hq1, atI_nat (j := a) (by rw [List.getElem?_map, List.getElem?_eq_getElem ha] <;> rfl), ?_⟩
          generalize ns[a] = z
          walk_at "g"
          refine ⟨p, _, rfl, bg_at hp1, ?_⟩
          walk_at "g"
          refine ⟨p, _, rfl, bp_at hp1, ?_⟩
          obtain ⟨H3, e3⟩ : ∃ H3, H3 = upd H1 p (.dK (bagK q (a + 1) d (c + 1) fo)) := ⟨_, rfl⟩
          rw [← e3]
          have kp3 : Kp p H H3 := by rw [e3]; exact kp1.trans (kp_upd p H1 _)
          have hp3 : H3 p = some (.dK (bagK q (a + 1) d (c + 1) fo)) := by rw [e3]; exact upd_same
          have hq3 : H3 q = some (.lst (ns.map V.int)) := kp3 _ _ hq nqp
          walk_at "g"
          refine ⟨⟨by decide, by decide, by decide⟩, ?_⟩
          walk_at "g"
          refine iteB (fun c4 => ?_) (fun c4 => ?_)
          · walk_at "g"
            refine ⟨⟨by decide, by decide, by decide⟩, ?_⟩
            walk_at "g"
            have h4 := of_decide_eq_true c4
            exact ⟨p, _, rfl, bp_digits hp3, _, a + 1, _, fo, rfl, kp3.trans (kp_upd p H3 _), upd_same, by rw [upd_ne nqp]; exact hq3, by omega, f0, f1⟩
          · walk_at "g"
            refine ⟨p, _, rfl, bg_fold hp3, ?_⟩
            walk_at "g"
            refine ⟨.inr ⟨by decide, by decide⟩, ?_⟩
            walk_at "g"
            refine .inl ⟨_, rfl, ?_⟩
            walk_at "g"
            refine ⟨by show (0 : Int) < 2147483587; decide, ?_⟩
            walk_at "g"
            exact ⟨p, _, rfl, bp_fold hp3, _, a + 1, d, _, rfl, kp3.trans (kp_upd p H3 _), upd_same, by rw [upd_ne nqp]; exact hq3, d0, Int.emod_nonneg _ (by decide), Int.emod_lt_of_pos _ (by decide)⟩
        · exact stay
      · exact stay
    · rintro σ' H2 ⟨v, a2, d2, f2, rfl, kp2, hp2, hq2, d20, f20, f21⟩
      walk_at "g"
      refine ⟨p, _, rfl, bg_digits hp2, ?_⟩
      walk_at "g"
      refine iteB (fun c2 => ?_) (fun c2 => ?_)
      · have h2 := of_decide_eq_true c2
        walk_at "g"
        refine ⟨p, _, rfl, bg_digits hp2, ?_⟩
        refine .inl ⟨_, rfl, ?_⟩
        walk_at "g"
        refine ⟨l0, ?_⟩
        walk_at "g"
        refine ⟨p, _, rfl, bg_digits hp2, ?_⟩
        walk_at "g"
        refine ⟨cdivw l0 lB (by omega), ?_⟩
        walk_at "g"
        refine ⟨p, _, rfl, bp_digits hp2, ?_⟩
        walk_at "g"
        exact k _ _ (kp2.trans (kp_upd p H2 _)) ⟨ns, a2, _, c + 1, f2, upd_same, by rw [upd_ne nqp]; exact hq2, Int.ediv_nonneg d20 (Int.le_of_lt l0), by omega, by omega, f20, f21⟩ (Int.emod_nonneg _ (by omega)) (Int.emod_lt_of_pos _ l0)
      · walk_at "g"
        refine ⟨p, _, rfl, bg_fold hp2, ?_⟩
        walk_at "g"
        refine ⟨p, _, rfl, bg_count hp2, ?_⟩
        walk_at "g"
        refine ⟨.inr ⟨by decide, by decide⟩, ?_⟩
        walk_at "g"
        refine ⟨⟨by decide, by decide, by omega⟩, ?_⟩
        walk_at "g"
        refine ⟨by show (0 : Int) < 2305843009213693951; decide, ?_⟩
        refine .inl ⟨_, rfl, ?_⟩
        walk_at "g"
        refine ⟨⟨by decide, by decide⟩, ?_⟩
        walk_at "g"
        refine ⟨l0, ?_⟩
        exact k _ H2 kp2 ⟨ns, a2, d2, c + 1, f2, hp2, hq2, d20, by omega, by omega, f20, f21⟩ (Int.emod_nonneg _ (by omega)) (Int.emod_lt_of_pos _ l0)
end
end Tr

namespace Tr
open PySem L2
/-- steps of a reading that are plain -/
local macro_rules | `(tactic| walk_at "x") => `(tactic| (refine' ⟨_, _, _, _, rfl, rfl, ?k1, ?k2, ?_⟩; (case k1 => exact SqT.of (by assumption)); (case k2 => exact rfl)))
local macro_rules | `(tactic| walk_at "g") => `(tactic| repeat (first | (refine ⟨_, rfl, ?_⟩) | (refine ⟨_, _, rfl, rfl, ?_⟩) | (refine ⟨_, _, rfl, ?_⟩) | (refine ⟨rfl, ?_⟩) | walk_at "x"))


/-! ### the law's pairs -/
theorem Kp.wr {p l : Addr} {H H' : Hp} {o : HO} (k : Kp p H H') (h : H l = none) : Kp p H (upd H' l o) := fun b u e n => by
  rw [upd_ne (ne_of_none e h)]
  exact k b u e n
theorem P2.kpB {p : Addr} {H H' : Hp} {kvs : List (Key × V)} {ts : List Addr} {cs : List Cl} (k : Kp p H H') (hp : H p = some (.dK kvs)) (h : P2 (PrT H) ts cs) : P2 (PrT H') ts cs :=
  h.mono fun t c e => k _ _ e (ne_of e hp (by intro z; cases z))
theorem PL.kpB {p l : Addr} {H H' : Hp} {kvs : List (Key × V)} {cs : List Cl} (k : Kp p H H') (hp : H p = some (.dK kvs)) (h : PL H l cs) : PL H' l cs :=
  let ⟨ts, a, b⟩ := h
  ⟨ts, k _ _ a (ne_of a hp (by intro z; cases z)), b.kpB k hp⟩
theorem Bag.at_ {H : Hp} {p q : Addr} {N : Nat} (h : Bag H p q N) : ∃ kvs xs, H p = some (.dK kvs) ∧ H q = some (.lst xs) :=
  let ⟨_, _, _, _, _, a, b, _⟩ := h.ex
  ⟨_, _, a, b⟩
theorem Bag.mono {H : Hp} {p q : Addr} {N M : Nat} (h : Bag H p q N) (l : N ≤ M) : Bag H p q M :=
  let ⟨ns, a, d, c, f, h1, h2, h3, h4, h5, r⟩ := h.ex
  ⟨ns, a, d, c, f, h1, h2, h3, h4, by omega, r⟩
theorem Bag.keep {H H' : Hp} {p q : Addr} {N : Nat} (h : Bag H p q N) (hp : H' p = H p) (hq : H' q = H q) : Bag H' p q N :=
  let ⟨ns, a, d, c, f, h1, h2, r⟩ := h.ex
  ⟨ns, a, d, c, f, hp.trans h1, hq.trans h2, r⟩
theorem Bag.same {H H' : Hp} {p q : Addr} {N : Nat} (s : Same H H') (h : Bag H p q N) : Bag H' p q N :=
  let ⟨ns, a, d, c, f, h1, h2, r⟩ := h.ex
  ⟨ns, a, d, c, f, s _ _ h1, s _ _ h2, r⟩
theorem Bag.wr {H : Hp} {p q l : Addr} {N : Nat} {o : HO} (h : Bag H p q N) (h1 : l ≠ p) (h2 : l ≠ q) : Bag (upd H l o) p q N := h.keep (upd_ne h1.symm) (upd_ne h2.symm)
end Tr

namespace Tr
open PySem L2 TL
/-- steps of a reading that are plain -/
local macro_rules | `(tactic| walk_at "x") => `(tactic| (refine' ⟨_, _, _, _, rfl, rfl, ?k1, ?k2, ?_⟩; (case k1 => exact SqT.of (by assumption)); (case k2 => exact rfl)))
local macro_rules | `(tactic| walk_at "g") => `(tactic| repeat (first | (refine ⟨_, rfl, ?_⟩) | (refine ⟨_, _, rfl, rfl, ?_⟩) | (refine ⟨_, _, rfl, ?_⟩) | (refine ⟨rfl, ?_⟩) | walk_at "x"))


/-! ### the law's names -/
section
variable {P : Program} {w : World} {K : PySem.W.Frag} {mg : Str → Option Value} {base : Heap}
def spIdent : Sp := fun vs H Q _ => ∃ (p q : Addr) (N k : Nat), vs = [.ref p, .int k] ∧ Bag H p q N ∧ N < 900000 ∧ k < 10 ∧ ∀ z H', Kp p H H' → Bag H' p q (N + 4) → Nm k z → Q (.str z) H'
theorem c__law_ident (T : Txt K mg) : Cal P w K mg base 2 "_law_ident" spIdent [] := by
  have c__law_draw := @c__law_draw P w K mg base T
  refine calN T.d__law_ident sc__law_ident (fun vs H Q E h => ?_) (fun _ _ _ _ _ _ us hl => match us, hl with | [_, _], _ => rfl) (fun f cdv A outer s H vs Q E hr h => ?_)
  · obtain ⟨p, q, N, k, rfl, _⟩ := h
    rfl
  · obtain ⟨p, q, N, k, rfl, hB, hN, hk, Qk⟩ := h
    refine ⟨_, (pss_cons (ps_set (i := 2) sc__law_ident.nd rfl (Or.inl rfl) pe_str)
      (pss_cons (ps_set (i := 3) sc__law_ident.nd rfl (Or.inl rfl) (pe_ix ix_str (pv 2) (pe_cx c__law_draw hr (by first | decide | omega) rfl passL (pa_cons (pv 0) (pa_cons pe_int pa_nil))) (fun _ _ => rfl)))
      (pss_cons (ps_if (pt_cmpR op_eq (pe_cx c__law_draw hr (by first | decide | omega) rfl passL (pa_cons (pv 0) (pa_cons pe_int pa_nil))) pe_int (nomark _)) (pss_one (ps_set (i := 3) sc__law_ident.nd rfl (Or.inl rfl) (pe_op op_add_str (pv 3) (pe_op op_mulS (pe_ix ix_str (pv 2) (pe_cx c__law_draw hr (by first | decide | omega) rfl passL (pa_cons (pv 0) (pa_cons pe_int pa_nil))) (fun _ _ => rfl)) (pe_op op_add pe_int (pe_cx c__law_draw hr (by first | decide | omega) rfl passL (pa_cons (pv 0) (pa_cons pe_int pa_nil)))))))) pss_nil)
      (pss_one (ps_ret (pe_op op_add_str (pv 3) (pe_callTy call_str_int (by rfl) T.b_str (by decide +kernel) (pa_cons (pv 1) pa_nil)))))))), ?_⟩
    have big : ∀ x : Int, 0 ≤ x → x < 64 → Bd 8000 x := fun x h0 h1 => Bd.mono (n := 6) (by show x.natAbs < 2 ^ 6; omega) (by decide)
    walk_at "g"
    refine ⟨p, q, 26, N, rfl, hB, by omega, by decide, big _ (by decide) (by decide), fun v H1 kp1 hB1 v0 v1 => ?_⟩
    obtain ⟨j, rfl⟩ : ∃ j : Nat, v = (j : Int) := ⟨v.toNat, by omega⟩
    refine ⟨_, (j : Int), _, rfl, rfl, abc_len, abc_at (by omega), ?_⟩
    walk_at "g"
    refine ⟨p, q, 3, _, rfl, hB1, by omega, by decide, big _ (by decide) (by decide), fun v2 H2 kp2 hB2 v20 v21 => ?_⟩
    have hlog : (k : Int).natAbs.log2 < 1920 := Nat.lt_of_le_of_lt (Nat.log2_le_self _) (by show k < 1920; omega)
    walk_at "g"
    refine iteB (fun c1 => ?_) (fun c1 => ?_)
    · walk_at "g"
      refine ⟨p, q, 26, _, rfl, hB2, by omega, by decide, big _ (by decide) (by decide), fun v3 H3 kp3 hB3 v30 v31 => ?_⟩
      obtain ⟨i, rfl⟩ : ∃ i : Nat, v3 = (i : Int) := ⟨v3.toNat, by omega⟩
      refine ⟨_, (i : Int), _, rfl, rfl, abc_len, abc_at (by omega), ?_⟩
      walk_at "g"
      refine ⟨p, q, 9, _, rfl, hB3, by omega, by decide, big _ (by decide) (by decide), fun v4 H4 kp4 hB4 v40 v41 => ?_⟩
      walk_at "g"
      obtain ⟨z, ez⟩ : ∃ z, z = Txt.mul ⟨#[97 + i]⟩ (1 + v4) := ⟨_, rfl⟩
      have tz : tl z = List.replicate (1 + v4).toNat (97 + i) := by
        rw [ez, tl_mul rfl (by omega)]
        show (List.replicate _ [97 + i]).flatten = _
        rw [List.flatten_replicate_singleton]
      refine ⟨mulOk_small rfl (by omega) (by omega), ?_⟩
      rw [← ez]
      clear ez
      walk_at "g"
      have t2 : tl ((⟨#[97 + j]⟩ : Str) ++ z) = (97 + j) :: List.replicate (1 + v4).toNat (97 + i) := by rw [tl_append, tz]; rfl
      have l2 : ((⟨#[97 + j]⟩ : Str) ++ z).length ≤ 100 := by rw [len_tl, t2, List.length_cons, List.length_replicate]; omega
      refine ⟨?_, ?_⟩
      · have := len_tl z
        rw [tz, List.length_replicate] at this
        exact Nat.le_trans (show _ ≤ 100 by show 1 + z.length ≤ 100; omega) (by decide)
      walk_at "g"
      refine ⟨hlog, ?_⟩
      walk_at "g"
      refine ⟨?_, ?_⟩
      · rw [num_len hk]
        exact Nat.le_trans (Nat.succ_le_succ l2) (by decide)
      exact Qk _ H4 (((kp1.trans kp2).trans kp3).trans kp4) hB4 (nm_mk hk ⟨_, _, t2, ⟨by omega, by omega⟩, by rw [List.length_replicate]; omega, fun d hd => by rw [List.eq_of_mem_replicate hd]; exact ⟨by omega, by omega⟩⟩)
    · walk_at "g"
      refine ⟨hlog, ?_⟩
      walk_at "g"
      refine ⟨?_, ?_⟩
      · rw [num_len hk]
        exact (show 2 ≤ sizeLine by decide)
      exact Qk _ H2 (kp1.trans kp2) (hB2.mono (by omega)) (nm_mk hk ⟨_, [], rfl, ⟨by omega, by omega⟩, by decide, fun d hd => by cases hd⟩)
end
end Tr

/-! # What the law's turns are (T2 without the law's own defs). -/
namespace Tr
open PySem L2 TL
/-- steps of a reading that are plain -/
local macro_rules | `(tactic| walk_at "x") => `(tactic| (refine' ⟨_, _, _, _, rfl, rfl, ?k1, ?k2, ?_⟩; (case k1 => exact SqT.of (by assumption)); (case k2 => exact rfl)))
local macro_rules | `(tactic| walk_at "g") => `(tactic| repeat (first | (refine ⟨_, rfl, ?_⟩) | (refine ⟨_, _, rfl, rfl, ?_⟩) | (refine ⟨_, _, rfl, ?_⟩) | (refine ⟨rfl, ?_⟩) | walk_at "x"))


/-! ### the law's turns, exponents, steps -/
def KOk (ks : List SI) : Prop := (∀ (i : Nat) c, ks[i]? = some c → Nm i c.1) ∧ ∀ c ∈ ks, (c.2 = 0 ∨ 2 ≤ c.2) ∧ Bd 140 c.2
theorem KOk.nil : KOk [] := ⟨fun i c h => by simp at h, fun c h => by cases h⟩
theorem KOk.snoc {ks : List SI} {c : SI} (h : KOk ks) (h1 : Nm ks.length c.1) (h2 : (c.2 = 0 ∨ 2 ≤ c.2) ∧ Bd 140 c.2) : KOk (ks ++ [c]) := by
  refine ⟨fun i d hd => ?_, fun d hd => ?_⟩
  · by_cases hi : i < ks.length
    · rw [List.getElem?_append_left hi] at hd
      exact h.1 i d hd
    · rw [List.getElem?_append_right (by omega)] at hd
      have : i - ks.length = 0 := by
        have := (List.getElem?_eq_some_iff.mp hd).1
        simp at this
        omega
      rw [this] at hd
      cases hd
      rw [show i = ks.length by omega]
      exact h1
  · rcases List.mem_append.mp hd with hd | hd
    · exact h.2 d hd
    · rw [List.mem_singleton.mp hd]
      exact h2
theorem sl_snoc {H : Hp} {l u : Addr} {kts : List Addr} {ds : List SI} {c : SI} {xs : List V} {ys : List V} (hl : H l = some (.lst xs)) (pk : P2 (SrT H) kts ds) (hu : SrT H u c) :
    P2 (SrT (upd H l (.lst ys))) (kts ++ [u]) (ds ++ [c]) := by
  have tup : ∀ {u : Addr} {c : SI}, SrT H u c → SrT (upd H l (.lst ys)) u c := fun {u c} e => by
    have n : u ≠ l := ne_of e hl (by intro z; cases z)
    show upd _ _ _ u = _
    rw [upd_ne n]
    exact e
  exact (pk.mono fun _ _ e => tup e).snoc (tup hu)
def StOk (ks ss : List SI) : Prop := ∀ c ∈ ss, (∃ k ∈ ks, k.1 = c.1) ∧ Bd 140 c.2
end Tr

namespace Tr
open PySem L2
/-- steps of a reading that are plain -/
local macro_rules | `(tactic| walk_at "x") => `(tactic| (refine' ⟨_, _, _, _, rfl, rfl, ?k1, ?k2, ?_⟩; (case k1 => exact SqT.of (by assumption)); (case k2 => exact rfl)))
local macro_rules | `(tactic| walk_at "g") => `(tactic| repeat (first | (refine ⟨_, rfl, ?_⟩) | (refine ⟨_, _, rfl, rfl, ?_⟩) | (refine ⟨_, _, rfl, ?_⟩) | (refine ⟨rfl, ?_⟩) | walk_at "x"))


/-! ### is_whole, is_part, Numbers.__init__ -/
section
variable {P : Program} {w : World} {K : PySem.W.Frag} {mg : Str → Option Value} {base : Heap}
def spWhole (K : PySem.W.Frag) : Sp := fun vs H Q _ => ∃ x b, vs = [x] ∧ IsW K H x b ∧ Q (.bl b) H
theorem c_is_whole (T : Txt K mg) : Cal P w K mg base 1 "is_whole" (spWhole K) [] := by
  refine calN T.d_is_whole sc_is_whole (fun vs H Q E h => ?_) (fun _ _ _ _ _ _ us hl => match us, hl with | [_], _ => rfl) (fun f cdv A outer s H vs Q E hr h => ?_)
  · obtain ⟨x, b, rfl, _⟩ := h
    rfl
  · obtain ⟨x, b, rfl, ⟨t, b1, b2, ty, k1, k2, rfl⟩, k⟩ := h
    refine ⟨_, (pss_one (ps_ret (pe_and (pe_callB call_isi (by rfl) T.b_isinstance (by decide +kernel) (pa_cons (pv 0) (pa_cons (pe_bltn (v := .ty "int") rfl T.b_int (by decide +kernel) rfl) pa_nil))) (pe_one (pe_not (pe_callB call_isi (by rfl) T.b_isinstance (by decide +kernel) (pa_cons (pv 0) (pa_cons (pe_bltn (v := .ty "bool") rfl T.b_bool (by decide +kernel) rfl) pa_nil)))))))), ?_⟩
    refine ⟨x, rfl, x, .ty "int", t, _, b1, rfl, .ty "int", ty, k1, b1, rfl, ?_⟩
    cases b1 with
    | false => exact k
    | true =>
      refine ⟨x, rfl, x, .ty "bool", t, _, b2, rfl, .ty "bool", ty, k2, b2, rfl, ?_⟩
      rw [Bool.true_and] at k
      exact k
end
end Tr

namespace Tr
open PySem L2 TL
/-- steps of a reading that are plain -/
local macro_rules | `(tactic| walk_at "x") => `(tactic| (refine' ⟨_, _, _, _, rfl, rfl, ?k1, ?k2, ?_⟩; (case k1 => exact SqT.of (by assumption)); (case k2 => exact rfl)))
local macro_rules | `(tactic| walk_at "g") => `(tactic| repeat (first | (refine ⟨_, rfl, ?_⟩) | (refine ⟨_, _, rfl, rfl, ?_⟩) | (refine ⟨_, _, rfl, ?_⟩) | (refine ⟨rfl, ?_⟩) | walk_at "x"))


/-! ### names -/
instance (c : Nat) : Decidable (isL c) := inferInstanceAs (Decidable (97 ≤ c ∧ c ≤ 122))
instance (c : Nat) : Decidable (isD c) := inferInstanceAs (Decidable (48 ≤ c ∧ c ≤ 57))
def ldB (c : Nat) : Bool := decide (isL c) || decide (isD c)
/-- is this the form of names -/
def nameB (z : Str) : Bool := match tl z with
  | [] => false
  | c :: r => decide (r.length ≤ 11) && (decide (isL c) && (c :: r).all ldB)
theorem nameB_of {z : Str} (h : NmOk z) : nameB z = true := by
  obtain ⟨c, r, e, h1, h2, h3⟩ := h
  unfold nameB
  rw [e]
  show (decide (r.length ≤ 11) && (decide (isL c) && (c :: r).all ldB)) = true
  rw [decide_eq_true h2, decide_eq_true h1, Bool.true_and, Bool.true_and]
  refine List.all_eq_true.mpr fun d hd => ?_
  unfold ldB
  rcases List.mem_cons.mp hd with rfl | hd
  · rw [decide_eq_true h1]; rfl
  · rcases h3 d hd with k | k
    · rw [decide_eq_true k]; rfl
    · rw [decide_eq_true k, Bool.or_true]
theorem tl_digits : tl ("0123456789" : Str) = List.range' 48 10 := by
  rw [tl_ofString]
  decide
theorem in_abc (c : Nat) : decide (c ∈ ("abcdefghijklmnopqrstuvwxyz" : Str).cps.toList) = decide (isL c) := by
  have e : ("abcdefghijklmnopqrstuvwxyz" : Str).cps.toList = List.range' 97 26 := tl_abc
  rw [e]
  refine decide_eq_decide.mpr ?_
  rw [List.mem_range'_1]
  unfold isL
  omega
theorem in_dig (c : Nat) : decide (c ∈ ("0123456789" : Str).cps.toList) = decide (isD c) := by
  have e : ("0123456789" : Str).cps.toList = List.range' 48 10 := tl_digits
  rw [e]
  refine decide_eq_decide.mpr ?_
  rw [List.mem_range'_1]
  unfold isD
  omega
section
variable {P : Program} {w : World} {K : PySem.W.Frag} {mg : Str → Option Value} {base : Heap}
def spName (K : PySem.W.Frag) : Sp := fun vs H Q _ => ∃ x, vs = [x] ∧ ((∃ z, x = .str z ∧ z.length ≤ 100000 ∧ ∀ H', Same H H' → Q (.bl (nameB z)) H') ∨ (∃ t, TyX K H x t ∧ PySem.W.kitOne K t (.type "str") = some false ∧ Q (.bl false) H))
theorem c_is_name (T : Txt K mg) : Cal P w K mg base 1 "is_name" (spName K) [] := by
  refine calN T.d_is_name sc_is_name (fun vs H Q E h => ?_) (fun _ _ _ _ _ _ us hl => match us, hl with | [_], _ => rfl) (fun f cdv A outer s H vs Q E hr h => ?_)
  · obtain ⟨x, rfl, _⟩ := h
    rfl
  · obtain ⟨x, rfl, h⟩ := h
    refine ⟨_, (pss_cons (ps_if (PW.pt (pw_or (pt_not (pt_val (pe_callB call_isi (by rfl) T.b_isinstance (by decide +kernel) (pa_cons (pv 0) (pa_cons (pe_bltn (v := .ty "str") rfl T.b_str (by decide +kernel) rfl) pa_nil))))) (pw_or (pt_not (pt_chain op_le op_le pe_int (pe_callB call_len (by rfl) T.b_len (by decide +kernel) (pa_cons (pv 0) pa_nil)) (pe_gcon T.c_LONGEST_NAME (by rfl)))) (pw_or1 (pt_cmpR op_notIn_sign (pe_ix ix_str (pv 0) pe_int (fun _ _ => rfl)) (pe_gcon T.c_LETTERS (by rfl)) (by rfl)))))) (pss_one (ps_ret pe_bl)) pss_nil)
      (pss_one (ps_ret (pe_callB (cr_all rfl) (by rfl) T.b_all (by decide +kernel) (pa_cons (pe_lc (own := [("sign", 1)]) (g := gName 1) rfl sc_is_name.nd (pi_str (pv 0)) (blkOk_by (own := [("sign", 1)]) (N := ["value", "sign"]) (sc := defScope s_is_name) (by decide +kernel)) (fun _ _ _ _ _ => (pg_name (i := 1) sc_is_name.nd rfl (Or.inl rfl))) (fun _ _ _ _ _ => pts_nil) (fun _ _ _ _ _ => (pe_or (pe_cmpR op_in_sign (pv 1) (pe_gcon T.c_LETTERS (by rfl)) (by rfl)) (pe_one (pe_cmpR op_in_sign (pv 1) (pe_gcon T.c_DIGITS (by rfl)) (by rfl)))))) pa_nil))))), ?_⟩
    rcases h with ⟨z, rfl, hz, k⟩ | ⟨t, ty, kt, k⟩
    · have hz2 : z.length ≤ sizeLine := Nat.le_trans hz (by decide)
      have hl : z.length = (tl z).length := len_tl z
      refine ⟨.str z, rfl, .str z, .ty "str", .type "str", _, true, rfl, .ty "str", .base (.str z), kit_ty (by decide +kernel), true, rfl, ?_⟩
      refine iteF ?_
      walk_at "g"
      refine ⟨_, z.length, rfl, ⟨hz2, rfl⟩, ?_⟩
      walk_at "g"
      have nf : (∀ c r, tl z = c :: r → (decide (r.length ≤ 11) && (decide (isL c) && (c :: r).all ldB)) = false) → nameB z = false := fun h => by
        unfold nameB
        cases e : tl z with
        | nil => rfl
        | cons c r => exact h c r e
      have kf : nameB z = false → Q (.bl false) H := fun e => by
        have := k H (Same.refl H)
        rwa [e] at this
      refine iteB (fun c1 => ?_) (fun c1 => ?_)
      · walk_at "g"
        refine iteB (fun c2 => ?_) (fun c2 => ?_)
        · refine iteT ?_
          refine kf (nf fun c r e => ?_)
          have hl2 : ¬ r.length ≤ 11 := by
            rw [e, List.length_cons] at hl
            simp at c2
            omega
          rw [decide_eq_false hl2]
          rfl
        · have hl2 : z.length ≤ 12 := by
            simp at c2
            omega
          cases e : tl z with
          | nil =>
            rw [e] at hl
            simp at c1
            simp at hl
            omega
          | cons c r =>
            have hr2 : r.length ≤ 11 := by
              rw [e, List.length_cons] at hl
              omega
            have nv : nameB z = (decide (isL c) && (c :: r).all ldB) := by
              unfold nameB
              rw [e]
              show (decide (r.length ≤ 11) && _) = _
              rw [decide_eq_true hr2, Bool.true_and]
            walk_at "g"
            refine ⟨z, 0, c, rfl, rfl, hz2, (by show atI (tl z) ((0 : Nat) : Int) = _; rw [e]; exact atI_nat (j := 0) rfl), ?_⟩
            walk_at "g"
            rw [in_abc]
            refine iteB (fun c3 => ?_) (fun c3 => ?_)
            · refine kf ?_
              have : decide (isL c) = false := by simpa using c3
              rw [nv, this, Bool.false_and]
            · have c4 : decide (isL c) = true := by simpa using c3
              walk_at "g"
              refine fun D nD => ?_
              refine lc_gen walk_txt (cs := tl z) (fun c => [some (.str z), some (.str ⟨#[c]⟩)]) (fun _ => true) (fun y c _ => y = .bl (ldB c)) (fun _ _ _ _ _ _ _ e => e) nD (by omega) (fun _ _ => trivial) ?_ (fun _ _ => rfl) (fun c _ H Q _ q => q H (Same.refl H)) ?_ ?_
              · rintro i H2 x H3 c hc s2 ⟨rfl, d, hd, rfl⟩
                rw [hc] at hd
                cases hd
                exact ⟨Same.refl _, fun Q q => q⟩
              · intro d hd _ H2 Q2 s2 q
                walk_at "g"
                rw [in_abc]
                refine iteB (fun c5 => ?_) (fun c5 => ?_)
                · refine q _ _ (Same.refl _) ?_
                  unfold ldB
                  rw [c5, Bool.true_or]
                · walk_at "g"
                  rw [in_dig]
                  refine q _ _ (Same.refl _) ?_
                  unfold ldB
                  rw [c5, Bool.false_or]
              · intro ys H2 s2 hD2 py
                rw [filter_all] at py
                have ey := py.eq_map
                walk_at "g"
                refine ⟨D, (tl z).map ldB, rfl, SqL.of (by rw [hD2, ey, List.map_map]; rfl), ?_⟩
                have := k H2 s2
                rw [nv, c4, Bool.true_and, ← e] at this
                have e2 : ((tl z).map ldB).all id = (tl z).all ldB := by rw [List.all_map]; rfl
                rw [e2]
                exact this
      · walk_at "g"
        refine iteT ?_
        refine kf (nf fun c r e => ?_)
        rw [e, List.length_cons] at hl
        simp at c1
        omega
    · refine ⟨x, rfl, x, .ty "str", t, _, false, rfl, .ty "str", ty, kt, false, rfl, ?_⟩
      refine iteT ?_
      exact k
end
end Tr

namespace Tr
open PySem L2 TL
/-- steps of a reading that are plain -/
local macro_rules | `(tactic| walk_at "x") => `(tactic| (refine' ⟨_, _, _, _, rfl, rfl, ?k1, ?k2, ?_⟩; (case k1 => exact SqT.of (by assumption)); (case k2 => exact rfl)))
local macro_rules | `(tactic| walk_at "g") => `(tactic| repeat (first | (refine ⟨_, rfl, ?_⟩) | (refine ⟨_, _, rfl, rfl, ?_⟩) | (refine ⟨_, _, rfl, ?_⟩) | (refine ⟨rfl, ?_⟩) | walk_at "x"))


/-! ### Turns -/
def rdic : Nat → List SI → List (Key × V)
  | _, [] => []
  | i, c :: cs => (.inr c.1, .int (i : Nat)) :: rdic (i + 1) cs
theorem rdic_snoc : ∀ (i : Nat) (ks : List SI) (c : SI), rdic i (ks ++ [c]) = rdic i ks ++ [(.inr c.1, .int ((i + ks.length : Nat) : Int))]
  | i, [], c => by rw [List.length_nil, Nat.add_zero]; rfl
  | i, d :: ds, c => by
    show _ :: rdic (i + 1) (ds ++ [c]) = _ :: (rdic (i + 1) ds ++ _)
    rw [rdic_snoc (i + 1) ds c, List.length_cons, show i + 1 + ds.length = i + (ds.length + 1) by omega]
theorem rdic_len : ∀ (i : Nat) (ks : List SI), (rdic i ks).length = ks.length
  | _, [] => rfl
  | i, c :: cs => by show (rdic (i + 1) cs).length + 1 = _; rw [rdic_len (i + 1) cs]; rfl
/-- the place of a name -/
def rankS (ks : List SI) (z : Str) : Nat := ks.findIdx fun c => decide (c.1 = z)
theorem valV_rdic (z : Str) : ∀ (i : Nat) (ks : List SI), (∃ k ∈ ks, k.1 = z) → valV (rdic i ks) (.inr z) = some (.int ((i + rankS ks z : Nat) : Int))
  | i, [], h => by obtain ⟨k, hk, _⟩ := h; cases hk
  | i, c :: cs, h => by
    by_cases e : c.1 = z
    · have e2 : rankS (c :: cs) z = 0 := by
        unfold rankS
        rw [List.findIdx_cons, decide_eq_true e]
        rfl
      rw [e2]
      exact valV_pos (p := ((.inr c.1 : Key), V.int (i : Nat))) (congrArg Sum.inr e)
    · have e2 : rankS (c :: cs) z = rankS cs z + 1 := by
        unfold rankS
        rw [List.findIdx_cons, decide_eq_false e]
        rfl
      have h2 : ∃ k ∈ cs, k.1 = z := by
        obtain ⟨k, hk, ek⟩ := h
        rcases List.mem_cons.mp hk with rfl | hk
        · exact (e ek).elim
        · exact ⟨k, hk, ek⟩
      have ih := valV_rdic z (i + 1) cs h2
      rw [e2, show i + (rankS cs z + 1) = i + 1 + rankS cs z by omega, ← ih]
      exact valV_neg (p := ((.inr c.1 : Key), V.int (i : Nat))) (fun w => e (Sum.inr.inj w))
theorem lookS_none {ks : List SI} {z : Str} (h : ∀ k ∈ ks, k.1 ≠ z) : lookS ks z = none := by
  unfold lookS
  rw [List.find?_eq_none.mpr fun k hk => by simpa using h k hk]
  rfl
theorem putK_new {kvs : List (Key × V)} {k : Key} {v : V} (h : ∀ q ∈ kvs, q.1 ≠ k) : putK kvs k v = kvs ++ [(k, v)] := by
  unfold putK
  rw [if_neg]
  intro z
  obtain ⟨q, hq, e⟩ := List.any_eq_true.mp z
  exact h q hq (of_decide_eq_true e)
theorem kdic_put {ks : List SI} {c : SI} (h : ∀ k ∈ ks, k.1 ≠ c.1) : putK (kdic ks) (.inr c.1) (.int c.2) = kdic (ks ++ [c]) := by
  rw [putK_new]
  · unfold kdic
    rw [List.map_append]
    rfl
  · intro q hq
    obtain ⟨d, hd, rfl⟩ := List.mem_map.mp hq
    exact fun e => h d hd (Sum.inr.inj e)
theorem rdic_mem : ∀ (i : Nat) (ks : List SI), ∀ q ∈ rdic i ks, ∃ d ∈ ks, q.1 = .inr d.1
  | _, [], q, h => by cases h
  | i, c :: cs, q, h => by
    rcases List.mem_cons.mp h with rfl | h
    · exact ⟨c, List.mem_cons_self, rfl⟩
    · obtain ⟨d, hd, e⟩ := rdic_mem (i + 1) cs q h
      exact ⟨d, List.mem_cons_of_mem _ hd, e⟩
theorem rdic_put {ks : List SI} {c : SI} (h : ∀ k ∈ ks, k.1 ≠ c.1) : putK (rdic 0 ks) (.inr c.1) (.int (ks.length : Nat)) = rdic 0 (ks ++ [c]) := by
  rw [putK_new, rdic_snoc, Nat.zero_add]
  intro q hq
  obtain ⟨d, hd, e⟩ := rdic_mem 0 ks q hq
  rw [e]
  exact fun e2 => h d hd (Sum.inr.inj e2)
/-- turns that may be declared -/
structure KsOk (ks : List SI) : Prop where
  n0 : 0 < ks.length
  n8 : ks.length ≤ 8
  nd : Nds ks
  ok : ∀ c ∈ ks, NmOk c.1 ∧ (c.2 = 0 ∨ 2 ≤ c.2)
theorem KOk.ks {ks : List SI} (h : KOk ks) (n0 : 0 < ks.length) (n8 : ks.length ≤ 8) : KsOk ks := by
  refine ⟨n0, n8, ?_, fun c hc => ?_⟩
  · unfold Nds
    rw [List.nodup_iff_pairwise_ne, List.pairwise_map, List.pairwise_iff_getElem]
    intro i j hi hj hij e
    have h1 := h.1 i _ (List.getElem?_eq_getElem hi)
    have h2 := h.1 j _ (List.getElem?_eq_getElem hj)
    rw [e] at h1
    have := h1.inj h2
    omega
  · obtain ⟨i, hi, e⟩ := List.getElem_of_mem hc
    have h1 := h.1 i c (by rw [← e]; exact List.getElem?_eq_getElem hi)
    exact ⟨h1.1, (h.2 c hc).1⟩
theorem NmOk.strOk {z : Str} (h : NmOk z) : PyData.strOk z = true := by
  obtain ⟨c, r, e, h1, h2, h3⟩ := h
  unfold PyData.strOk
  rw [Array.all_eq_true_iff_forall_mem]
  intro d hd
  have hd2 : d ∈ tl z := by simpa [tl] using hd
  rw [e] at hd2
  rw [decide_eq_true_eq]
  unfold isL at h1
  rcases List.mem_cons.mp hd2 with rfl | hd2
  · omega
  · rcases h3 d hd2 with k | k
    · unfold isL at k; omega
    · unfold isD at k; omega
def tflds (p1 p2 p3 p4 : Addr) : List (Str × V) := [("pairs", .ref p1), ("names", .ref p2), ("periods", .ref p3), ("ranks", .ref p4)]
/-- turns stand at a -/
structure TuAt (C : Addr) (H : Hp) (a : Addr) (ks : List SI) : Prop where
  ex : ∃ dx p1 p2 p3 p4, H a = some (.ins C dx (tflds p1 p2 p3 p4)) ∧ ST H p1 ks ∧ H p2 = some (.tup (ks.map fun c => V.str c.1)) ∧ H p3 = some (.dK (kdic ks)) ∧ H p4 = some (.dK (rdic 0 ks))
theorem TuAt.same {C : Addr} {H H' : Hp} {a : Addr} {ks : List SI} (s : Same H H') (h : TuAt C H a ks) : TuAt C H' a ks :=
  let ⟨dx, p1, p2, p3, p4, e0, e1, e2, e3, e4⟩ := h.ex
  ⟨dx, p1, p2, p3, p4, s _ _ e0, e1.same s, s _ _ e2, s _ _ e3, s _ _ e4⟩
/-- the turns' own dicts are not at p -/
def TuNe (H : Hp) (a p : Addr) : Prop := ∀ C dx p1 p2 p3 p4, H a = some (.ins C dx (tflds p1 p2 p3 p4)) → p3 ≠ p ∧ p4 ≠ p
theorem TuNe.to {C : Addr} {H H' : Hp} {a p : Addr} {ks : List SI} (h : TuNe H a p) (hT : TuAt C H a ks) (k : ∀ o, H a = some o → H' a = some o) : TuNe H' a p := by
  obtain ⟨dx, p1, p2, p3, p4, e0, _⟩ := hT.ex
  intro C' dx' q1 q2 q3 q4 e
  rw [k _ e0] at e
  cases e
  exact h _ _ _ _ _ _ e0
theorem TuAt.kpB {C p a : Addr} {H H' : Hp} {kvs : List (Key × V)} {ks : List SI} (h : TuAt C H a ks) (ne : TuNe H a p) (kp : Kp p H H') (hp : H p = some (.dK kvs)) : TuAt C H' a ks := by
  obtain ⟨dt, p1, p2, p3, p4, e0, ⟨ts, a1, b1⟩, e2, e3, e4⟩ := h.ex
  obtain ⟨n3, n4⟩ := ne _ _ _ _ _ _ e0
  exact ⟨dt, p1, p2, p3, p4, kp _ _ e0 (ne_of e0 hp (by intro z; cases z)), ⟨ts, kp _ _ a1 (ne_of a1 hp (by intro z; cases z)), b1.mono fun _ _ e => kp _ _ e (ne_of e hp (by intro z; cases z))⟩,
    kp _ _ e2 (ne_of e2 hp (by intro z; cases z)), kp _ _ e3 n3, kp _ _ e4 n4⟩
theorem TuNe.kpB {C p a : Addr} {H H' : Hp} {kvs : List (Key × V)} {ks : List SI} (h : TuNe H a p) (hT : TuAt C H a ks) (kp : Kp p H H') (hp : H p = some (.dK kvs)) : TuNe H' a p :=
  h.to hT fun o e => kp _ _ e (by
    obtain ⟨dx, p1, p2, p3, p4, e0, _⟩ := hT.ex
    exact ne_of e0 hp (by intro z; cases z))
section
variable {P : Program} {w : World} {K : PySem.W.Frag} {mg : Str → Option Value} {base : Heap}
def spTurns (C : Addr) : Sp := fun vs H Q _ => ∃ (x dx p : Addr) (ks : List SI), vs = [.ref x, .ref p] ∧ H x = some (.ins C dx []) ∧ SL H p ks ∧ KsOk ks ∧
  ∀ (H' : Hp), Kp x H H' → TuAt C H' x ks → (∀ b o, H b = some o → TuNe H' x b) → Q .non H'
theorem m_Turns (T : Txt K mg) : Mak P w K mg base 2 "Turns" (He.ga K "Turns") (spTurns (He.ga K "Turns")) [] := by
  have c_is_name := @c_is_name P w K mg base T
  have c_is_whole := @c_is_whole P w K mg base T
  refine makN T.i_Turns sc_Turns___init__ (fun vs H Q E h => ?_) (fun dvs f fd hl F => by
    cases dvs with
    | nil => exact (funD0 F).binds fun _ _ _ _ _ _ us hl => match us, hl with | [_, _], _ => rfl
    | cons _ _ => cases hl) (fun f cdv A outer s H vs Q E hr h => ?_)
  · obtain ⟨x, dx, p, ks, rfl, _⟩ := h
    rfl
  · obtain ⟨x, dx, p, ks, rfl, hx, hP, hk, k⟩ := h
    refine ⟨_, (pss_cons (ps_setLc (i := 2) (own := [("name", 5), ("period", 6)]) (g := gTup K 2 (gCons (gName 5) (gCons (gName 6) gNil))) rfl sc_Turns___init__.nd rfl rfl (sw_true rfl rfl rfl (by decide +kernel)) (pi_listK K (pv 1)) (blkOk_by (own := [("name", 5), ("period", 6)]) (N := ["self", "pairs", "told", "periods", "ranks", "name", "period"]) (sc := defScope s_Turns___init__) (by decide +kernel)) (fun _ _ _ _ _ => (pg_tup rfl (pgs_cons (pg_name (i := 5) sc_Turns___init__.nd rfl (Or.inl rfl)) (pgs_cons (pg_name (i := 6) sc_Turns___init__.nd rfl (Or.inl rfl)) pgs_nil)))) (fun _ _ _ _ _ => pts_nil) (fun _ _ _ _ _ => (pe_tup (pa_cons (pv 5) (pa_cons (pv 6) pa_nil)))))
      (pss_cons (ps_if (pt_cmpR op_eq (pe_callB call_len (by rfl) T.b_len (by decide +kernel) (pa_cons (pv 2) pa_nil)) pe_int (nomark _)) (pss_one ps_never) pss_nil)
      (pss_cons (ps_if (pt_cmpR op_gt (pe_callB call_len (by rfl) T.b_len (by decide +kernel) (pa_cons (pv 2) pa_nil)) (pe_ccon T.q_Turns__MOST (pe_glob (v := .ref (He.ga K "Turns")) (by rfl) T.v_Turns rfl)) (nomark _)) (pss_one ps_never) pss_nil)
      (pss_cons (ps_par (i := 3) (j := 4) (by rfl) sc_Turns___init__.nd rfl rfl (by decide) rfl rfl (pa_cons pe_dnewK (pa_cons pe_dnewK pa_nil)) (by rfl))
      (pss_cons (ps_for PassesOwn.never rfl (pi_list (pv 2)) (pg_tup rfl (pgs_cons (pg_name (i := 5) sc_Turns___init__.nd rfl (Or.inl rfl)) (pgs_cons (pg_name (i := 6) sc_Turns___init__.nd rfl (Or.inl rfl)) pgs_nil))) (pss_cons (ps_if (pt_not (pt_val (pe_cx c_is_name hr (by first | decide | omega) rfl passL (pa_cons (pv 5) pa_nil)))) (pss_one ps_never) pss_nil)
      (pss_cons (ps_if (pt_cmp (pc_din (hu_of hr) (pv 5) (pv 3))) (pss_one ps_never) pss_nil)
      (pss_cons (ps_if (PW.pt (pw_or (pt_not (pt_val (pe_cx c_is_whole hr (by first | decide | omega) rfl passL (pa_cons (pv 6) pa_nil)))) (pw_or (pt_cmpR op_lt (pv 6) pe_int (nomark _)) (pw_or1 (pt_cmpR op_eq (pv 6) pe_int (nomark _)))))) (pss_one ps_never) pss_nil)
      (pss_cons (ps_dput (hu_of hr) (pv 4) (pv 5) (pe_callB call_lenD (by rfl) T.b_len (by decide +kernel) (pa_cons (pv 4) pa_nil)) rfl)
      (pss_one (ps_dput (hu_of hr) (pv 3) (pv 5) (pv 6) rfl)))))))
      (pss_cons (ps_fld (pv 0) (pe_callTy call_tuple_of (by rfl) T.b_tuple (by decide +kernel) (pa_cons (pv 2) pa_nil)) rfl)
      (pss_cons (ps_fld (pv 0) (pe_callTy call_tuple_of (by rfl) T.b_tuple (by decide +kernel) (pa_cons (pe_lc (own := [("name", 5), ("period", 6)]) (g := gTup K 2 (gCons (gName 5) (gCons (gName 6) gNil))) rfl sc_Turns___init__.nd (pi_listK K (pv 2)) (blkOk_by (own := [("name", 5), ("period", 6)]) (N := ["self", "pairs", "told", "periods", "ranks", "name", "period"]) (sc := defScope s_Turns___init__) (by decide +kernel)) (fun _ _ _ _ _ => (pg_tup rfl (pgs_cons (pg_name (i := 5) sc_Turns___init__.nd rfl (Or.inl rfl)) (pgs_cons (pg_name (i := 6) sc_Turns___init__.nd rfl (Or.inl rfl)) pgs_nil)))) (fun _ _ _ _ _ => pts_nil) (fun _ _ _ _ _ => (pv 5))) pa_nil)) rfl)
      (pss_cons (ps_fld (pv 0) (pv 3) rfl)
      (pss_one (ps_fld (pv 0) (pv 4) rfl)))))))))), ?_⟩
    walk_at "g"
    obtain ⟨ts, hp, pp⟩ := hP
    have hlen := pp.len
    have hn8 := hk.n8
    have hn0 := hk.n0
    refine ⟨⟨_, SqL.of hp⟩, fun D nD => ?_⟩
    refine lc_sp (fun _ => true) (fun y c H => ∃ t, y = .ref t ∧ SrT H t c) ?_ nD (SqL.of hp) pp (by omega) (fun _ _ => rfl) (fun c _ H Q _ q => q H (Same.refl H)) ?_ ?_
    · rintro y c H H' acc hD kp ⟨t, rfl, ht⟩
      exact ⟨t, rfl, kp _ _ ht (ht.ne hD (fun _ => by intro z; cases z))⟩
    · intro c hcm _ H2 Q2 s2 q
      walk_at "g"
      refine ⟨by show 2 ≤ sizeLine; decide, fun t nt => ?_⟩
      exact q _ _ (same_upd nt) ⟨t, rfl, upd_same⟩
    · intro ys H2 s2 hD2 py
      rw [filter_all] at py
      obtain ⟨as, rfl⟩ := py.ref (f := V.ref) (fun v b ⟨t, e, _⟩ => ⟨t, e⟩)
      have pa : P2 (SrT H2) as ks := (P2.map_l.mp py).mono fun t c ⟨t', e, r⟩ => by cases e; exact r
      have la := pa.len
      clear py hp pp ts hlen nD
      walk_at "g"
      refine ⟨_, _, rfl, .inl ⟨_, SqL.of hD2, rfl⟩, ?_⟩
      walk_at "g"
      refine iteB (fun c1 => ?_) (fun c1 => ?_)
      · exfalso
        have := of_dI c1
        rw [List.length_map, la] at this
        omega
      walk_at "g"
      refine ⟨_, _, rfl, .inl ⟨_, SqL.of hD2, rfl⟩, ?_⟩
      walk_at "g"
      refine iteB (fun c2 => ?_) (fun c2 => ?_)
      · exfalso
        rw [List.length_map, la] at c2
        simp at c2
        omega
      clear c1 c2
      walk_at "g"
      refine fun d3 nd3 => ?_
      walk_at "g"
      refine fun d4 nd4 => ?_
      walk_at "g"
      obtain ⟨H4, e4⟩ : ∃ H4, H4 = upd (upd H2 d3 (.dK [])) d4 (.dK []) := ⟨_, rfl⟩
      have n34 : d3 ≠ d4 := fun e => by
        rw [e, upd_same] at nd4
        cases nd4
      have hd3 : H4 d3 = some (.dK []) := by rw [e4]; exact (same_upd nd4) _ _ upd_same
      have hd4 : H4 d4 = some (.dK []) := by rw [e4]; exact upd_same
      have s24 : Same H2 H4 := by rw [e4]; exact (same_upd nd3).trans (same_upd nd4)
      rw [← e4]
      have n4 : H2 d4 = none := by
        cases e : H2 d4 with
        | none => rfl
        | some o => rw [(same_upd nd3) _ _ e] at nd4; cases nd4
      clear e4 nd4
      refine ⟨⟨_, SqL.of (s24 _ _ hD2)⟩, ?_⟩
      refine for_sp (ts := as) (cs := ks) (fun i σ H' => ∃ (a5 a6 : Option V), σ = [some (.ref x), some (.ref p), some (.ref D), some (.ref d3), some (.ref d4), a5, a6] ∧ Same H2 H' ∧ H' d3 = some (.dK (kdic (ks.take i))) ∧ H' d4 = some (.dK (rdic 0 (ks.take i)))) ⟨_, _, rfl, s24, hd3, hd4⟩ ?_ ?_ ?_
      · rintro i σ H' _ ⟨a5, a6, rfl, s', _⟩
        exact ⟨SqL.of (s' _ _ hD2), pa.sameS s'⟩
      · rintro i c σ H5 hc ⟨a5, a6, rfl, s5, h3, h4⟩
        obtain ⟨nm, pr⟩ := hk.ok c (mem_of_at hc)
        have new : ∀ d ∈ ks.take i, d.1 ≠ c.1 := by
          intro d hd e
          have nd := hk.nd
          unfold Nds at nd
          obtain ⟨j, hj, ej⟩ := List.getElem_of_mem hd
          have hi : i < ks.length := (List.getElem?_eq_some_iff.mp hc).1
          rw [List.length_take] at hj
          have e1 : (ks.map (·.1))[j]? = some c.1 := by
            rw [List.getElem?_map, List.getElem?_eq_getElem (by omega)]
            rw [List.getElem_take] at ej
            rw [ej, ← e]
            rfl
          have e2 : (ks.map (·.1))[i]? = some c.1 := by rw [List.getElem?_map, hc]; rfl
          have := (List.getElem?_inj (by rw [List.length_map]; omega) nd).mp (e1.trans e2.symm)
          omega
        walk_at "g"
        refine .inl ⟨_, rfl, Nat.le_trans nm.len (by decide), fun H6 s6 => ?_⟩
        rw [nameB_of nm]
        walk_at "g"
        have dg : DGet H6 d3 (.str c.1) none := by
          have := DGet.k (k := (.inr c.1 : Key)) (s6 _ _ h3)
          rw [valV_kdic, lookS_none new] at this
          exact this
        refine ⟨d3, _, rfl, dg, ?_⟩
        walk_at "g"
        refine ⟨_, _, rfl, isW_int _, ?_⟩
        walk_at "g"
        refine iteB (fun c1 => ?_) (fun c1 => ?_)
        · exfalso
          rw [decide_eq_true_eq] at c1
          omega
        walk_at "g"
        refine iteB (fun c2 => ?_) (fun c2 => ?_)
        · exfalso
          have := of_dI c2
          omega
        clear c1 c2
        have hi : i < ks.length := (List.getElem?_eq_some_iff.mp hc).1
        have lt : (ks.take i).length = i := by rw [List.length_take]; omega
        walk_at "g"
        refine ⟨d4, _, rfl, s6 _ _ h4, ?_⟩
        walk_at "g"
        refine ⟨d4, _, rfl, DPut.k (k := (.inr c.1 : Key)) (s6 _ _ h4) (by rw [rdic_len, lt]; exact Nat.lt_of_lt_of_le hi (Nat.le_trans hn8 (by decide))), ?_⟩
        rw [rdic_len, rdic_put new, ← take_snoc hc]
        obtain ⟨H7, e7⟩ : ∃ H7, H7 = upd H6 d4 (.dK (rdic 0 (ks.take (i + 1)))) := ⟨_, rfl⟩
        have s27 : Same H2 H7 := by rw [e7]; exact (s5.trans s6).wr n4
        have h47 : H7 d4 = some (.dK (rdic 0 (ks.take (i + 1)))) := by rw [e7]; exact upd_same
        have h37 : H7 d3 = some (.dK (kdic (ks.take i))) := by rw [e7, upd_ne n34]; exact s6 _ _ h3
        walk_at "g"
        refine ⟨d3, _, rfl, DPut.k (k := (.inr c.1 : Key)) (by rw [← e7]; exact h37) (by unfold kdic; rw [List.length_map, lt]; exact Nat.lt_of_lt_of_le hi (Nat.le_trans hn8 (by decide))), ?_⟩
        rw [← e7, kdic_put new, ← take_snoc hc]
        refine ⟨_, _, rfl, s27.wr nd3, upd_same, ?_⟩
        rw [upd_ne n34.symm]
        exact h47
      · rintro σ H5 ⟨a5, a6, rfl, s5, h3, h4⟩
        rw [List.take_length] at h3 h4
        have hx5 := (s2.trans s5) _ _ hx
        walk_at "g"
        refine ⟨D, _, rfl, .inl ⟨SqL.of (s5 _ _ hD2), fun p1 np1 => ?_⟩⟩
        have s6 := same_upd (o := .tup (as.map V.ref)) np1
        obtain ⟨H6, e6⟩ : ∃ H6, H6 = upd H5 p1 (.tup (as.map V.ref)) := ⟨_, rfl⟩
        have hp1 : H6 p1 = some (.tup (as.map V.ref)) := by rw [e6]; exact upd_same
        rw [← e6] at s6 ⊢
        clear e6
        have s26 := s5.trans s6
        walk_at "g"
        refine ⟨x, _, dx, _, rfl, s6 _ _ hx5, T.k_Turns, T.a_Turns__pairs, by show 0 < 1000; decide, ?_⟩
        obtain ⟨H7, e7⟩ : ∃ H7, H7 = upd H6 x (.ins (He.ga K "Turns") dx (putF "pairs" (.ref p1) [])) := ⟨_, rfl⟩
        have kp7 : Kp x H6 H7 := by rw [e7]; exact kp_upd x H6 _
        have hx7 : H7 x = some (.ins (He.ga K "Turns") dx [("pairs", .ref p1)]) := by rw [e7]; exact upd_same
        rw [← e7]
        clear e7
        have hx6 := s6 _ _ hx5
        have nx : ∀ {a : Addr} {o : HO}, H6 a = some o → (∀ C dx fs, o ≠ .ins C dx fs) → a ≠ x := fun h n => ne_of h hx6 (n _ _ _)
        have hD7 := kp7 _ _ (s26 _ _ hD2) (nx (s26 _ _ hD2) (fun _ _ _ => by intro z; cases z))
        have pa6 := pa.sameS s26
        have pa7 : P2 (SrT H7) as ks := pa6.mono fun t c e => kp7 _ _ e (nx e (fun _ _ _ => by intro z; cases z))
        walk_at "g"
        refine ⟨⟨_, SqL.of hD7⟩, fun D2 nD2 => ?_⟩
        refine lc_sp (fun _ => true) (fun y c H => y = .str c.1) (fun _ _ _ _ _ _ _ e => e) nD2 (SqL.of hD7) pa7 (by omega) (fun _ _ => rfl) (fun c _ H Q _ q => q H (Same.refl H)) ?_ ?_
        · intro c hcm _ H8 Q8 s8 q
          walk_at "g"
          exact q _ _ (Same.refl _) rfl
        · intro ys H8 s8 hD8 py
          rw [filter_all] at py
          have ey := py.eq_map
          walk_at "g"
          refine ⟨D2, _, rfl, .inl ⟨SqL.of hD8, fun p2 np2 => ?_⟩⟩
          have s9 := same_upd (o := .tup ys) np2
          obtain ⟨H9, e9⟩ : ∃ H9, H9 = upd H8 p2 (.tup ys) := ⟨_, rfl⟩
          have hp2 : H9 p2 = some (.tup ys) := by rw [e9]; exact upd_same
          rw [← e9] at s9 ⊢
          clear e9
          have s79 := s8.trans s9
          walk_at "g"
          refine ⟨x, _, dx, _, rfl, s79 _ _ hx7, T.k_Turns, T.a_Turns__names, by show 1 < 1000; decide, ?_⟩
          walk_at "g"
          refine ⟨x, _, dx, _, rfl, upd_same, T.k_Turns, T.a_Turns__periods, by show 2 < 1000; decide, ?_⟩
          walk_at "g"
          refine ⟨x, _, dx, _, rfl, upd_same, T.k_Turns, T.a_Turns__ranks, by show 3 < 1000; decide, ?_⟩
          have fin : ∀ {a : Addr} {o : HO}, H9 a = some o → (∀ C dx fs, o ≠ .ins C dx fs) → a ≠ x := fun h n => ne_of h (s79 _ _ hx7) (n _ _ _)
          have k9 : Kp x H H9 := ((s2.trans s26).kp.trans kp7).trans s79.kp
          have kf : ∀ o1 o2 o3, Kp x H9 (upd (upd (upd H9 x o1) x o2) x o3) := fun o1 o2 o3 => ((kp_upd x H9 o1).trans (kp_upd x _ o2)).trans (kp_upd x _ o3)
          have get : ∀ {a : Addr} {o : HO} o1 o2 o3, H9 a = some o → (∀ C dx fs, o ≠ .ins C dx fs) → upd (upd (upd H9 x o1) x o2) x o3 a = some o := fun o1 o2 o3 h n => kf o1 o2 o3 _ _ h (fin h n)
          have hxF : ∀ o1 o2 o3, upd (upd (upd H9 x o1) x o2) x o3 x = some o3 := fun _ _ _ => upd_same
          refine k _ (k9.trans (kf _ _ _)) ⟨dx, p1, p2, d3, d4, hxF _ _ _, ⟨as, get _ _ _ (s79 _ _ (kp7 _ _ hp1 (nx hp1 (fun _ _ _ => by intro z; cases z)))) (fun _ _ _ => by intro z; cases z), (pa7.sameS s79).mono fun t c e => get _ _ _ e (fun _ _ _ => by intro z; cases z)⟩, ?_, ?_, ?_⟩ ?_
          · rw [ey] at hp2
            exact get _ _ _ hp2 (fun _ _ _ => by intro z; cases z)
          · exact get _ _ _ (s79 _ _ (kp7 _ _ (s6 _ _ h3) (nx (s6 _ _ h3) (fun _ _ _ => by intro z; cases z)))) (fun _ _ _ => by intro z; cases z)
          · exact get _ _ _ (s79 _ _ (kp7 _ _ (s6 _ _ h4) (nx (s6 _ _ h4) (fun _ _ _ => by intro z; cases z)))) (fun _ _ _ => by intro z; cases z)
          · intro b o hb C' dx' q1 q2 q3 q4 e
            rw [upd_same] at e
            cases e
            have hb2 := s2 _ _ hb
            exact ⟨(ne_of_none hb2 nd3).symm, (ne_of_none hb2 n4).symm⟩
end
end Tr

namespace Tr
open PySem L2 TL
/-- steps of a reading that are plain -/
local macro_rules | `(tactic| walk_at "x") => `(tactic| (refine' ⟨_, _, _, _, rfl, rfl, ?k1, ?k2, ?_⟩; (case k1 => exact SqT.of (by assumption)); (case k2 => exact rfl)))
local macro_rules | `(tactic| walk_at "g") => `(tactic| repeat (first | (refine ⟨_, rfl, ?_⟩) | (refine ⟨_, _, rfl, rfl, ?_⟩) | (refine ⟨_, _, rfl, ?_⟩) | (refine ⟨rfl, ?_⟩) | walk_at "x"))


/-! ### a list or a tuple walked; what turns tell -/
def iSeq (K : PySem.W.Frag) (te : TE) : TI := fun σ H R => iList K te σ H R ∨ iTup K te σ H R
theorem pi_seqK {X : Cx} (K : PySem.W.Frag) {tg l : Expr} {tl : TE} (hl : PE X l tl) (hk : X.K = K := by rfl) : PI X tg l (iSeq K tl) := by
  subst hk
  exact pi_or (pi_list hl) (pi_tup hl)
/-- a step: a tuple or a list of a text and an int -/
def SrE (K : PySem.W.Frag) (H : Hp) (t : Addr) (c : SI) : Prop := SqE K H t [.str c.1, .int c.2]
theorem SrE.of {K : PySem.W.Frag} {H : Hp} {t : Addr} {c : SI} (h : SrT H t c) : SrE K H t c := .inl (SqT.of h)
theorem SrE.ofs {K : PySem.W.Frag} {H : Hp} {ts : List Addr} {cs : List SI} (h : P2 (SrT H) ts cs) : P2 (SrE K H) ts cs := h.mono fun _ _ e => .of e
theorem SrE.same {K : PySem.W.Frag} {H H' : Hp} (s : Same H H') {t : Addr} {c : SI} (h : SrE K H t c) : SrE K H' t c := h.elim (fun h => .inl (s.seqT h)) (fun h => .inr (s.seq h))
theorem P2.sameE {K : PySem.W.Frag} {H H' : Hp} (s : Same H H') {ts : List Addr} {cs : List SI} (h : P2 (SrE K H) ts cs) : P2 (SrE K H') ts cs := h.mono fun _ _ e => e.same s
/-- (text, int) pairs in a list or a tuple -/
def SQ (K : PySem.W.Frag) (H : Hp) (p : Addr) (ts : List Addr) (cs : List SI) : Prop := (SqL K H p (ts.map V.ref) ∨ SqT K H p (ts.map V.ref)) ∧ P2 (SrE K H) ts cs
theorem SL.sq {K : PySem.W.Frag} {H : Hp} {p : Addr} {cs : List SI} (h : SL H p cs) : ∃ ts, SQ K H p ts cs :=
  let ⟨ts, a, b⟩ := h
  ⟨ts, .inl (SqL.of a), SrE.ofs b⟩
theorem ST.sq {K : PySem.W.Frag} {H : Hp} {p : Addr} {cs : List SI} (h : ST H p cs) : ∃ ts, SQ K H p ts cs :=
  let ⟨ts, a, b⟩ := h
  ⟨ts, .inr (SqT.of a), SrE.ofs b⟩
theorem SQ.nil {K : PySem.W.Frag} {H : Hp} {p : Addr} (h : SqT K H p []) : SQ K H p [] [] := ⟨.inr h, .nil⟩
theorem SQ.same {K : PySem.W.Frag} {H H' : Hp} {p : Addr} {ts : List Addr} {cs : List SI} (s : Same H H') (h : SQ K H p ts cs) : SQ K H' p ts cs :=
  ⟨h.1.elim (fun h => .inl (s.seq h)) (fun h => .inr (s.seqT h)), P2.sameE s h.2⟩
theorem iSeq_of {K : PySem.W.Frag} {te : TE} {σ : L2.St} {H0 H : Hp} {R : It → Hp → Prop} {a : Addr} {ts : List Addr} {cs : List SI} (hte : ∀ Q : V → Hp → Prop, Q (.ref a) H → te σ H Q) (h : SQ K H0 a ts cs) (s01 : Same H0 H)
    (hR : ∀ (J : It) (G : Hp → Prop), (∀ H', Same H0 H' → G H') → Walk J (ts.map V.ref).length G (YAt (ts.map V.ref)) → R J H) : iSeq K te σ H R := by
  rcases h.1 with h | h
  · exact .inl (hte _ ⟨a, rfl, ⟨_, s01.seq h⟩, hR _ _ (fun H' s => s.seq h) walk_list⟩)
  · exact .inr (hte _ ⟨a, rfl, ⟨_, s01.seqT h⟩, hR _ _ (fun H' s => s.seqT h) walk_tup⟩)
theorem for_spW {K : PySem.W.Frag} {J : It} {G : Hp → Prop} {ts : List Addr} {cs : List SI} (w : Walk J (ts.map V.ref).length G (YAt (ts.map V.ref))) {i1 i2 : Nat} {tb : TS} {D : Ends} {σ : L2.St} {H : Hp} (hlen : ts.length = cs.length) (Pv : Nat → L2.St → Hp → Prop) (h0 : Pv 0 σ H)
    (hl : ∀ i σ H, i ≤ cs.length → Pv i σ H → G H ∧ P2 (SrE K H) ts cs)
    (hs : ∀ i c σ H, cs[i]? = some c → Pv i σ H → tb { D with nx := Pv (i + 1), ct := Pv (i + 1), bk := D.nx } ((σ.set i1 (some (.str c.1))).set i2 (some (.int c.2))) H)
    (hd : ∀ σ H, Pv cs.length σ H → D.nx σ H) :
    ∃ W : Nat → Nat → L2.St → Hp → Prop, (∃ m, W 0 m σ H) ∧ ∀ i m σ H, W i m σ H →
      (J.stop i H ∧ D.nx σ H) ∨ (J.go i H ∧ ∃ N : L2.St → Hp → Prop, (∀ σ' H', N σ' H' → ∃ m', m' < m ∧ W (i + 1) m' σ' H') ∧ ∀ x H', J.yld i H x H' → gSeq K 2 (gCons (gName i1) (gCons (gName i2) gNil)) x σ H' fun σ2 H2 => tb { D with nx := N, ct := N, bk := D.nx } σ2 H2) := by
  have e : (ts.map V.ref).length = cs.length := by rw [List.length_map, hlen]
  refine for_it w Pv h0 (fun i σ H hi p => (hl i σ H (by omega) p).1) ?_ (fun σ H p => hd σ H (by rw [← e]; exact p))
  intro i x σ H H' hi p hy
  obtain ⟨rfl, hx⟩ := hy
  rw [List.getElem?_map] at hx
  cases ht : ts[i]? with
  | none => rw [ht] at hx; cases hx
  | some t =>
    rw [ht] at hx
    cases hx
    have hi : i < ts.length := (List.getElem?_eq_some_iff.mp ht).1
    obtain ⟨c, hc, r⟩ := (hl i σ H' (by omega) p).2.getl ht
    exact ⟨t, _, rfl, r, rfl, _, _, rfl, _, _, rfl, rfl, hs i c σ H' hc p⟩
/-- [e for x in xs], xs the objects us, which tell cs -/
theorem lc_ref {α : Type} {J : It} {G : Hp → Prop} {R0 : Addr → α → Prop} {us : List Addr} {cs : List α} {i1 : Nat} {te : TE} {vs : List Nat} {σ : L2.St} {H1 : Hp} {D : Addr} {Qd : Hp → Prop} (w : Walk J (us.map V.ref).length G (YAt (us.map V.ref))) (hP : P2 R0 us cs) (R : V → α → Hp → Prop)
    (hR : ∀ y c H H' acc, H D = some (.lst acc) → Kp D H H' → R y c H → R y c H') (hD : H1 D = none) (hsz : cs.length ≤ 100000)
    (hG : ∀ H, Same H1 H → G H) (hw : ∀ x, wipe ((wipe σ vs).set i1 x) vs = wipe σ vs)
    (he : ∀ u c, c ∈ cs → R0 u c → ∀ H Q, Same H1 H → (∀ y H', Same H H' → R y c H' → Q y H') → te ((wipe σ vs).set i1 (some (.ref u))) H Q)
    (hd : ∀ ys H, Same H1 H → H D = some (.lst ys) → P2 (fun y c => R y c H) ys cs → Qd H) : LcG J (gName i1) tYes te vs σ H1 D Qd := by
  have hlen := hP.len
  refine lc_it w (fun i H => Same H1 H ∧ ∃ ys, H D = some (.lst ys) ∧ P2 (fun y c => R y c H) ys (cs.take i)) ⟨same_upd hD, [], upd_same, .nil⟩ (fun i H _ ⟨s, _⟩ => hG H s) ?_ ?_
  · rintro i x H H0 hi ⟨s, ys, hy, py⟩ ⟨rfl, hx⟩
    rw [List.getElem?_map] at hx
    cases ht : us[i]? with
    | none => rw [ht] at hx; cases hx
    | some u =>
      rw [ht] at hx
      cases hx
      obtain ⟨c, hc, r⟩ := hP.getl ht
      have ll : ys.length ≤ 100000 := by
        have h1 := py.len
        rw [List.length_take] at h1
        omega
      refine ⟨hw _, ?_⟩
      show te _ _ _
      refine he u c (mem_of_at hc) r H0 _ s fun y H' s' ry => ⟨ys, s' _ _ hy, small_app (Nat.le_refl _) ll, (s.trans s').wr hD, ys ++ [y], upd_same, ?_⟩
      rw [take_snoc hc]
      exact (py.mono fun v b rb => hR v b H' _ _ (s' _ _ hy) (kp_upd D H' _) (hR v b H0 H' _ hy s'.kp rb)).snoc (hR y c H' _ _ (s' _ _ hy) (kp_upd D H' _) ry)
  · rintro H ⟨s, ys, hy, py⟩
    rw [List.length_map, hlen, List.take_length] at py
    exact hd ys H s hy py
theorem canl_si : ∀ cs : List SI, (∀ c ∈ cs, PyData.strOk c.1 = true) → SeqAt.shaped (.tuple (cs.map siD)) = true := fun cs ok => by
  unfold SeqAt.shaped
  rw [Bool.and_eq_true, decide_eq_true_eq]
  refine ⟨lay_si cs ok, ?_⟩
  have h := depth_si cs
  show PyData.depthAll (cs.map siD) + 1 ≤ 64
  omega
theorem dpa_si {K : PySem.W.Frag} {H : Hp} {ts : List Addr} {cs : List SI} (h : P2 (SrT H) ts cs) : DpAll K H (ts.map V.ref) (cs.map siD) := by
  induction h with
  | nil => exact .nil
  | cons r _ ih => exact .cons (.tup (SqT.of r) (.cons (.str _) (.cons (.int _) .nil))) ih
theorem dp_st {K : PySem.W.Frag} {H : Hp} {l : Addr} {cs : List SI} (h : ST H l cs) : Dp K H (.ref l) (.tuple (cs.map siD)) :=
  let ⟨_, a, b⟩ := h
  .tup (SqT.of a) (dpa_si b)
section
variable {P : Program} {w : World} {K : PySem.W.Frag} {mg : Str → Option Value} {base : Heap}
def hasS (ks : List SI) (z : Str) : Bool := (lookS ks z).isSome
theorem hasS_of {ks : List SI} {z : Str} (h : ∃ k ∈ ks, k.1 = z) : hasS ks z = true := by
  obtain ⟨c, _, _, e⟩ := lookS_mem h
  unfold hasS
  rw [e]
  rfl
def spTin (K : PySem.W.Frag) (C : Addr) : Sp := fun vs H Q _ => ∃ (a : Addr) (x : V) (ks : List SI), vs = [.ref a, x] ∧ TuAt C H a ks ∧ ((∃ z, x = .str z ∧ Q (.bl (hasS ks z)) H) ∨ (∃ t, TyX K H x t ∧ PySem.W.kitOne K t (.type "str") = some false ∧ Q (.bl false) H))
theorem c_tin (T : Txt K mg) : Met P w K mg base 1 (He.ga K "Turns") "__contains__" (spTin K (He.ga K "Turns")) [] := by
  refine metN T.m_Turns____contains__ sc_Turns___contains__ (fun vs H Q E h => ?_) (fun _ _ _ _ _ _ us hl => match us, hl with | [_, _], _ => rfl) (fun f cdv A outer s H vs Q E hr h => ?_)
  · obtain ⟨a, x, ks, rfl, _⟩ := h
    rfl
  · obtain ⟨a, x, ks, rfl, hT, h⟩ := h
    obtain ⟨dx, p1, p2, p3, p4, ha, e1, e2, e3, e4⟩ := hT.ex
    refine ⟨_, (pss_one (ps_ret (pe_and (pe_callB call_isi (by rfl) T.b_isinstance (by decide +kernel) (pa_cons (pv 1) (pa_cons (pe_bltn (v := .ty "str") rfl T.b_str (by decide +kernel) rfl) pa_nil))) (pe_one (pe_cmp (pc_din (hu_of hr) (pv 1) (pe_fldK K (pv 0) (by rfl))) rfl))))), ?_⟩
    rcases h with ⟨z, rfl, k⟩ | ⟨t, ty, kt, k⟩
    · refine ⟨.str z, rfl, .str z, .ty "str", .type "str", _, true, rfl, .ty "str", .base (.str z), kit_ty (by decide +kernel), true, rfl, ?_⟩
      refine iteT ?_
      walk_at "g"
      refine ⟨a, _, dx, _, _, rfl, ha, T.k_Turns, T.a_Turns__periods, rfl, ?_⟩
      refine ⟨p3, _, rfl, DGet.k (k := (.inr z : Key)) e3, ?_⟩
      rw [valV_kdic, Option.isSome_map]
      exact k
    · refine ⟨x, rfl, x, .ty "str", t, _, false, rfl, .ty "str", ty, kt, false, rfl, ?_⟩
      refine iteF ?_
      exact k
def spPer (C : Addr) : Sp := fun vs H Q _ => ∃ (a : Addr) (z : Str) (ks : List SI), vs = [.ref a, .str z] ∧ TuAt C H a ks ∧ (∃ k ∈ ks, k.1 = z) ∧ Q (.int (perOf ks z)) H
theorem c_period_of (T : Txt K mg) : Met P w K mg base 2 (He.ga K "Turns") "period_of" (spPer (He.ga K "Turns")) [] := by
  have c_tin := @c_tin P w K mg base T
  refine metN T.m_Turns__period_of sc_Turns_period_of (fun vs H Q E h => ?_) (fun _ _ _ _ _ _ us hl => match us, hl with | [_, _], _ => rfl) (fun f cdv A outer s H vs Q E hr h => ?_)
  · obtain ⟨a, x, ks, rfl, _⟩ := h
    rfl
  · obtain ⟨a, z, ks, rfl, hT, hz, k⟩ := h
    obtain ⟨dx, p1, p2, p3, p4, ha, e1, e2, e3, e4⟩ := hT.ex
    refine ⟨_, (pss_cons (ps_if (pt_cmpR (or_notInO c_tin hr (by first | decide | omega) passL) (pv 1) (pv 0) (by rfl)) (pss_one ps_never) pss_nil)
      (pss_one (ps_ret (pe_dget (hu_of hr) (pe_fldK K (pv 0) (by rfl)) (pv 1) (fun _ _ => rfl))))), ?_⟩
    walk_at "g"
    refine ⟨a, dx, _, rfl, ha, a, _, ks, rfl, hT, .inl ⟨z, rfl, ?_⟩⟩
    rw [hasS_of hz]
    walk_at "g"
    refine ⟨a, _, dx, _, _, rfl, ha, T.k_Turns, T.a_Turns__periods, rfl, ?_⟩
    walk_at "g"
    obtain ⟨c, _, _, lk⟩ := lookS_mem hz
    have dg : DGet H p3 (.str z) (some (.int (perOf ks z))) := by
      have := DGet.k (k := (.inr z : Key)) e3
      rw [valV_kdic, lk] at this
      unfold perOf
      rw [lk]
      exact this
    exact ⟨p3, _, rfl, dg, k⟩
def spRank (C : Addr) : Sp := fun vs H Q _ => ∃ (a : Addr) (z : Str) (ks : List SI), vs = [.ref a, .str z] ∧ TuAt C H a ks ∧ (∃ k ∈ ks, k.1 = z) ∧ Q (.int (rankS ks z : Nat)) H
theorem c_rank (T : Txt K mg) : Met P w K mg base 2 (He.ga K "Turns") "rank" (spRank (He.ga K "Turns")) [] := by
  have c_tin := @c_tin P w K mg base T
  refine metN T.m_Turns__rank sc_Turns_rank (fun vs H Q E h => ?_) (fun _ _ _ _ _ _ us hl => match us, hl with | [_, _], _ => rfl) (fun f cdv A outer s H vs Q E hr h => ?_)
  · obtain ⟨a, x, ks, rfl, _⟩ := h
    rfl
  · obtain ⟨a, z, ks, rfl, hT, hz, k⟩ := h
    obtain ⟨dx, p1, p2, p3, p4, ha, e1, e2, e3, e4⟩ := hT.ex
    refine ⟨_, (pss_cons (ps_if (pt_cmpR (or_notInO c_tin hr (by first | decide | omega) passL) (pv 1) (pv 0) (by rfl)) (pss_one ps_never) pss_nil)
      (pss_one (ps_ret (pe_dget (hu_of hr) (pe_fldK K (pv 0) (by rfl)) (pv 1) (fun _ _ => rfl))))), ?_⟩
    walk_at "g"
    refine ⟨a, dx, _, rfl, ha, a, _, ks, rfl, hT, .inl ⟨z, rfl, ?_⟩⟩
    rw [hasS_of hz]
    walk_at "g"
    refine ⟨a, _, dx, _, _, rfl, ha, T.k_Turns, T.a_Turns__ranks, rfl, ?_⟩
    walk_at "g"
    have dg : DGet H p4 (.str z) (some (.int (rankS ks z : Nat))) := by
      have := DGet.k (k := (.inr z : Key)) e4
      rw [valV_rdic z 0 ks hz, Nat.zero_add] at this
      exact this
    exact ⟨p4, _, rfl, dg, k⟩
theorem eqv_si1 (c d : SI) : PyData.eqv (siD c) (siD d) = decide (c = d) := by
  obtain ⟨z, e⟩ := c
  obtain ⟨y, f⟩ := d
  show ((z == y) && ((e == f) && true)) = _
  rw [Bool.and_true, Bool.eq_iff_iff, Bool.and_eq_true, decide_eq_true_eq, beq_iff_eq, beq_iff_eq, Prod.mk.injEq]
theorem eqv_siA : ∀ a b : List SI, PyData.eqvAll (a.map siD) (b.map siD) = decide (a = b)
  | [], [] => rfl
  | [], _ :: _ => rfl
  | _ :: _, [] => rfl
  | c :: cs, d :: ds => by
    show (PyData.eqv (siD c) (siD d) && PyData.eqvAll (cs.map siD) (ds.map siD)) = _
    rw [eqv_si1, eqv_siA cs ds, Bool.eq_iff_iff, Bool.and_eq_true, decide_eq_true_eq, decide_eq_true_eq, decide_eq_true_eq, List.cons.injEq]
theorem eqv_siT (a b : List SI) : PyData.eqv (.tuple (a.map siD)) (.tuple (b.map siD)) = decide (a = b) := eqv_siA a b
theorem eqv_siL (a b : List SI) : PyData.eqv (.list (a.map siD)) (.list (b.map siD)) = decide (a = b) := eqv_siA a b
def spTeq (C : Addr) : Sp := fun vs H Q _ => ∃ (a b : Addr) (ks ls : List SI), vs = [.ref a, .ref b] ∧ TuAt C H a ks ∧ TuAt C H b ls ∧ KsOk ks ∧ KsOk ls ∧ Q (.bl (decide (ks = ls))) H
theorem c_teq (T : Txt K mg) : Met P w K mg base 1 (He.ga K "Turns") "__eq__" (spTeq (He.ga K "Turns")) [] := by
  refine metN T.m_Turns____eq__ sc_Turns___eq__ (fun vs H Q E h => ?_) (fun _ _ _ _ _ _ us hl => match us, hl with | [_, _], _ => rfl) (fun f cdv A outer s H vs Q E hr h => ?_)
  · obtain ⟨a, b, ks, ls, rfl, _⟩ := h
    rfl
  · obtain ⟨a, b, ks, ls, rfl, hA, hB, ok1, ok2, k⟩ := h
    obtain ⟨dx, p1, p2, p3, p4, ha, e1, e2, e3, e4⟩ := hA.ex
    obtain ⟨dy, q1, q2, q3, q4, hb, f1, f2, f3, f4⟩ := hB.ex
    refine ⟨_, (pss_one (ps_ret (pe_and (pe_callB call_isi (by rfl) T.b_isinstance (by decide +kernel) (pa_cons (pv 1) (pa_cons (pe_glob (v := .ref (He.ga K "Turns")) (by rfl) T.v_Turns rfl) pa_nil))) (pe_one (pe_cmpR (op_eqD (units_of hr)) (pe_fldK K (pv 0) (by rfl)) (pe_fldK K (pv 1) (by rfl)) (nomark _)))))), ?_⟩
    refine ⟨.ref b, rfl, .ref b, .ref (He.ga K "Turns"), .ref (He.ga K "Turns"), _, true, rfl, .own _, T.o_Turns.ty T.k_Turns hb, kit_self, true, rfl, ?_⟩
    refine iteT ?_
    walk_at "g"
    refine ⟨a, _, dx, _, _, rfl, ha, T.k_Turns, T.a_Turns__pairs, rfl, ?_⟩
    walk_at "g"
    refine ⟨b, _, dy, _, _, rfl, hb, T.k_Turns, T.a_Turns__pairs, rfl, ?_⟩
    refine ⟨_, _, dp_st e1, dp_st f1, canl_si ks (fun c hc => (ok1.ok c hc).1.strOk), canl_si ls (fun c hc => (ok2.ok c hc).1.strOk), ?_⟩
    rw [eqv_siT]
    exact k
def spRed (C : Addr) : Sp := fun vs H Q _ => ∃ (a : Addr) (z : Str) (e : Int) (ks : List SI), vs = [.ref a, .str z, .int e] ∧ TuAt C H a ks ∧ (∃ k ∈ ks, k.1 = z) ∧ Q (.int (modN (perOf ks) z e)) H
theorem c_reduced (T : Txt K mg) : Cal P w K mg base 3 "reduced" (spRed (He.ga K "Turns")) [] := by
  have c_period_of := @c_period_of P w K mg base T
  refine calN T.d_reduced sc_reduced (fun vs H Q E h => ?_) (fun _ _ _ _ _ _ us hl => match us, hl with | [_, _, _], _ => rfl) (fun f cdv A outer s H vs Q E hr h => ?_)
  · obtain ⟨a, x, e, ks, rfl, _⟩ := h
    rfl
  · obtain ⟨a, z, e, ks, rfl, hT, hz, k⟩ := h
    obtain ⟨dx, p1, p2, p3, p4, ha, e1, e2, e3, e4⟩ := hT.ex
    refine ⟨_, (pss_cons (ps_set (i := 3) sc_reduced.nd rfl (Or.inl rfl) (pe_mtx c_period_of hr (by first | decide | omega) passL (pv 0) (pa_cons (pv 1) pa_nil)))
      (pss_one (ps_ret (pe_ifExp (pt_cmpR op_gt (pv 3) pe_int (nomark _)) (pe_op op_mod (pv 2) (pv 3)) (pv 2))))), ?_⟩
    walk_at "g"
    refine ⟨a, dx, _, rfl, ha, rfl, ?_⟩
    walk_at "g"
    refine ⟨a, z, ks, rfl, hT, hz, ?_⟩
    walk_at "g"
    refine iteB (fun c1 => ?_) (fun c1 => ?_)
    · have p0 : 0 < perOf ks z := of_decide_eq_true c1
      walk_at "g"
      refine ⟨p0, ?_⟩
      unfold modN at k
      rw [if_pos p0] at k
      exact k
    · have p0 : ¬ 0 < perOf ks z := of_decide_eq_false c1
      walk_at "g"
      unfold modN at k
      rw [if_neg p0] at k
      exact k
end
end Tr

namespace Tr
open PySem L2 TL
/-- steps of a reading that are plain -/
local macro_rules | `(tactic| walk_at "x") => `(tactic| (refine' ⟨_, _, _, _, rfl, rfl, ?k1, ?k2, ?_⟩; (case k1 => exact SqT.of (by assumption)); (case k2 => exact rfl)))
local macro_rules | `(tactic| walk_at "g") => `(tactic| repeat (first | (refine ⟨_, rfl, ?_⟩) | (refine ⟨_, _, rfl, rfl, ?_⟩) | (refine ⟨_, _, rfl, ?_⟩) | (refine ⟨rfl, ?_⟩) | walk_at "x"))


/-! ### a step's key; normal steps -/
def clkN (per : Str → Int) (z : Str) (e : Int) : Int := if 0 < per z then (if per z - e < e then per z - e else e) else (if e < 0 then -e else e)
def flgN (per : Str → Int) (z : Str) (e : Int) : Int := if 0 < per z then (if e = clkN per z e then 0 else 1) else (if e < 0 then 1 else 0)
def KyT (ks : List SI) (H : Hp) (y : Addr) (c : SI) : Prop := H y = some (.tup [.int (rankS ks c.1 : Nat), .int (clkN (perOf ks) c.1 c.2), .int (flgN (perOf ks) c.1 c.2)])
section
variable {P : Program} {w : World} {K : PySem.W.Frag} {mg : Str → Option Value} {base : Heap}
def spKey (C : Addr) : Sp := fun vs H Q _ => ∃ (a u : Addr) (c : SI) (ks : List SI), vs = [.ref a, .ref u] ∧ TuAt C H a ks ∧ SrT H u c ∧ (∃ k ∈ ks, k.1 = c.1) ∧ ∀ y H', Same H H' → H y = none → KyT ks H' y c → Q (.ref y) H'
theorem c_step_key (T : Txt K mg) : Cal P w K mg base 3 "step_key" (spKey (He.ga K "Turns")) [] := by
  have c_period_of := @c_period_of P w K mg base T
  have c_rank := @c_rank P w K mg base T
  refine calN T.d_step_key sc_step_key (fun vs H Q E h => ?_) (fun _ _ _ _ _ _ us hl => match us, hl with | [_, _], _ => rfl) (fun f cdv A outer s H vs Q E hr h => ?_)
  · obtain ⟨a, u, c, ks, rfl, _⟩ := h
    rfl
  · obtain ⟨a, u, c, ks, rfl, hT, hu, hz, k⟩ := h
    obtain ⟨dx, p1, p2, p3, p4, ha, _⟩ := hT.ex
    refine ⟨_, (pss_cons (ps_asg (pv 1) (pg_tup rfl (pgs_cons (pg_name (i := 2) sc_step_key.nd rfl (Or.inl rfl)) (pgs_cons (pg_name (i := 3) sc_step_key.nd rfl (Or.inl rfl)) pgs_nil))))
      (pss_cons (ps_set (i := 4) sc_step_key.nd rfl (Or.inl rfl) (pe_mtx c_period_of hr (by first | decide | omega) passL (pv 0) (pa_cons (pv 2) pa_nil)))
      (pss_cons (ps_if (pt_cmpR op_gt (pv 4) pe_int (nomark _)) (pss_cons (ps_set (i := 5) sc_step_key.nd rfl (Or.inl rfl) (pe_callB (call_min2 rfl) (by rfl) T.b_min (by decide +kernel) (pa_cons (pe_callTy call_int1 (by rfl) T.b_int (by decide +kernel) (pa_cons (pv 3) pa_nil)) (pa_cons (pe_op op_sub (pv 4) (pv 3)) pa_nil))))
      (pss_one (ps_ret (pe_tup (pa_cons (pe_mtx c_rank hr (by first | decide | omega) passL (pv 0) (pa_cons (pv 2) pa_nil)) (pa_cons (pv 5) (pa_cons (pe_callTy call_int1 (by rfl) T.b_int (by decide +kernel) (pa_cons (pe_cmpR op_ne (pv 3) (pv 5) (nomark _)) pa_nil)) pa_nil))))))) pss_nil)
      (pss_one (ps_ret (pe_tup (pa_cons (pe_mtx c_rank hr (by first | decide | omega) passL (pv 0) (pa_cons (pv 2) pa_nil)) (pa_cons (pe_callB call_abs (by rfl) T.b_abs (by decide +kernel) (pa_cons (pv 3) pa_nil)) (pa_cons (pe_callTy call_int1 (by rfl) T.b_int (by decide +kernel) (pa_cons (pe_cmpR op_lt (pv 3) pe_int (nomark _)) pa_nil)) pa_nil))))))))), ?_⟩
    refine ⟨_, rfl, u, _, rfl, SqT.of hu, rfl, _, _, rfl, _, _, rfl, rfl, ?_⟩
    walk_at "g"
    refine ⟨a, dx, _, rfl, ha, rfl, ?_⟩
    walk_at "g"
    refine ⟨a, c.1, ks, rfl, hT, hz, ?_⟩
    walk_at "g"
    refine iteB (fun c1 => ?_) (fun c1 => ?_)
    · have p0 : 0 < perOf ks c.1 := of_decide_eq_true c1
      have e1 : clkN (perOf ks) c.1 c.2 = if perOf ks c.1 - c.2 < c.2 then perOf ks c.1 - c.2 else c.2 := by unfold clkN; rw [if_pos p0]
      have e2 : flgN (perOf ks) c.1 c.2 = if c.2 = clkN (perOf ks) c.1 c.2 then 0 else 1 := by unfold flgN; rw [if_pos p0]
      walk_at "g"
      refine .inl ⟨_, rfl, ?_⟩
      walk_at "g"
      refine ⟨a, dx, _, rfl, ha, rfl, ?_⟩
      walk_at "g"
      refine ⟨a, c.1, ks, rfl, hT, hz, ?_⟩
      rw [← e1]
      walk_at "g"
      refine .inr ⟨_, rfl, ?_⟩
      walk_at "g"
      refine ⟨by show 3 ≤ sizeLine; decide, fun y ny => ?_⟩
      refine k y _ (same_upd ny) ny ?_
      unfold KyT
      rw [upd_same, e2, dI]
      by_cases e : c.2 = clkN (perOf ks) c.1 c.2
      · rw [if_pos e, decide_eq_true e]
        rfl
      · rw [if_neg e, decide_eq_false e]
        rfl
    · have p0 : ¬ 0 < perOf ks c.1 := of_decide_eq_false c1
      have e1 : clkN (perOf ks) c.1 c.2 = if c.2 < 0 then -c.2 else c.2 := by unfold clkN; rw [if_neg p0]
      have e2 : flgN (perOf ks) c.1 c.2 = if c.2 < 0 then 1 else 0 := by unfold flgN; rw [if_neg p0]
      walk_at "g"
      refine ⟨a, dx, _, rfl, ha, rfl, ?_⟩
      walk_at "g"
      refine ⟨a, c.1, ks, rfl, hT, hz, ?_⟩
      walk_at "g"
      rw [← e1]
      refine .inr ⟨_, rfl, ?_⟩
      walk_at "g"
      refine ⟨by show 3 ≤ sizeLine; decide, fun y ny => ?_⟩
      refine k y _ (same_upd ny) ny ?_
      unfold KyT
      rw [upd_same, e2]
      by_cases e : c.2 < 0
      · rw [if_pos e, decide_eq_true e]
        rfl
      · rw [if_neg e, decide_eq_false e]
        rfl
def spNSteps (K : PySem.W.Frag) (C : Addr) : Sp := fun vs H Q _ => ∃ (a p : Addr) (ks ss : List SI) (ts : List Addr), vs = [.ref a, .ref p] ∧ TuAt C H a ks ∧ SQ K H p ts ss ∧ ss.length ≤ 10000 ∧ (∀ c ∈ ss, ∃ k ∈ ks, k.1 = c.1) ∧
  ∀ (l : Addr) H', Same H H' → H l = none → SL H' l (normL (perOf ks) ss) → Q (.ref l) H'
theorem c_normal_steps (T : Txt K mg) : Cal P w K mg base 4 "normal_steps" (spNSteps K (He.ga K "Turns")) [] := by
  have c_reduced := @c_reduced P w K mg base T
  refine calN T.d_normal_steps sc_normal_steps (fun vs H Q E h => ?_) (fun _ _ _ _ _ _ us hl => match us, hl with | [_, _], _ => rfl) (fun f cdv A outer s H vs Q E hr h => ?_)
  · obtain ⟨a, p, ks, ss, ts, rfl, _⟩ := h
    rfl
  · obtain ⟨a, p, ks, ss, ts, rfl, hT, hS, s100, hs, k⟩ := h
    refine ⟨_, (pss_cons (ps_set (i := 2) sc_normal_steps.nd rfl (Or.inl rfl) (pe_lst pa_nil))
      (pss_cons (ps_for PassesOwn.never rfl (pi_seqK K (pv 1)) (pg_seq rfl (pgs_cons (pg_name (i := 3) sc_normal_steps.nd rfl (Or.inl rfl)) (pgs_cons (pg_name (i := 4) sc_normal_steps.nd rfl (Or.inl rfl)) pgs_nil))) (C8.pss_cut (ps_if (PW.pt (pw_and (pt_truth (pv 2) (by intro _; rfl)) (pw_and1 (pt_cmpR op_eq (pe_ix ix_tup (pe_ix ix_list (pv 2) (pe_un un_neg pe_int) (fun _ _ => rfl)) pe_int (fun _ _ => rfl)) (pv 3) (nomark _))))) (pss_one (ps_set (i := 4) sc_normal_steps.nd rfl (Or.inl rfl) (pe_op op_add (pv 4) (pe_ix ix_tup (pe_bm0 PySem.F.plainAttrs_list PySem.F.slot_list_pop PySem.F.type_list_pop mt_pop (pv 2)) pe_int (fun _ _ => rfl))))) pss_nil)
      (pss_cons (ps_set (i := 4) sc_normal_steps.nd rfl (Or.inl rfl) (pe_cx c_reduced hr (by first | decide | omega) rfl passL (pa_cons (pv 0) (pa_cons (pv 3) (pa_cons (pv 4) pa_nil)))))
      (pss_one (ps_if (pt_cmpR op_ne (pv 4) pe_int (nomark _)) (pss_one (ps_expr (pe_bm PySem.F.plainAttrs_list PySem.F.slot_list_append PySem.F.type_list_append mt_append (pv 2) (pa_cons (pe_tup (pa_cons (pv 3) (pa_cons (pv 4) pa_nil))) pa_nil)))) pss_nil)))))
      (pss_one (ps_ret (pv 2))))), ?_⟩
    have hlen := hS.2.len
    walk_at "g"
    refine ⟨by show 0 ≤ sizeLine; decide, fun D nD => ?_⟩
    have s1 : Same H (upd H D (.lst [])) := same_upd nD
    walk_at "g"
    refine iSeq_of (fun Q q => ⟨_, rfl, q⟩) hS s1 fun J G hG wJ => ?_
    refine for_spW wJ hlen (fun i σ H' => ∃ (a3 a4 : Option V) (vs : List Addr), σ = [some (.ref a), some (.ref p), some (.ref D), a3, a4] ∧ Same H H' ∧ H' D = some (.lst (vs.map V.ref)) ∧ P2 (SrT H') vs (normL (perOf ks) (ss.take i))) ⟨_, _, [], rfl, s1, upd_same, .nil⟩ ?_ ?_ ?_
    · rintro i σ H' _ ⟨a3, a4, vs, rfl, s', _⟩
      exact ⟨hG _ s', P2.sameE s' hS.2⟩
    · rintro i c σ H3 hc ⟨a3, a4, vs, rfl, s3, hD3, pv⟩
      obtain ⟨acc, eacc⟩ : ∃ acc, acc = normL (perOf ks) (ss.take i) := ⟨_, rfl⟩
      have e1 : normL (perOf ks) (ss.take (i + 1)) = stepN (perOf ks) acc c := by rw [take_snoc hc, normL_snoc, eacc]
      have sb := @normL_sub (perOf ks) (ss.take i)
      have al : acc.length ≤ 10000 := by
        have := sb.2
        rw [List.length_take, ← eacc] at this
        omega
      have hcm := hs c (mem_of_at hc)
      rw [← eacc] at pv
      clear sb eacc
      have vl := pv.len
      refine ⟨fun σ' H4 => ∃ (vs' : List Addr), σ' = [some (.ref a), some (.ref p), some (.ref D), some (.str c.1), some (.int (pickN acc c).2)] ∧ Same H H4 ∧ H4 D = some (.lst (vs'.map V.ref)) ∧ P2 (SrT H4) vs' (pickN acc c).1, ?_, ?_⟩
      · walk_at "g"
        refine ⟨_, .inl ⟨_, SqL.of hD3, rfl⟩, ?_⟩
        rcases snocC acc with rfl | ⟨ac, d, rfl⟩
        · have v0 : vs = [] := List.eq_nil_of_length_eq_zero vl
          subst v0
          refine iteF ?_
          exact ⟨[], rfl, s3, hD3, pv⟩
        · rcases snocC vs with rfl | ⟨vr, u, rfl⟩
          · simp at vl
          rw [show (!((vr ++ [u]).map V.ref).isEmpty) = true by simp]
          refine iteT ?_
          obtain ⟨pr, ru⟩ := P2.unsnoc pv
          walk_at "g"
          refine ⟨D, _, (-1 : Int), .ref u, rfl, rfl, SqL.of hD3, by rw [List.map_append]; exact atI_last _ _, ?_⟩
          walk_at "g"
          refine iteB (fun c1 => ?_) (fun c1 => ?_)
          · have e1 : d.1 = c.1 := by simpa using c1
            rw [pickN_eq e1]
            walk_at "g"
            refine ⟨.inl ⟨rfl, _, SqL.of hD3⟩, D, _, .ref u, rfl, rfl, hD3, by rw [List.map_append, List.length_append]; simp, ?_⟩
            rw [List.map_append, show (vr.map V.ref ++ [u].map V.ref).dropLast = vr.map V.ref by simp]
            have nu : u ≠ D := ru.ne hD3 (fun _ => by intro z; cases z)
            have ru5 : SrT (upd H3 D (.lst (vr.map V.ref))) u d := by
              show upd _ _ _ u = _
              rw [upd_ne nu]
              exact ru
            have kp5 : Kp D H3 (upd H3 D (.lst (vr.map V.ref))) := kp_upd D H3 _
            walk_at "g"
            exact ⟨vr, rfl, s3.wr nD, upd_same, pr.kpS kp5 hD3 (fun _ => by intro z; cases z)⟩
          · have e1 : d.1 ≠ c.1 := by simpa using c1
            rw [pickN_ne e1]
            exact ⟨vr ++ [u], rfl, s3, hD3, pv⟩
      · rintro σ' H4 ⟨vs', rfl, s4, hD4, pv4⟩
        have pl := @pickN_sub acc c
        have vl4 := pv4.len
        rw [e1]
        have est : stepN (perOf ks) acc c = putN (pickN acc c).1 c.1 (modN (perOf ks) c.1 (pickN acc c).2) := rfl
        rw [est]
        walk_at "g"
        refine ⟨a, c.1, _, ks, rfl, hT.same s4, hcm, ?_⟩
        generalize modN (perOf ks) c.1 (pickN acc c).2 = e at *
        generalize (pickN acc c).1 = ac at *
        walk_at "g"
        refine iteB (fun c1 => ?_) (fun c1 => ?_)
        · have e0 : e ≠ 0 := by simpa using c1
          rw [show putN ac c.1 e = ac ++ [(c.1, e)] from if_neg e0]
          walk_at "g"
          refine ⟨.inl ⟨rfl, _, SqL.of hD4⟩, ?_⟩
          walk_at "g"
          refine ⟨by show 2 ≤ sizeLine; decide, fun u nu => ?_⟩
          have s5 := same_upd (o := .tup [.str c.1, .int e]) nu
          have hD5 := s5 _ _ hD4
          walk_at "g"
          refine ⟨D, vs'.map V.ref, _, rfl, rfl, hD5, small_app (m := 100000) (by rw [List.length_map]; omega) (Nat.le_refl _), ?_⟩
          exact ⟨_, _, vs' ++ [u], rfl, (s4.trans s5).wr nD, by rw [List.map_append]; exact upd_same, sl_snoc hD5 (pv4.sameS s5) upd_same⟩
        · have e0 : e = 0 := by simpa using c1
          rw [show putN ac c.1 e = ac from if_pos e0]
          exact ⟨_, _, vs', rfl, s4, hD4, pv4⟩
    · rintro σ H3 ⟨a3, a4, vs, rfl, s3, hD3, pv⟩
      walk_at "g"
      rw [List.take_length] at pv
      exact k D H3 s3 nD ⟨vs, hD3, pv⟩
end
end Tr

namespace Tr
open PySem L2 TL
/-- steps of a reading that are plain -/
local macro_rules | `(tactic| walk_at "x") => `(tactic| (refine' ⟨_, _, _, _, rfl, rfl, ?k1, ?k2, ?_⟩; (case k1 => exact SqT.of (by assumption)); (case k2 => exact rfl)))
local macro_rules | `(tactic| walk_at "g") => `(tactic| repeat (first | (refine ⟨_, rfl, ?_⟩) | (refine ⟨_, _, rfl, rfl, ?_⟩) | (refine ⟨_, _, rfl, ?_⟩) | (refine ⟨rfl, ?_⟩) | walk_at "x"))


/-! ### Row.__init__ -/
def rflds (t st ky : Addr) : List (Str × V) := [("turns", .ref t), ("steps", .ref st), ("key", .ref ky)]
def InK (ks ss : List SI) : Prop := ∀ c ∈ ss, ∃ k ∈ ks, k.1 = c.1
/-- a row stands at a -/
structure RwAt (CR CT : Addr) (H : Hp) (a t : Addr) (ks ss : List SI) : Prop where
  ex : ∃ dx st ky kk pp ys, H a = some (.ins CR dx (rflds t st ky)) ∧ ST H st ss ∧ H ky = some (.tup [.int (ss.length : Nat), .ref kk, .ref pp]) ∧ H kk = some (.tup (ys.map V.ref)) ∧ P2 (KyT ks H) ys ss ∧ ST H pp ks
  tu : TuAt CT H t ks
  ok : KsOk ks
  nf : Nf (perOf ks) ss
  nm : InK ks ss
  le : ss.length ≤ 10000
theorem RwAt.same {CR CT : Addr} {H H' : Hp} {a t : Addr} {ks ss : List SI} (s : Same H H') (h : RwAt CR CT H a t ks ss) : RwAt CR CT H' a t ks ss :=
  let ⟨dx, st, ky, kk, pp, ys, e0, e1, e2, e3, e4, e5⟩ := h.ex
  ⟨⟨dx, st, ky, kk, pp, ys, s _ _ e0, e1.same s, s _ _ e2, s _ _ e3, e4.mono fun _ _ e => s _ _ e, e5.same s⟩, h.tu.same s, h.ok, h.nf, h.nm, h.le⟩
theorem RwAt.kpB {CR CT p a t : Addr} {H H' : Hp} {kvs : List (Key × V)} {ks ss : List SI} (h : RwAt CR CT H a t ks ss) (ne : TuNe H t p) (kp : Kp p H H') (hp : H p = some (.dK kvs)) : RwAt CR CT H' a t ks ss := by
  obtain ⟨dx, st, ky, kk, pp, ys, e0, ⟨ts, a1, b1⟩, e2, e3, e4, ⟨us, a5, b5⟩⟩ := h.ex
  have no : ∀ {a : Addr} {xs : List V}, H a = some (.tup xs) → H' a = some (.tup xs) := fun h => kp _ _ h (ne_of h hp (by intro z; cases z))
  exact ⟨⟨dx, st, ky, kk, pp, ys, kp _ _ e0 (ne_of e0 hp (by intro z; cases z)), ⟨ts, no a1, b1.mono fun _ _ e => no e⟩, no e2, no e3, e4.mono fun _ _ e => no e, ⟨us, no a5, b5.mono fun _ _ e => no e⟩⟩, h.tu.kpB ne kp hp, h.ok, h.nf, h.nm, h.le⟩
theorem RwAt.sok {CR CT a t : Addr} {H : Hp} {ks ss : List SI} (h : RwAt CR CT H a t ks ss) : ∀ c ∈ ss, PyData.strOk c.1 = true := fun c hc => by
  obtain ⟨k, hk, e⟩ := h.nm c hc
  rw [← e]
  exact (h.ok.ok k hk).1.strOk
theorem norm_in {ks ss : List SI} (h : InK ks ss) : InK ks (normL (perOf ks) ss) := fun c hc => by
  obtain ⟨x, hx, e⟩ := normL_sub.1 c hc
  rw [← e]
  exact h x hx
theorem InK.app {ks a b : List SI} (h : InK ks a) (h' : InK ks b) : InK ks (a ++ b) := fun c hc => (List.mem_append.mp hc).elim (h c) (h' c)
theorem InK.back {ks a : List SI} (h : InK ks a) : InK ks (backL a) := fun c hc => by
  unfold backL at hc
  obtain ⟨d, hd, rfl⟩ := List.mem_map.mp hc
  exact h d (List.mem_reverse.mp hd)
theorem norm_len {per : Str → Int} {ss : List SI} : (normL per ss).length ≤ ss.length := normL_sub.2
theorem TuAt.kpi {C C' x dx a : Addr} {H H' : Hp} {fs : List (Str × V)} {ks : List SI} (h : TuAt C H a ks) (kp : Kp x H H') (hx : H x = some (.ins C' dx fs)) (nf : ∀ p1 p2 p3 p4, fs ≠ tflds p1 p2 p3 p4 := by intro _ _ _ _ z; cases z) : TuAt C H' a ks := by
  obtain ⟨dt, p1, p2, p3, p4, e0, ⟨ts, a1, b1⟩, e2, e3, e4⟩ := h.ex
  exact ⟨dt, p1, p2, p3, p4, kp _ _ e0 (ne_of e0 hx (by intro z; cases z; exact nf _ _ _ _ rfl)), ⟨ts, kp _ _ a1 (ne_of a1 hx (by intro z; cases z)), b1.mono fun _ _ e => kp _ _ e (ne_of e hx (by intro z; cases z))⟩,
    kp _ _ e2 (ne_of e2 hx (by intro z; cases z)), kp _ _ e3 (ne_of e3 hx (by intro z; cases z)), kp _ _ e4 (ne_of e4 hx (by intro z; cases z))⟩
theorem SqL.kpi {K : PySem.W.Frag} {C' x dx a : Addr} {H H' : Hp} {fs : List (Str × V)} {xs : List V} (h : SqL K H a xs) (kp : Kp x H H') (hx : H x = some (.ins C' dx fs)) : SqL K H' a xs := by
  refine h.elim (fun h => .inl (h.elim (fun h => .inl ?_) (fun ⟨o, h⟩ => .inr ⟨o, ?_⟩))) (fun h => .inr h)
  · exact kp _ _ h (ne_of h hx (by intro z; cases z))
  · exact kp _ _ h (ne_of h hx (by intro z; cases z))
theorem SqT.kpi {K : PySem.W.Frag} {C' x dx a : Addr} {H H' : Hp} {fs : List (Str × V)} {xs : List V} (h : SqT K H a xs) (kp : Kp x H H') (hx : H x = some (.ins C' dx fs)) : SqT K H' a xs := by
  refine h.elim (fun h => .inl (h.elim (fun h => .inl ?_) (fun ⟨o, h⟩ => .inr ⟨o, ?_⟩))) (fun h => .inr h)
  · exact kp _ _ h (ne_of h hx (by intro z; cases z))
  · exact kp _ _ h (ne_of h hx (by intro z; cases z))
theorem SrE.kpi {K : PySem.W.Frag} {C' x dx a : Addr} {H H' : Hp} {fs : List (Str × V)} {c : SI} (h : SrE K H a c) (kp : Kp x H H') (hx : H x = some (.ins C' dx fs)) : SrE K H' a c := h.elim (fun h => .inl (SqT.kpi h kp hx)) (fun h => .inr (SqL.kpi h kp hx))
theorem SQ.kpi {K : PySem.W.Frag} {C' x dx a : Addr} {H H' : Hp} {fs : List (Str × V)} {ts : List Addr} {cs : List SI} (h : SQ K H a ts cs) (kp : Kp x H H') (hx : H x = some (.ins C' dx fs)) : SQ K H' a ts cs :=
  ⟨h.1.elim (fun h => .inl (SqL.kpi h kp hx)) (fun h => .inr (SqT.kpi h kp hx)), h.2.mono fun _ _ e => SrE.kpi e kp hx⟩
section
variable {P : Program} {w : World} {K : PySem.W.Frag} {mg : Str → Option Value} {base : Heap}
def spRow (K : PySem.W.Frag) (CR CT : Addr) : Sp := fun vs H Q _ => ∃ (x dx t p : Addr) (ks ss : List SI) (ts : List Addr), vs = [.ref x, .ref t, .ref p] ∧ H x = some (.ins CR dx []) ∧ TuAt CT H t ks ∧ KsOk ks ∧ SQ K H p ts ss ∧ ss.length ≤ 10000 ∧ InK ks ss ∧
  ∀ (H' : Hp), Kp x H H' → RwAt CR CT H' x t ks (normL (perOf ks) ss) → Q .non H'
theorem walk_Row (T : Txt K mg) (f : Addr) (cdv : Value) (A : Around) (outer : List Env) (s : Shared) (H : Hp) (vs : List V) (Q : VK) (E : XK) (hr : Room 4 (A.deeper (PyProof.Rows.envOfC "Row.__init__" (defScope s_Row___init__) s.heap.objs.size f cdv))) (h : spRow K (He.ga K "Row") (He.ga K "Turns") vs H Q E) :
    ∃ t, PSs (cxOf (L2.CX P w) P w K mg base ["self", "turns", "steps", "name", "exponent", "keys", "step"] "Row.__init__" (defScope s_Row___init__) f cdv A outer s H E).nox (defBody s_Row___init__) t ∧ t { nx := fun _ H' => Q .non H', rt := Q } (start ["self", "turns", "steps", "name", "exponent", "keys", "step"] vs) H := by
  have c_tin := @c_tin P w K mg base T
  have c_normal_steps := @c_normal_steps P w K mg base T
  have c_step_key := @c_step_key P w K mg base T
  obtain ⟨x, dx, t, p, ks, ss, ts, rfl, hx, hT, ok, hS, hle, hin, k⟩ := h
  have hlen := hS.2.len
  refine ⟨_, (pss_cons (ps_for PassesOwn.never rfl (pi_seqK K (pv 2)) (pg_seq rfl (pgs_cons (pg_name (i := 3) sc_Row___init__.nd rfl (Or.inl rfl)) (pgs_cons (pg_name (i := 4) sc_Row___init__.nd rfl (Or.inl rfl)) pgs_nil))) (pss_one (ps_if (pt_cmpR (or_notInO c_tin hr (by first | decide | omega) passL) (pv 3) (pv 1) (by rfl)) (pss_one ps_never) pss_nil)))
      (pss_cons (ps_fld (pv 0) (pv 1) rfl)
      (pss_cons (ps_fld (pv 0) (pe_callTy call_tuple_of (by rfl) T.b_tuple (by decide +kernel) (pa_cons (pe_cx c_normal_steps hr (by first | decide | omega) rfl passL (pa_cons (pv 1) (pa_cons (pv 2) pa_nil))) pa_nil)) rfl)
      (pss_cons (ps_set (i := 5) sc_Row___init__.nd rfl (Or.inl rfl) (pe_callTy call_tuple_of (by rfl) T.b_tuple (by decide +kernel) (pa_cons (pe_lc (own := [("step", 6)]) (g := gName 6) rfl sc_Row___init__.nd (pi_tupK K (pe_fldK K (pv 0) (by rfl))) (blkOk_by (own := [("step", 6)]) (N := ["self", "turns", "steps", "name", "exponent", "keys", "step"]) (sc := defScope s_Row___init__) (by decide +kernel)) (fun _ _ _ _ _ => (pg_name (i := 6) sc_Row___init__.nd rfl (Or.inl rfl))) (fun _ _ _ _ _ => pts_nil) (fun _ _ _ _ _ => (pe_cx c_step_key hr (by first | decide | omega) rfl passL (pa_cons (pv 1) (pa_cons (pv 6) pa_nil))))) pa_nil)))
      (pss_one (ps_fld (pv 0) (pe_tup (pa_cons (pe_callB call_len (by rfl) T.b_len (by decide +kernel) (pa_cons (pe_fldK K (pv 0) (by rfl)) pa_nil)) (pa_cons (pv 5) (pa_cons (pe_fldK K (pv 1) (by rfl)) pa_nil)))) rfl)))))), ?_⟩
  refine iSeq_of (fun Q q => ⟨_, rfl, q⟩) hS (Same.refl H) fun J G hG wJ => ?_
  refine for_spW wJ hlen (fun i σ H' => ∃ (a3 a4 : Option V), σ = [some (.ref x), some (.ref t), some (.ref p), a3, a4, none, none] ∧ H' = H) ⟨_, _, rfl, rfl⟩ ?_ ?_ ?_
  · rintro i σ H' _ ⟨a3, a4, rfl, rfl⟩
    exact ⟨hG _ (Same.refl _), hS.2⟩
  · rintro i c σ H3 hc ⟨a3, a4, rfl, rfl⟩
    obtain ⟨dt, p1, p2, p3, p4, ht, _⟩ := id hT.ex
    walk_at "g"
    refine ⟨t, dt, _, rfl, ht, t, _, ks, rfl, hT, .inl ⟨c.1, rfl, ?_⟩⟩
    rw [hasS_of (hin c (mem_of_at hc))]
    walk_at "g"
    rfl
  · rintro σ H3 ⟨a3, a4, rfl, rfl⟩
    walk_at "g"
    refine ⟨x, _, dx, _, rfl, hx, T.k_Row, T.a_Row__turns, by show 0 < 1000; decide, ?_⟩
    obtain ⟨H4, e4⟩ : ∃ H4, H4 = upd H3 x (.ins (He.ga K "Row") dx (putF "turns" (.ref t) [])) := ⟨_, rfl⟩
    have kp4 : Kp x H3 H4 := by rw [e4]; exact kp_upd x H3 _
    have hx4 : H4 x = some (.ins (He.ga K "Row") dx [("turns", .ref t)]) := by rw [e4]; exact upd_same
    rw [← e4]
    clear e4
    have tk := TuAt.kpi hT kp4 hx
    have sk := SQ.kpi hS kp4 hx
    walk_at "g"
    refine ⟨t, p, ks, ss, ts, rfl, tk, sk, hle, hin, fun l H5 s5 nl hl => ?_⟩
    obtain ⟨us, hl1, pl⟩ := hl
    refine ⟨l, _, rfl, .inl ⟨SqL.of hl1, fun st nst => ?_⟩⟩
    have s6 := same_upd (o := .tup (us.map V.ref)) nst
    obtain ⟨H6, e6⟩ : ∃ H6, H6 = upd H5 st (.tup (us.map V.ref)) := ⟨_, rfl⟩
    have hst : H6 st = some (.tup (us.map V.ref)) := by rw [e6]; exact upd_same
    rw [← e6] at s6 ⊢
    clear e6
    have s46 := s5.trans s6
    have pl6 := pl.sameS s6
    walk_at "g"
    refine ⟨x, _, dx, _, rfl, s46 _ _ hx4, T.k_Row, T.a_Row__steps, by show 1 < 1000; decide, ?_⟩
    obtain ⟨H7, e7⟩ : ∃ H7, H7 = upd H6 x (.ins (He.ga K "Row") dx (putF "steps" (.ref st) [("turns", .ref t)])) := ⟨_, rfl⟩
    have hx6 := s46 _ _ hx4
    have kp7 : Kp x H6 H7 := by rw [e7]; exact kp_upd x H6 _
    have hx7 : H7 x = some (.ins (He.ga K "Row") dx [("turns", .ref t), ("steps", .ref st)]) := by rw [e7]; exact upd_same
    rw [← e7]
    clear e7
    have no : ∀ {a : Addr} {xs : List V}, H6 a = some (.tup xs) → a ≠ x := fun h => ne_of h hx6 (by intro z; cases z)
    have hst7 := kp7 _ _ hst (no hst)
    have pl7 : P2 (SrT H7) us (normL (perOf ks) ss) := pl6.mono fun _ _ e => kp7 _ _ e (no e)
    have tk7 := TuAt.kpi (tk.same s46) kp7 hx6
    have ll := pl7.len
    have nle := @norm_len (perOf ks) ss
    have nin := norm_in hin
    have nnf := nf_norm (per := perOf ks) ss
    generalize normL (perOf ks) ss = ns at *
    walk_at "g"
    refine ⟨x, _, dx, _, _, rfl, hx7, T.k_Row, T.a_Row__steps, rfl, ?_⟩
    walk_at "g"
    refine ⟨⟨_, SqT.of hst7⟩, fun D nD => ?_⟩
    refine lc_ref walk_tup pl7 (fun y c H => ∃ q, y = .ref q ∧ KyT ks H q c) ?_ nD (by omega) (fun H s => s.seqT (SqT.of hst7)) (fun _ => rfl) ?_ ?_
    · rintro y c H H' acc hD kp ⟨q, rfl, hq⟩
      exact ⟨q, rfl, kp _ _ hq (ne_of hq hD (by intro z; cases z))⟩
    · intro u c hcm r H8 Q8 s8 q
      walk_at "g"
      exact ⟨t, u, c, ks, rfl, tk7.same s8, s8 _ _ r, nin c hcm, fun y H9 s9 ny hy => q _ _ s9 ⟨y, rfl, hy⟩⟩
    · intro ys H8 s8 hD8 py
      obtain ⟨as, rfl⟩ := py.ref (f := V.ref) (fun v b ⟨t, e, _⟩ => ⟨t, e⟩)
      have pa : P2 (KyT ks H8) as ns := (P2.map_l.mp py).mono fun t c ⟨t', e, r⟩ => by cases e; exact r
      walk_at "g"
      refine ⟨D, _, rfl, .inl ⟨SqL.of hD8, fun kk nkk => ?_⟩⟩
      have s9 := same_upd (o := .tup (as.map V.ref)) nkk
      obtain ⟨H9, e9⟩ : ∃ H9, H9 = upd H8 kk (.tup (as.map V.ref)) := ⟨_, rfl⟩
      have hkk : H9 kk = some (.tup (as.map V.ref)) := by rw [e9]; exact upd_same
      rw [← e9] at s9 ⊢
      clear e9
      have s79 := s8.trans s9
      have pa9 : P2 (KyT ks H9) as ns := pa.mono fun _ _ e => s9 _ _ e
      walk_at "g"
      refine ⟨x, _, dx, _, _, rfl, s79 _ _ hx7, T.k_Row, T.a_Row__steps, rfl, ?_⟩
      walk_at "g"
      refine ⟨_, _, rfl, .inr ⟨_, SqT.of (s79 _ _ hst7), rfl⟩, ?_⟩
      rw [List.length_map, ll]
      obtain ⟨dt, p1, p2, p3, p4, ht9, hp19, _⟩ := (tk7.same s79).ex
      walk_at "g"
      refine ⟨t, _, dt, _, _, rfl, ht9, T.k_Turns, T.a_Turns__pairs, rfl, ?_⟩
      walk_at "g"
      refine ⟨by show 3 ≤ sizeLine; decide, fun ky nky => ?_⟩
      have s10 := same_upd (o := .tup [.int (ns.length : Nat), .ref kk, .ref p1]) nky
      obtain ⟨H10, e10⟩ : ∃ H10, H10 = upd H9 ky (.tup [.int (ns.length : Nat), .ref kk, .ref p1]) := ⟨_, rfl⟩
      have hky : H10 ky = some (.tup [.int (ns.length : Nat), .ref kk, .ref p1]) := by rw [e10]; exact upd_same
      rw [← e10] at s10 ⊢
      clear e10
      have s710 := s79.trans s10
      have hx10 := s710 _ _ hx7
      walk_at "g"
      refine ⟨x, _, dx, _, rfl, hx10, T.k_Row, T.a_Row__key, by show 2 < 1000; decide, ?_⟩
      obtain ⟨H11, e11⟩ : ∃ H11, H11 = upd H10 x (.ins (He.ga K "Row") dx (rflds t st ky)) := ⟨_, rfl⟩
      show Q .non (upd H10 x (.ins (He.ga K "Row") dx (rflds t st ky)))
      have kp11 : Kp x H10 H11 := by rw [e11]; exact kp_upd x H10 _
      have hx11 : H11 x = some (.ins (He.ga K "Row") dx (rflds t st ky)) := by rw [e11]; exact upd_same
      rw [← e11]
      clear e11
      have no10 : ∀ {a : Addr} {xs : List V}, H10 a = some (.tup xs) → a ≠ x := fun h => ne_of h hx10 (by intro z; cases z)
      have k10 : ∀ {a : Addr} {xs : List V}, H10 a = some (.tup xs) → H11 a = some (.tup xs) := fun h => kp11 _ _ h (no10 h)
      refine k H11 ((kp4.trans s46.kp).trans (kp7.trans (s710.kp.trans kp11))) ⟨⟨dx, st, ky, kk, p1, as, hx11, ⟨us, k10 (s710 _ _ hst7), pl7.mono fun _ _ e => k10 (s710 _ _ e)⟩, k10 hky, k10 (s10 _ _ hkk), pa9.mono fun _ _ e => k10 (s10 _ _ e), ?_⟩, TuAt.kpi (tk7.same s710) kp11 hx10, ok, nnf, nin, by omega⟩
      obtain ⟨tp, a1, b1⟩ := hp19
      exact ⟨tp, k10 (s10 _ _ a1), b1.mono fun _ _ e => k10 (s10 _ _ e)⟩
theorem m_Row (T : Txt K mg) : Mak P w K mg base 5 "Row" (He.ga K "Row") (spRow K (He.ga K "Row") (He.ga K "Turns")) [] := by
  refine makN T.i_Row sc_Row___init__ (fun vs H Q E h => ?_) (fun dvs f fd hl F => binds_all F 3 rfl (fun _ _ _ _ _ _ _ us its h1 h2 => match us, its, h1, h2.trans hl with | [_, _, _], [_], _, _ => ⟨_, rfl, rfl⟩) (by intro e; rw [e] at hl; cases hl)) (walk_Row T)
  obtain ⟨x, dx, t, p, ks, ss, ts, rfl, _⟩ := h
  rfl
/-- Row(turns): the default is kept at an empty tuple -/
def spRow0 (CR CT d : Addr) : Sp := fun vs H Q _ => ∃ (x dx t : Addr) (ks : List SI), vs = [.ref x, .ref t, .ref d] ∧ H x = some (.ins CR dx []) ∧ TuAt CT H t ks ∧ KsOk ks ∧ ∀ (H' : Hp), Kp x H H' → RwAt CR CT H' x t ks [] → Q .non H'
theorem m_Row0 (T : Txt K mg) : ∃ d, Mak P w K mg base 5 "Row" (He.ga K "Row") (spRow0 (He.ga K "Row") (He.ga K "Turns") d) [.ref d] := by
  obtain ⟨f, fd, d, M, hm, F, he⟩ := T.e_Row.ex
  obtain ⟨ds, r, b⟩ := F.binds1 (ps := ["self", "turns", "steps"]) 2 0 (List.cons_ne_nil _ _) rfl (fun _ _ _ _ _ _ _ us its h1 h2 => match us, its, h1, h2 with | [_, _], [_], _, _ => ⟨_, rfl, rfl⟩)
  refine ⟨d, f, fd, ["self", "turns", "steps"], ds, M, F.ok sc_Row___init__ (fun vs H Q E h => ?_) (fun cdv A outer s H vs Q E hr h => ?_), hm, b, r⟩
  · obtain ⟨x, dx, t, ks, rfl, _⟩ := h
    rfl
  · obtain ⟨x, dx, t, ks, rfl, hx, hT, ok, k⟩ := h
    obtain ⟨t, h1, h2⟩ := @walk_Row P w K mg base T f cdv A outer s H _ Q E hr ⟨x, dx, t, d, ks, [], [], rfl, hx, hT, ok, SQ.nil (he H), Nat.zero_le _, (fun c hc => by cases hc), k⟩
    exact ⟨t, h1.nox, h2⟩
end
theorem mk_row {K : PySem.W.Frag} {CR CT : Addr} {H : Hp} {t p : Addr} {ks ss : List SI} {ts : List Addr} {Q : VK} (hT : TuAt CT H t ks) (ok : KsOk ks) (hS : SQ K H p ts ss) (hle : ss.length ≤ 10000) (hin : InK ks ss)
    (k : ∀ y H', Same H H' → RwAt CR CT H' y t ks (normL (perOf ks) ss) → Q (.ref y) H') :
    ∀ (x dx : Addr), H x = none → H dx = none → dx ≠ x → spRow K CR CT [.ref x, .ref t, .ref p] (upd (upd H dx (.own x)) x (.ins CR dx [])) (fun v H2 => v = .non ∧ Q (.ref x) H2) E0 := by
  intro x dx nx ndx ne
  have s := same_made (o := .ins CR dx []) (o2 := .own x) nx ndx
  exact ⟨x, dx, t, p, ks, ss, ts, rfl, upd_same, hT.same s, ok, hS.same s, hle, hin, fun H' kp hR => ⟨rfl, k x H' (mk_same kp nx ndx) hR⟩⟩
theorem mk_row0 {CR CT d : Addr} {H : Hp} {t : Addr} {ks : List SI} {Q : VK} (hT : TuAt CT H t ks) (ok : KsOk ks)
    (k : ∀ y H', Same H H' → RwAt CR CT H' y t ks [] → Q (.ref y) H') :
    ∀ (x dx : Addr), H x = none → H dx = none → dx ≠ x → spRow0 CR CT d [.ref x, .ref t, .ref d] (upd (upd H dx (.own x)) x (.ins CR dx [])) (fun v H2 => v = .non ∧ Q (.ref x) H2) E0 := by
  intro x dx nx ndx ne
  have s := same_made (o := .ins CR dx []) (o2 := .own x) nx ndx
  exact ⟨x, dx, t, ks, rfl, upd_same, hT.same s, ok, fun H' kp hR => ⟨rfl, k x H' (mk_same kp nx ndx) hR⟩⟩
end Tr

/-! # Row(turns, steps) where a step's name is not declared: NoTurn. -/
namespace Tr
open PySem L2 TL
/-- steps of a reading that are plain -/
local macro_rules | `(tactic| walk_at "x") => `(tactic| (refine' ⟨_, _, _, _, rfl, rfl, ?k1, ?k2, ?_⟩; (case k1 => exact SqT.of (by assumption)); (case k2 => exact rfl)))
local macro_rules | `(tactic| walk_at "g") => `(tactic| repeat (first | (refine ⟨_, rfl, ?_⟩) | (refine ⟨_, _, rfl, rfl, ?_⟩) | (refine ⟨_, _, rfl, ?_⟩) | (refine ⟨rfl, ?_⟩) | walk_at "x"))


/-- n is no declared name: another text, or no text -/
def StrNo (K : PySem.W.Frag) (H : Hp) (ks : List SI) (n : V) : Prop := (∃ z, n = .str z ∧ hasS ks z = false) ∨ (∃ t, TyX K H n t ∧ PySem.W.kitOne K t (.type "str") = some false)
theorem ty_same {K : PySem.W.Frag} {H H' : Hp} {n : V} {t : Value} (s : Same H H') (h : TyX K H n t) : TyX K H' n t := by
  cases h with
  | base h =>
    cases h with
    | non => exact .base .non
    | bl x => exact .base (.bl x)
    | int i => exact .base (.int i)
    | str x => exact .base (.str x)
    | flt x => exact .base (.flt x)
    | lst e => exact .base (.lst (s _ _ e))
    | frz e => exact .base (.frz (s _ _ e))
    | tup e => exact .base (.tup (s _ _ e))
    | dK e => exact .base (.dK (s _ _ e))
    | dT e => exact .base (.dT (s _ _ e))
    | ins e cl ha hn htk hm => exact .base (.ins (s _ _ e) cl ha hn htk hm)
  | byt b => exact .byt b
  | set e => exact .set (s _ _ e)
  | kList e c => exact .kList e c
  | kTuple e c => exact .kTuple e c
  | kDict e c => exact .kDict e c
  | fTuple e => exact .fTuple (s _ _ e)
  | fDict e => exact .fDict (s _ _ e)
theorem StrNo.same {K : PySem.W.Frag} {H H' : Hp} {ks : List SI} {n : V} (h : StrNo K H ks n) (s : Same H H') : StrNo K H' ks n := h.elim .inl fun ⟨t, a, b⟩ => .inr ⟨t, ty_same s a, b⟩
theorem iSeq_at {K : PySem.W.Frag} {te : TE} {σ : L2.St} {H : Hp} {R : It → Hp → Prop} {a : Addr} {ts : List Addr} (hte : ∀ Q : V → Hp → Prop, Q (.ref a) H → te σ H Q) (h : SqL K H a (ts.map V.ref) ∨ SqT K H a (ts.map V.ref))
    (hR : ∀ (J : It) (G : Hp → Prop), (∀ H', Same H H' → G H') → Walk J (ts.map V.ref).length G (YAt (ts.map V.ref)) → R J H) : iSeq K te σ H R := by
  rcases h with h | h
  · exact .inl (hte _ ⟨a, rfl, ⟨_, h⟩, hR _ _ (fun H' s => s.seq h) walk_list⟩)
  · exact .inr (hte _ ⟨a, rfl, ⟨_, h⟩, hR _ _ (fun H' s => s.seqT h) walk_tup⟩)
section
variable {P : Program} [PM : PMain P] {w : World} {K : PySem.W.Frag} {mg : Str → Option Value} {base : Heap}
theorem x_NoTurn (T : Txt K mg) : Exm P w K mg base 1 "NoTurn" (He.ga K "NoTurn") (spE (He.ga K "NoTurn") ["name"]) := exn1 T.x_NoTurn ex_NoTurn
/-- the steps at p: first those of ss, declared, then (n, e), n not declared -/
def spRowNo (K : PySem.W.Frag) (CR CT CN : Addr) : Sp := fun vs H _ E => ∃ (x dx t p b : Addr) (ks ss : List SI) (bs : List Addr) (n : V) (e : Int), vs = [.ref x, .ref t, .ref p] ∧ H x = some (.ins CR dx []) ∧ TuAt CT H t ks ∧ (SqL K H p (bs.map V.ref) ∨ SqT K H p (bs.map V.ref)) ∧
  P2 (SrT H) (bs.take ss.length) ss ∧ bs[ss.length]? = some b ∧ InK ks ss ∧ H b = some (.tup [n, .int e]) ∧ StrNo K H ks n ∧ ∀ d, H d = none → E (.ref CN) (some d) (upd H d (.xd [("name", n)]))
theorem m_RowNo (T : Txt K mg) : Mak P w K mg base 5 "Row" (He.ga K "Row") (spRowNo K (He.ga K "Row") (He.ga K "Turns") (He.ga K "NoTurn")) [] := by
  have c_tin := @c_tin P w K mg base T
  have x_NoTurn := @x_NoTurn P PM w K mg base T
  obtain ⟨f, fd, dvs, M, hm, F, hl⟩ := T.i_Row.ex
  refine ⟨f, fd, ["self", "turns", "steps"], [], M, F.ok sc_Row___init__ (fun vs H Q E h => ?_) (fun cdv A outer s H vs Q E hr h => ?_), hm, binds_all F 3 rfl (fun _ _ _ _ _ _ _ us its h1 h2 => match us, its, h1, h2.trans hl with | [_, _, _], [_], _, _ => ⟨_, rfl, rfl⟩) (by intro e; rw [e] at hl; cases hl), .nil⟩
  · obtain ⟨x, dx, t, p, b, ks, ss, bs, n, e, rfl, _⟩ := h
    rfl
  · obtain ⟨x, dx, t, p, b, ks, ss, bs, n, e, rfl, hx, hT, hS, hP, hb, hin, hbn, hno, k⟩ := h
    obtain ⟨dt, p1, p2, p3, p4, ht, _⟩ := id hT.ex
    refine ⟨_, (pss_cons (ps_for PassesOwn.leaving rfl (pi_seqK K (pv 2)) (pg_seq rfl (pgs_cons (pg_name (i := 3) sc_Row___init__.nd rfl (Or.inl rfl)) (pgs_cons (pg_name (i := 4) sc_Row___init__.nd rfl (Or.inl rfl)) pgs_nil))) (pss_one (ps_if (pt_cmpR (or_notInO c_tin hr (by first | decide | omega) passL) (pv 3) (pv 1) (by rfl)) (pss_one (ps_raise rfl (takes_of rfl rfl rfl rfl) (pmk_exn x_NoTurn hr (by first | decide | omega) rfl (pa_cons (pv 3) pa_nil) (by simp)))) pss_nil)))
      pss_never), ?_⟩
    refine iSeq_at (fun Q q => ⟨_, rfl, q⟩) hS fun J G hG wJ => ?_
    refine for_it wJ (fun i σ H' => i ≤ ss.length ∧ ∃ (a3 a4 : Option V), σ = [some (.ref x), some (.ref t), some (.ref p), a3, a4, none, none] ∧ H' = H) ⟨Nat.zero_le _, _, _, rfl, rfl⟩ ?_ ?_ ?_
    · rintro i σ H' _ ⟨_, _, _, _, e⟩
      rw [e]
      exact hG _ (Same.refl _)
    · rintro i y σ H0 H' hi ⟨hle, a3, a4, rfl, rfl⟩ ⟨rfl, hy⟩
      rw [List.getElem?_map] at hy
      by_cases hlt : i < ss.length
      · cases ht2 : bs[i]? with
        | none =>
          rw [ht2] at hy
          cases hy
        | some u =>
          rw [ht2] at hy
          cases hy
          obtain ⟨c, hc, r⟩ := hP.getl ((List.getElem?_take_of_lt hlt).trans ht2)
          refine ⟨u, _, rfl, .inl (SqT.of r), rfl, _, _, rfl, _, _, rfl, rfl, ?_⟩
          walk_at "g"
          refine ⟨t, dt, _, rfl, ht, t, _, ks, rfl, hT, .inl ⟨c.1, rfl, ?_⟩⟩
          rw [hasS_of (hin c (mem_of_at hc))]
          walk_at "g"
          first | refine iteF ?_ | skip
          exact ⟨by omega, _, _, rfl, rfl⟩
      · obtain rfl : i = ss.length := by omega
        rw [hb] at hy
        cases hy
        refine ⟨b, _, rfl, .inl (SqT.of hbn), rfl, _, _, rfl, _, _, rfl, rfl, ?_⟩
        walk_at "g"
        refine ⟨t, dt, _, rfl, ht, t, _, ks, rfl, hT, ?_⟩
        rcases hno with ⟨z, rfl, hz⟩ | ⟨ty, h1, h2⟩
        · refine .inl ⟨z, rfl, ?_⟩
          rw [hz]
          walk_at "g"
          first | refine iteT ?_ | skip
          walk_at "g"
          first | exact ⟨rfl, k⟩ | exact k
        · refine .inr ⟨ty, h1, h2, ?_⟩
          walk_at "g"
          first | refine iteT ?_ | skip
          walk_at "g"
          first | exact ⟨rfl, k⟩ | exact k
    · rintro σ H' ⟨hle, _⟩
      have hlt := (List.getElem?_eq_some_iff.mp hb).1
      rw [List.length_map] at hle
      omega
end
end Tr

namespace Tr
open PySem L2 TL
/-- steps of a reading that are plain -/
local macro_rules | `(tactic| walk_at "x") => `(tactic| (refine' ⟨_, _, _, _, rfl, rfl, ?k1, ?k2, ?_⟩; (case k1 => exact SqT.of (by assumption)); (case k2 => exact rfl)))
local macro_rules | `(tactic| walk_at "g") => `(tactic| repeat (first | (refine ⟨_, rfl, ?_⟩) | (refine ⟨_, _, rfl, rfl, ?_⟩) | (refine ⟨_, _, rfl, ?_⟩) | (refine ⟨rfl, ?_⟩) | walk_at "x"))


/-! ### still -/
section
variable {P : Program} {w : World} {K : PySem.W.Frag} {mg : Str → Option Value} {base : Heap}
def spStill (CR CT : Addr) : Sp := fun vs H Q _ => ∃ (t : Addr) (ks : List SI), vs = [.ref t] ∧ TuAt CT H t ks ∧ KsOk ks ∧ ∀ y H', Same H H' → RwAt CR CT H' y t ks [] → Q (.ref y) H'
theorem c_still (T : Txt K mg) : Pro P w K mg base 7 (He.ga K "Turns") "still" (spStill (He.ga K "Row") (He.ga K "Turns")) := by
  obtain ⟨d, m_Row0⟩ := @m_Row0 P w K mg base T
  refine proN T.p_Turns__still sc_Turns_still (fun vs H Q E h => ?_) (fun _ _ _ _ _ _ us hl => match us, hl with | [_], _ => rfl) (fun f cdv A outer s H vs Q E hr h => ?_)
  · obtain ⟨t, ks, rfl, _⟩ := h
    rfl
  · obtain ⟨t, ks, rfl, hT, ok, k⟩ := h
    refine ⟨_, (pss_one (ps_ret (pe_mkx m_Row0 hr (by first | decide | omega) rfl passL (pa_cons (pv 0) pa_nil)))), ?_⟩
    walk_at "g"
    exact mk_row0 hT ok k
end
end Tr

/-! # != of tuples whose items are the same things; isinstance of a caught error without fields. -/
namespace Tr
open PySem PySem.Spec PyProof.Rows L2
/-- x != y, two tuples of the same things -/
def rNeT (K : PySem.W.Frag) : R2 := fun x y H Q => ∃ a b xs, x = .ref a ∧ y = .ref b ∧ SqT K H a xs ∧ SqT K H b xs ∧ (∀ v ∈ xs, flatB v = true ∨ ∃ r, v = .ref r) ∧ Q (.bl false) H
theorem eqAt_it {A : Around} {s : Shared} {v : V} {u u' : Value} (r : RelV v u) (r' : RelV v u') (f : flatB v = true ∨ ∃ r, v = .ref r) : SeqAt.EqAt A s u u' true := by
  rcases f with f | ⟨a, rfl⟩
  · exact eqAt_same r r' f
  · cases (show u = Value.ref a from r)
    cases (show u' = Value.ref a from r')
    exact SeqAt.EqAt.same _
theorem eqAt_its {A : Around} {s : Shared} : ∀ {xs : List V} {us ws : List Value}, Vals xs us → Vals xs ws → (∀ v ∈ xs, flatB v = true ∨ ∃ r, v = .ref r) → ∀ j (h1 : j < us.length) (h2 : j < ws.length), SeqAt.EqAt A s us[j] ws[j] true
  | [], _, _, r, _, _, j, h1, _ => by
    cases r
    exact absurd h1 (Nat.not_lt_zero j)
  | v :: xs, _, _, r, r2, f, j, h1, h2 => by
    cases r with
    | cons a1 b1 =>
      cases r2 with
      | cons a2 b2 =>
        cases j with
        | zero => exact eqAt_it a1 a2 (f v List.mem_cons_self)
        | succ j => exact eqAt_its b1 b2 (fun v hv => f v (List.mem_cons_of_mem _ hv)) j (Nat.lt_of_succ_lt_succ h1) (Nat.lt_of_succ_lt_succ h2)
theorem op_neT {X : Cx} (hu : X.A.units + 64 < cLine) : OpR X (compareOp .NotEq) (rNeT X.K) := by
  intro pins s σ H x y v u Q I rx ry h
  obtain ⟨a, b, xs, rfl, rfl, ha, hb, hf, q⟩ := h
  cases rx
  cases ry
  obtain ⟨its, r, e, _⟩ := I.tuple ha
  obtain ⟨its2, r2, e2, _⟩ := I.tuple hb
  have hz : its.length = its2.length := by rw [← r.length, ← r2.length]
  have key := SeqAt.RcNeAt.tuples (A := X.A) (s := s) (e := fun _ => true) (show s.heap.IsTuple a its.toArray from e) (show s.heap.IsTuple b its2.toArray from e2) (by omega) (fun j h1 h2 => eqAt_its (A := X.A.in1) (s := s) r r2 hf j h1 h2)
  have eb : (!((List.range (min its.toArray.size its2.toArray.size)).all (fun _ => true) && its.toArray.size == its2.toArray.size)) = false := by
    rw [List.size_toArray, List.size_toArray, hz]
    simp
  rw [eb] at key
  exact key X.prog X.w _ _ ⟨.bl false, H, I, rfl, q⟩
def rIsN (K : PySem.W.Frag) (a : Addr) (cls : Value) (d : Option Addr) (C : Addr) : List V → Hp → VK → Prop := fun xs H Q => ∃ (c : V) (cv : Value) (b : Bool), xs = [.ref a, c] ∧ cls = .ref C ∧ d = none ∧ (∀ u, RelV c u → u = cv) ∧ PySem.W.kitOne K (.ref C) cv = some b ∧ Q (.bl b) H
theorem call_isN {X : Cx} {a C : Addr} {oe : Obj} {cls : Value} {d : Option Addr} {pn : List (Addr × Obj)} (T : ExcC X.K C) (hz : Zc cls d oe) (hf : ∃ vs, oe.data = .fields vs) : CallR (X.suite a ((a, oe) :: pn)) (.builtin "isinstance") (rIsN X.K a cls d C) := by
  intro pins s σ H xs us Q I r ⟨c, cv, b, ex, ec, ed, hcv, e, q⟩
  subst ec ed
  exact call_isE T hz hf pins s σ H xs us Q I r ⟨c, cv, b, ex, hcv, e, q⟩
end Tr

/-! # A class whose making may raise; no own class for a built-in thing. -/
namespace Tr
open PySem PySem.Spec PyProof.Rows L2
section
variable {P : Program} {w : World} {K : PySem.W.Frag} {mg : Str → Option Value} {base : Heap}
theorem makX {x qual : Str} {C : Addr} {st : Stmt} {n : Nat} {N ps : List Str} {k : Nat} {sp : Sp} (D : Ini K mg x qual C st n) (S : FnScope N ps (defScope st)) (len : ∀ vs H Q E, sp vs H Q E → vs.length = ps.length)
    (hb : ∀ dvs f fd, dvs.length = n → FunD K "__init__" qual (defArgs st) (defBody st) (defScope st) dvs [] f fd → Binds K fd ps [])
    (hbody : ∀ (f : Addr) (cdv : Value) (A : Around) (outer : List Env) (s : Shared) (H : Hp) (vs : List V) (Q : VK) (E : XK), Room k (A.deeper (envOfC qual (defScope st) s.heap.objs.size f cdv)) → sp vs H Q E →
      ∃ t, PSs (cxOf (L2.CX P w) P w K mg base N qual (defScope st) f cdv A outer s H E) (defBody st) t ∧ t { nx := fun _ H' => Q .non H', rt := Q } (start N vs) H) : Mak P w K mg base (k + 1) x C sp [] :=
  let ⟨f, fd, dvs, M, hm, F, hl⟩ := D.ex
  ⟨f, fd, ps, [], M, F.ok S len (hbody f), hm, hb dvs f fd hl F, .nil⟩
end
/-- a thing of a built-in class is no instance of an own one -/
theorem kit_int {K : PySem.W.Frag} {C D : Addr} (h : PySem.W.kitOne K (.ref C) (.ref D) = some false) : PySem.W.kitOne K (.type "int") (.ref D) = some false := by
  unfold PySem.W.kitOne PySem.W.kitCls at h
  unfold PySem.W.kitOne PySem.W.kitCls
  dsimp only at h ⊢
  split at h
  · cases h
  split at h
  · rename_i z
    rw [if_neg (by intro q; cases q), if_pos z]
    rfl
  · cases h
end Tr

/-! # k27: own == with anything at the right. -/
namespace Tr
open PySem PySem.Spec PyProof.Rows L2
/-- a value's type, for own == -/
inductive TyR (K : PySem.W.Frag) (H : Hp) : V → Value → Prop
  | non : TyR K H .non (.type "NoneType")
  | int (i : Int) : TyR K H (.int i) (.type "int")
  | str (x : Str) : TyR K H (.str x) (.type "str")
  | lst {a : Addr} {xs : List V} (e : H a = some (.lst xs)) : TyR K H (.ref a) (.type "list")
  | ins {a C dx : Addr} {fs : List (Str × V)} (e : H a = some (.ins C dx fs)) : TyR K H (.ref a) (.ref C)
section
variable {X : Cx} {k : Nat} {C : Addr} {sp : Sp} {E : XK}
theorem TyR.looks {pins : List (Addr × Obj)} {σ : L2.St} {H : Hp} {s : Shared} {x : V} {u t : Value} (I : Inv X pins σ H s) (rx : RelV x u) (ty : TyR X.K H x t) : PySem.W.Looks (model X.prog X.w) s.heap (typeOf u) t := by
  cases ty with
  | non => cases (show u = Value.none from rx); exact PySem.W.Looks.of_pure rfl
  | int i => obtain ⟨t, q⟩ := (show ∃ t, u = Value.int i t from rx); cases q; exact PySem.W.Looks.of_pure rfl
  | str y => obtain ⟨t, q⟩ := (show ∃ t, u = Value.str y t from rx); cases q; exact PySem.W.Looks.of_pure rfl
  | lst e =>
    cases rx
    obtain ⟨its, rv, hL, _⟩ := I.list (SqL.of e)
    obtain ⟨⟨cls0, dd0, data0, sl0⟩, ho0, hc0, n0, hd0⟩ := hL.isList
    simp only at hc0
    subst hc0
    exact (PySem.W.Looks.ld ho0).andThen .now
  | ins e =>
    cases rx
    obtain ⟨mA, J, _⟩ := ins_get I.hok e
    obtain ⟨od, J, _⟩ := J.look
    exact J.type
def rEqK (K : PySem.W.Frag) (C : Addr) (sp : Sp) (E : XK) (out : Bool → V) : R2 := fun x y H Q => ∃ a dx fs t, x = .ref a ∧ H a = some (.ins C dx fs) ∧ TyR K H y t ∧ PySem.W.notFirst K C t = true ∧ sp [x, y] H (fun v H' => ∃ b, v = .bl b ∧ Q (out b) H') E
theorem or_eqK (c : Met X.prog X.w X.K X.mg X.base k C "__eq__" sp []) {j : Nat} (hr : Room j X.A) (hk : k ≤ j) (hx : Passes (L2.CX X.prog X.w) X E) : OpR X (compareOp .Eq) (rEqK X.K C sp E .bl) := by
  obtain ⟨f, fd, ps, ds, hc, hm, F, b, d⟩ := c.ex
  cases d
  intro pins s σ H x y v u Q I rx ry h
  obtain ⟨a, dx, fs, t, rfl, ha, ty, nf, h⟩ := h
  cases rx
  obtain ⟨mA, J, _⟩ := ins_get I.hok ha
  obtain ⟨od, J, _⟩ := J.look
  obtain ⟨m, hF⟩ := I.fr
  show wpAny (model X.prog X.w) X.A (richCompare .Eq (.ref a) u) _ _ s
  refine PySem.W.cmp_K (op := .Eq) (tb := t) hr.units0 hF I.ok.mod.kin J (ty.looks I ry) nf hm.at_ hm.fn ?_
  refine wpAny_mono (run_at F (hr.mono hk) rfl b hx I (us := [.ref a, u]) (vs := [.ref a, y]) (.cons rfl (.cons ry .nil)) h) (fun r s' q => ?_) fun _ _ z => z
  obtain ⟨z, H', I', rz, b', rfl, q⟩ := q
  cases rz
  exact ⟨.bl b', H', I', rfl, q⟩
theorem or_eqKK (K : PySem.W.Frag) (c : Met X.prog X.w X.K X.mg X.base k C "__eq__" sp []) {j : Nat} (hr : Room j X.A) (hk : k ≤ j) (hx : Passes (L2.CX X.prog X.w) X E) (e : X.K = K := by rfl) : OpR X (compareOp .Eq) (rEqK K C sp E .bl) := by
  subst e
  exact or_eqK c hr hk hx
end
theorem KindO.first {K : PySem.W.Frag} {C : Addr} (o : KindO K C) {n : String} (h : n ∈ bNames) : PySem.W.notFirst K C (.type n) = true := by
  unfold PySem.W.notFirst
  rw [o.sub n h]
  simp
theorem first_self {K : PySem.W.Frag} {C : Addr} : PySem.W.notFirst K C (.ref C) = true := by simp [PySem.W.notFirst]
end Tr

/-! # k10: names and periods of any kind; what is due of a list of them. -/
namespace Tr
open PySem L2 TL
/-- steps of a reading that are plain -/
local macro_rules | `(tactic| walk_at "x") => `(tactic| (refine' ⟨_, _, _, _, rfl, rfl, ?k1, ?k2, ?_⟩; (case k1 => exact SqT.of (by assumption)); (case k2 => exact rfl)))
local macro_rules | `(tactic| walk_at "g") => `(tactic| repeat (first | (refine ⟨_, rfl, ?_⟩) | (refine ⟨_, _, rfl, rfl, ?_⟩) | (refine ⟨_, _, rfl, ?_⟩) | (refine ⟨rfl, ?_⟩) | walk_at "x"))


/-- what is due of a list of pairs -/
inductive Due
  | none
  | many (n : Nat)
  | name (v : V)
  | twice (v : V)
  | period (v : V)
  | made
/-- the law's tuple -/
def dueT : Due → List V
  | .none => [.str "none"]
  | .many n => [.str "many", .str "turns", .int n, .int 8]
  | .name v => [.str "name", v]
  | .twice v => [.str "twice", v]
  | .period v => [.str "period", v]
  | .made => [.str "made"]
def siV (c : SI) : V × V := (.str c.1, .int c.2)
def perB (i : Int) : Bool := decide (0 ≤ i) && !decide (i = 1)
def scanV : List SI → List (V × V) → Due
  | _, [] => .made
  | ks, (n, p) :: r => match n with
    | .str z => if nameB z then (if z ∈ ks.map (·.1) then .twice n else (match p with | .int i => if perB i then scanV (ks ++ [(z, i)]) r else .period p | _ => .period p)) else .name n
    | _ => .name n
def dueV (its : List (V × V)) : Due := if its.length = 0 then .none else if 8 < its.length then .many its.length else scanV [] its
/-- turns so far -/
structure PreK (ks : List SI) : Prop where
  nd : Nds ks
  ok : ∀ c ∈ ks, nameB c.1 = true ∧ perB c.2 = true
theorem PreK.nil : PreK [] := ⟨List.nodup_nil, fun _ h => nomatch h⟩
theorem PreK.snoc {ks : List SI} {z : Str} {i : Int} (h : PreK ks) (h1 : nameB z = true) (h2 : z ∉ ks.map (·.1)) (h3 : perB i = true) : PreK (ks ++ [(z, i)]) := by
  refine ⟨?_, fun c hc => ?_⟩
  · unfold Nds
    rw [List.map_append, List.nodup_append]
    refine ⟨h.nd, by simp, fun a ha b hb e => ?_⟩
    have hb : b = z := by simpa using hb
    exact h2 (by rw [← hb, ← e]; exact ha)
  · rcases List.mem_append.mp hc with hc | hc
    · exact h.ok c hc
    · rw [List.mem_singleton.mp hc]
      exact ⟨h1, h3⟩
theorem nameB_ok {z : Str} (h : nameB z = true) : NmOk z := by
  unfold nameB at h
  split at h
  · cases h
  · rename_i c r e
    rw [Bool.and_eq_true, Bool.and_eq_true, decide_eq_true_eq, decide_eq_true_eq, List.all_eq_true] at h
    refine ⟨c, r, e, h.2.1, h.1, fun d hd => ?_⟩
    have := h.2.2 d (List.mem_cons_of_mem _ hd)
    unfold ldB at this
    rw [Bool.or_eq_true, decide_eq_true_eq, decide_eq_true_eq] at this
    exact this
theorem perB_ok {i : Int} (h : perB i = true) : i = 0 ∨ 2 ≤ i := by
  unfold perB at h
  rw [Bool.and_eq_true, decide_eq_true_eq, Bool.not_eq_true', decide_eq_false_iff_not] at h
  omega
theorem PreK.ksok {ks : List SI} (h : PreK ks) (n0 : 0 < ks.length) (n8 : ks.length ≤ 8) : KsOk ks := ⟨n0, n8, h.nd, fun c hc => ⟨nameB_ok (h.ok c hc).1, perB_ok (h.ok c hc).2⟩⟩
theorem scan_made : ∀ {its : List (V × V)} {ks : List SI}, PreK ks → scanV ks its = .made → ∃ ls, its = ls.map siV ∧ PreK (ks ++ ls)
  | [], ks, h, _ => ⟨[], rfl, by rw [List.append_nil]; exact h⟩
  | (n, p) :: r, ks, h, e => by
    unfold scanV at e
    split at e
    · rename_i z
      split at e
      · rename_i hz
        split at e
        · cases e
        · rename_i hn
          split at e
          · rename_i i
            split at e
            · rename_i hp
              obtain ⟨ls, rfl, h2⟩ := scan_made (h.snoc hz hn hp) e
              exact ⟨(z, i) :: ls, rfl, by rw [List.append_assoc] at h2; exact h2⟩
            · cases e
          · cases e
      · cases e
    · cases e
theorem due_made {its : List (V × V)} (h : dueV its = .made) : ∃ ks, its = ks.map siV ∧ KsOk ks := by
  unfold dueV at h
  split at h
  · cases h
  · rename_i h0
    split at h
    · cases h
    · rename_i h8
      obtain ⟨ls, rfl, h2⟩ := scan_made PreK.nil h
      rw [List.length_map] at h0 h8
      exact ⟨ls, rfl, h2.ksok (by show 0 < ([] ++ ls).length; rw [List.nil_append]; omega) (by rw [List.nil_append]; omega)⟩
theorem scan_ks : ∀ {ls ks : List SI}, PreK (ks ++ ls) → scanV ks (ls.map siV) = .made
  | [], _, _ => rfl
  | c :: ls, ks, h => by
    obtain ⟨z, i⟩ := c
    have hc := h.ok (z, i) (List.mem_append_right _ List.mem_cons_self)
    have hn : z ∉ ks.map (·.1) := fun hm => by
      have := h.nd
      unfold Nds at this
      rw [List.map_append, List.nodup_append] at this
      exact this.2.2 z hm z List.mem_cons_self rfl
    show scanV ks ((.str z, .int i) :: ls.map siV) = _
    unfold scanV
    show (if nameB z = true then (if z ∈ ks.map (·.1) then _ else (if perB i = true then scanV (ks ++ [(z, i)]) (ls.map siV) else _)) else _) = Due.made
    rw [if_pos hc.1, if_neg hn, if_pos hc.2]
    exact scan_ks (by rw [List.append_assoc]; exact h)
theorem due_ks {ks : List SI} (h : KsOk ks) : dueV (ks.map siV) = .made := by
  unfold dueV
  rw [List.length_map, if_neg (by have := h.n0; omega), if_neg (by have := h.n8; omega)]
  refine scan_ks (ks := []) ⟨h.nd, fun c hc => ⟨nameB_of (h.ok c hc).1, ?_⟩⟩
  have := (h.ok c hc).2
  unfold perB
  rw [Bool.and_eq_true, decide_eq_true_eq, Bool.not_eq_true', decide_eq_false_iff_not]
  omega
theorem scan_name {n p : V} {ks : List SI} {r : List (V × V)} (h : ∀ z, n = .str z → nameB z = false) : scanV ks ((n, p) :: r) = .name n := by
  unfold scanV
  split
  · rename_i z
    rw [if_neg (by rw [h z rfl]; exact Bool.false_ne_true)]
  · rfl
theorem scan_twice {z : Str} {p : V} {ks : List SI} {r : List (V × V)} (h1 : nameB z = true) (h2 : z ∈ ks.map (·.1)) : scanV ks ((.str z, p) :: r) = .twice (.str z) := by
  show (if nameB z = true then (if z ∈ ks.map (·.1) then _ else _) else _) = _
  rw [if_pos h1, if_pos h2]
theorem scan_per {z : Str} {p : V} {ks : List SI} {r : List (V × V)} (h1 : nameB z = true) (h2 : z ∉ ks.map (·.1)) (h3 : ∀ i, p = .int i → perB i = false) : scanV ks ((.str z, p) :: r) = .period p := by
  show (if nameB z = true then (if z ∈ ks.map (·.1) then _ else _) else _) = _
  rw [if_pos h1, if_neg h2]
  split
  · rename_i i
    rw [if_neg (by rw [h3 i rfl]; exact Bool.false_ne_true)]
  · rfl
theorem scan_go {z : Str} {i : Int} {ks : List SI} {r : List (V × V)} (h1 : nameB z = true) (h2 : z ∉ ks.map (·.1)) (h3 : perB i = true) : scanV ks ((.str z, .int i) :: r) = scanV (ks ++ [(z, i)]) r := by
  show (if nameB z = true then (if z ∈ ks.map (·.1) then _ else (if perB i = true then _ else _)) else _) = _
  rw [if_pos h1, if_neg h2, if_pos h3]
/-- so far all is well -/
structure Upto (its : List (V × V)) (i : Nat) (ks : List SI) : Prop where
  pre : PreK ks
  tk : its.take i = ks.map siV
  sc : scanV ks (its.drop i) = scanV [] its
theorem Upto.zero {its : List (V × V)} : Upto its 0 [] := ⟨PreK.nil, rfl, rfl⟩
theorem Upto.len {its : List (V × V)} {i : Nat} {ks : List SI} (h : Upto its i ks) (hi : i ≤ its.length) : ks.length = i := by
  have := congrArg List.length h.tk
  rw [List.length_take, List.length_map] at this
  omega
theorem Upto.at_ {its : List (V × V)} {i : Nat} {ks : List SI} {c : V × V} (h : Upto its i ks) (hc : its[i]? = some c) : scanV ks (c :: its.drop (i + 1)) = scanV [] its := by
  obtain ⟨hi, e⟩ := List.getElem?_eq_some_iff.mp hc
  rw [← h.sc, List.drop_eq_getElem_cons hi, e]
theorem Upto.go {its : List (V × V)} {i : Nat} {ks : List SI} {z : Str} {e : Int} (h : Upto its i ks) (hc : its[i]? = some (.str z, .int e)) (h1 : nameB z = true) (h2 : z ∉ ks.map (·.1)) (h3 : perB e = true) : Upto its (i + 1) (ks ++ [(z, e)]) := by
  refine ⟨h.pre.snoc h1 h2 h3, ?_, ?_⟩
  · rw [List.take_add_one, hc, h.tk, List.map_append]
    rfl
  · rw [← h.at_ hc, scan_go h1 h2 h3]
theorem Upto.made {its : List (V × V)} {ks : List SI} (h : Upto its its.length ks) : scanV [] its = .made ∧ its = ks.map siV := by
  refine ⟨?_, ?_⟩
  · rw [← h.sc, List.drop_length]
    rfl
  · rw [← h.tk, List.take_length]
theorem due_scan {its : List (V × V)} (h0 : its.length ≠ 0) (h8 : its.length ≤ 8) : dueV its = scanV [] its := by
  unfold dueV
  rw [if_neg h0, if_neg (by omega)]
theorem P2.mapr_inv {α β γ : Type} {R : α → β → Prop} {f : γ → β} : ∀ {l : List α} {m : List γ}, P2 R l (m.map f) → P2 (fun a c => R a (f c)) l m
  | [], [], _ => .nil
  | _ :: _, _ :: _, .cons h t => .cons h (P2.mapr_inv t)
theorem cut_to (xs : List V) (m : Nat) : cutV xs none (some (m : Int)) = xs.take m := by
  unfold cutV
  rw [HT.sIx_nat]
  show (xs.drop 0).take (min m xs.length - 0) = _
  rw [List.drop_zero, Nat.sub_zero]
  rcases Nat.le_total m xs.length with h | h
  · rw [Nat.min_eq_left h]
  · rw [Nat.min_eq_right h, List.take_length, List.take_of_length_le h]
theorem flat_strs : ∀ zs : List Str, (zs.map V.str).all flatV = true
  | [] => rfl
  | z :: zs => by rw [List.map_cons, List.all_cons, flat_strs zs]; rfl
theorem inV_strs (z : Str) : ∀ zs : List Str, inV (.str z) (zs.map V.str) = decide (z ∈ zs)
  | [] => rfl
  | y :: zs => by
    show ((y == z) || inV (.str z) (zs.map V.str)) = _
    rw [inV_strs z zs, Bool.eq_iff_iff, Bool.or_eq_true, decide_eq_true_eq, decide_eq_true_eq, List.mem_cons, beq_iff_eq]
    exact or_congr ⟨fun e => e.symm, fun e => e.symm⟩ Iff.rfl
/-- no instance of a class -/
def NoI (K : PySem.W.Frag) (H : Hp) (c : Value) (v : V) : Prop := ∃ t, TyX K H v t ∧ PySem.W.kitOne K t c = some false
theorem NoI.same {K : PySem.W.Frag} {H H' : Hp} {c : Value} {v : V} (s : Same H H') (h : NoI K H c v) : NoI K H' c v := let ⟨t, a, b⟩ := h; ⟨t, ty_same s a, b⟩
/-- a value that may stand for a name -/
def NvAt (K : PySem.W.Frag) (H : Hp) (v : V) : Prop := (∃ z, v = .str z ∧ z.length ≤ 1000) ∨ (NoI K H (.type "str") v ∧ (∀ z, v ≠ .str z) ∧ Slf v)
/-- one that may stand for a period -/
def PvAt (K : PySem.W.Frag) (H : Hp) (v : V) : Prop := (∃ i, v = .int i) ∨ (∃ b, v = .bl b) ∨ ((∃ t, TyX K H v t ∧ PySem.W.kitOne K t (.type "int") = some false ∧ PySem.W.kitOne K t (.type "bool") = some false) ∧ (∀ i, v ≠ .int i) ∧ Slf v)
theorem NvAt.same {K : PySem.W.Frag} {H H' : Hp} {v : V} (s : Same H H') (h : NvAt K H v) : NvAt K H' v := h.imp (fun h => h) fun h => ⟨h.1.same s, h.2⟩
theorem PvAt.same {K : PySem.W.Frag} {H H' : Hp} {v : V} (s : Same H H') (h : PvAt K H v) : PvAt K H' v := h.imp (fun h => h) fun h => h.imp (fun h => h) fun h => ⟨let ⟨t, a, b⟩ := h.1; ⟨t, ty_same s a, b⟩, h.2⟩


theorem nv_no {K : PySem.W.Frag} {H : Hp} {v : V} (h : NoI K H (.type "str") v) : ∀ z, v ≠ .str z := by
  rintro z rfl
  obtain ⟨t, ty, e⟩ := h
  cases ty with
  | base h => cases h with
    | str _ => rw [show PySem.W.kitOne K (.type "str") (.type "str") = some true from kit_ty (by decide +kernel)] at e; cases e
theorem pv_no {K : PySem.W.Frag} {H : Hp} {v : V} (h : NoI K H (.type "int") v) : ∀ i, v ≠ .int i := by
  rintro i rfl
  obtain ⟨t, ty, e⟩ := h
  cases ty with
  | base h => cases h with
    | int _ => rw [show PySem.W.kitOne K (.type "int") (.type "int") = some true from kit_ty (by decide +kernel)] at e; cases e
theorem NvAt.slf {K : PySem.W.Frag} {H : Hp} {v : V} (h : NvAt K H v) : Slf v := by
  rcases h with ⟨z, rfl, _⟩ | ⟨_, _, h⟩
  · exact .inl rfl
  · exact h
theorem PvAt.slf {K : PySem.W.Frag} {H : Hp} {v : V} (h : PvAt K H v) : Slf v := by
  rcases h with ⟨i, rfl⟩ | ⟨b, rfl⟩ | ⟨_, _, h⟩
  · exact .inl rfl
  · exact .inl rfl
  · exact h
theorem scan_slf : ∀ {its : List (V × V)} {ks : List SI}, (∀ c ∈ its, Slf c.1 ∧ Slf c.2) → ∀ v ∈ dueT (scanV ks its), Slf v
  | [], _, _, v, hv => by
    have hv : v = .str "made" := List.mem_singleton.mp hv
    rw [hv]
    exact .inl rfl
  | (n, p) :: r, ks, h, v, hv => by
    have two : ∀ {z : Str} {x : V}, Slf x → v ∈ [V.str z, x] → Slf v := fun hx hv => by
      rcases List.mem_cons.mp hv with rfl | hv
      · exact .inl rfl
      · rw [List.mem_singleton.mp hv]
        exact hx
    obtain ⟨hn, hp⟩ := h (n, p) List.mem_cons_self
    unfold scanV at hv
    split at hv
    · split at hv
      · split at hv
        · exact two hn hv
        · split at hv
          · split at hv
            · exact scan_slf (fun c hc => h c (List.mem_cons_of_mem _ hc)) v hv
            · exact two hp hv
          · exact two hp hv
      · exact two hn hv
    · exact two hn hv
theorem due_slf {its : List (V × V)} (h : ∀ c ∈ its, Slf c.1 ∧ Slf c.2) : ∀ v ∈ dueT (dueV its), Slf v := by
  unfold dueV
  split
  · intro v hv
    rw [List.mem_singleton.mp hv]
    exact .inl rfl
  · split
    · intro v hv
      have hv : v ∈ [V.str "many", .str "turns", .int (its.length : Nat), .int 8] := hv
      simp only [List.mem_cons, List.not_mem_nil, or_false] at hv
      rcases hv with rfl | rfl | rfl | rfl <;> exact .inl rfl
    · exact scan_slf h
end Tr

/-! # k10: the law's own form of names; what is due. -/
namespace Tr
open PySem L2 TL
/-- steps of a reading that are plain -/
local macro_rules | `(tactic| walk_at "x") => `(tactic| (refine' ⟨_, _, _, _, rfl, rfl, ?k1, ?k2, ?_⟩; (case k1 => exact SqT.of (by assumption)); (case k2 => exact rfl)))
local macro_rules | `(tactic| walk_at "g") => `(tactic| repeat (first | (refine ⟨_, rfl, ?_⟩) | (refine ⟨_, _, rfl, rfl, ?_⟩) | (refine ⟨_, _, rfl, ?_⟩) | (refine ⟨rfl, ?_⟩) | walk_at "x"))


def nmB : V → Bool
  | .str z => nameB z
  | _ => false
theorem nmB_no {v : V} (h : ∀ z, v ≠ .str z) : nmB v = false := by
  cases v with
  | str z => exact (h z rfl).elim
  | _ => rfl
theorem tl_ld : tl ("abcdefghijklmnopqrstuvwxyz0123456789" : Str) = List.range' 97 26 ++ List.range' 48 10 := by
  rw [tl_ofString]
  decide
theorem in_ld (c : Nat) : decide (c ∈ ("abcdefghijklmnopqrstuvwxyz0123456789" : Str).cps.toList) = ldB c := by
  have e : ("abcdefghijklmnopqrstuvwxyz0123456789" : Str).cps.toList = List.range' 97 26 ++ List.range' 48 10 := tl_ld
  rw [e]
  unfold ldB
  rw [Bool.eq_iff_iff, Bool.or_eq_true, decide_eq_true_eq, decide_eq_true_eq, decide_eq_true_eq, List.mem_append, List.mem_range'_1, List.mem_range'_1]
  unfold isL isD
  omega
section
variable {P : Program} {w : World} {K : PySem.W.Frag} {mg : Str → Option Value} {base : Heap}
def spLName (K : PySem.W.Frag) : Sp := fun vs H Q _ => ∃ x, vs = [x] ∧ NvAt K H x ∧ ∀ H', Same H H' → Q (.bl (nmB x)) H'
theorem c__law_is_name (T : Txt K mg) : Cal P w K mg base 1 "_law_is_name" (spLName K) [] := by
  refine calN T.d__law_is_name sc__law_is_name (fun vs H Q E h => ?_) (fun _ _ _ _ _ _ us hl => match us, hl with | [_], _ => rfl) (fun f cdv A outer s H vs Q E hr h => ?_)
  · obtain ⟨x, rfl, _⟩ := h
    rfl
  · obtain ⟨x, rfl, h, k⟩ := h
    refine ⟨_, (pss_cons (ps_if (PW.pt (pw_or (pt_not (pt_val (pe_callB call_isi (by rfl) T.b_isinstance (by decide +kernel) (pa_cons (pv 0) (pa_cons (pe_bltn (v := .ty "str") rfl T.b_str (by decide +kernel) rfl) pa_nil))))) (pw_or (pt_cmpR op_lt (pe_callB call_len (by rfl) T.b_len (by decide +kernel) (pa_cons (pv 0) pa_nil)) pe_int (nomark _)) (pw_or1 (pt_cmpR op_gt (pe_callB call_len (by rfl) T.b_len (by decide +kernel) (pa_cons (pv 0) pa_nil)) pe_int (nomark _)))))) (pss_one (ps_ret pe_bl)) pss_nil)
      (pss_cons (ps_if (pt_cmpR op_notIn_sign (pe_ix ix_str (pv 0) pe_int (fun _ _ => rfl)) pe_str (by rfl)) (pss_one (ps_ret pe_bl)) pss_nil)
      (pss_one (ps_ret (pe_callB (cr_all rfl) (by rfl) T.b_all (by decide +kernel) (pa_cons (pe_lc (own := [("_law_sign", 1)]) (g := gName 1) rfl sc__law_is_name.nd (pi_str (pv 0)) (blkOk_by (own := [("_law_sign", 1)]) (N := ["_law_value", "_law_sign"]) (sc := defScope s__law_is_name) (by decide +kernel)) (fun _ _ _ _ _ => (pg_name (i := 1) sc__law_is_name.nd rfl (Or.inl rfl))) (fun _ _ _ _ _ => pts_nil) (fun _ _ _ _ _ => (pe_cmpR op_in_sign (pv 1) pe_str (by rfl)))) pa_nil)))))), ?_⟩
    rcases h with ⟨z, rfl, hz⟩ | ⟨⟨t, ty, kt⟩, nz, _⟩
    · have hz2 : z.length ≤ sizeLine := Nat.le_trans hz (by decide)
      have hl : z.length = (tl z).length := len_tl z
      have nf : (∀ c r, tl z = c :: r → (decide (r.length ≤ 11) && (decide (isL c) && (c :: r).all ldB)) = false) → nameB z = false := fun h => by
        unfold nameB
        cases e : tl z with
        | nil => rfl
        | cons c r => exact h c r e
      have kf : nameB z = false → Q (.bl false) H := fun e => by
        have := k H (Same.refl H)
        rwa [show nmB (.str z) = nameB z from rfl, e] at this
      refine ⟨.str z, rfl, .str z, .ty "str", .type "str", _, true, rfl, .ty "str", .base (.str z), kit_ty (by decide +kernel), true, rfl, ?_⟩
      refine iteF ?_
      walk_at "g"
      refine ⟨_, z.length, rfl, ⟨hz2, rfl⟩, ?_⟩
      walk_at "g"
      refine iteB (fun c1 => ?_) (fun c1 => ?_)
      · refine iteT ?_
        walk_at "g"
        refine kf (nf fun c r e => ?_)
        rw [e, List.length_cons] at hl
        simp at c1
        omega
      walk_at "g"
      refine ⟨_, z.length, rfl, ⟨hz2, rfl⟩, ?_⟩
      walk_at "g"
      refine iteB (fun c2 => ?_) (fun c2 => ?_)
      · walk_at "g"
        refine kf (nf fun c r e => ?_)
        have hl2 : ¬ r.length ≤ 11 := by
          rw [e, List.length_cons] at hl
          simp at c2
          omega
        rw [decide_eq_false hl2]
        rfl
      have hl2 : z.length ≤ 12 := by
        simp at c2
        omega
      cases e : tl z with
      | nil =>
        rw [e] at hl
        simp at c1
        simp at hl
        omega
      | cons c r =>
        have hr2 : r.length ≤ 11 := by
          rw [e, List.length_cons] at hl
          omega
        have nv : nameB z = (decide (isL c) && (c :: r).all ldB) := by
          unfold nameB
          rw [e]
          show (decide (r.length ≤ 11) && _) = _
          rw [decide_eq_true hr2, Bool.true_and]
        walk_at "g"
        refine ⟨z, 0, c, rfl, rfl, hz2, (by show atI (tl z) ((0 : Nat) : Int) = _; rw [e]; exact atI_nat (j := 0) rfl), ?_⟩
        walk_at "g"
        rw [in_abc]
        refine iteB (fun c3 => ?_) (fun c3 => ?_)
        · refine kf ?_
          have : decide (isL c) = false := by simpa using c3
          rw [nv, this, Bool.false_and]
        have c4 : decide (isL c) = true := by simpa using c3
        walk_at "g"
        refine fun D nD => ?_
        refine lc_gen walk_txt (cs := tl z) (fun c => [some (.str z), some (.str ⟨#[c]⟩)]) (fun _ => true) (fun y c _ => y = .bl (ldB c)) (fun _ _ _ _ _ _ _ e => e) nD (by omega) (fun _ _ => trivial) ?_ (fun _ _ => rfl) (fun c _ H Q _ q => q H (Same.refl H)) ?_ ?_
        · rintro i H2 x H3 c hc s2 ⟨rfl, d, hd, rfl⟩
          rw [hc] at hd
          cases hd
          exact ⟨Same.refl _, fun Q q => q⟩
        · intro d hd _ H2 Q2 s2 q
          walk_at "g"
          rw [in_ld]
          exact q _ _ (Same.refl _) rfl
        · intro ys H2 s2 hD2 py
          rw [filter_all] at py
          have ey := py.eq_map
          walk_at "g"
          refine ⟨D, (tl z).map ldB, rfl, SqL.of (by rw [hD2, ey, List.map_map]; rfl), ?_⟩
          have := k H2 s2
          rw [show nmB (.str z) = nameB z from rfl, nv, c4, Bool.true_and, ← e] at this
          have e2 : ((tl z).map ldB).all id = (tl z).all ldB := by rw [List.all_map]; rfl
          rw [e2]
          exact this
    · refine ⟨x, rfl, x, .ty "str", t, _, false, rfl, .ty "str", ty, kt, false, rfl, ?_⟩
      refine iteT ?_
      walk_at "g"
      have := k H (Same.refl H)
      rwa [nmB_no nz] at this
/-- a pair of the law's list -/
def ItT (K : PySem.W.Frag) (H : Hp) (u : Addr) (c : V × V) : Prop := H u = some (.tup [c.1, c.2]) ∧ NvAt K H c.1 ∧ PvAt K H c.2
theorem ItT.same {H H' : Hp} {u : Addr} {c : V × V} (s : Same H H') (h : ItT K H u c) : ItT K H' u c := ⟨s _ _ h.1, h.2.1.same s, h.2.2.same s⟩
def spDue (K : PySem.W.Frag) : Sp := fun vs H Q _ => ∃ (l : Addr) (us : List Addr) (its : List (V × V)), vs = [.ref l] ∧ SqL K H l (us.map V.ref) ∧ P2 (ItT K H) us its ∧ its.length ≤ 11 ∧ ∀ u H', Same H H' → H' u = some (.tup (dueT (dueV its))) → Q (.ref u) H'
theorem c__law_due (T : Txt K mg) : Cal P w K mg base 3 "_law_due" (spDue K) [] := by
  have c__law_is_name := @c__law_is_name P w K mg base T
  refine calN T.d__law_due sc__law_due (fun vs H Q E h => ?_) (fun _ _ _ _ _ _ us hl => match us, hl with | [_], _ => rfl) (fun f cdv A outer s H vs Q E hr h => ?_)
  · obtain ⟨l, us, its, rfl, _⟩ := h
    rfl
  · obtain ⟨l, us, its, rfl, hl, hp, hn, k⟩ := h
    refine ⟨_, (pss_cons (ps_if (pt_cmpR (op_eqE (units_of hr)) (pv 0) (pe_lst pa_nil) (nomark _)) (pss_one (ps_ret (pe_tup (pa_cons pe_str pa_nil)))) pss_nil)
      (pss_cons (ps_if (pt_cmpR op_gt (pe_callB call_len (by rfl) T.b_len (by decide +kernel) (pa_cons (pv 0) pa_nil)) pe_int (nomark _)) (pss_one (ps_ret (pe_tup (pa_cons pe_str (pa_cons pe_str (pa_cons (pe_callB call_len (by rfl) T.b_len (by decide +kernel) (pa_cons (pv 0) pa_nil)) (pa_cons pe_int pa_nil))))))) pss_nil)
      (pss_cons (ps_for PassesOwn.never rfl (pi_range1 (by rfl) T.b_range (pa_cons (pe_callB call_len (by rfl) T.b_len (by decide +kernel) (pa_cons (pv 0) pa_nil)) pa_nil)) (pg_name (i := 1) sc__law_due.nd rfl (Or.inl rfl)) (pss_cons (ps_asg (pe_ix ix_list (pv 0) (pv 1) (fun _ _ => rfl)) (pg_tup rfl (pgs_cons (pg_name (i := 2) sc__law_due.nd rfl (Or.inl rfl)) (pgs_cons (pg_name (i := 3) sc__law_due.nd rfl (Or.inl rfl)) pgs_nil))))
      (pss_cons (ps_if (pt_not (pt_val (pe_cx c__law_is_name hr (by first | decide | omega) rfl passL (pa_cons (pv 2) pa_nil)))) (pss_one (ps_ret (pe_tup (pa_cons pe_str (pa_cons (pv 2) pa_nil))))) pss_nil)
      (pss_cons (ps_if (pt_cmpR op_in_seq (pv 2) (pe_lc (own := [("_law_pair", 4)]) (g := gName 4) rfl sc__law_due.nd (pi_listK K (pe_slice sl_list (pv 0) po_none (po_some (pv 1)))) (blkOk_by (own := [("_law_pair", 4)]) (N := ["_law_pairs", "_law_at", "_law_name", "_law_period", "_law_pair"]) (sc := defScope s__law_due) (by decide +kernel)) (fun _ _ _ _ _ => (pg_name (i := 4) sc__law_due.nd rfl (Or.inl rfl))) (fun _ _ _ _ _ => pts_nil) (fun _ _ _ _ _ => (pe_ix (ix_tupK K) (pv 4) pe_int (fun _ _ => rfl)))) (by rfl)) (pss_one (ps_ret (pe_tup (pa_cons pe_str (pa_cons (pv 2) pa_nil))))) pss_nil)
      (pss_one (ps_if (PW.pt (pw_or (pt_not (pt_val (pe_callB call_isi (by rfl) T.b_isinstance (by decide +kernel) (pa_cons (pv 3) (pa_cons (pe_bltn (v := .ty "int") rfl T.b_int (by decide +kernel) rfl) pa_nil))))) (pw_or (pt_val (pe_callB call_isi (by rfl) T.b_isinstance (by decide +kernel) (pa_cons (pv 3) (pa_cons (pe_bltn (v := .ty "bool") rfl T.b_bool (by decide +kernel) rfl) pa_nil)))) (pw_or (pt_cmpR op_lt (pv 3) pe_int (nomark _)) (pw_or1 (pt_cmpR op_eq (pv 3) pe_int (nomark _))))))) (pss_one (ps_ret (pe_tup (pa_cons pe_str (pa_cons (pv 3) pa_nil))))) pss_nil))))))
      (pss_one (ps_ret (pe_tup (pa_cons pe_str pa_nil))))))), ?_⟩
    have hlen := hp.len
    walk_at "g"
    refine ⟨by show 0 ≤ sizeLine; decide, fun e0 ne0 => ?_⟩
    have s0 := same_upd (o := .lst []) ne0
    have he0 : upd H e0 (.lst []) e0 = some (.lst []) := upd_same
    generalize upd H e0 (.lst []) = H0 at *
    refine ⟨l, e0, us.map V.ref, [], rfl, rfl, s0.seq hl, SqL.of he0, ?_⟩
    by_cases h0 : us = []
    · subst h0
      refine .inr ⟨rfl, rfl, ?_⟩
      have i0 : its = [] := by cases hp; rfl
      subst i0
      walk_at "g"
      refine iteT ?_
      walk_at "g"
      refine ⟨by show 1 ≤ sizeLine; decide, fun u nu => ?_⟩
      exact k u _ (s0.trans (same_upd nu)) upd_same
    have h0' : its.length ≠ 0 := fun e => h0 (List.length_eq_zero_iff.mp (hlen.trans e))
    refine .inl ⟨by rw [List.length_map]; show us.length ≠ 0; omega, ?_⟩
    walk_at "g"
    refine ⟨_, _, rfl, .inl ⟨_, s0.seq hl, rfl⟩, ?_⟩
    rw [List.length_map, hlen]
    walk_at "g"
    refine iteB (fun c1 => ?_) (fun c1 => ?_)
    · walk_at "g"
      refine ⟨_, _, rfl, .inl ⟨_, s0.seq hl, rfl⟩, ?_⟩
      rw [List.length_map, hlen]
      walk_at "g"
      refine ⟨by show 4 ≤ sizeLine; decide, fun u nu => ?_⟩
      refine k u _ (s0.trans (same_upd nu)) ?_
      unfold dueV
      rw [if_neg h0', if_pos (by have := of_decide_eq_true c1; omega)]
      exact upd_same
    have h8 : its.length ≤ 8 := by have := of_decide_eq_false c1; omega
    rw [due_scan h0' h8] at k
    walk_at "g"
    refine ⟨_, _, rfl, .inl ⟨_, s0.seq hl, rfl⟩, ?_⟩
    rw [List.length_map, hlen]
    refine ⟨(its.length : Int), rfl, by omega, by omega, ?_⟩
    refine for_range (lo := 0) (n := its.length) (fun i σ H' => ∃ (v1 v2 v3 v4 : Option V) (ks : List SI), σ = [some (.ref l), v1, v2, v3, v4] ∧ Same H H' ∧ Upto its i ks) ⟨_, _, _, _, [], rfl, s0, Upto.zero⟩ ?_ ?_
    · rintro i σ H1 hi ⟨v1, v2, v3, v4, ks, rfl, s1, hU⟩
      obtain ⟨u, hu⟩ : ∃ u, us[i]? = some u := ⟨_, List.getElem?_eq_getElem (by omega)⟩
      obtain ⟨c, hc, hit⟩ := hp.getl hu
      obtain ⟨n, p⟩ := c
      have htu : H u = some (.tup [n, p]) := hit.1
      have hnv : NvAt K H n := hit.2.1
      have hpv : PvAt K H p := hit.2.2
      walk_at "g"
      refine ⟨l, _, (i : Int), .ref u, rfl, (by rw [show (0 : Int) + (i : Int) = (i : Int) by omega]), s1.seq hl, atI_nat (by rw [List.getElem?_map, hu]; rfl), ?_⟩
      refine ⟨u, _, rfl, SqT.of (s1 _ _ htu), rfl, _, _, rfl, _, _, rfl, rfl, ?_⟩
      walk_at "g"
      refine ⟨hnv.same s1, fun H2 s2 => ?_⟩
      walk_at "g"
      have hat := hU.at_ hc
      have hil : ks.length = i := hU.len (Nat.le_of_lt hi)
      cases hb : nmB n with
      | false =>
        refine iteT ?_
        walk_at "g"
        refine ⟨by show 2 ≤ sizeLine; decide, fun u2 nu2 => ?_⟩
        refine k u2 _ ((s1.trans s2).trans (same_upd nu2)) ?_
        rw [← hat, scan_name (fun z e => by rw [e] at hb; exact hb)]
        exact upd_same
      | true =>
      obtain ⟨z, rfl⟩ : ∃ z, n = .str z := by
        cases n with
        | str z => exact ⟨z, rfl⟩
        | _ => cases hb
      have hz : nameB z = true := hb
      refine iteF ?_
      walk_at "g"
      have hcut : (cutV (us.map V.ref) none (some (0 + (i : Int)))) = (us.take i).map V.ref := by
        rw [show (0 : Int) + (i : Int) = (i : Int) by omega, cut_to, List.map_take]
      have s12 := s1.trans s2
      refine ⟨l, _, rfl, s12.seq hl, fun p1 np1 => ?_⟩
      rw [hcut]
      have s3 := same_upd (o := .lst ((us.take i).map V.ref)) np1
      have hp1 : upd H2 p1 (.lst ((us.take i).map V.ref)) p1 = some (.lst ((us.take i).map V.ref)) := upd_same
      generalize upd H2 p1 (.lst ((us.take i).map V.ref)) = H3 at *
      have s13 := s12.trans s3
      walk_at "g"
      refine ⟨⟨_, SqL.of hp1⟩, fun D nD => ?_⟩
      have pk : P2 (fun u (c : SI) => H u = some (.tup [.str c.1, .int c.2])) (us.take i) ks := by
        have := hp.take i
        rw [hU.tk] at this
        exact (P2.mapr_inv this).mono fun _ _ e => e.1
      refine lc_ref walk_list pk (fun y c _ => y = .str c.1) (fun _ _ _ _ _ _ _ e => e) nD (by omega) (fun H' s' => SqL.of (s' _ _ hp1)) (fun _ => rfl) ?_ ?_
      · intro u' c' hc' hu' H4 Q4 s4 q4
        walk_at "g"
        refine ⟨u', _, 0, _, rfl, rfl, SqT.of (s4 _ _ (s13 _ _ hu')), atI_nat (j := 0) rfl, ?_⟩
        exact q4 _ _ (Same.refl _) rfl
      intro ys H4 s4 hD4 py
      have ey := py.eq_map
      subst ey
      have hD4 : H4 D = some (.lst ((ks.map (·.1)).map V.str)) := by rw [hD4, List.map_map]; rfl
      walk_at "g"
      refine ⟨D, _, rfl, .inl (SqL.of hD4), rfl, flat_strs _, ?_⟩
      rw [inV_strs]
      walk_at "g"
      have s14 := s13.trans s4
      refine iteB (fun c1 => ?_) (fun c1 => ?_)
      · have hm : z ∈ ks.map (·.1) := by simpa using c1
        walk_at "g"
        refine ⟨by show 2 ≤ sizeLine; decide, fun u2 nu2 => ?_⟩
        refine k u2 _ (s14.trans (same_upd nu2)) ?_
        rw [← hat, scan_twice hz hm]
        exact upd_same
      have hm : z ∉ ks.map (·.1) := by simpa using c1
      have bad : (∀ i, p = .int i → perB i = false) → ∀ u2, H4 u2 = none → Q (.ref u2) (upd H4 u2 (.tup [.str "period", p])) := fun hb u2 nu2 => by
        refine k u2 _ (s14.trans (same_upd nu2)) ?_
        rw [← hat, scan_per hz hm hb]
        exact upd_same
      walk_at "g"
      rcases hpv with ⟨e, rfl⟩ | ⟨b, rfl⟩ | ⟨⟨t, ty, kt, _⟩, np, _⟩
      · refine ⟨.int e, .ty "int", .type "int", _, true, rfl, .ty "int", .base (.int e), kit_ty (by decide +kernel), true, rfl, ?_⟩
        refine iteF ?_
        walk_at "g"
        refine ⟨.int e, .ty "bool", .type "int", _, false, rfl, .ty "bool", .base (.int e), kit_ty (by decide +kernel), false, rfl, ?_⟩
        refine iteF ?_
        walk_at "g"
        refine iteB (fun c2 => ?_) (fun c2 => ?_)
        · refine iteT ?_
          walk_at "g"
          refine ⟨by show 2 ≤ sizeLine; decide, bad fun i e => ?_⟩
          cases e
          have := of_decide_eq_true c2
          unfold perB
          rw [decide_eq_false (by omega)]
          rfl
        walk_at "g"
        have h0 : 0 ≤ e := by have := of_decide_eq_false c2; omega
        refine iteB (fun c3 => ?_) (fun c3 => ?_)
        · walk_at "g"
          refine ⟨by show 2 ≤ sizeLine; decide, bad fun i e => ?_⟩
          cases e
          have := of_dI c3
          unfold perB
          rw [decide_eq_true this, Bool.and_comm]
          rfl
        have h1 : e ≠ 1 := fun h => by rw [h] at c3; exact absurd c3 (by decide)
        refine ⟨_, _, _, _, ks ++ [(z, e)], rfl, s14, hU.go hc hz hm ?_⟩
        unfold perB
        rw [decide_eq_true h0, decide_eq_false h1]
        rfl
      · refine ⟨.bl b, .ty "int", .type "bool", _, true, rfl, .ty "int", .base (.bl b), kit_ty (by decide +kernel), true, rfl, ?_⟩
        refine iteF ?_
        walk_at "g"
        refine ⟨.bl b, .ty "bool", .type "bool", _, true, rfl, .ty "bool", .base (.bl b), kit_ty (by decide +kernel), true, rfl, ?_⟩
        refine iteT ?_
        walk_at "g"
        exact ⟨by show 2 ≤ sizeLine; decide, bad fun i e => nomatch e⟩
      · refine ⟨p, .ty "int", t, _, false, rfl, .ty "int", ty_same s14 ty, kt, false, rfl, ?_⟩
        refine iteT ?_
        walk_at "g"
        exact ⟨by show 2 ≤ sizeLine; decide, bad fun i e => (np i e).elim⟩
    · rintro σ H1 ⟨v1, v2, v3, v4, ks, rfl, s1, hU⟩
      walk_at "g"
      refine ⟨by show 1 ≤ sizeLine; decide, fun u nu => ?_⟩
      refine k u _ (s1.trans (same_upd nu)) ?_
      rw [hU.made.1]
      exact upd_same
end
end Tr

/-! # k10: Turns made of anything. -/
namespace Tr
open PySem L2 TL
/-- steps of a reading that are plain -/
local macro_rules | `(tactic| walk_at "x") => `(tactic| (refine' ⟨_, _, _, _, rfl, rfl, ?k1, ?k2, ?_⟩; (case k1 => exact SqT.of (by assumption)); (case k2 => exact rfl)))
local macro_rules | `(tactic| walk_at "g") => `(tactic| repeat (first | (refine ⟨_, rfl, ?_⟩) | (refine ⟨_, _, rfl, rfl, ?_⟩) | (refine ⟨_, _, rfl, ?_⟩) | (refine ⟨rfl, ?_⟩) | walk_at "x"))


/-- a pair that is handed in: a tuple or a list -/
def ItE (K : PySem.W.Frag) (H : Hp) (u : Addr) (c : V × V) : Prop := SqE K H u [c.1, c.2] ∧ NvAt K H c.1 ∧ PvAt K H c.2
theorem SqE.same {K : PySem.W.Frag} {H H' : Hp} {u : Addr} {xs : List V} (s : Same H H') (h : SqE K H u xs) : SqE K H' u xs := h.imp (fun h => s.seqT h) fun h => s.seq h
theorem ItE.same {K : PySem.W.Frag} {H H' : Hp} {u : Addr} {c : V × V} (s : Same H H') (h : ItE K H u c) : ItE K H' u c := ⟨h.1.same s, h.2.1.same s, h.2.2.same s⟩
theorem ItT.e {K : PySem.W.Frag} {H : Hp} {u : Addr} {c : V × V} (h : ItT K H u c) : ItE K H u c := ⟨.inl (SqT.of h.1), h.2⟩
theorem P2.of_mapr {α β γ : Type} {R : α → β → Prop} {f : γ → β} : ∀ {l : List α} {m : List γ}, P2 (fun a c => R a (f c)) l m → P2 R l (m.map f)
  | [], [], _ => .nil
  | _ :: _, _ :: _, .cons h t => .cons h (P2.of_mapr t)
theorem p2_zip {α β : Type} {R : α → β → Prop} : ∀ {us : List α} {cs : List β}, P2 R us cs → ∃ W : List (α × β), us = W.map (·.1) ∧ cs = W.map (·.2) ∧ ∀ w ∈ W, R w.1 w.2
  | _, _, .nil => ⟨[], rfl, rfl, fun _ h => nomatch h⟩
  | u :: _, c :: _, .cons h t => by
    obtain ⟨W, rfl, rfl, hW⟩ := p2_zip t
    refine ⟨(u, c) :: W, rfl, rfl, fun w hw => ?_⟩
    rcases List.mem_cons.mp hw with rfl | hw
    · exact h
    · exact hW w hw
/-- the error that is due -/
def DueX (K : PySem.W.Frag) : Due → Value → Option Addr → Hp → Prop
  | .none, cls, d, _ => cls = .ref (He.ga K "NoTurns") ∧ d = none
  | .many n, cls, d, H => cls = .ref (He.ga K "TooMany") ∧ ∃ dd, d = some dd ∧ H dd = some (.xd [("most", .int 8), ("many", .int (n : Nat)), ("what", .str "turns")])
  | .name v, cls, d, H => cls = .ref (He.ga K "BadName") ∧ ∃ dd, d = some dd ∧ H dd = some (.xd [("name", v)])
  | .twice v, cls, d, H => cls = .ref (He.ga K "TwiceNamed") ∧ ∃ dd, d = some dd ∧ H dd = some (.xd [("name", v)])
  | .period v, cls, d, H => cls = .ref (He.ga K "BadPeriod") ∧ ∃ dd, d = some dd ∧ H dd = some (.xd [("period", v)])
  | .made, _, _, _ => False
section
variable {P : Program} [PM : PMain P] {w : World} {K : PySem.W.Frag} {mg : Str → Option Value} {base : Heap}
theorem x_BadName (T : Txt K mg) : Exm P w K mg base 1 "BadName" (He.ga K "BadName") (spE (He.ga K "BadName") ["name"]) := exn1 T.x_BadName ex_BadName
theorem x_TwiceNamed (T : Txt K mg) : Exm P w K mg base 1 "TwiceNamed" (He.ga K "TwiceNamed") (spE (He.ga K "TwiceNamed") ["name"]) := exn1 T.x_TwiceNamed ex_TwiceNamed
theorem x_BadPeriod (T : Txt K mg) : Exm P w K mg base 1 "BadPeriod" (He.ga K "BadPeriod") (spE (He.ga K "BadPeriod") ["period"]) := exn1 T.x_BadPeriod ex_BadPeriod
theorem x_NoTurns (T : Txt K mg) : Exm P w K mg base 1 "NoTurns" (He.ga K "NoTurns") (spE (He.ga K "NoTurns") []) := exn0 T.x_NoTurns ex_NoTurns
theorem x_TooMany (T : Txt K mg) : Exm P w K mg base 1 "TooMany" (He.ga K "TooMany") (spE (He.ga K "TooMany") ["what", "many", "most"]) := exn3 T.x_TooMany ex_TooMany
def spTurnsA (K : PySem.W.Frag) : Sp := fun vs H Q E => ∃ (x dx p : Addr) (us : List Addr) (its : List (V × V)), vs = [.ref x, .ref p] ∧ H x = some (.ins (He.ga K "Turns") dx []) ∧ (SqL K H p (us.map V.ref) ∨ SqT K H p (us.map V.ref)) ∧ P2 (ItE K H) us its ∧ its.length ≤ 11 ∧
  (∀ (ks : List SI) (H' : Hp), its = ks.map siV → KsOk ks → Kp x H H' → TuAt (He.ga K "Turns") H' x ks → (∀ b o, H b = some o → TuNe H' x b) → Q .non H') ∧ ∀ cls d H', Same H H' → DueX K (dueV its) cls d H' → E cls d H'
theorem m_TurnsA (T : Txt K mg) : Mak P w K mg base 4 "Turns" (He.ga K "Turns") (spTurnsA K) [] := by
  have c_is_name := @c_is_name P w K mg base T
  have c_is_whole := @c_is_whole P w K mg base T
  have x_BadName := @x_BadName P PM w K mg base T
  have x_TwiceNamed := @x_TwiceNamed P PM w K mg base T
  have x_BadPeriod := @x_BadPeriod P PM w K mg base T
  have x_NoTurns := @x_NoTurns P PM w K mg base T
  have x_TooMany := @x_TooMany P PM w K mg base T
  refine makX T.i_Turns sc_Turns___init__ (fun vs H Q E h => ?_) (fun dvs f fd hl F => by
    cases dvs with
    | nil => exact (funD0 F).binds fun _ _ _ _ _ _ us hl => match us, hl with | [_, _], _ => rfl
    | cons _ _ => cases hl) (fun f cdv A outer s H vs Q E hr h => ?_)
  · obtain ⟨x, dx, p, us, its, rfl, _⟩ := h
    rfl
  · obtain ⟨x, dx, p, us, its, rfl, hx, hP, pp, hn, k, kE⟩ := h
    refine ⟨_, (pss_cons (ps_setLc (i := 2) (own := [("name", 5), ("period", 6)]) (g := gSeq K 2 (gCons (gName 5) (gCons (gName 6) gNil))) rfl sc_Turns___init__.nd rfl rfl (sw_true rfl rfl rfl (by decide +kernel)) (pi_seqK K (pv 1)) (blkOk_by (own := [("name", 5), ("period", 6)]) (N := ["self", "pairs", "told", "periods", "ranks", "name", "period"]) (sc := defScope s_Turns___init__) (by decide +kernel)) (fun _ _ _ _ _ => (pg_seq rfl (pgs_cons (pg_name (i := 5) sc_Turns___init__.nd rfl (Or.inl rfl)) (pgs_cons (pg_name (i := 6) sc_Turns___init__.nd rfl (Or.inl rfl)) pgs_nil)))) (fun _ _ _ _ _ => pts_nil) (fun _ _ _ _ _ => (pe_tup (pa_cons (pv 5) (pa_cons (pv 6) pa_nil)))))
      (pss_cons (ps_if (pt_cmpR op_eq (pe_callB call_len (by rfl) T.b_len (by decide +kernel) (pa_cons (pv 2) pa_nil)) pe_int (nomark _)) (pss_one (ps_raise rfl (takes_of rfl rfl rfl rfl) (pmk_exn0 x_NoTurns hr (by first | decide | omega) rfl))) pss_nil)
      (pss_cons (ps_if (pt_cmpR op_gt (pe_callB call_len (by rfl) T.b_len (by decide +kernel) (pa_cons (pv 2) pa_nil)) (pe_ccon T.q_Turns__MOST (pe_glob (v := .ref (He.ga K "Turns")) (by rfl) T.v_Turns rfl)) (nomark _)) (pss_one (ps_raise rfl (takes_of rfl rfl rfl rfl) (pmk_exn x_TooMany hr (by first | decide | omega) rfl (pa_cons pe_str (pa_cons (pe_callB call_len (by rfl) T.b_len (by decide +kernel) (pa_cons (pv 2) pa_nil)) (pa_cons (pe_ccon T.q_Turns__MOST (pe_glob (v := .ref (He.ga K "Turns")) (by rfl) T.v_Turns rfl)) pa_nil))) (by simp)))) pss_nil)
      (pss_cons (ps_par (i := 3) (j := 4) (by rfl) sc_Turns___init__.nd rfl rfl (by decide) rfl rfl (pa_cons pe_dnewK (pa_cons pe_dnewK pa_nil)) (by rfl))
      (pss_cons (ps_for PassesOwn.leaving rfl (pi_list (pv 2)) (pg_seq rfl (pgs_cons (pg_name (i := 5) sc_Turns___init__.nd rfl (Or.inl rfl)) (pgs_cons (pg_name (i := 6) sc_Turns___init__.nd rfl (Or.inl rfl)) pgs_nil))) (pss_cons (ps_if (pt_not (pt_val (pe_cx c_is_name hr (by first | decide | omega) rfl (passE rfl rfl rfl rfl) (pa_cons (pv 5) pa_nil)))) (pss_one (ps_raise rfl (takes_of rfl rfl rfl rfl) (pmk_exn x_BadName hr (by first | decide | omega) rfl (pa_cons (pv 5) pa_nil) (by simp)))) pss_nil)
      (pss_cons (ps_if (pt_cmp (pc_din (hu_of hr) (pv 5) (pv 3))) (pss_one (ps_raise rfl (takes_of rfl rfl rfl rfl) (pmk_exn x_TwiceNamed hr (by first | decide | omega) rfl (pa_cons (pv 5) pa_nil) (by simp)))) pss_nil)
      (pss_cons (ps_if (PW.pt (pw_or (pt_not (pt_val (pe_cx c_is_whole hr (by first | decide | omega) rfl (passE rfl rfl rfl rfl) (pa_cons (pv 6) pa_nil)))) (pw_or (pt_cmpR op_lt (pv 6) pe_int (nomark _)) (pw_or1 (pt_cmpR op_eq (pv 6) pe_int (nomark _)))))) (pss_one (ps_raise rfl (takes_of rfl rfl rfl rfl) (pmk_exn x_BadPeriod hr (by first | decide | omega) rfl (pa_cons (pv 6) pa_nil) (by simp)))) pss_nil)
      (pss_cons (ps_dput (hu_of hr) (pv 4) (pv 5) (pe_callB call_lenD (by rfl) T.b_len (by decide +kernel) (pa_cons (pv 4) pa_nil)) rfl)
      (pss_one (ps_dput (hu_of hr) (pv 3) (pv 5) (pv 6) rfl)))))))
      (pss_cons (ps_fld (pv 0) (pe_callTy call_tuple_of (by rfl) T.b_tuple (by decide +kernel) (pa_cons (pv 2) pa_nil)) rfl)
      (pss_cons (ps_fld (pv 0) (pe_callTy call_tuple_of (by rfl) T.b_tuple (by decide +kernel) (pa_cons (pe_lc (own := [("name", 5), ("period", 6)]) (g := gSeq K 2 (gCons (gName 5) (gCons (gName 6) gNil))) rfl sc_Turns___init__.nd (pi_listK K (pv 2)) (blkOk_by (own := [("name", 5), ("period", 6)]) (N := ["self", "pairs", "told", "periods", "ranks", "name", "period"]) (sc := defScope s_Turns___init__) (by decide +kernel)) (fun _ _ _ _ _ => (pg_seq rfl (pgs_cons (pg_name (i := 5) sc_Turns___init__.nd rfl (Or.inl rfl)) (pgs_cons (pg_name (i := 6) sc_Turns___init__.nd rfl (Or.inl rfl)) pgs_nil)))) (fun _ _ _ _ _ => pts_nil) (fun _ _ _ _ _ => (pv 5))) pa_nil)) rfl)
      (pss_cons (ps_fld (pv 0) (pv 3) rfl)
      (pss_one (ps_fld (pv 0) (pv 4) rfl)))))))))), ?_⟩
    have hlen := pp.len
    walk_at "g"
    obtain ⟨W, eW1, eW2, hW⟩ := p2_zip pp
    subst eW1
    subst eW2
    rw [List.length_map] at hn
    refine iSeq_at (fun Q q => ⟨_, rfl, q⟩) hP fun J G hG wJ D nD => ?_
    have wl : Walk J W.length G (YAt ((W.map (·.1)).map V.ref)) := by
      rwa [List.length_map, List.length_map] at wJ
    refine lc_gen wl (fun c => [some (.ref x), some (.ref p), none, none, none, some c.2.1, some c.2.2]) (fun _ => true) (fun y c H => ∃ t, y = .ref t ∧ H t = some (.tup [c.2.1, c.2.2])) ?_ nD (by omega) (fun H' s' => hG _ s') ?_ (fun _ _ => rfl) (fun c _ H Q _ q => q H (Same.refl H)) ?_ ?_
    · rintro y c H H' acc hD kp ⟨t, rfl, ht⟩
      exact ⟨t, rfl, kp _ _ ht (ne_of ht hD (fun z => by cases z))⟩
    · rintro i H1 y H2 c hc s1 ⟨rfl, hy⟩
      rw [List.getElem?_map, List.getElem?_map, hc] at hy
      cases hy
      refine ⟨Same.refl _, fun Q q => ?_⟩
      exact ⟨c.1, _, rfl, (SqE.same s1 (hW c (mem_of_at hc)).1), rfl, _, _, rfl, _, _, rfl, rfl, q⟩
    · rintro c hc _ H2 Q2 s2 q2
      walk_at "g"
      refine ⟨by show 2 ≤ sizeLine; decide, fun t nt => ?_⟩
      exact q2 _ _ (same_upd nt) ⟨t, rfl, upd_same⟩
    intro ys H2 s2 hD2 py
    rw [filter_all] at py
    obtain ⟨as, rfl⟩ := py.ref (f := V.ref) (fun v b ⟨t, e, _⟩ => ⟨t, e⟩)
    have pa : P2 (fun t (c : V × V) => H2 t = some (.tup [c.1, c.2])) as (W.map (·.2)) := P2.of_mapr ((P2.map_l.mp py).mono fun t c ⟨t', e, r⟩ => by cases e; exact r)
    have la := pa.len
    obtain ⟨its, eI⟩ : ∃ its, its = W.map (·.2) := ⟨_, rfl⟩
    have hv : ∀ c ∈ its, NvAt K H c.1 ∧ PvAt K H c.2 := fun c hc => by
      rw [eI] at hc
      obtain ⟨w, hw, rfl⟩ := List.mem_map.mp hc
      exact (hW w hw).2
    have ln : its.length ≤ 11 := by rw [eI, List.length_map]; exact hn
    rw [← eI] at pa la k kE
    clear wl wJ hG hP pp py hlen hW hn eI nD
    walk_at "g"
    have lAs : (as.map V.ref).length = its.length := by rw [List.length_map, la]
    refine ⟨_, _, rfl, .inl ⟨_, SqL.of hD2, rfl⟩, ?_⟩
    rw [lAs]
    walk_at "g"
    refine iteB (fun c1 => ?_) (fun c1 => ?_)
    · have e0 : its.length = 0 := by have := of_dI c1; omega
      walk_at "g"
      refine kE _ _ _ s2 ?_
      unfold dueV
      rw [if_pos e0]
      exact ⟨rfl, rfl⟩
    have n0 : its.length ≠ 0 := fun e => by rw [e] at c1; exact absurd c1 (by decide)
    walk_at "g"
    refine ⟨_, _, rfl, .inl ⟨_, SqL.of hD2, rfl⟩, ?_⟩
    rw [lAs]
    walk_at "g"
    refine iteB (fun c2 => ?_) (fun c2 => ?_)
    · walk_at "g"
      refine ⟨_, _, rfl, .inl ⟨_, SqL.of hD2, rfl⟩, ?_⟩
      rw [lAs]
      walk_at "g"
      refine fun d nd => kE _ _ _ (s2.trans (same_upd nd)) ?_
      unfold dueV
      rw [if_neg n0, if_pos (by have := of_decide_eq_true c2; omega)]
      exact ⟨rfl, d, rfl, upd_same⟩
    have n8 : its.length ≤ 8 := by have := of_decide_eq_false c2; omega
    rw [due_scan n0 n8] at kE
    clear c1 c2
    walk_at "g"
    refine fun d3 nd3 => ?_
    walk_at "g"
    refine fun d4 nd4 => ?_
    walk_at "g"
    obtain ⟨H4, e4⟩ : ∃ H4, H4 = upd (upd H2 d3 (.dK [])) d4 (.dK []) := ⟨_, rfl⟩
    have n34 : d3 ≠ d4 := fun e => by
      rw [e, upd_same] at nd4
      cases nd4
    have hd3 : H4 d3 = some (.dK []) := by rw [e4]; exact (same_upd nd4) _ _ upd_same
    have hd4 : H4 d4 = some (.dK []) := by rw [e4]; exact upd_same
    have s24 : Same H2 H4 := by rw [e4]; exact (same_upd nd3).trans (same_upd nd4)
    rw [← e4]
    have n4 : H2 d4 = none := by
      cases e : H2 d4 with
      | none => rfl
      | some o => rw [(same_upd nd3) _ _ e] at nd4; cases nd4
    clear e4 nd4
    refine ⟨⟨_, SqL.of (s24 _ _ hD2)⟩, ?_⟩
    have wl : Walk (Itl K D) its.length (fun H => SqL K H D (as.map V.ref)) (YAt (as.map V.ref)) := by
      have := walk_list (K := K) (a := D) (xs := as.map V.ref)
      rwa [lAs] at this
    refine for_it wl (fun i σ H' => ∃ (a5 a6 : Option V) (ks : List SI), σ = [some (.ref x), some (.ref p), some (.ref D), some (.ref d3), some (.ref d4), a5, a6] ∧ Same H2 H' ∧ H' d3 = some (.dK (kdic ks)) ∧ H' d4 = some (.dK (rdic 0 ks)) ∧ Upto its i ks) ⟨_, _, [], rfl, s24, hd3, hd4, Upto.zero⟩ ?_ ?_ ?_
    · rintro i σ H' _ ⟨a5, a6, ks, rfl, s', _⟩
      exact SqL.of (s' _ _ hD2)
    · rintro i y σ H5 H5' hi ⟨a5, a6, ks, rfl, s5, h3, h4, hU⟩ ⟨rfl, hy⟩
      rw [List.getElem?_map] at hy
      obtain ⟨t, ht⟩ : ∃ t, as[i]? = some t := ⟨_, List.getElem?_eq_getElem (by omega)⟩
      rw [ht] at hy
      cases hy
      obtain ⟨c, hc, htu⟩ := pa.getl ht
      obtain ⟨n, pd⟩ := c
      have htu : H2 t = some (.tup [n, pd]) := htu
      obtain ⟨hnv, hpv⟩ : NvAt K H n ∧ PvAt K H pd := hv _ (mem_of_at hc)
      have hat := hU.at_ hc
      have hil : ks.length = i := hU.len (Nat.le_of_lt hi)
      refine ⟨t, _, rfl, .inl (SqT.of (s5 _ _ htu)), rfl, _, _, rfl, _, _, rfl, rfl, ?_⟩
      have s05 := s2.trans s5
      have kEn : nmB n = false → ∀ H6, Same H5' H6 → ∀ d, H6 d = none → E (.ref (He.ga K "BadName")) (some d) (upd H6 d (.xd [("name", n)])) := fun hb H6 s6 d nd => by
        refine kE _ _ _ ((s05.trans s6).trans (same_upd nd)) ?_
        rw [← hat, scan_name (fun z e => by rw [e] at hb; exact hb)]
        exact ⟨rfl, d, rfl, upd_same⟩
      walk_at "g"
      rcases hnv with ⟨z, rfl, hz⟩ | ⟨⟨tn, tyn, ktn⟩, nz, _⟩
      rotate_left
      · refine .inr ⟨tn, ty_same s05 tyn, ktn, ?_⟩
        walk_at "g"
        first | (refine iteT ?_; walk_at "g") | skip
        exact fun d nd => kEn (nmB_no nz) _ (Same.refl _) d nd
      refine .inl ⟨z, rfl, by omega, fun H6 s6 => ?_⟩
      walk_at "g"
      cases hb : nameB z with
      | false =>
        first | (refine iteT ?_; walk_at "g") | skip
        exact fun d nd => kEn hb _ s6 d nd
      | true =>
      refine iteF ?_
      have s06 := s05.trans s6
      by_cases hm : z ∈ ks.map (·.1)
      · obtain ⟨c0, hc0, e0⟩ := List.mem_map.mp hm
        obtain ⟨_, _, _, lk⟩ := lookS_mem (ks := ks) (z := z) ⟨c0, hc0, e0⟩
        have dg : DGet H6 d3 (.str z) ((lookS ks z).map V.int) := by
          have := DGet.k (k := (.inr z : Key)) (s6 _ _ h3)
          rw [valV_kdic] at this
          exact this
        rw [lk] at dg
        walk_at "g"
        refine ⟨d3, _, rfl, dg, ?_⟩
        walk_at "g"
        refine fun d nd => kE _ _ _ (s06.trans (same_upd nd)) ?_
        rw [← hat, scan_twice hb hm]
        exact ⟨rfl, d, rfl, upd_same⟩
      have new : ∀ d ∈ ks, d.1 ≠ z := fun d hd e => hm (List.mem_map.mpr ⟨d, hd, e⟩)
      have dg : DGet H6 d3 (.str z) none := by
        have := DGet.k (k := (.inr z : Key)) (s6 _ _ h3)
        rw [valV_kdic, lookS_none new] at this
        exact this
      have bad : (∀ i, pd = .int i → perB i = false) → ∀ d, H6 d = none → E (.ref (He.ga K "BadPeriod")) (some d) (upd H6 d (.xd [("period", pd)])) := fun hp d nd => by
        refine kE _ _ _ (s06.trans (same_upd nd)) ?_
        rw [← hat, scan_per hb hm hp]
        exact ⟨rfl, d, rfl, upd_same⟩
      walk_at "g"
      refine ⟨d3, _, rfl, dg, ?_⟩
      walk_at "g"
      rcases hpv with ⟨e, rfl⟩ | ⟨b, rfl⟩ | ⟨⟨tp, typ, kt1, kt2⟩, np, _⟩
      · refine ⟨_, _, rfl, isW_int _, ?_⟩
        walk_at "g"
        refine iteB (fun c2 => ?_) (fun c2 => ?_)
        · first | (refine iteT ?_; walk_at "g") | skip
          refine bad fun i e => ?_
          cases e
          have := of_decide_eq_true c2
          unfold perB
          rw [decide_eq_false (by omega)]
          rfl
        walk_at "g"
        have h0 : 0 ≤ e := by have := of_decide_eq_false c2; omega
        refine iteB (fun c3 => ?_) (fun c3 => ?_)
        · walk_at "g"
          refine bad fun i e => ?_
          cases e
          have := of_dI c3
          unfold perB
          rw [decide_eq_true this, Bool.and_comm]
          rfl
        have h1 : e ≠ 1 := fun h => by rw [h] at c3; exact absurd c3 (by decide)
        have hpb : perB e = true := by
          unfold perB
          rw [decide_eq_true h0, decide_eq_false h1]
          rfl
        clear c2 c3 bad
        walk_at "g"
        refine ⟨d4, _, rfl, s6 _ _ h4, ?_⟩
        walk_at "g"
        refine ⟨d4, _, rfl, DPut.k (k := (.inr z : Key)) (s6 _ _ h4) (by rw [rdic_len, hil]; exact Nat.lt_of_lt_of_le hi (Nat.le_trans n8 (by decide))), ?_⟩
        rw [rdic_len, rdic_put (c := (z, e)) new]
        obtain ⟨H7, e7⟩ : ∃ H7, H7 = upd H6 d4 (.dK (rdic 0 (ks ++ [(z, e)]))) := ⟨_, rfl⟩
        have s27 : Same H2 H7 := by rw [e7]; exact (s5.trans s6).wr n4
        have h47 : H7 d4 = some (.dK (rdic 0 (ks ++ [(z, e)]))) := by rw [e7]; exact upd_same
        have h37 : H7 d3 = some (.dK (kdic ks)) := by rw [e7, upd_ne n34]; exact s6 _ _ h3
        walk_at "g"
        refine ⟨d3, _, rfl, DPut.k (k := (.inr z : Key)) (by rw [← e7]; exact h37) (by unfold kdic; rw [List.length_map, hil]; exact Nat.lt_of_lt_of_le hi (Nat.le_trans n8 (by decide))), ?_⟩
        rw [← e7, kdic_put (c := (z, e)) new]
        refine ⟨_, _, ks ++ [(z, e)], rfl, s27.wr nd3, upd_same, ?_, hU.go hc hb hm hpb⟩
        rw [upd_ne n34.symm]
        exact h47
      · refine ⟨_, _, rfl, ⟨_, true, true, .base (.bl b), kit_ty (by decide +kernel), kit_ty (by decide +kernel), rfl⟩, ?_⟩
        walk_at "g"
        first | (refine iteT ?_; walk_at "g") | skip
        exact bad fun i e => nomatch e
      · refine ⟨_, _, rfl, ⟨_, false, false, ty_same s06 typ, kt1, kt2, rfl⟩, ?_⟩
        walk_at "g"
        first | (refine iteT ?_; walk_at "g") | skip
        exact bad fun i e => (np i e).elim
    · rintro σ H5 ⟨a5, a6, ks, rfl, s5, h3, h4, hU⟩
      have eI := hU.made.2
      have kso : KsOk ks := hU.pre.ksok (by rw [hU.len (Nat.le_refl _)]; omega) (by rw [hU.len (Nat.le_refl _)]; omega)
      have pa : P2 (SrT H2) as ks := by
        have := pa
        rw [eI] at this
        exact (P2.mapr_inv this).mono fun _ _ e => e
      have hx5 := (s2.trans s5) _ _ hx
      walk_at "g"
      refine ⟨D, _, rfl, .inl ⟨SqL.of (s5 _ _ hD2), fun p1 np1 => ?_⟩⟩
      have s6 := same_upd (o := .tup (as.map V.ref)) np1
      obtain ⟨H6, e6⟩ : ∃ H6, H6 = upd H5 p1 (.tup (as.map V.ref)) := ⟨_, rfl⟩
      have hp1 : H6 p1 = some (.tup (as.map V.ref)) := by rw [e6]; exact upd_same
      rw [← e6] at s6 ⊢
      clear e6
      have s26 := s5.trans s6
      walk_at "g"
      refine ⟨x, _, dx, _, rfl, s6 _ _ hx5, T.k_Turns, T.a_Turns__pairs, by show 0 < 1000; decide, ?_⟩
      obtain ⟨H7, e7⟩ : ∃ H7, H7 = upd H6 x (.ins (He.ga K "Turns") dx (putF "pairs" (.ref p1) [])) := ⟨_, rfl⟩
      have kp7 : Kp x H6 H7 := by rw [e7]; exact kp_upd x H6 _
      have hx7 : H7 x = some (.ins (He.ga K "Turns") dx [("pairs", .ref p1)]) := by rw [e7]; exact upd_same
      rw [← e7]
      clear e7
      have hx6 := s6 _ _ hx5
      have nx : ∀ {a : Addr} {o : HO}, H6 a = some o → (∀ C dx fs, o ≠ .ins C dx fs) → a ≠ x := fun h n => ne_of h hx6 (n _ _ _)
      have hD7 := kp7 _ _ (s26 _ _ hD2) (nx (s26 _ _ hD2) (fun _ _ _ => by intro z; cases z))
      have pa6 := pa.sameS s26
      have pa7 : P2 (SrT H7) as ks := pa6.mono fun t c e => kp7 _ _ e (nx e (fun _ _ _ => by intro z; cases z))
      walk_at "g"
      refine ⟨⟨_, SqL.of hD7⟩, fun D2 nD2 => ?_⟩
      obtain ⟨W2, w1, w2, hW2⟩ := p2_zip pa7
      have lW2 : W2.length = as.length := by rw [w1, List.length_map]
      have wl2 : Walk (Itl K D) W2.length (fun H => SqL K H D (as.map V.ref)) (YAt (as.map V.ref)) := by
        have := walk_list (K := K) (a := D) (xs := as.map V.ref)
        rwa [List.length_map, ← lW2] at this
      refine lc_gen wl2 (fun c => [some (.ref x), some (.ref p), some (.ref D), some (.ref d3), some (.ref d4), some (.str c.2.1), some (.int c.2.2)]) (fun _ => true) (fun y c H => y = .str c.2.1) (fun _ _ _ _ _ _ _ e => e) nD2 (by omega) (fun H' s' => s'.seq (SqL.of hD7)) ?_ (fun _ _ => rfl) (fun c _ H Q _ q => q H (Same.refl H)) ?_ ?_
      · rintro i H1 y H8 c hc s1 ⟨rfl, hy⟩
        rw [w1, List.getElem?_map, List.getElem?_map, hc] at hy
        cases hy
        refine ⟨Same.refl _, fun Q q => ?_⟩
        exact ⟨c.1, _, rfl, .inl (SqT.of (s1 _ _ (hW2 c (mem_of_at hc)))), rfl, _, _, rfl, _, _, rfl, rfl, q⟩
      · intro c hcm _ H8 Q8 s8 q
        walk_at "g"
        exact q _ _ (Same.refl _) rfl
      · intro ys H8 s8 hD8 py
        rw [filter_all] at py
        have ey : ys = ks.map fun c => V.str c.1 := by
          rw [py.eq_map, w2, List.map_map]
          rfl
        walk_at "g"
        refine ⟨D2, _, rfl, .inl ⟨SqL.of hD8, fun p2 np2 => ?_⟩⟩
        have s9 := same_upd (o := .tup ys) np2
        obtain ⟨H9, e9⟩ : ∃ H9, H9 = upd H8 p2 (.tup ys) := ⟨_, rfl⟩
        have hp2 : H9 p2 = some (.tup ys) := by rw [e9]; exact upd_same
        rw [← e9] at s9 ⊢
        clear e9
        have s79 := s8.trans s9
        walk_at "g"
        refine ⟨x, _, dx, _, rfl, s79 _ _ hx7, T.k_Turns, T.a_Turns__names, by show 1 < 1000; decide, ?_⟩
        walk_at "g"
        refine ⟨x, _, dx, _, rfl, upd_same, T.k_Turns, T.a_Turns__periods, by show 2 < 1000; decide, ?_⟩
        walk_at "g"
        refine ⟨x, _, dx, _, rfl, upd_same, T.k_Turns, T.a_Turns__ranks, by show 3 < 1000; decide, ?_⟩
        have fin : ∀ {a : Addr} {o : HO}, H9 a = some o → (∀ C dx fs, o ≠ .ins C dx fs) → a ≠ x := fun h n => ne_of h (s79 _ _ hx7) (n _ _ _)
        have k9 : Kp x H H9 := ((s2.trans s26).kp.trans kp7).trans s79.kp
        have kf : ∀ o1 o2 o3, Kp x H9 (upd (upd (upd H9 x o1) x o2) x o3) := fun o1 o2 o3 => ((kp_upd x H9 o1).trans (kp_upd x _ o2)).trans (kp_upd x _ o3)
        have get : ∀ {a : Addr} {o : HO} o1 o2 o3, H9 a = some o → (∀ C dx fs, o ≠ .ins C dx fs) → upd (upd (upd H9 x o1) x o2) x o3 a = some o := fun o1 o2 o3 h n => kf o1 o2 o3 _ _ h (fin h n)
        have hxF : ∀ o1 o2 o3, upd (upd (upd H9 x o1) x o2) x o3 x = some o3 := fun _ _ _ => upd_same
        refine k ks _ eI kso (k9.trans (kf _ _ _)) ⟨dx, p1, p2, d3, d4, hxF _ _ _, ⟨as, get _ _ _ (s79 _ _ (kp7 _ _ hp1 (nx hp1 (fun _ _ _ => by intro z; cases z)))) (fun _ _ _ => by intro z; cases z), (pa7.sameS s79).mono fun t c e => get _ _ _ e (fun _ _ _ => by intro z; cases z)⟩, ?_, ?_, ?_⟩ ?_
        · rw [ey] at hp2
          exact get _ _ _ hp2 (fun _ _ _ => by intro z; cases z)
        · exact get _ _ _ (s79 _ _ (kp7 _ _ (s6 _ _ h3) (nx (s6 _ _ h3) (fun _ _ _ => by intro z; cases z)))) (fun _ _ _ => by intro z; cases z)
        · exact get _ _ _ (s79 _ _ (kp7 _ _ (s6 _ _ h4) (nx (s6 _ _ h4) (fun _ _ _ => by intro z; cases z)))) (fun _ _ _ => by intro z; cases z)
        · intro b o hb C' dx' q1 q2 q3 q4 e
          rw [upd_same] at e
          cases e
          have hb2 := s2 _ _ hb
          exact ⟨(ne_of_none hb2 nd3).symm, (ne_of_none hb2 n4).symm⟩
end
theorem mk_turnsA {K : PySem.W.Frag} {H : Hp} {p : Addr} {us : List Addr} {its : List (V × V)} {Q : VK} {E : XK} (hP : SqL K H p (us.map V.ref) ∨ SqT K H p (us.map V.ref)) (pp : P2 (ItE K H) us its) (hn : its.length ≤ 11)
    (k : ∀ ks y H', its = ks.map siV → KsOk ks → Same H H' → TuAt (He.ga K "Turns") H' y ks → (∀ b o, H b = some o → TuNe H' y b) → Q (.ref y) H') (kE : ∀ cls d H', Same H H' → DueX K (dueV its) cls d H' → E cls d H') :
    ∀ (x dx : Addr), H x = none → H dx = none → dx ≠ x → spTurnsA K [.ref x, .ref p] (upd (upd H dx (.own x)) x (.ins (He.ga K "Turns") dx [])) (fun v H2 => v = .non ∧ Q (.ref x) H2) E := by
  intro x dx nx ndx ne
  have s := same_made (o := .ins (He.ga K "Turns") dx []) (o2 := .own x) nx ndx
  exact ⟨x, dx, p, us, its, rfl, upd_same, hP.imp (fun h => s.seq h) (fun h => s.seqT h), pp.mono fun _ _ e => e.same s, hn, fun ks H' e ok kp hT hn => ⟨rfl, k ks x H' e ok (mk_same kp nx ndx) hT fun b o hb => hn b o (s _ _ hb)⟩, fun cls d H' s' hd => kE cls d H' (s.trans s') hd⟩
theorem tA {K : PySem.W.Frag} {H : Hp} {x dx p : Addr} {us : List Addr} {its : List (V × V)} {R : VK} {E : XK} (nx : H x = none) (ndx : H dx = none) (hP : SqL K H p (us.map V.ref) ∨ SqT K H p (us.map V.ref)) (pp : P2 (ItE K H) us its) (hn : its.length ≤ 11)
    (k : ∀ ks H', its = ks.map siV → KsOk ks → Same H H' → TuAt (He.ga K "Turns") H' x ks → (∀ b o, H b = some o → TuNe H' x b) → R .non H') (kE : ∀ cls d H', Same H H' → DueX K (dueV its) cls d H' → E cls d H') :
    spTurnsA K [.ref x, .ref p] (upd (upd H dx (.own x)) x (.ins (He.ga K "Turns") dx [])) R E := by
  have s := same_made (o := .ins (He.ga K "Turns") dx []) (o2 := .own x) nx ndx
  exact ⟨x, dx, p, us, its, rfl, upd_same, hP.imp (fun h => s.seq h) (fun h => s.seqT h), pp.mono fun _ _ e => e.same s, hn, fun ks H' e ok kp hT hn => k ks H' e ok (mk_same kp nx ndx) hT fun b o hb => hn b o (s _ _ hb), fun cls d H' s' hd => kE cls d H' (s.trans s') hd⟩
end Tr

/-! # k10: what turns tell of strangers. -/
namespace Tr
open PySem L2 TL
/-- steps of a reading that are plain -/
local macro_rules | `(tactic| walk_at "x") => `(tactic| (refine' ⟨_, _, _, _, rfl, rfl, ?k1, ?k2, ?_⟩; (case k1 => exact SqT.of (by assumption)); (case k2 => exact rfl)))
local macro_rules | `(tactic| walk_at "g") => `(tactic| repeat (first | (refine ⟨_, rfl, ?_⟩) | (refine ⟨_, _, rfl, rfl, ?_⟩) | (refine ⟨_, _, rfl, ?_⟩) | (refine ⟨rfl, ?_⟩) | walk_at "x"))


theorem cr_lenO {X : Cx} {k j : Nat} {C : Addr} {sp : Sp} {E : XK} (c : Met X.prog X.w X.K X.mg X.base k C "__len__" sp []) (hr : Room j X.A) (hk : k + 2 ≤ j) (hx : Passes (L2.CX X.prog X.w) X E) :
    CallR X (.builtin "len") (fun xs H Q => ∃ a dx fs, xs = [.ref a] ∧ H a = some (.ins C dx fs) ∧ sp [.ref a] H (fun v H' => ∃ n : Nat, v = .int n ∧ n ≤ 100000 ∧ Q (.int n) H') E) := by
  obtain ⟨f, fd, ps, ds, hc, hm, F, b, d⟩ := c.ex
  cases d
  intro pins s σ H xs us Q I r h
  obtain ⟨a, dx, fs, rfl, ha, h⟩ := h
  rw [Vals.ref1 r]
  obtain ⟨mA, J, _⟩ := ins_get I.hok ha
  obtain ⟨od, J, _⟩ := J.look
  obtain ⟨m, hF⟩ := I.fr
  refine PySem.W.len_K hF I.ok.mod.kin J hm.at_ hm.fn ?_
  refine wpAny_mono (run_at (A := X.A.in1) F (hr.mono (by omega)).in1 rfl b hx I (us := [.ref a]) (vs := [.ref a]) (.cons rfl .nil) h) (fun r s' q => ?_) fun _ _ z => z
  obtain ⟨z, H', I', rz, n, rfl, hn, q⟩ := q
  obtain ⟨t, rfl⟩ := rz
  exact ⟨⟨by omega, by omega⟩, .int n, H', I'.tok _, ⟨_, rfl⟩, q⟩
/-- the stranger's error -/
def NoT (K : PySem.W.Frag) (x : V) (H : Hp) (E : XK) : Prop := ∀ d, H d = none → E (.ref (He.ga K "NoTurn")) (some d) (upd H d (.xd [("name", x)]))
section
variable {P : Program} [PM : PMain P] {w : World} {K : PySem.W.Frag} {mg : Str → Option Value} {base : Heap}
def spTlen (C : Addr) : Sp := fun vs H Q _ => ∃ (a : Addr) (ks : List SI), vs = [.ref a] ∧ TuAt C H a ks ∧ Q (.int (ks.length : Nat)) H
theorem c_tlen (T : Txt K mg) : Met P w K mg base 1 (He.ga K "Turns") "__len__" (spTlen (He.ga K "Turns")) [] := by
  refine metN T.m_Turns____len__ sc_Turns___len__ (fun vs H Q E h => ?_) (fun _ _ _ _ _ _ us hl => match us, hl with | [_], _ => rfl) (fun f cdv A outer s H vs Q E hr h => ?_)
  · obtain ⟨a, ks, rfl, _⟩ := h
    rfl
  · obtain ⟨a, ks, rfl, hT, k⟩ := h
    obtain ⟨dx, p1, p2, p3, p4, ha, e1, e2, e3, e4⟩ := hT.ex
    refine ⟨_, (pss_one (ps_ret (pe_callB call_len (by rfl) T.b_len (by decide +kernel) (pa_cons (pe_fldK K (pv 0) (by rfl)) pa_nil)))), ?_⟩
    walk_at "g"
    refine ⟨a, _, dx, _, _, rfl, ha, T.k_Turns, T.a_Turns__names, rfl, ?_⟩
    refine ⟨_, _, rfl, .inr ⟨_, SqT.of e2, rfl⟩, ?_⟩
    rw [List.length_map]
    exact k
def spPerX (K : PySem.W.Frag) : Sp := fun vs H Q E => ∃ (a : Addr) (x : V) (ks : List SI), vs = [.ref a, x] ∧ TuAt (He.ga K "Turns") H a ks ∧ ((∃ z, x = .str z ∧ (∃ k ∈ ks, k.1 = z) ∧ Q (.int (perOf ks z)) H) ∨ (StrNo K H ks x ∧ NoT K x H E))
theorem c_period_ofX (T : Txt K mg) : Met P w K mg base 4 (He.ga K "Turns") "period_of" (spPerX K) [] := by
  have c_tin := @c_tin P w K mg base T
  have x_NoTurn := @x_NoTurn P PM w K mg base T
  refine metX T.m_Turns__period_of sc_Turns_period_of (fun vs H Q E h => ?_) (fun _ _ _ _ _ _ us hl => match us, hl with | [_, _], _ => rfl) (fun f cdv A outer s H vs Q E hr h => ?_)
  · obtain ⟨a, x, ks, rfl, _⟩ := h
    rfl
  · obtain ⟨a, x, ks, rfl, hT, h⟩ := h
    obtain ⟨dx, p1, p2, p3, p4, ha, e1, e2, e3, e4⟩ := hT.ex
    refine ⟨_, (pss_cons (ps_if (pt_cmpR (or_notInO c_tin hr (by first | decide | omega) passL) (pv 1) (pv 0) (by rfl)) (pss_one (ps_raise rfl (takes_of rfl rfl rfl rfl) (pmk_exn x_NoTurn hr (by first | decide | omega) rfl (pa_cons (pv 1) pa_nil) (by simp)))) pss_nil)
      (pss_one (ps_ret (pe_dget (hu_of hr) (pe_fldK K (pv 0) (by rfl)) (pv 1) (fun _ _ => rfl))))), ?_⟩
    walk_at "g"
    refine ⟨a, dx, _, rfl, ha, a, x, ks, rfl, hT, ?_⟩
    rcases h with ⟨z, rfl, hz, k⟩ | ⟨hno, k⟩
    · refine .inl ⟨z, rfl, ?_⟩
      rw [hasS_of hz]
      walk_at "g"
      refine ⟨a, _, dx, _, _, rfl, ha, T.k_Turns, T.a_Turns__periods, rfl, ?_⟩
      walk_at "g"
      obtain ⟨c, _, _, lk⟩ := lookS_mem hz
      have dg : DGet H p3 (.str z) (some (.int (perOf ks z))) := by
        have := DGet.k (k := (.inr z : Key)) e3
        rw [valV_kdic, lk] at this
        unfold perOf
        rw [lk]
        exact this
      exact ⟨p3, _, rfl, dg, k⟩
    · rcases hno with ⟨z, rfl, hz⟩ | ⟨t, ty, kt⟩
      · refine .inl ⟨z, rfl, ?_⟩
        rw [hz]
        walk_at "g"
        exact k
      · refine .inr ⟨t, ty, kt, ?_⟩
        walk_at "g"
        exact k
def spRankX (K : PySem.W.Frag) : Sp := fun vs H Q E => ∃ (a : Addr) (x : V) (ks : List SI), vs = [.ref a, x] ∧ TuAt (He.ga K "Turns") H a ks ∧ ((∃ z, x = .str z ∧ (∃ k ∈ ks, k.1 = z) ∧ Q (.int (rankS ks z : Nat)) H) ∨ (StrNo K H ks x ∧ NoT K x H E))
theorem c_rankX (T : Txt K mg) : Met P w K mg base 4 (He.ga K "Turns") "rank" (spRankX K) [] := by
  have c_tin := @c_tin P w K mg base T
  have x_NoTurn := @x_NoTurn P PM w K mg base T
  refine metX T.m_Turns__rank sc_Turns_rank (fun vs H Q E h => ?_) (fun _ _ _ _ _ _ us hl => match us, hl with | [_, _], _ => rfl) (fun f cdv A outer s H vs Q E hr h => ?_)
  · obtain ⟨a, x, ks, rfl, _⟩ := h
    rfl
  · obtain ⟨a, x, ks, rfl, hT, h⟩ := h
    obtain ⟨dx, p1, p2, p3, p4, ha, e1, e2, e3, e4⟩ := hT.ex
    refine ⟨_, (pss_cons (ps_if (pt_cmpR (or_notInO c_tin hr (by first | decide | omega) passL) (pv 1) (pv 0) (by rfl)) (pss_one (ps_raise rfl (takes_of rfl rfl rfl rfl) (pmk_exn x_NoTurn hr (by first | decide | omega) rfl (pa_cons (pv 1) pa_nil) (by simp)))) pss_nil)
      (pss_one (ps_ret (pe_dget (hu_of hr) (pe_fldK K (pv 0) (by rfl)) (pv 1) (fun _ _ => rfl))))), ?_⟩
    walk_at "g"
    refine ⟨a, dx, _, rfl, ha, a, x, ks, rfl, hT, ?_⟩
    rcases h with ⟨z, rfl, hz, k⟩ | ⟨hno, k⟩
    · refine .inl ⟨z, rfl, ?_⟩
      rw [hasS_of hz]
      walk_at "g"
      refine ⟨a, _, dx, _, _, rfl, ha, T.k_Turns, T.a_Turns__ranks, rfl, ?_⟩
      walk_at "g"
      have dg : DGet H p4 (.str z) (some (.int (rankS ks z : Nat))) := by
        have := DGet.k (k := (.inr z : Key)) e4
        rw [valV_rdic z 0 ks hz, Nat.zero_add] at this
        exact this
      exact ⟨p4, _, rfl, dg, k⟩
    · rcases hno with ⟨z, rfl, hz⟩ | ⟨t, ty, kt⟩
      · refine .inl ⟨z, rfl, ?_⟩
        rw [hz]
        walk_at "g"
        exact k
      · refine .inr ⟨t, ty, kt, ?_⟩
        walk_at "g"
        exact k
def spTget (K : PySem.W.Frag) : Sp := fun vs H Q E => ∃ (a : Addr) (x : V) (ks : List SI), vs = [.ref a, x] ∧ TuAt (He.ga K "Turns") H a ks ∧ KsOk ks ∧ ((∃ z, x = .str z ∧ (∃ k ∈ ks, k.1 = z) ∧ ∀ y H', Same H H' → RwAt (He.ga K "Row") (He.ga K "Turns") H' y a ks (normL (perOf ks) [(z, 1)]) → Q (.ref y) H') ∨ (StrNo K H ks x ∧ NoT K x H E))
theorem c_tget (T : Txt K mg) : Met P w K mg base 8 (He.ga K "Turns") "__getitem__" (spTget K) [] := by
  have c_tin := @c_tin P w K mg base T
  have m_Row := @m_Row P w K mg base T
  have x_NoTurn := @x_NoTurn P PM w K mg base T
  refine metX T.m_Turns____getitem__ sc_Turns___getitem__ (fun vs H Q E h => ?_) (fun _ _ _ _ _ _ us hl => match us, hl with | [_, _], _ => rfl) (fun f cdv A outer s H vs Q E hr h => ?_)
  · obtain ⟨a, x, ks, rfl, _⟩ := h
    rfl
  · obtain ⟨a, x, ks, rfl, hT, ok, h⟩ := h
    obtain ⟨dx, p1, p2, p3, p4, ha, e1, e2, e3, e4⟩ := id hT.ex
    refine ⟨_, (pss_cons (ps_if (pt_cmpR (or_notInO c_tin hr (by first | decide | omega) passL) (pv 1) (pv 0) (by rfl)) (pss_one (ps_raise rfl (takes_of rfl rfl rfl rfl) (pmk_exn x_NoTurn hr (by first | decide | omega) rfl (pa_cons (pv 1) pa_nil) (by simp)))) pss_nil)
      (pss_one (ps_ret (pe_mkx m_Row hr (by first | decide | omega) rfl passL (pa_cons (pv 0) (pa_cons (pe_lst (pa_cons (pe_tup (pa_cons (pv 1) (pa_cons pe_int pa_nil))) pa_nil)) pa_nil)))))), ?_⟩
    walk_at "g"
    refine ⟨a, dx, _, rfl, ha, a, x, ks, rfl, hT, ?_⟩
    rcases h with ⟨z, rfl, hz, k⟩ | ⟨hno, k⟩
    · refine .inl ⟨z, rfl, ?_⟩
      rw [hasS_of hz]
      walk_at "g"
      refine ⟨by show 2 ≤ sizeLine; decide, fun u nu => ?_⟩
      have s1 := same_upd (o := .tup [.str z, .int 1]) nu
      have hu : upd H u (.tup [.str z, .int 1]) u = some (.tup [.str z, .int 1]) := upd_same
      generalize upd H u (.tup [.str z, .int 1]) = H1 at *
      walk_at "g"
      refine ⟨by show 1 ≤ sizeLine; decide, fun l nl => ?_⟩
      have s2 := same_upd (o := .lst [.ref u]) nl
      have hl : upd H1 l (.lst [.ref u]) l = some (.lst [.ref u]) := upd_same
      generalize upd H1 l (.lst [.ref u]) = H2 at *
      walk_at "g"
      have hS : SQ K H2 l [u] [(z, 1)] := ⟨.inl (SqL.of hl), .cons (SrE.of (s2 _ _ hu)) .nil⟩
      exact mk_row (hT.same (s1.trans s2)) ok hS (by show 1 ≤ 10000; decide) (fun c hc => by rw [List.mem_singleton.mp hc]; exact hz) (fun y H' s' hR => k y H' ((s1.trans s2).trans s') hR)
    · rcases hno with ⟨z, rfl, hz⟩ | ⟨t, ty, kt⟩
      · refine .inl ⟨z, rfl, ?_⟩
        rw [hz]
        walk_at "g"
        exact k
      · refine .inr ⟨t, ty, kt, ?_⟩
        walk_at "g"
        exact k
/-- == of turns and a thing of any kind -/
def spTeqA (K : PySem.W.Frag) : Sp := fun vs H Q _ => ∃ (a : Addr) (x : V) (ks : List SI), vs = [.ref a, x] ∧ TuAt (He.ga K "Turns") H a ks ∧ KsOk ks ∧ ((∃ b ls, x = .ref b ∧ TuAt (He.ga K "Turns") H b ls ∧ KsOk ls ∧ Q (.bl (decide (ks = ls))) H) ∨ (NoI K H (.ref (He.ga K "Turns")) x ∧ Q (.bl false) H))
theorem c_teqA (T : Txt K mg) : Met P w K mg base 1 (He.ga K "Turns") "__eq__" (spTeqA K) [] := by
  refine metN T.m_Turns____eq__ sc_Turns___eq__ (fun vs H Q E h => ?_) (fun _ _ _ _ _ _ us hl => match us, hl with | [_, _], _ => rfl) (fun f cdv A outer s H vs Q E hr h => ?_)
  · obtain ⟨a, x, ks, rfl, _⟩ := h
    rfl
  · obtain ⟨a, x, ks, rfl, hA, ok1, h⟩ := h
    obtain ⟨dx, p1, p2, p3, p4, ha, e1, e2, e3, e4⟩ := hA.ex
    refine ⟨_, (pss_one (ps_ret (pe_and (pe_callB call_isi (by rfl) T.b_isinstance (by decide +kernel) (pa_cons (pv 1) (pa_cons (pe_glob (v := .ref (He.ga K "Turns")) (by rfl) T.v_Turns rfl) pa_nil))) (pe_one (pe_cmpR (op_eqD (units_of hr)) (pe_fldK K (pv 0) (by rfl)) (pe_fldK K (pv 1) (by rfl)) (nomark _)))))), ?_⟩
    rcases h with ⟨b, ls, rfl, hB, ok2, k⟩ | ⟨⟨t, ty, kt⟩, k⟩
    · obtain ⟨dy, q1, q2, q3, q4, hb, f1, f2, f3, f4⟩ := hB.ex
      refine ⟨.ref b, rfl, .ref b, .ref (He.ga K "Turns"), .ref (He.ga K "Turns"), _, true, rfl, .own _, T.o_Turns.ty T.k_Turns hb, kit_self, true, rfl, ?_⟩
      refine iteT ?_
      walk_at "g"
      refine ⟨a, _, dx, _, _, rfl, ha, T.k_Turns, T.a_Turns__pairs, rfl, ?_⟩
      walk_at "g"
      refine ⟨b, _, dy, _, _, rfl, hb, T.k_Turns, T.a_Turns__pairs, rfl, ?_⟩
      refine ⟨_, _, dp_st e1, dp_st f1, canl_si ks (fun c hc => (ok1.ok c hc).1.strOk), canl_si ls (fun c hc => (ok2.ok c hc).1.strOk), ?_⟩
      rw [eqv_siT]
      exact k
    · refine ⟨x, rfl, x, .ref (He.ga K "Turns"), t, _, false, rfl, .own _, ty, kt, false, rfl, ?_⟩
      refine iteF ?_
      exact k
end
end Tr

/-! # k10: a pair made wrong. -/
namespace Tr
open PySem L2 TL
/-- steps of a reading that are plain -/
local macro_rules | `(tactic| walk_at "x") => `(tactic| (refine' ⟨_, _, _, _, rfl, rfl, ?k1, ?k2, ?_⟩; (case k1 => exact SqT.of (by assumption)); (case k2 => exact rfl)))
local macro_rules | `(tactic| walk_at "g") => `(tactic| repeat (first | (refine ⟨_, rfl, ?_⟩) | (refine ⟨_, _, rfl, rfl, ?_⟩) | (refine ⟨_, _, rfl, ?_⟩) | (refine ⟨rfl, ?_⟩) | walk_at "x"))


theorem ixNn {n j : Nat} (hj : j < n) : ixN n (j : Int) = some j := by
  unfold ixN
  rw [if_pos (by omega), if_pos (by omega)]
  rfl
/-- all but the dict at p and the list at l is kept -/
def Kp2 (p l : Addr) (H H' : Hp) : Prop := ∀ b o, H b = some o → b ≠ p → b ≠ l → H' b = some o
theorem Kp.kp2 {p l : Addr} {H H' : Hp} (k : Kp p H H') : Kp2 p l H H' := fun b o e n _ => k b o e n
theorem Kp2.trans {p l : Addr} {H H' H'' : Hp} (k : Kp2 p l H H') (k' : Kp2 p l H' H'') : Kp2 p l H H'' := fun b o e n m => k' b o (k b o e n m) n m
/-- values as the law has them -/
inductive NvK (H : Hp) : V → Prop
  | str (z : Str) (h : z.length ≤ 1000) (ho : z ≠ "other") : NvK H (.str z)
  | five : NvK H (.int 5)
  | non : NvK H .non
  | tup {u : Addr} (h : H u = some (.tup [.str "a"])) : NvK H (.ref u)
  | lst {u : Addr} (h : H u = some (.lst [.str "a"])) : NvK H (.ref u)
inductive PvK (H : Hp) : V → Prop
  | int (i : Int) : PvK H (.int i)
  | bl (b : Bool) : PvK H (.bl b)
  | two : PvK H (.str "2")
  | non : PvK H .non
  | lst {u : Addr} (h : H u = some (.lst [.int 2])) : PvK H (.ref u)
theorem NvK.to {H H' : Hp} {v : V} (h : NvK H v) (k : ∀ u o, v = .ref u → H u = some o → (∀ kvs, o ≠ .dK kvs) → (∀ us : List Addr, us ≠ [] → o ≠ .lst (us.map V.ref)) → H' u = some o) : NvK H' v := by
  have no : ∀ us : List Addr, us ≠ [] → HO.lst [.str "a"] ≠ .lst (us.map V.ref) := fun us hn e => by
    cases us with
    | nil => exact hn rfl
    | cons u us => cases e
  cases h with
  | str z h ho => exact .str z h ho
  | five => exact .five
  | non => exact .non
  | tup h => exact .tup (k _ _ rfl h (by intro _ z; cases z) (by intro _ _ z; cases z))
  | lst h => exact .lst (k _ _ rfl h (by intro _ z; cases z) no)
theorem PvK.to {H H' : Hp} {v : V} (h : PvK H v) (k : ∀ u o, v = .ref u → H u = some o → (∀ kvs, o ≠ .dK kvs) → (∀ us : List Addr, us ≠ [] → o ≠ .lst (us.map V.ref)) → H' u = some o) : PvK H' v := by
  have no : ∀ us : List Addr, us ≠ [] → HO.lst [.int 2] ≠ .lst (us.map V.ref) := fun us hn e => by
    cases us with
    | nil => exact hn rfl
    | cons u us => cases e
  cases h with
  | int i => exact .int i
  | bl b => exact .bl b
  | two => exact .two
  | non => exact .non
  | lst h => exact .lst (k _ _ rfl h (by intro _ z; cases z) no)
theorem NvK.nv {K : PySem.W.Frag} {H : Hp} {v : V} (h : NvK H v) : NvAt K H v := by
  cases h with
  | str z h ho => exact .inl ⟨z, rfl, h⟩
  | five => exact .inr ⟨⟨_, .base (.int 5), kit_ty (by decide +kernel)⟩, (fun z e => nomatch e), .inl rfl⟩
  | non => exact .inr ⟨⟨_, .base .non, kit_ty (by decide +kernel)⟩, (fun z e => nomatch e), .inl rfl⟩
  | tup h => exact .inr ⟨⟨_, .base (.tup h), kit_ty (by decide +kernel)⟩, (fun z e => nomatch e), .inr ⟨_, rfl⟩⟩
  | lst h => exact .inr ⟨⟨_, .base (.lst h), kit_ty (by decide +kernel)⟩, (fun z e => nomatch e), .inr ⟨_, rfl⟩⟩
theorem PvK.pv {K : PySem.W.Frag} {H : Hp} {v : V} (h : PvK H v) : PvAt K H v := by
  cases h with
  | int i => exact .inl ⟨i, rfl⟩
  | bl b => exact .inr (.inl ⟨b, rfl⟩)
  | two => exact .inr (.inr ⟨⟨_, .base (.str _), kit_ty (by decide +kernel), kit_ty (by decide +kernel)⟩, (fun z e => nomatch e), .inl rfl⟩)
  | non => exact .inr (.inr ⟨⟨_, .base .non, kit_ty (by decide +kernel), kit_ty (by decide +kernel)⟩, (fun z e => nomatch e), .inl rfl⟩)
  | lst h => exact .inr (.inr ⟨⟨_, .base (.lst h), kit_ty (by decide +kernel), kit_ty (by decide +kernel)⟩, (fun z e => nomatch e), .inr ⟨_, rfl⟩⟩)
def ItK (H : Hp) (u : Addr) (c : V × V) : Prop := H u = some (.tup [c.1, c.2]) ∧ NvK H c.1 ∧ PvK H c.2
theorem ItK.t {K : PySem.W.Frag} {H : Hp} {u : Addr} {c : V × V} (h : ItK H u c) : ItT K H u c := ⟨h.1, h.2.1.nv, h.2.2.pv⟩
theorem ItK.same {H H' : Hp} {u : Addr} {c : V × V} (s : Same H H') (h : ItK H u c) : ItK H' u c := ⟨s _ _ h.1, h.2.1.to fun u o _ e _ _ => s u o e, h.2.2.to fun u o _ e _ _ => s u o e⟩
theorem ItK.kpB {H H' : Hp} {p u : Addr} {c : V × V} {kvs : List (Key × V)} (k : Kp p H H') (hp : H p = some (.dK kvs)) (h : ItK H u c) : ItK H' u c := ⟨k _ _ h.1 (ne_of h.1 hp (by intro z; cases z)), h.2.1.to fun u o _ e n _ => k u o e (ne_of e hp (n _)), h.2.2.to fun u o _ e n _ => k u o e (ne_of e hp (n _))⟩
theorem ItK.kpL {H H' : Hp} {l u : Addr} {c : V × V} {us : List Addr} (k : Kp l H H') (hl : H l = some (.lst (us.map V.ref))) (n0 : us ≠ []) (h : ItK H u c) : ItK H' u c := ⟨k _ _ h.1 (ne_of h.1 hl (by intro z; cases z)), h.2.1.to fun u o _ e _ n => k u o e (ne_of e hl (n _ n0)), h.2.2.to fun u o _ e _ n => k u o e (ne_of e hl (n _ n0))⟩
theorem P2.setR {α β : Type} {R : α → β → Prop} : ∀ {l : List α} {m : List β} {i : Nat} {a : α} {b : β}, P2 R l m → R a b → P2 R (l.set i a) (m.set i b)
  | [], [], _, _, _, _, _ => .nil
  | _ :: _, _ :: _, 0, _, _, .cons _ t, r => .cons r t
  | _ :: _, _ :: _, _ + 1, _, _, .cons h t, r => .cons h (P2.setR t r)
section
variable {P : Program} {w : World} {K : PySem.W.Frag} {mg : Str → Option Value} {base : Heap}
def spSpoil (K : PySem.W.Frag) : Sp := fun vs H Q _ => ∃ (p q l : Addr) (N : Nat) (us : List Addr) (its : List (V × V)), vs = [.ref p, .ref l] ∧ Bag H p q N ∧ N < 900000 ∧ H l = some (.lst (us.map V.ref)) ∧ l ≠ q ∧ P2 (ItK H) us its ∧ 0 < its.length ∧ its.length ≤ 11 ∧
  ∀ us' its' H', Kp2 p l H H' → Bag H' p q (N + 3) → H' l = some (.lst (us'.map V.ref)) → P2 (ItK H') us' its' → its'.length = its.length → Q .non H'
theorem c__law_spoiled (T : Txt K mg) : Cal P w K mg base 3 "_law_spoiled" (spSpoil K) [] := by
  have c__law_draw := @c__law_draw P w K mg base T
  refine calN T.d__law_spoiled sc__law_spoiled (fun vs H Q E h => ?_) (fun _ _ _ _ _ _ us hl => match us, hl with | [_, _], _ => rfl) (fun f cdv A outer s H vs Q E hr h => ?_)
  · obtain ⟨p, q, l, N, us, its, rfl, _⟩ := h
    rfl
  · obtain ⟨p, q, l, N, us, its, rfl, hB, hN, hl, nlq, hp, h0, h11, k⟩ := h
    refine ⟨_, (pss_cons (ps_set (i := 2) sc__law_spoiled.nd rfl (Or.inl rfl) (pe_cx c__law_draw hr (by first | decide | omega) rfl passL (pa_cons (pv 0) (pa_cons (pe_callB call_len (by rfl) T.b_len (by decide +kernel) (pa_cons (pv 1) pa_nil)) pa_nil))))
      (pss_cons (ps_asg (pe_ix ix_list (pv 1) (pv 2) (fun _ _ => rfl)) (pg_tup rfl (pgs_cons (pg_name (i := 3) sc__law_spoiled.nd rfl (Or.inl rfl)) (pgs_cons (pg_name (i := 4) sc__law_spoiled.nd rfl (Or.inl rfl)) pgs_nil))))
      (pss_cons (ps_set (i := 5) sc__law_spoiled.nd rfl (Or.inl rfl) (pe_lst (pa_cons pe_str (pa_cons pe_str (pa_cons pe_str (pa_cons pe_str (pa_cons pe_str (pa_cons pe_str (pa_cons pe_str (pa_cons pe_str (pa_cons pe_int (pa_cons pe_non (pa_cons (pe_tup (pa_cons pe_str pa_nil)) (pa_cons (pe_lst (pa_cons pe_str pa_nil)) pa_nil))))))))))))))
      (pss_cons (ps_set (i := 5) sc__law_spoiled.nd rfl (Or.inl rfl) (pe_op op_cat (pv 5) (pe_lst (pa_cons (pe_ix ix_tup (pe_ix ix_list (pv 1) pe_int (fun _ _ => rfl)) pe_int (fun _ _ => rfl)) (pa_cons pe_str pa_nil)))))
      (pss_cons (ps_set (i := 6) sc__law_spoiled.nd rfl (Or.inl rfl) (pe_lst (pa_cons pe_int (pa_cons (pe_un un_neg pe_int) (pa_cons (pe_un un_neg (pe_op op_pow pe_int pe_int)) (pa_cons pe_bl (pa_cons pe_str (pa_cons pe_non (pa_cons pe_int (pa_cons (pe_lst (pa_cons pe_int pa_nil)) (pa_cons pe_bl pa_nil)))))))))))
      (pss_cons (ps_if (pt_cmpR op_eq (pe_cx c__law_draw hr (by first | decide | omega) rfl passL (pa_cons (pv 0) (pa_cons pe_int pa_nil))) pe_int (nomark _)) (pss_one (ps_set (i := 3) sc__law_spoiled.nd rfl (Or.inl rfl) (pe_ix ix_list (pv 5) (pe_cx c__law_draw hr (by first | decide | omega) rfl passL (pa_cons (pv 0) (pa_cons (pe_callB call_len (by rfl) T.b_len (by decide +kernel) (pa_cons (pv 5) pa_nil)) pa_nil))) (fun _ _ => rfl)))) (pss_one (ps_set (i := 4) sc__law_spoiled.nd rfl (Or.inl rfl) (pe_ix ix_list (pv 6) (pe_cx c__law_draw hr (by first | decide | omega) rfl passL (pa_cons (pv 0) (pa_cons (pe_callB call_len (by rfl) T.b_len (by decide +kernel) (pa_cons (pv 6) pa_nil)) pa_nil))) (fun _ _ => rfl)))))
      (pss_one (ps_asg (pe_tup (pa_cons (pv 3) (pa_cons (pv 4) pa_nil))) (pg_sub (pv 1) (pv 2) set_list))))))))), ?_⟩
    have hlen := hp.len
    obtain ⟨_, _, hp0, hq0⟩ := id hB.at_
    have bd : ∀ x : Int, 0 ≤ x → x < 256 → Bd 8000 x := fun x h0 h1 => Bd.mono (n := 8) (by show x.natAbs < 2 ^ 8; omega) (by decide)
    generalize hσ : L2.start _ _ = σ0
    obtain rfl : σ0 = [some (.ref p), some (.ref l), none, none, none, none, none] := hσ.symm
    clear hσ
    walk_at "g"
    refine ⟨_, _, rfl, .inl ⟨_, SqL.of hl, rfl⟩, ?_⟩
    rw [List.length_map, hlen]
    walk_at "g"
    refine ⟨p, q, (its.length : Int), N, rfl, hB, by omega, by omega, bd _ (by omega) (by omega), fun g H1 kp1 hB1 g0 g1 => ?_⟩
    obtain ⟨i, rfl⟩ : ∃ i : Nat, g = (i : Int) := ⟨g.toNat, by omega⟩
    obtain ⟨u, hu⟩ : ∃ u, us[i]? = some u := ⟨_, List.getElem?_eq_getElem (by omega)⟩
    obtain ⟨c, hc, hit⟩ := hp.getl hu
    obtain ⟨n, pd⟩ := c
    have hl1 := kp1 _ _ hl (ne_of hl hp0 (by intro z; cases z))
    walk_at "g"
    refine ⟨l, _, (i : Int), .ref u, rfl, rfl, SqL.of hl1, atI_nat (by rw [List.getElem?_map, hu]; rfl), ?_⟩
    have hu1 : H1 u = some (.tup [n, pd]) := kp1 _ _ hit.1 (ne_of hit.1 hp0 (by intro z; cases z))
    refine ⟨u, _, rfl, SqT.of hu1, rfl, _, _, rfl, _, _, rfl, rfl, ?_⟩
    walk_at "g"
    refine ⟨by show 1 ≤ sizeLine; decide, fun t1 nt1 => ?_⟩
    have s1 := same_upd (o := .tup [.str "a"]) nt1
    have ht1 : upd H1 t1 (.tup [.str "a"]) t1 = some (.tup [.str "a"]) := upd_same
    generalize upd H1 t1 (.tup [.str "a"]) = G1 at *
    walk_at "g"
    refine ⟨by show 1 ≤ sizeLine; decide, fun t2 nt2 => ?_⟩
    have s2 := same_upd (o := .lst [.str "a"]) nt2
    have ht2 : upd G1 t2 (.lst [.str "a"]) t2 = some (.lst [.str "a"]) := upd_same
    generalize upd G1 t2 (.lst [.str "a"]) = G2 at *
    walk_at "g"
    refine ⟨by show 12 ≤ sizeLine; decide, fun L1 nL1 => ?_⟩
    have s3 := same_upd (o := .lst [.str "", .str "A", .str "aB", .str "a1B2", .str "1a", .str "a_b", .str "a b", .str "abcdefghijklm", .int 5, .non, .ref t1, .ref t2]) nL1
    have hL1 : upd G2 L1 (.lst [.str "", .str "A", .str "aB", .str "a1B2", .str "1a", .str "a_b", .str "a b", .str "abcdefghijklm", .int 5, .non, .ref t1, .ref t2]) L1 = some (.lst [.str "", .str "A", .str "aB", .str "a1B2", .str "1a", .str "a_b", .str "a b", .str "abcdefghijklm", .int 5, .non, .ref t1, .ref t2]) := upd_same
    generalize upd G2 L1 (.lst [.str "", .str "A", .str "aB", .str "a1B2", .str "1a", .str "a_b", .str "a b", .str "abcdefghijklm", .int 5, .non, .ref t1, .ref t2]) = G3 at *
    have s13 := (s1.trans s2).trans s3
    obtain ⟨u0, hu0⟩ : ∃ u0, us[0]? = some u0 := ⟨_, List.getElem?_eq_getElem (by omega)⟩
    obtain ⟨c0, hc0, hit0⟩ := hp.getl hu0
    have hit0' := ItK.kpB kp1 hp0 hit0
    walk_at "g"
    refine ⟨l, _, 0, .ref u0, rfl, rfl, SqL.of (s13 _ _ hl1), atI_nat (j := 0) (by rw [List.getElem?_map, hu0]; rfl), ?_⟩
    walk_at "g"
    refine ⟨u0, _, 0, c0.1, rfl, rfl, SqT.of (s13 _ _ hit0'.1), atI_nat (j := 0) rfl, ?_⟩
    walk_at "g"
    refine ⟨by show 2 ≤ sizeLine; decide, fun L2 nL2 => ?_⟩
    have s4 := same_upd (o := .lst [c0.1, .str "abcdefghijkl"]) nL2
    have hL2 : upd G3 L2 (.lst [c0.1, .str "abcdefghijkl"]) L2 = some (.lst [c0.1, .str "abcdefghijkl"]) := upd_same
    generalize upd G3 L2 (.lst [c0.1, .str "abcdefghijkl"]) = G4 at *
    walk_at "g"
    refine ⟨L1, L2, _, _, rfl, rfl, s4 _ _ hL1, hL2, (by show 14 ≤ sizeLine; decide), fun L3 nL3 => ?_⟩
    have g1 := (s2.trans (s3.trans s4)) _ _ ht1
    have g2 := (s3.trans s4) _ _ ht2
    have g0 : NvK G4 c0.1 := hit0'.2.1.to fun u o _ e _ _ => (s13.trans s4) u o e
    obtain ⟨NS, eNS, lNS, hNS⟩ : ∃ NS : List V, ([.str "", .str "A", .str "aB", .str "a1B2", .str "1a", .str "a_b", .str "a b", .str "abcdefghijklm", .int 5, .non, .ref t1, .ref t2] ++ [c0.1, .str "abcdefghijkl"]) = NS ∧ NS.length = 14 ∧ ∀ j, j < 14 → ∃ v, NS[j]? = some v ∧ NvK G4 v := by
      refine ⟨_, rfl, rfl, fun j hj => ?_⟩
      rcases (show j = 0 ∨ j = 1 ∨ j = 2 ∨ j = 3 ∨ j = 4 ∨ j = 5 ∨ j = 6 ∨ j = 7 ∨ j = 8 ∨ j = 9 ∨ j = 10 ∨ j = 11 ∨ j = 12 ∨ j = 13 by omega) with rfl | rfl | rfl | rfl | rfl | rfl | rfl | rfl | rfl | rfl | rfl | rfl | rfl | rfl
      · exact ⟨_, rfl, .str _ (by decide) (by decide +kernel)⟩
      · exact ⟨_, rfl, .str _ (by decide) (by decide +kernel)⟩
      · exact ⟨_, rfl, .str _ (by decide) (by decide +kernel)⟩
      · exact ⟨_, rfl, .str _ (by decide) (by decide +kernel)⟩
      · exact ⟨_, rfl, .str _ (by decide) (by decide +kernel)⟩
      · exact ⟨_, rfl, .str _ (by decide) (by decide +kernel)⟩
      · exact ⟨_, rfl, .str _ (by decide) (by decide +kernel)⟩
      · exact ⟨_, rfl, .str _ (by decide) (by decide +kernel)⟩
      · exact ⟨_, rfl, .five⟩
      · exact ⟨_, rfl, .non⟩
      · exact ⟨_, rfl, .tup g1⟩
      · exact ⟨_, rfl, .lst g2⟩
      · exact ⟨_, rfl, g0⟩
      · exact ⟨_, rfl, .str _ (by decide) (by decide +kernel)⟩
    rw [eNS]
    clear eNS g0 g1 g2
    have s5 := same_upd (o := .lst NS) nL3
    have hL3 : upd G4 L3 (.lst NS) L3 = some (.lst NS) := upd_same
    generalize upd G4 L3 (.lst NS) = G5 at *
    have s15 := (s13.trans s4).trans s5
    clear ht1 ht2 hL1 hL2 nt1 nt2 nL1 nL2 nL3
    walk_at "g"
    refine ⟨⟨by decide, by decide, by decide⟩, ?_⟩
    walk_at "g"
    refine ⟨by show 1 ≤ sizeLine; decide, fun t3 nt3 => ?_⟩
    have s6 := same_upd (o := .lst [.int 2]) nt3
    have ht3 : upd G5 t3 (.lst [.int 2]) t3 = some (.lst [.int 2]) := upd_same
    generalize upd G5 t3 (.lst [.int 2]) = G6 at *
    walk_at "g"
    refine ⟨by show 9 ≤ sizeLine; decide, fun L4 nL4 => ?_⟩
    obtain ⟨PS, ePS, lPS, hPS⟩ : ∃ PS : List V, [V.int 1, (fun i : Int => V.int (-i)) 1, (fun i : Int => V.int (-i)) (10 ^ Int.toNat 40), V.bl true, V.str "2", V.non, V.int 2, V.ref t3, V.bl false] = PS ∧ PS.length = 9 ∧ ∀ j, j < 9 → ∃ v, PS[j]? = some v ∧ PvK G6 v := by
      refine ⟨_, rfl, rfl, fun j hj => ?_⟩
      rcases (show j = 0 ∨ j = 1 ∨ j = 2 ∨ j = 3 ∨ j = 4 ∨ j = 5 ∨ j = 6 ∨ j = 7 ∨ j = 8 by omega) with rfl | rfl | rfl | rfl | rfl | rfl | rfl | rfl | rfl
      · exact ⟨_, rfl, .int _⟩
      · exact ⟨_, rfl, .int _⟩
      · exact ⟨_, rfl, .int _⟩
      · exact ⟨_, rfl, .bl _⟩
      · exact ⟨_, rfl, .two⟩
      · exact ⟨_, rfl, .non⟩
      · exact ⟨_, rfl, .int _⟩
      · exact ⟨_, rfl, .lst ht3⟩
      · exact ⟨_, rfl, .bl _⟩
    rw [ePS]
    clear ePS ht3
    have s7 := same_upd (o := .lst PS) nL4
    have hL4 : upd G6 L4 (.lst PS) L4 = some (.lst PS) := upd_same
    generalize upd G6 L4 (.lst PS) = G7 at *
    have s17 := (s15.trans s6).trans s7
    have hNS7 : ∀ j, j < 14 → ∃ v, NS[j]? = some v ∧ NvK G7 v := fun j hj => let ⟨v, a, b⟩ := hNS j hj; ⟨v, a, b.to fun u o _ e _ _ => ((s5.trans s6).trans s7) u o e⟩
    have hPS7 : ∀ j, j < 9 → ∃ v, PS[j]? = some v ∧ PvK G7 v := fun j hj => let ⟨v, a, b⟩ := hPS j hj; ⟨v, a, b.to fun u o _ e _ _ => s7 u o e⟩
    have hL37 := (s6.trans s7) _ _ hL3
    have hit7 := ItK.same s17 (ItK.kpB kp1 hp0 hit)
    have hB7 := hB1.same s17
    have hl7 := s17 _ _ hl1
    have hp7 : P2 (ItK G7) us its := hp.mono fun _ _ e => ItK.same s17 (ItK.kpB kp1 hp0 e)
    have kp7 : Kp p H G7 := kp1.trans s17.kp
    clear hNS hPS s1 s2 s3 s4 s5 s6 s7 s13 s15 s17 nt3 nL4 hL3 hu1 hl1 hit hit0 hit0' hB1 kp1
    obtain ⟨_, _, hpd7, hq7⟩ := id hB7.at_
    walk_at "g"
    refine ⟨p, q, 2, _, rfl, hB7, by omega, by decide, bd _ (by decide) (by decide), fun g2 H2 kp2 hB2 g20 g21 => ?_⟩
    have hl2 := kp2 _ _ hl7 (ne_of hl7 hpd7 (by intro z; cases z))
    have hL42 := kp2 _ _ hL4 (ne_of hL4 hpd7 (by intro z; cases z))
    have hL32 := kp2 _ _ hL37 (ne_of hL37 hpd7 (by intro z; cases z))
    obtain ⟨_, _, hpd2, hq2⟩ := id hB2.at_
    have fin : ∀ (H3 : Hp) (n' p' : V), Kp p H2 H3 → Bag H3 p q (N + 3) → NvK H3 n' → PvK H3 p' → ∀ t, H3 t = none → Q .non (upd (upd H3 t (.tup [n', p'])) l (.lst ((us.map V.ref).set i (.ref t)))) := fun H3 n' p' kp3 hB3 hn' hp' t nt => by
      have nlp : l ≠ p := ne_of hl hp0 (by intro z; cases z)
      have nus : us ≠ [] := fun e => by rw [e] at hlen; exact absurd hlen.symm (by show its.length ≠ 0; omega)
      have hl3 : H3 l = some (.lst (us.map V.ref)) := kp3 _ _ hl2 nlp
      have st := same_upd (o := .tup [n', p']) nt
      have htt : upd H3 t (.tup [n', p']) t = some (.tup [n', p']) := upd_same
      obtain ⟨_, _, hpd3, _⟩ := id hB3.at_
      generalize upd H3 t (.tup [n', p']) = H4 at *
      have hl4 := st _ _ hl3
      have kl : Kp l H4 (upd H4 l (.lst ((us.map V.ref).set i (.ref t)))) := kp_upd l H4 _
      have hpF : P2 (ItK (upd H4 l (.lst ((us.map V.ref).set i (.ref t))))) us its := hp7.mono fun _ _ e => ItK.kpL kl hl4 nus (ItK.same st (ItK.kpB kp3 hpd2 (ItK.kpB kp2 hpd7 e)))
      have hnew : ItK (upd H4 l (.lst ((us.map V.ref).set i (.ref t)))) t (n', p') := ItK.kpL kl hl4 nus ⟨htt, hn'.to fun u o _ e _ _ => st u o e, hp'.to fun u o _ e _ _ => st u o e⟩
      refine k (us.set i t) (its.set i (n', p')) _ ?_ ((hB3.same st).wr nlp nlq) (by rw [upd_same, List.map_set]) (P2.setR hpF hnew) (by rw [List.length_set])
      have k3 : Kp p H H4 := ((kp7.trans kp2).trans kp3).trans st.kp
      exact fun b o e n1 n2 => kl b o (k3 b o e n1) n2
    walk_at "g"
    refine iteB (fun c1 => ?_) (fun c1 => ?_)
    · walk_at "g"
      refine ⟨_, _, rfl, .inl ⟨_, SqL.of hL32, rfl⟩, ?_⟩
      rw [lNS]
      walk_at "g"
      refine ⟨p, q, 14, _, rfl, hB2, by omega, by decide, bd _ (by decide) (by decide), fun g3 H3 kp3 hB3 g30 g31 => ?_⟩
      obtain ⟨j, rfl⟩ : ∃ j : Nat, g3 = (j : Int) := ⟨g3.toNat, by omega⟩
      obtain ⟨v, hv, hk⟩ := hNS7 j (by omega)
      refine ⟨L3, _, (j : Int), v, rfl, rfl, SqL.of (kp3 _ _ hL32 (ne_of hL32 hpd2 (by intro z; cases z))), atI_nat hv, ?_⟩
      walk_at "g"
      refine ⟨by show 2 ≤ sizeLine; decide, fun t nt => ?_⟩
      walk_at "g"
      refine ⟨l, us.map V.ref, (i : Int), i, rfl, rfl, same_upd nt _ _ (kp3 _ _ hl2 (ne_of hl2 hpd2 (by intro z; cases z))), ixNn (by rw [List.length_map]; omega), ?_⟩
      exact fin H3 v pd kp3 (hB3.mono (by omega)) (hk.to fun u o _ e n _ => kp3 u o (kp2 u o e (ne_of e hpd7 (n _))) (ne_of (kp2 u o e (ne_of e hpd7 (n _))) hpd2 (n _))) (ItK.kpB kp3 hpd2 (ItK.kpB kp2 hpd7 hit7)).2.2 t nt
    · walk_at "g"
      refine ⟨_, _, rfl, .inl ⟨_, SqL.of hL42, rfl⟩, ?_⟩
      rw [lPS]
      walk_at "g"
      refine ⟨p, q, 9, _, rfl, hB2, by omega, by decide, bd _ (by decide) (by decide), fun g3 H3 kp3 hB3 g30 g31 => ?_⟩
      obtain ⟨j, rfl⟩ : ∃ j : Nat, g3 = (j : Int) := ⟨g3.toNat, by omega⟩
      obtain ⟨v, hv, hk⟩ := hPS7 j (by omega)
      refine ⟨L4, _, (j : Int), v, rfl, rfl, SqL.of (kp3 _ _ hL42 (ne_of hL42 hpd2 (by intro z; cases z))), atI_nat hv, ?_⟩
      walk_at "g"
      refine ⟨by show 2 ≤ sizeLine; decide, fun t nt => ?_⟩
      walk_at "g"
      refine ⟨l, us.map V.ref, (i : Int), i, rfl, rfl, same_upd nt _ _ (kp3 _ _ hl2 (ne_of hl2 hpd2 (by intro z; cases z))), ixNn (by rw [List.length_map]; omega), ?_⟩
      exact fin H3 n v kp3 (hB3.mono (by omega)) (ItK.kpB kp3 hpd2 (ItK.kpB kp2 hpd7 hit7)).2.1 (hk.to fun u o _ e n _ => kp3 u o (kp2 u o e (ne_of e hpd7 (n _))) (ne_of (kp2 u o e (ne_of e hpd7 (n _))) hpd2 (n _))) t nt
end
end Tr

/-! # k10: what a lambda's refusal is told as. -/
/- wanted: T.o_BadName T.o_TwiceNamed T.o_BadPeriod T.o_NoTurns T.o_TooMany T.o_NoTurn -/
namespace Tr
open PySem L2 TL
/-- steps of a reading that are plain -/
local macro_rules | `(tactic| walk_at "x") => `(tactic| (refine' ⟨_, _, _, _, rfl, rfl, ?k1, ?k2, ?_⟩; (case k1 => exact SqT.of (by assumption)); (case k2 => exact rfl)))
local macro_rules | `(tactic| walk_at "g") => `(tactic| repeat (first | (refine ⟨_, rfl, ?_⟩) | (refine ⟨_, _, rfl, rfl, ?_⟩) | (refine ⟨_, _, rfl, ?_⟩) | (refine ⟨rfl, ?_⟩) | walk_at "x"))


/-- the lambda called in a try -/
def tAct (n : Nat) (f c' : Addr) (q : Str) (tl : XK → Hp → VK → Prop) (W : WX) : TS := fun D σ H => ∃ Ew : XK, (∀ cls d σ' H', σ'.length = n → Ew cls d H' → W cls d σ' H') ∧ σ[0]? = some (some (.ref f)) ∧ H c' = some (LamX.CodeO c' q) ∧ tl Ew H fun _ H' => D.nx σ H'
theorem psAct {Z : Cx} {a q : Str} {f c' : Addr} {tl : XK → Hp → VK → Prop}
    (act : ∀ (W : WX) (pn : List (Addr × Obj)) (xe : Value → Shared → Prop) (E : XK) (p1 p2 : Pos), Takes (Z.tr pn xe) W → (∀ cls d σ' H', E cls d H' → W cls d σ' H') →
      PE (Z.tr pn xe) (.Call (.Name a p1) [] [] p2) (fun σZ HZ Q => σZ[0]? = some (some (.ref f)) ∧ HZ c' = some (LamX.CodeO c' q) ∧ tl E HZ Q))
    (W : WX) (pn : List (Addr × Obj)) (xe : Value → Shared → Prop) (tk : Takes (Z.tr pn xe) W) {p1 p2 p3 : Pos} : PS (Z.tr pn xe) (.Expr (.Call (.Name a p1) [] [] p2) p3) (tAct Z.N.length f c' q tl W) := by
  have tk2 : Takes (Z.tr pn xe) (fun cls d σ H => σ.length = Z.N.length → W cls d σ H) := fun u s' ⟨a, B, sI, pins, σ, H, cls, d, e, I, nb, up, sky, na, os, ag, w⟩ =>
    tk u s' ⟨a, B, sI, pins, σ, H, cls, d, e, I, nb, up, sky, na, os, ag, w I.len⟩
  exact ⟨fun pins s' σ H' D I ⟨Ew, wish, h1, h2, h3⟩ => (ps_expr (pos := p3) (act _ pn xe Ew p1 p2 tk2 fun cls d σ' H' he hl => wish cls d σ' H' hl he)).run pins s' σ H' D I ⟨h1, h2, h3⟩⟩
/-- the refusal: what is due, or a stranger -/
def TPk (K : PySem.W.Frag) (Q : VK) : XK := fun cls d H' => (∃ D, DueX K D cls d H' ∧ ∀ u H'', Same H' H'' → H'' u = some (.tup (dueT D)) → Q (.ref u) H'') ∨
  (∃ v dd, cls = .ref (He.ga K "NoTurn") ∧ d = some dd ∧ H' dd = some (.xd [("name", v)]) ∧ ∀ u H'', Same H' H'' → H'' u = some (.tup [.str "turn", v]) → Q (.ref u) H'')
/-- what the law tells of a lambda -/
def TTk (K : PySem.W.Frag) : (XK → Hp → VK → Prop) → Hp → VK → Prop := fun tl H Q => tl (TPk K Q) H fun _ H' => 1 ≤ sizeLine ∧ ∀ u, H' u = none → Q (.ref u) (upd H' u (.tup [.str "made"]))
section
variable {P : Program} [PM : PMain P] {w : World} {K : PySem.W.Frag} {mg : Str → Option Value} {base : Heap}
theorem told_d {X : Cx} (T : Txt X.K X.mg) {q : Str} {g : Addr} {cdg : Value} : LamX.GivesTo X ["_law_act", "e"] "_law_told" (defScope s__law_told) g cdg (defBody s__law_told) "_law_act" q (TTk X.K) := by
  intro f c' s H Q tl act hc h
  unfold TTk at h
  let K := X.K
  refine ⟨_, (pss_cons (ps_try_as (i := 1) rfl rfl sc__law_told.nd rfl rfl ⟨rfl, by decide, .inl T.v_TurnError⟩ takesN (fun W pn xe tk _ => (pss_one (psAct act W pn xe tk))) (fun a oe cls d pn hz hf => (pss_cons (ps_if (pt_val (pe_callB (call_isA X.K List.mem_cons_self hz hf) (by rfl) T.b_isinstance (by decide +kernel) (pa_cons (pv 1) (pa_cons (pe_glob (v := .ref (He.ga K "NoTurns")) (by rfl) T.v_NoTurns rfl) pa_nil)))) (pss_one (ps_ret (pe_tup (pa_cons pe_str pa_nil)))) pss_nil)
      (pss_cons (ps_if (pt_val (pe_callB (call_isA X.K List.mem_cons_self hz hf) (by rfl) T.b_isinstance (by decide +kernel) (pa_cons (pv 1) (pa_cons (pe_glob (v := .ref (He.ga K "TooMany")) (by rfl) T.v_TooMany rfl) pa_nil)))) (pss_one (ps_ret (pe_tup (pa_cons pe_str (pa_cons (pe_xfA hz hf (pv 1)) (pa_cons (pe_xfA hz hf (pv 1)) (pa_cons (pe_xfA hz hf (pv 1)) pa_nil))))))) pss_nil)
      (pss_cons (ps_if (pt_val (pe_callB (call_isAT X.K List.mem_cons_self hz hf) (by rfl) T.b_isinstance (by decide +kernel) (pa_cons (pv 1) (pa_cons (pe_tup (pa_cons (pe_glob (v := .ref (He.ga K "BadName")) (by rfl) T.v_BadName rfl) (pa_cons (pe_glob (v := .ref (He.ga K "TwiceNamed")) (by rfl) T.v_TwiceNamed rfl) pa_nil))) pa_nil)))) (pss_one (ps_ret (pe_tup (pa_cons (pe_ifExp (pt_val (pe_callB (call_isA X.K List.mem_cons_self hz hf) (by rfl) T.b_isinstance (by decide +kernel) (pa_cons (pv 1) (pa_cons (pe_glob (v := .ref (He.ga K "BadName")) (by rfl) T.v_BadName rfl) pa_nil)))) pe_str pe_str) (pa_cons (pe_xfA hz hf (pv 1)) pa_nil))))) pss_nil)
      (pss_cons (ps_if (pt_val (pe_callB (call_isA X.K List.mem_cons_self hz hf) (by rfl) T.b_isinstance (by decide +kernel) (pa_cons (pv 1) (pa_cons (pe_glob (v := .ref (He.ga K "BadPeriod")) (by rfl) T.v_BadPeriod rfl) pa_nil)))) (pss_one (ps_ret (pe_tup (pa_cons pe_str (pa_cons (pe_xfA hz hf (pv 1)) pa_nil))))) pss_nil)
      (pss_one (ps_ret (pe_ifExp (pt_val (pe_callB (call_isA X.K List.mem_cons_self hz hf) (by rfl) T.b_isinstance (by decide +kernel) (pa_cons (pv 1) (pa_cons (pe_glob (v := .ref (He.ga K "NoTurn")) (by rfl) T.v_NoTurn rfl) pa_nil)))) (pe_tup (pa_cons pe_str (pa_cons (pe_xfA hz hf (pv 1)) pa_nil))) (pe_tup (pa_cons pe_str pa_nil)))))))))))
      (pss_one (ps_ret (pe_tup (pa_cons pe_str pa_nil))))), ?_⟩
  refine ⟨_, fun cls d σ' H' hl he => ?_, rfl, hc, h⟩
  match σ', hl with
  | [y0, y1], _ =>
  have yes := fun i (hi : i < 6) => (T.A_err.kit i i hi hi).trans (congrArg some (decide_eq_true (rfl : i = i)))
  have no := fun i j (hi : i < 6) (hj : j < 6) (n : decide (i = j) = false) => (T.A_err.kit i j hi hj).trans (congrArg some n)
  rcases he with ⟨D, hD, k⟩ | ⟨v, dd, rfl, rfl, hd, k⟩
  · cases D with
    | none =>
      obtain ⟨rfl, rfl⟩ := hD
      refine ⟨true, T.A_err.up 3 (by decide), fun _ z hz => ?_, fun q => nomatch q⟩
      have ex : ∀ H'', ExcAt X.K H'' (.ref (He.ga X.K "NoTurns")) none (He.ga X.K "NoTurns") := fun _ => ⟨rfl, excC_of T.x_NoTurns.xf T.o_NoTurns, .inl rfl⟩
      walk_at "g"
      refine ⟨_, _, .ref (He.ga X.K "NoTurns"), true, rfl, ex _, fun _ r => r, yes 3 (by decide), ?_⟩
      walk_at "g"
      exact ⟨by show 1 ≤ sizeLine; decide, fun u nu => k u _ (same_upd nu) upd_same⟩
    | many n =>
      obtain ⟨rfl, dd, rfl, hd⟩ := hD
      refine ⟨true, T.A_err.up 4 (by decide), fun _ z hz => ?_, fun q => nomatch q⟩
      have ex : ExcAt X.K H' (.ref (He.ga X.K "TooMany")) (some dd) (He.ga X.K "TooMany") := ⟨rfl, excC_of T.x_TooMany.xf T.o_TooMany, .inr ⟨dd, _, rfl, hd⟩⟩
      walk_at "g"
      refine ⟨_, _, .ref (He.ga X.K "NoTurns"), false, rfl, ex, fun _ r => r, no 4 3 (by decide) (by decide) rfl, ?_⟩
      walk_at "g"
      refine ⟨_, _, .ref (He.ga X.K "TooMany"), true, rfl, ex, fun _ r => r, yes 4 (by decide), ?_⟩
      walk_at "g"
      refine ⟨T.x_TooMany.xf, T.x_TooMany.no _ (by simp), dd, _, .str "turns", rfl, hd, by rfl, ?_⟩
      walk_at "g"
      refine ⟨T.x_TooMany.xf, T.x_TooMany.no _ (by simp), dd, _, .int (n : Nat), rfl, hd, by rfl, ?_⟩
      walk_at "g"
      refine ⟨T.x_TooMany.xf, T.x_TooMany.no _ (by simp), dd, _, .int 8, rfl, hd, by rfl, ?_⟩
      walk_at "g"
      exact ⟨by show 4 ≤ sizeLine; decide, fun u nu => k u _ (same_upd nu) upd_same⟩
    | name v =>
      obtain ⟨rfl, dd, rfl, hd⟩ := hD
      refine ⟨true, T.A_err.up 0 (by decide), fun _ z hz => ?_, fun q => nomatch q⟩
      have ex : ∀ H'', Same H' H'' → ExcAt X.K H'' (.ref (He.ga X.K "BadName")) (some dd) (He.ga X.K "BadName") := fun H'' s => ⟨rfl, excC_of T.x_BadName.xf T.o_BadName, .inr ⟨dd, _, rfl, s _ _ hd⟩⟩
      walk_at "g"
      refine ⟨_, _, .ref (He.ga X.K "NoTurns"), false, rfl, ex _ (Same.refl _), fun _ r => r, no 0 3 (by decide) (by decide) rfl, ?_⟩
      walk_at "g"
      refine ⟨_, _, .ref (He.ga X.K "TooMany"), false, rfl, ex _ (Same.refl _), fun _ r => r, no 0 4 (by decide) (by decide) rfl, ?_⟩
      walk_at "g"
      refine ⟨by show 2 ≤ sizeLine; decide, fun tp ntp => ?_⟩
      have s1 := same_upd (o := .tup [.ref (He.ga X.K "BadName"), .ref (He.ga X.K "TwiceNamed")]) ntp
      walk_at "g"
      refine ⟨_, tp, _, _, true, rfl, upd_same, .cons (.own _) (.cons (.own _) .nil), ex _ s1, kitAny_cons (b := true) (yes 0 (by decide)) (fun z => by cases z) (fun _ => rfl), ?_⟩
      walk_at "g"
      refine ⟨_, _, .ref (He.ga X.K "BadName"), true, rfl, ex _ s1, fun _ r => r, yes 0 (by decide), ?_⟩
      walk_at "g"
      refine ⟨T.x_BadName.xf, T.x_BadName.no _ (by simp), dd, _, v, rfl, s1 _ _ hd, by rfl, ?_⟩
      walk_at "g"
      exact ⟨by show 2 ≤ sizeLine; decide, fun u nu => k u _ (s1.trans (same_upd nu)) upd_same⟩
    | twice v =>
      obtain ⟨rfl, dd, rfl, hd⟩ := hD
      refine ⟨true, T.A_err.up 1 (by decide), fun _ z hz => ?_, fun q => nomatch q⟩
      have ex : ∀ H'', Same H' H'' → ExcAt X.K H'' (.ref (He.ga X.K "TwiceNamed")) (some dd) (He.ga X.K "TwiceNamed") := fun H'' s => ⟨rfl, excC_of T.x_TwiceNamed.xf T.o_TwiceNamed, .inr ⟨dd, _, rfl, s _ _ hd⟩⟩
      walk_at "g"
      refine ⟨_, _, .ref (He.ga X.K "NoTurns"), false, rfl, ex _ (Same.refl _), fun _ r => r, no 1 3 (by decide) (by decide) rfl, ?_⟩
      walk_at "g"
      refine ⟨_, _, .ref (He.ga X.K "TooMany"), false, rfl, ex _ (Same.refl _), fun _ r => r, no 1 4 (by decide) (by decide) rfl, ?_⟩
      walk_at "g"
      refine ⟨by show 2 ≤ sizeLine; decide, fun tp ntp => ?_⟩
      have s1 := same_upd (o := .tup [.ref (He.ga X.K "BadName"), .ref (He.ga X.K "TwiceNamed")]) ntp
      walk_at "g"
      refine ⟨_, tp, _, _, true, rfl, upd_same, .cons (.own _) (.cons (.own _) .nil), ex _ s1, kitAny_cons (b := false) (no 1 0 (by decide) (by decide) rfl) (fun _ => kitAny_cons (b := true) (yes 1 (by decide)) (fun z => by cases z) (fun _ => rfl)) (fun z => by cases z), ?_⟩
      walk_at "g"
      refine ⟨_, _, .ref (He.ga X.K "BadName"), false, rfl, ex _ s1, fun _ r => r, no 1 0 (by decide) (by decide) rfl, ?_⟩
      walk_at "g"
      refine ⟨T.x_TwiceNamed.xf, T.x_TwiceNamed.no _ (by simp), dd, _, v, rfl, s1 _ _ hd, by rfl, ?_⟩
      walk_at "g"
      exact ⟨by show 2 ≤ sizeLine; decide, fun u nu => k u _ (s1.trans (same_upd nu)) upd_same⟩
    | period v =>
      obtain ⟨rfl, dd, rfl, hd⟩ := hD
      refine ⟨true, T.A_err.up 2 (by decide), fun _ z hz => ?_, fun q => nomatch q⟩
      have ex : ∀ H'', Same H' H'' → ExcAt X.K H'' (.ref (He.ga X.K "BadPeriod")) (some dd) (He.ga X.K "BadPeriod") := fun H'' s => ⟨rfl, excC_of T.x_BadPeriod.xf T.o_BadPeriod, .inr ⟨dd, _, rfl, s _ _ hd⟩⟩
      walk_at "g"
      refine ⟨_, _, .ref (He.ga X.K "NoTurns"), false, rfl, ex _ (Same.refl _), fun _ r => r, no 2 3 (by decide) (by decide) rfl, ?_⟩
      walk_at "g"
      refine ⟨_, _, .ref (He.ga X.K "TooMany"), false, rfl, ex _ (Same.refl _), fun _ r => r, no 2 4 (by decide) (by decide) rfl, ?_⟩
      walk_at "g"
      refine ⟨by show 2 ≤ sizeLine; decide, fun tp ntp => ?_⟩
      have s1 := same_upd (o := .tup [.ref (He.ga X.K "BadName"), .ref (He.ga X.K "TwiceNamed")]) ntp
      walk_at "g"
      refine ⟨_, tp, _, _, false, rfl, upd_same, .cons (.own _) (.cons (.own _) .nil), ex _ s1, kitAny_cons (b := false) (no 2 0 (by decide) (by decide) rfl) (fun _ => kitAny_cons (b := false) (no 2 1 (by decide) (by decide) rfl) (fun _ => rfl) (fun z => by cases z)) (fun z => by cases z), ?_⟩
      walk_at "g"
      refine ⟨_, _, .ref (He.ga X.K "BadPeriod"), true, rfl, ex _ s1, fun _ r => r, yes 2 (by decide), ?_⟩
      walk_at "g"
      refine ⟨T.x_BadPeriod.xf, T.x_BadPeriod.no _ (by simp), dd, _, v, rfl, s1 _ _ hd, by rfl, ?_⟩
      walk_at "g"
      exact ⟨by show 2 ≤ sizeLine; decide, fun u nu => k u _ (s1.trans (same_upd nu)) upd_same⟩
    | made => exact hD.elim
  · refine ⟨true, T.A_err.up 5 (by decide), fun _ z hz => ?_, fun q => nomatch q⟩
    have ex : ∀ H'', Same H' H'' → ExcAt X.K H'' (.ref (He.ga X.K "NoTurn")) (some dd) (He.ga X.K "NoTurn") := fun H'' s => ⟨rfl, excC_of T.x_NoTurn.xf T.o_NoTurn, .inr ⟨dd, _, rfl, s _ _ hd⟩⟩
    walk_at "g"
    refine ⟨_, _, .ref (He.ga X.K "NoTurns"), false, rfl, ex _ (Same.refl _), fun _ r => r, no 5 3 (by decide) (by decide) rfl, ?_⟩
    walk_at "g"
    refine ⟨_, _, .ref (He.ga X.K "TooMany"), false, rfl, ex _ (Same.refl _), fun _ r => r, no 5 4 (by decide) (by decide) rfl, ?_⟩
    walk_at "g"
    refine ⟨by show 2 ≤ sizeLine; decide, fun tp ntp => ?_⟩
    have s1 := same_upd (o := .tup [.ref (He.ga X.K "BadName"), .ref (He.ga X.K "TwiceNamed")]) ntp
    walk_at "g"
    refine ⟨_, tp, _, _, false, rfl, upd_same, .cons (.own _) (.cons (.own _) .nil), ex _ s1, kitAny_cons (b := false) (no 5 0 (by decide) (by decide) rfl) (fun _ => kitAny_cons (b := false) (no 5 1 (by decide) (by decide) rfl) (fun _ => rfl) (fun z => by cases z)) (fun z => by cases z), ?_⟩
    walk_at "g"
    refine ⟨_, _, .ref (He.ga X.K "BadPeriod"), false, rfl, ex _ s1, fun _ r => r, no 5 2 (by decide) (by decide) rfl, ?_⟩
    walk_at "g"
    refine ⟨_, _, .ref (He.ga X.K "NoTurn"), true, rfl, ex _ s1, fun _ r => r, yes 5 (by decide), ?_⟩
    walk_at "g"
    refine ⟨T.x_NoTurn.xf, T.x_NoTurn.no _ (by simp), dd, _, v, rfl, s1 _ _ hd, by rfl, ?_⟩
    walk_at "g"
    exact ⟨by show 2 ≤ sizeLine; decide, fun u nu => k u _ (s1.trans (same_upd nu)) upd_same⟩
end
end Tr

/-! # k10: strangers. -/
/- wanted: T.d__law_strangers -/
namespace Tr
open PySem L2 TL
/-- steps of a reading that are plain -/
local macro_rules | `(tactic| walk_at "x") => `(tactic| (refine' ⟨_, _, _, _, rfl, rfl, ?k1, ?k2, ?_⟩; (case k1 => exact SqT.of (by assumption)); (case k2 => exact rfl)))
local macro_rules | `(tactic| walk_at "g") => `(tactic| repeat (first | (refine ⟨_, rfl, ?_⟩) | (refine ⟨_, _, rfl, rfl, ?_⟩) | (refine ⟨_, _, rfl, ?_⟩) | (refine ⟨rfl, ?_⟩) | walk_at "x"))


def lamQ : Str := "law.<locals>.<lambda>"
def strQ : Str := "_law_strangers.<locals>.<lambda>"
theorem _root_.L2.Same.extN {H H' : Hp} (s : Same H H') : LamX.ExtN H H' := fun b o h _ => s b o h
theorem TuAt.ext {C a : Addr} {H H' : Hp} {ks : List SI} (h : TuAt C H a ks) (e : LamX.ExtN H H') : TuAt C H' a ks := by
  obtain ⟨dt, p1, p2, p3, p4, e0, ⟨ts, a1, b1⟩, e2, e3, e4⟩ := h.ex
  exact ⟨dt, p1, p2, p3, p4, e _ _ e0 (by intro _ z; cases z), ⟨ts, e _ _ a1 (by intro _ z; cases z), b1.mono fun _ _ q => e _ _ q (by intro _ z; cases z)⟩, e _ _ e2 (by intro _ z; cases z), e _ _ e3 (by intro _ z; cases z), e _ _ e4 (by intro _ z; cases z)⟩
theorem TuAt.kpL {C l a : Addr} {H H' : Hp} {xs : List V} {ks : List SI} (h : TuAt C H a ks) (k : Kp l H H') (hl : H l = some (.lst xs)) : TuAt C H' a ks := by
  obtain ⟨dt, p1, p2, p3, p4, e0, ⟨ts, a1, b1⟩, e2, e3, e4⟩ := h.ex
  have g : ∀ {b : Addr} {o : HO}, H b = some o → (∀ ys, o ≠ .lst ys) → H' b = some o := fun hb n => k _ _ hb (ne_of hb hl (n _))
  exact ⟨dt, p1, p2, p3, p4, g e0 (by intro _ z; cases z), ⟨ts, g a1 (by intro _ z; cases z), b1.mono fun _ _ q => g q (by intro _ z; cases z)⟩, g e2 (by intro _ z; cases z), g e3 (by intro _ z; cases z), g e4 (by intro _ z; cases z)⟩
theorem tabs_kp {T : List (Addr × Str)} {D : Addr} {H H' : Hp} {o : HO} (t : LamX.Tabs T H) (kp : Kp D H H') (hD : H D = some o) (no : ∀ ps, o ≠ .tbl ps) (nc : ∀ h, o ≠ .ext h) : LamX.Tabs T H' := fun p hp => by
  obtain ⟨ps, h1, h2, h3⟩ := t p hp
  have ne : ∀ {b : Addr} {u : HO}, H b = some u → u ≠ o → b ≠ D := fun hb n e => n (by rw [e, hD] at hb; exact (Option.some.inj hb).symm)
  refine ⟨ps, kp _ _ h1 (ne h1 fun e => no ps e.symm), h2, fun pos cv hc => ?_⟩
  obtain ⟨c, e1, e2⟩ := h3 pos cv hc
  exact ⟨c, e1, kp _ _ e2 (ne e2 fun e => nc _ e.symm)⟩
theorem tabs_kpl {T : List (Addr × Str)} {D : Addr} {H H' : Hp} {xs : List V} (t : LamX.Tabs T H) (kp : Kp D H H') (hD : H D = some (.lst xs)) : LamX.Tabs T H' := tabs_kp t kp hD (fun _ => by intro z; cases z) (fun _ => by intro z; cases z)
theorem tabs_kpB {T : List (Addr × Str)} {D : Addr} {H H' : Hp} {kvs : List (Key × V)} (t : LamX.Tabs T H) (kp : Kp D H H') (hD : H D = some (.dK kvs)) : LamX.Tabs T H' := tabs_kp t kp hD (fun _ => by intro z; cases z) (fun _ => by intro z; cases z)
/-- the law's strangers -/
inductive SgV (H : Hp) : V → Prop
  | oth : SgV H (.str "other")
  | em : SgV H (.str "")
  | five : SgV H (.int 5)
  | non : SgV H .non
  | tup {u : Addr} (h : H u = some (.tup [.str "a"])) : SgV H (.ref u)
  | tr : SgV H (.bl true)
  | lst {u : Addr} (h : H u = some (.lst [.str "a"])) : SgV H (.ref u)
  | dic {u : Addr} (h : H u = some (.dK [(.inr "a", .int 1)])) : SgV H (.ref u)
theorem SgV.to {H H' : Hp} {v : V} (h : SgV H v) (k : ∀ u o, v = .ref u → H u = some o → (∀ ps, o ≠ .tbl ps) → (∀ (us : List Addr), us ≠ [] → o ≠ .lst (us.map V.ref)) → H' u = some o) : SgV H' v := by
  have no : ∀ us : List Addr, us ≠ [] → HO.lst [.str "a"] ≠ .lst (us.map V.ref) := fun us hn e => by
    cases us with
    | nil => exact hn rfl
    | cons u us => cases e
  cases h with
  | oth => exact .oth
  | em => exact .em
  | five => exact .five
  | non => exact .non
  | tup h => exact .tup (k _ _ rfl h (by intro _ z; cases z) (by intro _ _ z; cases z))
  | tr => exact .tr
  | lst h => exact .lst (k _ _ rfl h (by intro _ z; cases z) no)
  | dic h => exact .dic (k _ _ rfl h (by intro _ z; cases z) (by intro _ _ z; cases z))
theorem SgV.no {K : PySem.W.Frag} {H : Hp} {v : V} {ks : List SI} (h : SgV H v) (h1 : hasS ks "other" = false) (h2 : hasS ks "" = false) : StrNo K H ks v := by
  cases h with
  | oth => exact .inl ⟨_, rfl, h1⟩
  | em => exact .inl ⟨_, rfl, h2⟩
  | five => exact .inr ⟨_, .base (.int 5), kit_ty (by decide +kernel)⟩
  | non => exact .inr ⟨_, .base .non, kit_ty (by decide +kernel)⟩
  | tup h => exact .inr ⟨_, .base (.tup h), kit_ty (by decide +kernel)⟩
  | tr => exact .inr ⟨_, .base (.bl true), kit_ty (by decide +kernel)⟩
  | lst h => exact .inr ⟨_, .base (.lst h), kit_ty (by decide +kernel)⟩
  | dic h => exact .inr ⟨_, .base (.dK h), kit_ty (by decide +kernel)⟩
theorem SgV.slf {H : Hp} {v : V} (h : SgV H v) : Slf v := by
  cases h with
  | tup h => exact .inr ⟨_, rfl⟩
  | lst h => exact .inr ⟨_, rfl⟩
  | dic h => exact .inr ⟨_, rfl⟩
  | _ => exact .inl rfl
/-- what stands while strangers are asked -/
structure E10 (K : PySem.W.Frag) (t lo Pt : Addr) (ks : List SI) (vs : List V) (H : Hp) : Prop where
  tu : TuAt (He.ga K "Turns") H t ks
  hlo : H lo = some (.lst vs)
  sg : ∀ v ∈ vs, SgV H v
  tab : LamX.Tabs [(Pt, strQ)] H
section
variable {K : PySem.W.Frag} {t lo Pt L : Addr} {ks : List SI} {vs : List V} {H H' : Hp}
theorem E10.same (h : E10 K t lo Pt ks vs H) (s : Same H H') : E10 K t lo Pt ks vs H' := ⟨h.tu.same s, s _ _ h.hlo, fun v hv => (h.sg v hv).to fun u o _ e _ _ => s u o e, h.tab.ext fun b o e => s b o e⟩
theorem E10.ext (h : E10 K t lo Pt ks vs H) (s : LamX.ExtN H H') (tab : LamX.Tabs [(Pt, strQ)] H') : E10 K t lo Pt ks vs H' := ⟨h.tu.ext s, s _ _ h.hlo (by intro _ z; cases z), fun v hv => (h.sg v hv).to fun u o _ e n _ => s u o e n, tab⟩
theorem E10.kpL {us : List Addr} (h : E10 K t lo Pt ks vs H) (k : Kp L H H') (hL : H L = some (.lst (us.map V.ref))) (n0 : us ≠ []) (nl : lo ≠ L) : E10 K t lo Pt ks vs H' :=
  ⟨h.tu.kpL k hL, k _ _ h.hlo nl, fun v hv => (h.sg v hv).to fun u o _ e _ n => k u o e (ne_of e hL (n _ n0)), tabs_kpl h.tab k hL⟩
end
section
variable {P : Program} [PM : PMain P] {w : World} {K : PySem.W.Frag} {mg : Str → Option Value} {base : Heap}
def spStrangers (K : PySem.W.Frag) (Pt : Addr) : Sp := fun vs H Q _ => ∃ (t : Addr) (ks : List SI), vs = [.ref t] ∧ TuAt (He.ga K "Turns") H t ks ∧ KsOk ks ∧ hasS ks "other" = false ∧ hasS ks "" = false ∧ LamX.Tabs [(Pt, strQ)] H ∧ ∀ H', Q (.bl true) H'
/-- the maker of lambdas, as the top has left it -/
def LamM (K : PySem.W.Frag) (mg : Str → Option Value) (x : Str) (st : Stmt) (c : Addr) : Prop := ∃ f fd, Fun K x x st f fd ∧ mg x = some (.ref f) ∧ fd.code = .ref c
theorem calT {x : Str} {st : Stmt} {N ps : List Str} {k : Nat} {sp : Sp} {c : Addr} (D : LamM K mg x st c) (S : FnScope N ps (defScope st)) (len : ∀ vs H Q E, sp vs H Q E → vs.length = ps.length)
    (hb : ∀ (kV doc pm : Value) (an : Option Addr) (cdv ct : Value) (us : List Value), us.length = ps.length → bindArgs (PySem.W.fnOf x x (defArgs st) (defBody st) (defScope st) .none kV doc pm an cdv ct) ⟨us, []⟩ = pure (ps.zip us))
    (hbody : ∀ (f : Addr) (A : Around) (outer : List Env) (s : Shared) (H : Hp) (vs : List V) (Q : VK) (E : XK), Room k (A.deeper (PyProof.Rows.envOfC x (defScope st) s.heap.objs.size f (.ref c))) → sp vs H Q E →
      ∃ t, PSs (cxOf (L2.CX P w) P w K mg base N x (defScope st) f (.ref c) A outer s H E).nox (defBody st) t ∧ t { nx := fun _ H' => Q .non H', rt := Q } (start N vs) H) : Cal P w K mg base (k + 1) x sp [] :=
  let ⟨f, fd, F, hm, hc⟩ := D
  ⟨f, fd, ps, [], okT F hc S len (hbody f), hm, F.kp, F.binds hb, .nil⟩
theorem c__law_strangers (T : Txt K mg) {c Pt : Addr} (D : LamM K mg "_law_strangers" s__law_strangers c) (TB : LamX.TabB base mg c Pt) : Cal P w K mg base 45 "_law_strangers" (spStrangers K Pt) [] := by
  have c_period_of := @c_period_ofX P PM w K mg base T
  have c_rank := @c_rankX P PM w K mg base T
  have c_tget := @c_tget P PM w K mg base T
  have c_tin := @c_tin P w K mg base T
  refine calT D sc__law_strangers (fun vs H Q E h => ?_) (fun _ _ _ _ _ _ us hl => match us, hl with | [_], _ => rfl) (fun f A outer s H vs Q E hr h => ?_)
  · obtain ⟨t, ks, rfl, _⟩ := h
    rfl
  · obtain ⟨t, ks, rfl, hT, ok, ho, he, tab, k⟩ := h
    refine ⟨_, (pss_cons (ps_for PassesOwn.never rfl (pi_list (pe_lst (pa_cons pe_str (pa_cons pe_str (pa_cons pe_int (pa_cons pe_non (pa_cons (pe_tup (pa_cons pe_str pa_nil)) (pa_cons pe_bl (pa_cons (pe_lst (pa_cons pe_str pa_nil)) (pa_cons (pe_disp (pps_cons pe_str pe_int pps_nil) rfl rfl (List.cons_ne_nil _ _) (by decide)) pa_nil)))))))))) (pg_name (i := 1) sc__law_strangers.nd rfl (Or.inr rfl)) (pss_cons (ps_set (i := 2) sc__law_strangers.nd rfl (Or.inl rfl) (pe_lst (pa_cons (pe_lam1 (q := strQ) (k := 30) (by rfl) T.d__law_told sc__law_told rfl (by first | exact .inl rfl | exact .inr (.inl rfl)) (fun _ _ _ _ _ _ us hl => match us, hl with | [_], _ => rfl) (fun g cdg => told_d T) (by rfl) TB rfl hr (by first | decide | omega) (LamX.lamS_by (sc := defScope s__law_strangers) (by decide +kernel)) rfl (fun _ _ _ _ _ => rfl) (fun A outer s H E f c' hr => (pe_mtx c_period_of hr (by first | decide | omega) (passE rfl rfl rfl rfl) (pv 0) (pa_cons (pv 1) pa_nil)))) pa_nil)))
      (pss_cons (ps_expr (pe_bm PySem.F.plainAttrs_list PySem.F.slot_list_append PySem.F.type_list_append mt_append (pv 2) (pa_cons (pe_lam1 (q := strQ) (k := 30) (by rfl) T.d__law_told sc__law_told rfl (by first | exact .inl rfl | exact .inr (.inl rfl)) (fun _ _ _ _ _ _ us hl => match us, hl with | [_], _ => rfl) (fun g cdg => told_d T) (by rfl) TB rfl hr (by first | decide | omega) (LamX.lamS_by (sc := defScope s__law_strangers) (by decide +kernel)) rfl (fun _ _ _ _ _ => rfl) (fun A outer s H E f c' hr => (pe_mtx c_rank hr (by first | decide | omega) (passE rfl rfl rfl rfl) (pv 0) (pa_cons (pv 1) pa_nil)))) pa_nil)))
      (pss_cons (ps_expr (pe_bm PySem.F.plainAttrs_list PySem.F.slot_list_append PySem.F.type_list_append mt_append (pv 2) (pa_cons (pe_lam1 (q := strQ) (k := 30) (by rfl) T.d__law_told sc__law_told rfl (by first | exact .inl rfl | exact .inr (.inl rfl)) (fun _ _ _ _ _ _ us hl => match us, hl with | [_], _ => rfl) (fun g cdg => told_d T) (by rfl) TB rfl hr (by first | decide | omega) (LamX.lamS_by (sc := defScope s__law_strangers) (by decide +kernel)) rfl (fun _ _ _ _ _ => rfl) (fun A outer s H E f c' hr => (pe_getO c_tget T.g_Turns hr (by first | decide | omega) (passE rfl rfl rfl rfl) (pv 0) (pv 1)))) pa_nil)))
      (pss_one (ps_if (PW.pt (pw_or (pt_cmpR (op_neLT (units_of hr)) (pv 2) (pe_op op_rep (pe_lst (pa_cons (pe_tup (pa_cons pe_str (pa_cons (pv 1) pa_nil))) pa_nil)) pe_int) (nomark _)) (pw_or1 (pt_cmpR (or_inO c_tin hr (by first | decide | omega) passL) (pv 1) (pv 0) (by rfl))))) (pss_one (ps_ret pe_bl)) pss_nil))))))
      (pss_one (ps_ret pe_bl))), ?_⟩
    generalize hσ : L2.start _ _ = σ0
    obtain rfl : σ0 = [some (.ref t), none, none] := hσ.symm
    clear hσ
    walk_at "g"
    refine ⟨by show 1 ≤ sizeLine; decide, fun t1 nt1 => ?_⟩
    have s1 := same_upd (o := .tup [.str "a"]) nt1
    have ht1 : upd H t1 (.tup [.str "a"]) t1 = some (.tup [.str "a"]) := upd_same
    generalize upd H t1 (.tup [.str "a"]) = G1 at *
    walk_at "g"
    refine ⟨by show 1 ≤ sizeLine; decide, fun t2 nt2 => ?_⟩
    have s2 := same_upd (o := .lst [.str "a"]) nt2
    have ht2 : upd G1 t2 (.lst [.str "a"]) t2 = some (.lst [.str "a"]) := upd_same
    generalize upd G1 t2 (.lst [.str "a"]) = G2 at *
    walk_at "g"
    refine fun t3 nt3 => ?_
    walk_at "g"
    refine ⟨upd_same, [(.inr "a", .int 1)], rfl, by show 1 ≤ 15; decide, ?_⟩
    obtain ⟨G3, e3⟩ : ∃ G3, G3 = upd (upd G2 t3 (.dK [])) t3 (.dK (mergeK [] [(.inr "a", .int 1)])) := ⟨_, rfl⟩
    have s3 : Same G2 G3 := by rw [e3]; exact (same_upd nt3).wr nt3
    have ht3 : G3 t3 = some (.dK [(.inr "a", .int 1)]) := by rw [e3]; exact upd_same
    rw [← e3]
    clear e3
    walk_at "g"
    refine ⟨by show 8 ≤ sizeLine; decide, fun L0 nL0 => ?_⟩
    obtain ⟨VS, eVS⟩ : ∃ VS : List V, VS = [.str "other", .str "", .int 5, .non, .ref t1, .bl true, .ref t2, .ref t3] := ⟨_, rfl⟩
    rw [← eVS]
    have s4 := same_upd (o := .lst VS) nL0
    have hL0 : upd G3 L0 (.lst VS) L0 = some (.lst VS) := upd_same
    generalize upd G3 L0 (.lst VS) = G4 at *
    have E4 : E10 K t L0 Pt ks VS G4 := by
      refine ⟨hT.same (((s1.trans s2).trans s3).trans s4), hL0, fun v hv => ?_, tab.ext fun b o e => (((s1.trans s2).trans s3).trans s4) b o e⟩
      rw [eVS] at hv
      simp only [List.mem_cons, List.not_mem_nil, or_false] at hv
      rcases hv with rfl | rfl | rfl | rfl | rfl | rfl | rfl | rfl
      · exact .oth
      · exact .em
      · exact .five
      · exact .non
      · exact .tup (((s2.trans s3).trans s4) _ _ ht1)
      · exact .tr
      · exact .lst ((s3.trans s4) _ _ ht2)
      · exact .dic (s4 _ _ ht3)
    clear eVS s1 s2 s3 s4 ht1 ht2 ht3 nt1 nt2 nt3 nL0 hL0 hT tab
    walk_at "g"
    refine ⟨⟨_, SqL.of E4.hlo⟩, ?_⟩
    refine for_it (walk_list (K := K) (xs := VS)) (fun i σ H' => ∃ v1 v2 : Option V, σ = [some (.ref t), v1, v2] ∧ E10 K t L0 Pt ks VS H') ⟨_, _, rfl, E4⟩ ?_ ?_ ?_
    · rintro i σ H' _ ⟨_, _, rfl, e⟩
      exact SqL.of e.hlo
    · rintro i y σ H5 H5' hi ⟨v1, v2, rfl, E5⟩ ⟨rfl, hy⟩
      have hym := mem_of_at hy
      walk_at "g"
      refine ⟨E5.tab, fun H6 x6 tab6 => ?_⟩
      have E6 := E5.ext x6 tab6
      unfold TTk
      obtain ⟨dt, p1, p2, p3, p4, ht, _⟩ := id E6.tu.ex
      walk_at "g"
      refine ⟨t, dt, _, rfl, ht, rfl, ?_⟩
      walk_at "g"
      refine ⟨t, y, ks, rfl, E6.tu, .inr ⟨(E6.sg y hym).no ho he, fun d nd => .inr ⟨y, d, rfl, rfl, upd_same, fun u H7 s7 hu => ?_⟩⟩⟩
      have E7 := (E6.same (same_upd nd)).same s7
      walk_at "g"
      refine ⟨by show 1 ≤ sizeLine; decide, fun L nL => ?_⟩
      have nl : L0 ≠ L := ne_of_none E7.hlo nL
      have s8 := same_upd (o := .lst [.ref u]) nL
      have hL8 : upd H7 L (.lst [.ref u]) L = some (.lst ([u].map V.ref)) := upd_same
      have hu8 := s8 _ _ hu
      have E8 := E7.same s8
      generalize upd H7 L (.lst [.ref u]) = H8 at *
      clear E5 E6 E7 ht hu nL s8 x6 tab6 nd
      walk_at "g"
      refine ⟨.inl ⟨rfl, _, SqL.of hL8⟩, ?_⟩
      walk_at "g"
      refine ⟨E8.tab, fun H9 x9 tab9 => ?_⟩
      have E9 := E8.ext x9 tab9
      have hu9 := x9 _ _ hu8 (by intro _ z; cases z)
      have hL9 := x9 _ _ hL8 (by intro _ z; cases z)
      obtain ⟨dt, p1, p2, p3, p4, ht, _⟩ := id E9.tu.ex
      walk_at "g"
      refine ⟨t, dt, _, rfl, ht, rfl, ?_⟩
      walk_at "g"
      refine ⟨t, y, ks, rfl, E9.tu, .inr ⟨(E9.sg y hym).no ho he, fun d2 nd2 => .inr ⟨y, d2, rfl, rfl, upd_same, fun u2 Ha sa hu2 => ?_⟩⟩⟩
      have Ea := (E9.same (same_upd nd2)).same sa
      have hua := sa _ _ (same_upd nd2 _ _ hu9)
      have hLa := sa _ _ (same_upd nd2 _ _ hL9)
      walk_at "g"
      refine ⟨L, [.ref u], _, rfl, rfl, hLa, by show 1 < sizeLine; decide, ?_⟩
      have kb := kp_upd L Ha (.lst ([V.ref u] ++ [.ref u2]))
      have hLb : upd Ha L (.lst ([V.ref u] ++ [.ref u2])) L = some (.lst ([u, u2].map V.ref)) := upd_same
      have hub := kb _ _ hua (ne_of hua hLa (by intro z; cases z))
      have hu2b := kb _ _ hu2 (ne_of hu2 hLa (by intro z; cases z))
      have Eb := Ea.kpL kb hLa (List.cons_ne_nil _ _) nl
      generalize hHb : upd Ha L (.lst ([V.ref u] ++ [.ref u2])) = Hb at *
      clear hHb E8 E9 Ea ht hu8 hL8 hu9 hL9 hua hLa hu2 kb x9 tab9 nd2 sa
      walk_at "g"
      refine ⟨.inl ⟨rfl, _, SqL.of hLb⟩, ?_⟩
      walk_at "g"
      refine ⟨Eb.tab, fun Hc xc tabc => ?_⟩
      have Ec := Eb.ext xc tabc
      have huc := xc _ _ hub (by intro _ z; cases z)
      have hu2c := xc _ _ hu2b (by intro _ z; cases z)
      have hLc := xc _ _ hLb (by intro _ z; cases z)
      obtain ⟨dt, p1, p2, p3, p4, ht, _⟩ := id Ec.tu.ex
      walk_at "g"
      refine ⟨t, dt, _, rfl, ht, t, y, ks, rfl, Ec.tu, ok, .inr ⟨(Ec.sg y hym).no ho he, fun d3 nd3 => .inr ⟨y, d3, rfl, rfl, upd_same, fun u3 Hd sd hu3 => ?_⟩⟩⟩
      have Ed := (Ec.same (same_upd nd3)).same sd
      have hud := sd _ _ (same_upd nd3 _ _ huc)
      have hu2d := sd _ _ (same_upd nd3 _ _ hu2c)
      have hLd := sd _ _ (same_upd nd3 _ _ hLc)
      walk_at "g"
      refine ⟨L, [.ref u, .ref u2], _, rfl, rfl, hLd, by show 2 < sizeLine; decide, ?_⟩
      have ke := kp_upd L Hd (.lst ([V.ref u, .ref u2] ++ [.ref u3]))
      have hLe : upd Hd L (.lst ([V.ref u, .ref u2] ++ [.ref u3])) L = some (.lst ([u, u2, u3].map V.ref)) := upd_same
      have hue := ke _ _ hud (ne_of hud hLd (by intro z; cases z))
      have hu2e := ke _ _ hu2d (ne_of hu2d hLd (by intro z; cases z))
      have hu3e := ke _ _ hu3 (ne_of hu3 hLd (by intro z; cases z))
      have Ee := Ed.kpL ke hLd (List.cons_ne_nil _ _) nl
      generalize hHe : upd Hd L (.lst ([V.ref u, .ref u2] ++ [.ref u3])) = He' at *
      clear hHe Eb Ec Ed ht hub hu2b hLb huc hu2c hLc hud hu2d hLd hu3 ke xc tabc nd3 sd
      walk_at "g"
      refine ⟨by show 2 ≤ sizeLine; decide, fun w1 nw1 => ?_⟩
      have sf := same_upd (o := .tup [.str "turn", y]) nw1
      have hw1 : upd He' w1 (.tup [.str "turn", y]) w1 = some (.tup [.str "turn", y]) := upd_same
      have huf := sf _ _ hue
      have hu2f := sf _ _ hu2e
      have hu3f := sf _ _ hu3e
      have hLf := sf _ _ hLe
      have Ef := Ee.same sf
      generalize upd He' w1 (.tup [.str "turn", y]) = Hf at *
      clear Ee hue hu2e hu3e hLe sf nw1
      walk_at "g"
      refine ⟨by show 1 ≤ sizeLine; decide, fun w2 nw2 => ?_⟩
      have sg := same_upd (o := .lst [.ref w1]) nw2
      have hw2 : upd Hf w2 (.lst [.ref w1]) w2 = some (.lst [.ref w1]) := upd_same
      walk_at "g"
      refine ⟨w2, 3, [.ref w1], rfl, rfl, hw2, by decide, by decide, by show 3 ≤ sizeLine; decide, fun w3 nw3 => ?_⟩
      have sh := sg.trans (same_upd (o := .lst (List.replicate (3 : Int).toNat [V.ref w1]).flatten) nw3)
      have hw3 : upd (upd Hf w2 (.lst [.ref w1])) w3 (.lst (List.replicate (3 : Int).toNat [V.ref w1]).flatten) w3 = some (.lst ([w1, w1, w1].map V.ref)) := upd_same
      generalize upd (upd Hf w2 (.lst [.ref w1])) w3 (.lst (List.replicate (3 : Int).toNat [V.ref w1]).flatten) = Hg at *
      have slf : ∀ v ∈ [V.str "turn", y], Slf v := fun v hv => by
        rcases List.mem_cons.mp hv with rfl | hv
        · exact .inl rfl
        · rw [List.mem_singleton.mp hv]
          exact (Ef.sg y hym).slf
      have tt : ∀ {a : Addr}, Hf a = some (.tup [.str "turn", y]) → TupS K Hg a w1 := fun ha => ⟨_, SqT.of (sh _ _ ha), SqT.of (sh _ _ hw1), slf⟩
      refine ⟨L, w3, [u, u2, u3], [w1, w1, w1], rfl, rfl, SqL.of (sh _ _ hLf), SqL.of hw3, .cons (tt huf) (.cons (tt hu2f) (.cons (tt hu3f) .nil)), ?_⟩
      have Eg := Ef.same sh
      obtain ⟨dt, p1, p2, p3, p4, ht, _⟩ := id Eg.tu.ex
      walk_at "g"
      refine ⟨t, dt, _, rfl, ht, t, y, ks, rfl, Eg.tu, ?_⟩
      rcases (Eg.sg y hym).no (K := K) ho he with ⟨z, rfl, hz⟩ | ⟨ty, ty1, ty2⟩
      · refine .inl ⟨z, rfl, ?_⟩
        rw [hz]
        walk_at "g"
        first | exact Eg | exact ⟨_, _, rfl, Eg⟩
      · refine .inr ⟨ty, ty1, ty2, ?_⟩
        walk_at "g"
        first | exact Eg | exact ⟨_, _, rfl, Eg⟩
    · rintro σ H' ⟨v1, v2, rfl, E5⟩
      walk_at "g"
      exact k _
end
end Tr

/-! # k10: the law's end: turns that are made. -/
namespace Tr
open PySem L2 TL
/-- steps of a reading that are plain -/
local macro_rules | `(tactic| walk_at "x") => `(tactic| (refine' ⟨_, _, _, _, rfl, rfl, ?k1, ?k2, ?_⟩; (case k1 => exact SqT.of (by assumption)); (case k2 => exact rfl)))
local macro_rules | `(tactic| walk_at "g") => `(tactic| repeat (first | (refine ⟨_, rfl, ?_⟩) | (refine ⟨_, _, rfl, rfl, ?_⟩) | (refine ⟨_, _, rfl, ?_⟩) | (refine ⟨rfl, ?_⟩) | walk_at "x"))


/-- what stands behind the asking -/
structure Z10 (K : PySem.W.Frag) (lp lg Pt2 : Addr) (ks : List SI) (us vs : List Addr) (H : Hp) : Prop where
  hlp : H lp = some (.lst (us.map V.ref))
  pu : P2 (SrT H) us ks
  hlg : H lg = some (.lst (vs.map V.ref))
  pv : P2 (SrE K H) vs ks
  tab : LamX.Tabs [(Pt2, strQ)] H
theorem dpa_strs {K : PySem.W.Frag} {H : Hp} : ∀ ps : List Str, DpAll K H (ps.map V.str) (ps.map PyData.str)
  | [] => .nil
  | p :: ps => .cons (.str p) (dpa_strs ps)
theorem lay_strs : ∀ xs : List Str, (∀ x ∈ xs, PyData.strOk x = true) → PyData.canLayAll0 (xs.map PyData.str) = true
  | [], _ => rfl
  | x :: xs, h => by
    show (PyData.strOk x && PyData.canLayAll0 (xs.map PyData.str)) = true
    rw [h x List.mem_cons_self, lay_strs xs fun y hy => h y (List.mem_cons_of_mem _ hy)]
    rfl
theorem depth_strs : ∀ xs : List Str, PyData.depthAll (xs.map PyData.str) = 0
  | [] => rfl
  | x :: xs => by
    show max 0 (PyData.depthAll (xs.map PyData.str)) = 0
    rw [depth_strs xs]
    rfl
theorem shaped_strs {ws : List Str} (h : ∀ w ∈ ws, PyData.strOk w = true) : SeqAt.shaped (.tuple (ws.map PyData.str)) = true := by
  unfold SeqAt.shaped
  rw [Bool.and_eq_true, decide_eq_true_eq]
  refine ⟨lay_strs ws h, ?_⟩
  show PyData.depthAll (ws.map PyData.str) + 1 ≤ 64
  rw [depth_strs]
  decide
theorem per_rk {z : Str} : ∀ {ks : List SI}, (∃ k ∈ ks, k.1 = z) → ∃ c, ks[rankS ks z]? = some c ∧ c.1 = z ∧ perOf ks z = c.2
  | [], h => by obtain ⟨k, hk, _⟩ := h; cases hk
  | c :: cs, h => by
    by_cases e : c.1 = z
    · have e2 : rankS (c :: cs) z = 0 := by
        unfold rankS
        rw [List.findIdx_cons, decide_eq_true e]
        rfl
      rw [e2]
      refine ⟨c, rfl, e, ?_⟩
      unfold perOf lookS
      rw [List.find?_cons, decide_eq_true e]
      rfl
    · have e2 : rankS (c :: cs) z = rankS cs z + 1 := by
        unfold rankS
        rw [List.findIdx_cons, decide_eq_false e]
        rfl
      have h2 : ∃ k ∈ cs, k.1 = z := by
        obtain ⟨k, hk, ek⟩ := h
        rcases List.mem_cons.mp hk with rfl | hk
        · exact (e ek).elim
        · exact ⟨k, hk, ek⟩
      rw [e2]
      obtain ⟨d, h3, h4, h5⟩ := per_rk h2
      refine ⟨d, h3, h4, ?_⟩
      rw [← h5]
      unfold perOf lookS
      rw [List.find?_cons, decide_eq_false e]
theorem rank_ix {ks : List SI} (nd : Nds ks) {i : Nat} {c : SI} (hc : ks[i]? = some c) : rankS ks c.1 = i ∧ perOf ks c.1 = c.2 := by
  obtain ⟨d, hd, e1, e2⟩ := per_rk (z := c.1) ⟨c, mem_of_at hc, rfl⟩
  have hi := (List.getElem?_eq_some_iff.mp hc).1
  have hj := (List.getElem?_eq_some_iff.mp hd).1
  have e : rankS ks c.1 = i := by
    have h1 : (ks.map (·.1))[rankS ks c.1]? = some c.1 := by rw [List.getElem?_map, hd]; exact congrArg some e1
    have h2 : (ks.map (·.1))[i]? = some c.1 := by rw [List.getElem?_map, hc]; rfl
    exact (List.getElem?_inj (by rw [List.length_map]; exact hj) nd).mp (h1.trans h2.symm)
  refine ⟨e, ?_⟩
  rw [e, hc] at hd
  rw [e2, ← Option.some.inj hd]
theorem norm_one {ks : List SI} (ok : KsOk ks) {i : Nat} {c : SI} (hc : ks[i]? = some c) : normL (perOf ks) [(c.1, 1)] = [(c.1, 1)] := by
  have hp := (ok.ok c (mem_of_at hc)).2
  have hm : modN (perOf ks) c.1 1 = 1 := by
    unfold modN
    rw [(rank_ix ok.nd hc).2]
    split
    · exact Int.emod_eq_of_lt (by omega) (by omega)
    · rfl
  show putN [] c.1 (modN (perOf ks) c.1 1) = _
  rw [hm]
  rfl
theorem fm_congr {α β : Type} {f g : α → Option β} : ∀ l : List α, (∀ x ∈ l, f x = g x) → l.filterMap f = l.filterMap g
  | [], _ => rfl
  | x :: l, h => by rw [List.filterMap_cons, List.filterMap_cons, h x List.mem_cons_self, fm_congr l fun y hy => h y (List.mem_cons_of_mem _ hy)]
theorem slV_rev {α : Type} (xs : List α) : slV xs none none (some (-1)) = xs.reverse := by
  have eb : slB none none (some (-1)) xs.length = ((xs.length : Int) - 1, -1, xs.length) := by
    unfold slB Builtin.Slice.sliceAdjust Builtin.Slice.slicePlaces
    show ((xs.length : Int) - 1, (-1 : Int), (if (-1 : Int) > 0 then _ else (if (xs.length : Int) - 1 > -1 then ((xs.length : Int) - 1 - -1 - 1) / (- -1) + 1 else 0)).toNat) = _
    rw [if_neg (by decide), show (- -1 : Int) = 1 from rfl, Int.ediv_one]
    congr 2
    split <;> omega
  unfold slV
  rw [eb]
  have e := slP_whole xs.reverse
  unfold slP at e ⊢
  rw [List.length_reverse] at e
  rw [← e]
  show (List.range xs.length).filterMap _ = (List.range xs.length).filterMap _
  refine fm_congr _ fun m hm => ?_
  have hm := List.mem_range.mp hm
  rw [List.getElem?_reverse (by show ((0 : Int) + (m : Int) * 1).toNat < xs.length; omega)]
  congr 1
  show ((xs.length : Int) - 1 + (m : Int) * -1).toNat = xs.length - 1 - ((0 : Int) + (m : Int) * 1).toNat
  omega
theorem KsOk.rev {ks : List SI} (ok : KsOk ks) : KsOk ks.reverse := ⟨by rw [List.length_reverse]; exact ok.n0, by rw [List.length_reverse]; exact ok.n8, by
  have := ok.nd
  unfold Nds at this ⊢
  rw [List.map_reverse]
  exact (List.reverse_perm _).nodup_iff.mpr this, fun c hc => ok.ok c (List.mem_reverse.mp hc)⟩
theorem shapedL_si (cs : List SI) (ok : ∀ c ∈ cs, PyData.strOk c.1 = true) : SeqAt.shaped (.list (cs.map siD)) = true := by
  have := canl_si cs ok
  unfold SeqAt.shaped at this ⊢
  rw [Bool.and_eq_true, decide_eq_true_eq] at this ⊢
  exact this
def othS : SI := ("other", 0)
theorem hasS_no {ks : List SI} {z : Str} (h : ∀ k ∈ ks, k.1 ≠ z) : hasS ks z = false := by
  unfold hasS
  rw [lookS_none h]
  rfl
theorem no_hasS {ks : List SI} {z : Str} (h : hasS ks z = false) : ∀ k ∈ ks, k.1 ≠ z := fun k hk e => by
  rw [hasS_of ⟨k, hk, e⟩] at h
  cases h
theorem KsOk.oth {ks : List SI} (ok : KsOk ks) (h : hasS ks "other" = false) : KsOk (ks.take 7 ++ [othS]) := by
  refine ⟨by rw [List.length_append]; show 0 < _ + 1; omega, by rw [List.length_append, List.length_take]; show _ + 1 ≤ 8; omega, ?_, fun c hc => ?_⟩
  · have nd := ok.nd
    unfold Nds at nd ⊢
    rw [List.map_append, List.nodup_append]
    refine ⟨?_, List.nodup_cons.mpr ⟨List.not_mem_nil, List.nodup_nil⟩, fun a ha b hb e => ?_⟩
    · rw [List.map_take]
      exact List.Sublist.nodup (List.take_sublist _ _) nd
    · have hb : b = "other" := List.mem_singleton.mp hb
      obtain ⟨c, hc, rfl⟩ := List.mem_map.mp ha
      exact no_hasS h c (List.mem_of_mem_take hc) (e.trans hb)
  · rcases List.mem_append.mp hc with hc | hc
    · exact ok.ok c (List.mem_of_mem_take hc)
    · rw [List.mem_singleton.mp hc]
      exact ⟨nameB_ok (by decide +kernel), .inl rfl⟩
theorem call_tuple_ofK {X : Cx} (K : PySem.W.Frag) (hk : X.K = K := by rfl) : CallR X (.type "tuple") (fun xs H Q => ∃ p ys, xs = [.ref p] ∧ ((SqL K H p ys ∧ ∀ l, H l = none → Q (.ref l) (upd H l (.tup ys))) ∨ (SqT K H p ys ∧ Q (.ref p) H))) := by
  subst hk
  exact call_tuple_of
theorem siV_inj : ∀ {a b : List SI}, a.map siV = b.map siV → a = b
  | [], [], _ => rfl
  | [], _ :: _, h => by cases h
  | _ :: _, [], h => by cases h
  | c :: a, d :: b, h => by
    obtain ⟨h1, h2⟩ := List.cons.inj h
    rw [siV_inj h2]
    congr 1
    obtain ⟨z, i⟩ := c
    obtain ⟨y, j⟩ := d
    have e1 : V.str z = V.str y := congrArg Prod.fst h1
    have e2 : V.int i = V.int j := congrArg Prod.snd h1
    cases e1
    cases e2
    rfl
theorem sre_ite {K : PySem.W.Frag} {H : Hp} {us : List Addr} {ks : List SI} (hk : ∀ c ∈ ks, NmOk c.1) (h : P2 (SrE K H) us ks) : P2 (ItE K H) us (ks.map siV) := by
  induction h with
  | nil => exact .nil
  | cons r _ ih => exact .cons ⟨r, .inl ⟨_, rfl, Nat.le_trans (hk _ List.mem_cons_self).len (by decide)⟩, .inl ⟨_, rfl⟩⟩ (ih fun c hc => hk c (List.mem_cons_of_mem _ hc))
theorem made_no {K : PySem.W.Frag} {ks : List SI} (ok : KsOk ks) {cls : Value} {d : Option Addr} {H : Hp} (h : DueX K (dueV (ks.map siV)) cls d H) : False := by
  rw [due_ks ok] at h
  exact h
/-- turns that were made, and the list of pairs -/
structure W10 (K : PySem.W.Frag) (lp y Pt2 : Addr) (ks : List SI) (us : List Addr) (H : Hp) : Prop where
  tu : TuAt (He.ga K "Turns") H y ks
  hlp : H lp = some (.lst (us.map V.ref))
  pu : P2 (SrT H) us ks
  tab : LamX.Tabs [(Pt2, strQ)] H
theorem W10.same {K : PySem.W.Frag} {lp y Pt2 : Addr} {ks : List SI} {us : List Addr} {H H' : Hp} (h : W10 K lp y Pt2 ks us H) (s : Same H H') : W10 K lp y Pt2 ks us H' := ⟨h.tu.same s, s _ _ h.hlp, h.pu.sameS s, h.tab.ext fun b o e => s b o e⟩
section
variable {P : Program} [PM : PMain P] {w : World} {K : PySem.W.Frag} {mg : Str → Option Value} {base : Heap}
theorem law_c (T : Txt K mg) {f c c2 Pt Pt2 : Addr} (D2 : LamM K mg "_law_strangers" s__law_strangers c2) (TB : LamX.TabB base mg c Pt) (TB2 : LamX.TabB base mg c2 Pt2) (hne : Pt2 ≠ Pt) (A : Around) (outer : List Env) (s : Shared) (H : Hp) (E : XK) (hr : Room 79 (A.deeper (PyProof.Rows.envOfC "law" (defScope s_law) s.heap.objs.size f (.ref c)))) :
    ∃ t3, PSs (cxOf (L2.CX P w) P w K mg base ["_law_script", "_law_bag_here", "_law_periods", "_law_many", "_law_pairs", "_law_k", "_law_due_here", "_law_given", "_law_turns", "_law_at", "_law_name", "_law_period", "_law_pair"] "law" (defScope s_law) f (.ref c) A outer s H E).nox ((defBody s_law).drop 10) t3 ∧
    ∀ (σ : L2.St) (H0 : Hp) (Q : VK) (lp lg : Addr) (us vs : List Addr) (ks : List SI) (w0 w1 w2 w3 w5 w6 w8 w9 w10 w11 w12 : Option V), σ = [w0, w1, w2, w3, some (.ref lp), w5, w6, some (.ref lg), w8, w9, w10, w11, w12] → Z10 K lp lg Pt2 ks us vs H0 → lp ≠ lg → KsOk ks → hasS ks "other" = false → (∀ H', Q (.bl true) H') → t3 { nx := fun _ H' => Q .non H', rt := Q } σ H0 := by
  have m_Turns := @m_TurnsA P PM w K mg base T
  have c_tlen := @c_tlen P PM w K mg base T
  have c_period_of := @c_period_of P w K mg base T
  have c_rank := @c_rank P w K mg base T
  have c_tin := @c_tin P w K mg base T
  have c_tget := @c_tget P PM w K mg base T
  have c_teq := @c_teq P w K mg base T
  have c_teqA := @c_teqA P PM w K mg base T
  have c_still := @c_still P w K mg base T
  have c__law_strangers := @c__law_strangers P PM w K mg base T c2 Pt2 D2 TB2
  refine ⟨_, (pss_cons (ps_set (i := 8) sc_law.nd rfl (Or.inl rfl) (pe_mkx m_Turns hr (by first | decide | omega) rfl passL (pa_cons (pv 7) pa_nil)))
      (pss_cons (ps_expr (pe_bm0 PySem.F.plainAttrs_list PySem.F.slot_list_clear PySem.F.type_list_clear mt_clear (pv 7)))
      (pss_cons (ps_if (PW.pt (pw_or (pt_cmpR (op_neD (units_of hr)) (pe_fldK K (pv 8) (by rfl)) (pe_callTy (call_tuple_ofK K) (by rfl) T.b_tuple (by decide +kernel) (pa_cons (pv 4) pa_nil)) (nomark _)) (pw_or (pt_cmpR (op_neD (units_of hr)) (pe_fldK K (pv 8) (by rfl)) (pe_callTy call_tuple_of (by rfl) T.b_tuple (by decide +kernel) (pa_cons (pe_lc (own := [("_law_pair", 12)]) (g := gName 12) rfl sc_law.nd (pi_listK K (pv 4)) (blkOk_by (own := [("_law_pair", 12)]) (N := ["_law_script", "_law_bag_here", "_law_periods", "_law_many", "_law_pairs", "_law_k", "_law_due_here", "_law_given", "_law_turns", "_law_at", "_law_name", "_law_period", "_law_pair"]) (sc := defScope s_law) (by decide +kernel)) (fun _ _ _ _ _ => (pg_name (i := 12) sc_law.nd rfl (Or.inl rfl))) (fun _ _ _ _ _ => pts_nil) (fun _ _ _ _ _ => (pe_ix (ix_tupK K) (pv 12) pe_int (fun _ _ => rfl)))) pa_nil)) (nomark _)) (pw_or1 (pt_cmpR op_ne (pe_callB (cr_lenO c_tlen hr (by first | decide | omega) passL) (by rfl) T.b_len (by decide +kernel) (pa_cons (pv 8) pa_nil)) (pe_callB call_len (by rfl) T.b_len (by decide +kernel) (pa_cons (pv 4) pa_nil)) (nomark _)))))) (pss_one (ps_ret pe_bl)) pss_nil)
      (pss_cons (ps_for PassesOwn.never rfl (pi_range1 (by rfl) T.b_range (pa_cons (pe_callB call_len (by rfl) T.b_len (by decide +kernel) (pa_cons (pv 4) pa_nil)) pa_nil)) (pg_name (i := 9) sc_law.nd rfl (Or.inl rfl)) (pss_cons (ps_asg (pe_ix ix_list (pv 4) (pv 9) (fun _ _ => rfl)) (pg_tup rfl (pgs_cons (pg_name (i := 10) sc_law.nd rfl (Or.inl rfl)) (pgs_cons (pg_name (i := 11) sc_law.nd rfl (Or.inl rfl)) pgs_nil))))
      (pss_cons (ps_if (PW.pt (pw_or (pt_cmpR op_ne (pe_mtx c_period_of hr (by first | decide | omega) passL (pv 8) (pa_cons (pv 10) pa_nil)) (pv 11) (nomark _)) (pw_or (pt_cmpR op_ne (pe_mtx c_rank hr (by first | decide | omega) passL (pv 8) (pa_cons (pv 10) pa_nil)) (pv 9) (nomark _)) (pw_or1 (pt_cmpR (or_notInO c_tin hr (by first | decide | omega) passL) (pv 10) (pv 8) (by rfl)))))) (pss_one (ps_ret pe_bl)) pss_nil)
      (pss_one (ps_if (PW.pt (pw_or (pt_cmpR (op_neD (units_of hr)) (pe_fldK K (pe_getO c_tget T.g_Turns hr (by first | decide | omega) passL (pv 8) (pv 10)) (by rfl)) (pe_tup (pa_cons (pe_tup (pa_cons (pv 10) (pa_cons pe_int pa_nil))) pa_nil)) (nomark _)) (pw_or1 (pt_cmpR (or_neO c_teq T.n_Turns hr (by first | decide | omega) passL) (pe_fldK K (pe_getO c_tget T.g_Turns hr (by first | decide | omega) passL (pv 8) (pv 10)) (by rfl)) (pv 8) (nomark _))))) (pss_one (ps_ret pe_bl)) pss_nil)))))
      (pss_cons (ps_if (PW.pt (pw_or (pt_cmpR (op_neD (units_of hr)) (pe_fldK K (pe_px c_still hr (by first | decide | omega) (pv 8) passL) (by rfl)) (pe_tup pa_nil) (nomark _)) (pw_or (pt_cmpR (or_neO c_teq T.n_Turns hr (by first | decide | omega) passL) (pv 8) (pe_mkx m_Turns hr (by first | decide | omega) rfl passL (pa_cons (pe_callTy (call_tuple_ofK K) (by rfl) T.b_tuple (by decide +kernel) (pa_cons (pv 4) pa_nil)) pa_nil)) (nomark _)) (pw_or (pt_cmpR (or_eqKK K c_teqA hr (by first | decide | omega) passL) (pv 8) (pv 4) (nomark _)) (pw_or1 (pt_cmpR (or_eqKK K c_teqA hr (by first | decide | omega) passL) (pv 8) pe_int (nomark _))))))) (pss_one (ps_ret pe_bl)) pss_nil)
      (pss_cons (ps_if (pt_cmpR op_ne (pe_cmpR (or_eqKK K c_teqA hr (by first | decide | omega) passL) (pv 8) (pe_mkx m_Turns hr (by first | decide | omega) rfl passL (pa_cons (pe_sl3L (pv 4) po_none po_none (po_some (pe_un un_neg pe_int))) pa_nil)) (nomark _)) (pe_cmpR (op_eqD (units_of hr)) (pv 4) (pe_sl3L (pv 4) po_none po_none (po_some (pe_un un_neg pe_int))) (nomark _)) (nomark _)) (pss_one (ps_ret pe_bl)) pss_nil)
      (pss_one (ps_ret (pe_and (pe_cmpR (or_neO c_teq T.n_Turns hr (by first | decide | omega) passL) (pv 8) (pe_mkx m_Turns hr (by first | decide | omega) rfl passL (pa_cons (pe_op op_cat (pe_slice sl_list (pv 4) po_none (po_some pe_int)) (pe_lst (pa_cons (pe_tup (pa_cons pe_str (pa_cons pe_int pa_nil))) pa_nil))) pa_nil)) (nomark _)) (pe_one (pe_cx c__law_strangers hr (by first | decide | omega) rfl passL (pa_cons (pv 8) pa_nil)))))))))))), ?_⟩
  intro σ H0 Q lp lg us vs ks w0 w1 w2 w3 w5 w6 w8 w9 w10 w11 w12 hσ z nlg ok ho k
  subst hσ
  have nmk : ∀ c ∈ ks, NmOk c.1 := fun c hc => (ok.ok c hc).1
  have n8 := ok.n8
  walk_at "g"
  refine fun y dy ny ndy _ => ?_
  refine tA ny ndy (.inl (SqL.of z.hlg)) (sre_ite nmk z.pv) (by rw [List.length_map]; omega) (fun ks' H1 e ok' s1 hT hne' => ⟨rfl, ?_⟩) (fun cls d H' s' hd => (made_no ok hd).elim)
  obtain rfl := siV_inj e
  clear e ok'
  walk_at "g"
  have hlg1 := s1 _ _ z.hlg
  refine ⟨.inl ⟨rfl, _, SqL.of hlg1⟩, ?_⟩
  walk_at "g"
  refine ⟨lg, _, rfl, rfl, hlg1, ?_⟩
  have kc := kp_upd lg H1 (.lst [])
  have W2 : W10 K lp y Pt2 ks us (upd H1 lg (.lst [])) := by
    have hl := s1 _ _ z.hlg
    exact ⟨hT.kpL kc hl, kc _ _ (s1 _ _ z.hlp) nlg, (z.pu.sameS s1).kpS kc hl (by intro _ q; cases q), tabs_kpl (z.tab.ext fun b o e => s1 b o e) kc hl⟩
  generalize upd H1 lg (.lst []) = H2 at *
  clear hT hne' s1 kc z ny ndy hlg1
  walk_at "g"
  obtain ⟨dt, p1, p2, p3, p4, ht, hp1, hp2, _, _⟩ := id W2.tu.ex
  refine ⟨y, _, dt, _, _, rfl, ht, T.k_Turns, T.a_Turns__pairs, rfl, ?_⟩
  walk_at "g"
  refine ⟨lp, _, rfl, .inl ⟨SqL.of W2.hlp, fun q1 nq1 => ?_⟩⟩
  have s3 := same_upd (o := .tup (us.map V.ref)) nq1
  have hq1 : upd H2 q1 (.tup (us.map V.ref)) q1 = some (.tup (us.map V.ref)) := upd_same
  generalize upd H2 q1 (.tup (us.map V.ref)) = H3 at *
  have W3 := W2.same s3
  have sok : ∀ c ∈ ks, PyData.strOk c.1 = true := fun c hc => (nmk c hc).strOk
  refine ⟨_, _, dp_st (hp1.same s3), dp_st ⟨us, hq1, W3.pu⟩, canl_si ks sok, canl_si ks sok, ?_⟩
  rw [eqv_siT, decide_eq_true (rfl : ks = ks)]
  have ht3 := s3 _ _ ht
  have hp23 := s3 _ _ hp2
  clear W2 ht hp1 hp2 hq1 s3
  walk_at "g"
  refine ⟨y, _, dt, _, _, rfl, ht3, T.k_Turns, T.a_Turns__names, rfl, ?_⟩
  walk_at "g"
  refine ⟨⟨_, SqL.of W3.hlp⟩, fun D nD => ?_⟩
  refine lc_ref walk_list W3.pu (fun y c _ => y = .str c.1) (fun _ _ _ _ _ _ _ e => e) nD (by omega) (fun H' s' => SqL.of (s' _ _ W3.hlp)) (fun _ => rfl) ?_ ?_
  · intro u' c' hc' hu' H4 Q4 s4 q4
    walk_at "g"
    refine ⟨u', _, 0, _, rfl, rfl, SqT.of (s4 _ _ hu'), atI_nat (j := 0) rfl, ?_⟩
    exact q4 _ _ (Same.refl _) rfl
  intro ys H4 s4 hD4 py
  have ey := py.eq_map
  subst ey
  have hD4 : H4 D = some (.lst ((ks.map (·.1)).map V.str)) := by rw [hD4, List.map_map]; rfl
  have W4 := W3.same s4
  have ht4 := s4 _ _ ht3
  have hp24 : H4 p2 = some (.tup ((ks.map (·.1)).map V.str)) := by rw [s4 _ _ hp23, List.map_map]; rfl
  clear W3 ht3 hp23 s4 nD
  walk_at "g"
  refine ⟨D, _, rfl, .inl ⟨SqL.of hD4, fun q2 nq2 => ?_⟩⟩
  have s5 := same_upd (o := .tup ((ks.map (·.1)).map V.str)) nq2
  have hq2 : upd H4 q2 (.tup ((ks.map (·.1)).map V.str)) q2 = some (.tup ((ks.map (·.1)).map V.str)) := upd_same
  generalize upd H4 q2 (.tup ((ks.map (·.1)).map V.str)) = H5 at *
  have W5 := W4.same s5
  have shp := shaped_strs (ws := ks.map (·.1)) fun w hw => by obtain ⟨c, hc, rfl⟩ := List.mem_map.mp hw; exact sok c hc
  have shc := shp
  unfold SeqAt.shaped at shc
  rw [Bool.and_eq_true, decide_eq_true_eq] at shc
  refine ⟨_, _, .tup (SqT.of (s5 _ _ hp24)) (dpa_strs _), .tup (SqT.of hq2) (dpa_strs _), shp, shp, ?_⟩
  rw [SeqAt.eqv_refl _ shc.1]
  have ht5 := s5 _ _ ht4
  clear W4 ht4 hp24 hq2 hD4 s5 py shp shc
  walk_at "g"
  refine ⟨y, dt, _, rfl, ht5, y, ks, rfl, W5.tu, ks.length, rfl, by omega, ?_⟩
  have hlen := W5.pu.len
  walk_at "g"
  refine ⟨_, _, rfl, .inl ⟨_, SqL.of W5.hlp, rfl⟩, ?_⟩
  rw [List.length_map, hlen]
  walk_at "g"
  rw [show (!decide (V.int (ks.length : Nat) = V.int (ks.length : Nat))) = false from by rw [decide_eq_true rfl]; rfl]
  refine iteF ?_
  generalize hσ : List.set _ 8 _ = σ0
  obtain rfl : σ0 = [w0, w1, w2, w3, some (.ref lp), w5, w6, some (.ref lg), some (.ref y), w9, w10, w11, w12] := hσ.symm
  clear hσ ht5
  walk_at "g"
  refine ⟨_, _, rfl, .inl ⟨_, SqL.of W5.hlp, rfl⟩, ?_⟩
  rw [List.length_map, hlen]
  refine ⟨(ks.length : Int), rfl, by omega, by omega, ?_⟩
  refine for_range (lo := 0) (n := ks.length) (fun i σ H' => ∃ w9 w10 w11 : Option V, σ = [w0, w1, w2, w3, some (.ref lp), w5, w6, some (.ref lg), some (.ref y), w9, w10, w11, w12] ∧ W10 K lp y Pt2 ks us H') ⟨_, _, _, rfl, W5⟩ ?_ ?_
  · rintro i σ H6 hi ⟨v9, v10, v11, rfl, W6⟩
    obtain ⟨u, hu⟩ : ∃ u, us[i]? = some u := ⟨_, List.getElem?_eq_getElem (by omega)⟩
    obtain ⟨cc, hc, hcu⟩ := W6.pu.getl hu
    have hcm := mem_of_at hc
    obtain ⟨dt, p1, p2, p3, p4, ht, _⟩ := id W6.tu.ex
    walk_at "g"
    refine ⟨lp, _, (i : Int), .ref u, rfl, (by rw [show (0 : Int) + (i : Int) = (i : Int) by omega]), SqL.of W6.hlp, atI_nat (by rw [List.getElem?_map, hu]; rfl), ?_⟩
    refine ⟨u, _, rfl, SqT.of hcu, rfl, _, _, rfl, _, _, rfl, rfl, ?_⟩
    generalize hσ : List.set (List.set (List.set _ 9 _) 10 _) 11 _ = σ0
    obtain rfl : σ0 = [w0, w1, w2, w3, some (.ref lp), w5, w6, some (.ref lg), some (.ref y), some (.int (0 + (i : Int))), some (.str cc.1), some (.int cc.2), w12] := hσ.symm
    clear hσ
    walk_at "g"
    obtain ⟨rk, pr⟩ := rank_ix ok.nd hc
    refine ⟨y, dt, _, rfl, ht, rfl, ?_⟩
    walk_at "g"
    refine ⟨y, cc.1, ks, rfl, W6.tu, ⟨cc, hcm, rfl⟩, ?_⟩
    rw [pr]
    walk_at "g"
    rw [decide_eq_true (rfl : V.int cc.2 = V.int cc.2)]
    refine iteF ?_
    walk_at "g"
    refine ⟨y, dt, _, rfl, ht, rfl, ?_⟩
    walk_at "g"
    refine ⟨y, cc.1, ks, rfl, W6.tu, ⟨cc, hcm, rfl⟩, ?_⟩
    rw [rk]
    walk_at "g"
    have e0 : (0 : Int) + (i : Int) = (i : Int) := by omega
    rw [e0, decide_eq_true (rfl : V.int (i : Int) = V.int (i : Int))]
    refine iteF ?_
    walk_at "g"
    refine ⟨y, dt, _, rfl, ht, y, .str cc.1, ks, rfl, W6.tu, .inl ⟨cc.1, rfl, ?_⟩⟩
    rw [hasS_of ⟨cc, hcm, rfl⟩]
    walk_at "g"
    refine ⟨y, dt, _, rfl, ht, y, .str cc.1, ks, rfl, W6.tu, ok, .inl ⟨cc.1, rfl, ⟨cc, hcm, rfl⟩, fun r H7 s7 hR => ?_⟩⟩
    rw [norm_one ok hc] at hR
    obtain ⟨dr, st, ky, _, _, _, hr1, hst, _⟩ := hR.ex
    have W7 := W6.same s7
    walk_at "g"
    refine ⟨r, _, dr, _, _, rfl, hr1, T.k_Row, T.a_Row__steps, rfl, ?_⟩
    walk_at "g"
    refine ⟨by show 2 ≤ sizeLine; decide, fun x1 nx1 => ?_⟩
    have s8 := same_upd (o := .tup [.str cc.1, .int 1]) nx1
    have hx1 : upd H7 x1 (.tup [.str cc.1, .int 1]) x1 = some (.tup [.str cc.1, .int 1]) := upd_same
    generalize upd H7 x1 (.tup [.str cc.1, .int 1]) = H8 at *
    walk_at "g"
    refine ⟨by show 1 ≤ sizeLine; decide, fun x2 nx2 => ?_⟩
    have s9 := same_upd (o := .tup [.ref x1]) nx2
    have hx2 : upd H8 x2 (.tup [.ref x1]) x2 = some (.tup [.ref x1]) := upd_same
    generalize upd H8 x2 (.tup [.ref x1]) = H9 at *
    have W9 := (W7.same s8).same s9
    have one : ∀ c ∈ [(cc.1, (1 : Int))], PyData.strOk c.1 = true := fun c h => by rw [List.mem_singleton.mp h]; exact sok cc hcm
    have hx : ST H9 x2 [(cc.1, 1)] := ⟨[x1], hx2, .cons (s9 _ _ hx1) .nil⟩
    refine ⟨_, _, dp_st ((hst.same s8).same s9), dp_st hx, canl_si _ one, canl_si _ one, ?_⟩
    rw [eqv_siT, decide_eq_true (rfl : [(cc.1, (1 : Int))] = [(cc.1, 1)])]
    obtain ⟨dt9, q1, q2, q3, q4, ht9, _⟩ := id W9.tu.ex
    clear W7 hst hr1 hR hx1 hx2 hx s8 s9 nx1 nx2
    walk_at "g"
    refine ⟨y, dt9, _, rfl, ht9, y, .str cc.1, ks, rfl, W9.tu, ok, .inl ⟨cc.1, rfl, ⟨cc, hcm, rfl⟩, fun r2 Ha sa hR2 => ?_⟩⟩
    obtain ⟨dr2, st2, ky2, _, _, _, hr2, _⟩ := hR2.ex
    have Wa := W9.same sa
    have hta := sa _ _ ht9
    walk_at "g"
    refine ⟨r2, _, dr2, _, _, rfl, hr2, T.k_Row, T.a_Row__turns, rfl, ?_⟩
    walk_at "g"
    refine ⟨y, dt9, _, y, dt9, _, rfl, rfl, hta, hta, y, y, ks, ks, rfl, Wa.tu, Wa.tu, ok, ok, ⟨_, rfl, ?_⟩⟩
    rw [decide_eq_true (rfl : ks = ks)]
    walk_at "g"
    refine iteF ?_
    exact ⟨_, _, _, rfl, Wa⟩
  · rintro σ H6 ⟨v9, v10, v11, rfl, W6⟩
    obtain ⟨dt, p1, p2, p3, p4, ht, _⟩ := id W6.tu.ex
    walk_at "g"
    refine ⟨y, dt, _, rfl, ht, y, ks, rfl, W6.tu, ok, fun r H7 s7 hR => ?_⟩
    obtain ⟨dr, st, ky, _, _, _, hr1, hst, _⟩ := hR.ex
    have W7 := W6.same s7
    have ht7 := s7 _ _ ht
    clear W6 ht
    refine ⟨r, _, dr, _, _, rfl, hr1, T.k_Row, T.a_Row__steps, rfl, ?_⟩
    walk_at "g"
    refine ⟨by show 0 ≤ sizeLine; decide, fun x1 nx1 => ?_⟩
    have s8 := same_upd (o := .tup []) nx1
    have hx1 : upd H7 x1 (.tup []) x1 = some (.tup []) := upd_same
    generalize upd H7 x1 (.tup []) = H8 at *
    have W8 := W7.same s8
    have ht8 := s8 _ _ ht7
    have nil0 : ∀ c ∈ ([] : List SI), PyData.strOk c.1 = true := fun c h => nomatch h
    refine ⟨_, _, dp_st (hst.same s8), dp_st (cs := []) ⟨[], hx1, .nil⟩, canl_si _ nil0, canl_si _ nil0, ?_⟩
    rw [eqv_siT, decide_eq_true (rfl : ([] : List SI) = [])]
    clear W7 hst hr1 hR hx1 s8 s7 nx1 ht7
    walk_at "g"
    refine ⟨lp, _, rfl, .inl ⟨SqL.of W8.hlp, fun q1 nq1 => ?_⟩⟩
    have s9 := same_upd (o := .tup (us.map V.ref)) nq1
    have hq1 : upd H8 q1 (.tup (us.map V.ref)) q1 = some (.tup (us.map V.ref)) := upd_same
    generalize upd H8 q1 (.tup (us.map V.ref)) = H9 at *
    have W9 := W8.same s9
    have ht9 := s9 _ _ ht8
    clear W8 ht8 s9 nq1
    walk_at "g"
    refine fun y2 dy2 ny2 ndy2 _ => ?_
    refine tA ny2 ndy2 (.inr (SqT.of hq1)) (sre_ite nmk (SrE.ofs W9.pu)) (by rw [List.length_map]; omega) (fun ks' Ha e ok' sa hT2 _ => ⟨rfl, ?_⟩) (fun cls d H' s' hd => (made_no ok hd).elim)
    obtain rfl := siV_inj e
    clear e ok'
    have Wa := W9.same sa
    have hta := sa _ _ ht9
    obtain ⟨dt2, _, _, _, _, ht2, _⟩ := id hT2.ex
    clear W9 ht9 hq1 ny2 ndy2
    walk_at "g"
    refine ⟨y, dt, _, y2, dt2, _, rfl, rfl, hta, ht2, y, y2, ks, ks, rfl, Wa.tu, hT2, ok, ok, ⟨_, rfl, ?_⟩⟩
    rw [decide_eq_true (rfl : ks = ks)]
    clear hT2 ht2 sa
    walk_at "g"
    refine ⟨y, dt, _, _, rfl, hta, .lst Wa.hlp, T.l_Turns.first (n := "list") (by decide), y, .ref lp, ks, rfl, Wa.tu, ok, .inr ⟨⟨_, .base (.lst Wa.hlp), T.l_Turns.one "list" (by decide)⟩, _, rfl, ?_⟩⟩
    walk_at "g"
    refine ⟨y, dt, _, _, rfl, hta, .int 3, T.l_Turns.first (n := "int") (by decide), y, .int 3, ks, rfl, Wa.tu, ok, .inr ⟨⟨_, .base (.int 3), T.l_Turns.one "int" (by decide)⟩, _, rfl, ?_⟩⟩
    walk_at "g"
    refine ⟨lp, _, rfl, SqL.of Wa.hlp, (by decide), fun q2 nq2 => ?_⟩
    rw [slV_rev, ← List.map_reverse]
    have sb := same_upd (o := .lst (us.reverse.map V.ref)) nq2
    have hq2 : upd Ha q2 (.lst (us.reverse.map V.ref)) q2 = some (.lst (us.reverse.map V.ref)) := upd_same
    generalize upd Ha q2 (.lst (us.reverse.map V.ref)) = Hb at *
    have Wb := Wa.same sb
    have htb := sb _ _ hta
    clear Wa hta sb nq2
    walk_at "g"
    refine fun y3 dy3 ny3 ndy3 _ => ?_
    refine tA ny3 ndy3 (.inl (SqL.of hq2)) (sre_ite (fun c hc => nmk c (List.mem_reverse.mp hc)) (SrE.ofs Wb.pu.rev)) (by rw [List.length_map, List.length_reverse]; omega) (fun ks' Hc e ok' sc hT3 _ => ⟨rfl, ?_⟩) (fun cls d H' s' hd => (made_no ok.rev hd).elim)
    obtain rfl := siV_inj e
    clear e
    have Wc := Wb.same sc
    have htc := sc _ _ htb
    obtain ⟨dt3, _, _, _, _, ht3, _⟩ := id hT3.ex
    clear Wb htb hq2 ny3 ndy3 sc
    walk_at "g"
    refine ⟨y, dt, _, _, rfl, htc, .ins ht3, first_self, y, .ref y3, ks, rfl, Wc.tu, ok, .inl ⟨y3, ks.reverse, rfl, hT3, ok', _, rfl, ?_⟩⟩
    clear hT3 ht3
    walk_at "g"
    refine ⟨lp, _, rfl, SqL.of Wc.hlp, (by decide), fun q3 nq3 => ?_⟩
    rw [slV_rev, ← List.map_reverse]
    have sd := same_upd (o := .lst (us.reverse.map V.ref)) nq3
    have hq3 : upd Hc q3 (.lst (us.reverse.map V.ref)) q3 = some (.lst (us.reverse.map V.ref)) := upd_same
    generalize upd Hc q3 (.lst (us.reverse.map V.ref)) = Hd at *
    have Wd := Wc.same sd
    have htd := sd _ _ htc
    clear Wc htc sd nq3
    refine ⟨_, _, .lst (SqL.of Wd.hlp) (dpa_si Wd.pu), .lst (SqL.of hq3) (dpa_si Wd.pu.rev), shapedL_si ks sok, shapedL_si _ (fun c hc => sok c (List.mem_reverse.mp hc)), ?_⟩
    rw [eqv_siL]
    clear hq3
    walk_at "g"
    rw [decide_eq_true (rfl : V.bl (decide (ks = ks.reverse)) = V.bl (decide (ks = ks.reverse)))]
    refine iteF ?_
    walk_at "g"
    refine ⟨lp, _, rfl, SqL.of Wd.hlp, fun q4 nq4 => ?_⟩
    rw [show cutV (us.map V.ref) none (some 7) = (us.take 7).map V.ref from (cut_to _ 7).trans List.map_take.symm]
    have se := same_upd (o := .lst ((us.take 7).map V.ref)) nq4
    have hq4 : upd Hd q4 (.lst ((us.take 7).map V.ref)) q4 = some (.lst ((us.take 7).map V.ref)) := upd_same
    generalize upd Hd q4 (.lst ((us.take 7).map V.ref)) = He' at *
    have We := Wd.same se
    have hte := se _ _ htd
    clear Wd htd se nq4
    walk_at "g"
    refine ⟨by show 2 ≤ sizeLine; decide, fun u4 nu4 => ?_⟩
    have sf := same_upd (o := .tup [.str "other", .int 0]) nu4
    have hu4 : upd He' u4 (.tup [.str "other", .int 0]) u4 = some (.tup [.str "other", .int 0]) := upd_same
    generalize upd He' u4 (.tup [.str "other", .int 0]) = Hf at *
    walk_at "g"
    refine ⟨by show 1 ≤ sizeLine; decide, fun q5 nq5 => ?_⟩
    have sg := same_upd (o := .lst [.ref u4]) nq5
    have hq5 : upd Hf q5 (.lst [.ref u4]) q5 = some (.lst [.ref u4]) := upd_same
    generalize upd Hf q5 (.lst [.ref u4]) = Hg at *
    have Wg := (We.same sf).same sg
    have htg := sg _ _ (sf _ _ hte)
    have hq4g := sg _ _ (sf _ _ hq4)
    have hu4g := sg _ _ hu4
    clear We hte hq4 hu4 sf sg nu4 nq5
    walk_at "g"
    refine ⟨q4, q5, _, _, rfl, rfl, hq4g, hq5, (by rw [List.length_map, List.length_take]; exact Nat.le_trans (show _ ≤ 8 by show _ + 1 ≤ 8; omega) (by decide)), fun q6 nq6 => ?_⟩
    rw [show (us.take 7).map V.ref ++ [V.ref u4] = (us.take 7 ++ [u4]).map V.ref by rw [List.map_append]; rfl]
    have sh := same_upd (o := .lst ((us.take 7 ++ [u4]).map V.ref)) nq6
    have hq6 : upd Hg q6 (.lst ((us.take 7 ++ [u4]).map V.ref)) q6 = some (.lst ((us.take 7 ++ [u4]).map V.ref)) := upd_same
    generalize upd Hg q6 (.lst ((us.take 7 ++ [u4]).map V.ref)) = Hh at *
    have Wh := Wg.same sh
    have hth := sh _ _ htg
    have oko := ok.oth ho
    have pus : P2 (SrT Hh) (us.take 7 ++ [u4]) (ks.take 7 ++ [othS]) := (Wh.pu.take 7).snoc (sh _ _ hu4g)
    clear Wg htg hq4g hu4g hq5 sh nq6
    walk_at "g"
    refine fun y4 dy4 ny4 ndy4 _ => ?_
    refine tA ny4 ndy4 (.inl (SqL.of hq6)) (sre_ite (fun c hc => (oko.ok c hc).1) (SrE.ofs pus)) (by rw [List.length_map]; have := oko.n8; omega) (fun ks' Hi e ok' si hT4 _ => ⟨rfl, ?_⟩) (fun cls d H' s' hd => (made_no oko hd).elim)
    obtain rfl := siV_inj e
    clear e
    have Wi := Wh.same si
    have hti := si _ _ hth
    obtain ⟨dt4, _, _, _, _, ht4, _⟩ := id hT4.ex
    clear Wh hth hq6 ny4 ndy4 si pus
    walk_at "g"
    refine ⟨y, dt, _, y4, dt4, _, rfl, rfl, hti, ht4, y, y4, ks, _, rfl, Wi.tu, hT4, ok, ok', ⟨_, rfl, ?_⟩⟩
    have nek : ks ≠ ks.take 7 ++ [othS] := fun e => no_hasS ho othS (by rw [e]; exact List.mem_append_right _ List.mem_cons_self) rfl
    rw [decide_eq_false nek]
    walk_at "g"
    refine ⟨y, ks, rfl, Wi.tu, ok, ho, hasS_no fun c hc e => ?_, Wi.tab, k⟩
    obtain ⟨d, r, e2, _⟩ := nmk c hc
    rw [e, tl_ofString] at e2
    cases e2
end
end Tr

/-! # k10: what is told of making turns. -/
namespace Tr
open PySem L2 TL
/-- steps of a reading that are plain -/
local macro_rules | `(tactic| walk_at "x") => `(tactic| (refine' ⟨_, _, _, _, rfl, rfl, ?k1, ?k2, ?_⟩; (case k1 => exact SqT.of (by assumption)); (case k2 => exact rfl)))
local macro_rules | `(tactic| walk_at "g") => `(tactic| repeat (first | (refine ⟨_, rfl, ?_⟩) | (refine ⟨_, _, rfl, rfl, ?_⟩) | (refine ⟨_, _, rfl, ?_⟩) | (refine ⟨rfl, ?_⟩) | walk_at "x"))


/-- a tuple that begins with a text beside a tuple of one text -/
def rNe1 (K : PySem.W.Frag) : R2 := fun x y H Q => ∃ a b z w xs, x = .ref a ∧ y = .ref b ∧ SqT K H a (.str z :: xs) ∧ SqT K H b [.str w] ∧ Q (.bl (!((z == w) && (xs.length + 1 == 1)))) H
theorem op_ne1 {X : Cx} (hu : X.A.units + 64 < cLine) : OpR X (compareOp .NotEq) (rNe1 X.K) := by
  intro pins s σ H x y v u Q I rx ry h
  obtain ⟨a, b, z, w, xs, rfl, rfl, ha, hb, q⟩ := h
  cases rx
  cases ry
  obtain ⟨its, r, e, _⟩ := I.tuple ha
  obtain ⟨its2, r2, e2, _⟩ := I.tuple hb
  have lx := r.length
  cases r with
  | cons r1 rt =>
    cases r2 with
    | cons r3 rt2 =>
      cases rt2
      obtain ⟨t1, rfl⟩ := r1
      obtain ⟨t2, rfl⟩ := r3
      rename_i l
      have lt := rt.length
      have key := SeqAt.RcNeAt.tuples (A := X.A) (s := s) (e := fun _ => z == w) (show s.heap.IsTuple a _ from e) (show s.heap.IsTuple b _ from e2) (by omega) (fun j h1 h2 => by
        have j0 : j = 0 := by
          have : j < 1 := h2
          omega
        subst j0
        exact SeqAt.EqAt.str_str z t1 w t2)
      have eb : (!((List.range (min (Value.str z t1 :: l).toArray.size [Value.str w t2].toArray.size)).all (fun _ => z == w) && (Value.str z t1 :: l).toArray.size == [Value.str w t2].toArray.size)) = !((z == w) && (xs.length + 1 == 1)) := by
        rw [List.size_toArray, List.size_toArray, List.length_cons, ← lt, show min (xs.length + 1) [Value.str w t2].length = 1 from by show min (xs.length + 1) 1 = 1; omega]
        show (!(((z == w) && true) && _)) = _
        rw [Bool.and_true]
        rfl
      rw [eb] at key
      exact key X.prog X.w _ _ ⟨.bl _, H, I, rfl, q⟩
/-- what stands while making turns is asked -/
structure Y10 (K : PySem.W.Frag) (lp lg u Pt Pt2 : Addr) (its : List (V × V)) (us vs : List Addr) (H : Hp) : Prop where
  hlp : H lp = some (.lst (us.map V.ref))
  pu : P2 (fun u (c : V × V) => H u = some (.tup [c.1, c.2])) us its
  hlg : H lg = some (.lst (vs.map V.ref))
  pv : P2 (fun u (c : V × V) => H u = some (.tup [c.1, c.2]) ∨ H u = some (.lst [c.1, c.2])) vs its
  kv : ∀ c ∈ its, NvK H c.1 ∧ PvK H c.2
  hu : H u = some (.tup (dueT (dueV its)))
  tab : LamX.Tabs [(Pt, lamQ), (Pt2, strQ)] H
section
variable {K : PySem.W.Frag} {lp lg u Pt Pt2 : Addr} {its : List (V × V)} {us vs : List Addr} {H H' : Hp}
theorem Y10.same (h : Y10 K lp lg u Pt Pt2 its us vs H) (s : Same H H') : Y10 K lp lg u Pt Pt2 its us vs H' :=
  ⟨s _ _ h.hlp, h.pu.mono fun _ _ e => s _ _ e, s _ _ h.hlg, h.pv.mono fun _ _ e => e.imp (fun e => s _ _ e) fun e => s _ _ e, fun c hc => ⟨(h.kv c hc).1.to fun u o _ e _ _ => s u o e, (h.kv c hc).2.to fun u o _ e _ _ => s u o e⟩, s _ _ h.hu, h.tab.ext fun b o e => s b o e⟩
theorem Y10.up (h : Y10 K lp lg u Pt Pt2 its us vs H) (s : LamX.ExtN H H') (tab : LamX.Tabs [(Pt, lamQ), (Pt2, strQ)] H') (nt : ∀ c ∈ its, NvK H' c.1 ∧ PvK H' c.2) : Y10 K lp lg u Pt Pt2 its us vs H' :=
  ⟨s _ _ h.hlp (by intro _ z; cases z), h.pu.mono fun _ _ e => s _ _ e (by intro _ z; cases z), s _ _ h.hlg (by intro _ z; cases z), h.pv.mono fun _ _ e => e.imp (fun e => s _ _ e (by intro _ z; cases z)) fun e => s _ _ e (by intro _ z; cases z), nt, s _ _ h.hu (by intro _ z; cases z), tab⟩
theorem nvk_ext {v : V} (s : LamX.ExtN H H') (h : NvK H v) : NvK H' v := by
  cases h with
  | str z h ho => exact .str z h ho
  | five => exact .five
  | non => exact .non
  | tup h => exact .tup (s _ _ h (by intro _ z; cases z))
  | lst h => exact .lst (s _ _ h (by intro _ z; cases z))
theorem pvk_ext {v : V} (s : LamX.ExtN H H') (h : PvK H v) : PvK H' v := by
  cases h with
  | int i => exact .int i
  | bl b => exact .bl b
  | two => exact .two
  | non => exact .non
  | lst h => exact .lst (s _ _ h (by intro _ z; cases z))
theorem Y10.ext (h : Y10 K lp lg u Pt Pt2 its us vs H) (s : LamX.ExtN H H') (tab : LamX.Tabs [(Pt, lamQ), (Pt2, strQ)] H') : Y10 K lp lg u Pt Pt2 its us vs H' :=
  h.up s tab fun c hc => ⟨nvk_ext s (h.kv c hc).1, pvk_ext s (h.kv c hc).2⟩
theorem Y10.ev (h : Y10 K lp lg u Pt Pt2 its us vs H) : P2 (ItE K H) vs its := by
  have := h.kv
  have key : ∀ {vs : List Addr} {its : List (V × V)}, P2 (fun u (c : V × V) => H u = some (.tup [c.1, c.2]) ∨ H u = some (.lst [c.1, c.2])) vs its → (∀ c ∈ its, NvK H c.1 ∧ PvK H c.2) → P2 (ItE K H) vs its := by
    intro vs its h
    induction h with
    | nil => exact fun _ => .nil
    | cons r _ ih => exact fun kv => .cons ⟨r.imp (fun e => SqT.of e) (fun e => SqL.of e), (kv _ List.mem_cons_self).1.nv, (kv _ List.mem_cons_self).2.pv⟩ (ih fun c hc => kv c (List.mem_cons_of_mem _ hc))
  exact key h.pv this
theorem Y10.eu (h : Y10 K lp lg u Pt Pt2 its us vs H) : P2 (ItE K H) us its := by
  have key : ∀ {vs : List Addr} {its : List (V × V)}, P2 (fun u (c : V × V) => H u = some (.tup [c.1, c.2])) vs its → (∀ c ∈ its, NvK H c.1 ∧ PvK H c.2) → P2 (ItE K H) vs its := by
    intro vs its h
    induction h with
    | nil => exact fun _ => .nil
    | cons r _ ih => exact fun kv => .cons ⟨.inl (SqT.of r), (kv _ List.mem_cons_self).1.nv, (kv _ List.mem_cons_self).2.pv⟩ (ih fun c hc => kv c (List.mem_cons_of_mem _ hc))
  exact key h.pu h.kv
theorem Y10.slf (h : Y10 K lp lg u Pt Pt2 its us vs H) : ∀ v ∈ dueT (dueV its), flatB v = true ∨ ∃ r, v = .ref r := due_slf fun c hc => ⟨(h.kv c hc).1.nv (K := K) |>.slf, (h.kv c hc).2.pv (K := K) |>.slf⟩
end
section
variable {P : Program} [PM : PMain P] {w : World} {K : PySem.W.Frag} {mg : Str → Option Value} {base : Heap}
theorem law_b3 (T : Txt K mg) {f c c2 Pt Pt2 : Addr} (D2 : LamM K mg "_law_strangers" s__law_strangers c2) (TB : LamX.TabB base mg c Pt) (TB2 : LamX.TabB base mg c2 Pt2) (hne : Pt2 ≠ Pt) (A : Around) (outer : List Env) (s : Shared) (H : Hp) (E : XK) (hr : Room 79 (A.deeper (PyProof.Rows.envOfC "law" (defScope s_law) s.heap.objs.size f (.ref c)))) :
    ∃ t3, PSs (cxOf (L2.CX P w) P w K mg base ["_law_script", "_law_bag_here", "_law_periods", "_law_many", "_law_pairs", "_law_k", "_law_due_here", "_law_given", "_law_turns", "_law_at", "_law_name", "_law_period", "_law_pair"] "law" (defScope s_law) f (.ref c) A outer s H E).nox ((defBody s_law).drop 9) t3 ∧
    ∀ (σ : L2.St) (H0 : Hp) (Q : VK) (lp lg u : Addr) (us vs : List Addr) (its : List (V × V)) (w0 w1 w2 w3 w5 w8 w9 w10 w11 w12 : Option V), σ = [w0, w1, w2, w3, some (.ref lp), w5, some (.ref u), some (.ref lg), w8, w9, w10, w11, w12] → Y10 K lp lg u Pt Pt2 its us vs H0 → lp ≠ lg → (∀ H', Q (.bl true) H') → t3 { nx := fun _ H' => Q .non H', rt := Q } σ H0 := by
  obtain ⟨t2, h2, hk2⟩ := @law_c P PM w K mg base T f c c2 Pt Pt2 D2 TB TB2 hne A outer s H E hr
  refine ⟨_, (pss_cons (ps_if (pt_cmpR (op_ne1 (units_of hr)) (pv 6) (pe_tup (pa_cons pe_str pa_nil)) (nomark _)) (pss_one (ps_ret (pe_cmpR op_eq (pe_ccon T.q_Turns__MOST (pe_glob (v := .ref (He.ga K "Turns")) (by rfl) T.v_Turns rfl)) pe_int (nomark _)))) pss_nil)
      h2), ?_⟩
  intro σ H0 Q lp lg u us vs its w0 w1 w2 w3 w5 w8 w9 w10 w11 w12 hσ y nlg k
  subst hσ
  walk_at "g"
  refine ⟨by show 1 ≤ sizeLine; decide, fun x1 nx1 => ?_⟩
  have s1 := same_upd (o := .tup [.str "made"]) nx1
  have hx1 : upd H0 x1 (.tup [.str "made"]) x1 = some (.tup [.str "made"]) := upd_same
  generalize upd H0 x1 (.tup [.str "made"]) = H1 at *
  have y1 := y.same s1
  have hu1 := y1.hu
  clear y s1 nx1
  have bad : ∀ z xs, dueT (dueV its) = .str z :: xs → (z == ("made" : Str)) = false → rNe1 K (.ref u) (.ref x1) H1 fun x H' => ∃ k, x = V.bl k ∧ k = true ∧ H' = H1 := fun z xs e hz => by
    refine ⟨u, x1, z, "made", xs, rfl, rfl, SqT.of (by rw [hu1, e]), SqT.of hx1, _, rfl, ?_, rfl⟩
    rw [hz]
    rfl
  by_cases hD : dueV its = .made
  · obtain ⟨ks, eI, ok⟩ := due_made hD
    rw [hD] at hu1
    refine ⟨u, x1, "made", "made", [], rfl, rfl, SqT.of hu1, SqT.of hx1, ?_⟩
    walk_at "g"
    have pu := y1.pu
    have pv := y1.pv
    have kv := y1.kv
    rw [eI] at pu pv kv
    refine hk2 _ _ Q lp lg us vs ks w0 w1 w2 w3 w5 (some (.ref u)) w8 w9 w10 w11 w12 rfl ⟨y1.hlp, (P2.mapr_inv pu).mono fun _ _ e => e, y1.hlg, (P2.mapr_inv pv).mono fun _ _ e => e.imp (fun e => SqT.of e) fun e => SqL.of e, fun p hp => y1.tab p (List.mem_cons_of_mem _ hp)⟩ nlg ok (hasS_no fun c hc e => ?_) k
    have := (kv (siV c) (List.mem_map.mpr ⟨c, hc, rfl⟩)).1
    have h2 : NvK H1 (.str c.1) := this
    cases h2 with
    | str z h ho => exact ho e
  · have go : ∃ z xs, dueT (dueV its) = .str z :: xs ∧ (z == ("made" : Str)) = false := by
      cases h : dueV its with
      | none => exact ⟨_, _, rfl, by decide +kernel⟩
      | many n => exact ⟨_, _, rfl, by decide +kernel⟩
      | name v => exact ⟨_, _, rfl, by decide +kernel⟩
      | twice v => exact ⟨_, _, rfl, by decide +kernel⟩
      | period v => exact ⟨_, _, rfl, by decide +kernel⟩
      | made => exact (hD h).elim
    obtain ⟨z, xs, e, hz⟩ := go
    refine ⟨u, x1, z, "made", xs, rfl, rfl, SqT.of (by rw [hu1, e]), SqT.of hx1, ?_⟩
    rw [hz]
    walk_at "g"
    first | exact k _ | (rw [decide_eq_true (rfl : V.int 8 = V.int 8)]; exact k _)
theorem law_b2 (T : Txt K mg) {f c c2 Pt Pt2 : Addr} (D2 : LamM K mg "_law_strangers" s__law_strangers c2) (TB : LamX.TabB base mg c Pt) (TB2 : LamX.TabB base mg c2 Pt2) (hne : Pt2 ≠ Pt) (A : Around) (outer : List Env) (s : Shared) (H : Hp) (E : XK) (hr : Room 79 (A.deeper (PyProof.Rows.envOfC "law" (defScope s_law) s.heap.objs.size f (.ref c)))) :
    ∃ t3, PSs (cxOf (L2.CX P w) P w K mg base ["_law_script", "_law_bag_here", "_law_periods", "_law_many", "_law_pairs", "_law_k", "_law_due_here", "_law_given", "_law_turns", "_law_at", "_law_name", "_law_period", "_law_pair"] "law" (defScope s_law) f (.ref c) A outer s H E).nox ((defBody s_law).drop 8) t3 ∧
    ∀ (σ : L2.St) (H0 : Hp) (Q : VK) (lp lg u : Addr) (us vs : List Addr) (its : List (V × V)) (w0 w1 w2 w3 w5 w8 w9 w10 w11 w12 : Option V), σ = [w0, w1, w2, w3, some (.ref lp), w5, some (.ref u), some (.ref lg), w8, w9, w10, w11, w12] → Y10 K lp lg u Pt Pt2 its us vs H0 → its.length ≤ 11 → lp ≠ lg → (∀ H', Q (.bl true) H') → t3 { nx := fun _ H' => Q .non H', rt := Q } σ H0 := by
  have m_Turns := @m_TurnsA P PM w K mg base T
  obtain ⟨t2, h2, hk2⟩ := @law_b3 P PM w K mg base T f c c2 Pt Pt2 D2 TB TB2 hne A outer s H E hr
  refine ⟨_, (pss_cons (ps_if (pt_cmpR (op_neT (units_of hr)) (pe_lam2 (q := lamQ) (q2 := strQ) hne (k := 30) (by rfl) T.d__law_told sc__law_told rfl (by first | exact .inl rfl | exact .inr (.inl rfl)) (fun _ _ _ _ _ _ us hl => match us, hl with | [_], _ => rfl) (fun g cdg => told_d T) (by rfl) TB rfl hr (by first | decide | omega) (LamX.lamS_by (sc := defScope s_law) (by decide +kernel)) rfl (fun _ _ _ _ _ => rfl) (fun A outer s H E f c' hr => (pe_mkx m_Turns hr (by first | decide | omega) rfl (passE rfl rfl rfl rfl) (pa_cons (pe_callTy (call_tuple_ofK K) (by rfl) T.b_tuple (by decide +kernel) (pa_cons (pv 4) pa_nil)) pa_nil)))) (pv 6) (nomark _)) (pss_one (ps_ret pe_bl)) pss_nil)
      h2), ?_⟩
  intro σ H0 Q lp lg u us vs its w0 w1 w2 w3 w5 w8 w9 w10 w11 w12 hσ y n11 nlg k
  subst hσ
  walk_at "g"
  refine ⟨y.tab, fun H1 x1 tab1 => ?_⟩
  have y1 := y.ext x1 tab1
  clear y x1 tab1
  unfold TTk
  walk_at "g"
  refine ⟨lp, _, rfl, .inl ⟨SqL.of y1.hlp, fun q1 nq1 => ?_⟩⟩
  have sq := same_upd (o := .tup (us.map V.ref)) nq1
  have hq1 : upd H1 q1 (.tup (us.map V.ref)) q1 = some (.tup (us.map V.ref)) := upd_same
  generalize upd H1 q1 (.tup (us.map V.ref)) = H1' at *
  have yy := y1.same sq
  walk_at "g"
  refine fun a da na nda _ => ?_
  refine tA na nda (.inr (SqT.of hq1)) yy.eu n11 (fun ks H2 e ok s2 hT _ => ⟨rfl, ?_⟩) (fun cls d H2 s2 hd => .inl ⟨_, hd, fun u2 H3 s3 hu2 => ?_⟩)
  · have y2 := yy.same s2
    refine ⟨by show 1 ≤ sizeLine; decide, fun u2 nu2 => ?_⟩
    have s3 := same_upd (o := .tup [.str "made"]) nu2
    have hu2 : upd H2 u2 (.tup [.str "made"]) u2 = some (.tup [.str "made"]) := upd_same
    generalize upd H2 u2 (.tup [.str "made"]) = H3 at *
    have y3 := y2.same s3
    have hu3 := y3.hu
    rw [e, due_ks ok] at hu3
    walk_at "g"
    refine ⟨u2, u, _, rfl, rfl, SqT.of hu2, SqT.of hu3, (fun v hv => .inl (by rw [List.mem_singleton.mp hv]; rfl)), ?_⟩
    walk_at "g"
    first | refine iteF ?_ | skip
    exact hk2 _ _ Q lp lg u us vs its w0 w1 w2 w3 w5 w8 w9 w10 w11 w12 rfl y3 nlg k
  · have y3 := (yy.same s2).same s3
    walk_at "g"
    refine ⟨u2, u, _, rfl, rfl, SqT.of hu2, SqT.of y3.hu, y3.slf (K := K), ?_⟩
    walk_at "g"
    first | refine iteF ?_ | skip
    exact hk2 _ _ Q lp lg u us vs its w0 w1 w2 w3 w5 w8 w9 w10 w11 w12 rfl y3 nlg k
theorem law_b1 (T : Txt K mg) {f c c2 Pt Pt2 : Addr} (D2 : LamM K mg "_law_strangers" s__law_strangers c2) (TB : LamX.TabB base mg c Pt) (TB2 : LamX.TabB base mg c2 Pt2) (hne : Pt2 ≠ Pt) (A : Around) (outer : List Env) (s : Shared) (H : Hp) (E : XK) (hr : Room 79 (A.deeper (PyProof.Rows.envOfC "law" (defScope s_law) s.heap.objs.size f (.ref c)))) :
    ∃ t3, PSs (cxOf (L2.CX P w) P w K mg base ["_law_script", "_law_bag_here", "_law_periods", "_law_many", "_law_pairs", "_law_k", "_law_due_here", "_law_given", "_law_turns", "_law_at", "_law_name", "_law_period", "_law_pair"] "law" (defScope s_law) f (.ref c) A outer s H E).nox ((defBody s_law).drop 7) t3 ∧
    ∀ (σ : L2.St) (H0 : Hp) (Q : VK) (lp lg u : Addr) (us vs : List Addr) (its : List (V × V)) (w0 w1 w2 w3 w5 w8 w9 w10 w11 w12 : Option V), σ = [w0, w1, w2, w3, some (.ref lp), w5, some (.ref u), some (.ref lg), w8, w9, w10, w11, w12] → Y10 K lp lg u Pt Pt2 its us vs H0 → its.length ≤ 11 → lp ≠ lg → (∀ H', Q (.bl true) H') → t3 { nx := fun _ H' => Q .non H', rt := Q } σ H0 := by
  have m_Turns := @m_TurnsA P PM w K mg base T
  obtain ⟨t2, h2, hk2⟩ := @law_b2 P PM w K mg base T f c c2 Pt Pt2 D2 TB TB2 hne A outer s H E hr
  refine ⟨_, (pss_cons (ps_if (pt_cmpR (op_neT (units_of hr)) (pe_lam2 (q := lamQ) (q2 := strQ) hne (k := 30) (by rfl) T.d__law_told sc__law_told rfl (by first | exact .inl rfl | exact .inr (.inl rfl)) (fun _ _ _ _ _ _ us hl => match us, hl with | [_], _ => rfl) (fun g cdg => told_d T) (by rfl) TB rfl hr (by first | decide | omega) (LamX.lamS_by (sc := defScope s_law) (by decide +kernel)) rfl (fun _ _ _ _ _ => rfl) (fun A outer s H E f c' hr => (pe_mkx m_Turns hr (by first | decide | omega) rfl (passE rfl rfl rfl rfl) (pa_cons (pv 7) pa_nil)))) (pv 6) (nomark _)) (pss_one (ps_ret pe_bl)) pss_nil)
      h2), ?_⟩
  intro σ H0 Q lp lg u us vs its w0 w1 w2 w3 w5 w8 w9 w10 w11 w12 hσ y n11 nlg k
  subst hσ
  walk_at "g"
  refine ⟨y.tab, fun H1 x1 tab1 => ?_⟩
  have y1 := y.ext x1 tab1
  clear y x1 tab1
  unfold TTk
  walk_at "g"
  have yy := y1
  refine fun a da na nda _ => ?_
  refine tA na nda (.inl (SqL.of yy.hlg)) yy.ev n11 (fun ks H2 e ok s2 hT _ => ⟨rfl, ?_⟩) (fun cls d H2 s2 hd => .inl ⟨_, hd, fun u2 H3 s3 hu2 => ?_⟩)
  · have y2 := yy.same s2
    refine ⟨by show 1 ≤ sizeLine; decide, fun u2 nu2 => ?_⟩
    have s3 := same_upd (o := .tup [.str "made"]) nu2
    have hu2 : upd H2 u2 (.tup [.str "made"]) u2 = some (.tup [.str "made"]) := upd_same
    generalize upd H2 u2 (.tup [.str "made"]) = H3 at *
    have y3 := y2.same s3
    have hu3 := y3.hu
    rw [e, due_ks ok] at hu3
    walk_at "g"
    refine ⟨u2, u, _, rfl, rfl, SqT.of hu2, SqT.of hu3, (fun v hv => .inl (by rw [List.mem_singleton.mp hv]; rfl)), ?_⟩
    walk_at "g"
    first | refine iteF ?_ | skip
    exact hk2 _ _ Q lp lg u us vs its w0 w1 w2 w3 w5 w8 w9 w10 w11 w12 rfl y3 n11 nlg k
  · have y3 := (yy.same s2).same s3
    walk_at "g"
    refine ⟨u2, u, _, rfl, rfl, SqT.of hu2, SqT.of y3.hu, y3.slf (K := K), ?_⟩
    walk_at "g"
    first | refine iteF ?_ | skip
    exact hk2 _ _ Q lp lg u us vs its w0 w1 w2 w3 w5 w8 w9 w10 w11 w12 rfl y3 n11 nlg k
end
end Tr

/-! # k10: the law. -/
namespace Tr
open PySem L2 TL
/-- steps of a reading that are plain -/
local macro_rules | `(tactic| walk_at "x") => `(tactic| (refine' ⟨_, _, _, _, rfl, rfl, ?k1, ?k2, ?_⟩; (case k1 => exact SqT.of (by assumption)); (case k2 => exact rfl)))
local macro_rules | `(tactic| walk_at "g") => `(tactic| repeat (first | (refine ⟨_, rfl, ?_⟩) | (refine ⟨_, _, rfl, rfl, ?_⟩) | (refine ⟨_, _, rfl, ?_⟩) | (refine ⟨rfl, ?_⟩) | walk_at "x"))


theorem call_list_ofK {X : Cx} (K : PySem.W.Frag) (hk : X.K = K := by rfl) : CallR X (.type "list") (fun xs H Q => ∃ p ys, xs = [.ref p] ∧ (SqL K H p ys ∨ SqT K H p ys) ∧ ∀ l, H l = none → Q (.ref l) (upd H l (.lst ys))) := by
  subst hk
  exact call_list_of
def rNe0 (K : PySem.W.Frag) : R2 := fun x y H Q => ∃ a b xs, x = .ref a ∧ y = .ref b ∧ SqL K H a xs ∧ SqL K H b [] ∧ Q (.bl (!xs.isEmpty)) H
theorem op_neE2 {X : Cx} (hu : X.A.units + 64 < cLine) : OpR X (compareOp .NotEq) (rNe0 X.K) := by
  intro pins s σ H x y v u Q I rx ry h
  obtain ⟨a, b, xs, ex, ey, ha, hb, q⟩ := h
  refine op_neE hu pins s σ H x y v u Q I rx ry ⟨a, b, xs, [], ex, ey, ha, hb, ?_⟩
  cases xs with
  | nil => exact .inr ⟨rfl, rfl, q⟩
  | cons _ _ => exact .inl ⟨by simp, q⟩
theorem nm_oth {x : Str} {k : Nat} (hk : k < 10) (h : Nm k x) : x ≠ "other" := by
  rintro rfl
  obtain ⟨r, hr⟩ := h.2
  have e : tl ("other" : Str) = [111, 116, 104, 101] ++ [114] := by rw [tl_ofString]; rfl
  rw [e] at hr
  have := congrArg List.getLast? hr
  rw [List.getLast?_append, List.getLast?_append] at this
  have : 114 = 48 + k := Option.some.inj this
  omega
section
variable {P : Program} [PM : PMain P] {w : World} {K : PySem.W.Frag} {mg : Str → Option Value} {base : Heap}
def spLaw (K : PySem.W.Frag) (Pt Pt2 : Addr) : Sp := fun vs H Q _ => ∃ (a : Addr) (ns : List Int), vs = [.ref a] ∧ SqL K H a (ns.map V.int) ∧ H Pt = some (.tbl #[]) ∧ H Pt2 = some (.tbl #[]) ∧ ∀ H', Q (.bl true) H'
theorem ok_law (T : Txt K mg) {fl : Addr} {fdl : FuncData} {c c2 Pt Pt2 : Addr} (Fl : Fun K "law" "law" s_law fl fdl) (hc : fdl.code = .ref c) (TB : LamX.TabB base mg c Pt) (D2 : LamM K mg "_law_strangers" s__law_strangers c2) (TB2 : LamX.TabB base mg c2 Pt2) (hne : Pt2 ≠ Pt) : FnOk P w K mg base (L2.CX P w) 80 fl fdl ["_law_script"] (spLaw K Pt Pt2) := by
  have c__law_bag := @c__law_bag P w K mg base T
  have c__law_draw := @c__law_draw P w K mg base T
  have c__law_ident := @c__law_ident P w K mg base T
  have c__law_spoiled := @c__law_spoiled P w K mg base T
  have c__law_due := @c__law_due P w K mg base T
  refine okT Fl hc sc_law (fun vs H Q E h => ?_) (fun A outer s H vs Q E hr h => ?_)
  · obtain ⟨a, ns, rfl, _⟩ := h
    rfl
  · obtain ⟨a0, ns, rfl, hS, hPt, hPu, k⟩ := h
    obtain ⟨t2, h2, hk2⟩ := @law_b1 P PM w K mg base T fl c c2 Pt Pt2 D2 TB TB2 hne A outer s H E hr
    refine ⟨_, (pss_cons (ps_set (i := 1) sc_law.nd rfl (Or.inr rfl) (pe_cx c__law_bag hr (by first | decide | omega) rfl passL (pa_cons (pv 0) pa_nil)))
      (pss_cons (ps_set (i := 2) sc_law.nd rfl (Or.inr rfl) (pe_lst (pa_cons pe_int (pa_cons pe_int (pa_cons pe_int (pa_cons pe_int (pa_cons pe_int (pa_cons (pe_op op_pow pe_int pe_int) pa_nil))))))))
      (pss_cons (ps_set (i := 3) sc_law.nd rfl (Or.inl rfl) (pe_ix ix_list (pe_lst (pa_cons (pe_op op_add pe_int (pe_cx c__law_draw hr (by first | decide | omega) rfl passL (pa_cons (pv 1) (pa_cons pe_int pa_nil)))) (pa_cons (pe_cx c__law_draw hr (by first | decide | omega) rfl passL (pa_cons (pv 1) (pa_cons pe_int pa_nil))) pa_nil))) (pe_callTy call_int1 (by rfl) T.b_int (by decide +kernel) (pa_cons (pe_cmpR op_eq (pe_cx c__law_draw hr (by first | decide | omega) rfl passL (pa_cons (pv 1) (pa_cons pe_int pa_nil))) pe_int (nomark _)) pa_nil)) (fun _ _ => rfl)))
      (pss_cons (ps_set (i := 4) sc_law.nd rfl (Or.inr rfl) (pe_lc (own := [("_law_k", 5)]) (g := gName 5) rfl sc_law.nd (pi_range1 (by rfl) T.b_range (pa_cons (pv 3) pa_nil)) (blkOk_by (own := [("_law_k", 5)]) (N := ["_law_script", "_law_bag_here", "_law_periods", "_law_many", "_law_pairs", "_law_k", "_law_due_here", "_law_given", "_law_turns", "_law_at", "_law_name", "_law_period", "_law_pair"]) (sc := defScope s_law) (by decide +kernel)) (fun _ _ _ _ _ => (pg_name (i := 5) sc_law.nd rfl (Or.inl rfl))) (fun _ _ _ _ _ => pts_nil) (fun _ _ _ _ _ => (pe_tup (pa_cons (pe_cx c__law_ident hr (by first | decide | omega) rfl passL (pa_cons (pv 1) (pa_cons (pe_op op_mod (pv 5) pe_int) pa_nil))) (pa_cons (pe_ix (ix_listK K) (pv 2) (pe_cx c__law_draw hr (by first | decide | omega) rfl passL (pa_cons (pv 1) (pa_cons pe_int pa_nil))) (fun _ _ => rfl)) pa_nil))))))
      (pss_cons (ps_for PassesOwn.never rfl (pi_range1 (by rfl) T.b_range (pa_cons (pe_op op_mul (pe_cx c__law_draw hr (by first | decide | omega) rfl passL (pa_cons (pv 1) (pa_cons pe_int pa_nil))) (pe_callTy call_int1 (by rfl) T.b_int (by decide +kernel) (pa_cons (pe_cmpR (op_neE2 (units_of hr)) (pv 4) (pe_lst pa_nil) (nomark _)) pa_nil))) pa_nil)) (pg_name (i := 5) sc_law.nd rfl (Or.inl rfl)) (pss_one (ps_expr (pe_cx c__law_spoiled hr (by first | decide | omega) rfl passL (pa_cons (pv 1) (pa_cons (pv 4) pa_nil))))))
      (pss_cons (ps_set (i := 6) sc_law.nd rfl (Or.inl rfl) (pe_cx c__law_due hr (by first | decide | omega) rfl passL (pa_cons (pv 4) pa_nil)))
      (pss_cons (ps_set (i := 7) sc_law.nd rfl (Or.inr rfl) (pe_lc (own := [("_law_pair", 12)]) (g := gName 12) rfl sc_law.nd (pi_listK K (pv 4)) (blkOk_by (own := [("_law_pair", 12)]) (N := ["_law_script", "_law_bag_here", "_law_periods", "_law_many", "_law_pairs", "_law_k", "_law_due_here", "_law_given", "_law_turns", "_law_at", "_law_name", "_law_period", "_law_pair"]) (sc := defScope s_law) (by decide +kernel)) (fun _ _ _ _ _ => (pg_name (i := 12) sc_law.nd rfl (Or.inl rfl))) (fun _ _ _ _ _ => pts_nil) (fun _ _ _ _ _ => (pe_ifExp (pt_cmpR op_eq (pe_cx c__law_draw hr (by first | decide | omega) rfl passL (pa_cons (pv 1) (pa_cons pe_int pa_nil))) pe_int (nomark _)) (pe_callTy (call_list_ofK K) (by rfl) T.b_list (by decide +kernel) (pa_cons (pv 12) pa_nil)) (pv 12)))))
      h2))))))), ?_⟩
    have big : ∀ x : Int, 0 ≤ x → x < 256 → Bd 8000 x := fun x h0 h1 => Bd.mono (n := 8) (by show x.natAbs < 2 ^ 8; omega) (by decide)
    generalize hσ : L2.start _ _ = σ0
    obtain rfl : σ0 = [some (.ref a0), none, none, none, none, none, none, none, none, none, none, none, none] := hσ.symm
    clear hσ
    walk_at "g"
    refine ⟨a0, ns, rfl, hS, fun p q H1 s1 np hB1 => ?_⟩
    have hPt1 := s1 _ _ hPt
    have hPu1 := s1 _ _ hPu
    clear hPt hPu hS s1
    walk_at "g"
    refine ⟨⟨by decide, by decide, by decide⟩, ?_⟩
    walk_at "g"
    refine ⟨by show 6 ≤ sizeLine; decide, fun lper nlper => ?_⟩
    obtain ⟨PL, ePL, lPL, hPL⟩ : ∃ PL : List V, [V.int 0, V.int 2, V.int 3, V.int 12, V.int 0, (fun i j : Int => V.int (i ^ j.toNat)) 10 40] = PL ∧ PL.length = 6 ∧ ∀ j, j < 6 → ∃ i, PL[j]? = some (.int i) := by
      refine ⟨_, rfl, rfl, fun j hj => ?_⟩
      rcases (show j = 0 ∨ j = 1 ∨ j = 2 ∨ j = 3 ∨ j = 4 ∨ j = 5 by omega) with rfl | rfl | rfl | rfl | rfl | rfl <;> exact ⟨_, rfl⟩
    rw [ePL]
    clear ePL
    have s2 := same_upd (o := .lst PL) nlper
    have hl2 : upd H1 lper (.lst PL) lper = some (.lst PL) := upd_same
    generalize upd H1 lper (.lst PL) = H2 at *
    have hPt2 := s2 _ _ hPt1
    have hPu2 := s2 _ _ hPu1
    have hB2 := hB1.same s2
    obtain ⟨_, _, hp2, _⟩ := id hB2.at_
    clear hPt1 hPu1 hB1 nlper s2 np
    walk_at "g"
    refine ⟨p, q, 8, _, rfl, hB2, by decide, by decide, big _ (by decide) (by decide), fun v1 H3 kp3 hB3 v10 v11 => ?_⟩
    obtain ⟨_, _, hp3, _⟩ := id hB3.at_
    walk_at "g"
    refine ⟨p, q, 11, _, rfl, hB3, by decide, by decide, big _ (by decide) (by decide), fun v2 H4 kp4 hB4 v20 v21 => ?_⟩
    obtain ⟨_, _, hp4, _⟩ := id hB4.at_
    have kp24 := kp3.trans kp4
    walk_at "g"
    refine ⟨by show 2 ≤ sizeLine; decide, fun l2 nl2 => ?_⟩
    have s5 := same_upd (o := .lst [.int (1 + v1), .int v2]) nl2
    have h52 : upd H4 l2 (.lst [.int (1 + v1), .int v2]) l2 = some (.lst [.int (1 + v1), .int v2]) := upd_same
    generalize upd H4 l2 (.lst [.int (1 + v1), .int v2]) = H5 at *
    have hB5 := hB4.same s5
    obtain ⟨_, _, hp5, _⟩ := id hB5.at_
    walk_at "g"
    refine ⟨p, q, 4, _, rfl, hB5, by decide, by decide, big _ (by decide) (by decide), fun v3 H6 kp6 hB6 v30 v31 => ?_⟩
    obtain ⟨_, _, hp6, _⟩ := id hB6.at_
    walk_at "g"
    refine .inr ⟨_, rfl, ?_⟩
    obtain ⟨M, hM, hMl⟩ : ∃ M : Nat, atI [V.int (1 + v1), V.int v2] (if decide (V.int v3 = V.int 0) = true then 1 else 0) = some (.int (M : Int)) ∧ M ≤ 10 := by
      cases decide (V.int v3 = V.int 0) with
      | true => exact ⟨v2.toNat, by rw [if_pos rfl]; show some (V.int v2) = _; rw [show ((v2.toNat : Nat) : Int) = v2 by omega], by omega⟩
      | false => exact ⟨(1 + v1).toNat, by rw [if_neg Bool.false_ne_true]; show some (V.int (1 + v1)) = _; rw [show (((1 + v1).toNat : Nat) : Int) = 1 + v1 by omega], by omega⟩
    refine ⟨l2, _, _, .int (M : Int), rfl, rfl, SqL.of (kp6 _ _ h52 (ne_of h52 hp5 (by intro z; cases z))), hM, ?_⟩
    have hl6 : H6 lper = some (.lst PL) := kp6 _ _ (s5 _ _ (kp24 _ _ hl2 (ne_of hl2 hp2 (by intro z; cases z)))) (ne_of hl2 hp2 (by intro z; cases z))
    have hPt6 : H6 Pt = some (.tbl #[]) := kp6 _ _ (s5 _ _ (kp24 _ _ hPt2 (ne_of hPt2 hp2 (by intro z; cases z)))) (ne_of hPt2 hp2 (by intro z; cases z))
    have hPu6 : H6 Pt2 = some (.tbl #[]) := kp6 _ _ (s5 _ _ (kp24 _ _ hPu2 (ne_of hPu2 hp2 (by intro z; cases z)))) (ne_of hPu2 hp2 (by intro z; cases z))
    clear hM h52 kp6 s5 kp24 kp3 kp4 hl2 hPt2 hPu2 hB2 hB3 hB4 hB5 hp2 hp3 hp4 hp5 nl2
    generalize hσ : List.set (List.set _ 1 _) 2 _ = σ0
    obtain rfl : σ0 = [some (.ref a0), some (.ref p), some (.ref lper), none, none, none, none, none, none, none, none, none, none] := hσ.symm
    clear hσ
    have nlp : lper ≠ p := ne_of hl6 hp6 (by intro z; cases z)
    walk_at "g"
    refine ⟨by omega, by omega, fun D nD => ?_⟩
    rw [Int.toNat_natCast]
    have nDp : D ≠ p := fun e => by rw [e, hp6] at nD; cases nD
    refine lc_it (walk_range (lo := 0) (n := M)) (fun i H' => Kp p H6 H' ∧ Bag H' p q (20 + 5 * i) ∧ ∃ us cs, H' D = some (.lst (us.map V.ref)) ∧ P2 (SrT H') us cs ∧ cs.length = i ∧ ∀ c ∈ cs, ∃ k, k < 10 ∧ Nm k c.1) ⟨(same_upd nD).kp, (hB6.same (same_upd nD)).mono (by omega), [], [], upd_same, .nil, rfl, fun _ h => nomatch h⟩ (fun _ _ _ _ => trivial) ?_ ?_
    · rintro i x Hx H7 hi ⟨k7, hB7, us, cs, hD7, p7, l7, nm7⟩ ⟨rfl, rfl⟩
      obtain ⟨_, _, hp7, _⟩ := id hB7.at_
      refine ⟨rfl, ?_⟩
      walk_at "g"
      refine ⟨(by show (0 : Int) < 10; decide), ?_⟩
      walk_at "g"
      refine ⟨p, q, _, i % 10, (by show [V.ref p, V.int (((0 : Int) + (i : Int)) % 10)] = _; rw [show ((0 : Int) + (i : Int)) % 10 = ((i % 10 : Nat) : Int) by omega]), hB7, by omega, by omega, fun z H8 kp8 hB8 nm8 => ?_⟩
      obtain ⟨_, _, hp8, _⟩ := id hB8.at_
      walk_at "g"
      refine ⟨p, q, 6, _, rfl, hB8, by omega, by decide, big _ (by decide) (by decide), fun v H9 kp9 hB9 v0 v1' => ?_⟩
      obtain ⟨_, _, hp9, _⟩ := id hB9.at_
      obtain ⟨j, rfl⟩ : ∃ j : Nat, v = (j : Int) := ⟨v.toNat, by omega⟩
      obtain ⟨pe, hpe⟩ := hPL j (by omega)
      have hl9 : H9 lper = some (.lst PL) := kp9 _ _ (kp8 _ _ (k7 _ _ hl6 nlp) nlp) nlp
      refine ⟨lper, _, (j : Int), .int pe, rfl, rfl, SqL.of hl9, atI_nat hpe, ?_⟩
      walk_at "g"
      refine ⟨by show 2 ≤ sizeLine; decide, fun t nt => ?_⟩
      have st := same_upd (o := .tup [.str z, .int pe]) nt
      have htt : upd H9 t (.tup [.str z, .int pe]) t = some (.tup [.str z, .int pe]) := upd_same
      generalize upd H9 t (.tup [.str z, .int pe]) = Ha at *
      have hD9 := kp9 _ _ (kp8 _ _ hD7 nDp) nDp
      have hDa := st _ _ hD9
      have lus : us.length = i := by rw [p7.len, l7]
      have nDq : D ≠ q := fun e => by
        obtain ⟨_, _, _, hq6⟩ := id hB6.at_
        rw [← e, nD] at hq6
        cases hq6
      have kD := kp_upd D Ha (.lst (us.map V.ref ++ [.ref t]))
      refine ⟨_, hDa, small_app (Nat.le_refl _) (by rw [List.length_map]; omega), fun b o e n => kD _ _ (st _ _ (kp9 _ _ (kp8 _ _ (k7 _ _ e n) n) n)) (ne_of_none e nD), ((hB9.same st).wr nDp nDq).mono (by omega), us ++ [t], cs ++ [(z, pe)], by rw [upd_same, List.map_append]; rfl, ?_, by rw [List.length_append, l7]; rfl, fun c hc => ?_⟩
      · have pa : P2 (SrT Ha) us cs := ((p7.kpS kp8 hp7 (by intro _ z; cases z)).kpS kp9 hp8 (by intro _ z; cases z)).sameS st
        exact (pa.kpS kD hDa (by intro _ z; cases z)).snoc (kD _ _ htt (ne_of htt hDa (by intro z; cases z)))
      · rcases List.mem_append.mp hc with hc | hc
        · exact nm7 c hc
        · rw [List.mem_singleton.mp hc]
          exact ⟨i % 10, by omega, nm8⟩
    · rintro H7 ⟨k7, hB7, us, cs, hD7, p7, l7, nm7⟩
      obtain ⟨_, _, hp7, _⟩ := id hB7.at_
      have pit : P2 (ItK H7) us (cs.map siV) := by
        have key : ∀ {us : List Addr} {cs : List SI}, P2 (SrT H7) us cs → (∀ c ∈ cs, ∃ k, k < 10 ∧ Nm k c.1) → P2 (ItK H7) us (cs.map siV) := by
          intro us cs h
          induction h with
          | nil => exact fun _ => .nil
          | cons r _ ih =>
            intro nm
            obtain ⟨k, hk, hn⟩ := nm _ List.mem_cons_self
            exact .cons ⟨r, .str _ (Nat.le_trans hn.1.len (by decide)) (nm_oth hk hn), .int _⟩ (ih fun c hc => nm c (List.mem_cons_of_mem _ hc))
        exact key p7 nm7
      have nDq : D ≠ q := fun e => by
        obtain ⟨_, _, _, hq6⟩ := id hB6.at_
        rw [← e, nD] at hq6
        cases hq6
      have hPt7 := k7 _ _ hPt6 (ne_of hPt6 hp6 (by intro z; cases z))
      have hPu7 := k7 _ _ hPu6 (ne_of hPu6 hp6 (by intro z; cases z))
      have lit : (cs.map siV).length = M := by rw [List.length_map, l7]
      have lus : us.length = M := by rw [p7.len, l7]
      generalize cs.map siV = its at *
      clear p7 nm7 l7 k7 hPt6 hPu6 hl6 nD
      walk_at "g"
      refine ⟨p, q, 4, _, rfl, hB7, by omega, by decide, big _ (by decide) (by decide), fun v4 H8 kp8 hB8 v40 v41 => ?_⟩
      have hD8 := kp8 _ _ hD7 nDp
      have hPt8 := kp8 _ _ hPt7 (ne_of hPt7 hp7 (by intro z; cases z))
      have hPu8 := kp8 _ _ hPu7 (ne_of hPu7 hp7 (by intro z; cases z))
      have pit8 : P2 (ItK H8) us its := pit.mono fun _ _ e => ItK.kpB kp8 hp7 e
      clear pit hD7 hPt7 hPu7 hB7 kp8 hp7
      walk_at "g"
      refine ⟨by show 0 ≤ sizeLine; decide, fun e0 ne0 => ?_⟩
      have s9 := same_upd (o := .lst []) ne0
      have he0 : upd H8 e0 (.lst []) e0 = some (.lst []) := upd_same
      generalize upd H8 e0 (.lst []) = H9 at *
      have hD9 := s9 _ _ hD8
      refine ⟨D, e0, us.map V.ref, rfl, rfl, SqL.of hD9, SqL.of he0, ?_⟩
      walk_at "g"
      refine .inr ⟨_, rfl, ?_⟩
      obtain ⟨o, ho, ho1, hoM⟩ : ∃ o : Int, (if (!(us.map V.ref).isEmpty) = true then 1 else 0) = o ∧ (o = 0 ∨ o = 1) ∧ (o = 1 → 0 < M) := by
        cases us with
        | nil => exact ⟨0, rfl, .inl rfl, fun e => absurd e (by decide)⟩
        | cons _ _ => exact ⟨1, rfl, .inr rfl, fun _ => by rw [← lus]; exact Nat.succ_pos _⟩
      rw [ho]
      have pit9 : P2 (ItK H9) us its := pit8.mono fun _ _ e => ItK.same s9 e
      have hPt9 := s9 _ _ hPt8
      have hPu9 := s9 _ _ hPu8
      have hB9 := hB8.same s9
      clear ho pit8 hD8 hPt8 hPu8 hB8 s9 he0 ne0
      generalize hσ : List.set (List.set _ 3 _) 4 _ = σ0
      obtain rfl : σ0 = [some (.ref a0), some (.ref p), some (.ref lper), some (.int (M : Int)), some (.ref D), none, none, none, none, none, none, none, none] := hσ.symm
      clear hσ
      walk_at "g"
      refine ⟨.inl ⟨by omega, by omega⟩, ?_⟩
      obtain ⟨cnt, ecnt, c3, cM⟩ : ∃ cnt : Nat, v4 * o = (cnt : Int) ∧ cnt ≤ 3 ∧ (0 < cnt → 0 < M) := by
        rcases ho1 with rfl | rfl
        · exact ⟨0, by rw [Int.mul_zero]; rfl, by decide, fun h => absurd h (by decide)⟩
        · exact ⟨v4.toNat, by rw [Int.mul_one]; omega, by omega, fun _ => hoM rfl⟩
      rw [show (fun i j : Int => V.int (i * j)) v4 o = V.int (cnt : Int) from congrArg V.int ecnt]
      clear ecnt hoM ho1
      walk_at "g"
      refine ⟨by omega, by omega, ?_⟩
      rw [Int.toNat_natCast]
      refine for_range (lo := 0) (n := cnt) (fun i σ H' => ∃ (v5 : Option V) (us : List Addr) (its : List (V × V)), σ = [some (.ref a0), some (.ref p), some (.ref lper), some (.int (M : Int)), some (.ref D), v5, none, none, none, none, none, none, none] ∧ Bag H' p q (100 + 5 * i) ∧ H' D = some (.lst (us.map V.ref)) ∧ P2 (ItK H') us its ∧ its.length = M ∧ H' Pt = some (.tbl #[]) ∧ H' Pt2 = some (.tbl #[])) ⟨_, us, its, rfl, hB9.mono (by omega), hD9, pit9, lit, hPt9, hPu9⟩ ?_ ?_
      · rintro i σ Ha hi ⟨v5, us, its, rfl, hBa, hDa, pa, la, hPta, hPua⟩
        obtain ⟨_, _, hpa, _⟩ := id hBa.at_
        walk_at "g"
        refine ⟨p, q, D, _, us, its, rfl, hBa, by omega, hDa, nDq, pa, by rw [la]; exact cM (by omega), by omega, fun us2 its2 Hb k2 hBb hDb pb lb => ?_⟩
        exact ⟨_, us2, its2, rfl, hBb.mono (by omega), hDb, pb, lb.trans la, k2 _ _ hPta (ne_of hPta hpa (by intro z; cases z)) (ne_of hPta hDa (by intro z; cases z)), k2 _ _ hPua (ne_of hPua hpa (by intro z; cases z)) (ne_of hPua hDa (by intro z; cases z))⟩
      · rintro σ Ha ⟨v5, us, its, rfl, hBa, hDa, pa, la, hPta, hPua⟩
        walk_at "g"
        refine ⟨D, us, its, rfl, SqL.of hDa, pa.mono fun _ _ e => e.t, by omega, fun u Hb sb hu => ?_⟩
        have pb : P2 (ItK Hb) us its := pa.mono fun _ _ e => ItK.same sb e
        have hDb := sb _ _ hDa
        have hPtb := sb _ _ hPta
        have hPub := sb _ _ hPua
        have hBb := hBa.same sb
        obtain ⟨_, _, hpb, _⟩ := id hBb.at_
        have lb := pb.len
        clear pa hDa hPta hPua hBa sb pit9 hD9 hPt9 hPu9 hB9
        walk_at "g"
        refine ⟨⟨_, SqL.of hDb⟩, fun G nG => ?_⟩
        have nGp : G ≠ p := fun e => by rw [e, hpb] at nG; cases nG
        have nGD : D ≠ G := ne_of_none hDb nG
        have nGq : G ≠ q := fun e => by
          obtain ⟨_, _, _, hq6⟩ := id hBb.at_
          rw [← e, nG] at hq6
          cases hq6
        have wl := walk_list (K := K) (a := D) (xs := us.map V.ref)
        refine lc_it wl (fun i H' => Kp p Hb H' ∧ Bag H' p q (200 + 5 * i) ∧ ∃ vs, H' G = some (.lst (vs.map V.ref)) ∧ P2 (fun u (c : V × V) => u ≠ G ∧ (H' u = some (.tup [c.1, c.2]) ∨ H' u = some (.lst [c.1, c.2]))) vs (its.take i)) ⟨(same_upd nG).kp, (hBb.same (same_upd nG)).mono (by omega), [], upd_same, .nil⟩ (fun i H' _ ⟨kq, _⟩ => SqL.of (kq _ _ hDb nDp)) ?_ ?_
        · rintro i x Hx Hc hi ⟨kc, hBc, vs, hGc, pc⟩ ⟨rfl, hx⟩
          rw [List.getElem?_map] at hx
          obtain ⟨u', hu', rfl⟩ := Option.map_eq_some_iff.mp hx
          obtain ⟨cc, hcc, hit⟩ := pb.getl hu'
          obtain ⟨_, _, hpc, _⟩ := id hBc.at_
          refine ⟨rfl, ?_⟩
          walk_at "g"
          have hiu := (List.getElem?_eq_some_iff.mp hu').1
          refine ⟨p, q, 2, _, rfl, hBc, by omega, by decide, big _ (by decide) (by decide), fun v6 Hd kd hBd v60 v61 => ?_⟩
          have hGd := kd _ _ hGc nGp
          have hud : Hd u' = some (.tup [cc.1, cc.2]) := kd _ _ (kc _ _ hit.1 (ne_of hit.1 hpb (by intro z; cases z))) (ne_of hit.1 hpb (by intro z; cases z))
          have pd : P2 (fun u (c : V × V) => u ≠ G ∧ (Hd u = some (.tup [c.1, c.2]) ∨ Hd u = some (.lst [c.1, c.2]))) vs (its.take i) := pc.mono fun _ _ e => ⟨e.1, e.2.imp (fun e => kd _ _ e (ne_of e hpc (by intro z; cases z))) fun e => kd _ _ e (ne_of e hpc (by intro z; cases z))⟩
          have lvs : vs.length = i := by rw [pd.len, List.length_take]; omega
          have nuG : u' ≠ G := ne_of_none hit.1 nG
          have kbd : Kp p Hb Hd := kc.trans kd
          clear pc hGc hBc kc kd hpc
          walk_at "g"
          refine iteB (fun c1 => ?_) (fun c1 => ?_)
          · walk_at "g"
            refine ⟨u', _, rfl, .inr (SqT.of hud), fun r nr => ?_⟩
            have sr := same_upd (o := .lst [cc.1, cc.2]) nr
            have hr : upd Hd r (.lst [cc.1, cc.2]) r = some (.lst [cc.1, cc.2]) := upd_same
            have nrG : r ≠ G := fun e => by rw [e, hGd] at nr; cases nr
            generalize upd Hd r (.lst [cc.1, cc.2]) = Hr at *
            have hGr := sr _ _ hGd
            have kG := kp_upd G Hr (.lst (vs.map V.ref ++ [.ref r]))
            refine ⟨_, hGr, small_app (Nat.le_refl _) (by rw [List.length_map]; omega), fun b o e n => kG _ _ (sr _ _ (kbd _ _ e n)) (ne_of_none e nG), ((hBd.same sr).wr nGp nGq).mono (by omega), vs ++ [r], by rw [upd_same, List.map_append]; rfl, ?_⟩
            rw [take_snoc hcc]
            exact (pd.mono fun w _ e => ⟨e.1, e.2.imp (fun h => kG _ _ (sr _ _ h) e.1) fun h => kG _ _ (sr _ _ h) e.1⟩).snoc ⟨nrG, .inr (kG _ _ hr nrG)⟩
          · walk_at "g"
            have kG := kp_upd G Hd (.lst (vs.map V.ref ++ [.ref u']))
            refine ⟨_, hGd, small_app (Nat.le_refl _) (by rw [List.length_map]; omega), fun b o e n => kG _ _ (kbd _ _ e n) (ne_of_none e nG), (hBd.wr nGp nGq).mono (by omega), vs ++ [u'], by rw [upd_same, List.map_append]; rfl, ?_⟩
            rw [take_snoc hcc]
            exact (pd.mono fun w _ e => ⟨e.1, e.2.imp (fun h => kG _ _ h e.1) fun h => kG _ _ h e.1⟩).snoc ⟨nuG, .inl (kG _ _ hud nuG)⟩
        · rintro Hc ⟨kc, hBc, vs, hGc, pc⟩
          rw [List.length_map, lb, List.take_length] at pc
          walk_at "g"
          have hPtc := kc _ _ hPtb (ne_of hPtb hpb (by intro z; cases z))
          have hPuc := kc _ _ hPub (ne_of hPub hpb (by intro z; cases z))
          refine hk2 _ _ Q D G u us vs its _ _ _ _ _ _ _ _ _ _ rfl ⟨kc _ _ hDb nDp, pb.mono fun _ _ e => kc _ _ e.1 (ne_of e.1 hpb (by intro z; cases z)), hGc, pc.mono fun _ _ e => e.2, fun c hc => ?_, kc _ _ hu (ne_of hu hpb (by intro z; cases z)), fun pr hpr => ?_⟩ (by omega) nGD k
          · obtain ⟨j, hj, rfl⟩ := List.getElem_of_mem hc
            obtain ⟨w, hw⟩ : ∃ w, us[j]? = some w := ⟨_, List.getElem?_eq_getElem (by omega)⟩
            obtain ⟨c', hc', e⟩ := pb.getl hw
            rw [List.getElem?_eq_getElem hj] at hc'
            cases hc'
            have e' := ItK.kpB kc hpb e
            exact e'.2
          · rcases List.mem_cons.mp hpr with rfl | hpr
            · exact LamX.TabS.nil hPtc
            · rw [List.mem_singleton.mp hpr]
              exact LamX.TabS.nil hPuc
end
end Tr

/-! # The head by facts: a hook of own booleans and of functions by their places. -/
namespace Tr
open PySem PySem.Spec PyProof.Rows L2
theorem _root_.L2.FnOk.to0 {P : Program} {w : World} {K : PySem.W.Frag} {mg : Str → Option Value} {base : Heap} {k : Nat} {f : Addr} {fd : FuncData} {ps : List Str} {sp : Sp} (F : FnOk P w K mg base (L2.CX P w) k f fd ps sp) (h : ∀ vs H Q E, sp vs H Q E → sp vs H Q E0) :
    FnOk P w K mg base CX0 k f fd ps sp := ⟨F.len, fun A outer s H args us vs Q E hr he hb hv hs => codeAny_mono (F.run A outer s H args us vs Q E0 hr he hb hv (h _ _ _ _ hs)) fun r s' q => by
  cases r with
  | error e =>
    obtain ⟨_, _, _, _, _, _, _, _, _, _, _, _, z⟩ := q
    exact z.elim
  | ok fl => cases fl <;> exact q⟩
theorem _root_.L2.FunD.fun_ {K : PySem.W.Frag} {x qual : Str} {st : Stmt} {f : Addr} {fd : FuncData} (F : FunD K x qual (defArgs st) (defBody st) (defScope st) [] [] f fd) : Fun K x qual st f fd := by
  obtain ⟨oc, od, dV, kV, doc, pm, an, cdv, ct, osl, e, lk, hcd, hD, _⟩ := F.ex
  rcases hD with ⟨_, rfl⟩ | ⟨e, _⟩
  · exact ⟨⟨oc, od, kV, doc, pm, an, cdv, ct, osl, e, lk, hcd⟩, F.kp⟩
  · exact absurd rfl e
/-- one def: its place, names, parameters, body, scope, defaults -/
structure DefX where
  at_ : PySem.W.Frag → Addr
  name : Str
  qual : Str
  params : Arguments
  body : List Stmt
  scope : Scope
  dfl : List He.Dv := []
  clo : List Str := []
  kwd : List (Str × He.Dv) := []
def DefX.val (d : DefX) : He.FnW := some (d.name, d.qual, d.params, .stmts d.body, d.scope, mainGlobals, d.clo.map (·, 0), builtinsNs)
def fnX (K : PySem.W.Frag) (a : Addr) : He.FnW := match K.lookup a with
  | some ⟨_, _, .func fd, _⟩ => some (fd.name, fd.qualname, fd.params, fd.body, fd.scope, fd.globals, fd.closure.map fun p => (p.1, 0), fd.builtins)
  | _ => none
def DefX.ok (K : PySem.W.Frag) (d : DefX) : Bool := PySem.W.keepIn K (.ref (d.at_ K)) && (match K.lookup (d.at_ K) with
  | some ⟨_, _, .func fd, _⟩ => PySem.W.codeIn K fd.code d.qual && (He.dflB K fd.defaults (d.dfl.map (He.Dv.v K)) && He.kwdB K fd.kwdefaults (d.kwd.map fun q => (q.1, He.Dv.v K q.2)))
  | _ => false)
theorem DefX.funD {K : PySem.W.Frag} {d : DefX} (hc : d.clo = []) (e : fnX K (d.at_ K) = d.val) (c : d.ok K = true) : ∃ fd, FunD K d.name d.qual d.params d.body d.scope (d.dfl.map (He.Dv.v K)) (d.kwd.map fun q => (q.1, He.Dv.v K q.2)) (d.at_ K) fd := by
  obtain ⟨kp, c2⟩ := He.ba c
  unfold fnX at e
  cases q : K.lookup (d.at_ K) with
  | none =>
    rw [q] at c2
    cases c2
  | some o =>
    obtain ⟨oc, od, dt, osl⟩ := o
    rw [q] at c2 e
    cases dt with
    | func fd =>
      obtain ⟨n1, n2, n3, n4, n5, n6, n7, n8, n9, n10, n11, n12, n13, n14, n15⟩ := fd
      have e2 : (some (n1, n2, n3, n4, n5, n6, n7.map fun p => (p.1, 0), n15) : He.FnW) = some (d.name, d.qual, d.params, .stmts d.body, d.scope, mainGlobals, d.clo.map (·, 0), builtinsNs) := e
      rw [hc] at e2
      simp only [Option.some.injEq, Prod.mk.injEq, List.map_nil, List.map_eq_nil_iff] at e2
      obtain ⟨h1, h2, h3, h4, h5, h6, h7, h8⟩ := e2
      subst h1 h2 h3 h4 h5 h6 h7 h8
      have c3 : (PySem.W.codeIn K n13 d.qual && (He.dflB K n8 (d.dfl.map (He.Dv.v K)) && He.kwdB K n9 (d.kwd.map fun q => (q.1, He.Dv.v K q.2)))) = true := c2
      obtain ⟨k1, k2⟩ := He.ba c3
      obtain ⟨k3, k4⟩ := He.ba k2
      exact ⟨_, ⟨oc, od, n8, n9, n10, n11, n12, n13, n14, osl, rfl, q, k1, He.dflB_ok k3, He.kwdB_ok k4⟩, kp⟩
    | _ => cases c2
abbrev AlX : Type := Bool × List He.FnW
def obsX (fb : List (PySem.W.Frag → Bool)) (fx : List DefX) (K : PySem.W.Frag) : AlX := ((fb.all fun f => f K) && fx.all fun d => d.ok K, fx.map fun d => fnX K (d.at_ K))
def valX (fx : List DefX) : AlX := (true, fx.map DefX.val)
def SaysX (fb : List (PySem.W.Frag → Bool)) (fx : List DefX) (K : PySem.W.Frag) : Prop := obsX fb fx K = valX fx
/-- what the module's names and the C statics reach in n steps -/
def asX (g : Addr → Option Obj) : Nat → List Addr
  | 0 => [mainGlobals, cStatics]
  | n + 1 => He.growD g (asX g n)
def obsXG (n : Nat) (fb : List (PySem.W.Frag → Bool)) (fx : List DefX) (g : Addr → Option Obj) : AlX := obsX fb fx (He.frG g (asX g n))
def hookX (n : Nat) (fb : List (PySem.W.Frag → Bool)) (fx : List DefX) : PySem.W.Hook where
  α := AlX
  obs := fun s => obsXG n fb fx s.heap.get?
  val := fun _ => valX fx
  says := fun _ h => ∃ K : PySem.W.Frag, K.In h ∧ SaysX fb fx K
  of := fun _ _ e => ⟨_, He.frG_in, e⟩
  keeps := fun _ _ _ ⟨K, hK, c⟩ k => ⟨K, PySem.W.Frag.In.keeps hK k, c⟩
theorem obsXG_eq {n : Nat} {fb : List (PySem.W.Frag → Bool)} {fx : List DefX} {g : Addr → Option Obj} {s : Shared} (h : ∀ a, g a = s.heap.get? a) : obsXG n fb fx g = (hookX n fb fx).obs s := by
  have e : g = s.heap.get? := funext h
  rw [e] <;> rfl
/-- the same, over addresses that are written out -/
def obsXL (as : List Addr) (fb : List (PySem.W.Frag → Bool)) (fx : List DefX) (g : Addr → Option Obj) : AlX := obsX fb fx (He.frG g as)
def hookL (as : List Addr) (fb : List (PySem.W.Frag → Bool)) (fx : List DefX) : PySem.W.Hook where
  α := AlX
  obs := fun s => obsXL as fb fx s.heap.get?
  val := fun _ => valX fx
  says := fun _ h => ∃ K : PySem.W.Frag, K.In h ∧ SaysX fb fx K
  of := fun _ _ e => ⟨_, He.frG_in, e⟩
  keeps := fun _ _ _ ⟨K, hK, c⟩ k => ⟨K, PySem.W.Frag.In.keeps hK k, c⟩
theorem obsXL_eq {as : List Addr} {fb : List (PySem.W.Frag → Bool)} {fx : List DefX} {g : Addr → Option Obj} {s : Shared} (h : ∀ a, g a = s.heap.get? a) : obsXL as fb fx g = (hookL as fb fx).obs s := by
  have e : g = s.heap.get? := funext h
  rw [e] <;> rfl
section
variable {fb : List (PySem.W.Frag → Bool)} {fx : List DefX} {K : PySem.W.Frag}
theorem SaysX.fact (c : SaysX fb fx K) (i : Nat) {f : PySem.W.Frag → Bool} (h : fb[i]? = some f := by rfl) : f K = true := by
  have c1 := (He.ba (show ((fb.all fun f => f K) && fx.all fun d => d.ok K) = true from congrArg (fun z : AlX => z.1) c)).1
  exact List.all_eq_true.mp c1 f (List.mem_of_getElem? h)
theorem SaysX.def_ (c : SaysX fb fx K) (i : Nat) {d : DefX} (h : fx[i]? = some d := by rfl) (hc : d.clo = [] := by rfl) : ∃ fd, FunD K d.name d.qual d.params d.body d.scope (d.dfl.map (He.Dv.v K)) (d.kwd.map fun q => (q.1, He.Dv.v K q.2)) (d.at_ K) fd := by
  have c2 := (He.ba (show ((fb.all fun f => f K) && fx.all fun d => d.ok K) = true from congrArg (fun z : AlX => z.1) c)).2
  have e : fx.map (fun d => fnX K (d.at_ K)) = fx.map DefX.val := congrArg (fun z : AlX => z.2) c
  have e2 : (fx.map fun d => fnX K (d.at_ K))[i]? = (fx.map DefX.val)[i]? := by rw [e]
  rw [List.getElem?_map, List.getElem?_map, h] at e2
  exact DefX.funD hc (Option.some.inj e2) (List.all_eq_true.mp c2 d (List.mem_of_getElem? h))
end
/-! ### own facts -/
def gof (kind : String) (K : PySem.W.Frag) (p : Addr) : Addr := match PySem.W.recIn K p kind with
  | some (.ref g :: _) => g
  | _ => 0
def decO (a : Option (Option Value)) (b : Option (Option Value)) : Bool := decide (a = b)
def propB (x m : Str) (K : PySem.W.Frag) : Bool :=
  decO (PySem.W.findIn K (.ref (He.ga K x)) m) (some (some (.ref (He.ma K (He.ga K x) m)))) && (decO (PySem.W.specialIn K (.ref (He.ma K (He.ga K x) m)) "__get__") (some (some (.builtin "property.__get__"))) &&
    (decide (PySem.W.takesIn K (.ref (He.ma K (He.ga K x) m)) = some true) && (match PySem.W.recIn K (He.ma K (He.ga K x) m) "property" with
      | some (.ref _ :: _) => true
      | _ => false)))
theorem propB_ok {x m : Str} {K : PySem.W.Frag} (h : propB x m K = true) : PropOf K (He.ga K x) m (He.ma K (He.ga K x) m) (gof "property" K (He.ma K (He.ga K x) m)) := by
  obtain ⟨h1, h⟩ := He.ba h
  obtain ⟨h2, h⟩ := He.ba h
  obtain ⟨h3, h4⟩ := He.ba h
  refine ⟨of_decide_eq_true h1, of_decide_eq_true h2, of_decide_eq_true h3, ?_⟩
  unfold gof
  split at h4
  · rename_i g r e
    rw [e]
    exact ⟨r, rfl⟩
  · cases h4
def isoB (x : Str) (K : PySem.W.Frag) : Bool :=
  decO (PySem.W.findIn K (.ref (He.ga K x)) "__class__") (some (some (.builtin "object.__class__"))) && (decO (PySem.W.specialIn K (.builtin "object.__class__") "__get__") (some (some (.builtin "getset_descriptor.__get__"))) &&
    (decide (PySem.W.takesIn K (.builtin "object.__class__") = some true) && decide (PySem.W.mroIn K (He.ga K x) (.type "object") = some true)))
theorem isoB_ok {x : Str} {K : PySem.W.Frag} (h : isoB x K = true) : IsO K (He.ga K x) := by
  obtain ⟨h1, h⟩ := He.ba h
  obtain ⟨h2, h⟩ := He.ba h
  obtain ⟨h3, h4⟩ := He.ba h
  exact ⟨of_decide_eq_true h1, of_decide_eq_true h2, of_decide_eq_true h3, of_decide_eq_true h4⟩
def kindB (x : Str) (K : PySem.W.Frag) : Bool := bNames.all fun n => decide (PySem.W.kitOne K (.type n) (.ref (He.ga K x)) = some false) && (decide (PySem.W.subIn K (.type n) (.ref (He.ga K x)) = some false) && decide (PySem.W.subIn K (.ref (He.ga K x)) (.type n) = some false))
theorem kindB_ok {x : Str} {K : PySem.W.Frag} (h : kindB x K = true) : KindO K (He.ga K x) := by
  have g : ∀ n ∈ bNames, PySem.W.kitOne K (.type n) (.ref (He.ga K x)) = some false ∧ PySem.W.subIn K (.type n) (.ref (He.ga K x)) = some false ∧ PySem.W.subIn K (.ref (He.ga K x)) (.type n) = some false := fun n hn => by
    have := List.all_eq_true.mp h n hn
    rw [Bool.and_eq_true, Bool.and_eq_true, decide_eq_true_eq, decide_eq_true_eq, decide_eq_true_eq] at this
    exact this
  exact ⟨fun n hn => (g n hn).1, fun n hn => (g n hn).2.1, fun n hn => (g n hn).2.2⟩
def neB_ (x : Str) (K : PySem.W.Frag) : Bool := decO (PySem.W.findIn K (.ref (He.ga K x)) "__ne__") (some (some (.builtin "object.__ne__"))) && decide (PySem.W.mroIn K (He.ga K x) (.type "object") = some true)
theorem neB_ok {x : Str} {K : PySem.W.Frag} (h : neB_ x K = true) : NeOf K (He.ga K x) := by
  obtain ⟨h1, h2⟩ := He.ba h
  exact ⟨of_decide_eq_true h1, of_decide_eq_true h2⟩
end Tr

/-! # The head's facts on own exceptions (wants A14). -/
namespace Tr
open PySem PySem.Spec PyProof.Rows L2
def cellB (K : PySem.W.Frag) (cc C : Addr) : Bool := match K.lookup cc with
  | some ⟨_, _, .cell (some v), _⟩ => decide (v = .ref C)
  | _ => false
theorem cellB_ok {K : PySem.W.Frag} {cc C : Addr} (h : cellB K cc C = true) : ∃ cl cld csl, K.lookup cc = some ⟨cl, cld, .cell (some (.ref C)), csl⟩ := by
  unfold cellB at h
  split at h
  · rename_i a b v d e
    have := of_decide_eq_true h
    subst this
    exact ⟨_, _, _, e⟩
  · cases h
def fileB (K : PySem.W.Frag) (cdv : Value) : Bool := match cdv with
  | .ref c => (match K.lookup c with
    | some ⟨_, _, .fields vs, _⟩ => (match (vs[2]? : Option Value) with
      | some (Value.str n _) => n == ("/claim/cut.py" : Str)
      | _ => false)
    | _ => false)
  | _ => false
theorem fileB_ok {K : PySem.W.Frag} {cdv : Value} (h : fileB K cdv = true) : ∃ cda ccl cdd ccs, ∃ (vs : Array Value) (tf : Tok), cdv = .ref cda ∧ K.lookup cda = some ⟨ccl, cdd, .fields vs, ccs⟩ ∧ vs[2]? = some (.str "/claim/cut.py" tf) := by
  unfold fileB at h
  split at h
  · split at h
    · split at h
      · rename_i c a b vs d e x n t e2
        have := eq_of_beq h
        subst this
        exact ⟨_, _, _, _, _, _, rfl, e, e2⟩
      · cases h
    · cases h
  · cases h
def closB (K : PySem.W.Frag) (C : Addr) : List (Str × Addr) → Bool
  | [(_, cc)] => cellB K cc C
  | _ => false
def exnFnB (K : PySem.W.Frag) (f C : Addr) : Bool := match K.lookup f with
  | some ⟨_, _, .func fd, _⟩ => closB K C fd.closure && fileB K fd.code
  | _ => false
/-- a def with the cell of __class__ -/
theorem DefX.funC {K : PySem.W.Frag} {d : DefX} {C : Addr} (hc : d.clo = [("__class__" : Str)]) (hd : d.dfl = []) (e : fnX K (d.at_ K) = d.val) (c : d.ok K = true) (h : exnFnB K (d.at_ K) C = true) :
    ∃ (cc cda : Addr) (kV doc pm ct oc ccl cl : Value) (an od cdd cld : Option Addr) (osl ccs csl : Array (Option Value)) (vs : Array Value) (tf : Tok),
      K.lookup (d.at_ K) = some ⟨oc, od, .func (PySem.W.fnX d.name d.qual d.params d.body d.scope [("__class__", cc)] .none kV doc pm an (.ref cda) ct), osl⟩ ∧ PySem.W.codeIn K (.ref cda) d.qual = true ∧
      K.lookup cda = some ⟨ccl, cdd, .fields vs, ccs⟩ ∧ vs[2]? = some (.str "/claim/cut.py" tf) ∧ K.lookup cc = some ⟨cl, cld, .cell (some (.ref C)), csl⟩ := by
  obtain ⟨kp, c2⟩ := He.ba c
  unfold fnX at e
  unfold exnFnB at h
  cases q : K.lookup (d.at_ K) with
  | none =>
    rw [q] at c2
    cases c2
  | some o =>
    obtain ⟨oc, od, dt, osl⟩ := o
    rw [q] at c2 e h
    cases dt with
    | func fd =>
      obtain ⟨n1, n2, n3, n4, n5, n6, n7, n8, n9, n10, n11, n12, n13, n14, n15⟩ := fd
      have e2 : (some (n1, n2, n3, n4, n5, n6, n7.map fun p => (p.1, 0), n15) : He.FnW) = some (d.name, d.qual, d.params, .stmts d.body, d.scope, mainGlobals, d.clo.map (·, 0), builtinsNs) := e
      rw [hc] at e2
      simp only [Option.some.injEq, Prod.mk.injEq] at e2
      obtain ⟨h1, h2, h3, h4, h5, h6, h7, h8⟩ := e2
      subst h1 h2 h3 h4 h5 h6 h8
      have c3 : (PySem.W.codeIn K n13 d.qual && (He.dflB K n8 (d.dfl.map (He.Dv.v K)) && He.kwdB K n9 (d.kwd.map fun q => (q.1, He.Dv.v K q.2)))) = true := c2
      obtain ⟨k1, k2⟩ := He.ba c3
      obtain ⟨k3, k4⟩ := He.ba k2
      rw [hd] at k3
      obtain rfl : n8 = .none := by
        rcases He.dflB_ok k3 with ⟨_, z⟩ | ⟨z, _⟩
        · exact z
        · exact absurd rfl z
      have h' : (closB K C n7 && fileB K n13) = true := h
      obtain ⟨g1, g2⟩ := He.ba h'
      obtain ⟨cda, ccl, cdd, ccs, vs, tf, rfl, f1, f2⟩ := fileB_ok g2
      match n7, h7, g1 with
      | [(n, cc)], h7, g1 =>
        obtain ⟨cl, cld, csl, f3⟩ := cellB_ok g1
        have : n = "__class__" := by
          have z : [(n, 0)] = [(("__class__" : Str), 0)] := h7
          exact (Prod.mk.inj (List.cons.inj z).1).1
        subst this
        exact ⟨_, _, _, _, _, _, _, _, _, _, _, _, _, _, _, _, _, _, rfl, k1, f1, f2, f3⟩
      | [], h7, g1 => cases g1
      | _ :: _ :: _, h7, g1 => cases g1
    | _ => cases c2
theorem SaysX.defC {fb : List (PySem.W.Frag → Bool)} {fx : List DefX} {K : PySem.W.Frag} {C : Addr} (c : SaysX fb fx K) (i : Nat) {d : DefX} (h : fx[i]? = some d) (hc : d.clo = [("__class__" : Str)]) (hd : d.dfl = []) (hf : exnFnB K (d.at_ K) C = true) :
    ∃ (cc cda : Addr) (kV doc pm ct oc ccl cl : Value) (an od cdd cld : Option Addr) (osl ccs csl : Array (Option Value)) (vs : Array Value) (tf : Tok),
      K.lookup (d.at_ K) = some ⟨oc, od, .func (PySem.W.fnX d.name d.qual d.params d.body d.scope [("__class__", cc)] .none kV doc pm an (.ref cda) ct), osl⟩ ∧ PySem.W.codeIn K (.ref cda) d.qual = true ∧
      K.lookup cda = some ⟨ccl, cdd, .fields vs, ccs⟩ ∧ vs[2]? = some (.str "/claim/cut.py" tf) ∧ K.lookup cc = some ⟨cl, cld, .cell (some (.ref C)), csl⟩ := by
  have c2 := (He.ba (show ((fb.all fun f => f K) && fx.all fun d => d.ok K) = true from congrArg (fun z : AlX => z.1) c)).2
  have e : fx.map (fun d => fnX K (d.at_ K)) = fx.map DefX.val := congrArg (fun z : AlX => z.2) c
  have e2 : (fx.map fun d => fnX K (d.at_ K))[i]? = (fx.map DefX.val)[i]? := by rw [e]
  rw [List.getElem?_map, List.getElem?_map, h] at e2
  exact DefX.funC hc hd (Option.some.inj e2) (List.all_eq_true.mp c2 d (List.mem_of_getElem? h)) hf
/-- the class -/
def oexB (K : PySem.W.Frag) (C : Addr) : Bool := (match K.lookup C with
  | some ⟨.type "type", _, .cls cd, sl⟩ => (match cd.mro, sl.toList with
    | .ref C' :: bm, [_, _, _, _, some (.builtin n), _] => C' == C && n == "ValueError.__new__" && !cd.hasDel && cd.hasDict && PySem.HandSPX.refsVE bm
    | _, _ => false)
  | _ => false) && (decO (PySem.W.findIn K (.ref C) "__setattr__") (some (some (.builtin "object.__setattr__"))) && (decide (PySem.W.subIn K (.ref C) (.type "BaseException") = some true) && (decide (PySem.W.typeIn K (.ref C) = some (.type "type")) && PySem.W.keepIn K (.ref C))))
theorem oexB_ok {K : PySem.W.Frag} {C : Addr} (h : oexB K C = true) : OexC K C := by
  obtain ⟨q, h⟩ := He.ba h
  obtain ⟨h1, h⟩ := He.ba h
  obtain ⟨h2, h⟩ := He.ba h
  obtain ⟨h3, h4⟩ := He.ba h
  refine ⟨?_, of_decide_eq_true h1, of_decide_eq_true h2, of_decide_eq_true h3, h4⟩
  split at q
  · rename_i dd cd sl ho
    split at q
    · rename_i C' bm k0 k1 k2 k3 n k5 hm hs
      simp only [Bool.and_eq_true, beq_iff_eq, Bool.not_eq_true'] at q
      obtain ⟨⟨⟨⟨rfl, rfl⟩, hdel⟩, hdc⟩, ht⟩ := q
      obtain ⟨nm, bs, mro, ns, qn, hd, sn, sub, ab, col, del⟩ := cd
      dsimp only at hm hdel hdc
      subst hm hdel hdc
      have hsl : sl = #[k0, k1, k2, k3, some (.builtin "ValueError.__new__"), k5] := by
        obtain ⟨l⟩ := sl
        simp only at hs
        rw [hs]
      subst hsl
      exact ⟨nm, qn, ns, bs, bm, sn, sub, ab, col, dd, k0, k1, k2, k3, k5, ho, ht⟩
    · cases q
  · cases q
def exnB (x : Str) (fs : List Str) (K : PySem.W.Frag) : Bool :=
  oexB K (He.ga K x) && (decO (PySem.W.findIn K (.ref (He.ga K x)) "__init__") (some (some (.ref (He.ma K (He.ga K x) "__init__")))) && (decide (PySem.W.typeIn K (.ref (He.ma K (He.ga K x) "__init__")) = some (.type "function")) && (exnFnB K (He.ma K (He.ga K x) "__init__") (He.ga K x) &&
    (decO (PySem.W.nsIn K cStatics "thirdparty.any") (some none) && (decO (PySem.W.ks_superIn K (He.ga K x) (He.ga K x) "__init__") (some (some (.builtin "ValueError.__init__"))) && (decide (PySem.W.mroIn K (He.ga K x) (.ref (He.ga K x)) = some true) &&
      (decide (PySem.W.subIn K (.ref (He.ga K x)) (.type "ValueError") = some true) && (xfB K (He.ga K x) && fs.all fun f => decO (PySem.W.findIn K (.ref (He.ga K x)) f) (some none)))))))))
theorem exnB_ok {fb : List (PySem.W.Frag → Bool)} {fx : List DefX} {K : PySem.W.Frag} {mg : Str → Option Value} {x qual : Str} {st : Stmt} {fs : List Str} (h : exnB x fs K = true) (g : mg x = some (.ref (He.ga K x))) (u : mg "super" = none) (c : SaysX fb fx K) (i : Nat)
    (hi : fx[i]? = some ⟨fun K => He.ma K (He.ga K x) "__init__", "__init__", qual, defArgs st, defBody st, defScope st, [], ["__class__"], []⟩) : Exn K mg x (He.ga K x) qual st fs := by
  obtain ⟨h1, h⟩ := He.ba h
  obtain ⟨h2, h⟩ := He.ba h
  obtain ⟨h3, h⟩ := He.ba h
  obtain ⟨h4, h⟩ := He.ba h
  obtain ⟨h5, h⟩ := He.ba h
  obtain ⟨h6, h⟩ := He.ba h
  obtain ⟨h7, h⟩ := He.ba h
  obtain ⟨h8, h⟩ := He.ba h
  obtain ⟨hx, h9⟩ := He.ba h
  obtain ⟨cc, cda, kV, doc, pm, ct, oc, ccl, cl, an, od, cdd, cld, osl, ccs, csl, vs, tf, e1, e2, e3, e4, e5⟩ := SaysX.defC c i hi rfl rfl h4
  exact ⟨oexB_ok h1, g, u, ⟨_, cc, cda, kV, doc, pm, ct, oc, ccl, cl, an, od, cdd, cld, osl, ccs, csl, vs, tf, of_decide_eq_true h2, of_decide_eq_true h3, e1, e2, e3, e4, e5⟩, of_decide_eq_true h5, of_decide_eq_true h6, of_decide_eq_true h7, of_decide_eq_true h8,
    fun f hf => of_decide_eq_true (List.all_eq_true.mp h9 f hf), xfB_ok hx⟩
end Tr

/-! # The head of a law that makes lambdas: its code object, the table of it (wants Y0). -/
namespace Tr
open PySem PySem.Spec PyProof.Rows L2
/-- the law's code object, its table -/
def lawC (K : PySem.W.Frag) : Addr := match K.lookup (He.ga K "law") with
  | some ⟨_, _, .func fd, _⟩ => (match fd.code with | .ref c => c | _ => 0)
  | _ => 0
def lawT (K : PySem.W.Frag) : Addr := match K.lookup (lawC K) with
  | some ⟨_, _, .fields vs, _⟩ => (match (vs[11]? : Option Value) with | some (.ref a) => a | _ => 0)
  | _ => 0
/-- the part without the table -/
def dropT (K : PySem.W.Frag) : PySem.W.Frag := K.filter fun p => p.1 != lawT K
def emptyB (K : PySem.W.Frag) (t : Addr) : Bool := match K.lookup t with
  | some ⟨.none, none, .fields vs, sl⟩ => vs.toList.isEmpty && sl.toList.isEmpty
  | _ => false
def ownB (K : PySem.W.Frag) (f c : Addr) : Bool := match K.lookup f with
  | some ⟨_, _, .func fd, _⟩ => (match fd.code with | .ref d => d == c | _ => false)
  | _ => false
def tabB (K : PySem.W.Frag) : Bool := PySem.W.codeHdIn K (lawC K) (lawT K) && (emptyB K (lawT K) && ownB (dropT K) (He.ga (dropT K) "law") (lawC K))
theorem lookup_filter {K : PySem.W.Frag} {a t : Addr} : (K.filter fun p => p.1 != t).lookup a = if a = t then none else K.lookup a := by
  induction K with
  | nil => split <;> rfl
  | cons p r ih =>
    obtain ⟨b, o⟩ := p
    by_cases hb : b = t
    · rw [List.filter_cons, if_neg (by simp [hb]), ih]
      by_cases ha : a = t
      · rw [if_pos ha, if_pos ha]
      · rw [if_neg ha, if_neg ha, List.lookup_cons]
        rw [beq_false_of_ne (fun e => ha (e.trans hb))]
    · rw [List.filter_cons, if_pos (by simp [hb]), List.lookup_cons, List.lookup_cons, ih]
      by_cases ha : a = b
      · subst ha
        simp [hb]
      · rw [beq_false_of_ne ha]
theorem dropT_in {K : PySem.W.Frag} {h : Heap} (X : K.In h) : (dropT K).In h := fun a o e => by
  unfold dropT at e
  rw [lookup_filter] at e
  split at e
  · cases e
  · exact X a o e
theorem dropT_no {K : PySem.W.Frag} : (dropT K).lookup (lawT K) = none := by
  unfold dropT
  rw [lookup_filter, if_pos rfl]
theorem emptyB_ok {K : PySem.W.Frag} {t : Addr} {h : Heap} (X : K.In h) (e : emptyB K t = true) : h.get? t = some { cls := .none, data := .fields #[] } := by
  unfold emptyB at e
  split at e
  · rename_i vs sl q
    obtain ⟨e1, e2⟩ := He.ba e
    have h1 : vs = #[] := by
      cases vs with
      | mk l => cases l with
        | nil => rfl
        | cons _ _ => cases e1
    have h2 : sl = #[] := by
      cases sl with
      | mk l => cases l with
        | nil => rfl
        | cons _ _ => cases e2
    subst h1 h2
    exact X _ _ q
  · cases e
theorem ownB_ok {K : PySem.W.Frag} {x qual : Str} {st : Stmt} {f c : Addr} {fd : FuncData} (F : Fun K x qual st f fd) (e : ownB K f c = true) : fd.code = .ref c := by
  obtain ⟨oc, od, kV, doc, pm, an, cdv, ct, osl, rfl, lk, _⟩ := F.ex
  unfold ownB at e
  rw [lk] at e
  cases cdv with
  | ref d =>
    have e2 : (d == c) = true := e
    exact congrArg Value.ref (eq_of_beq e2)
  | _ => cases e
def obsT (fb : List (PySem.W.Frag → Bool)) (fx : List DefX) (K : PySem.W.Frag) : AlX := (tabB K && (obsX fb fx (dropT K)).1, (obsX fb fx (dropT K)).2)
def SaysT (fb : List (PySem.W.Frag → Bool)) (fx : List DefX) (K : PySem.W.Frag) : Prop := obsT fb fx K = valX fx
theorem SaysT.tab {fb : List (PySem.W.Frag → Bool)} {fx : List DefX} {K : PySem.W.Frag} (c : SaysT fb fx K) : tabB K = true := (He.ba (show (tabB K && (obsX fb fx (dropT K)).1) = true from congrArg (fun z : AlX => z.1) c)).1
theorem SaysT.x {fb : List (PySem.W.Frag → Bool)} {fx : List DefX} {K : PySem.W.Frag} (c : SaysT fb fx K) : SaysX fb fx (dropT K) := by
  have h1 := (He.ba (show (tabB K && (obsX fb fx (dropT K)).1) = true from congrArg (fun z : AlX => z.1) c)).2
  have c' : obsT fb fx K = valX fx := c
  have h3 : (obsT fb fx K).2 = (valX fx).2 := by rw [c']
  have h2 : (obsX fb fx (dropT K)).2 = (valX fx).2 := h3
  show obsX fb fx (dropT K) = valX fx
  rw [← Prod.eta (obsX fb fx (dropT K)), h1, h2]
  rfl
def obsTG (n : Nat) (fb : List (PySem.W.Frag → Bool)) (fx : List DefX) (g : Addr → Option Obj) : AlX := obsT fb fx (He.frG g (asX g n))
def hookT (n : Nat) (fb : List (PySem.W.Frag → Bool)) (fx : List DefX) : PySem.W.Hook where
  α := AlX
  obs := fun s => obsTG n fb fx s.heap.get?
  val := fun _ => valX fx
  says := fun _ h => ∃ K : PySem.W.Frag, K.In h ∧ SaysT fb fx K
  of := fun _ _ e => ⟨_, He.frG_in, e⟩
  keeps := fun _ _ _ ⟨K, hK, c⟩ k => ⟨K, PySem.W.Frag.In.keeps hK k, c⟩
theorem obsTG_eq {n : Nat} {fb : List (PySem.W.Frag → Bool)} {fx : List DefX} {g : Addr → Option Obj} {s : Shared} (h : ∀ a, g a = s.heap.get? a) : obsTG n fb fx g = (hookT n fb fx).obs s := by
  have e : g = s.heap.get? := funext h
  rw [e] <;> rfl
/-- the same, over addresses that are written out: c the code object, t its table; the part K has no table -/
def tabB2 (K0 K : PySem.W.Frag) (c t : Addr) : Bool := PySem.W.codeHdIn K0 c t && (emptyB K0 t && (ownB K (He.ga K "law") c && (K.lookup t).isNone))
def obsT2 (as : List Addr) (c t : Addr) (fb : List (PySem.W.Frag → Bool)) (fx : List DefX) (g : Addr → Option Obj) : AlX := (tabB2 (He.frG g (t :: as)) (He.frG g as) c t && (obsX fb fx (He.frG g as)).1, (obsX fb fx (He.frG g as)).2)
def SaysT2 (c t : Addr) (fb : List (PySem.W.Frag → Bool)) (fx : List DefX) (K0 K : PySem.W.Frag) : Prop := tabB2 K0 K c t = true ∧ SaysX fb fx K
theorem SaysT2.of {c t : Addr} {fb : List (PySem.W.Frag → Bool)} {fx : List DefX} {K0 K : PySem.W.Frag} (e : (tabB2 K0 K c t && (obsX fb fx K).1, (obsX fb fx K).2) = valX fx) : SaysT2 c t fb fx K0 K := by
  obtain ⟨h0, h1⟩ := He.ba (show (tabB2 K0 K c t && (obsX fb fx K).1) = true from congrArg (fun z : AlX => z.1) e)
  have h3 : ((tabB2 K0 K c t && (obsX fb fx K).1, (obsX fb fx K).2) : AlX).2 = (valX fx).2 := by rw [e]
  have h2 : (obsX fb fx K).2 = (valX fx).2 := h3
  refine ⟨h0, ?_⟩
  show obsX fb fx K = valX fx
  rw [← Prod.eta (obsX fb fx K), h1, h2]
  rfl
def hookT2 (as : List Addr) (c t : Addr) (fb : List (PySem.W.Frag → Bool)) (fx : List DefX) : PySem.W.Hook where
  α := AlX
  obs := fun s => obsT2 as c t fb fx s.heap.get?
  val := fun _ => valX fx
  says := fun _ h => ∃ K0 K : PySem.W.Frag, K0.In h ∧ K.In h ∧ SaysT2 c t fb fx K0 K
  of := fun _ _ e => ⟨_, _, He.frG_in, He.frG_in, SaysT2.of e⟩
  keeps := fun _ _ _ ⟨K0, K, h0, h1, c⟩ k => ⟨K0, K, PySem.W.Frag.In.keeps h0 k, PySem.W.Frag.In.keeps h1 k, c⟩
theorem obsT2_eq {as : List Addr} {c t : Addr} {fb : List (PySem.W.Frag → Bool)} {fx : List DefX} {g : Addr → Option Obj} {s : Shared} (h : ∀ a, g a = s.heap.get? a) : obsT2 as c t fb fx g = (hookT2 as c t fb fx).obs s := by
  have e : g = s.heap.get? := funext h
  rw [e] <;> rfl
theorem map2 {α β : Type} {o : Option α} {f : α → Bool × β} {x : Bool} {y : β} (a : o.map (fun s => (f s).1) = some x) (b : o.map (fun s => (f s).2) = some y) : o.map (fun s => f s) = some (x, y) := by
  cases o with
  | none => cases a
  | some s =>
    have a := Option.some.inj a
    have b := Option.some.inj b
    show some (f s) = _
    rw [← a, ← b]
end Tr

/-! # The head of a law with two makers of lambdas (wants Y0t). -/
namespace Tr
open PySem PySem.Spec PyProof.Rows L2
def mkC (x : Str) (K : PySem.W.Frag) : Addr := match K.lookup (He.ga K x) with
  | some ⟨_, _, .func fd, _⟩ => (match fd.code with | .ref c => c | _ => 0)
  | _ => 0
def mkT (x : Str) (K : PySem.W.Frag) : Addr := match K.lookup (mkC x K) with
  | some ⟨_, _, .fields vs, _⟩ => (match (vs[11]? : Option Value) with | some (.ref a) => a | _ => 0)
  | _ => 0
/-- two code objects and their tables, written out; the part K has neither table -/
def tabB3 (K0 K : PySem.W.Frag) (c t c2 t2 : Addr) : Bool := PySem.W.codeHdIn K0 c t && (emptyB K0 t && (PySem.W.codeHdIn K0 c2 t2 && (emptyB K0 t2 && (ownB K (He.ga K "law") c && (ownB K (He.ga K "_law_strangers") c2 && ((K.lookup t).isNone && (K.lookup t2).isNone))))))
def obsT3 (as : List Addr) (c t c2 t2 : Addr) (fb : List (PySem.W.Frag → Bool)) (fx : List DefX) (g : Addr → Option Obj) : AlX := (tabB3 (He.frG g (t :: t2 :: as)) (He.frG g as) c t c2 t2 && (obsX fb fx (He.frG g as)).1, (obsX fb fx (He.frG g as)).2)
def SaysT3 (c t c2 t2 : Addr) (fb : List (PySem.W.Frag → Bool)) (fx : List DefX) (K0 K : PySem.W.Frag) : Prop := tabB3 K0 K c t c2 t2 = true ∧ SaysX fb fx K
theorem SaysT3.of {c t c2 t2 : Addr} {fb : List (PySem.W.Frag → Bool)} {fx : List DefX} {K0 K : PySem.W.Frag} (e : (tabB3 K0 K c t c2 t2 && (obsX fb fx K).1, (obsX fb fx K).2) = valX fx) : SaysT3 c t c2 t2 fb fx K0 K := by
  obtain ⟨h0, h1⟩ := He.ba (show (tabB3 K0 K c t c2 t2 && (obsX fb fx K).1) = true from congrArg (fun z : AlX => z.1) e)
  have h3 : ((tabB3 K0 K c t c2 t2 && (obsX fb fx K).1, (obsX fb fx K).2) : AlX).2 = (valX fx).2 := by rw [e]
  have h2 : (obsX fb fx K).2 = (valX fx).2 := h3
  refine ⟨h0, ?_⟩
  show obsX fb fx K = valX fx
  rw [← Prod.eta (obsX fb fx K), h1, h2]
  rfl
def hookT3 (as : List Addr) (c t c2 t2 : Addr) (fb : List (PySem.W.Frag → Bool)) (fx : List DefX) : PySem.W.Hook where
  α := AlX
  obs := fun s => obsT3 as c t c2 t2 fb fx s.heap.get?
  val := fun _ => valX fx
  says := fun _ h => ∃ K0 K : PySem.W.Frag, K0.In h ∧ K.In h ∧ SaysT3 c t c2 t2 fb fx K0 K
  of := fun _ _ e => ⟨_, _, He.frG_in, He.frG_in, SaysT3.of e⟩
  keeps := fun _ _ _ ⟨K0, K, h0, h1, c⟩ k => ⟨K0, K, PySem.W.Frag.In.keeps h0 k, PySem.W.Frag.In.keeps h1 k, c⟩
theorem obsT3_eq {as : List Addr} {c t c2 t2 : Addr} {fb : List (PySem.W.Frag → Bool)} {fx : List DefX} {g : Addr → Option Obj} {s : Shared} (h : ∀ a, g a = s.heap.get? a) : obsT3 as c t c2 t2 fb fx g = (hookT3 as c t c2 t2 fb fx).obs s := by
  have e : g = s.heap.get? := funext h
  rw [e] <;> rfl
end Tr

/-! ### what the top has left -/
namespace Tr
open PySem PySem.Spec PyProof.Rows L2
def fb : List (PySem.W.Frag → Bool) := [
  (fun K => (He.Fa.noat "Row" "key").ok K),
  (fun K => (He.Fa.noat "Row" "steps").ok K),
  (fun K => (He.Fa.noat "Row" "turns").ok K),
  (fun K => (He.Fa.noat "Turns" "names").ok K),
  (fun K => (He.Fa.noat "Turns" "pairs").ok K),
  (fun K => (He.Fa.noat "Turns" "periods").ok K),
  (fun K => (He.Fa.noat "Turns" "ranks").ok K),
  (fun K => (He.Fa.free "abs").ok K),
  (fun K => (He.Fa.free "all").ok K),
  (fun K => (He.Fa.free "bool").ok K),
  (fun K => (He.Fa.free "int").ok K),
  (fun K => (He.Fa.free "isinstance").ok K),
  (fun K => (He.Fa.free "len").ok K),
  (fun K => (He.Fa.free "list").ok K),
  (fun K => (He.Fa.free "min").ok K),
  (fun K => (He.Fa.free "range").ok K),
  (fun K => (He.Fa.free "str").ok K),
  (fun K => (He.Fa.free "tuple").ok K),
  (fun K => (He.Fa.str "DIGITS" "0123456789").ok K),
  (fun K => (He.Fa.str "LETTERS" "abcdefghijklmnopqrstuvwxyz").ok K),
  (fun K => (He.Fa.int "LONGEST_NAME" 12).ok K),
  (fun K => (He.Fa.glo "_law_bag").ok K),
  (fun K => (He.Fa.glo "_law_draw").ok K),
  (fun K => (He.Fa.glo "_law_due").ok K),
  (fun K => (He.Fa.glo "_law_ident").ok K),
  (fun K => (He.Fa.glo "_law_is_name").ok K),
  (fun K => (He.Fa.glo "_law_spoiled").ok K),
  (fun K => (He.Fa.glo "_law_strangers").ok K),
  (fun K => (He.Fa.glo "_law_told").ok K),
  (fun K => (He.Fa.glo "is_name").ok K),
  (fun K => (He.Fa.glo "is_whole").ok K),
  (fun K => (He.Fa.glo "normal_steps").ok K),
  (fun K => (He.Fa.glo "reduced").ok K),
  (fun K => (He.Fa.glo "step_key").ok K),
  (fun K => (He.Fa.mkr "Row").ok K),
  (fun K => (He.Fa.glo "Row").ok K),
  (empB (He.dflAt ("Row", some "__init__") 0)),
  (getOB "Turns"),
  (fun K => (He.Fa.mkr "Turns").ok K),
  (fun K => (He.Fa.glo "Turns").ok K),
  (fun K => (He.Fa.cls "Row").ok K),
  (fun K => (He.Fa.cls "Turns").ok K),
  (kindB "Turns"),
  (fun K => (He.Fa.meth "Turns" "__contains__").ok K),
  (fun K => (He.Fa.meth "Turns" "__eq__").ok K),
  (fun K => (He.Fa.meth "Turns" "__getitem__").ok K),
  (fun K => (He.Fa.meth "Turns" "__len__").ok K),
  (fun K => (He.Fa.meth "Turns" "period_of").ok K),
  (fun K => (He.Fa.meth "Turns" "rank").ok K),
  (neB_ "Turns"),
  (isoB "BadName"),
  (isoB "BadPeriod"),
  (isoB "NoTurn"),
  (isoB "NoTurns"),
  (isoB "TooMany"),
  (isoB "Turns"),
  (isoB "TwiceNamed"),
  (propB "Turns" "still"),
  (cconB "Turns" "MOST" (.int 8)),
  (fun K => (He.Fa.glo "BadName").ok K),
  (fun K => (He.Fa.glo "BadPeriod").ok K),
  (fun K => (He.Fa.glo "NoTurn").ok K),
  (fun K => (He.Fa.glo "NoTurns").ok K),
  (fun K => (He.Fa.glo "TooMany").ok K),
  (fun K => (He.Fa.glo "TurnError").ok K),
  (fun K => (He.Fa.glo "TwiceNamed").ok K),
  (exnB "BadName" ["name"]),
  (fun K => (He.Fa.free "super").ok K),
  (exnB "BadPeriod" ["period"]),
  (exnB "NoTurn" ["name"]),
  (exnB "NoTurns" []),
  (exnB "TooMany" ["what", "many", "most"]),
  (exnB "TwiceNamed" ["name"]),
  (errTabB ["BadName", "TwiceNamed", "BadPeriod", "NoTurns", "TooMany", "NoTurn"] "TurnError"),
  (fun K => (He.Fa.glo "law").ok K)]
def fx : List DefX := [
  ⟨fun K => He.ga K "_law_bag", "_law_bag", "_law_bag", defArgs s__law_bag, defBody s__law_bag, defScope s__law_bag, [], [], []⟩,
  ⟨fun K => He.ga K "_law_draw", "_law_draw", "_law_draw", defArgs s__law_draw, defBody s__law_draw, defScope s__law_draw, [], [], []⟩,
  ⟨fun K => He.ga K "_law_due", "_law_due", "_law_due", defArgs s__law_due, defBody s__law_due, defScope s__law_due, [], [], []⟩,
  ⟨fun K => He.ga K "_law_ident", "_law_ident", "_law_ident", defArgs s__law_ident, defBody s__law_ident, defScope s__law_ident, [], [], []⟩,
  ⟨fun K => He.ga K "_law_is_name", "_law_is_name", "_law_is_name", defArgs s__law_is_name, defBody s__law_is_name, defScope s__law_is_name, [], [], []⟩,
  ⟨fun K => He.ga K "_law_spoiled", "_law_spoiled", "_law_spoiled", defArgs s__law_spoiled, defBody s__law_spoiled, defScope s__law_spoiled, [], [], []⟩,
  ⟨fun K => He.ga K "_law_strangers", "_law_strangers", "_law_strangers", defArgs s__law_strangers, defBody s__law_strangers, defScope s__law_strangers, [], [], []⟩,
  ⟨fun K => He.ga K "_law_told", "_law_told", "_law_told", defArgs s__law_told, defBody s__law_told, defScope s__law_told, [], [], []⟩,
  ⟨fun K => He.ga K "is_name", "is_name", "is_name", defArgs s_is_name, defBody s_is_name, defScope s_is_name, [], [], []⟩,
  ⟨fun K => He.ga K "is_whole", "is_whole", "is_whole", defArgs s_is_whole, defBody s_is_whole, defScope s_is_whole, [], [], []⟩,
  ⟨fun K => He.ga K "normal_steps", "normal_steps", "normal_steps", defArgs s_normal_steps, defBody s_normal_steps, defScope s_normal_steps, [], [], []⟩,
  ⟨fun K => He.ga K "reduced", "reduced", "reduced", defArgs s_reduced, defBody s_reduced, defScope s_reduced, [], [], []⟩,
  ⟨fun K => He.ga K "step_key", "step_key", "step_key", defArgs s_step_key, defBody s_step_key, defScope s_step_key, [], [], []⟩,
  ⟨fun K => He.ma K (He.ga K "Row") "__init__", "__init__", "Row.__init__", defArgs s_Row___init__, defBody s_Row___init__, defScope s_Row___init__, [.adr (He.dflAt ("Row", some "__init__") 0)], [], []⟩,
  ⟨fun K => He.ma K (He.ga K "Row") "__init__", "__init__", "Row.__init__", defArgs s_Row___init__, defBody s_Row___init__, defScope s_Row___init__, [.adr (He.dflAt ("Row", some "__init__") 0)], [], []⟩,
  ⟨fun K => He.ma K (He.ga K "Turns") "__init__", "__init__", "Turns.__init__", defArgs s_Turns___init__, defBody s_Turns___init__, defScope s_Turns___init__, [], [], []⟩,
  ⟨fun K => He.ma K (He.ga K "Turns") "__contains__", "__contains__", "Turns.__contains__", defArgs s_Turns___contains__, defBody s_Turns___contains__, defScope s_Turns___contains__, [], [], []⟩,
  ⟨fun K => He.ma K (He.ga K "Turns") "__eq__", "__eq__", "Turns.__eq__", defArgs s_Turns___eq__, defBody s_Turns___eq__, defScope s_Turns___eq__, [], [], []⟩,
  ⟨fun K => He.ma K (He.ga K "Turns") "__getitem__", "__getitem__", "Turns.__getitem__", defArgs s_Turns___getitem__, defBody s_Turns___getitem__, defScope s_Turns___getitem__, [], [], []⟩,
  ⟨fun K => He.ma K (He.ga K "Turns") "__len__", "__len__", "Turns.__len__", defArgs s_Turns___len__, defBody s_Turns___len__, defScope s_Turns___len__, [], [], []⟩,
  ⟨fun K => He.ma K (He.ga K "Turns") "period_of", "period_of", "Turns.period_of", defArgs s_Turns_period_of, defBody s_Turns_period_of, defScope s_Turns_period_of, [], [], []⟩,
  ⟨fun K => He.ma K (He.ga K "Turns") "rank", "rank", "Turns.rank", defArgs s_Turns_rank, defBody s_Turns_rank, defScope s_Turns_rank, [], [], []⟩,
  ⟨fun K => gof "property" K (He.ma K (He.ga K "Turns") "still"), "still", "Turns.still", defArgs s_Turns_still, defBody s_Turns_still, defScope s_Turns_still, [], [], []⟩,
  ⟨fun K => He.ma K (He.ga K "BadName") "__init__", "__init__", "BadName.__init__", defArgs s_BadName___init__, defBody s_BadName___init__, defScope s_BadName___init__, [], ["__class__"], []⟩,
  ⟨fun K => He.ma K (He.ga K "BadPeriod") "__init__", "__init__", "BadPeriod.__init__", defArgs s_BadPeriod___init__, defBody s_BadPeriod___init__, defScope s_BadPeriod___init__, [], ["__class__"], []⟩,
  ⟨fun K => He.ma K (He.ga K "NoTurn") "__init__", "__init__", "NoTurn.__init__", defArgs s_NoTurn___init__, defBody s_NoTurn___init__, defScope s_NoTurn___init__, [], ["__class__"], []⟩,
  ⟨fun K => He.ma K (He.ga K "NoTurns") "__init__", "__init__", "NoTurns.__init__", defArgs s_NoTurns___init__, defBody s_NoTurns___init__, defScope s_NoTurns___init__, [], ["__class__"], []⟩,
  ⟨fun K => He.ma K (He.ga K "TooMany") "__init__", "__init__", "TooMany.__init__", defArgs s_TooMany___init__, defBody s_TooMany___init__, defScope s_TooMany___init__, [], ["__class__"], []⟩,
  ⟨fun K => He.ma K (He.ga K "TwiceNamed") "__init__", "__init__", "TwiceNamed.__init__", defArgs s_TwiceNamed___init__, defBody s_TwiceNamed___init__, defScope s_TwiceNamed___init__, [], ["__class__"], []⟩,
  ⟨fun K => He.ga K "law", "law", "law", defArgs s_law, defBody s_law, defScope s_law, [], [], []⟩]
def d0 : DefX := ⟨fun _ => 0, "law", "law", ⟨[], [], none, [], [], none, []⟩, [], ⟨.function, [], false, false, []⟩, [], [], []⟩
theorem txt_of {K : PySem.W.Frag} {h : Heap} {mg : Str → Option Value} (X : K.In h) (G : h.Ns mainGlobals mg) (c : SaysX fb fx K) : Txt K mg where
  a_Row__key := He.noat_ok (c.fact 0 (f := (fun K => (He.Fa.noat "Row" "key").ok K)) rfl)
  a_Row__steps := He.noat_ok (c.fact 1 (f := (fun K => (He.Fa.noat "Row" "steps").ok K)) rfl)
  a_Row__turns := He.noat_ok (c.fact 2 (f := (fun K => (He.Fa.noat "Row" "turns").ok K)) rfl)
  a_Turns__names := He.noat_ok (c.fact 3 (f := (fun K => (He.Fa.noat "Turns" "names").ok K)) rfl)
  a_Turns__pairs := He.noat_ok (c.fact 4 (f := (fun K => (He.Fa.noat "Turns" "pairs").ok K)) rfl)
  a_Turns__periods := He.noat_ok (c.fact 5 (f := (fun K => (He.Fa.noat "Turns" "periods").ok K)) rfl)
  a_Turns__ranks := He.noat_ok (c.fact 6 (f := (fun K => (He.Fa.noat "Turns" "ranks").ok K)) rfl)
  b_abs := He.free_ok X G (c.fact 7 (f := (fun K => (He.Fa.free "abs").ok K)) rfl)
  b_all := He.free_ok X G (c.fact 8 (f := (fun K => (He.Fa.free "all").ok K)) rfl)
  b_bool := He.free_ok X G (c.fact 9 (f := (fun K => (He.Fa.free "bool").ok K)) rfl)
  b_int := He.free_ok X G (c.fact 10 (f := (fun K => (He.Fa.free "int").ok K)) rfl)
  b_isinstance := He.free_ok X G (c.fact 11 (f := (fun K => (He.Fa.free "isinstance").ok K)) rfl)
  b_len := He.free_ok X G (c.fact 12 (f := (fun K => (He.Fa.free "len").ok K)) rfl)
  b_list := He.free_ok X G (c.fact 13 (f := (fun K => (He.Fa.free "list").ok K)) rfl)
  b_min := He.free_ok X G (c.fact 14 (f := (fun K => (He.Fa.free "min").ok K)) rfl)
  b_range := He.free_ok X G (c.fact 15 (f := (fun K => (He.Fa.free "range").ok K)) rfl)
  b_str := He.free_ok X G (c.fact 16 (f := (fun K => (He.Fa.free "str").ok K)) rfl)
  b_tuple := He.free_ok X G (c.fact 17 (f := (fun K => (He.Fa.free "tuple").ok K)) rfl)
  c_DIGITS := gconS (He.str_ok X G (c.fact 18 (f := (fun K => (He.Fa.str "DIGITS" "0123456789").ok K)) rfl))
  c_LETTERS := gconS (He.str_ok X G (c.fact 19 (f := (fun K => (He.Fa.str "LETTERS" "abcdefghijklmnopqrstuvwxyz").ok K)) rfl))
  c_LONGEST_NAME := gconI (He.int_ok X G (c.fact 20 (f := (fun K => (He.Fa.int "LONGEST_NAME" 12).ok K)) rfl))
  d__law_bag := let ⟨fd, F⟩ := c.def_ 0 (d := fx.getD 0 d0) rfl; ⟨_, fd, F.fun_, He.glo_ok X G (c.fact 21 (f := (fun K => (He.Fa.glo "_law_bag").ok K)) rfl)⟩
  d__law_draw := let ⟨fd, F⟩ := c.def_ 1 (d := fx.getD 1 d0) rfl; ⟨_, fd, F.fun_, He.glo_ok X G (c.fact 22 (f := (fun K => (He.Fa.glo "_law_draw").ok K)) rfl)⟩
  d__law_due := let ⟨fd, F⟩ := c.def_ 2 (d := fx.getD 2 d0) rfl; ⟨_, fd, F.fun_, He.glo_ok X G (c.fact 23 (f := (fun K => (He.Fa.glo "_law_due").ok K)) rfl)⟩
  d__law_ident := let ⟨fd, F⟩ := c.def_ 3 (d := fx.getD 3 d0) rfl; ⟨_, fd, F.fun_, He.glo_ok X G (c.fact 24 (f := (fun K => (He.Fa.glo "_law_ident").ok K)) rfl)⟩
  d__law_is_name := let ⟨fd, F⟩ := c.def_ 4 (d := fx.getD 4 d0) rfl; ⟨_, fd, F.fun_, He.glo_ok X G (c.fact 25 (f := (fun K => (He.Fa.glo "_law_is_name").ok K)) rfl)⟩
  d__law_spoiled := let ⟨fd, F⟩ := c.def_ 5 (d := fx.getD 5 d0) rfl; ⟨_, fd, F.fun_, He.glo_ok X G (c.fact 26 (f := (fun K => (He.Fa.glo "_law_spoiled").ok K)) rfl)⟩
  d__law_strangers := let ⟨fd, F⟩ := c.def_ 6 (d := fx.getD 6 d0) rfl; ⟨_, fd, F.fun_, He.glo_ok X G (c.fact 27 (f := (fun K => (He.Fa.glo "_law_strangers").ok K)) rfl)⟩
  d__law_told := let ⟨fd, F⟩ := c.def_ 7 (d := fx.getD 7 d0) rfl; ⟨_, fd, F.fun_, He.glo_ok X G (c.fact 28 (f := (fun K => (He.Fa.glo "_law_told").ok K)) rfl)⟩
  d_is_name := let ⟨fd, F⟩ := c.def_ 8 (d := fx.getD 8 d0) rfl; ⟨_, fd, F.fun_, He.glo_ok X G (c.fact 29 (f := (fun K => (He.Fa.glo "is_name").ok K)) rfl)⟩
  d_is_whole := let ⟨fd, F⟩ := c.def_ 9 (d := fx.getD 9 d0) rfl; ⟨_, fd, F.fun_, He.glo_ok X G (c.fact 30 (f := (fun K => (He.Fa.glo "is_whole").ok K)) rfl)⟩
  d_normal_steps := let ⟨fd, F⟩ := c.def_ 10 (d := fx.getD 10 d0) rfl; ⟨_, fd, F.fun_, He.glo_ok X G (c.fact 31 (f := (fun K => (He.Fa.glo "normal_steps").ok K)) rfl)⟩
  d_reduced := let ⟨fd, F⟩ := c.def_ 11 (d := fx.getD 11 d0) rfl; ⟨_, fd, F.fun_, He.glo_ok X G (c.fact 32 (f := (fun K => (He.Fa.glo "reduced").ok K)) rfl)⟩
  d_step_key := let ⟨fd, F⟩ := c.def_ 12 (d := fx.getD 12 d0) rfl; ⟨_, fd, F.fun_, He.glo_ok X G (c.fact 33 (f := (fun K => (He.Fa.glo "step_key").ok K)) rfl)⟩
  e_Row := let ⟨fd, F⟩ := c.def_ 13 (d := fx.getD 13 d0) rfl; ⟨_, fd, _, He.mkr_ok (c.fact 34 (f := (fun K => (He.Fa.mkr "Row").ok K)) rfl), He.glo_ok X G (c.fact 35 (f := (fun K => (He.Fa.glo "Row").ok K)) rfl), F, empB_ok (c.fact 36 (f := (empB (He.dflAt ("Row", some "__init__") 0))) rfl)⟩
  g_Turns := getOB_ok (c.fact 37 (f := (getOB "Turns")) rfl)
  i_Row := let ⟨fd, F⟩ := c.def_ 14 (d := fx.getD 14 d0) rfl; ⟨_, fd, _, He.mkr_ok (c.fact 34 (f := (fun K => (He.Fa.mkr "Row").ok K)) rfl), He.glo_ok X G (c.fact 35 (f := (fun K => (He.Fa.glo "Row").ok K)) rfl), F, rfl⟩
  i_Turns := let ⟨fd, F⟩ := c.def_ 15 (d := fx.getD 15 d0) rfl; ⟨_, fd, _, He.mkr_ok (c.fact 38 (f := (fun K => (He.Fa.mkr "Turns").ok K)) rfl), He.glo_ok X G (c.fact 39 (f := (fun K => (He.Fa.glo "Turns").ok K)) rfl), F, rfl⟩
  k_Row := He.cls_ok (c.fact 40 (f := (fun K => (He.Fa.cls "Row").ok K)) rfl)
  k_Turns := He.cls_ok (c.fact 41 (f := (fun K => (He.Fa.cls "Turns").ok K)) rfl)
  l_Turns := kindB_ok (c.fact 42 (f := (kindB "Turns")) rfl)
  m_Turns____contains__ := let ⟨fd, F⟩ := c.def_ 16 (d := fx.getD 16 d0) rfl; ⟨He.cls_ok (c.fact 41 (f := (fun K => (He.Fa.cls "Turns").ok K)) rfl), _, fd, He.meth_ok (c.fact 43 (f := (fun K => (He.Fa.meth "Turns" "__contains__").ok K)) rfl), F.fun_⟩
  m_Turns____eq__ := let ⟨fd, F⟩ := c.def_ 17 (d := fx.getD 17 d0) rfl; ⟨He.cls_ok (c.fact 41 (f := (fun K => (He.Fa.cls "Turns").ok K)) rfl), _, fd, He.meth_ok (c.fact 44 (f := (fun K => (He.Fa.meth "Turns" "__eq__").ok K)) rfl), F.fun_⟩
  m_Turns____getitem__ := let ⟨fd, F⟩ := c.def_ 18 (d := fx.getD 18 d0) rfl; ⟨He.cls_ok (c.fact 41 (f := (fun K => (He.Fa.cls "Turns").ok K)) rfl), _, fd, He.meth_ok (c.fact 45 (f := (fun K => (He.Fa.meth "Turns" "__getitem__").ok K)) rfl), F.fun_⟩
  m_Turns____len__ := let ⟨fd, F⟩ := c.def_ 19 (d := fx.getD 19 d0) rfl; ⟨He.cls_ok (c.fact 41 (f := (fun K => (He.Fa.cls "Turns").ok K)) rfl), _, fd, He.meth_ok (c.fact 46 (f := (fun K => (He.Fa.meth "Turns" "__len__").ok K)) rfl), F.fun_⟩
  m_Turns__period_of := let ⟨fd, F⟩ := c.def_ 20 (d := fx.getD 20 d0) rfl; ⟨He.cls_ok (c.fact 41 (f := (fun K => (He.Fa.cls "Turns").ok K)) rfl), _, fd, He.meth_ok (c.fact 47 (f := (fun K => (He.Fa.meth "Turns" "period_of").ok K)) rfl), F.fun_⟩
  m_Turns__rank := let ⟨fd, F⟩ := c.def_ 21 (d := fx.getD 21 d0) rfl; ⟨He.cls_ok (c.fact 41 (f := (fun K => (He.Fa.cls "Turns").ok K)) rfl), _, fd, He.meth_ok (c.fact 48 (f := (fun K => (He.Fa.meth "Turns" "rank").ok K)) rfl), F.fun_⟩
  n_Turns := neB_ok (c.fact 49 (f := (neB_ "Turns")) rfl)
  o_BadName := isoB_ok (c.fact 50 (f := (isoB "BadName")) rfl)
  o_BadPeriod := isoB_ok (c.fact 51 (f := (isoB "BadPeriod")) rfl)
  o_NoTurn := isoB_ok (c.fact 52 (f := (isoB "NoTurn")) rfl)
  o_NoTurns := isoB_ok (c.fact 53 (f := (isoB "NoTurns")) rfl)
  o_TooMany := isoB_ok (c.fact 54 (f := (isoB "TooMany")) rfl)
  o_Turns := isoB_ok (c.fact 55 (f := (isoB "Turns")) rfl)
  o_TwiceNamed := isoB_ok (c.fact 56 (f := (isoB "TwiceNamed")) rfl)
  p_Turns__still := let ⟨fd, F⟩ := c.def_ 22 (d := fx.getD 22 d0) rfl; ⟨He.cls_ok (c.fact 41 (f := (fun K => (He.Fa.cls "Turns").ok K)) rfl), _, _, fd, propB_ok (c.fact 57 (f := (propB "Turns" "still")) rfl), F.fun_⟩
  q_Turns__MOST := cconB_ok (c.fact 58 (f := (cconB "Turns" "MOST" (.int 8))) rfl)
  v_BadName := He.glo_ok X G (c.fact 59 (f := (fun K => (He.Fa.glo "BadName").ok K)) rfl)
  v_BadPeriod := He.glo_ok X G (c.fact 60 (f := (fun K => (He.Fa.glo "BadPeriod").ok K)) rfl)
  v_NoTurn := He.glo_ok X G (c.fact 61 (f := (fun K => (He.Fa.glo "NoTurn").ok K)) rfl)
  v_NoTurns := He.glo_ok X G (c.fact 62 (f := (fun K => (He.Fa.glo "NoTurns").ok K)) rfl)
  v_TooMany := He.glo_ok X G (c.fact 63 (f := (fun K => (He.Fa.glo "TooMany").ok K)) rfl)
  v_TurnError := He.glo_ok X G (c.fact 64 (f := (fun K => (He.Fa.glo "TurnError").ok K)) rfl)
  v_Turns := He.glo_ok X G (c.fact 39 (f := (fun K => (He.Fa.glo "Turns").ok K)) rfl)
  v_TwiceNamed := He.glo_ok X G (c.fact 65 (f := (fun K => (He.Fa.glo "TwiceNamed").ok K)) rfl)
  x_BadName := exnB_ok (c.fact 66 (f := (exnB "BadName" ["name"])) rfl) (He.glo_ok X G (c.fact 59 (f := (fun K => (He.Fa.glo "BadName").ok K)) rfl)) (He.free_ok X G (c.fact 67 (f := (fun K => (He.Fa.free "super").ok K)) rfl)) c 23 rfl
  x_BadPeriod := exnB_ok (c.fact 68 (f := (exnB "BadPeriod" ["period"])) rfl) (He.glo_ok X G (c.fact 60 (f := (fun K => (He.Fa.glo "BadPeriod").ok K)) rfl)) (He.free_ok X G (c.fact 67 (f := (fun K => (He.Fa.free "super").ok K)) rfl)) c 24 rfl
  x_NoTurn := exnB_ok (c.fact 69 (f := (exnB "NoTurn" ["name"])) rfl) (He.glo_ok X G (c.fact 61 (f := (fun K => (He.Fa.glo "NoTurn").ok K)) rfl)) (He.free_ok X G (c.fact 67 (f := (fun K => (He.Fa.free "super").ok K)) rfl)) c 25 rfl
  x_NoTurns := exnB_ok (c.fact 70 (f := (exnB "NoTurns" [])) rfl) (He.glo_ok X G (c.fact 62 (f := (fun K => (He.Fa.glo "NoTurns").ok K)) rfl)) (He.free_ok X G (c.fact 67 (f := (fun K => (He.Fa.free "super").ok K)) rfl)) c 26 rfl
  x_TooMany := exnB_ok (c.fact 71 (f := (exnB "TooMany" ["what", "many", "most"])) rfl) (He.glo_ok X G (c.fact 63 (f := (fun K => (He.Fa.glo "TooMany").ok K)) rfl)) (He.free_ok X G (c.fact 67 (f := (fun K => (He.Fa.free "super").ok K)) rfl)) c 27 rfl
  x_TwiceNamed := exnB_ok (c.fact 72 (f := (exnB "TwiceNamed" ["name"])) rfl) (He.glo_ok X G (c.fact 65 (f := (fun K => (He.Fa.glo "TwiceNamed").ok K)) rfl)) (He.free_ok X G (c.fact 67 (f := (fun K => (He.Fa.free "super").ok K)) rfl)) c 28 rfl
  A_err := errTabB_ok (c.fact 73 (f := (errTabB ["BadName", "TwiceNamed", "BadPeriod", "NoTurns", "TooMany", "NoTurn"] "TurnError")) rfl)
def names : List PySem.Str := (["_wall", "TurnError", "BadName", "TwiceNamed", "BadPeriod", "NoTurns", "TooMany", "NoTurn", "OtherTurns", "BadText", "is_whole", "LETTERS", "DIGITS", "LONGEST_NAME", "is_name", "reduced", "normal_steps", "step_key", "read_step", "Row", "Turns", "_law_bag", "_law_draw", "_law_ident", "_law_is_name", "_law_spoiled", "_law_due", "_law_told", "_law_strangers"] : List PySem.Str)
abbrev R : PySem.W.OpenRow := PySem.W.OpenLaw.row PySem.Challenge.rw_turnrings_k10_turns_declared
instance pmain : PMain PySem.Challenge.rw_turnrings_k10_turns_declared.prog := ⟨by rfl, by rfl⟩
def asL : List Addr := [3, 2, 31, 53, 74, 95, 116, 137, 158, 209, 214, 221, 228, 235, 351, 427, 438, 445, 452, 457, 464, 469, 476, 483, 488, 30, 52, 73, 94, 115, 136, 157, 208, 213, 220, 227, 234, 350, 426, 437, 444, 451, 456, 463, 468, 475, 482, 487, 50, 71, 92, 113, 134, 155, 254, 367, 374, 381, 395, 403, 410, 417, 424, 49, 38, 70, 59, 91, 80, 112, 101, 133, 122, 154, 143, 253, 249, 366, 373, 380, 394, 402, 409, 416, 423, 248, 401]
def hk : PySem.W.Hook := hookT3 asL 487 485 482 478 fb fx
def ob (s : PySem.W.SharedT) : AlX := obsT3 asL 487 485 482 478 fb fx (HandSHeadRun.getT s)
theorem ob_eq (s : PySem.W.SharedT) : ob s = hk.obs s.abs := obsT3_eq (HandSHeadRun.getT_eq s)
theorem map3 {α β γ δ : Type} {o : Option α} {f : α → β} {g : α → γ} {h : α → δ} {x : β} {y : γ} {z : δ} (a : o.map f = some x) (b : o.map g = some y) (c : o.map h = some z) : o.map (fun s => (f s, g s, h s)) = some (x, y, z) := by
  cases o with
  | none => cases a
  | some s =>
    have a := Option.some.inj a
    have b := Option.some.inj b
    have c := Option.some.inj c
    show some (f s, g s, h s) = _
    rw [a, b, c]
theorem runL (w : World) (os : OsState) : (HandSHeadRun.endF (HandSHeadRun.stepQ (HandSHeadRun.denQ HandSHeadRun.tabQ) R.prog w) 40000 R.prog w os).map (fun s => HandSHeadRun.looksF R.prog (PySem.W.boot_heap w.params) s.abs) = some true := by kernel_rfl
open PySem PySem.W in
theorem runS (w : World) (os : OsState) : (HandSHeadRun.endF (HandSHeadRun.stepQ (HandSHeadRun.denQ HandSHeadRun.tabQ) R.prog w) 40000 R.prog w os).map (fun s => HandSHeadRun.seenQ (PySem.W.view R.prog [34]) names (importedModules R.prog.main.body) (fun s => PySem.W.xlAt (PySem.W.view R.prog [34]) [] s && PySem.W.recOk R.toRowW.records s) s.abs) = some (PySem.W.openGood (PySem.W.view R.prog [34]) names) := by kernel_rfl
theorem runO1 (w : World) (os : OsState) : (HandSHeadRun.endF (HandSHeadRun.stepQ (HandSHeadRun.denQ HandSHeadRun.tabQ) R.prog w) 40000 R.prog w os).map (fun s => (ob s).1) = some true := by kernel_rfl
theorem runO2 (w : World) (os : OsState) : (HandSHeadRun.endF (HandSHeadRun.stepQ (HandSHeadRun.denQ HandSHeadRun.tabQ) R.prog w) 40000 R.prog w os).map (fun s => (ob s).2) = some (fx.map DefX.val) := by kernel_rfl
theorem runO (w : World) (os : OsState) : (HandSHeadRun.endF (HandSHeadRun.stepQ (HandSHeadRun.denQ HandSHeadRun.tabQ) R.prog w) 40000 R.prog w os).map (fun s => ob s) = some (hk.val w) := map2 (runO1 w os) (runO2 w os)
theorem run (w : World) : HandSHeadRun.RunEq R (PySem.W.view R.prog [34]) hk ob 40000 names w := fun os => map3 (runL w os) (runS w os) (runO w os)
end Tr
open PySem PySem.W PySem.Calls PyProof.Rows
set_option maxHeartbeats 0
theorem PySem.Challenge.cw_turnrings_k10_turns_declared_holds : PySem.Challenge.rw_turnrings_k10_turns_declared.Holds := by
  w_on; o_law
  refine HandSHeadRun.head_any (r := OpenLaw.row PySem.Challenge.rw_turnrings_k10_turns_declared) (q := view (OpenLaw.row PySem.Challenge.rw_turnrings_k10_turns_declared).prog [34]) (H := Tr.hk) (ob := Tr.ob) (M := 40000) (loose := Tr.names) (d := HandSHeadRun.topDef (OpenLaw.row PySem.Challenge.rw_turnrings_k10_turns_declared).prog 34) (kwd := []) Tr.ob_eq
    (by kernel_rfl) (fun s => by kernel_rfl) Tr.run (by kernel_rfl) (by kernel_rfl) (by kernel_rfl) (by rfl) (by first | assumption | decide +kernel) (by decide +kernel) ⟨rfl, rfl, rfl, rfl, rfl, by decide +kernel⟩ ?hw ?hc
  case hw => w_witness2
  case hc =>
    refine LamX.walk_ofTsE (l := PySem.Challenge.rw_turnrings_k10_turns_declared) (n := 63) (k := 80) (x := "_law_script") (CX := fun _ => L2.CX0) rfl (by decide) (by kernel_rfl) ⟨rfl, by decide, by decide⟩ ?F (fun _ _ _ _ _ z => z)
    intro w mg fa h Y G hmg0
    obtain ⟨K0, K, KX0, KX, ht, c⟩ := Y
    obtain ⟨ht1, ht⟩ := He.ba ht
    obtain ⟨ht2, ht⟩ := He.ba ht
    obtain ⟨hu1, ht⟩ := He.ba ht
    obtain ⟨hu2, ht⟩ := He.ba ht
    obtain ⟨ho1, ht⟩ := He.ba ht
    obtain ⟨ho2, ht⟩ := He.ba ht
    obtain ⟨hn1, hn2⟩ := He.ba ht
    have hmg : mg ("law" : PySem.Str) = some (.ref fa) := by
      have e : (HandSHeadRun.topDef (OpenLaw.row PySem.Challenge.rw_turnrings_k10_turns_declared).prog 34).name = ("law" : PySem.Str) := by kernel_rfl
      rw [← e]
      exact hmg0
    have e := hmg.symm.trans (He.glo_ok KX G (Tr.SaysX.fact c 74 (f := (fun K => (He.Fa.glo "law").ok K)) rfl))
    cases e
    obtain ⟨fd, F⟩ := Tr.SaysX.def_ c 29 (d := Tr.fx.getD 29 Tr.d0) rfl
    have T := Tr.txt_of KX G c
    have F2 : L2.Fun K "law" "law" Tr.s_law (He.ga K "law") fd := F.fun_
    have ho : fd.code = .ref 487 := Tr.ownB_ok F2 ho1
    obtain ⟨fdm, FM⟩ := Tr.SaysX.def_ c 6 (d := Tr.fx.getD 6 Tr.d0) rfl
    have F3 : L2.Fun K "_law_strangers" "_law_strangers" Tr.s__law_strangers (He.ga K "_law_strangers") fdm := FM.fun_
    have hom : fdm.code = .ref 482 := Tr.ownB_ok F3 ho2
    refine ⟨K, KX, fd, [(487, 485), (482, 478)], Tr.spLaw K 485 478, ?_, ?_, ?_, fun s u => L2.FunD.bindsA (ps := ["_law_script"]) F (fun _ _ _ _ _ _ us hl => match us, hl with | [_], _ => rfl) s [u] rfl, fun H a ns hl _ hT hS => ⟨a, ns, rfl, hS, hT _ List.mem_cons_self, hT _ (List.mem_cons_of_mem _ List.mem_cons_self), fun _ => rfl⟩, fun base _ _ TB => L2.FnOk.to0 (Tr.ok_law T F2 ho (TB _ List.mem_cons_self) ⟨_, fdm, F3, He.glo_ok KX G (Tr.SaysX.fact c 27 (f := (fun K => (He.Fa.glo "_law_strangers").ok K)) rfl), hom⟩ (TB _ (List.mem_cons_of_mem _ List.mem_cons_self)) (by decide)) fun vs H Q E h => h⟩
    · intro p hp
      rcases List.mem_cons.mp hp with rfl | hp
      · exact Tr.emptyB_ok KX0 ht2
      · rw [List.mem_singleton.mp hp]
        exact Tr.emptyB_ok KX0 hu2
    · intro p hp
      rcases List.mem_cons.mp hp with rfl | hp
      · exact Option.isNone_iff_eq_none.mp hn1
      · rw [List.mem_singleton.mp hp]
        exact Option.isNone_iff_eq_none.mp hn2
    · intro p hp
      rcases List.mem_cons.mp hp with rfl | hp
      · exact PySem.W.codeHd_of_K KX0 ht1
      · rw [List.mem_singleton.mp hp]
        exact PySem.W.codeHd_of_K KX0 hu1
