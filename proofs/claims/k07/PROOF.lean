import PyProof.Rows.All
import Wide.All
import OpenK.AllK
import Wide.FinOn
import HandS.ForMost
import HandS.ForExc
import HandS.TupSets
import HandS.Strs
import HandS.Wide
import HandS.Codes
import HandS.Star
import HandS.IsInst
import HandS.Property
import HandS.Defaults
import HandS.OwnEq
import HandS.SetFor
import HandS.TupLe
import HandS.Style
import HandS.HeadHook2
import HandS.Head2
import HandS.HeadEnd
import HandS.ClsMeth
import KE.GoesEnum
import KE.KOpsOwn
import KE.DataMinMax
import HandS.SortKw
import HandS.Conv
import PySem.Challenge.RW_turnrings_k07_first_last_nearest
set_option Elab.async false
set_option linter.all false
set_option maxRecDepth 100000
set_option maxHeartbeats 4000000
/-! # My layer over HandS: defs by name (Cal), own operators. -/
namespace Tr
open PySem L2
open PyProof.Rows (envOfC)

theorem units_of {A : Around} {k : Nat} (hr : Room k A) : A.units + 64 < cLine := hr.units

/-- a def that may be called by its name -/
structure Cal (P : Program) (w : World) (K : PySem.W.Frag) (mg : Str → Option Value) (base : Heap) (k : Nat) (x : Str) (sp : Sp) (dvs : List V) : Prop where
  ex : ∃ (f : Addr) (fd : FuncData) (ps : List Str) (ds : List Value), FnOk P w K mg base (L2.CX P w) k f fd ps sp ∧ mg x = some (.ref f) ∧ PySem.W.keepIn K (.ref f) = true ∧ Binds K fd ps ds ∧ Vals dvs ds
/-- a method of the class at C -/
structure Met (P : Program) (w : World) (K : PySem.W.Frag) (mg : Str → Option Value) (base : Heap) (k : Nat) (C : Addr) (m : Str) (sp : Sp) (dvs : List V) : Prop where
  ex : ∃ (f : Addr) (fd : FuncData) (ps : List Str) (ds : List Value), Cls K C ∧ Meth K C m f ∧ FnOk P w K mg base (L2.CX P w) k f fd ps sp ∧ Binds K fd ps ds ∧ Vals dvs ds
/-- a class that may be made by its name; sp: its __init__ -/
structure Mak (P : Program) (w : World) (K : PySem.W.Frag) (mg : Str → Option Value) (base : Heap) (k : Nat) (x : Str) (C : Addr) (sp : Sp) (dvs : List V) : Prop where
  ex : ∃ (f : Addr) (fd : FuncData) (ps : List Str) (ds : List Value), Mk K C f ∧ FnOk P w K mg base (L2.CX P w) k f fd ps sp ∧ mg x = some (.ref C) ∧ Binds K fd ps ds ∧ Vals dvs ds
/-- a def of the module, as the top has left it -/
def Dfn (K : PySem.W.Frag) (mg : Str → Option Value) (x : Str) (st : Stmt) : Prop := ∃ f fd, Fun K x x st f fd ∧ mg x = some (.ref f)

section
variable {P : Program} {w : World} {K : PySem.W.Frag} {mg : Str → Option Value} {base : Heap}
theorem Cal.mono {j k : Nat} {x : Str} {sp : Sp} {dvs : List V} (c : Cal P w K mg base j x sp dvs) (h : j ≤ k) : Cal P w K mg base k x sp dvs :=
  let ⟨f, fd, ps, ds, F, r⟩ := c.ex
  ⟨f, fd, ps, ds, F.mono h, r⟩
theorem Cal.imp {k : Nat} {x : Str} {sp sp' : Sp} {dvs : List V} (c : Cal P w K mg base k x sp dvs) (h : ∀ vs H Q E, sp' vs H Q E → sp vs H Q E) : Cal P w K mg base k x sp' dvs :=
  let ⟨f, fd, ps, ds, F, r⟩ := c.ex
  ⟨f, fd, ps, ds, F.imp h, r⟩
/-- a def that raises nothing, by its body -/
theorem okN {x qual : Str} {st : Stmt} {f : Addr} {fd : FuncData} {N ps : List Str} {k : Nat} {sp : Sp} (F : Fun K x qual st f fd) (S : FnScope N ps (defScope st)) (len : ∀ vs H Q E, sp vs H Q E → vs.length = ps.length)
    (hbody : ∀ (cdv : Value) (A : Around) (outer : List Env) (s : Shared) (H : Hp) (vs : List V) (Q : VK) (E : XK), Room k (A.deeper (envOfC qual (defScope st) s.heap.objs.size f cdv)) → sp vs H Q E →
      ∃ t, PSs (cxOf (L2.CX P w) P w K mg base N qual (defScope st) f cdv A outer s H E).nox (defBody st) t ∧ t { nx := fun _ H' => Q .non H', rt := Q } (start N vs) H) : FnOk P w K mg base (L2.CX P w) (k + 1) f fd ps sp :=
  F.okX S len fun cdv A outer s H vs Q E hr h =>
    let ⟨t, h1, h2⟩ := hbody cdv A outer s H vs Q E hr h
    ⟨t, h1.nox, h2⟩
theorem calN {x : Str} {st : Stmt} {N ps : List Str} {k : Nat} {sp : Sp} (D : Dfn K mg x st) (S : FnScope N ps (defScope st)) (len : ∀ vs H Q E, sp vs H Q E → vs.length = ps.length)
    (hb : ∀ (kV doc pm : Value) (an : Option Addr) (cdv ct : Value) (us : List Value), us.length = ps.length → bindArgs (PySem.W.fnOf x x (defArgs st) (defBody st) (defScope st) .none kV doc pm an cdv ct) ⟨us, []⟩ = pure (ps.zip us))
    (hbody : ∀ (f : Addr) (cdv : Value) (A : Around) (outer : List Env) (s : Shared) (H : Hp) (vs : List V) (Q : VK) (E : XK), Room k (A.deeper (envOfC x (defScope st) s.heap.objs.size f cdv)) → sp vs H Q E →
      ∃ t, PSs (cxOf (L2.CX P w) P w K mg base N x (defScope st) f cdv A outer s H E).nox (defBody st) t ∧ t { nx := fun _ H' => Q .non H', rt := Q } (start N vs) H) : Cal P w K mg base (k + 1) x sp [] :=
  let ⟨f, fd, F, hm⟩ := D
  ⟨f, fd, ps, [], okN F S len (hbody f), hm, F.kp, F.binds hb, .nil⟩
/-- a def that may raise -/
theorem calX {x : Str} {st : Stmt} {N ps : List Str} {k : Nat} {sp : Sp} (D : Dfn K mg x st) (S : FnScope N ps (defScope st)) (len : ∀ vs H Q E, sp vs H Q E → vs.length = ps.length)
    (hb : ∀ (kV doc pm : Value) (an : Option Addr) (cdv ct : Value) (us : List Value), us.length = ps.length → bindArgs (PySem.W.fnOf x x (defArgs st) (defBody st) (defScope st) .none kV doc pm an cdv ct) ⟨us, []⟩ = pure (ps.zip us))
    (hbody : ∀ (f : Addr) (cdv : Value) (A : Around) (outer : List Env) (s : Shared) (H : Hp) (vs : List V) (Q : VK) (E : XK), Room k (A.deeper (envOfC x (defScope st) s.heap.objs.size f cdv)) → sp vs H Q E →
      ∃ t, PSs (cxOf (L2.CX P w) P w K mg base N x (defScope st) f cdv A outer s H E) (defBody st) t ∧ t { nx := fun _ H' => Q .non H', rt := Q } (start N vs) H) : Cal P w K mg base (k + 1) x sp [] :=
  let ⟨f, fd, F, hm⟩ := D
  ⟨f, fd, ps, [], F.okX S len (hbody f), hm, F.kp, F.binds hb, .nil⟩
theorem dfn_of {h : Heap} {x : Str} {st : Stmt} {f : Addr} {oc : Value} {od an : Option Addr} {osl : Array (Option Value)} {kV doc pm cdv ct : Value} (X : K.In h) (G : h.Ns mainGlobals mg)
    (a : PySem.W.nsIn K mainGlobals x = some (some (.ref f))) (l : K.lookup f = some ⟨oc, od, .func (PySem.W.fnOf x x (defArgs st) (defBody st) (defScope st) .none kV doc pm an cdv ct), osl⟩)
    (c : PySem.W.codeIn K cdv x = true) (k : PySem.W.keepIn K (.ref f) = true) : Dfn K mg x st := ⟨f, _, fun_mk l c k, PySem.W.mg_of X G a⟩
end

section
variable {X : Cx} {k j : Nat} {C : Addr} {x m : Str} {sp : Sp} {dvs : List V} {p pos apos : Pos} {e o : Expr} {es : List Expr} {ta : TE} {t : TA} {E : XK}
theorem pe_cx (c : Cal X.prog X.w X.K X.mg X.base k x sp dvs) (hr : Room j X.A) (hk : k ≤ j) (hg : Gl X x) (hx : Passes (L2.CX X.prog X.w) X E) (ha : PA X (e :: es) t)
    (hdb : (x == ("__debug__" : Str)) = false := by decide) (he : starEach (e :: es) X.env = (false, eval e X.env) :: starEach es X.env := by rfl) (hpl : (backTo pos (starEach es X.env)).any (·.1) = false := by rfl) :
    PE X (.Call (.Name x p) (e :: es) [] pos) (tCall sp dvs E t) := by
  obtain ⟨f, fd, ps, ds, F, hm, kp, b, d⟩ := c.ex
  exact pe_call F (hr.mono hk) hg hm kp b d hx ha hdb he hpl
theorem pe_cx0 (c : Cal X.prog X.w X.K X.mg X.base k x sp dvs) (hr : Room j X.A) (hk : k ≤ j) (hg : Gl X x) (hx : Passes (L2.CX X.prog X.w) X E)
    (hdb : (x == ("__debug__" : Str)) = false := by decide) : PE X (.Call (.Name x p) [] [] pos) (tCall sp dvs E tNil) := by
  obtain ⟨f, fd, ps, ds, F, hm, kp, b, d⟩ := c.ex
  exact pe_call0 F (hr.mono hk) hg hm kp b d hx hdb
end
end Tr

/-! # Lists of pairs, loops and comprehensions over them. -/
namespace Tr
open PySem L2

/-- two lists, item by item -/
inductive P2 {α β : Type} (R : α → β → Prop) : List α → List β → Prop where
  | nil : P2 R [] []
  | cons {a : α} {b : β} {l : List α} {m : List β} : R a b → P2 R l m → P2 R (a :: l) (b :: m)
namespace P2
variable {α β γ : Type} {R S : α → β → Prop}
theorem len {l : List α} {m : List β} (h : P2 R l m) : l.length = m.length := by
  induction h with
  | nil => rfl
  | cons _ _ ih => simp only [List.length_cons, ih]
theorem mono {l : List α} {m : List β} (h : P2 R l m) (f : ∀ a b, R a b → S a b) : P2 S l m := by
  induction h with
  | nil => exact .nil
  | cons r _ ih => exact .cons (f _ _ r) ih
theorem monoM {l : List α} {m : List β} (h : P2 R l m) (f : ∀ a b, a ∈ l → b ∈ m → R a b → S a b) : P2 S l m := by
  induction h with
  | nil => exact .nil
  | cons r _ ih => exact .cons (f _ _ List.mem_cons_self List.mem_cons_self r) (ih fun a b ha hb => f a b (List.mem_cons_of_mem _ ha) (List.mem_cons_of_mem _ hb))
theorem app {l l' : List α} {m m' : List β} (h : P2 R l m) (h' : P2 R l' m') : P2 R (l ++ l') (m ++ m') := by
  induction h with
  | nil => exact h'
  | cons r _ ih => exact .cons r ih
theorem snoc {l : List α} {m : List β} {a : α} {b : β} (h : P2 R l m) (r : R a b) : P2 R (l ++ [a]) (m ++ [b]) := h.app (.cons r .nil)
theorem get {l : List α} {m : List β} (h : P2 R l m) {i : Nat} {b : β} (e : m[i]? = some b) : ∃ a, l[i]? = some a ∧ R a b := by
  induction h generalizing i with
  | nil => simp at e
  | cons r _ ih =>
    cases i with
    | zero =>
      simp only [List.getElem?_cons_zero, Option.some.injEq] at e
      subst e
      exact ⟨_, rfl, r⟩
    | succ i => exact ih (by simpa using e)
theorem getl {l : List α} {m : List β} (h : P2 R l m) {i : Nat} {a : α} (e : l[i]? = some a) : ∃ b, m[i]? = some b ∧ R a b := by
  induction h generalizing i with
  | nil => simp at e
  | cons r _ ih =>
    cases i with
    | zero =>
      simp only [List.getElem?_cons_zero, Option.some.injEq] at e
      subst e
      exact ⟨_, rfl, r⟩
    | succ i => exact ih (by simpa using e)
theorem eq_map {g : β → α} {l : List α} {m : List β} (h : P2 (fun a b => a = g b) l m) : l = m.map g := by
  induction h with
  | nil => rfl
  | cons r _ ih => rw [r, ih]; rfl
theorem of_map {g : β → α} (m : List β) (h : ∀ b ∈ m, R (g b) b) : P2 R (m.map g) m := by
  induction m with
  | nil => exact .nil
  | cons b m ih => exact .cons (h b List.mem_cons_self) (ih fun c hc => h c (List.mem_cons_of_mem _ hc))
theorem mapr {f : γ → β} {l : List α} {m : List γ} (h : P2 (fun a c => R a (f c)) l m) : P2 R l (m.map f) := by
  induction h with
  | nil => exact .nil
  | cons r _ ih => exact .cons r ih
theorem memr {l : List α} {m : List β} (h : P2 R l m) {b : β} (hb : b ∈ m) : ∃ a ∈ l, R a b := by
  induction h with
  | nil => cases hb
  | cons r _ ih =>
    rcases List.mem_cons.mp hb with e | hb
    · rw [e]; exact ⟨_, List.mem_cons_self, r⟩
    · obtain ⟨a, ha, r⟩ := ih hb
      exact ⟨a, List.mem_cons_of_mem _ ha, r⟩
theorem meml {l : List α} {m : List β} (h : P2 R l m) {a : α} (ha : a ∈ l) : ∃ b ∈ m, R a b := by
  induction h with
  | nil => cases ha
  | cons r _ ih =>
    rcases List.mem_cons.mp ha with e | ha
    · rw [e]; exact ⟨_, List.mem_cons_self, r⟩
    · obtain ⟨b, hb, r⟩ := ih ha
      exact ⟨b, List.mem_cons_of_mem _ hb, r⟩
theorem ref {f : α → V} {l : List V} {m : List β} {T : V → β → Prop} (h : P2 T l m) (hf : ∀ v b, T v b → ∃ a, v = f a) : ∃ as : List α, l = as.map f := by
  induction h with
  | nil => exact ⟨[], rfl⟩
  | cons r _ ih =>
    obtain ⟨as, e⟩ := ih
    obtain ⟨a, e2⟩ := hf _ _ r
    exact ⟨a :: as, by rw [e2, e]; rfl⟩
theorem map_l {f : α → γ} {T : γ → β → Prop} {l : List α} {m : List β} : P2 T (l.map f) m ↔ P2 (fun a b => T (f a) b) l m := by
  constructor
  · intro h
    generalize hl : l.map f = k at h
    induction h generalizing l with
    | nil =>
      cases l with
      | nil => exact .nil
      | cons a l => cases hl
    | cons r _ ih =>
      cases l with
      | nil => cases hl
      | cons a l =>
        simp only [List.map_cons, List.cons.injEq] at hl
        obtain ⟨e1, e2⟩ := hl
        subst e1
        exact .cons r (ih e2)
  · intro h
    induction h with
    | nil => exact .nil
    | cons r _ ih => exact .cons r ih
theorem take {l : List α} {m : List β} (h : P2 R l m) (n : Nat) : P2 R (l.take n) (m.take n) := by
  induction h generalizing n with
  | nil => simp only [List.take_nil]; exact .nil
  | cons r _ ih =>
    cases n with
    | zero => exact .nil
    | succ n => exact .cons r (ih n)
theorem drop {l : List α} {m : List β} (h : P2 R l m) (n : Nat) : P2 R (l.drop n) (m.drop n) := by
  induction h generalizing n with
  | nil => simp only [List.drop_nil]; exact .nil
  | cons r h ih =>
    cases n with
    | zero => exact .cons r h
    | succ n => exact ih n
theorem rev {l : List α} {m : List β} (h : P2 R l m) : P2 R l.reverse m.reverse := by
  induction h with
  | nil => exact .nil
  | cons r _ ih => rw [List.reverse_cons, List.reverse_cons]; exact ih.snoc r
end P2

theorem take_snoc {α : Type} {l : List α} {i : Nat} {x : α} (h : l[i]? = some x) : l.take (i + 1) = l.take i ++ [x] := by
  obtain ⟨hi, e⟩ := List.getElem?_eq_some_iff.mp h
  rw [← e]
  exact List.take_succ_eq_append_getElem hi
theorem mem_of_at {α : Type} {l : List α} {i : Nat} {x : α} (h : l[i]? = some x) : x ∈ l := List.mem_of_getElem? h

theorem nodup_len {α : Type} [DecidableEq α] : ∀ (l m : List α), l.Nodup → (∀ x ∈ l, x ∈ m) → l.length ≤ m.length
  | [], _, _, _ => Nat.zero_le _
  | a :: l, m, nd, h => by
    have ha := h a List.mem_cons_self
    obtain ⟨n1, n2⟩ := List.nodup_cons.mp nd
    have := nodup_len l (m.erase a) n2 fun x hx => (List.mem_erase_of_ne (fun e => n1 (by rw [← e]; exact hx))).mpr (h x (List.mem_cons_of_mem _ hx))
    rw [List.length_erase_of_mem ha] at this
    have : 0 < m.length := List.length_pos_of_mem ha
    simp only [List.length_cons]
    omega
/-! ### heaps -/
theorem same_upd {H : Hp} {p : Addr} {o : HO} (h : H p = none) : Same H (upd H p o) := fun b u e => by rw [upd_ne (ne_of_none e h)]; exact e
theorem _root_.L2.Same.upd' {H H1 : Hp} {p : Addr} {o : HO} (s : Same H H1) (h : H1 p = none) : Same H (L2.upd H1 p o) := s.trans (same_upd h)
/-- an object made since is written -/
theorem _root_.L2.Same.wr {H H1 : Hp} {p : Addr} {o : HO} (s : Same H H1) (h : H p = none) : Same H (L2.upd H1 p o) := fun b u e => by
  rw [upd_ne (ne_of_none e h)]
  exact s b u e
theorem _root_.L2.Same.seqT {K : PySem.W.Frag} {H H' : Hp} {a : Addr} {xs : List V} (e : Same H H') (h : SqT K H a xs) : SqT K H' a xs :=
  h.elim (fun h => .inl (h.elim (fun h => .inl (e _ _ h)) fun ⟨o, h⟩ => .inr ⟨o, e _ _ h⟩)) fun h => .inr h

/-- all but what stands at D is as it was -/
def Kp (D : Addr) (H H' : Hp) : Prop := ∀ b o, H b = some o → b ≠ D → H' b = some o
theorem Kp.refl (D : Addr) (H : Hp) : Kp D H H := fun _ _ e _ => e
theorem Kp.trans {D : Addr} {H H1 H2 : Hp} (a : Kp D H H1) (b : Kp D H1 H2) : Kp D H H2 := fun c o e n => b c o (a c o e n) n
theorem _root_.L2.Same.kp {D : Addr} {H H' : Hp} (s : Same H H') : Kp D H H' := fun b o e _ => s b o e
theorem kp_upd (D : Addr) (H : Hp) (o : HO) : Kp D H (L2.upd H D o) := fun b u e n => by rw [upd_ne n]; exact e

/-- a pair (r, m) stands at t -/
def PrT (H : Hp) (t : Addr) (c : Int × Int) : Prop := H t = some (.tup [.int c.1, .int c.2])
/-- a list of pairs stands at p -/
def PL (H : Hp) (p : Addr) (cs : List (Int × Int)) : Prop := ∃ ts : List Addr, H p = some (.lst (ts.map V.ref)) ∧ P2 (PrT H) ts cs
theorem PrT.ne {H : Hp} {t D : Addr} {c : Int × Int} {xs : List V} (h : PrT H t c) (hD : H D = some (.lst xs)) : t ≠ D := ne_of h hD (by intro z; cases z)
theorem P2.same {H H' : Hp} (s : Same H H') {ts : List Addr} {cs : List (Int × Int)} (h : P2 (PrT H) ts cs) : P2 (PrT H') ts cs := h.mono fun _ _ e => s _ _ e
theorem PL.same {H H' : Hp} {p : Addr} {cs : List (Int × Int)} (s : Same H H') (h : PL H p cs) : PL H' p cs :=
  let ⟨ts, a, b⟩ := h
  ⟨ts, s _ _ a, b.same s⟩

/-! ### loops -/
section
variable {K : PySem.W.Frag}
theorem wh {c : TT} {tb : TS} {D : Ends} {σ : St} {H : Hp} (Pv : St → Hp → Prop) (μ : St → Hp → Nat) (h0 : Pv σ H)
    (hs : ∀ σ H, Pv σ H → c σ H fun b H1 => if b = true then ∃ N : St → Hp → Prop, (∀ σ' H', N σ' H' → Pv σ' H' ∧ μ σ' H' < μ σ H) ∧ tb { D with nx := N, ct := N, bk := D.nx } σ H1 else D.nx σ H1)
    (mono : ∀ σ H Q Q', (∀ b H1, Q b H1 → Q' b H1) → c σ H Q → c σ H Q') : tWhile c tb D σ H := by
  refine ⟨fun m σ H => m = μ σ H ∧ Pv σ H, ⟨_, rfl, h0⟩, ?_⟩
  rintro m σ H ⟨rfl, p⟩
  refine mono σ H _ _ (fun b H1 q => ?_) (hs σ H p)
  cases b with
  | true =>
    obtain ⟨N, hN, q⟩ := q
    exact ⟨N, fun σ' H' n => ⟨_, (hN σ' H' n).2, rfl, (hN σ' H' n).1⟩, q⟩
  | false => exact q

/-- for a, b in pairs -/
theorem for_pairs {a : Addr} {i1 i2 : Nat} {tb : TS} {D : Ends} {σ : St} {H : Hp} {cs : List (Int × Int)} {ts : List Addr} (Pv : Nat → St → Hp → Prop) (h0 : Pv 0 σ H)
    (hl : ∀ i σ H, i ≤ cs.length → Pv i σ H → SqL K H a (ts.map V.ref) ∧ P2 (PrT H) ts cs)
    (hs : ∀ i c σ H, cs[i]? = some c → Pv i σ H → tb { D with nx := Pv (i + 1), ct := Pv (i + 1), bk := D.nx } ((σ.set i1 (some (.int c.1))).set i2 (some (.int c.2))) H)
    (hd : ∀ σ H, Pv cs.length σ H → D.nx σ H) :
    ∃ W : Nat → Nat → St → Hp → Prop, (∃ m, W 0 m σ H) ∧ ∀ i m σ H, W i m σ H →
      ((Itl K a).stop i H ∧ D.nx σ H) ∨ ((Itl K a).go i H ∧ ∃ N : St → Hp → Prop, (∀ σ' H', N σ' H' → ∃ m', m' < m ∧ W (i + 1) m' σ' H') ∧ ∀ x H', (Itl K a).yld i H x H' → gTup K 2 (gCons (gName i1) (gCons (gName i2) gNil)) x σ H' fun σ2 H2 => tb { D with nx := N, ct := N, bk := D.nx } σ2 H2) := by
  have hlen := (hl 0 σ H (Nat.zero_le _) h0).2.len
  have e : (ts.map V.ref).length = cs.length := by rw [List.length_map, hlen]
  refine for_list (K := K) (a := a) (xs := ts.map V.ref) Pv h0 (fun i σ H hi p => (hl i σ H (by omega) p).1) ?_ (fun σ H p => hd σ H (by rw [← e]; exact p))
  intro i x σ H hx p
  rw [List.getElem?_map] at hx
  cases ht : ts[i]? with
  | none => rw [ht] at hx; cases hx
  | some t =>
    rw [ht] at hx
    cases hx
    have hi : i < ts.length := (List.getElem?_eq_some_iff.mp ht).1
    obtain ⟨c, hc, r⟩ := (hl i σ H (by omega) p).2.getl ht
    exact ⟨t, _, rfl, SqT.of r, rfl, _, _, rfl, _, _, rfl, rfl, hs i c σ H hc p⟩

/-- the end of a comprehension -/
def LcG (J : It) (g : TG) (tt : TT) (te : TE) (vs : List Nat) (σ : St) (H1 : Hp) (D : Addr) (Qd : Hp → Prop) : Prop :=
    ∃ W : Nat → Nat → Hp → Prop, (∃ m, W 0 m (upd H1 D (.lst []))) ∧ ∀ i m H, W i m H →
      (J.stop i H ∧ Qd H) ∨ (J.go i H ∧ ∃ Nx : Hp → Prop, (∀ H', Nx H' → ∃ m', m' < m ∧ W (i + 1) m' H') ∧ ∀ x H', J.yld i H x H' → g x (wipe σ vs) H' fun σ2 H2 => wipe σ2 vs = wipe σ vs ∧ tt σ2 H2 fun b H3 =>
        if b = true then te σ2 H3 fun y H4 => ∃ acc, H4 D = some (.lst acc) ∧ acc.length < sizeLine ∧ Nx (upd H4 D (.lst (acc ++ [y]))) else Nx H3)

theorem small_app {n m : Nat} (h : n ≤ m) (hm : m ≤ 100000) : n < sizeLine := Nat.lt_of_le_of_lt (Nat.le_trans h hm) (by decide)

/-- [e for x in xs if p]: over a list of values; what stood stands, each item has the relation R to its source -/
theorem lc_vals {α : Type} {a : Addr} {xs : List V} {cs : List α} {i1 : Nat} {tt : TT} {te : TE} {vs : List Nat} {σ : St} {H1 : Hp} {D : Addr} {Qd : Hp → Prop} (p : α → Bool) (val : α → V) (R : V → α → Hp → Prop)
    (hR : ∀ y c H H' acc, H D = some (.lst acc) → Kp D H H' → R y c H → R y c H') (hD : H1 D = none) (hL : SqL K H1 a (cs.map val)) (hsz : cs.length ≤ 100000)
    (hw : ∀ x, wipe ((wipe σ vs).set i1 x) vs = wipe σ vs)
    (ht : ∀ c ∈ cs, ∀ H Q, Same H1 H → (∀ H', Same H H' → Q (p c) H') → tt ((wipe σ vs).set i1 (some (val c))) H Q)
    (he : ∀ c ∈ cs, p c = true → ∀ H Q, Same H1 H → (∀ y H', Same H H' → R y c H' → Q y H') → te ((wipe σ vs).set i1 (some (val c))) H Q)
    (hd : ∀ ys H, Same H1 H → H D = some (.lst ys) → P2 (fun y c => R y c H) ys (cs.filter p) → Qd H) : LcG (Itl K a) (gName i1) tt te vs σ H1 D Qd := by
  refine lc_list (K := K) (a := a) (xs := cs.map val) (fun i H => Same H1 H ∧ ∃ ys, H D = some (.lst ys) ∧ P2 (fun y c => R y c H) ys ((cs.take i).filter p)) ⟨same_upd hD, [], upd_same, .nil⟩ (fun i H _ ⟨s, _⟩ => s.seq hL) ?_ ?_
  · rintro i x H hx ⟨s, ys, hy, py⟩
    rw [List.getElem?_map] at hx
    cases hc : cs[i]? with
    | none => rw [hc] at hx; cases hx
    | some c =>
      rw [hc] at hx
      cases hx
      have hi : i < cs.length := (List.getElem?_eq_some_iff.mp hc).1
      have ll : ys.length ≤ 100000 := by
        have h1 := py.len
        have h2 := List.length_filter_le p (cs.take i)
        rw [List.length_take] at h2
        omega
      refine ⟨hw _, ht c (mem_of_at hc) H _ s fun H2 s2 => ?_⟩
      have py2 := py.mono fun v b rb => hR v b H H2 _ hy s2.kp rb
      have hy2 := s2 _ _ hy
      by_cases hp : p c = true
      · rw [if_pos hp]
        refine he c (mem_of_at hc) hp H2 _ (s.trans s2) fun y H' s' r => ⟨ys, s' _ _ hy2, small_app (Nat.le_refl _) ll, ((s.trans s2).trans s').wr hD, ys ++ [y], upd_same, ?_⟩
        rw [take_snoc hc, List.filter_append, List.filter_cons, if_pos hp, List.filter_nil]
        exact (py2.mono fun v b rb => hR v b H' _ _ (s' _ _ hy2) (kp_upd D H' _) (hR v b H2 H' _ hy2 s'.kp rb)).snoc (hR y c H' _ _ (s' _ _ hy2) (kp_upd D H' _) r)
      · rw [if_neg hp]
        refine ⟨s.trans s2, ys, hy2, ?_⟩
        rw [take_snoc hc, List.filter_append, List.filter_cons, if_neg hp, List.filter_nil, List.append_nil]
        exact py2
  · rintro H ⟨s, ys, hy, py⟩
    rw [List.length_map, List.take_length] at py
    exact hd ys H s hy py

/-- [e for a, b in pairs if p] -/
theorem lc_pairs {a : Addr} {ts : List Addr} {cs : List (Int × Int)} {i1 i2 : Nat} {tt : TT} {te : TE} {vs : List Nat} {σ : St} {H1 : Hp} {D : Addr} {Qd : Hp → Prop} (p : Int × Int → Bool) (R : V → Int × Int → Hp → Prop)
    (hR : ∀ y c H H' acc, H D = some (.lst acc) → Kp D H H' → R y c H → R y c H') (hD : H1 D = none) (hL : SqL K H1 a (ts.map V.ref)) (hP : P2 (PrT H1) ts cs) (hsz : cs.length ≤ 100000)
    (hw : ∀ x y, wipe (((wipe σ vs).set i1 x).set i2 y) vs = wipe σ vs)
    (ht : ∀ c ∈ cs, ∀ H Q, Same H1 H → (∀ H', Same H H' → Q (p c) H') → tt (((wipe σ vs).set i1 (some (.int c.1))).set i2 (some (.int c.2))) H Q)
    (he : ∀ c ∈ cs, p c = true → ∀ H Q, Same H1 H → (∀ y H', Same H H' → R y c H' → Q y H') → te (((wipe σ vs).set i1 (some (.int c.1))).set i2 (some (.int c.2))) H Q)
    (hd : ∀ ys H, Same H1 H → H D = some (.lst ys) → P2 (fun y c => R y c H) ys (cs.filter p) → Qd H) : LcG (Itl K a) (gTup K 2 (gCons (gName i1) (gCons (gName i2) gNil))) tt te vs σ H1 D Qd := by
  have hlen := hP.len
  refine lc_list (K := K) (a := a) (xs := ts.map V.ref) (fun i H => Same H1 H ∧ ∃ ys, H D = some (.lst ys) ∧ P2 (fun y c => R y c H) ys ((cs.take i).filter p)) ⟨same_upd hD, [], upd_same, .nil⟩ (fun i H _ ⟨s, _⟩ => s.seq hL) ?_ ?_
  · rintro i x H hx ⟨s, ys, hy, py⟩
    rw [List.getElem?_map] at hx
    cases ht' : ts[i]? with
    | none => rw [ht'] at hx; cases hx
    | some t =>
      rw [ht'] at hx
      cases hx
      obtain ⟨c, hc, r⟩ := hP.getl ht'
      have hi : i < cs.length := (List.getElem?_eq_some_iff.mp hc).1
      have ll : ys.length ≤ 100000 := by
        have h1 := py.len
        have h2 := List.length_filter_le p (cs.take i)
        rw [List.length_take] at h2
        omega
      refine ⟨t, _, rfl, SqT.of (s _ _ r), rfl, _, _, rfl, _, _, rfl, rfl, hw _ _, ht c (mem_of_at hc) H _ s fun H2 s2 => ?_⟩
      have py2 := py.mono fun v b rb => hR v b H H2 _ hy s2.kp rb
      have hy2 := s2 _ _ hy
      by_cases hp : p c = true
      · rw [if_pos hp]
        refine he c (mem_of_at hc) hp H2 _ (s.trans s2) fun y H' s' r => ⟨ys, s' _ _ hy2, small_app (Nat.le_refl _) ll, ((s.trans s2).trans s').wr hD, ys ++ [y], upd_same, ?_⟩
        rw [take_snoc hc, List.filter_append, List.filter_cons, if_pos hp, List.filter_nil]
        exact (py2.mono fun v b rb => hR v b H' _ _ (s' _ _ hy2) (kp_upd D H' _) (hR v b H2 H' _ hy2 s'.kp rb)).snoc (hR y c H' _ _ (s' _ _ hy2) (kp_upd D H' _) r)
      · rw [if_neg hp]
        refine ⟨s.trans s2, ys, hy2, ?_⟩
        rw [take_snoc hc, List.filter_append, List.filter_cons, if_neg hp, List.filter_nil, List.append_nil]
        exact py2
  · rintro H ⟨s, ys, hy, py⟩
    rw [List.length_map, hlen, List.take_length] at py
    exact hd ys H s hy py
/-- [e for i in range(lo, lo + n) if p] -/
theorem lc_rng {lo : Int} {n : Nat} {i1 : Nat} {tt : TT} {te : TE} {vs : List Nat} {σ : St} {H1 : Hp} {D : Addr} {Qd : Hp → Prop} (p : Nat → Bool) (R : V → Nat → Hp → Prop)
    (hR : ∀ y c H H' acc, H D = some (.lst acc) → Kp D H H' → R y c H → R y c H') (hD : H1 D = none) (hsz : n ≤ 100000)
    (hw : ∀ x, wipe ((wipe σ vs).set i1 x) vs = wipe σ vs)
    (ht : ∀ i, i < n → ∀ H Q, Same H1 H → (∀ H', Same H H' → Q (p i) H') → tt ((wipe σ vs).set i1 (some (.int (lo + i)))) H Q)
    (he : ∀ i, i < n → p i = true → ∀ H Q, Same H1 H → (∀ y H', Same H H' → R y i H' → Q y H') → te ((wipe σ vs).set i1 (some (.int (lo + i)))) H Q)
    (hd : ∀ ys H, Same H1 H → H D = some (.lst ys) → P2 (fun y c => R y c H) ys ((List.range n).filter p) → Qd H) : LcG (Itr lo n) (gName i1) tt te vs σ H1 D Qd := by
  refine lc_range (fun i H => Same H1 H ∧ ∃ ys, H D = some (.lst ys) ∧ P2 (fun y c => R y c H) ys ((List.range i).filter p)) ⟨same_upd hD, [], upd_same, .nil⟩ ?_ ?_
  · rintro i H hi ⟨s, ys, hy, py⟩
    have ll : ys.length ≤ 100000 := by
      have h1 := py.len
      have h2 := List.length_filter_le p (List.range i)
      rw [List.length_range] at h2
      omega
    refine ⟨hw _, ht i hi H _ s fun H2 s2 => ?_⟩
    have py2 := py.mono fun v b rb => hR v b H H2 _ hy s2.kp rb
    have hy2 := s2 _ _ hy
    by_cases hp : p i = true
    · rw [if_pos hp]
      refine he i hi hp H2 _ (s.trans s2) fun y H' s' r => ⟨ys, s' _ _ hy2, small_app (Nat.le_refl _) ll, ((s.trans s2).trans s').wr hD, ys ++ [y], upd_same, ?_⟩
      rw [List.range_succ, List.filter_append, List.filter_cons, if_pos hp, List.filter_nil]
      exact (py2.mono fun v b rb => hR v b H' _ _ (s' _ _ hy2) (kp_upd D H' _) (hR v b H2 H' _ hy2 s'.kp rb)).snoc (hR y i H' _ _ (s' _ _ hy2) (kp_upd D H' _) r)
    · rw [if_neg hp]
      refine ⟨s.trans s2, ys, hy2, ?_⟩
      rw [List.range_succ, List.filter_append, List.filter_cons, if_neg hp, List.filter_nil, List.append_nil]
      exact py2
  · rintro H ⟨s, ys, hy, py⟩
    exact hd ys H s hy py
theorem filter_all {α : Type} (l : List α) : l.filter (fun _ => true) = l := List.filter_eq_self.mpr fun _ _ => rfl
end
end Tr

namespace Tr
/-! Arithmetic behind common_divisor, combination, inverse. -/

theorem gcd_step {a b : Int} (hb : 0 < b) : Int.gcd b (a % b) = Int.gcd a b := by
  rw [Int.gcd_comm a b]
  have h : a = a % b + b * (a / b) := by have := Int.emod_add_mul_ediv a b; omega
  conv => rhs; rw [h]
  rw [Int.gcd_add_mul_left_right]

structure Comb (a b x0 u0 v0 x1 u1 v1 : Int) : Prop where
  h0 : u0 * a + v0 * b = x0
  h1 : u1 * a + v1 * b = x1
  n0 : 0 ≤ x0
  n1 : 0 ≤ x1
  g : Int.gcd x0 x1 = Int.gcd a b
  sg : (0 ≤ u0 ∧ u1 ≤ 0 ∧ v0 ≤ 0 ∧ 0 ≤ v1 ∧ u0 * x1 - u1 * x0 = b ∧ v1 * x0 - v0 * x1 = a) ∨
       (u0 ≤ 0 ∧ 0 ≤ u1 ∧ 0 ≤ v0 ∧ v1 ≤ 0 ∧ u1 * x0 - u0 * x1 = b ∧ v0 * x1 - v1 * x0 = a)
  bu0 : u0.natAbs ≤ b.natAbs
  bu1 : u1.natAbs ≤ b.natAbs
  bv0 : v0.natAbs ≤ a.natAbs + 1
  bv1 : v1.natAbs ≤ a.natAbs + 1
  bx : x0.natAbs ≤ a.natAbs + b.natAbs
  by_ : x1.natAbs ≤ a.natAbs + b.natAbs

theorem comb_start {a b : Int} (ha : 0 ≤ a) (hb : 0 < b) : Comb a b a 1 0 b 0 1 where
  h0 := by omega
  h1 := by omega
  n0 := ha
  n1 := Int.le_of_lt hb
  g := rfl
  sg := .inl ⟨by omega, by omega, by omega, by omega, by omega, by omega⟩
  bu0 := by omega
  bu1 := by omega
  bv0 := by omega
  bv1 := by omega
  bx := by omega
  by_ := by omega

theorem mul_bound {x y c : Int} (hx : 0 < x) (hy : 0 ≤ y) (h : y * x ≤ c) : y ≤ c := by
  have h1 : y * 1 ≤ y * x := Int.mul_le_mul_of_nonneg_left (by omega) hy
  omega

theorem comb_step {a b x0 u0 v0 x1 u1 v1 : Int} (ha : 0 ≤ a) (hb : 0 < b) (c : Comb a b x0 u0 v0 x1 u1 v1) (hx : x1 ≠ 0) :
    Comb a b x1 u1 v1 (x0 - x0 / x1 * x1) (u0 - x0 / x1 * u1) (v0 - x0 / x1 * v1) := by
  have px : 0 < x1 := by have := c.n1; omega
  have e2 : x0 - x0 / x1 * x1 = x0 % x1 := by
    have := Int.emod_add_mul_ediv x0 x1
    rw [Int.mul_comm] at this
    omega
  have q0 : 0 ≤ x0 / x1 := Int.ediv_nonneg c.n0 c.n1
  have r0 : 0 ≤ x0 % x1 := Int.emod_nonneg _ hx
  have r1 : x0 % x1 < x1 := Int.emod_lt_of_pos _ px
  generalize hq : x0 / x1 = q at *
  have n2 : 0 ≤ x0 - q * x1 := by omega
  have key : (0 ≤ u1 ∧ (u0 - q * u1) ≤ 0 ∧ v1 ≤ 0 ∧ 0 ≤ (v0 - q * v1) ∧ u1 * (x0 - q * x1) - (u0 - q * u1) * x1 = b ∧ (v0 - q * v1) * x1 - v1 * (x0 - q * x1) = a) ∨
       (u1 ≤ 0 ∧ 0 ≤ (u0 - q * u1) ∧ 0 ≤ v1 ∧ (v0 - q * v1) ≤ 0 ∧ (u0 - q * u1) * x1 - u1 * (x0 - q * x1) = b ∧ v1 * (x0 - q * x1) - (v0 - q * v1) * x1 = a) := by
    rcases c.sg with ⟨s1, s2, s3, s4, s5, s6⟩ | ⟨s1, s2, s3, s4, s5, s6⟩
    · refine .inr ⟨s2, ?_, s4, ?_, ?_, ?_⟩
      · have := Int.mul_nonneg q0 (show 0 ≤ -u1 by omega)
        rw [Int.mul_neg] at this
        omega
      · have := Int.mul_nonneg q0 s4
        omega
      · rw [← s5]
        simp only [Int.sub_mul, Int.mul_sub]
        have : q * u1 * x1 = u1 * (q * x1) := by rw [Int.mul_comm q u1, Int.mul_assoc]
        omega
      · rw [← s6]
        simp only [Int.sub_mul, Int.mul_sub]
        have : q * v1 * x1 = v1 * (q * x1) := by rw [Int.mul_comm q v1, Int.mul_assoc]
        omega
    · refine .inl ⟨s2, ?_, s4, ?_, ?_, ?_⟩
      · have := Int.mul_nonneg q0 s2
        omega
      · have := Int.mul_nonneg q0 (show 0 ≤ -v1 by omega)
        rw [Int.mul_neg] at this
        omega
      · rw [← s5]
        simp only [Int.sub_mul, Int.mul_sub]
        have : q * u1 * x1 = u1 * (q * x1) := by rw [Int.mul_comm q u1, Int.mul_assoc]
        omega
      · rw [← s6]
        simp only [Int.sub_mul, Int.mul_sub]
        have : q * v1 * x1 = v1 * (q * x1) := by rw [Int.mul_comm q v1, Int.mul_assoc]
        omega
  have bnd : (u0 - q * u1).natAbs ≤ b.natAbs ∧ (v0 - q * v1).natAbs ≤ a.natAbs + 1 := by
    rcases key with ⟨s1, s2, s3, s4, s5, s6⟩ | ⟨s1, s2, s3, s4, s5, s6⟩
    · have t1 : 0 ≤ u1 * (x0 - q * x1) := Int.mul_nonneg s1 n2
      have t2 : -(u0 - q * u1) * x1 ≤ b := by rw [Int.neg_mul]; omega
      have t3 := mul_bound px (by omega) t2
      have t4 : 0 ≤ -v1 * (x0 - q * x1) := Int.mul_nonneg (by omega) n2
      rw [Int.neg_mul] at t4
      have t5 : (v0 - q * v1) * x1 ≤ a := by omega
      have t6 := mul_bound px s4 t5
      omega
    · have t1 : 0 ≤ -u1 * (x0 - q * x1) := Int.mul_nonneg (by omega) n2
      rw [Int.neg_mul] at t1
      have t2 : (u0 - q * u1) * x1 ≤ b := by omega
      have t3 := mul_bound px s2 t2
      have t4 : 0 ≤ v1 * (x0 - q * x1) := Int.mul_nonneg s3 n2
      have t5 : -(v0 - q * v1) * x1 ≤ a := by rw [Int.neg_mul]; omega
      have t6 := mul_bound px (by omega) t5
      omega
  exact {
    h0 := c.h1
    h1 := by
      have e0 := c.h0
      have e1 := c.h1
      simp only [Int.sub_mul, Int.mul_assoc]
      have : q * x1 = q * (u1 * a) + q * (v1 * b) := by rw [← e1, Int.mul_add]
      omega
    n0 := c.n1
    n1 := n2
    g := by rw [e2, gcd_step px]; exact c.g
    sg := key.elim .inl .inr
    bu0 := c.bu1
    bu1 := bnd.1
    bv0 := c.bv1
    bv1 := bnd.2
    bx := c.by_
    by_ := by have := c.by_; omega }

/-- the quotient of a step is bounded -/
theorem comb_q {a b x0 u0 v0 x1 u1 v1 : Int} (c : Comb a b x0 u0 v0 x1 u1 v1) (hx : x1 ≠ 0) : (x0 / x1).natAbs ≤ a.natAbs + b.natAbs := by
  have px : 0 < x1 := by have := c.n1; omega
  have q0 : 0 ≤ x0 / x1 := Int.ediv_nonneg c.n0 c.n1
  have : x0 / x1 ≤ x0 := Int.ediv_le_self _ c.n0
  have := c.bx
  omega
end Tr
namespace Tr
/-! Classes (r, m): what they cover. -/
abbrev Cl := Int × Int
/-- n lies in one of the classes -/
def cov (cs : List Cl) (n : Int) : Prop := ∃ c ∈ cs, c.2 ∣ n - c.1
theorem cov_nil (n : Int) : ¬ cov [] n := fun ⟨_, h, _⟩ => by cases h
theorem cov_app {a b : List Cl} {n : Int} : cov (a ++ b) n ↔ cov a n ∨ cov b n := by
  constructor
  · rintro ⟨c, h, d⟩
    rcases List.mem_append.mp h with h | h
    · exact .inl ⟨c, h, d⟩
    · exact .inr ⟨c, h, d⟩
  · rintro (⟨c, h, d⟩ | ⟨c, h, d⟩)
    · exact ⟨c, List.mem_append_left _ h, d⟩
    · exact ⟨c, List.mem_append_right _ h, d⟩
/-- every class of the one lies within a class of the other -/
def within (cs ds : List Cl) : Prop := ∀ c ∈ cs, ∃ d ∈ ds, d.2 ∣ c.2 ∧ d.2 ∣ c.1 - d.1
theorem dvd_chain {k m n r s : Int} (h1 : k ∣ m) (h2 : k ∣ r - s) (h3 : m ∣ n - r) : k ∣ n - s := by
  have h4 : k ∣ n - r := Int.dvd_trans h1 h3
  have h5 : n - s = (n - r) + (r - s) := by omega
  rw [h5]
  exact Int.dvd_add h4 h2
theorem cov_within {cs ds : List Cl} (h : within cs ds) {n : Int} (c : cov cs n) : cov ds n := by
  obtain ⟨c, hc, d⟩ := c
  obtain ⟨e, he, h1, h2⟩ := h c hc
  exact ⟨e, he, dvd_chain h1 h2 d⟩
theorem within_refl (cs : List Cl) : within cs cs := fun c hc => ⟨c, hc, Int.dvd_refl _, by rw [Int.sub_self]; exact Int.dvd_zero _⟩
/-- what tidy_classes hands back -/
structure Tidy (cs ds : List Cl) : Prop where
  from_ : ∀ d ∈ ds, ∃ c ∈ cs, d.2 = c.2 ∧ d.1 = c.1 % c.2
  to : within cs ds
  len : ds.length ≤ cs.length
theorem emod_sub_dvd (r m : Int) : m ∣ r - r % m := by
  have := Int.emod_add_mul_ediv r m
  exact ⟨r / m, by omega⟩
theorem Tidy.back {cs ds : List Cl} (t : Tidy cs ds) : within ds cs := fun d hd => by
  obtain ⟨c, hc, e1, e2⟩ := t.from_ d hd
  refine ⟨c, hc, by rw [e1]; exact Int.dvd_refl _, ?_⟩
  rw [e2]
  have := emod_sub_dvd c.1 c.2
  obtain ⟨k, hk⟩ := this
  exact ⟨-k, by rw [Int.mul_neg]; omega⟩
theorem Tidy.cov {cs ds : List Cl} (t : Tidy cs ds) (n : Int) : cov ds n ↔ cov cs n := ⟨cov_within t.back, cov_within t.to⟩
theorem Tidy.pos {cs ds : List Cl} (t : Tidy cs ds) (h : ∀ c ∈ cs, 0 < c.2) : ∀ d ∈ ds, 0 < d.2 ∧ 0 ≤ d.1 ∧ d.1 < d.2 := fun d hd => by
  obtain ⟨c, hc, e1, e2⟩ := t.from_ d hd
  have p := h c hc
  rw [e1, e2]
  exact ⟨p, Int.emod_nonneg _ (by omega), Int.emod_lt_of_pos _ p⟩
theorem Tidy.nil {ds : List Cl} (t : Tidy [] ds) : ds = [] := List.eq_nil_of_length_eq_zero (by have := t.len; simp at this; exact this ▸ rfl)
theorem Tidy.ne {cs ds : List Cl} (t : Tidy cs ds) (h : cs ≠ []) : ds ≠ [] := by
  rintro rfl
  cases cs with
  | nil => exact h rfl
  | cons c r =>
    obtain ⟨d, hd, _⟩ := t.to c List.mem_cons_self
    cases hd
/-- inverse: a * x - 1 is a multiple of m -/
def Inv1 (a m x : Int) : Prop := 0 ≤ x ∧ x < m ∧ m ∣ a * x - 1
theorem inv_of {a m u v : Int} (hm : 0 < m) (h : u * (a % m) + v * m = 1) : Inv1 a m (u % m) := by
  refine ⟨Int.emod_nonneg _ (by omega), Int.emod_lt_of_pos _ hm, ?_⟩
  have e1 := Int.emod_add_mul_ediv u m
  have e2 := Int.emod_add_mul_ediv a m
  -- a * (u % m) - 1 = u * (a % m) + v * m  modulo m
  refine ⟨a / m * u - v - a * (u / m), ?_⟩
  have k1 : u % m = u - m * (u / m) := by omega
  have k2 : u * a = u * (a % m) + u * (m * (a / m)) := by rw [← Int.mul_add, e2]
  rw [k1, Int.mul_sub, Int.mul_comm a u, k2]
  have k3 : u * (m * (a / m)) = m * (a / m * u) := by rw [Int.mul_left_comm, Int.mul_comm u]
  have k4 : a * (m * (u / m)) = m * (a * (u / m)) := by rw [Int.mul_left_comm]
  rw [k3, k4, Int.mul_sub, Int.mul_sub, Int.mul_comm m v]
  omega

/-- the classes of refined, ahead of tidying: of (s, k) the t with r + m * t in it -/
structure Ref1 (s k r m t j : Int) : Prop where
  pos : 0 < j
  bd : j ≤ k
  lo : 0 ≤ t
  hi : t < j
  iff : ∀ x : Int, j ∣ x - t ↔ k ∣ r + m * x - s
theorem gcd_pos' {m k : Int} (hk : 0 < k) : 0 < (Int.gcd m k : Int) := by
  have : Int.gcd m k ≠ 0 := fun h => by
    have := (Int.gcd_eq_zero_iff.mp h).2
    omega
  omega
theorem ediv_gcd {m k : Int} (hk : 0 < k) : ∃ m' k', m = Int.gcd m k * m' ∧ k = Int.gcd m k * k' ∧ 0 < k' ∧ m / Int.gcd m k = m' ∧ k / Int.gcd m k = k' ∧ Int.gcd m' k' = 1 := by
  have g0 := gcd_pos' (m := m) hk
  obtain ⟨m', hm⟩ := Int.gcd_dvd_left m k
  obtain ⟨k', hk'⟩ := Int.gcd_dvd_right m k
  have p : 0 < k' := by
    rcases Int.lt_trichotomy k' 0 with h | h | h
    · have := Int.mul_neg_of_pos_of_neg g0 h
      omega
    · rw [h] at hk'; omega
    · exact h
  have e1 : m / Int.gcd m k = m' := Int.ediv_eq_of_eq_mul_right (by omega) hm
  have e2 : k / Int.gcd m k = k' := Int.ediv_eq_of_eq_mul_right (by omega) hk'
  refine ⟨m', k', hm, hk', p, e1, e2, ?_⟩
  have gn : 0 < Int.gcd m k := by omega
  have e3 : Int.gcd m k = Int.gcd m k * Int.gcd m' k' := by
    have := Int.gcd_mul_left (Int.gcd m k : Int) m' k'
    rw [← hm, ← hk'] at this
    simpa using this
  have e4 : Int.gcd m k * Int.gcd m' k' = Int.gcd m k * 1 := by rw [Nat.mul_one]; exact e3.symm
  exact Nat.eq_of_mul_eq_mul_left gn e4
theorem ref_no {s k r m : Int} (h : ¬ (Int.gcd m k : Int) ∣ s - r) (x : Int) : ¬ k ∣ r + m * x - s := fun d => h (by
  have h1 : (Int.gcd m k : Int) ∣ r + m * x - s := Int.dvd_trans (Int.gcd_dvd_right m k) d
  have h2 : (Int.gcd m k : Int) ∣ m * x := Int.dvd_trans (Int.gcd_dvd_left m k) (Int.dvd_mul_right _ _)
  have h3 : s - r = m * x - (r + m * x - s) := by omega
  rw [h3]
  exact Int.dvd_sub h2 h1)
/-- the case small > 1 -/
theorem ref_yes {s k r m i : Int} (hk : 0 < k) (hd : (Int.gcd m k : Int) ∣ s - r) (hi : Inv1 (m / Int.gcd m k) (k / Int.gcd m k) i) :
    Ref1 s k r m ((s - r) / Int.gcd m k * i % (k / Int.gcd m k)) (k / Int.gcd m k) := by
  obtain ⟨m', k', e1, e2, p, d1, d2, co⟩ := ediv_gcd (m := m) hk
  have g0 := gcd_pos' (m := m) hk
  generalize hg : (Int.gcd m k : Int) = g at *
  obtain ⟨q, hq⟩ := hd
  have dq : (s - r) / g = q := Int.ediv_eq_of_eq_mul_right (by omega) hq
  rw [d1, d2] at hi
  rw [dq, d2]
  obtain ⟨i0, i1, z, hz⟩ := hi
  refine ⟨p, ?_, Int.emod_nonneg _ (by omega), Int.emod_lt_of_pos _ p, fun x => ?_⟩
  · rw [e2]
    have := Int.mul_le_mul_of_nonneg_right (show 1 ≤ g by omega) (Int.le_of_lt p)
    omega
  · -- k | r + m x - s  iff  k' | m' x - q  iff  k' | x - q i
    have a1 : r + m * x - s = g * (m' * x - q) := by
      rw [Int.mul_sub, ← Int.mul_assoc, ← e1, ← hq]
      omega
    have a2 : k ∣ r + m * x - s ↔ k' ∣ m' * x - q := by
      rw [a1]
      constructor
      · rintro ⟨c, hc⟩
        refine ⟨c, ?_⟩
        rw [e2, Int.mul_assoc] at hc
        exact Int.eq_of_mul_eq_mul_left (by omega) hc
      · rintro ⟨c, hc⟩
        exact ⟨c, by rw [hc, ← Int.mul_assoc, ← e2]⟩
    rw [a2]
    have b1 : k' ∣ q * i - q * i % k' := emod_sub_dvd _ _
    constructor
    · intro h
      have h1 : k' ∣ x - q * i := by
        have : x - q * i = (x - q * i % k') - (q * i - q * i % k') := by omega
        rw [this]
        exact Int.dvd_sub h b1
      have h2 : k' ∣ m' * (x - q * i) := Int.dvd_trans h1 (Int.dvd_mul_left _ _)
      have h3 : k' ∣ q * (m' * i - 1) := Int.dvd_trans ⟨z, hz⟩ (Int.dvd_mul_left _ _)
      have h4 : m' * x - q = m' * (x - q * i) + q * (m' * i - 1) := by
        simp only [Int.mul_sub, Int.mul_one]
        have : m' * (q * i) = q * (m' * i) := Int.mul_left_comm _ _ _
        omega
      rw [h4]
      exact Int.dvd_add h2 h3
    · intro h
      have h1 : k' ∣ i * (m' * x - q) := Int.dvd_trans h (Int.dvd_mul_left _ _)
      have h3 : k' ∣ x * (m' * i - 1) := Int.dvd_trans ⟨z, hz⟩ (Int.dvd_mul_left _ _)
      have h4 : x - q * i = i * (m' * x - q) - x * (m' * i - 1) := by
        simp only [Int.mul_sub, Int.mul_one]
        have : i * (m' * x) = x * (m' * i) := by rw [Int.mul_left_comm, Int.mul_comm i x, Int.mul_left_comm]
        have : i * q = q * i := Int.mul_comm _ _
        omega
      have h5 : x - q * i % k' = (x - q * i) + (q * i - q * i % k') := by omega
      rw [h5]
      refine Int.dvd_add ?_ b1
      rw [h4]
      exact Int.dvd_sub h1 h3
/-- the case small = 1 -/
theorem ref_one {s k r m : Int} (hk : 0 < k) (hd : (Int.gcd m k : Int) ∣ s - r) (h1 : ¬ k / Int.gcd m k > 1) : Ref1 s k r m 0 (k / Int.gcd m k) := by
  obtain ⟨m', k', e1, e2, p, d1, d2, co⟩ := ediv_gcd (m := m) hk
  have e : k / Int.gcd m k = 1 := by rw [d2] at h1 ⊢; omega
  have ek : k = (Int.gcd m k : Int) := by
    rw [d2] at e
    rw [e, Int.mul_one] at e2
    exact e2
  rw [e]
  refine ⟨by omega, by omega, by omega, by omega, fun x => ⟨fun _ => ?_, fun _ => Int.one_dvd _⟩⟩
  have h2 : k ∣ m * x := by
    rw [ek]
    exact Int.dvd_trans (Int.gcd_dvd_left m k) (Int.dvd_mul_right _ _)
  have h3 : k ∣ s - r := by rw [ek]; exact hd
  have h4 : r + m * x - s = m * x - (s - r) := by omega
  rw [h4]
  exact Int.dvd_sub h2 h3

/-- what refined builds ahead of tidying -/
inductive RefL (r m : Int) : List Cl → List Cl → Prop where
  | nil : RefL r m [] []
  | no {s k : Int} {cs ds : List Cl} : ¬ (Int.gcd m k : Int) ∣ s - r → RefL r m cs ds → RefL r m ((s, k) :: cs) ds
  | yes {s k t : Int} {cs ds : List Cl} : (Int.gcd m k : Int) ∣ s - r → Ref1 s k r m t (k / Int.gcd m k) → RefL r m cs ds → RefL r m ((s, k) :: cs) ((t, k / Int.gcd m k) :: ds)
theorem RefL.cov {r m : Int} {cs ds : List Cl} (h : RefL r m cs ds) (x : Int) : cov ds x ↔ Tr.cov cs (r + m * x) := by
  induction h with
  | nil => exact ⟨fun c => (cov_nil _ c).elim, fun c => (cov_nil _ c).elim⟩
  | @no s k cs ds hn _ ih =>
    constructor
    · intro c
      obtain ⟨c, hc, d⟩ := ih.mp c
      exact ⟨c, List.mem_cons_of_mem _ hc, d⟩
    · rintro ⟨c, hc, d⟩
      rcases List.mem_cons.mp hc with rfl | hc
      · exact (ref_no hn x d).elim
      · exact ih.mpr ⟨c, hc, d⟩
  | @yes s k t cs ds hd hr _ ih =>
    constructor
    · rintro ⟨c, hc, d⟩
      rcases List.mem_cons.mp hc with rfl | hc
      · exact ⟨(s, k), List.mem_cons_self, (hr.iff x).mp d⟩
      · obtain ⟨c', hc', d'⟩ := ih.mp ⟨c, hc, d⟩
        exact ⟨c', List.mem_cons_of_mem _ hc', d'⟩
    · rintro ⟨c, hc, d⟩
      rcases List.mem_cons.mp hc with rfl | hc
      · exact ⟨_, List.mem_cons_self, (hr.iff x).mpr d⟩
      · obtain ⟨c', hc', d'⟩ := ih.mpr ⟨c, hc, d⟩
        exact ⟨c', List.mem_cons_of_mem _ hc', d'⟩
theorem RefL.snoc_no {r m : Int} {cs ds : List Cl} (h : RefL r m cs ds) {s k : Int} (hn : ¬ (Int.gcd m k : Int) ∣ s - r) : RefL r m (cs ++ [(s, k)]) ds := by
  induction h with
  | nil => exact .no hn .nil
  | no a _ ih => exact .no a ih
  | yes a b _ ih => exact .yes a b ih
theorem RefL.snoc_yes {r m : Int} {cs ds : List Cl} (h : RefL r m cs ds) {s k t : Int} (hn : (Int.gcd m k : Int) ∣ s - r) (hr : Ref1 s k r m t (k / Int.gcd m k)) : RefL r m (cs ++ [(s, k)]) (ds ++ [(t, k / Int.gcd m k)]) := by
  induction h with
  | nil => exact .yes hn hr .nil
  | no a _ ih => exact .no a ih
  | yes a b _ ih => exact .yes a b ih
theorem RefL.len {r m : Int} {cs ds : List Cl} (h : RefL r m cs ds) : ds.length ≤ cs.length := by
  induction h with
  | nil => exact Nat.le_refl _
  | no _ _ ih => simp only [List.length_cons]; omega
  | yes _ _ _ ih => simp only [List.length_cons]; omega
theorem RefL.pos {r m : Int} {cs ds : List Cl} (h : RefL r m cs ds) : ∀ d ∈ ds, 0 < d.2 ∧ 0 ≤ d.1 ∧ d.1 < d.2 := by
  induction h with
  | nil => intro d hd; cases hd
  | no _ _ ih => exact ih
  | yes _ hr _ ih =>
    intro d hd
    rcases List.mem_cons.mp hd with rfl | hd
    · exact ⟨hr.pos, hr.lo, hr.hi⟩
    · exact ih d hd
theorem RefL.bd {r m B : Int} {cs ds : List Cl} (h : RefL r m cs ds) (hb : ∀ c ∈ cs, c.2 ≤ B) : ∀ d ∈ ds, d.2 ≤ B := by
  induction h with
  | nil => intro d hd; cases hd
  | no _ _ ih => exact ih fun c hc => hb c (List.mem_cons_of_mem _ hc)
  | yes _ hr _ ih =>
    intro d hd
    rcases List.mem_cons.mp hd with rfl | hd
    · exact Int.le_trans hr.bd (hb _ List.mem_cons_self)
    · exact ih (fun c hc => hb c (List.mem_cons_of_mem _ hc)) d hd
/-- a class with the modulus m either meets r + m * Z in all of it, or falls away -/
theorem RefL.less {r m : Int} {cs ds : List Cl} (hm : 0 < m) (h : RefL r m cs ds) (hc : ∃ c ∈ cs, c.2 = m) : (∃ d ∈ ds, d.2 = 1) ∨ ds.length < cs.length := by
  induction h with
  | nil => obtain ⟨c, hc, _⟩ := hc; cases hc
  | no _ h' ih => exact .inr (by have := h'.len; simp only [List.length_cons]; omega)
  | @yes s k t cs ds hd hr h' ih =>
    by_cases e : k = m
    · subst e
      refine .inl ⟨_, List.mem_cons_self, ?_⟩
      have : (Int.gcd k k : Int) = k := by rw [Int.gcd_self]; omega
      show k / (Int.gcd k k : Int) = 1
      rw [this]
      exact Int.ediv_self (by omega)
    · obtain ⟨c, hc, ec⟩ := hc
      rcases List.mem_cons.mp hc with rfl | hc
      · exact (e ec).elim
      · rcases ih ⟨c, hc, ec⟩ with ⟨d, hd, ed⟩ | hl
        · exact .inl ⟨d, List.mem_cons_of_mem _ hd, ed⟩
        · exact .inr (by simp only [List.length_cons]; omega)
theorem Tidy.one {cs ds : List Cl} (t : Tidy cs ds) (hp : ∀ c ∈ cs, 0 < c.2) (h : ∃ c ∈ cs, c.2 = 1) : ∃ d ∈ ds, d.2 = 1 := by
  obtain ⟨c, hc, e⟩ := h
  obtain ⟨d, hd, h1, _⟩ := t.to c hc
  refine ⟨d, hd, ?_⟩
  have p := (t.pos hp d hd).1
  rw [e] at h1
  have := Int.le_of_dvd (by omega) h1
  omega

/-- the answer of bare_number -/
def Bare (cs : List Cl) : Option Int → Prop
  | none => ∀ n, cov cs n
  | some b => 0 ≤ b ∧ ¬ cov cs b
/-- a number within the first ones that none of the classes has: their moduli are above their number -/
theorem pigeon : ∀ (cs : List Cl), (∀ c ∈ cs, (cs.length : Int) < c.2) → ∃ n : Int, 0 ≤ n ∧ n ≤ cs.length ∧ ¬ cov cs n := by
  intro cs h
  -- each class has at most one of 0 .. length
  have gen : ∀ (ds : List Cl) (L : List Int) (N : Int), L.Nodup → (∀ x ∈ L, 0 ≤ x ∧ x ≤ N) → (∀ c ∈ ds, N < c.2) → ds.length < L.length → ∃ n ∈ L, ¬ cov ds n := by
    intro ds
    induction ds with
    | nil =>
      intro L N _ _ _ hl
      cases L with
      | nil => simp at hl
      | cons x L => exact ⟨x, List.mem_cons_self, cov_nil _⟩
    | cons d ds ih =>
      intro L N nd hL hc hl
      -- at most one member of L lies in d
      have one : ∀ x ∈ L, ∀ y ∈ L, d.2 ∣ x - d.1 → d.2 ∣ y - d.1 → x = y := by
        intro x hx y hy h1 h2
        have h3 : d.2 ∣ x - y := by
          have : x - y = (x - d.1) - (y - d.1) := by omega
          rw [this]
          exact Int.dvd_sub h1 h2
        have b := hc d List.mem_cons_self
        have bx := hL x hx
        have b_y := hL y hy
        obtain ⟨q, hq⟩ := h3
        have q0 : q = 0 := by
          rcases Int.lt_trichotomy q 0 with z | z | z
          · have := Int.mul_le_mul_of_nonneg_left (show q ≤ -1 by omega) (show 0 ≤ d.2 by omega)
            omega
          · exact z
          · have := Int.mul_le_mul_of_nonneg_left (show 1 ≤ q by omega) (show 0 ≤ d.2 by omega)
            omega
        rw [q0] at hq
        omega
      by_cases ex : ∃ x ∈ L, d.2 ∣ x - d.1
      · obtain ⟨x, hx, hd⟩ := ex
        obtain ⟨n, hn, hn2⟩ := ih (L.erase x) N (nd.erase _) (fun y hy => hL y (List.mem_of_mem_erase hy)) (fun c hc' => hc c (List.mem_cons_of_mem _ hc'))
          (by rw [List.length_erase_of_mem hx]; simp only [List.length_cons] at hl; omega)
        have hnL := List.mem_of_mem_erase hn
        refine ⟨n, hnL, ?_⟩
        rintro ⟨c, hc', hcd⟩
        rcases List.mem_cons.mp hc' with rfl | hc'
        · have e := one n hnL x hx hcd hd
          subst e
          exact (List.Nodup.not_mem_erase nd) hn
        · exact hn2 ⟨c, hc', hcd⟩
      · obtain ⟨n, hn, hn2⟩ := ih L N nd hL (fun c hc' => hc c (List.mem_cons_of_mem _ hc')) (by simp only [List.length_cons] at hl; omega)
        refine ⟨n, hn, ?_⟩
        rintro ⟨c, hc', hcd⟩
        rcases List.mem_cons.mp hc' with rfl | hc'
        · exact ex ⟨n, hn, hcd⟩
        · exact hn2 ⟨c, hc', hcd⟩
  obtain ⟨n, hn, hc⟩ := gen cs ((List.range (cs.length + 1)).map (fun i : Nat => (i : Int))) cs.length (by
      refine List.Pairwise.map _ (fun a b (h : a ≠ b) e => h (by omega)) List.nodup_range) (fun x hx => by
      obtain ⟨i, hi, rfl⟩ := List.mem_map.mp hx
      have := List.mem_range.mp hi
      omega) h (by simp)
  obtain ⟨i, hi, rfl⟩ := List.mem_map.mp hn
  have := List.mem_range.mp hi
  exact ⟨i, by omega, by omega, hc⟩
end Tr

namespace Tr
open PySem L2
/-! ### bounds -/
def Bd (n : Nat) (x : Int) : Prop := x.natAbs < 2 ^ n
theorem Bd.mono {n m : Nat} {x : Int} (h : Bd n x) (l : n ≤ m) : Bd m x := Nat.lt_of_lt_of_le h (Nat.pow_le_pow_right (by decide) l)
theorem Bd.le {n : Nat} {x y : Int} (h : Bd n x) (l : y.natAbs ≤ x.natAbs) : Bd n y := Nat.lt_of_le_of_lt l h
theorem Bd.mul {n m : Nat} {x y : Int} (h : Bd n x) (k : Bd m y) : Bd (n + m) (x * y) := wide_lt h k
theorem Bd.add {n m : Nat} {x y : Int} (h : Bd n x) (k : Bd n y) (l : n < m) : Bd m (x + y) := by
  refine Bd.mono (n := n + 1) ?_ l
  have h' : x.natAbs < 2 ^ n := h
  have k' : y.natAbs < 2 ^ n := k
  show (x + y).natAbs < 2 ^ (n + 1)
  have := Int.natAbs_add_le x y
  rw [Nat.pow_succ]
  omega
theorem Bd.neg {n : Nat} {x : Int} (h : Bd n x) : Bd n (-x) := h.le (by simp)
theorem Bd.sub {n m : Nat} {x y : Int} (h : Bd n x) (k : Bd n y) (l : n < m) : Bd m (x - y) := by
  rw [Int.sub_eq_add_neg]
  exact h.add k.neg l
theorem Bd.div {n : Nat} {x y : Int} (h : Bd n x) (hy : 0 < y) : Bd n (x / y) := h.le (Int.natAbs_ediv_le_natAbs x y)
theorem Bd.mod {n : Nat} {x y : Int} (h : Bd n y) (hy : 0 < y) : Bd n (x % y) := by
  have := Int.emod_nonneg x (show y ≠ 0 by omega)
  have := Int.emod_lt_of_pos x hy
  exact h.le (by omega)
theorem Bd.two {n : Nat} {a b x : Int} (h : Bd n a) (k : Bd n b) (l : x.natAbs ≤ a.natAbs + b.natAbs) : Bd (n + 1) x := by
  have h' : a.natAbs < 2 ^ n := h
  have k' : b.natAbs < 2 ^ n := k
  show x.natAbs < 2 ^ (n + 1)
  rw [Nat.pow_succ]
  omega
theorem Bd.one {n : Nat} {a x : Int} (h : Bd n a) (l : x.natAbs ≤ a.natAbs + 1) : Bd (n + 1) x := by
  have h' : a.natAbs < 2 ^ n := h
  show x.natAbs < 2 ^ (n + 1)
  rw [Nat.pow_succ]
  have := Nat.two_pow_pos n
  omega
theorem cmulw {n m : Nat} {x y : Int} (h : Bd n x) (k : Bd m y) (l : n + m ≤ 900000) : CMulW x y :=
  wide_mul (a := n + 1) (b := m + 1) (h.mono (Nat.le_succ _)) (k.mono (Nat.le_succ _)) (Nat.succ_pos _) (Nat.succ_pos _) (by omega)
theorem cdivw {m : Nat} {x y : Int} (hy : 0 < y) (k : Bd m y) (l : m ≤ 8999) : CDivW x y :=
  wide_div (b := m + 1) hy (k.mono (Nat.le_succ _)) (Nat.succ_pos _) (by omega)

theorem dI (a b : Int) : decide (V.int a = V.int b) = decide (a = b) := by
  rw [dec_int, Bool.beq_eq_decide_eq]
theorem iteB {b : Bool} {A B : Prop} (h1 : b = true → A) (h2 : b = false → B) : if b = true then A else B := by
  cases b
  · rw [if_neg Bool.false_ne_true]; exact h2 rfl
  · rw [if_pos rfl]; exact h1 rfl
theorem of_dI {a b : Int} (h : decide (V.int a = V.int b) = true) : a = b := by rw [dI] at h; exact of_decide_eq_true h
theorem of_dI' {a b : Int} (h : decide (V.int a = V.int b) = false) : a ≠ b := by rw [dI] at h; exact of_decide_eq_false h
end Tr

/-! # Classes: their making, methods, own operators. -/
namespace Tr
open PySem PySem.Spec PyProof.Rows L2

/-- a method of the class at C, as the top has left it -/
structure Mth (K : PySem.W.Frag) (C : Addr) (m qual : Str) (st : Stmt) : Prop where
  cls : Cls K C
  ex : ∃ f fd, Meth K C m f ∧ Fun K m qual st f fd
/-- a property -/
structure Prp (K : PySem.W.Frag) (C : Addr) (m qual : Str) (st : Stmt) : Prop where
  cls : Cls K C
  ex : ∃ p g fd, PropOf K C m p g ∧ Fun K m qual st g fd
/-- a class that is made by its name, n defaults -/
structure Ini (K : PySem.W.Frag) (mg : Str → Option Value) (x qual : Str) (C : Addr) (st : Stmt) (n : Nat) : Prop where
  ex : ∃ f fd dvs, Mk K C f ∧ mg x = some (.ref C) ∧ FunD K "__init__" qual (defArgs st) (defBody st) (defScope st) dvs [] f fd ∧ dvs.length = n
/-- a property that may be read -/
structure Pro (P : Program) (w : World) (K : PySem.W.Frag) (mg : Str → Option Value) (base : Heap) (k : Nat) (C : Addr) (m : Str) (sp : Sp) : Prop where
  ex : ∃ (p g : Addr) (fd : FuncData) (ps : List Str), Cls K C ∧ PropOf K C m p g ∧ FnOk P w K mg base (L2.CX P w) k g fd ps sp ∧ Binds K fd ps []

section
variable {P : Program} {w : World} {K : PySem.W.Frag} {mg : Str → Option Value} {base : Heap}
theorem Met.mono {j k : Nat} {C : Addr} {x : Str} {sp : Sp} {dvs : List V} (c : Met P w K mg base j C x sp dvs) (h : j ≤ k) : Met P w K mg base k C x sp dvs :=
  let ⟨f, fd, ps, ds, a, b, F, r⟩ := c.ex
  ⟨f, fd, ps, ds, a, b, F.mono h, r⟩
theorem Mak.mono {j k : Nat} {C : Addr} {x : Str} {sp : Sp} {dvs : List V} (c : Mak P w K mg base j x C sp dvs) (h : j ≤ k) : Mak P w K mg base k x C sp dvs :=
  let ⟨f, fd, ps, ds, a, F, r⟩ := c.ex
  ⟨f, fd, ps, ds, a, F.mono h, r⟩
theorem metN {m qual : Str} {C : Addr} {st : Stmt} {N ps : List Str} {k : Nat} {sp : Sp} (D : Mth K C m qual st) (S : FnScope N ps (defScope st)) (len : ∀ vs H Q E, sp vs H Q E → vs.length = ps.length)
    (hb : ∀ (kV doc pm : Value) (an : Option Addr) (cdv ct : Value) (us : List Value), us.length = ps.length → bindArgs (PySem.W.fnOf m qual (defArgs st) (defBody st) (defScope st) .none kV doc pm an cdv ct) ⟨us, []⟩ = pure (ps.zip us))
    (hbody : ∀ (f : Addr) (cdv : Value) (A : Around) (outer : List Env) (s : Shared) (H : Hp) (vs : List V) (Q : VK) (E : XK), Room k (A.deeper (envOfC qual (defScope st) s.heap.objs.size f cdv)) → sp vs H Q E →
      ∃ t, PSs (cxOf (L2.CX P w) P w K mg base N qual (defScope st) f cdv A outer s H E).nox (defBody st) t ∧ t { nx := fun _ H' => Q .non H', rt := Q } (start N vs) H) : Met P w K mg base (k + 1) C m sp [] :=
  let ⟨f, fd, M, F⟩ := D.ex
  ⟨f, fd, ps, [], D.cls, M, okN F S len (hbody f), F.binds hb, .nil⟩
theorem metX {m qual : Str} {C : Addr} {st : Stmt} {N ps : List Str} {k : Nat} {sp : Sp} (D : Mth K C m qual st) (S : FnScope N ps (defScope st)) (len : ∀ vs H Q E, sp vs H Q E → vs.length = ps.length)
    (hb : ∀ (kV doc pm : Value) (an : Option Addr) (cdv ct : Value) (us : List Value), us.length = ps.length → bindArgs (PySem.W.fnOf m qual (defArgs st) (defBody st) (defScope st) .none kV doc pm an cdv ct) ⟨us, []⟩ = pure (ps.zip us))
    (hbody : ∀ (f : Addr) (cdv : Value) (A : Around) (outer : List Env) (s : Shared) (H : Hp) (vs : List V) (Q : VK) (E : XK), Room k (A.deeper (envOfC qual (defScope st) s.heap.objs.size f cdv)) → sp vs H Q E →
      ∃ t, PSs (cxOf (L2.CX P w) P w K mg base N qual (defScope st) f cdv A outer s H E) (defBody st) t ∧ t { nx := fun _ H' => Q .non H', rt := Q } (start N vs) H) : Met P w K mg base (k + 1) C m sp [] :=
  let ⟨f, fd, M, F⟩ := D.ex
  ⟨f, fd, ps, [], D.cls, M, F.okX S len (hbody f), F.binds hb, .nil⟩
theorem proN {m qual : Str} {C : Addr} {st : Stmt} {N ps : List Str} {k : Nat} {sp : Sp} (D : Prp K C m qual st) (S : FnScope N ps (defScope st)) (len : ∀ vs H Q E, sp vs H Q E → vs.length = ps.length)
    (hb : ∀ (kV doc pm : Value) (an : Option Addr) (cdv ct : Value) (us : List Value), us.length = ps.length → bindArgs (PySem.W.fnOf m qual (defArgs st) (defBody st) (defScope st) .none kV doc pm an cdv ct) ⟨us, []⟩ = pure (ps.zip us))
    (hbody : ∀ (f : Addr) (cdv : Value) (A : Around) (outer : List Env) (s : Shared) (H : Hp) (vs : List V) (Q : VK) (E : XK), Room k (A.deeper (envOfC qual (defScope st) s.heap.objs.size f cdv)) → sp vs H Q E →
      ∃ t, PSs (cxOf (L2.CX P w) P w K mg base N qual (defScope st) f cdv A outer s H E).nox (defBody st) t ∧ t { nx := fun _ H' => Q .non H', rt := Q } (start N vs) H) : Pro P w K mg base (k + 1) C m sp :=
  let ⟨p, g, fd, M, F⟩ := D.ex
  ⟨p, g, fd, ps, D.cls, M, okN F S len (hbody g), F.binds hb⟩
/-- all parameters written -/
theorem binds_all {x qual : Str} {params : Arguments} {body : List Stmt} {scope : Scope} {dvs : List V} {f : Addr} {fd : FuncData} {ps : List Str} (F : FunD K x qual params body scope dvs [] f fd) (n : Nat) (hn : n = ps.length)
    (h : ∀ (T : Addr) (kV doc pm : Value) (an : Option Addr) (cdv ct : Value) (us its : List Value), us.length = n → its.length = dvs.length →
      ∃ k, bindArgs (PySem.W.fnOf x qual params body scope (.ref T) kV doc pm an cdv ct) ⟨us, []⟩ = seqItems? (.ref T) >>= k ∧ k (some its.toArray) = pure (ps.zip (us ++ []))) (hd : dvs ≠ []) : Binds K fd ps [] := by
  obtain ⟨ds, r, b⟩ := F.binds1 (ps := ps) n dvs.length hd (by omega) (fun T kV doc pm an cdv ct us its h1 h2 => by
    obtain ⟨k, e1, e2⟩ := h T kV doc pm an cdv ct us its h1 h2
    refine ⟨k, e1, ?_⟩
    rw [e2, ← h2, List.drop_length])
  rw [List.drop_length] at r
  cases r
  exact b
theorem makN {x qual : Str} {C : Addr} {st : Stmt} {n : Nat} {N ps : List Str} {k : Nat} {sp : Sp} (D : Ini K mg x qual C st n) (S : FnScope N ps (defScope st)) (len : ∀ vs H Q E, sp vs H Q E → vs.length = ps.length)
    (hb : ∀ dvs f fd, dvs.length = n → FunD K "__init__" qual (defArgs st) (defBody st) (defScope st) dvs [] f fd → Binds K fd ps [])
    (hbody : ∀ (f : Addr) (cdv : Value) (A : Around) (outer : List Env) (s : Shared) (H : Hp) (vs : List V) (Q : VK) (E : XK), Room k (A.deeper (envOfC qual (defScope st) s.heap.objs.size f cdv)) → sp vs H Q E →
      ∃ t, PSs (cxOf (L2.CX P w) P w K mg base N qual (defScope st) f cdv A outer s H E).nox (defBody st) t ∧ t { nx := fun _ H' => Q .non H', rt := Q } (start N vs) H) : Mak P w K mg base (k + 1) x C sp [] :=
  let ⟨f, fd, dvs, M, hm, F, hl⟩ := D.ex
  ⟨f, fd, ps, [], M, F.ok S len (fun cdv A outer s H vs Q E hr h =>
    let ⟨t, h1, h2⟩ := hbody f cdv A outer s H vs Q E hr h
    ⟨t, h1.nox, h2⟩), hm, hb dvs f fd hl F, .nil⟩
end

section
variable {X : Cx} {k j : Nat} {C : Addr} {x m : Str} {sp : Sp} {dvs : List V} {p pos apos : Pos} {e o : Expr} {es : List Expr} {ta : TE} {t : TA} {E : XK}
theorem pe_mkx (c : Mak X.prog X.w X.K X.mg X.base k x C sp dvs) (hr : Room j X.A) (hk : k + 1 ≤ j) (hg : Gl X x) (hx : Passes (L2.CX X.prog X.w) X E) (ha : PA X (e :: es) t)
    (hdb : (x == ("__debug__" : Str)) = false := by decide) (he : starEach (e :: es) X.env = (false, eval e X.env) :: starEach es X.env := by rfl) (hpl : (backTo pos (starEach es X.env)).any (·.1) = false := by rfl) :
    PE X (.Call (.Name x p) (e :: es) [] pos) (tMake C sp dvs E t) := by
  obtain ⟨f, fd, ps, ds, M, F, hm, b, d⟩ := c.ex
  exact pe_make M F (hr.mono hk) hg hm b d hx ha hdb he hpl
theorem pe_mtx {pl : Sem Bool} (c : Met X.prog X.w X.K X.mg X.base k C m sp dvs) (hr : Room j X.A) (hk : k ≤ j) (hx : Passes (L2.CX X.prog X.w) X E) (he : PE X o ta) (ha : PA X (e :: es) t)
    (hst : starEach (e :: es) X.env = (false, eval e X.env) :: starEach es X.env := by rfl) (hpl : (backTo pos (starEach es X.env)).any (·.1) = false := by rfl)
    (ht : eval (.Call (.Attribute o m apos) (e :: es) [] pos) X.env = (do
      let ov ← eval o X.env
      standAt apos.atName
      let (f, first) ← holding [ov] (getMethod ov m pl)
      callWith pos f first (backTo pos (starEach (e :: es) X.env)) (backToKw pos (keywordEach [] X.env))) := by rfl) :
    PE X (.Call (.Attribute o m apos) (e :: es) [] pos) (tMeth C m sp dvs E ta t) := by
  obtain ⟨f, fd, ps, ds, hc, hm, F, b, d⟩ := c.ex
  exact pe_meth (pl := pl) he hc hm F (hr.mono hk) b d hx ha hst hpl ht
theorem pe_mtx0 {pl : Sem Bool} (c : Met X.prog X.w X.K X.mg X.base k C m sp dvs) (hr : Room j X.A) (hk : k ≤ j) (hx : Passes (L2.CX X.prog X.w) X E) (he : PE X o ta)
    (ht : eval (.Call (.Attribute o m apos) [] [] pos) X.env = (do
      let ov ← eval o X.env
      standAt apos.atName
      let (f, first) ← holding [ov] (getMethod ov m pl)
      callWith pos f first (backTo pos (starEach [] X.env)) (backToKw pos (keywordEach [] X.env))) := by rfl) :
    PE X (.Call (.Attribute o m apos) [] [] pos) (tMeth C m sp dvs E ta tNil) := by
  obtain ⟨f, fd, ps, ds, hc, hm, F, b, d⟩ := c.ex
  exact pe_meth0 (pl := pl) he hc hm F (hr.mono hk) b d hx ht
theorem pe_px (c : Pro X.prog X.w X.K X.mg X.base k C m sp) (hr : Room j X.A) (hk : k + 1 ≤ j) (he : PE X e ta) (hx : Passes (L2.CX X.prog X.w) X.nox E)
    (hab : attributeBase e m X.env (eval e X.env) = eval e X.env := by rfl) : PE X (.Attribute e m pos) (tProp C sp [] E ta) := by
  obtain ⟨p, g, fd, ps, hc, hp, F, b⟩ := c.ex
  exact pe_prop he hc hp F (hr.mono hk) b .nil hx hab
end

/-! ### own operators -/
section
variable {X : Cx} {k : Nat} {C : Addr} {sp : Sp} {E : XK}
theorem run_at {CX : CXT} {f : Addr} {fd : FuncData} {ps : List Str} {pins : List (Addr × Obj)} {σ : L2.St} {H : Hp} {s : Shared} {Q : VK} {us : List Value} {vs : List V} {A : Around} (F : FnOk X.prog X.w X.K X.mg X.base CX k f fd ps sp) (hr : Room k A) (hf : A.frames = X.A.frames)
    (hb : Binds X.K fd ps []) (hx : Passes CX X E) (I : Inv X pins σ H s) (r : Vals vs us) (h : sp vs H Q E) : wpAny (model X.prog X.w) A (call (.ref f) us) (EP X pins σ Q) X.xe s := by
  have e0 : Env0 X.prog X.w X.K X.mg X.base A X.stack s H := by
    have e := I.env0
    exact ⟨by rw [hf]; exact e.frames, e.mod, e.bs, e.bsz, e.funs, e.frf, e.hok, e.bare⟩
  have hl : (us ++ []).length = ps.length := by rw [List.append_nil, ← r.length]; exact F.len _ _ _ _ h
  have b := hb s us I.kIn hl
  rw [List.append_nil] at b
  refine wpAny_call (codeAny_mono (F.run A X.stack s H ⟨us, []⟩ us vs Q E hr e0 b r h) fun r s' hq => ?_)
  cases r with
  | error e => exact hx pins σ H s e s' I hq
  | ok fl =>
    cases fl with
    | ret u => exact I.after hq
    | next => exact False.elim hq
    | brk => exact False.elim hq
    | cont => exact False.elim hq
/-- the reading of an own operator -/
def rOwn (C : Addr) (sp : Sp) (E : XK) (g : V → V → List V) (out : Bool → V) : V → V → V → Hp → VK → Prop := fun o x y H Q => ∃ a dx fs, o = .ref a ∧ H a = some (.ins C dx fs) ∧ sp (g x y) H (fun v H' => ∃ b, v = .bl b ∧ Q (out b) H') E
def rInO (C : Addr) (sp : Sp) (E : XK) (out : Bool → V) : R2 := fun x y H Q => ∃ a dx fs, y = .ref a ∧ H a = some (.ins C dx fs) ∧ sp [y, x] H (fun v H' => ∃ b, v = .bl b ∧ Q (out b) H') E
theorem or_inO (c : Met X.prog X.w X.K X.mg X.base k C "__contains__" sp []) {j : Nat} (hr : Room j X.A) (hk : k ≤ j) (hx : Passes (L2.CX X.prog X.w) X E) : OpR X (compareOp .In) (rInO C sp E .bl) := by
  obtain ⟨f, fd, ps, ds, hc, hm, F, b, d⟩ := c.ex
  cases d
  intro pins s σ H x y v u Q I rx ry h
  obtain ⟨a, dx, fs, rfl, ha, h⟩ := h
  cases ry
  obtain ⟨mA, J, _⟩ := ins_get I.hok ha
  obtain ⟨od, J, _⟩ := J.look
  obtain ⟨m, hF⟩ := I.fr
  refine PySem.W.in_K hF I.ok.mod.kin J hm.at_ hm.fn ?_
  refine wpAny_mono (run_at F (hr.mono hk) rfl b hx I (us := [.ref a, v]) (vs := [.ref a, x]) (.cons rfl (.cons rx .nil)) h) (fun r s' q => ?_) fun _ _ z => z
  obtain ⟨z, H', I', rz, b', rfl, q⟩ := q
  cases rz
  exact wpAny_truthy_bool ⟨.bl b', H', I', rfl, q⟩
theorem or_notInO (c : Met X.prog X.w X.K X.mg X.base k C "__contains__" sp []) {j : Nat} (hr : Room j X.A) (hk : k ≤ j) (hx : Passes (L2.CX X.prog X.w) X E) : OpR X (compareOp .NotIn) (rInO C sp E fun b => .bl (!b)) := by
  obtain ⟨f, fd, ps, ds, hc, hm, F, b, d⟩ := c.ex
  cases d
  intro pins s σ H x y v u Q I rx ry h
  obtain ⟨a, dx, fs, rfl, ha, h⟩ := h
  cases ry
  obtain ⟨mA, J, _⟩ := ins_get I.hok ha
  obtain ⟨od, J, _⟩ := J.look
  obtain ⟨m, hF⟩ := I.fr
  refine PySem.W.notIn_K hF I.ok.mod.kin J hm.at_ hm.fn ?_
  refine wpAny_mono (run_at F (hr.mono hk) rfl b hx I (us := [.ref a, v]) (vs := [.ref a, x]) (.cons rfl (.cons rx .nil)) h) (fun r s' q => ?_) fun _ _ z => z
  obtain ⟨z, H', I', rz, b', rfl, q⟩ := q
  cases rz
  exact wpAny_truthy_bool ⟨.bl (!b'), H', I', rfl, q⟩
/-- == of two instances of one class -/
def rEqO (C : Addr) (sp : Sp) (E : XK) (out : Bool → V) : R2 := fun x y H Q => ∃ a dx fs b dy gs, x = .ref a ∧ y = .ref b ∧ H a = some (.ins C dx fs) ∧ H b = some (.ins C dy gs) ∧ sp [x, y] H (fun v H' => ∃ b, v = .bl b ∧ Q (out b) H') E
theorem or_eqO (c : Met X.prog X.w X.K X.mg X.base k C "__eq__" sp []) {j : Nat} (hr : Room j X.A) (hk : k ≤ j) (hx : Passes (L2.CX X.prog X.w) X E) : OpR X (compareOp .Eq) (rEqO C sp E .bl) := by
  obtain ⟨f, fd, ps, ds, hc, hm, F, b, d⟩ := c.ex
  cases d
  intro pins s σ H x y v u Q I rx ry h
  obtain ⟨a, dx, fs, c, dy, gs, rfl, rfl, ha, hc', h⟩ := h
  cases rx
  cases ry
  obtain ⟨mA, J, _⟩ := ins_get I.hok ha
  obtain ⟨mB, J', _⟩ := ins_get I.hok hc'
  obtain ⟨od, J, _⟩ := J.look
  obtain ⟨od', J', _⟩ := J'.look
  obtain ⟨m, hF⟩ := I.fr
  show wpAny (model X.prog X.w) X.A (richCompare .Eq (.ref a) (.ref c)) _ _ s
  refine PySem.W.cmp_K (op := .Eq) (tb := .ref C) hr.units0 hF I.ok.mod.kin J J'.type (by simp [PySem.W.notFirst]) hm.at_ hm.fn ?_
  refine wpAny_mono (run_at F (hr.mono hk) rfl b hx I (us := [.ref a, .ref c]) (vs := [.ref a, .ref c]) (.cons rfl (.cons rfl .nil)) h) (fun r s' q => ?_) fun _ _ z => z
  obtain ⟨z, H', I', rz, b', rfl, q⟩ := q
  cases rz
  exact ⟨.bl b', H', I', rfl, q⟩

/-- what != of a class without own __ne__ leans on -/
structure NeOf (K : PySem.W.Frag) (C : Addr) : Prop where
  ne : PySem.W.findIn K (.ref C) "__ne__" = some (some (.builtin "object.__ne__"))
  mro : PySem.W.mroIn K C (.type "object") = some true
theorem ifBound_ne {M : Model} {A : Around} {E : Value → Shared → Prop} {s : Shared} {K : PySem.W.Frag} {x C : Addr} {ox : Obj} {od : Option Obj} {args : List Value} {Q : Option Value → Shared → Prop} (X : K.In s.heap) (I : PySem.W.InstAt s.heap x ox C od) (hs : PySem.W.findIn K (.ref C) "__ne__" = some (some (.builtin "object.__ne__")))
    (h : wpAny M A (call (.builtin "object.__ne__") (.ref x :: args)) (fun v => Q (some v)) E s) : wpAny M A (callSpecialIfBound? (.ref x) "__ne__" args) Q E s := by
  simp only [callSpecialIfBound?, bindSpecialIfBound?]
  refine wpAny_holding (wpAny_bind (wpAny_bind (wpAny_bind (I.type.here ((PySem.W.looks_findIn X hs).here ?_)))))
  refine wpAny_bind (wpAny_askSetting (wpAny_ite ?_))
  have fin : wpAny M A (call (.builtin "object.__ne__") ([.ref x] ++ args) >>= fun v => pure (some v)) Q E s := wpAny_bind (wpAny_mono h (fun v s' h' => wpAny_pure h') fun _ _ h' => h')
  split
  · exact wpAny_bind (wpAny_of_eq (F.cmp_object.ne.bind _) (wpAny_pure (by exact fin)))
  · exact wpAny_tryCatch (wpAny_bind (wpAny_of_eq (F.cmp_object.ne.bind _) (wpAny_pure (by exact fin))))
theorem entry_ne {prog : Program} {w : World} {A : Around} {E : Value → Shared → Prop} {s : Shared} {K : PySem.W.Frag} {x C f : Addr} {b : Value} {ox : Obj} {od : Option Obj} {Q : Fin → Shared → Prop} (hu : A.units < cLine) (X : K.In s.heap) (I : PySem.W.InstAt s.heap x ox C od)
    (hs : PySem.W.findIn K (.ref C) "__eq__" = some (some (.ref f))) (hf : PySem.W.isFn K (.ref f) = true)
    (h : wpAny (model prog w) A (call (.ref f) [.ref x, b]) (fun v s' => ∃ b, v = .bool b ∧ Q (.done (.ret (.bool (!b)))) s') E s) : wpAny (model prog w) A (Builtin.«object.__ne__» ⟨[.ref x, b], []⟩) Q E s := by
  unfold Builtin.«object.__ne__»
  repeat (first
    | with_reducible refine wpAny_cRoomFor hu ?_
    | (refine wpAny_bind (m := callSpecialIfBound? (.ref x) (Str.ofString "__eq__") [b]) (PySem.W.ifBound_K X I hs hf (wpAny_mono h (fun r s' hr => by
          obtain ⟨b, rfl, hq⟩ := hr
          repeat (first | exact hq | exact wpAny_pure hq | exact wpAny_truthy_bool hq | (refine wpAny_bind (m := truthy (.bool _)) (wpAny_truthy_bool ?_)) | wp_step)) fun _ _ e => e)))
    | wp_step)
theorem ne_K {prog : Program} {w : World} {A : Around} {E : Value → Shared → Prop} {s : Shared} {K : PySem.W.Frag} {x C L f : Addr} {h₀ : Heap} {m : Str → Option Value} {ox : Obj} {od : Option Obj} {b tb : Value} {Q : Value → Shared → Prop} (hu : A.units + 1 < cLine) (FF : Fr h₀ L s.heap m) (X₀ : K.In h₀) (I : PySem.W.InstAt s.heap x ox C od) (hb : PySem.W.Looks (model prog w) s.heap (typeOf b) tb)
    (hn : PySem.W.notFirst K C tb = true) (n : NeOf K C) (hs : PySem.W.findIn K (.ref C) "__eq__" = some (some (.ref f))) (hf : PySem.W.isFn K (.ref f) = true)
    (h : wpAny (model prog w) A.in1 (call (.ref f) [.ref x, b]) (fun v s' => ∃ b, v = .bool b ∧ Q (.bool (!b)) s') E s) : wpAny (model prog w) A (richCompare .NotEq (.ref x) b) Q E s := by
  have X := X₀.keeps FF.keep
  have one : wpAny (model prog w) A (tryCompare (.ref x) (cmpInfo .NotEq).2.1 b) (fun r s' => ∃ v, r = some v ∧ Q v s') E s := by
    unfold tryCompare
    refine wpAny_bind (ifBound_ne X I n.ne (wpAny_call (codeAny_call_builtin F.cmp_object.ne.plain F.cmpEntry_ne (PySem.W.check_slot F.cmpKind_ne F.cmpSplit_ne (I.type.andThen (PySem.W.looks_mroIn X n.mro)) (F.cmpArgs_ne _ _)
      (entry_ne (A := A.in1) hu X I hs hf (wpAny_mono h (fun v s' hv => ?_) fun _ _ e => e))))))
    obtain ⟨c, rfl, hq⟩ := hv
    exact ⟨c, rfl, wpAny_pure ⟨_, rfl, hq⟩⟩
  unfold richCompare
  simp only [oneThing_ref]
  refine wpAny_holding (wpAny_bind (wpAny_cRoomFor (Nat.lt_of_succ_lt hu) ?_))
  refine wpAny_bind (I.type.here (wpAny_bind (hb.here ?_)))
  split
  · rename_i q
    have e : PySem.W.subIn K tb (.ref C) = some false := by
      rcases Bool.or_eq_true_iff.mp hn with e | e
      · rw [beq_iff_eq.mp e] at q; simp at q
      · exact beq_iff_eq.mp e
    refine wpAny_bind ((PySem.W.looks_subIn X e).here ?_)
    simp only [Bool.false_eq_true, if_false]
    refine wpAny_bind (wpAny_mono one (fun r s' z => ?_) fun _ _ e => e)
    obtain ⟨v, rfl, hq⟩ := z
    exact wpAny_pure hq
  · refine wpAny_bind (wpAny_pure ?_)
    simp only [Bool.false_eq_true, if_false]
    refine wpAny_bind (wpAny_mono one (fun r s' z => ?_) fun _ _ e => e)
    obtain ⟨v, rfl, hq⟩ := z
    exact wpAny_pure hq
theorem or_neO (c : Met X.prog X.w X.K X.mg X.base k C "__eq__" sp []) (n : NeOf X.K C) {j : Nat} (hr : Room j X.A) (hk : k + 1 ≤ j) (hx : Passes (L2.CX X.prog X.w) X E) : OpR X (compareOp .NotEq) (rEqO C sp E fun b => .bl (!b)) := by
  obtain ⟨f, fd, ps, ds, hc, hm, F, b, d⟩ := c.ex
  cases d
  intro pins s σ H x y v u Q I rx ry h
  obtain ⟨a, dx, fs, c, dy, gs, rfl, rfl, ha, hc', h⟩ := h
  cases rx
  cases ry
  obtain ⟨mA, J, _⟩ := ins_get I.hok ha
  obtain ⟨mB, J', _⟩ := ins_get I.hok hc'
  obtain ⟨od, J, _⟩ := J.look
  obtain ⟨od', J', _⟩ := J'.look
  obtain ⟨m, hF⟩ := I.fr
  show wpAny (model X.prog X.w) X.A (richCompare .NotEq (.ref a) (.ref c)) _ _ s
  refine ne_K (tb := .ref C) (by have := hr.units; omega) hF I.ok.mod.kin J J'.type (by simp [PySem.W.notFirst]) n hm.at_ hm.fn ?_
  refine wpAny_mono (run_at (A := X.A.in1) F (hr.mono hk).in1 rfl b hx I (us := [.ref a, .ref c]) (vs := [.ref a, .ref c]) (.cons rfl (.cons rfl .nil)) h) (fun r s' q => ?_) fun _ _ z => z
  obtain ⟨z, H', I', rz, b', rfl, q⟩ := q
  cases rz
  exact ⟨_, rfl, .bl (!b'), H', I', rfl, q⟩
/-- bool(o) by an own __bool__ -/
theorem call_bool_own {prog : Program} {w : World} {A : Around} {E : Value → Shared → Prop} {s : Shared} {x : Addr} {Q : Value → Shared → Prop} (h : wpAny (model prog w) A.in1.in1 (truthy (.ref x)) (fun b s' => Q (.bool b) s') E s) :
    wpAny (model prog w) A (call (.type "bool") [.ref x]) Q E s := by
  have ft := F.called_bool
  have hct := F.typeCall_bool_1 (.ref x)
  obtain ⟨c, tl, hmro⟩ := ft.mro
  have hmade := ft.made
  have hsub := ft.sub
  refine wpAny_call (codeAny_of_tree ?_)
  show wpAny _ _ (callAny (.type "bool") _) _ _ _
  refine wpAny_pure ⟨Code.quiet_builtin _ (by decide +kernel), codeAny_builtin F.entry_type_call ?_⟩
  rw [Around.under_plain (weight_type_call_type "bool" [.ref x] []) (units_type_call_type "bool" [.ref x] [])]
  have h1 := ft.notType
  have h2 := ft.canCreate
  repeat (any_goals (first | assumption | wp_step))

  refine codeAny_mono (codeAny_call_builtin (R := wants (fun obj s₁ => ∃ b, obj = .bool b ∧ Q (.bool b) s₁) E) ft.plain F.entry_bool_new (wpAny_of_eq (F.newCall_bool_1 _) ?_)) fun r s₁ hr => ?_
  · unfold Builtin.«bool.__new__»
    have f1 := F.conv_sub_bool
    repeat (any_goals (first | assumption | (with_reducible refine wpAny_bind (m := truthy (.ref x)) (wpAny_mono h (fun b s' hq => ?_) fun _ _ e => e)) | wp_step))
    all_goals exact ⟨_, rfl, hq⟩
  cases r with
  | error e => exact hr
  | ok fl =>
    cases fl with
    | ret obj =>
      obtain ⟨bb, rfl, hr⟩ := hr
      have hT : s₁.TypeIs (.bool bb) "bool" := rfl
      have hli := ft.init.lookup
      have hbi := ft.init.bind (.bool bb)
      repeat (any_goals (first | assumption | wp_step))

      refine codeAny_mono (codeAny_call_builtin ft.init.plain F.entry_object_init (ft.init.check _ _ _ _ _ _ _ _ hT (F.args_object_init_2 _ _) (object_init_meets (self := .bool bb) (rest := [.ref x]) ft.init.lookup ft.made F.newNe_bool prog w A.in1 (wants (fun r s₂ => r = .none ∧ Q (.bool bb) s₂) E) s₁ ⟨hT, rfl, hr⟩))) fun r₂ s₂ hr₂ => ?_
      cases r₂ with
      | error e => exact hr₂
      | ok fl₂ =>
        cases fl₂ with
        | ret r =>
          obtain ⟨rfl, hq⟩ := hr₂
          repeat (any_goals (first | assumption | wp_step))
        | _ => exact hr₂.elim
    | _ => exact hr.elim
theorem cr_boolO (c : Met X.prog X.w X.K X.mg X.base k C "__bool__" sp []) {j : Nat} (hr : Room j X.A) (hk : k + 2 ≤ j) (hx : Passes (L2.CX X.prog X.w) X E) :
    CallR X (.type "bool") (fun xs H Q => ∃ a dx fs, xs = [.ref a] ∧ H a = some (.ins C dx fs) ∧ sp [.ref a] H (fun v H' => ∃ b, v = .bl b ∧ Q (.bl b) H') E) := by
  obtain ⟨f, fd, ps, ds, hc, hm, F, b, d⟩ := c.ex
  cases d
  intro pins s σ H xs us Q I r h
  obtain ⟨a, dx, fs, rfl, ha, h⟩ := h
  rw [Vals.ref1 r]
  obtain ⟨mA, J, _⟩ := ins_get I.hok ha
  obtain ⟨od, J, _⟩ := J.look
  obtain ⟨m, hF⟩ := I.fr
  refine call_bool_own (PySem.W.truthy_K hF I.ok.mod.kin J hm.at_ hm.fn ?_)
  refine wpAny_mono (run_at (A := X.A.in1.in1) F (hr.mono hk).in1.in1 rfl b hx I (us := [.ref a]) (vs := [.ref a]) (.cons rfl .nil) h) (fun r s' q => ?_) fun _ _ z => z
  obtain ⟨z, H', I', rz, b', rfl, q⟩ := q
  cases rz
  exact ⟨.bl b', H', I', rfl, q⟩
end
end Tr

/-! # set(a list of ints), turned from the tuple's. -/
namespace Tr
open PySem PySem.Spec PyProof.Rows L2
section
variable {P : Program} {w : World} {A : Around} {E : Value → Shared → Prop} {s : Shared}
theorem call_set_listI {l : Addr} {items : Array Value} (ns : List Int) {Q : Value → Shared → Prop} (hh : A.handled = none) (hl : s.heap.IsList l items) (hit : IntsAre items.toList ns) (hb : ns.length + 1 < scanBound)
    (h : ∀ (h' : Heap) (tk c : Nat), SetR w h' s.heap.objs.size (fun j => decide (j ∈ ns)) c → c ≤ ns.length → (∀ b o, s.heap.get? b = some o → h'.get? b = some o) → Q (.ref s.heap.objs.size) { s with heap := h', toks := tk }) :
    wpAny (model P w) A (call (.type "set") [.ref l]) Q E s := by
  have hisz : items.size = ns.length := by
    have q := IntsAre.length hit
    rw [Array.length_toList] at q
    exact q
  obtain ⟨c, tl, hmro⟩ := F.called_set.mro
  have hmade := F.called_set.made
  have hsub := F.called_set.sub
  refine wpAny_call (codeAny_of_tree ?_)
  show wpAny _ _ (callAny (.type "set") _) _ _ _
  refine wpAny_pure ⟨Code.quiet_builtin _ (by decide +kernel), codeAny_builtin F.entry_type_call ?_⟩
  rw [Around.under_plain (weight_type_call_type "set" [.ref l] []) rfl]
  have h1 := F.called_set.notType
  have h2 := F.called_set.canCreate
  have hct := F.typeCall_set_1 (.ref l)
  repeat (any_goals (first | assumption | wp_step))

  refine codeAny_mono (code_set_led1 (.ref l) (E := E) (Q₁ := fun obj s₁ => obj = .ref s.heap.objs.size ∧ s₁ = { s with heap := s.heap.push { cls := .type "set", dict := none, data := .set #[] 0 (.fresh 0 0 (!w.params.followText "set-order")) } }) ⟨rfl, rfl⟩) fun r s₁ hr => ?_
  cases r with
  | error e => exact hr
  | ok fl =>
    cases fl with
    | ret obj =>
      obtain ⟨rfl, rfl⟩ := hr
      have hS : (s.heap.push { cls := .type "set", dict := none, data := .set #[] 0 (.fresh 0 0 (!w.params.followText "set-order")) }).get? s.heap.objs.size = some { cls := .type "set", dict := none, data := .set #[] 0 (.fresh 0 0 (!w.params.followText "set-order")) } := Heap.get?_push_size _ rfl
      have hT : Shared.TypeIs { s with heap := s.heap.push { cls := .type "set", dict := none, data := .set #[] 0 (.fresh 0 0 (!w.params.followText "set-order")) } } (.ref s.heap.objs.size) "set" := ⟨_, hS, rfl⟩
      have hli := F.called_set.init.lookup
      have hbi := F.called_set.init.bind (.ref s.heap.objs.size)
      repeat (any_goals (first | assumption | wp_step))

      refine codeAny_mono (codeAny_call_builtin (R := wants (fun r s₂ => r = .none ∧ ∃ h' tk c, s₂ = { s with heap := h', toks := tk } ∧ SetR w h' s.heap.objs.size (fun j => decide (j ∈ ns)) c ∧ c ≤ ns.length ∧
          (∀ b o, s.heap.get? b = some o → h'.get? b = some o)) E) F.called_set.init.plain F.entry_set_init (check_set_init_1 hT ?_)) fun r₂ s₂ hr₂ => ?_
      · obtain ⟨ol, hol, hcl, nl, hdl⟩ := hl
        obtain ⟨ocls, odict, odata, oslots⟩ := ol
        simp only at hcl hdl
        subst hcl; subst hdl
        have hol' : (s.heap.push { cls := .type "set", dict := none, data := .set #[] 0 (.fresh 0 0 (!w.params.followText "set-order")) }).get? l = some { cls := .type "list", dict := odict, data := .seq items nl, slots := oslots } := Heap.get?_push_of_some _ hol
        have hsls := F.sub_list_set
        have hslf := F.sub_list_frozenset
        have hne : (Value.type "list" == Value.type "dict") = false := by decide
        have hl1 : (s.heap.push { cls := .type "set", dict := none, data := .set #[] 0 (.fresh 0 0 (!w.params.followText "set-order")) }).IsList l items := ⟨_, hol', rfl, nl, rfl⟩
        unfold Builtin.«set.__init__» noKeywords Builtin.Frozenset.updateFrom
        generalize hPI : pyIter = PI
        wp_walk
        subst hPI

        refine wpAny_pyIter_list hl1 ?_
        refine wpAny_bind (wpAny_runValue ?_)
        have hlS : l < s.heap.objs.size := Heap.lt_size hol
        have hh3 : A.in1.in1.in1.handled = none := by simp [hh]
        have hz1 : (s.heap.push { cls := .type "set", dict := none, data := .set #[] 0 (.fresh 0 0 (!w.params.followText "set-order")) }).objs.size = s.heap.objs.size + 1 := Heap.size_push ..
        have hneI : l ≠ (s.heap.push { cls := .type "set", dict := none, data := .set #[] 0 (.fresh 0 0 (!w.params.followText "set-order")) }).objs.size := by
          rw [Heap.size_push]; exact Nat.ne_of_lt (Nat.lt_succ_of_lt hlS)
        have hSf : s.heap.objs.size ∉ [(s.heap.push { cls := .type "set", dict := none, data := .set #[] 0 (.fresh 0 0 (!w.params.followText "set-order")) }).objs.size, l] := by
          rw [Heap.size_push]; simp only [List.mem_cons, List.mem_singleton, List.not_mem_nil, or_false, not_or]
          exact ⟨Nat.ne_of_lt (Nat.lt_succ_self _), Nat.ne_of_gt hlS⟩
        have hval : ∀ (i : Nat) (v : Value), items[i]? = some v → ∃ k t, ns[i]? = some k ∧ v = .int k t := fun i v hv => by
          have hi : i < ns.length := by rw [← hisz]; exact (Array.getElem?_eq_some_iff.mp hv).1
          obtain ⟨t, e⟩ := PyProof.Rows.IntsAre.int_at hit i v (by rw [Array.getElem?_toList]; exact hv)
          refine ⟨ns[i], t, List.getElem?_eq_getElem hi, ?_⟩
          rw [e, List.getD_eq_getElem?_getD, List.getElem?_eq_getElem hi] <;> rfl
        refine set_update_ints ((Walks.list hh3 _ l hneI items).toS) s.heap.objs.size
          hSf ns hisz hb hval (items.size - 0) 0 _ (by omega) (Nat.zero_le _)
          ⟨⟨_, Heap.get?_push_size _ rfl, rfl, rfl⟩, (hl1.push _)⟩ ?hS0 ?hR
        case hS0 =>
          have hget : ((s.heap.push { cls := .type "set", dict := none, data := .set #[] 0 (.fresh 0 0 (!w.params.followText "set-order")) }).push { cls := .type "list_iterator", data := .fields #[.ref l, .int 0 0] }).get? s.heap.objs.size
              = some { cls := .type "set", dict := none, data := .set #[] 0 (.fresh 0 0 (!w.params.followText "set-order")) } := Heap.get?_push_of_some _ hS
          exact ⟨0, Nat.le_refl 0, setR_new_at hget⟩
        case hR =>
          intro s' c' hm hc' hS'
          obtain ⟨h', g2, d', tk', os'⟩ := s'
          have eg : g2 = s.gens := hm.gens
          have ed : d' = s.drawn := hm.drawn
          have eo : os' = s.os := hm.os
          subst eg; subst ed; subst eo
          show wpAny _ _ _ _ _ _
          refine wpAny_pure ?_
          show wpAny _ _ (ret Value.none) _ _ _
          rw [hisz] at hc'
          refine wpAny_pure ⟨rfl, h', tk', c', rfl, hS', hc', fun b o e => ?_⟩
          have hb0 : b < s.heap.objs.size := Heap.lt_size e
          have hb1 : b ≠ s.heap.objs.size := Nat.ne_of_lt hb0
          have hb2 : b ≠ (s.heap.push { cls := .type "set", dict := none, data := .set #[] 0 (.fresh 0 0 (!w.params.followText "set-order")) }).objs.size := by
            rw [Heap.size_push]; exact Nat.ne_of_lt (Nat.lt_succ_of_lt hb0)
          exact hm.heap b o (by simp only [List.mem_cons, List.mem_singleton, List.not_mem_nil, or_false, not_or]; exact ⟨hb1, hb2⟩) (Heap.get?_push_of_some _ (Heap.get?_push_of_some _ e))

      · cases r₂ with
        | error e => exact hr₂
        | ok fl₂ =>
          cases fl₂ with
          | ret r =>
            obtain ⟨rfl, h', tk, c', rfl, hS', hc', hk'⟩ := hr₂
            repeat (any_goals (first | assumption | wp_step))
            exact h _ _ _ hS' hc' hk'
          | _ => exact hr₂.elim
    | _ => exact hr.elim
end
def rSetI (K : PySem.W.Frag) (w : World) : List V → Hp → VK → Prop := fun vs H Q => ∃ (p : Addr) (ns : List Int), vs = [V.ref p] ∧ SqL K H p (ns.map V.int) ∧ ns.length ≤ 1000 ∧ ∀ (a : Addr) (c : Nat), c ≤ ns.length → H a = none → Q (.ref a) (upd H a (SetO w a (fun j => decide (j ∈ ns)) c))
theorem cr_setI {X : Cx} (hc : X.calm = true) : CallR X (.type "set") (rSetI X.K X.w) := by
  intro pins s σ H vs us Q I r h
  obtain ⟨p, ns, rfl, hp, hl, q⟩ := h
  rw [Vals.ref1 r]
  obtain ⟨its, rv, pl, hz⟩ := I.list hp
  have hi : IntsAre its.toArray.toList ns := ints_of_vals rv
  refine call_set_listI ns (I.ok.hd hc) pl.isList hi (by unfold scanBound; omega) fun h' tk c R hcl kp => ?_
  exact ⟨.ref _, upd H s.heap.objs.size (SetO X.w s.heap.objs.size (fun j => decide (j ∈ ns)) c), I.laid (t' := tk) kp (Nat.le_refl _) (setO_new R), rfl, q _ c hcl (I.hok.fresh (Nat.le_refl _))⟩
end Tr

/-! # enumerate, isinstance of own things, fields. -/
namespace Tr
open PySem L2
section
variable {K : PySem.W.Frag}
/-- for i, x in enumerate(list) -/
theorem for_enum {a : Addr} {xs : List V} {i1 i2 : Nat} {tb : TS} {D : Ends} {σ : St} {H : Hp} (Pv : Nat → St → Hp → Prop) (h0 : Pv 0 σ H) (hl : ∀ i σ H, i ≤ xs.length → Pv i σ H → SqL K H a xs)
    (hs : ∀ i x σ H, xs[i]? = some x → Pv i σ H → ∀ T, H T = none → tb { D with nx := Pv (i + 1), ct := Pv (i + 1), bk := D.nx } ((σ.set i1 (some (.int (i : Nat)))).set i2 (some x)) (upd H T (.tup [.int (i : Nat), x]))) (hd : ∀ σ H, Pv xs.length σ H → D.nx σ H) :
    ∃ W : Nat → Nat → St → Hp → Prop, (∃ m, W 0 m σ H) ∧ ∀ i m σ H, W i m σ H →
      ((Ite K a).stop i H ∧ D.nx σ H) ∨ ((Ite K a).go i H ∧ ∃ N : St → Hp → Prop, (∀ σ' H', N σ' H' → ∃ m', m' < m ∧ W (i + 1) m' σ' H') ∧ ∀ x H', (Ite K a).yld i H x H' → gTup K 2 (gCons (gName i1) (gCons (gName i2) gNil)) x σ H' fun σ2 H2 => tb { D with nx := N, ct := N, bk := D.nx } σ2 H2) := by
  refine ⟨fun i m σ H => m = xs.length - i ∧ i ≤ xs.length ∧ Pv i σ H, ⟨xs.length, by simp, Nat.zero_le _, h0⟩, ?_⟩
  rintro i m σ H ⟨rfl, hi, p⟩
  have q := hl i σ H hi p
  by_cases hlt : i < xs.length
  · refine .inr ⟨⟨xs, xs[i], q, by simp [hlt]⟩, Pv (i + 1), fun σ' H' p' => ⟨xs.length - (i + 1), by omega, rfl, hlt, p'⟩, fun x H' y => ?_⟩
    obtain ⟨T, z, rfl, nT, rfl, y⟩ := y
    exact ⟨T, _, rfl, SqT.of upd_same, rfl, _, _, rfl, _, _, rfl, rfl, hs i z σ H (y xs q) p T nT⟩
  · have e : i = xs.length := by omega
    subst e
    exact .inl ⟨⟨xs, q, Nat.le_refl _⟩, hd σ H p⟩
end
/-- e.f, K by its name (inside a comprehension X.K would hold what is bound there) -/
theorem pe_fldK {X : Cx} (K : PySem.W.Frag) {e : Expr} {ta : TE} {f : Str} {pos : Pos} (he : PE X e ta) (hb : attributeBase e f X.env (eval e X.env) = eval e X.env) (hk : X.K = K := by rfl) : PE X (.Attribute e f pos) (tFld K ta f) := by
  subst hk
  exact pe_fld he hb
theorem pi_listK {X : Cx} (K : PySem.W.Frag) {tg l : Expr} {tl : TE} (hl : PE X l tl) (hk : X.K = K := by rfl) : PI X tg l (iList K tl) := by
  subst hk
  exact pi_list hl
/-- a walk over a list, whatever is done at each turn -/
theorem it_list {K : PySem.W.Frag} {a : Addr} {xs : List V} {Hs : Hp} {Qd : Hp → Prop} {F : V → Hp → (Hp → Prop) → Prop} (Pv : Nat → Hp → Prop) (h0 : Pv 0 Hs) (hl : ∀ i H, i ≤ xs.length → Pv i H → SqL K H a xs)
    (hs : ∀ i x H, xs[i]? = some x → Pv i H → F x H (Pv (i + 1))) (hd : ∀ H, Pv xs.length H → Qd H) :
    ∃ W : Nat → Nat → Hp → Prop, (∃ m, W 0 m Hs) ∧ ∀ i m H, W i m H → ((Itl K a).stop i H ∧ Qd H) ∨ ((Itl K a).go i H ∧ ∃ Nx : Hp → Prop, (∀ H', Nx H' → ∃ m', m' < m ∧ W (i + 1) m' H') ∧ ∀ x H', (Itl K a).yld i H x H' → F x H' Nx) := by
  refine ⟨fun i m H => m = xs.length - i ∧ i ≤ xs.length ∧ Pv i H, ⟨xs.length, by simp, Nat.zero_le _, h0⟩, ?_⟩
  rintro i m H ⟨rfl, hi, p⟩
  have q := hl i H hi p
  by_cases hlt : i < xs.length
  · refine .inr ⟨⟨xs, xs[i], q, by simp [hlt]⟩, Pv (i + 1), fun H' p' => ⟨xs.length - (i + 1), by omega, rfl, hlt, p'⟩, fun x H' y => ?_⟩
    obtain ⟨e, y⟩ := y
    subst e
    exact hs i x _ (y xs q) p
  · have e : i = xs.length := by omega
    subst e
    exact .inl ⟨⟨xs, q, Nat.le_refl _⟩, hd H p⟩
/-- another reading of the same -/
theorem pe_imp {X : Cx} {e : Expr} {t t' : TE} (h : PE X e t) (f : ∀ σ H Q, t' σ H Q → t σ H Q) : PE X e t' := ⟨fun pins s σ H Q I q => h.run pins s σ H Q I (f σ H Q q)⟩
/-- what isinstance of an instance of the class leans on -/
structure IsO (K : PySem.W.Frag) (C : Addr) : Prop where
  ha : PySem.W.findIn K (.ref C) "__class__" = some (some (.builtin "object.__class__"))
  hn : PySem.W.specialIn K (.builtin "object.__class__") "__get__" = some (some (.builtin "getset_descriptor.__get__"))
  ht : PySem.W.takesIn K (.builtin "object.__class__") = some true
  hm : PySem.W.mroIn K C (.type "object") = some true
theorem IsO.ty {K : PySem.W.Frag} {C a dx : Addr} {H : Hp} {fs : List (Str × V)} (o : IsO K C) (c : Cls K C) (e : H a = some (.ins C dx fs)) : TyX K H (.ref a) (.ref C) := .base (.ins e c o.ha o.hn o.ht o.hm)
theorem kit_self {K : PySem.W.Frag} {t : Value} : PySem.W.kitOne K t t = some true := by
  unfold PySem.W.kitOne
  first
    | rfl
    | simp
/-- isinstance(x, int) and not isinstance(x, bool) -/
structure IsW (K : PySem.W.Frag) (H : Hp) (x : V) (b : Bool) : Prop where
  ex : ∃ t b1 b2, TyX K H x t ∧ PySem.W.kitOne K t (.type "int") = some b1 ∧ PySem.W.kitOne K t (.type "bool") = some b2 ∧ b = (b1 && !b2)
theorem isW_int {K : PySem.W.Frag} {H : Hp} (i : Int) : IsW K H (.int i) true := ⟨_, true, false, .base (.int i), kit_ty (by decide +kernel), kit_ty (by decide +kernel), rfl⟩
end Tr

/-! # Static methods, own binary operators, own truth, two ways to iterate. -/
namespace Tr
open PySem PySem.Spec PyProof.Rows L2
/-- C.m is a static method: its record at p, its def at g -/
structure SMet (K : PySem.W.Frag) (C : Addr) (m : Str) (p g : Addr) : Prop where
  rd : PySem.W.readsIn K C (.type "type") = true
  ga : PySem.W.specialIn K (.ref C) "__getattribute__" = some (some (.builtin "type.__getattribute__"))
  at_ : PySem.W.findCls K (.ref C) (.type "type") m = some (.get (.builtin "staticmethod.__get__") (.ref p) .none (.ref C))
  rc : ∃ rest, PySem.W.recIn K p "staticmethod" = some (.ref g :: rest)
  kp : PySem.W.keepIn K (.ref g) = true
structure Smt (K : PySem.W.Frag) (C : Addr) (m qual : Str) (st : Stmt) : Prop where
  ex : ∃ p g fd, SMet K C m p g ∧ Fun K m qual st g fd
/-- a static method that may be called -/
structure Sta (P : Program) (w : World) (K : PySem.W.Frag) (mg : Str → Option Value) (base : Heap) (k : Nat) (C : Addr) (m : Str) (sp : Sp) : Prop where
  ex : ∃ (p g : Addr) (fd : FuncData) (ps : List Str), SMet K C m p g ∧ FnOk P w K mg base (L2.CX P w) k g fd ps sp ∧ Binds K fd ps []
section
variable {P : Program} {w : World} {K : PySem.W.Frag} {mg : Str → Option Value} {base : Heap}
theorem staN {m qual : Str} {C : Addr} {st : Stmt} {N ps : List Str} {k : Nat} {sp : Sp} (D : Smt K C m qual st) (S : FnScope N ps (defScope st)) (len : ∀ vs H Q E, sp vs H Q E → vs.length = ps.length)
    (hb : ∀ (kV doc pm : Value) (an : Option Addr) (cdv ct : Value) (us : List Value), us.length = ps.length → bindArgs (PySem.W.fnOf m qual (defArgs st) (defBody st) (defScope st) .none kV doc pm an cdv ct) ⟨us, []⟩ = pure (ps.zip us))
    (hbody : ∀ (f : Addr) (cdv : Value) (A : Around) (outer : List Env) (s : Shared) (H : Hp) (vs : List V) (Q : VK) (E : XK), Room k (A.deeper (envOfC qual (defScope st) s.heap.objs.size f cdv)) → sp vs H Q E →
      ∃ t, PSs (cxOf (L2.CX P w) P w K mg base N qual (defScope st) f cdv A outer s H E).nox (defBody st) t ∧ t { nx := fun _ H' => Q .non H', rt := Q } (start N vs) H) : Sta P w K mg base (k + 1) C m sp :=
  let ⟨p, g, fd, M, F⟩ := D.ex
  ⟨p, g, fd, ps, M, okN F S len (hbody g), F.binds hb⟩
end
section
variable {X : Cx} {k j : Nat} {C : Addr} {m : Str} {sp : Sp} {p pos apos : Pos} {e o : Expr} {es : List Expr} {ta : TE} {t : TA} {E : XK}
theorem getsm_ok {pins : List (Addr × Obj)} {σ : L2.St} {H : Hp} {s : Shared} {A : Around} {E' : Value → Shared → Prop} {p g : Addr} {pl : Sem Bool} {Q : Value × List Value → Shared → Prop} (I : Inv X pins σ H s) (c : SMet X.K C m p g)
    (h : ∀ s', Inv X pins σ H s' → Q (.ref g, []) s') : wpAny (model X.prog X.w) A (getMethod (.ref C) m pl) Q E' s := by
  obtain ⟨rest, hp⟩ := c.rc
  exact PySem.W.method_cls I.kIn c.ga (PySem.W.cls_bind I.kIn c.rd c.at_ (wpAny_call (PySem.W.sm_get (s := { s with toks := s.toks + 1 }) I.kIn hp (PySem.W.handed_on rfl (h _ (I.tok _))))))
/-- C.m(e, ..) of a static method -/
def tSta (C : Addr) (sp : Sp) (E : XK) (ta : TE) (t : TA) : TE := fun σ H Q => ta σ H fun x H1 => x = .ref C ∧ t σ H1 fun vs H2 => sp vs H2 Q E
theorem pe_sta {pl : Sem Bool} (c : Sta X.prog X.w X.K X.mg X.base k C m sp) (hr : Room j X.A) (hk : k ≤ j) (hx : Passes (L2.CX X.prog X.w) X E) (he : PE X o ta) (ha : PA X (e :: es) t)
    (hst : starEach (e :: es) X.env = (false, eval e X.env) :: starEach es X.env := by rfl) (hpl : (backTo pos (starEach es X.env)).any (·.1) = false := by rfl)
    (ht : eval (.Call (.Attribute o m apos) (e :: es) [] pos) X.env = (do
      let ov ← eval o X.env
      standAt apos.atName
      let (f, first) ← holding [ov] (getMethod ov m pl)
      callWith pos f first (backTo pos (starEach (e :: es) X.env)) (backToKw pos (keywordEach [] X.env))) := by rfl) :
    PE X (.Call (.Attribute o m apos) (e :: es) [] pos) (tSta C sp E ta t) := by
  obtain ⟨p, g, fd, ps, M, F, b⟩ := c.ex
  refine ⟨fun pins s σ H Q I h => ?_⟩
  refine PySem.W.methodCall_KW (pl := pl) (thn (he.run pins s σ H _ I h) fun u s1 ⟨x, H1, I1, rx, ex, q⟩ => ?_) ht
  subst ex
  obtain rfl : u = Value.ref C := rx
  refine getsm_ok I1 M fun s2 I2 => ?_
  refine PySem.W.callWith_K (first := []) (h₀ := X.base) I.ok.mod.kin M.kp (thn (ha.run pos pins s2 σ H1 _ I2 q) fun us s3 ⟨vs, H2, I3, r, q2⟩ => ⟨I3.kIn, ?_⟩) hst hpl
  exact run_fn F (hr.mono hk) b .nil hx I3 r (by rw [List.append_nil]; exact q2)
theorem pe_sta0 {pl : Sem Bool} (c : Sta X.prog X.w X.K X.mg X.base k C m sp) (hr : Room j X.A) (hk : k ≤ j) (hx : Passes (L2.CX X.prog X.w) X E) (he : PE X o ta)
    (ht : eval (.Call (.Attribute o m apos) [] [] pos) X.env = (do
      let ov ← eval o X.env
      standAt apos.atName
      let (f, first) ← holding [ov] (getMethod ov m pl)
      callWith pos f first (backTo pos (starEach [] X.env)) (backToKw pos (keywordEach [] X.env))) := by rfl) :
    PE X (.Call (.Attribute o m apos) [] [] pos) (tSta C sp E ta tNil) := by
  obtain ⟨p, g, fd, ps, M, F, b⟩ := c.ex
  refine ⟨fun pins s σ H Q I h => ?_⟩
  refine PySem.W.methodCall_KW (pl := pl) (thn (he.run pins s σ H _ I h) fun u s1 ⟨x, H1, I1, rx, ex, q⟩ => ?_) ht
  subst ex
  obtain rfl : u = Value.ref C := rx
  refine getsm_ok I1 M fun s2 I2 => ?_
  exact PySem.W.callWith_K0 (first := []) I2.kIn M.kp (run_fn (us := []) (vs := []) F (hr.mono hk) b .nil hx I2 .nil q)
/-- a binary operator of two instances of one class -/
def rBinO (C : Addr) (sp : Sp) (E : XK) : R2 := fun x y H Q => ∃ a dx fs b dy gs, x = .ref a ∧ y = .ref b ∧ H a = some (.ins C dx fs) ∧ H b = some (.ins C dy gs) ∧ sp [x, y] H (fun v H' => ∃ z, v = .ref z ∧ Q (.ref z) H') E
theorem or_binO {op : Operator} (c : Met X.prog X.w X.K X.mg X.base k C m sp []) (hm : PySem.dunder op.info.2 = m) (hs : PySem.W.selfFirst X.K C = true) (hr : Room j X.A) (hk : k ≤ j) (hx : Passes (L2.CX X.prog X.w) X E) : OpR X (binaryOp op) (rBinO C sp E) := by
  subst hm
  obtain ⟨f, fd, ps, ds, hc, hm, F, b, d⟩ := c.ex
  cases d
  intro pins s σ H x y v u Q I rx ry h
  obtain ⟨a, dx, fs, c, dy, gs, rfl, rfl, ha, hc', h⟩ := h
  cases rx
  cases ry
  obtain ⟨mA, J, _⟩ := ins_get I.hok ha
  obtain ⟨mB, J', _⟩ := ins_get I.hok hc'
  obtain ⟨od, J, _⟩ := J.look
  obtain ⟨od', J', _⟩ := J'.look
  obtain ⟨m, hF⟩ := I.fr
  refine PySem.W.binop_K hF I.ok.mod.kin J J'.type hs hm.at_ hm.fn ?_
  refine wpAny_mono (run_at F (hr.mono hk) rfl b hx I (us := [.ref a, .ref c]) (vs := [.ref a, .ref c]) (.cons rfl (.cons rfl .nil)) h) (fun r s' q => ?_) fun _ _ z => z
  obtain ⟨z, H', I', rz, b', rfl, q⟩ := q
  cases rz
  exact ⟨.ref b', H', I', rfl, q⟩
/-- the truth of an instance -/
theorem pt_truO {C : Addr} {sp : Sp} (c : Met X.prog X.w X.K X.mg X.base k C "__bool__" sp []) (hr : Room j X.A) (hk : k ≤ j) (hx : Passes (L2.CX X.prog X.w) X E) (ha : PE X e ta) (he : ∀ whole, isTrue e X.env whole = (do let v ← whole; standAt e.pos; holding [v] (truthy v))) :
    PT X e (fun σ H Q => ta σ H fun x H1 => ∃ a dx fs, x = .ref a ∧ H1 a = some (.ins C dx fs) ∧ sp [.ref a] H1 (fun v H2 => ∃ b, v = .bl b ∧ Q b H2) E) := by
  obtain ⟨f, fd, ps, ds, hc, hm, F, b, d⟩ := c.ex
  cases d
  refine ⟨fun pins s σ H Q I h => ?_⟩
  refine isTrue_plain (thn (ha.run pins s σ H _ I h) fun v s1 ⟨x, H1, I1, r1, a, dx, fs, ex, ea, q1⟩ => ?_) (he _)
  subst ex
  cases r1
  obtain ⟨mA, J, _⟩ := ins_get I1.hok ea
  obtain ⟨od, J, _⟩ := J.look
  obtain ⟨m, hF⟩ := I1.fr
  refine PySem.W.truthy_K hF I1.ok.mod.kin J hm.at_ hm.fn ?_
  refine wpAny_mono (run_at F (hr.mono hk) rfl b hx I1 (us := [.ref a]) (vs := [.ref a]) (.cons rfl .nil) q1) (fun r s' q => ?_) fun _ _ z => z
  obtain ⟨z, H', I', rz, b', rfl, q⟩ := q
  cases rz
  exact ⟨H', I', q⟩
theorem pi_or {tg e : Expr} {w1 w2 : TI} (h1 : PI X tg e w1) (h2 : PI X tg e w2) : PI X tg e (fun σ H R => w1 σ H R ∨ w2 σ H R) := ⟨fun pins s σ H R I h => h.elim (h1.run pins s σ H R I) (h2.run pins s σ H R I)⟩
end
end Tr

/-! # Small words. -/
namespace Tr
open PySem L2
theorem iteNe {x y : V} {A B : Prop} (h : x = y) (b : B) : if (!decide (x = y)) = true then A else B := by
  rw [if_neg (by rw [decide_eq_true h]; exact Bool.false_ne_true)]
  exact b
theorem iteEq {x y : V} {A B : Prop} (h : x = y) (b : A) : if decide (x = y) = true then A else B := by
  rw [if_pos (decide_eq_true h)]
  exact b
theorem iteOr {b1 b2 : Bool} {σ : St} {j : Nat} {H : Hp} {Q : VK} (e : σ[j]? = some (some (.bl b2))) (h : Q (.bl (b1 || b2)) H) : if b1 = true then Q (.bl true) H else tVar j σ H Q := by
  cases b1
  · rw [if_neg Bool.false_ne_true]
    exact ⟨_, e, h⟩
  · rw [if_pos rfl]
    exact h
theorem iteAnd {b1 b2 : Bool} {σ : St} {j : Nat} {H : Hp} {Q : VK} (e : σ[j]? = some (some (.bl b2))) (h : Q (.bl (b1 && b2)) H) : if b1 = true then tVar j σ H Q else Q (.bl false) H := by
  cases b1
  · rw [if_neg Bool.false_ne_true]
    exact h
  · rw [if_pos rfl]
    exact ⟨_, e, h⟩
end Tr

/-! # enumerate over a tuple; loops and comprehensions over a tuple of pairs. -/
namespace Tr
open PySem PySem.Spec PyProof.Rows L2
abbrev enumO (it : Addr) : Obj := { cls := .type "enumerate", data := .fields #[.none, .bool false, .ref it, rawInt 0, .none, .none] }
theorem meets_enum1 {v : Value} {o : Obj} {W : Heap → Prop} (B : Begins v o W) :
    Meets (Builtin.«enumerate.__new__» ⟨[.type "enumerate", v], []⟩) (fun _ R s => W s.heap ∧ R (.ok (.ret (.ref (s.heap.push o).objs.size))) { s with heap := (s.heap.push o).push (enumO s.heap.objs.size) }) := .of_wp fun prog w A R s h => by
  obtain ⟨hp, g, d, tk, os⟩ := s
  obtain ⟨h1, h⟩ := h
  have hsub := sub_enumerate
  have q1 : ∀ {A' : Around} {E : Value → Shared → Prop} {Q : Value → Shared → Prop}, Q (.ref hp.objs.size) ⟨hp.push o, g, d, tk, os⟩ → wpAny (model prog w) A' (pyIter v) Q E ⟨hp, g, d, tk, os⟩ := fun q => B.iter prog w _ _ ⟨hp, g, d, tk, os⟩ _ h1 q
  wp_walk using q1
  refine wpAny_stack_any fun st => wpAny_pure ?_
  split
  · rename_i c _ _ _ _ _
    cases (c == Value.type "enumerate") <;> (wp_walk using q1; exact ⟨_, rfl, h⟩)
  · wp_walk using q1
    exact ⟨_, rfl, h⟩
section
variable {prog : Program} {w : World} {A : Around} {E : Value → Shared → Prop} {s : Shared}
theorem call_enum1 {v : Value} {o : Obj} {W : Heap → Prop} {Q : Value → Shared → Prop} (B : Begins v o W) (h1 : W s.heap)
    (h : ∀ h', IsEnum h' (s.heap.objs.size + 1) s.heap.objs.size 0 .none → h'.get? s.heap.objs.size = some o → (∀ b o, s.heap.get? b = some o → h'.get? b = some o) → Q (.ref (s.heap.objs.size + 1)) { s with heap := h' }) :
    wpAny (model prog w) A (call (.type "enumerate") [v]) Q E s := by
  refine callType_new F.called_enumerate (by decide) (F.typeCall_enumerate_1 _) (F.newCall_enumerate_1 _) (fun obj => F.args_object_init_2 obj _) F.entry_enumerate_new (meets_enum1 B) ⟨h1, ?_⟩
  have hz : (s.heap.push o).objs.size = s.heap.objs.size + 1 := Heap.size_push ..
  show _ ∧ _
  rw [hz]
  have he : IsEnum ((s.heap.push o).push (enumO s.heap.objs.size)) (s.heap.objs.size + 1) s.heap.objs.size 0 .none := by
    have := Heap.get?_push_size (s.heap.push o) (o := enumO s.heap.objs.size) rfl
    rw [hz] at this
    exact this
  exact ⟨⟨_, he, rfl⟩, h _ he (Heap.get?_push_of_some _ (Heap.get?_push_size _ B.free)) fun b o x => Heap.get?_push_of_some _ (Heap.get?_push_of_some _ x)⟩
end
/-- the tuple at a, each item in a new pair with its index -/
def IteT (K : PySem.W.Frag) (a : Addr) : It :=
  ⟨fun i H => ∃ (xs : List V) (x : V), SqT K H a xs ∧ xs[i]? = some x, fun i H v H' => ∃ T x, v = .ref T ∧ H T = none ∧ H' = upd H T (.tup [.int (i : Nat), x]) ∧ ∀ xs, SqT K H a xs → xs[i]? = some x, fun i H => ∃ xs : List V, SqT K H a xs ∧ xs.length = i⟩
theorem turn_enumT {P : Program} {w : World} {K : PySem.W.Frag} {elts : List Expr} {kk : Nat} {tpos : Pos} (a e it : Addr) :
    Turn P w K (.Tuple elts kk tpos) (IteT K a) [e, it] e (fun i h => (∃ old, IsEnum h e it ((i : Nat) : Int) old) ∧ h.IsTupleIter it a i ∧ e ≠ it) where
  mem := by simp
  obj := fun i h st b hb => by
    obtain ⟨⟨old, he⟩, ⟨o, ho, hc, hd⟩, _⟩ := st
    rcases (show b = e ∨ b = it by simpa using hb) with z | z
    · rw [z]; exact ⟨_, he, fun v q => nomatch q⟩
    · rw [z]; exact ⟨o, ho, fun v q => by rw [hd] at q; cases q⟩
  keep := fun i h h' ⟨⟨old, he⟩, hi, hne⟩ k => ⟨⟨old, k e (by simp) _ he⟩, hi.at fun o q => k it (by simp) o q, hne⟩
  item := by
    intro X hP hw hK hc i pins s σ H E I hf st hg
    subst hP hw hK
    obtain ⟨⟨old, he⟩, hit, hne⟩ := st
    obtain ⟨xs, x, hq, hx⟩ := hg
    obtain ⟨its, rv, p, hz⟩ := I.tuple hq
    obtain ⟨u, hu, ru⟩ := rv.get hx
    have p' : s.heap.IsTuple a its.toArray := p
    have hel : e < s.heap.objs.size := Heap.lt_size he
    have hil : it < s.heap.objs.size := by obtain ⟨_, q, _⟩ := hit; exact Heap.lt_size q
    have ait : a ≠ it := by
      rintro rfl
      obtain ⟨o, q1, q2, _⟩ := hit
      obtain ⟨o', q3, q4, _⟩ := p'
      rw [q1] at q3
      cases q3
      rw [q2] at q4
      injection q4 with q4
      exact absurd q4 (by decide)
    have ae : a ≠ e := by
      rintro rfl
      obtain ⟨o', q3, q4, _⟩ := p'
      rw [he] at q3
      cases q3
      injection q4 with q4
      exact absurd q4 (by decide)
    have hh : X.A.in1.handled = none := I.ok.hd hc
    have hi : i < its.toArray.size := by
      have := (List.getElem?_eq_some_iff.mp hu).1
      simpa using this
    refine wpAny_pyNext_enum_itemC (Draws.tuple hh it a ait its.toArray) he ⟨hit, p'⟩ hi hne (by simp [hne, ae.symm]) fun x' h' tk hP ho hst hT hsz hk => ?_
    obtain ⟨hit', _⟩ := hst
    have ex : x' = u := by
      have : its[i]? = some x' := by simpa using hP
      rw [hu] at this
      exact (Option.some.inj this).symm
    subst ex
    refine ⟨_, rfl, wpAny_letOwnedTupleGo_enum (s := { s with heap := h', toks := tk + 1 }) ho fun h'' he' sb => ?_⟩
    have hT2 : h''.get? s.heap.objs.size = some { cls := .type "tuple", data := .seq #[.int i tk, x'] } := (sb.2 _ (Nat.ne_of_gt hel)).trans hT
    have new : ObjOk X.prog X.w (upd H s.heap.objs.size (.tup [.int (i : Nat), x])) h'' s.heap.objs.size (.tup [.int (i : Nat), x]) :=
      ⟨by show 2 ≤ sizeLine; decide, [.int i tk, x'], .cons ⟨_, rfl⟩ (.cons ru .nil), ⟨_, hT2, rfl, _, rfl⟩⟩
    have I1 : Inv X pins σ (upd H s.heap.objs.size (.tup [.int (i : Nat), x])) { s with heap := h'', toks := tk + 1 } :=
      I.turnedNew (ch := [e, it]) (fun b ob hb q => (sb.2 b (fun z => hb (by simp [z]))).trans (hk b ob (fun z => hb (by simp [z])) (fun z => hb (by simp [z])) q)) hf (Nat.le_refl _) new
    refine ⟨.ref s.heap.objs.size, _, I1, rfl, ⟨_, x, rfl, I.hok.fresh (Nat.le_refl _), rfl, fun ys hy => by rw [I.tuple_inj hy hq]; exact hx⟩, ⟨⟨x', ?_⟩, hit'.at fun o q => (sb.2 it (Ne.symm hne)).trans q, hne⟩, fun b hb => ?_⟩
    · have e1 : ((i + 1 : Nat) : Int) = (i : Int) + 1 := by omega
      rw [e1]
      exact he'
    · have hb' : b < s.heap.objs.size := by
        rcases (show b = e ∨ b = it by simpa using hb) with z | z
        · rw [z]; exact hel
        · rw [z]; exact hil
      rw [upd_ne (Nat.ne_of_lt hb')]
      exact (hf b hb).1
  done := by
    intro X hP hw hK hc i pins s σ H E I hf st hg
    subst hP hw hK
    obtain ⟨⟨old, he⟩, hit, hne⟩ := st
    obtain ⟨xs, hq, hx⟩ := hg
    obtain ⟨its, rv, p, hz⟩ := I.tuple hq
    obtain ⟨f0, f1, f2, f3, f4, f5⟩ := hf it (by simp)
    have p' : s.heap.IsTuple a its.toArray := p
    have ait : a ≠ it := by
      rintro rfl
      obtain ⟨o, q1, q2, _⟩ := hit
      obtain ⟨o', q3, q4, _⟩ := p'
      rw [q1] at q3
      cases q3
      rw [q2] at q4
      injection q4 with q4
      exact absurd q4 (by decide)
    have hh : X.A.in1.handled = none := I.ok.hd hc
    have hl : i = its.toArray.size := by
      have := rv.length
      simp
      omega
    subst hl
    exact wpAny_pyNext_enum_endD (Draws.tuple hh it a ait its.toArray) he ⟨hit, p'⟩ fun h' eb => ⟨rfl, I.turned (t' := s.toks) (fun b o hb q => eb b o hb q) f0 f1 f3 f4 f5⟩
  self := fun A i s Q E ⟨⟨_, he⟩, _⟩ h => wpAny_pyIter_enum he h
def iEnumT (K : PySem.W.Frag) (ta : TA) : TI := fun σ H R => ta σ H fun vs H1 => ∃ a xs, vs = [.ref a] ∧ SqT K H1 a xs ∧ R (IteT K a) H1
theorem pi_enumT {X : Cx} {e : Expr} {ta : TA} {p pos tpos : Pos} {elts : List Expr} {kk : Nat} (hg : Gl X "enumerate") (hm : X.mg "enumerate" = none) (ha : PA X [e] ta) (hs : starEach [e] X.env = [(false, eval e X.env)] := by rfl) :
    PI X (.Tuple elts kk tpos) (.Call (.Name "enumerate" p) [e] [] pos) (iEnumT X.K ta) := by
  refine ⟨fun pins s σ H R I h => ?_⟩
  refine Call_ (ld_blt I hg hm boot_enumerate (PyProof.Rows.callWith_type1 (thn (ha.run pos pins s σ H _ I h) fun us s1 ⟨vs, H1, I1, r1, q1⟩ => ?_) hs rfl))
  obtain ⟨a, xs, ex, hq, q⟩ := q1
  subst ex
  cases r1 with
  | cons r rr =>
    cases rr
    cases r
    obtain ⟨its, rv, p', hz⟩ := I1.tuple hq
    have p2 : s1.heap.IsTuple a its.toArray := p'
    refine call_enum1 (begins_tuple a its.toArray) p2 fun h' he hit hk => wpAny_pyIter_enum he ?_
    have I2 : Inv X pins σ H1 { s1 with heap := h' } := I1.kept (t' := s1.toks) hk
    refine ⟨s1.heap.objs.size + 1, [s1.heap.objs.size + 1, s1.heap.objs.size], _, _, H1, rfl, I2, turn_enumT a (s1.heap.objs.size + 1) s1.heap.objs.size, ⟨⟨.none, he⟩, ⟨_, hit, rfl, rfl⟩, Nat.succ_ne_self _⟩, fun b hb => ?_, q⟩
    have hle : s1.heap.objs.size ≤ b := by
      rcases (show b = s1.heap.objs.size + 1 ∨ b = s1.heap.objs.size by simpa using hb) with z | z
      · rw [z]; exact Nat.le_add_right _ _
      · rw [z]; exact Nat.le_refl _
    exact I1.fpOk hle (I1.hok.fresh hle)
/-- for i, x in enumerate(tuple) -/
theorem for_enumT {K : PySem.W.Frag} {a : Addr} {xs : List V} {i1 i2 : Nat} {tb : TS} {D : Ends} {σ : L2.St} {H : Hp} (Pv : Nat → L2.St → Hp → Prop) (h0 : Pv 0 σ H) (hl : ∀ i σ H, i ≤ xs.length → Pv i σ H → SqT K H a xs)
    (hs : ∀ i x σ H, xs[i]? = some x → Pv i σ H → ∀ T, H T = none → tb { D with nx := Pv (i + 1), ct := Pv (i + 1), bk := D.nx } ((σ.set i1 (some (.int (i : Nat)))).set i2 (some x)) (upd H T (.tup [.int (i : Nat), x]))) (hd : ∀ σ H, Pv xs.length σ H → D.nx σ H) :
    ∃ W : Nat → Nat → L2.St → Hp → Prop, (∃ m, W 0 m σ H) ∧ ∀ i m σ H, W i m σ H →
      ((IteT K a).stop i H ∧ D.nx σ H) ∨ ((IteT K a).go i H ∧ ∃ N : L2.St → Hp → Prop, (∀ σ' H', N σ' H' → ∃ m', m' < m ∧ W (i + 1) m' σ' H') ∧ ∀ x H', (IteT K a).yld i H x H' → gTup K 2 (gCons (gName i1) (gCons (gName i2) gNil)) x σ H' fun σ2 H2 => tb { D with nx := N, ct := N, bk := D.nx } σ2 H2) := by
  refine ⟨fun i m σ H => m = xs.length - i ∧ i ≤ xs.length ∧ Pv i σ H, ⟨xs.length, by simp, Nat.zero_le _, h0⟩, ?_⟩
  rintro i m σ H ⟨rfl, hi, p⟩
  have q := hl i σ H hi p
  by_cases hlt : i < xs.length
  · refine .inr ⟨⟨xs, xs[i], q, by simp [hlt]⟩, Pv (i + 1), fun σ' H' p' => ⟨xs.length - (i + 1), by omega, rfl, hlt, p'⟩, fun x H' y => ?_⟩
    obtain ⟨T, z, rfl, nT, rfl, y⟩ := y
    exact ⟨T, _, rfl, SqT.of upd_same, rfl, _, _, rfl, _, _, rfl, rfl, hs i z σ H (y xs q) p T nT⟩
  · have e : i = xs.length := by omega
    subst e
    exact .inl ⟨⟨xs, q, rfl⟩, hd σ H p⟩
/-- [e for a, b in tuple of pairs if p] -/
theorem lc_pairsT {K : PySem.W.Frag} {a : Addr} {ts : List Addr} {cs : List (Int × Int)} {i1 i2 : Nat} {tt : TT} {te : TE} {vs : List Nat} {σ : L2.St} {H1 : Hp} {D : Addr} {Qd : Hp → Prop} (p : Int × Int → Bool) (R : V → Int × Int → Hp → Prop)
    (hR : ∀ y c H H' acc, H D = some (.lst acc) → Kp D H H' → R y c H → R y c H') (hD : H1 D = none) (hL : SqT K H1 a (ts.map V.ref)) (hP : P2 (PrT H1) ts cs) (hsz : cs.length ≤ 100000)
    (hw : ∀ x y, wipe (((wipe σ vs).set i1 x).set i2 y) vs = wipe σ vs)
    (ht : ∀ c ∈ cs, ∀ H Q, Same H1 H → (∀ H', Same H H' → Q (p c) H') → tt (((wipe σ vs).set i1 (some (.int c.1))).set i2 (some (.int c.2))) H Q)
    (he : ∀ c ∈ cs, p c = true → ∀ H Q, Same H1 H → (∀ y H', Same H H' → R y c H' → Q y H') → te (((wipe σ vs).set i1 (some (.int c.1))).set i2 (some (.int c.2))) H Q)
    (hd : ∀ ys H, Same H1 H → H D = some (.lst ys) → P2 (fun y c => R y c H) ys (cs.filter p) → Qd H) : LcG (Itt K a) (gTup K 2 (gCons (gName i1) (gCons (gName i2) gNil))) tt te vs σ H1 D Qd := by
  have hlen := hP.len
  refine lc_tup (K := K) (a := a) (xs := ts.map V.ref) (fun i H => Same H1 H ∧ ∃ ys, H D = some (.lst ys) ∧ P2 (fun y c => R y c H) ys ((cs.take i).filter p)) ⟨same_upd hD, [], upd_same, .nil⟩ (fun i H _ ⟨s, _⟩ => s.seqT hL) ?_ ?_
  · rintro i x H hx ⟨s, ys, hy, py⟩
    rw [List.getElem?_map] at hx
    cases ht' : ts[i]? with
    | none => rw [ht'] at hx; cases hx
    | some t =>
      rw [ht'] at hx
      cases hx
      obtain ⟨c, hc, r⟩ := hP.getl ht'
      have hi : i < cs.length := (List.getElem?_eq_some_iff.mp hc).1
      have ll : ys.length ≤ 100000 := by
        have h1 := py.len
        have h2 := List.length_filter_le p (cs.take i)
        rw [List.length_take] at h2
        omega
      refine ⟨t, _, rfl, SqT.of (s _ _ r), rfl, _, _, rfl, _, _, rfl, rfl, hw _ _, ht c (mem_of_at hc) H _ s fun H2 s2 => ?_⟩
      have py2 := py.mono fun v b rb => hR v b H H2 _ hy s2.kp rb
      have hy2 := s2 _ _ hy
      by_cases hp : p c = true
      · rw [if_pos hp]
        refine he c (mem_of_at hc) hp H2 _ (s.trans s2) fun y H' s' r => ⟨ys, s' _ _ hy2, small_app (Nat.le_refl _) ll, ((s.trans s2).trans s').wr hD, ys ++ [y], upd_same, ?_⟩
        rw [take_snoc hc, List.filter_append, List.filter_cons, if_pos hp, List.filter_nil]
        exact (py2.mono fun v b rb => hR v b H' _ _ (s' _ _ hy2) (kp_upd D H' _) (hR v b H2 H' _ hy2 s'.kp rb)).snoc (hR y c H' _ _ (s' _ _ hy2) (kp_upd D H' _) r)
      · rw [if_neg hp]
        refine ⟨s.trans s2, ys, hy2, ?_⟩
        rw [take_snoc hc, List.filter_append, List.filter_cons, if_neg hp, List.filter_nil, List.append_nil]
        exact py2
  · rintro H ⟨s, ys, hy, py⟩
    rw [List.length_map, hlen, List.take_length] at py
    exact hd ys H s hy py
/-- a class that is made by its name, one default: an empty tuple -/
structure Ini0 (K : PySem.W.Frag) (mg : Str → Option Value) (x qual : Str) (C : Addr) (st : Stmt) : Prop where
  ex : ∃ f fd d, Mk K C f ∧ mg x = some (.ref C) ∧ FunD K "__init__" qual (defArgs st) (defBody st) (defScope st) [.ref d] [] f fd ∧ ∀ H, SqT K H d []
def empB (a : PySem.W.Frag → Addr) (K : PySem.W.Frag) : Bool := match K.lookup (a K) with
  | some ⟨.type c, _, .seq its _, _⟩ => decide (c = "tuple") && its.toList.isEmpty
  | _ => false
theorem empB_ok {a : PySem.W.Frag → Addr} {K : PySem.W.Frag} (h : empB a K = true) : ∀ H, SqT K H (a K) [] := by
  intro H
  unfold empB at h
  split at h
  · rename_i c od its n osl e
    obtain ⟨h1, h2⟩ := He.ba h
    have e2 : its.toList = [] := List.isEmpty_iff.mp h2
    refine .inr ⟨_, its, n, e, by rw [of_decide_eq_true h1], rfl, ?_, by rw [e2]; exact .nil⟩
    have : its.size = 0 := by rw [← Array.length_toList, e2]; rfl
    rw [this]
    exact Nat.zero_le _
  · cases h
/-- a class made without an argument, a default kept -/
theorem pe_mkx0 {X : Cx} {k j : Nat} {C : Addr} {x : Str} {sp : Sp} {dvs : List V} {p pos : Pos} {E : XK} (c : Mak X.prog X.w X.K X.mg X.base k x C sp dvs) (hr : Room j X.A) (hk : k + 1 ≤ j) (hg : Gl X x) (hx : Passes (L2.CX X.prog X.w) X E)
    (hdb : (x == ("__debug__" : Str)) = false := by decide) : PE X (.Call (.Name x p) [] [] pos) (tMake C sp dvs E tNil) := by
  obtain ⟨f, fd, ps, ds, M, F, hm, b, d⟩ := c.ex
  exact pe_make0 M F (hr.mono hk) hg hm b d hx hdb
end Tr

/-! # Own operators with an int: o + n, n + o, -o. -/
namespace Tr
open PySem PySem.Spec PyProof.Rows L2
/-- what o + n leans on -/
structure IntOp (K : PySem.W.Frag) (C : Addr) (nm : String) : Prop where
  hc : PySem.W.selfFirst K C = true
  hr : ∃ rc, PySem.W.findIn K (.ref C) (dunderR nm) = some rc ∧ (rc = none ∨ ∃ g : Addr, rc = some (.ref g))
  h1 : ∃ fo, PySem.W.findIn K (.type "int") (PySem.dunder nm) = some fo
  h2 : ∃ ro, PySem.W.findIn K (.type "int") (dunderR nm) = some ro
  hs : PySem.W.subIn K (.type "int") (.ref C) = some false
  hs' : PySem.W.subIn K (.ref C) (.type "int") = some false
def intOpB (x : Str) (nm : String) (K : PySem.W.Frag) : Bool :=
  PySem.W.selfFirst K (He.ga K x) && ((match PySem.W.findIn K (.ref (He.ga K x)) (dunderR nm) with
    | some none => true
    | some (some (.ref _)) => true
    | _ => false) && ((PySem.W.findIn K (.type "int") (PySem.dunder nm)).isSome && ((PySem.W.findIn K (.type "int") (dunderR nm)).isSome &&
      (decide (PySem.W.subIn K (.type "int") (.ref (He.ga K x)) = some false) && decide (PySem.W.subIn K (.ref (He.ga K x)) (.type "int") = some false)))))
theorem intOpB_ok {x : Str} {nm : String} {K : PySem.W.Frag} (h : intOpB x nm K = true) : IntOp K (He.ga K x) nm := by
  obtain ⟨h1, h⟩ := He.ba h
  obtain ⟨h2, h⟩ := He.ba h
  obtain ⟨h3, h⟩ := He.ba h
  obtain ⟨h4, h⟩ := He.ba h
  obtain ⟨h5, h6⟩ := He.ba h
  refine ⟨h1, ?_, Option.isSome_iff_exists.mp h3, Option.isSome_iff_exists.mp h4, of_decide_eq_true h5, of_decide_eq_true h6⟩
  split at h2
  · rename_i e
    exact ⟨none, e, .inl rfl⟩
  · rename_i g e
    exact ⟨_, e, .inr ⟨g, rfl⟩⟩
  · cases h2
section
variable {prog : Program} {w : World} {A : Around} {E : Value → Shared → Prop} {s : Shared} {K : PySem.W.Frag} {x C L f f0 : Addr} {h₀ : Heap} {m : Str → Option Value} {ox : Obj} {od : Option Obj}
theorem int_add_no (a : Int) (t : Tok) (x C dx : Addr) : Meets (Builtin.«int.__add__» ⟨[.int a t, .ref x], []⟩) (fun _ R s => s.heap.get? x = some (PySem.W.instObj C dx) ∧ R (.ok (.ret Value.notImplemented)) s) := .of_wp fun prog w A R s h => by
  obtain ⟨hp, g, d, tk, os⟩ := s
  obtain ⟨hl, h⟩ := h
  unfold PySem.W.instObj at hl
  wp_walk
  exact ⟨_, rfl, h⟩
theorem int_mul_no (a : Int) (t : Tok) (x C dx : Addr) : Meets (Builtin.«int.__mul__» ⟨[.int a t, .ref x], []⟩) (fun _ R s => s.heap.get? x = some (PySem.W.instObj C dx) ∧ R (.ok (.ret Value.notImplemented)) s) := .of_wp fun prog w A R s h => by
  obtain ⟨hp, g, d, tk, os⟩ := s
  obtain ⟨hl, h⟩ := h
  unfold PySem.W.instObj at hl
  wp_walk
  exact ⟨_, rfl, h⟩
/-- int op o, by the class's reflected method -/
theorem binop_R {op : Operator} {a : Int} {t : Tok} {id : String} {Q : Value → Shared → Prop} (F : Fr h₀ L s.heap m) (X₀ : K.In h₀) (I : PySem.W.InstAt s.heap x ox C od) (i : IntOp K C op.info.2)
    (hs : PySem.W.findIn K (.ref C) (PySem.dunder op.info.2) = some (some (.ref f0))) (hr : PySem.W.findIn K (.ref C) (dunderR op.info.2) = some (some (.ref f))) (hf : PySem.W.isFn K (.ref f) = true)
    (hfT : fillsNumberSlot (.type "int") op.info.2 = pure true) (sl : Slot "int" (PySem.dunder op.info.2) id) (hd : ∀ E', wpAny (model prog w) A (call (.builtin id) [.int a t, .ref x]) (fun v s' => v = .notImplemented ∧ s' = s) E' s)
    (h : wpAny (model prog w) A (call (.ref f) [.ref x, .int a t]) (PySem.W.CmpBack Q) E s) : wpAny (model prog w) A (binaryOp op (.int a t) (.ref x)) Q E s := by
  have X := X₀.keeps F.keep
  obtain ⟨cd, rest, hcd, hm⟩ := PySem.W.ksp_first i.hc
  have one := PySem.W.ksp_try X I hr hf h
  have two : wpAny (model prog w) A (tryMethod (.int a t) (PySem.dunder op.info.2) (.ref x)) (fun r s' => r = none ∧ s' = s) E s :=
    wpAny_tryMethod_declines (T := "int") rfl sl (wpAny_mono (hd E) (fun v s' q => ⟨q.1, rfl, q.2⟩) fun _ _ z => z)
  rcases hi : op.info with ⟨sym, nm'⟩
  have i' := i
  rw [hi] at hs hr hfT sl one two i'
  dsimp only at hs hr hfT sl one two i'
  have L1 : PySem.W.Looks (model prog w) s.heap (typeOf (.ref x)) (.ref C) := I.type
  have L3 : PySem.W.Looks (model prog w) s.heap (fillsNumberSlot (.ref C) nm') true := PySem.W.fills_K X hcd hm hs
  have L5 : PySem.W.Looks (model prog w) s.heap (isSubtype (.ref C) (.type "int")) false := PySem.W.looks_subIn X i'.hs'
  have hne : (Value.type "int" == Value.ref C) = false := Bool.eq_false_iff.mpr fun q => by cases beq_iff_eq.mp q
  simp only [binaryOp, hi]
  refine wpAny_holding (wpAny_bind ?_)
  unfold binaryOp1
  refine wpAny_bind (wpAny_of_eq (a := Value.type "int") rfl (wpAny_bind (L1.here (wpAny_bind (wpAny_of_eq hfT ?_)))))
  simp only [hne, Bool.false_eq_true, if_false]
  refine wpAny_bind (L3.here ?_)
  simp only [Bool.and_self, if_true]
  refine wpAny_bind (L5.here ?_)
  simp only [Bool.false_eq_true, if_false, Bool.not_false, Bool.and_self, if_true]
  refine wpAny_bind (wpAny_of_eq (a := false) rfl ?_)
  simp only [Bool.false_eq_true, if_false, Bool.not_false, Bool.and_self, if_true]
  refine wpAny_bind (wpAny_mono two (fun r s' q => ?_) fun _ _ z => z)
  obtain ⟨rfl, rfl⟩ := q
  refine wpAny_bind (wpAny_mono one (fun r s' q => ?_) fun _ _ z => z)
  obtain ⟨v, rfl, q⟩ := q
  exact wpAny_bind (wpAny_rule (wpAny_pure (wpAny_pure q)))
end
section
variable {X : Cx} {k : Nat} {C : Addr} {m : Str} {sp : Sp} {E : XK}
/-- o op n -/
def rBinI (C : Addr) (sp : Sp) (E : XK) : R2 := fun x y H Q => ∃ a dx fs i, x = .ref a ∧ y = .int i ∧ H a = some (.ins C dx fs) ∧ sp [x, y] H (fun v H' => ∃ z, v = .ref z ∧ Q (.ref z) H') E
/-- n op o -/
def rBinR (C : Addr) (sp : Sp) (E : XK) : R2 := fun x y H Q => ∃ a dx fs i, x = .int i ∧ y = .ref a ∧ H a = some (.ins C dx fs) ∧ sp [y, x] H (fun v H' => ∃ z, v = .ref z ∧ Q (.ref z) H') E
theorem or_binI {op : Operator} (c : Met X.prog X.w X.K X.mg X.base k C m sp []) (hm : PySem.dunder op.info.2 = m) (i : IntOp X.K C op.info.2) {j : Nat} (hr : Room j X.A) (hk : k ≤ j) (hx : Passes (L2.CX X.prog X.w) X E) : OpR X (binaryOp op) (rBinI C sp E) := by
  subst hm
  obtain ⟨f, fd, ps, ds, hc, hm, F, b, d⟩ := c.ex
  cases d
  intro pins s σ H x y v u Q I rx ry h
  obtain ⟨a, dx, fs, n, rfl, rfl, ha, h⟩ := h
  cases rx
  obtain ⟨tk, rfl⟩ := ry
  obtain ⟨mA, J, _⟩ := ins_get I.hok ha
  obtain ⟨od, J, _⟩ := J.look
  obtain ⟨m, hF⟩ := I.fr
  obtain ⟨rc, hr1, hr2⟩ := i.hr
  obtain ⟨fo, h1⟩ := i.h1
  obtain ⟨ro, h2⟩ := i.h2
  refine PySem.W.ksp_binT (T := "int") hF I.ok.mod.kin J rfl i.hc hm.at_ hm.fn hr1 hr2 h1 h2 i.hs ?_
  refine wpAny_mono (run_at F (hr.mono hk) rfl b hx I (us := [.ref a, .int n tk]) (vs := [.ref a, .int n]) (.cons rfl (.cons ⟨_, rfl⟩ .nil)) h) (fun r s' q => ?_) fun _ _ z => z
  obtain ⟨z, H', I', rz, b', rfl, q⟩ := q
  cases rz
  exact ⟨.ref b', H', I', rfl, q⟩
/-- the left int's own method says no -/
structure IntNo (op : Operator) : Prop where
  fills : fillsNumberSlot (.type "int") op.info.2 = pure true
  ex : ∃ id b, Slot "int" (PySem.dunder op.info.2) id ∧ entryFor table id = some b ∧ (∀ x y, argsOk id ⟨[x, y], []⟩) ∧ ∀ (a : Int) (t : Tok) (x C dx : Addr), Meets (b ⟨[.int a t, .ref x], []⟩) (fun _ R s => s.heap.get? x = some (PySem.W.instObj C dx) ∧ R (.ok (.ret Value.notImplemented)) s)
theorem intNo_add : IntNo .Add := ⟨F.fills_int_add, _, _, F.slot_int_add, F.entry_int_add, F.args_int_add_2, int_add_no⟩
theorem intNo_mul : IntNo .Mult := ⟨F.fills_int_mul, _, _, F.slot_int_mul, F.entry_int_mul, F.args_int_mul_2, int_mul_no⟩
theorem or_binR {op : Operator} {m0 : Str} {sp0 : Sp} {k0 : Nat} (c : Met X.prog X.w X.K X.mg X.base k C m sp []) (c0 : Met X.prog X.w X.K X.mg X.base k0 C m0 sp0 []) (hm : dunderR op.info.2 = m) (hm0 : PySem.dunder op.info.2 = m0) (i : IntOp X.K C op.info.2) (no : IntNo op) {j : Nat} (hr : Room j X.A) (hk : k ≤ j) (hx : Passes (L2.CX X.prog X.w) X E) : OpR X (binaryOp op) (rBinR C sp E) := by
  subst hm hm0
  obtain ⟨f0, _, _, _, _, hm0, _, _, _⟩ := c0.ex
  obtain ⟨f, fd, ps, ds, hc, hm, F, b, d⟩ := c.ex
  cases d
  intro pins s σ H x y v u Q I rx ry h
  obtain ⟨a, dx, fs, n, rfl, rfl, ha, h⟩ := h
  obtain ⟨tk, rfl⟩ := rx
  cases ry
  obtain ⟨mA, J0, _⟩ := ins_get I.hok ha
  obtain ⟨od, J, _⟩ := J0.look
  obtain ⟨m, hF⟩ := I.fr
  obtain ⟨fills, id, bb, sl, en, ar, me⟩ := no
  refine binop_R hF I.ok.mod.kin J i hm0.at_ hm.at_ hm.fn fills sl (fun E' => ?_) ?_
  · exact call_meets sl (show s.TypeIs (.int n tk) "int" from rfl) en (ar _ _) (me n tk a C dx) ⟨J0.obj, rfl, rfl⟩
  · refine wpAny_mono (run_at F (hr.mono hk) rfl b hx I (us := [.ref a, .int n tk]) (vs := [.ref a, .int n]) (.cons rfl (.cons ⟨_, rfl⟩ .nil)) h) (fun r s' q => ?_) fun _ _ z => z
    obtain ⟨z, H', I', rz, b', rfl, q⟩ := q
    cases rz
    exact ⟨.ref b', H', I', rfl, q⟩
/-- -o -/
def rNegO (C : Addr) (sp : Sp) (E : XK) (x : V) (H : Hp) (Q : VK) : Prop := ∃ a dx fs, x = .ref a ∧ H a = some (.ins C dx fs) ∧ sp [x] H Q E
theorem pe_unO {u : UnaryOp} {j : Nat} {e : Expr} {ta : TE} {pos : Pos} (c : Met X.prog X.w X.K X.mg X.base k C m sp []) (hu : (u = .USub ∧ m = "__neg__") ∨ (u = .Invert ∧ m = "__invert__")) (hr : Room j X.A) (hk : k ≤ j) (hx : Passes (L2.CX X.prog X.w) X E) (ha : PE X e ta) :
    PE X (.UnaryOp u e pos) (fun σ H Q => ta σ H fun x H1 => rNegO C sp E x H1 Q) := by
  obtain ⟨f, fd, ps, ds, hc, hm, F, b, d⟩ := c.ex
  cases d
  refine ⟨fun pins s σ H Q I h => ?_⟩
  refine UnaryOp_ (thn (ha.run pins s σ H _ I h) fun v s1 ⟨x, H1, I1, r1, a, dx, fs, ex, ea, q1⟩ => ?_)
  subst ex
  cases r1
  obtain ⟨mA, J, _⟩ := ins_get I1.hok ea
  obtain ⟨od, J, _⟩ := J.look
  obtain ⟨m, hF⟩ := I1.fr
  have go := run_at (A := X.A) F (hr.mono hk) rfl b hx I1 (us := [.ref a]) (vs := [.ref a]) (.cons rfl .nil) q1
  rcases hu with ⟨rfl, rfl⟩ | ⟨rfl, rfl⟩
  · exact PySem.W.ksp_neg hF I1.ok.mod.kin J hm.at_ hm.fn go
  · exact PySem.W.ksp_inv hF I1.ok.mod.kin J hm.at_ hm.fn go
end
end Tr

/-! # min, max of a list of ints with a default. -/
namespace Tr
open PySem PySem.Spec PyProof.Rows L2 PySem.W
def rMinD (K : PySem.W.Frag) : List V → List V → Hp → VK → Prop := fun vs zs H Q => ∃ (a : Addr) (ns : List Int) (d : V), vs = [V.ref a] ∧ zs = [d] ∧ SqL K H a (ns.map V.int) ∧ (ns = [] → Q d H) ∧ ∀ m, m ∈ ns → (∀ y, y ∈ ns → m ≤ y) → Q (.int m) H
def rMaxD (K : PySem.W.Frag) : List V → List V → Hp → VK → Prop := fun vs zs H Q => ∃ (a : Addr) (ns : List Int) (d : V), vs = [V.ref a] ∧ zs = [d] ∧ SqL K H a (ns.map V.int) ∧ (ns = [] → Q d H) ∧ ∀ m, m ∈ ns → (∀ y, y ∈ ns → y ≤ m) → Q (.int m) H
theorem reads_ints {h : Heap} {ns : List Int} {its : List Value} (r : Vals (ns.map V.int) its) : ReadsAll h its (ns.map PyData.int) [] := by
  induction ns generalizing its with
  | nil =>
    cases r
    exact .nil
  | cons n ns ih =>
    cases r with
    | cons r rr =>
      obtain ⟨t, rfl⟩ := r
      exact .cons (as := []) (.int n t) (ih rr)
theorem alike_ints (ns : List Int) : AlikeAll (ns.map PyData.int) := by
  refine ⟨fun x hx y hy => ?_, fun x hx => ?_⟩
  · obtain ⟨a, _, rfl⟩ := List.mem_map.mp hx
    obtain ⟨b, _, rfl⟩ := List.mem_map.mp hy
    rfl
  · obtain ⟨a, _, rfl⟩ := List.mem_map.mp hx
    intro z
    cases z
theorem depth_ints0 : ∀ ns : List Int, PyData.depthAll (ns.map PyData.int) ≤ 0
  | [] => Nat.zero_le _
  | c :: cs => by
    have h := depth_ints0 cs
    show max 0 (PyData.depthAll (cs.map PyData.int)) ≤ 0
    omega
theorem fold_min (n : Int) : ∀ ns : List Int, (ns.foldl min n) ∈ n :: ns ∧ ∀ y ∈ n :: ns, ns.foldl min n ≤ y := by
  intro ns
  induction ns generalizing n with
  | nil => exact ⟨List.mem_cons_self, fun y hy => by rw [List.mem_singleton.mp hy]; exact Int.le_refl _⟩
  | cons k r ih =>
    obtain ⟨h1, h2⟩ := ih (min n k)
    rw [List.foldl_cons]
    have h3 := h2 _ List.mem_cons_self
    refine ⟨?_, fun y hy => ?_⟩
    · rcases List.mem_cons.mp h1 with e | h
      · rw [e]
        rcases Int.le_total n k with z | z
        · rw [Int.min_eq_left z]; exact List.mem_cons_self
        · rw [Int.min_eq_right z]; exact List.mem_cons_of_mem _ List.mem_cons_self
      · exact List.mem_cons_of_mem _ (List.mem_cons_of_mem _ h)
    · rcases List.mem_cons.mp hy with rfl | hy
      · omega
      · rcases List.mem_cons.mp hy with rfl | hy
        · omega
        · exact h2 y (List.mem_cons_of_mem _ hy)
theorem fold_max (n : Int) : ∀ ns : List Int, (ns.foldl max n) ∈ n :: ns ∧ ∀ y ∈ n :: ns, y ≤ ns.foldl max n := by
  intro ns
  induction ns generalizing n with
  | nil => exact ⟨List.mem_cons_self, fun y hy => by rw [List.mem_singleton.mp hy]; exact Int.le_refl _⟩
  | cons k r ih =>
    obtain ⟨h1, h2⟩ := ih (max n k)
    rw [List.foldl_cons]
    have h3 := h2 _ List.mem_cons_self
    refine ⟨?_, fun y hy => ?_⟩
    · rcases List.mem_cons.mp h1 with e | h
      · rw [e]
        rcases Int.le_total n k with z | z
        · rw [Int.max_eq_right z]; exact List.mem_cons_of_mem _ List.mem_cons_self
        · rw [Int.max_eq_left z]; exact List.mem_cons_self
      · exact List.mem_cons_of_mem _ (List.mem_cons_of_mem _ h)
    · rcases List.mem_cons.mp hy with rfl | hy
      · omega
      · rcases List.mem_cons.mp hy with rfl | hy
        · omega
        · exact h2 y (List.mem_cons_of_mem _ hy)
theorem cr_minD {X : Cx} (hc : X.calm = true) (hu : X.A.units + 64 < cLine) : CallRK X (.builtin "min") ["default"] (rMinD X.K) := by
  intro pins s σ H xs zs us ws Q I r rz h
  obtain ⟨a, ns, d, rfl, rfl, hs, q0, q⟩ := h
  obtain ⟨its, rv, hl, _⟩ := I.list hs
  rw [Vals.ref1 r]
  cases rz with
  | cons rd rr =>
    cases rr
    refine min_list_default (I.ok.hd hc) hl.isList (by simpa using reads_ints rv) (alike_ints ns) ?_ (fun e h' tk hk => ?_) fun y ys i v h' tk bs e hv hr hk => ?_
    · have := depth_ints0 ns
      omega
    · exact ⟨d, H, I.kept hk, rd, q0 (by cases ns with | nil => rfl | cons _ _ => cases e)⟩
    · cases ns with
      | nil => cases e
      | cons n ns =>
        rw [List.map_cons] at e
        injection e with e1 e2
        subst e1 e2
        rw [minD_ints] at hr
        cases hr
        obtain ⟨m1, m2⟩ := fold_min n ns
        exact ⟨.int _, H, I.kept hk, ⟨_, rfl⟩, q _ m1 m2⟩
theorem cr_maxD {X : Cx} (hc : X.calm = true) (hu : X.A.units + 64 < cLine) : CallRK X (.builtin "max") ["default"] (rMaxD X.K) := by
  intro pins s σ H xs zs us ws Q I r rz h
  obtain ⟨a, ns, d, rfl, rfl, hs, q0, q⟩ := h
  obtain ⟨its, rv, hl, _⟩ := I.list hs
  rw [Vals.ref1 r]
  cases rz with
  | cons rd rr =>
    cases rr
    refine max_list_default (I.ok.hd hc) hl.isList (by simpa using reads_ints rv) (alike_ints ns) ?_ (fun e h' tk hk => ?_) fun y ys i v h' tk bs e hv hr hk => ?_
    · have := depth_ints0 ns
      omega
    · exact ⟨d, H, I.kept hk, rd, q0 (by cases ns with | nil => rfl | cons _ _ => cases e)⟩
    · cases ns with
      | nil => cases e
      | cons n ns =>
        rw [List.map_cons] at e
        injection e with e1 e2
        subst e1 e2
        rw [maxD_ints] at hr
        cases hr
        obtain ⟨m1, m2⟩ := fold_max n ns
        exact ⟨.int _, H, I.kept hk, ⟨_, rfl⟩, q _ m1 m2⟩
end Tr

/-! ### the text by places; what the top has left -/
namespace Tr
open PySem L2
def top (i : Nat) : Stmt := PySem.Challenge.pw_turnrings_k07_first_last_nearest.main.body.getD i (.Pass ⟨0, 0, 0, 0⟩)
abbrev s_common_divisor : Stmt := top 2
theorem sc_common_divisor : FnScope ["a", "b"] ["a", "b"] (defScope s_common_divisor) := ⟨rfl, rfl, rfl, by decide +kernel, rfl, by decide +kernel, by decide +kernel⟩
abbrev s_common_multiple : Stmt := top 3
theorem sc_common_multiple : FnScope ["a", "b"] ["a", "b"] (defScope s_common_multiple) := ⟨rfl, rfl, rfl, by decide +kernel, rfl, by decide +kernel, by decide +kernel⟩
abbrev s_combination : Stmt := top 4
theorem sc_combination : FnScope ["a", "b", "one", "two", "part"] ["a", "b"] (defScope s_combination) := ⟨rfl, rfl, rfl, by decide +kernel, rfl, by decide +kernel, by decide +kernel⟩
abbrev s_inverse : Stmt := top 5
theorem sc_inverse : FnScope ["a", "m"] ["a", "m"] (defScope s_inverse) := ⟨rfl, rfl, rfl, by decide +kernel, rfl, by decide +kernel, by decide +kernel⟩
abbrev s_tidy_classes : Stmt := top 13
theorem sc_tidy_classes : FnScope ["classes", "kept", "m", "r", "s", "k"] ["classes"] (defScope s_tidy_classes) := ⟨rfl, rfl, rfl, by decide +kernel, rfl, by decide +kernel, by decide +kernel⟩
abbrev s_refined : Stmt := top 14
theorem sc_refined : FnScope ["classes", "r", "m", "found", "s", "k", "g", "small", "times"] ["classes", "r", "m"] (defScope s_refined) := ⟨rfl, rfl, rfl, by decide +kernel, rfl, by decide +kernel, by decide +kernel⟩
abbrev s_is_covered : Stmt := top 15
theorem sc_is_covered : FnScope ["n", "classes", "r", "m"] ["n", "classes"] (defScope s_is_covered) := ⟨rfl, rfl, rfl, by decide +kernel, rfl, by decide +kernel, by decide +kernel⟩
abbrev s_bare_number : Stmt := top 16
theorem sc_bare_number : FnScope ["classes", "least", "u", "found", "r", "m", "n"] ["classes"] (defScope s_bare_number) := ⟨rfl, rfl, rfl, by decide +kernel, rfl, by decide +kernel, by decide +kernel⟩
abbrev s_is_whole : Stmt := top 11
theorem sc_is_whole : FnScope ["value"] ["value"] (defScope s_is_whole) := ⟨rfl, rfl, rfl, by decide +kernel, rfl, by decide +kernel, by decide +kernel⟩
abbrev s_is_part : Stmt := top 12
theorem sc_is_part : FnScope ["value"] ["value"] (defScope s_is_part) := ⟨rfl, rfl, rfl, by decide +kernel, rfl, by decide +kernel, by decide +kernel⟩
abbrev s_Numbers___init__ : Stmt := inClass (top 17) 0
theorem sc_Numbers___init__ : FnScope ["self", "parts", "index", "part", "singles", "r", "m", "n"] ["self", "parts"] (defScope s_Numbers___init__) := ⟨rfl, rfl, rfl, by decide +kernel, rfl, by decide +kernel, by decide +kernel⟩
abbrev s_Numbers___contains__ : Stmt := inClass (top 17) 6
theorem sc_Numbers___contains__ : FnScope ["self", "n"] ["self", "n"] (defScope s_Numbers___contains__) := ⟨rfl, rfl, rfl, by decide +kernel, rfl, by decide +kernel, by decide +kernel⟩
abbrev s_Numbers_outside : Stmt := inClass (top 17) 14
theorem sc_Numbers_outside : FnScope ["self", "other", "n", "r", "m", "classes", "bare", "around", "s", "k"] ["self", "other"] (defScope s_Numbers_outside) := ⟨rfl, rfl, rfl, by decide +kernel, rfl, by decide +kernel, by decide +kernel⟩
abbrev s_Numbers_within : Stmt := inClass (top 17) 15
theorem sc_Numbers_within : FnScope ["self", "other"] ["self", "other"] (defScope s_Numbers_within) := ⟨rfl, rfl, rfl, by decide +kernel, rfl, by decide +kernel, by decide +kernel⟩
abbrev s_Numbers___eq__ : Stmt := inClass (top 17) 16
theorem sc_Numbers___eq__ : FnScope ["self", "other"] ["self", "other"] (defScope s_Numbers___eq__) := ⟨rfl, rfl, rfl, by decide +kernel, rfl, by decide +kernel, by decide +kernel⟩
abbrev s__law_bag : Stmt := top 19
theorem sc__law_bag : FnScope ["_law_script", "_law_fold", "_law_cell"] ["_law_script"] (defScope s__law_bag) := ⟨rfl, rfl, rfl, by decide +kernel, rfl, by decide +kernel, by decide +kernel⟩
abbrev s__law_draw : Stmt := top 20
theorem sc__law_draw : FnScope ["_law_bag_here", "_law_limit", "_law_cell", "_law_digit", "_law_base"] ["_law_bag_here", "_law_limit"] (defScope s__law_draw) := ⟨rfl, rfl, rfl, by decide +kernel, rfl, by decide +kernel, by decide +kernel⟩
abbrev s__law_pairs : Stmt := top 21
theorem sc__law_pairs : FnScope ["_law_bag_here", "_law_most", "_law_limit", "_law_spread", "_law_found", "_law_k", "_law_modulus"] ["_law_bag_here", "_law_most", "_law_limit", "_law_spread"] (defScope s__law_pairs) := ⟨rfl, rfl, rfl, by decide +kernel, rfl, by decide +kernel, by decide +kernel⟩
abbrev s__law_has : Stmt := top 22
theorem sc__law_has : FnScope ["_law_pairs_here", "_law_n", "_law_r", "_law_m"] ["_law_pairs_here", "_law_n"] (defScope s__law_has) := ⟨rfl, rfl, rfl, by decide +kernel, rfl, by decide +kernel, by decide +kernel⟩
abbrev s_Numbers_parts_told : Stmt := inClass (top 17) 5
theorem sc_Numbers_parts_told : FnScope ["self", "n"] ["self"] (defScope s_Numbers_parts_told) := ⟨rfl, rfl, rfl, by decide +kernel, rfl, by decide +kernel, by decide +kernel⟩
abbrev s_common_class : Stmt := top 6
theorem sc_common_class : FnScope ["one", "other", "r", "m", "s", "k", "g", "times", "whole"] ["one", "other"] (defScope s_common_class) := ⟨rfl, rfl, rfl, by decide +kernel, rfl, by decide +kernel, by decide +kernel⟩
abbrev s_Numbers___and__ : Stmt := inClass (top 17) 13
theorem sc_Numbers___and__ : FnScope ["self", "other", "found", "one", "two", "pair"] ["self", "other"] (defScope s_Numbers___and__) := ⟨rfl, rfl, rfl, by decide +kernel, rfl, by decide +kernel, by decide +kernel⟩
abbrev s_Numbers___bool__ : Stmt := inClass (top 17) 7
theorem sc_Numbers___bool__ : FnScope ["self"] ["self"] (defScope s_Numbers___bool__) := ⟨rfl, rfl, rfl, by decide +kernel, rfl, by decide +kernel, by decide +kernel⟩
abbrev s_Numbers___or__ : Stmt := inClass (top 17) 12
theorem sc_Numbers___or__ : FnScope ["self", "other"] ["self", "other"] (defScope s_Numbers___or__) := ⟨rfl, rfl, rfl, by decide +kernel, rfl, by decide +kernel, by decide +kernel⟩
abbrev s_Numbers_first_from : Stmt := inClass (top 17) 24
theorem sc_Numbers_first_from : FnScope ["self", "n", "found", "r", "m", "k"] ["self", "n"] (defScope s_Numbers_first_from) := ⟨rfl, rfl, rfl, by decide +kernel, rfl, by decide +kernel, by decide +kernel⟩
abbrev s_Numbers_last_until : Stmt := inClass (top 17) 25
theorem sc_Numbers_last_until : FnScope ["self", "n", "found", "r", "m", "k"] ["self", "n"] (defScope s_Numbers_last_until) := ⟨rfl, rfl, rfl, by decide +kernel, rfl, by decide +kernel, by decide +kernel⟩
abbrev s_Numbers_nearest : Stmt := inClass (top 17) 26
theorem sc_Numbers_nearest : FnScope ["self", "n", "below", "above"] ["self", "n"] (defScope s_Numbers_nearest) := ⟨rfl, rfl, rfl, by decide +kernel, rfl, by decide +kernel, by decide +kernel⟩
abbrev s__law_ahead : Stmt := top 23
theorem sc__law_ahead : FnScope ["_law_pairs_here", "_law_n", "_law_found", "_law_r", "_law_m", "_law_k"] ["_law_pairs_here", "_law_n"] (defScope s__law_ahead) := ⟨rfl, rfl, rfl, by decide +kernel, rfl, by decide +kernel, by decide +kernel⟩
abbrev s__law_behind : Stmt := top 24
theorem sc__law_behind : FnScope ["_law_pairs_here", "_law_n", "_law_turned", "_law_r", "_law_m"] ["_law_pairs_here", "_law_n"] (defScope s__law_behind) := ⟨rfl, rfl, rfl, by decide +kernel, rfl, by decide +kernel, by decide +kernel⟩
abbrev s__law_near : Stmt := top 25
theorem sc__law_near : FnScope ["_law_pairs_here", "_law_n", "_law_low", "_law_high"] ["_law_pairs_here", "_law_n"] (defScope s__law_near) := ⟨rfl, rfl, rfl, by decide +kernel, rfl, by decide +kernel, by decide +kernel⟩
abbrev s_law : Stmt := top 26
theorem sc_law : FnScope ["_law_script", "_law_bag_here", "_law_scale", "_law_pairs_here", "_law_a", "_law_far", "_law_points", "_law_k", "_law_n", "_law_r", "_law_m"] ["_law_script"] (defScope s_law) := ⟨rfl, rfl, rfl, by decide +kernel, rfl, by decide +kernel, by decide +kernel⟩
structure Txt (K : PySem.W.Frag) (mg : Str → Option Value) : Prop where
  a_Numbers__classes : NoAttr K (He.ga K "Numbers") "classes"
  a_Numbers__singles : NoAttr K (He.ga K "Numbers") "singles"
  b_abs : mg "abs" = none
  b_any : mg "any" = none
  b_bool : mg "bool" = none
  b_enumerate : mg "enumerate" = none
  b_int : mg "int" = none
  b_isinstance : mg "isinstance" = none
  b_len : mg "len" = none
  b_list : mg "list" = none
  b_max : mg "max" = none
  b_min : mg "min" = none
  b_range : mg "range" = none
  b_set : mg "set" = none
  b_sorted : mg "sorted" = none
  b_tuple : mg "tuple" = none
  d__law_ahead : Dfn K mg "_law_ahead" s__law_ahead
  d__law_bag : Dfn K mg "_law_bag" s__law_bag
  d__law_behind : Dfn K mg "_law_behind" s__law_behind
  d__law_draw : Dfn K mg "_law_draw" s__law_draw
  d__law_has : Dfn K mg "_law_has" s__law_has
  d__law_near : Dfn K mg "_law_near" s__law_near
  d__law_pairs : Dfn K mg "_law_pairs" s__law_pairs
  d_bare_number : Dfn K mg "bare_number" s_bare_number
  d_combination : Dfn K mg "combination" s_combination
  d_common_class : Dfn K mg "common_class" s_common_class
  d_common_divisor : Dfn K mg "common_divisor" s_common_divisor
  d_common_multiple : Dfn K mg "common_multiple" s_common_multiple
  d_inverse : Dfn K mg "inverse" s_inverse
  d_is_covered : Dfn K mg "is_covered" s_is_covered
  d_is_part : Dfn K mg "is_part" s_is_part
  d_is_whole : Dfn K mg "is_whole" s_is_whole
  d_refined : Dfn K mg "refined" s_refined
  d_tidy_classes : Dfn K mg "tidy_classes" s_tidy_classes
  e_Numbers : Ini0 K mg "Numbers" "Numbers.__init__" (He.ga K "Numbers") s_Numbers___init__
  i_Numbers : Ini K mg "Numbers" "Numbers.__init__" (He.ga K "Numbers") s_Numbers___init__ 1
  k_Numbers : Cls K (He.ga K "Numbers")
  m_Numbers____and__ : Mth K (He.ga K "Numbers") "__and__" "Numbers.__and__" s_Numbers___and__
  m_Numbers____bool__ : Mth K (He.ga K "Numbers") "__bool__" "Numbers.__bool__" s_Numbers___bool__
  m_Numbers____contains__ : Mth K (He.ga K "Numbers") "__contains__" "Numbers.__contains__" s_Numbers___contains__
  m_Numbers____eq__ : Mth K (He.ga K "Numbers") "__eq__" "Numbers.__eq__" s_Numbers___eq__
  m_Numbers____or__ : Mth K (He.ga K "Numbers") "__or__" "Numbers.__or__" s_Numbers___or__
  m_Numbers__first_from : Mth K (He.ga K "Numbers") "first_from" "Numbers.first_from" s_Numbers_first_from
  m_Numbers__last_until : Mth K (He.ga K "Numbers") "last_until" "Numbers.last_until" s_Numbers_last_until
  m_Numbers__nearest : Mth K (He.ga K "Numbers") "nearest" "Numbers.nearest" s_Numbers_nearest
  m_Numbers__outside : Mth K (He.ga K "Numbers") "outside" "Numbers.outside" s_Numbers_outside
  m_Numbers__parts_told : Mth K (He.ga K "Numbers") "parts_told" "Numbers.parts_told" s_Numbers_parts_told
  m_Numbers__within : Mth K (He.ga K "Numbers") "within" "Numbers.within" s_Numbers_within
  o_Numbers : IsO K (He.ga K "Numbers")
  v_Numbers : mg "Numbers" = some (.ref (He.ga K "Numbers"))
end Tr


namespace Tr
open PySem L2
/-- steps of a reading that are plain -/
local macro_rules | `(tactic| walk_at "x") => `(tactic| (refine' ⟨_, _, _, _, rfl, rfl, ?k1, ?k2, ?_⟩; (case k1 => exact SqT.of (by assumption)); (case k2 => exact rfl)))
local macro_rules | `(tactic| walk_at "g") => `(tactic| repeat (first | (refine ⟨_, rfl, ?_⟩) | (refine ⟨_, _, rfl, rfl, ?_⟩) | (refine ⟨_, _, rfl, ?_⟩) | (refine ⟨rfl, ?_⟩) | walk_at "x"))


/-! ### common_divisor -/
def spGcd : Sp := fun vs H Q _ => ∃ a b : Int, vs = [.int a, .int b] ∧ Q (.int (Int.gcd a b)) H
theorem abs_eq (a : Int) : (if a < 0 then -a else a) = a.natAbs := by
  split <;> omega
section
variable {P : Program} {w : World} {K : PySem.W.Frag} {mg : Str → Option Value} {base : Heap}
theorem c_common_divisor (T : Txt K mg) : Cal P w K mg base 1 "common_divisor" spGcd [] := by
  refine calN T.d_common_divisor sc_common_divisor (fun vs H Q E h => ?_) (fun _ _ _ _ _ _ us hl => match us, hl with | [_, _], _ => rfl) (fun f cdv A outer s H vs Q E hr h => ?_)
  · obtain ⟨a, b, rfl, _⟩ := h
    rfl
  · obtain ⟨a, b, rfl, k⟩ := h
    refine ⟨_, (pss_cons (ps_par (i := 0) (j := 1) (by rfl) sc_common_divisor.nd rfl rfl (by decide) rfl rfl (pa_cons (pe_callB call_abs (by rfl) T.b_abs (by decide +kernel) (pa_cons (pv 0) pa_nil)) (pa_cons (pe_callB call_abs (by rfl) T.b_abs (by decide +kernel) (pa_cons (pv 1) pa_nil)) pa_nil)) (by rfl))
      (pss_cons (ps_while PassesOwn.never (pt_cmpR op_gt (pv 1) pe_int (nomark _)) (pss_one (ps_par (i := 0) (j := 1) (by rfl) sc_common_divisor.nd rfl rfl (by decide) rfl rfl (pa_cons (pv 1) (pa_cons (pe_op op_mod (pv 0) (pv 1)) pa_nil)) (by rfl))))
      (pss_one (ps_ret (pv 0))))), ?_⟩
    walk_at "g"
    rw [abs_eq, abs_eq]
    refine wh (fun σ H' => H' = H ∧ ∃ x y : Int, σ = [some (.int x), some (.int y)] ∧ 0 ≤ x ∧ 0 ≤ y ∧ Int.gcd x y = Int.gcd a b) (fun σ _ => match σ with | [_, some (.int y)] => y.toNat | _ => 0)
      ⟨rfl, (a.natAbs : Int), (b.natAbs : Int), rfl, by omega, by omega, by simp [Int.gcd]⟩ ?_ ?_
    · rintro σ H' ⟨rfl, x, y, rfl, hx, hy, hg⟩
      walk_at "g"
      refine ite2 (fun c => ?_) (fun c => ?_)
      · have hy' : 0 < y := of_decide_eq_true c
        refine ⟨_, fun _ _ h => h, ?_⟩
        walk_at "g"
        refine ⟨hy', _, _, rfl, ⟨rfl, _, _, rfl, hy, Int.emod_nonneg _ (by omega), (gcd_step hy').trans hg⟩, ?_⟩
        show (x % y).toNat < y.toNat
        have := Int.emod_lt_of_pos x hy'
        omega
      · have hy' : ¬ 0 < y := fun z => c (decide_eq_true z)
        have e : y = 0 := by omega
        subst e
        walk_at "g"
        have : x = Int.gcd a b := by rw [← hg, Int.gcd_zero_right]; omega
        rw [this]
        exact k
    · rintro σ H' Q1 Q2 hq ⟨v, hv, i, j, e1, e2, b, e3, z⟩
      exact ⟨v, hv, i, j, e1, e2, b, e3, hq _ _ z⟩
theorem gcd_pos {a b : Int} (hb : 0 < b) : 0 < (Int.gcd a b : Int) := gcd_pos' hb
theorem gcd_le {a b : Int} (hb : 0 < b) : (Int.gcd a b : Int) ≤ b := Int.le_of_dvd hb (Int.gcd_dvd_right a b)
theorem gcd_bd {n : Nat} {a b : Int} (hb : 0 < b) (h : Bd n b) : Bd n (Int.gcd a b : Int) := h.le (by have := gcd_le (a := a) hb; have := gcd_pos (a := a) hb; omega)

def spLcm : Sp := fun vs H Q _ => ∃ a b : Int, vs = [.int a, .int b] ∧ 0 < b ∧ Bd 400000 a ∧ Bd 8000 b ∧ Q (.int (a / Int.gcd a b * b)) H
theorem c_common_multiple (T : Txt K mg) : Cal P w K mg base 2 "common_multiple" spLcm [] := by
  have c_common_divisor := @c_common_divisor P w K mg base T
  refine calN T.d_common_multiple sc_common_multiple (fun vs H Q E h => ?_) (fun _ _ _ _ _ _ us hl => match us, hl with | [_, _], _ => rfl) (fun f cdv A outer s H vs Q E hr h => ?_)
  · obtain ⟨a, b, rfl, _⟩ := h
    rfl
  · obtain ⟨a, b, rfl, hb, ba, bb, k⟩ := h
    refine ⟨_, (pss_one (ps_ret (pe_op op_mulW (pe_op op_fdivW (pv 0) (pe_cx c_common_divisor hr (by first | decide | omega) rfl passL (pa_cons (pv 0) (pa_cons (pv 1) pa_nil)))) (pv 1)))), ?_⟩
    walk_at "g"
    refine ⟨cdivw (gcd_pos hb) (gcd_bd hb bb) (by omega), ?_⟩
    walk_at "g"
    exact ⟨cmulw (ba.div (gcd_pos hb)) bb (by omega), k⟩

/-! ### combination, inverse -/
def spComb : Sp := fun vs H Q _ => ∃ a b : Int, vs = [.int a, .int b] ∧ 0 ≤ a ∧ 0 < b ∧ Bd 8000 a ∧ Bd 8000 b ∧
  ∀ (p : Addr) (H' : Hp) (u v : Int), Same H H' → H' p = some (.tup [.int (Int.gcd a b), .int u, .int v]) → u * a + v * b = Int.gcd a b → Q (.ref p) H'
def muComb (σ : St) (H : Hp) : Nat := match σ with
  | [_, _, _, some (.ref q), _] => (match H q with
    | some (.tup [.int x, _, _]) => x.toNat
    | _ => 0)
  | _ => 0
theorem c_combination (T : Txt K mg) : Cal P w K mg base 1 "combination" spComb [] := by
  refine calN T.d_combination sc_combination (fun vs H Q E h => ?_) (fun _ _ _ _ _ _ us hl => match us, hl with | [_, _], _ => rfl) (fun f cdv A outer s H vs Q E hr h => ?_)
  · obtain ⟨a, b, rfl, _⟩ := h
    rfl
  · obtain ⟨a, b, rfl, ha, hb, ba, bb, k⟩ := h
    refine ⟨_, (pss_cons (ps_par (i := 2) (j := 3) (by rfl) sc_combination.nd rfl rfl (by decide) rfl rfl (pa_cons (pe_tup (pa_cons (pv 0) (pa_cons pe_int (pa_cons pe_int pa_nil)))) (pa_cons (pe_tup (pa_cons (pv 1) (pa_cons pe_int (pa_cons pe_int pa_nil)))) pa_nil)) (by rfl))
      (pss_cons (ps_while PassesOwn.never (pt_cmpR op_ne (pe_ix ix_tup (pv 3) pe_int (fun _ _ => rfl)) pe_int (nomark _)) (pss_cons (ps_set (i := 4) sc_combination.nd rfl (Or.inl rfl) (pe_op op_fdivW (pe_ix ix_tup (pv 2) pe_int (fun _ _ => rfl)) (pe_ix ix_tup (pv 3) pe_int (fun _ _ => rfl))))
      (pss_one (ps_par (i := 2) (j := 3) (by rfl) sc_combination.nd rfl rfl (by decide) rfl rfl (pa_cons (pv 3) (pa_cons (pe_tup (pa_cons (pe_op op_sub (pe_ix ix_tup (pv 2) pe_int (fun _ _ => rfl)) (pe_op op_mulW (pv 4) (pe_ix ix_tup (pv 3) pe_int (fun _ _ => rfl)))) (pa_cons (pe_op op_sub (pe_ix ix_tup (pv 2) pe_int (fun _ _ => rfl)) (pe_op op_mulW (pv 4) (pe_ix ix_tup (pv 3) pe_int (fun _ _ => rfl)))) (pa_cons (pe_op op_sub (pe_ix ix_tup (pv 2) pe_int (fun _ _ => rfl)) (pe_op op_mulW (pv 4) (pe_ix ix_tup (pv 3) pe_int (fun _ _ => rfl)))) pa_nil)))) pa_nil)) (by rfl)))))
      (pss_one (ps_ret (pe_ifExp (pt_cmpR op_ge (pe_ix ix_tup (pv 2) pe_int (fun _ _ => rfl)) pe_int (nomark _)) (pv 2) (pe_tup (pa_cons (pe_un un_neg (pe_ix ix_tup (pv 2) pe_int (fun _ _ => rfl))) (pa_cons (pe_un un_neg (pe_ix ix_tup (pv 2) pe_int (fun _ _ => rfl))) (pa_cons (pe_un un_neg (pe_ix ix_tup (pv 2) pe_int (fun _ _ => rfl))) pa_nil))))))))), ?_⟩
    walk_at "g"
    refine ⟨by show 3 ≤ sizeLine; decide, fun p np => ?_⟩
    walk_at "g"
    refine ⟨by show 3 ≤ sizeLine; decide, fun q nq => ?_⟩
    walk_at "g"
    have npq : p ≠ q := ne_of_none upd_same nq
    refine wh (fun σ H' => Same H H' ∧ ∃ (p q : Addr) (x0 u0 v0 x1 u1 v1 : Int) (pt : Option V), σ = [some (.int a), some (.int b), some (.ref p), some (.ref q), pt] ∧
        H' p = some (.tup [.int x0, .int u0, .int v0]) ∧ H' q = some (.tup [.int x1, .int u1, .int v1]) ∧ Comb a b x0 u0 v0 x1 u1 v1) muComb ?_ ?_ ?_
    · exact ⟨(same_upd np).upd' nq, p, q, _, _, _, _, _, _, _, rfl, (by rw [upd_ne npq]; exact upd_same), upd_same, comb_start ha hb⟩
    · rintro σ H' ⟨s, p, q, x0, u0, v0, x1, u1, v1, pt, rfl, hp, hq, c⟩
      have bx0 : Bd 8001 x0 := ba.two bb c.bx
      walk_at "g"
      refine ite2 (fun cc => ?_) (fun cc => ?_)
      · have hx : x1 ≠ 0 := by simpa using cc
        have px : 0 < x1 := by have := c.n1; omega
        have bx1 : Bd 8001 x1 := ba.two bb c.by_
        have bq : Bd 8001 (x0 / x1) := bx0.div px
        have bu1 : Bd 8001 u1 := (bb.le c.bu1).mono (by omega)
        have bv1 : Bd 8001 v1 := ba.one c.bv1
        refine ⟨_, fun _ _ h => h, ?_⟩
        walk_at "g"
        refine ⟨cdivw px bx1 (by omega), ?_⟩
        walk_at "g"
        refine ⟨cmulw bq bx1 (by omega), ?_⟩
        walk_at "g"
        refine ⟨cmulw bq bu1 (by omega), ?_⟩
        walk_at "g"
        refine ⟨cmulw bq bv1 (by omega), ?_⟩
        walk_at "g"
        refine ⟨by show 3 ≤ sizeLine; decide, fun t nt => ?_⟩
        walk_at "g"
        have nqt : q ≠ t := ne_of_none hq nt
        refine ⟨⟨s.upd' nt, q, t, _, _, _, _, _, _, _, rfl, (by rw [upd_ne nqt]; exact hq), upd_same, comb_step ha hb c hx⟩, ?_⟩
        show muComb [_, _, _, some (.ref t), _] (L2.upd H' t _) < muComb [_, _, _, some (.ref q), _] H'
        unfold muComb
        dsimp only
        rw [upd_same, hq]
        dsimp only
        have e2 : x0 - x0 / x1 * x1 = x0 % x1 := by
          have := Int.emod_add_mul_ediv x0 x1
          rw [Int.mul_comm] at this
          omega
        have := Int.emod_lt_of_pos x0 px
        omega
      · have hx : x1 = 0 := by simpa using cc
        subst hx
        walk_at "g"
        have hg : x0 = Int.gcd a b := by
          have := c.g
          rw [Int.gcd_zero_right] at this
          have := c.n0
          omega
        rw [decide_eq_true c.n0]
        refine iteT ?_
        walk_at "g"
        have h0 := c.h0
        rw [hg] at h0 hp
        exact k p H' u0 v0 s hp h0
    · rintro σ H' Q1 Q2 hq h
      obtain ⟨v, hv, p, xs, i, z, e1, e2, e3, e4, e5, bb, e6, h⟩ := h
      exact ⟨v, hv, p, xs, i, z, e1, e2, e3, e4, e5, bb, e6, hq _ _ h⟩

def spInv : Sp := fun vs H Q _ => ∃ a m : Int, vs = [.int a, .int m] ∧ 0 < m ∧ Int.gcd a m = 1 ∧ Bd 8000 m ∧ ∀ (x : Int) (H' : Hp), Same H H' → Inv1 a m x → Q (.int x) H'
theorem gcd_mod {a m : Int} : Int.gcd (a % m) m = Int.gcd a m := by
  rcases Int.lt_trichotomy m 0 with h | h | h
  · have e : a % m = a % (-m) := (Int.emod_neg a m).symm
    rw [e, Int.gcd_comm, ← Int.neg_gcd (a := m), gcd_step (a := a) (b := -m) (by omega), Int.gcd_neg]
  · subst h
    rw [Int.emod_zero]
  · rw [Int.gcd_comm, gcd_step h]
theorem c_inverse (T : Txt K mg) : Cal P w K mg base 2 "inverse" spInv [] := by
  have c_combination := @c_combination P w K mg base T
  refine calN T.d_inverse sc_inverse (fun vs H Q E h => ?_) (fun _ _ _ _ _ _ us hl => match us, hl with | [_, _], _ => rfl) (fun f cdv A outer s H vs Q E hr h => ?_)
  · obtain ⟨a, b, rfl, _⟩ := h
    rfl
  · obtain ⟨a, m, rfl, hm, hg, bm, k⟩ := h
    refine ⟨_, (pss_one (ps_ret (pe_op op_mod (pe_ix ix_tup (pe_cx c_combination hr (by first | decide | omega) rfl passL (pa_cons (pe_op op_mod (pv 0) (pv 1)) (pa_cons (pv 1) pa_nil))) pe_int (fun _ _ => rfl)) (pv 1)))), ?_⟩
    walk_at "g"
    refine ⟨hm, ?_⟩
    walk_at "g"
    refine ⟨Int.emod_nonneg _ (by omega), hm, Bd.mod bm hm, bm, fun p H' u v s' hp he => ?_⟩
    have e : Int.gcd (a % m) m = 1 := gcd_mod.trans hg
    rw [e] at hp he
    walk_at "g"
    exact ⟨hm, k _ H' s' (inv_of hm he)⟩

/-! ### tidy_classes -/
theorem unzip {H : Hp} {g : Int × Int → List Int} {ys : List V} {cs : List (Int × Int)} (h : P2 (fun y c => ∃ t, y = .ref t ∧ H t = some (.tup ((g c).map V.int))) ys cs) :
    ∃ ks : List (Addr × List Int), ys = ks.map (fun p => V.ref p.1) ∧ ks.map (·.2) = cs.map g ∧ ∀ p ∈ ks, H p.1 = some (.tup (p.2.map V.int)) := by
  induction h with
  | nil => exact ⟨[], rfl, rfl, fun p hp => nomatch hp⟩
  | cons r _ ih =>
    obtain ⟨t, e, ht⟩ := r
    obtain ⟨ks, e1, e2, h3⟩ := ih
    rename_i b0 _ _ _
    refine ⟨(t, g b0) :: ks, by rw [e, e1]; rfl, by simp only [List.map_cons, e2], fun p hp => ?_⟩
    rcases List.mem_cons.mp hp with rfl | hp
    · exact ht
    · exact h3 p hp
/-- a row of made pairs, as pairs -/
theorem to_pairs {H : Hp} (L : List (Addr × List Int)) (h : ∀ q ∈ L, H q.1 = some (.tup (q.2.map V.int))) (h2 : ∀ q ∈ L, ∃ a b, q.2 = [a, b]) :
    P2 (PrT H) (L.map (·.1)) (L.map fun q => (q.2.getD 0 0, q.2.getD 1 0)) := by
  induction L with
  | nil => exact .nil
  | cons q L ih =>
    refine .cons ?_ (ih (fun q hq => h q (List.mem_cons_of_mem _ hq)) fun q hq => h2 q (List.mem_cons_of_mem _ hq))
    obtain ⟨a, b, e⟩ := h2 q List.mem_cons_self
    have := h q List.mem_cons_self
    rw [e] at this
    show H q.1 = some (.tup [.int (q.2.getD 0 0), .int (q.2.getD 1 0)])
    rw [e]
    exact this
def spTidy : Sp := fun vs H Q _ => ∃ (p : Addr) (cs : List Cl), vs = [.ref p] ∧ PL H p cs ∧ (∀ c ∈ cs, 0 < c.2 ∧ Bd 8000 c.2) ∧ cs.length < 64 ∧
  ∀ (p' : Addr) (ds : List Cl) (H' : Hp), Same H H' → H p' = none → PL H' p' ds → Tidy cs ds → Q (.ref p') H'
theorem bd_lt {n : Nat} {x : Int} (h : Bd n x) : x < ((2 ^ n : Nat) : Int) := by
  have h' : x.natAbs < 2 ^ n := h
  generalize 2 ^ n = z at *
  omega
theorem c_tidy_classes (T : Txt K mg) : Cal P w K mg base 1 "tidy_classes" spTidy [] := by
  refine calN T.d_tidy_classes sc_tidy_classes (fun vs H Q E h => ?_) (fun _ _ _ _ _ _ us hl => match us, hl with | [_], _ => rfl) (fun f cdv A outer s H vs Q E hr h => ?_)
  · obtain ⟨a, b, rfl, _⟩ := h
    rfl
  · obtain ⟨p, cs, rfl, ⟨ts, hp, pp⟩, hc, h64, k⟩ := h
    refine ⟨_, (pss_cons (ps_set (i := 1) sc_tidy_classes.nd rfl (Or.inl rfl) (pe_lst pa_nil))
      (pss_cons (ps_for PassesOwn.never rfl (pi_list (pe_callB (cr_sortedT rfl) (by rfl) T.b_sorted (by decide +kernel) (pa_cons (pe_callTy (cr_setOfT rfl (units_of hr)) (by rfl) T.b_set (by decide +kernel) (pa_cons (pe_lc (own := [("r", 3), ("m", 2)]) (g := gTup K 2 (gCons (gName 3) (gCons (gName 2) gNil))) rfl sc_tidy_classes.nd (pi_listK K (pv 0)) (blkOk_by (own := [("r", 3), ("m", 2)]) (N := ["classes", "kept", "m", "r", "s", "k"]) (sc := defScope s_tidy_classes) (by decide +kernel)) (fun _ _ _ _ _ => (pg_tup rfl (pgs_cons (pg_name (i := 3) sc_tidy_classes.nd rfl (Or.inl rfl)) (pgs_cons (pg_name (i := 2) sc_tidy_classes.nd rfl (Or.inl rfl)) pgs_nil)))) (fun _ _ _ _ _ => pts_nil) (fun _ _ _ _ _ => (pe_tup (pa_cons (pv 2) (pa_cons (pe_op op_mod (pv 3) (pv 2)) pa_nil))))) pa_nil)) pa_nil))) (pg_tup rfl (pgs_cons (pg_name (i := 2) sc_tidy_classes.nd rfl (Or.inr rfl)) (pgs_cons (pg_name (i := 3) sc_tidy_classes.nd rfl (Or.inr rfl)) pgs_nil))) (pss_one (ps_if (pt_not (pt_val (pe_callB (cr_any rfl) (by rfl) T.b_any (by decide +kernel) (pa_cons (pe_lc (own := [("s", 4), ("k", 5)]) (g := gTup K 2 (gCons (gName 4) (gCons (gName 5) gNil))) rfl sc_tidy_classes.nd (pi_listK K (pv 1)) (blkOk_by (own := [("s", 4), ("k", 5)]) (N := ["classes", "kept", "m", "r", "s", "k"]) (sc := defScope s_tidy_classes) (by decide +kernel)) (fun _ _ _ _ _ => (pg_tup rfl (pgs_cons (pg_name (i := 4) sc_tidy_classes.nd rfl (Or.inl rfl)) (pgs_cons (pg_name (i := 5) sc_tidy_classes.nd rfl (Or.inl rfl)) pgs_nil)))) (fun _ _ _ _ _ => pts_nil) (fun _ _ _ _ _ => (pe_and (pe_cmpR op_eq (pe_op op_mod (pv 2) (pv 5)) pe_int (nomark _)) (pe_one (pe_cmpR op_eq (pe_op op_mod (pe_op op_sub (pv 3) (pv 4)) (pv 5)) pe_int (nomark _)))))) pa_nil)))) (pss_one (ps_expr (pe_bm PySem.F.plainAttrs_list PySem.F.slot_list_append PySem.F.type_list_append mt_append (pv 1) (pa_cons (pe_tup (pa_cons (pv 3) (pa_cons (pv 2) pa_nil))) pa_nil)))) pss_nil)))
      (pss_one (ps_ret (pv 1))))), ?_⟩
    walk_at "g"
    refine ⟨by show 0 ≤ sizeLine; decide, fun l nl => ?_⟩
    walk_at "g"
    have s1 : Same H (upd H l (.lst [])) := same_upd nl
    refine ⟨⟨_, SqL.of (s1 _ _ hp)⟩, fun D nD => ?_⟩
    refine lc_pairs (fun _ => true) (fun y c H => ∃ t, y = .ref t ∧ H t = some (.tup ([c.2, c.1 % c.2].map V.int))) ?_ nD (SqL.of (s1 _ _ hp)) (pp.same s1) (by omega) (fun _ _ => rfl) (fun c _ H Q _ q => q H (Same.refl H)) ?_ ?_
    · rintro y c H H' acc hD kp ⟨t, rfl, ht⟩
      exact ⟨t, rfl, kp _ _ ht (ne_of ht hD (by intro z; cases z))⟩
    · intro c hcm _ H2 Q2 s2 q
      walk_at "g"
      refine ⟨(hc c hcm).1, by show 2 ≤ sizeLine; decide, fun t nt => ?_⟩
      exact q _ _ (same_upd nt) ⟨t, rfl, upd_same⟩
    · intro ys H2 s2 hD2 py
      rw [filter_all] at py
      obtain ⟨ks, rfl, e2, hk⟩ := unzip py
      have lk : ks.length = cs.length := by
        have := congrArg List.length e2
        simpa using this
      walk_at "g"
      refine ⟨D, ks, rfl, SqL.of hD2, fun q hq => SqT.of (hk q hq), by omega, fun S L nS hL1 hL2 => ?_⟩
      walk_at "g"
      have s3 : Same H2 (upd H2 S (SetTO P w S L)) := same_upd nS
      refine ⟨S, L, 2, ((2 ^ 8000 : Nat) : Int), rfl, upd_same, fun q hq => SqT.of (s3 _ _ (hk q (hL1 q hq))), by decide, fun q hq => ?_, fun L' pL pm nd l64 _ nL => ?_⟩
      · have hm : q.2 ∈ cs.map fun c => [c.2, c.1 % c.2] := by
          rw [← e2]
          exact List.mem_map_of_mem (hL1 q hq)
        obtain ⟨c, hcm, ec⟩ := List.mem_map.mp hm
        rw [← ec]
        have hb := hc c hcm
        refine ⟨rfl, fun m hm => ?_⟩
        have b1 := bd_lt hb.2
        rcases List.mem_cons.mp hm with rfl | hm
        · exact ⟨Int.le_of_lt hb.1, b1⟩
        · rcases List.mem_cons.mp hm with rfl | hm
          · exact ⟨Int.emod_nonneg _ (by have := hb.1; omega), Int.lt_trans (Int.emod_lt_of_pos _ hb.1) b1⟩
          · cases hm
      · -- the loop over the sorted pairs (m, r)
        have hin : ∀ q ∈ L', q ∈ ks := fun q hq => hL1 q (pm.mem_iff.mp hq)
        have hval : ∀ q ∈ L', ∃ c ∈ cs, q.2 = [c.2, c.1 % c.2] := fun q hq => by
          have hm : q.2 ∈ cs.map fun c => [c.2, c.1 % c.2] := by
            rw [← e2]
            exact List.mem_map_of_mem (hin q hq)
          obtain ⟨c, hcm, ec⟩ := List.mem_map.mp hm
          exact ⟨c, hcm, ec.symm⟩
        have hlen : L'.length ≤ cs.length := by
          have n1 : (L'.map (·.2)).length ≤ (cs.map fun c => [c.2, c.1 % c.2]).length := nodup_len _ _ nd fun x hx => by
            obtain ⟨q, hq, rfl⟩ := List.mem_map.mp hx
            obtain ⟨c, hcm, ec⟩ := hval q hq
            rw [ec]
            exact List.mem_map_of_mem hcm
          simpa using n1
        generalize hms : (L'.map fun q => (q.2.getD 0 0, q.2.getD 1 0) : List (Int × Int)) = ms
        have s4 : Same H (upd (upd H2 S (SetTO P w S L)) pL (.lst (L'.map fun q => V.ref q.1))) := ((s1.trans s2).trans s3).upd' nL
        have hpairs : P2 (PrT (upd (upd H2 S (SetTO P w S L)) pL (.lst (L'.map fun q => V.ref q.1)))) (L'.map (·.1)) ms := by
          rw [← hms]
          refine to_pairs L' (fun q hq => ?_) fun q hq => ?_
          · exact (same_upd nL) _ _ (s3 _ _ (hk q (hin q hq)))
          · obtain ⟨c, _, ec⟩ := hval q hq
            exact ⟨_, _, ec⟩
        have hms1 : ∀ q ∈ ms, ∃ c ∈ cs, q = (c.2, c.1 % c.2) := by
          rw [← hms]
          intro q hq
          obtain ⟨q', hq', rfl⟩ := List.mem_map.mp hq
          obtain ⟨c, hcm, ec⟩ := hval q' hq'
          exact ⟨c, hcm, by rw [ec]; rfl⟩
        have hms2 : ∀ c ∈ cs, (c.2, c.1 % c.2) ∈ ms := by
          intro c hcm
          have : [c.2, c.1 % c.2] ∈ ks.map (·.2) := by rw [e2]; exact List.mem_map_of_mem hcm
          obtain ⟨q, hq, eq⟩ := List.mem_map.mp this
          obtain ⟨q', hq', eq'⟩ := List.mem_map.mp (hL2 q hq)
          rw [← hms]
          refine List.mem_map.mpr ⟨q', pm.mem_iff.mpr hq', ?_⟩
          rw [eq', eq]
          rfl
        have lms : ms.length ≤ cs.length := by rw [← hms, List.length_map]; exact hlen
        refine ⟨_, rfl, ⟨_, SqL.of upd_same⟩, ?_⟩
        have sp : Same H2 (upd (upd H2 S (SetTO P w S L)) pL (.lst (L'.map fun q => V.ref q.1))) := s3.upd' nL
        have hl2 : H2 l = some (.lst []) := s2 _ _ (upd_same : upd H l (.lst []) l = _)
        have hp4 := @upd_same (upd H2 S (SetTO P w S L)) pL (.lst (L'.map fun q => V.ref q.1))
        have hpl : pL ≠ l := (ne_of_none (s3 _ _ hl2) nL).symm
        obtain ⟨H4, e4⟩ : ∃ H4, H4 = upd (upd H2 S (SetTO P w S L)) pL (.lst (L'.map fun q => V.ref q.1)) := ⟨_, rfl⟩
        rw [← e4] at hp4 sp s4 hpairs
        have em : (L'.map fun q => V.ref q.1) = (L'.map (·.1)).map V.ref := by rw [List.map_map]; rfl
        rw [em] at hp4
        refine for_pairs (ts := L'.map (·.1)) (cs := ms) (fun i σ H' => ∃ (ds : List Cl) (kts : List Addr) (mv rv : Option V), σ = [some (.ref p), some (.ref l), mv, rv, none, none] ∧
            Same H H' ∧ (∀ b o, H4 b = some o → b ≠ l → H' b = some o) ∧ H' l = some (.lst (kts.map V.ref)) ∧ P2 (PrT H') kts ds ∧ (∀ d ∈ ds, ∃ c ∈ cs, d.2 = c.2 ∧ d.1 = c.1 % c.2) ∧
            (∀ q ∈ ms.take i, ∃ d ∈ ds, d.2 ∣ q.1 ∧ d.2 ∣ q.2 - d.1) ∧ ds.length ≤ i) ?_ ?_ ?_ ?_
        · subst e4
          exact ⟨[], [], none, none, rfl, s4, fun b o e _ => e, sp _ _ hl2, .nil, (fun d hd => by cases hd), (fun q hq => by cases hq), Nat.zero_le _⟩
        · rintro i σ H' hi ⟨ds, kts, mv, rv, rfl, s5, k5, _⟩
          refine ⟨SqL.of (k5 _ _ hp4 hpl), hpairs.monoM fun t c ht _ e => k5 _ _ e ?_⟩
          exact ne_of e (sp _ _ hl2) (by intro z; cases z)
        · rintro i q σ H' hq ⟨ds, kts, mv, rv, rfl, s5, k5, hl5, pk, h1, h2, h3⟩
          have pos : ∀ d ∈ ds, 0 < d.2 := fun d hd => by
            obtain ⟨c, hcm, e, _⟩ := h1 d hd
            rw [e]
            exact (hc c hcm).1
          walk_at "g"
          refine ⟨⟨_, SqL.of hl5⟩, fun D nD => ?_⟩
          refine lc_pairs (fun _ => true) (fun y d _ => y = .bl (decide (q.1 % d.2 = 0) && decide ((q.2 - d.1) % d.2 = 0))) (fun _ _ _ _ _ _ _ e => e) nD (SqL.of hl5) pk (by have := (List.getElem?_eq_some_iff.mp hq).1; omega) (fun _ _ => rfl) (fun c _ H Q _ q => q H (Same.refl H)) ?_ ?_
          · intro d hd _ H6 Q6 s6 k6
            walk_at "g"
            refine ⟨pos d hd, ?_⟩
            walk_at "g"
            refine iteB (fun c1 => ?_) (fun c1 => ?_)
            · walk_at "g"
              refine ⟨pos d hd, ?_⟩
              walk_at "g"
              refine k6 _ H6 (Same.refl _) ?_
              rw [dI, decide_eq_true (of_dI c1), Bool.true_and]
            · refine k6 _ H6 (Same.refl _) ?_
              rw [decide_eq_false (of_dI' c1), Bool.false_and]
          · intro ys H6 s6 hD6 py
            rw [filter_all] at py
            have ey := py.eq_map
            walk_at "g"
            refine ⟨D, ds.map fun d => decide (q.1 % d.2 = 0) && decide ((q.2 - d.1) % d.2 = 0), rfl, SqL.of (by rw [hD6, ey, List.map_map]; rfl), ?_⟩
            walk_at "g"
            have hin : i < ms.length := (List.getElem?_eq_some_iff.mp hq).1
            cases ha : (ds.map fun d => decide (q.1 % d.2 = 0) && decide ((q.2 - d.1) % d.2 = 0)).any id with
            | true =>
              refine iteF ⟨ds, kts, _, _, rfl, s5.trans s6, fun b o e n => s6 _ _ (k5 b o e n), s6 _ _ hl5, pk.same s6, h1, fun q' hq' => ?_, by omega⟩
              rw [take_snoc hq] at hq'
              rcases List.mem_append.mp hq' with hq' | hq'
              · exact h2 q' hq'
              · rw [List.mem_singleton.mp hq']
                obtain ⟨x, hx, ex⟩ := List.any_eq_true.mp ha
                obtain ⟨d, hd, rfl⟩ := List.mem_map.mp hx
                have ex' := Bool.and_eq_true_iff.mp ex
                exact ⟨d, hd, Int.dvd_of_emod_eq_zero (of_decide_eq_true ex'.1), Int.dvd_of_emod_eq_zero (of_decide_eq_true ex'.2)⟩
            | false =>
              refine iteT ?_
              walk_at "g"
              refine ⟨.inl ⟨rfl, _, SqL.of (s6 _ _ hl5)⟩, ?_⟩
              walk_at "g"
              refine ⟨by show 2 ≤ sizeLine; decide, fun t nt => ?_⟩
              walk_at "g"
              have s7 : Same H6 (upd H6 t (.tup [.int q.2, .int q.1])) := same_upd nt
              have ntl : l ≠ t := ne_of_none (s6 _ _ hl5) nt
              refine ⟨l, kts.map V.ref, _, rfl, rfl, s7 _ _ (s6 _ _ hl5), small_app (m := 100000) (by have := pk.len; simp; omega) (Nat.le_refl _), ?_⟩
              have s8 := s6.trans s7
              refine ⟨ds ++ [(q.2, q.1)], kts ++ [t], _, _, rfl, (s5.trans s8).wr nl, fun b o e n => by rw [upd_ne n]; exact s8 _ _ (k5 b o e n), by rw [List.map_append]; exact upd_same, ?_, fun d hd => ?_, fun q' hq' => ?_, by rw [List.length_append]; exact Nat.succ_le_succ h3⟩
              · have tup : ∀ {u : Addr} {c : Int × Int}, PrT (upd H6 t (.tup [.int q.2, .int q.1])) u c → PrT (upd (upd H6 t (.tup [.int q.2, .int q.1])) l (.lst (kts.map V.ref ++ [V.ref t]))) u c := fun {u c} e => by
                  have n : u ≠ l := ne_of e (s7 _ _ (s6 _ _ hl5)) (by intro z; cases z)
                  show upd _ _ _ u = _
                  rw [upd_ne n]
                  exact e
                exact ((pk.same s8).mono fun _ _ e => tup e).snoc (tup upd_same)
              · rcases List.mem_append.mp hd with hd | hd
                · exact h1 d hd
                · rw [List.mem_singleton.mp hd]
                  obtain ⟨c, hcm, ec⟩ := hms1 q (mem_of_at hq)
                  exact ⟨c, hcm, by rw [ec], by rw [ec]⟩
              · rw [take_snoc hq] at hq'
                rcases List.mem_append.mp hq' with hq' | hq'
                · obtain ⟨d, hd, e⟩ := h2 q' hq'
                  exact ⟨d, List.mem_append_left _ hd, e⟩
                · rw [List.mem_singleton.mp hq']
                  exact ⟨_, List.mem_append_right _ List.mem_cons_self, Int.dvd_refl _, by rw [Int.sub_self]; exact Int.dvd_zero _⟩
        · rintro σ H' ⟨ds, kts, mv, rv, rfl, s5, k5, hl5, pk, h1, h2, h3⟩
          walk_at "g"
          refine k l ds H' s5 nl ⟨kts, hl5, pk⟩ ⟨h1, fun c hcm => ?_, by omega⟩
          rw [List.take_length] at h2
          obtain ⟨d, hd, d1, d2⟩ := h2 _ (hms2 c hcm)
          refine ⟨d, hd, d1, ?_⟩
          obtain ⟨z, hz⟩ := Int.dvd_add (Int.dvd_trans d1 (emod_sub_dvd c.1 c.2)) d2
          exact ⟨z, by rw [← hz]; omega⟩
end
end Tr

namespace Tr
open PySem L2
/-- steps of a reading that are plain -/
local macro_rules | `(tactic| walk_at "x") => `(tactic| (refine' ⟨_, _, _, _, rfl, rfl, ?k1, ?k2, ?_⟩; (case k1 => exact SqT.of (by assumption)); (case k2 => exact rfl)))
local macro_rules | `(tactic| walk_at "g") => `(tactic| repeat (first | (refine ⟨_, rfl, ?_⟩) | (refine ⟨_, _, rfl, rfl, ?_⟩) | (refine ⟨_, _, rfl, ?_⟩) | (refine ⟨rfl, ?_⟩) | walk_at "x"))


/-- a pair is appended to a list of pairs -/
theorem pl_snoc {H : Hp} {l u : Addr} {kts : List Addr} {ds : List Cl} {c : Cl} {xs : List V} {ys : List V} (hl : H l = some (.lst xs)) (pk : P2 (PrT H) kts ds) (hu : PrT H u c) :
    P2 (PrT (upd H l (.lst ys))) (kts ++ [u]) (ds ++ [c]) := by
  have tup : ∀ {u : Addr} {c : Int × Int}, PrT H u c → PrT (upd H l (.lst ys)) u c := fun {u c} e => by
    have n : u ≠ l := ne_of e hl (by intro z; cases z)
    show upd _ _ _ u = _
    rw [upd_ne n]
    exact e
  exact (pk.mono fun _ _ e => tup e).snoc (tup hu)
theorem RefL.bdB {r m : Int} {n : Nat} {cs ds : List Cl} (h : RefL r m cs ds) (hb : ∀ c ∈ cs, 0 < c.2 ∧ Bd n c.2) : ∀ d ∈ ds, Bd n d.2 := by
  induction h with
  | nil => intro d hd; cases hd
  | no _ _ ih => exact ih fun c hc => hb c (List.mem_cons_of_mem _ hc)
  | yes _ hr _ ih =>
    intro d hd
    rcases List.mem_cons.mp hd with rfl | hd
    · have b := hb _ List.mem_cons_self
      exact b.2.le (by have := hr.bd; have := hr.pos; have := b.1; omega)
    · exact ih (fun c hc => hb c (List.mem_cons_of_mem _ hc)) d hd
section
variable {P : Program} {w : World} {K : PySem.W.Frag} {mg : Str → Option Value} {base : Heap}
/-! ### refined -/
/-- the promise of refined -/
structure Refd (r m : Int) (cs es : List Cl) : Prop where
  ex : ∃ ds, RefL r m cs ds ∧ Tidy ds es
def spRef : Sp := fun vs H Q _ => ∃ (p : Addr) (cs : List Cl) (r m : Int), vs = [.ref p, .int r, .int m] ∧ PL H p cs ∧ 0 < m ∧ Bd 8000 m ∧ Bd 8000 r ∧ (∀ c ∈ cs, 0 < c.2 ∧ Bd 8000 c.2 ∧ Bd 8000 c.1) ∧ cs.length < 64 ∧
  ∀ (p' : Addr) (es : List Cl) (H' : Hp), Same H H' → H p' = none → PL H' p' es → Refd r m cs es → Q (.ref p') H'
theorem c_refined (T : Txt K mg) : Cal P w K mg base 3 "refined" spRef [] := by
  have c_common_divisor := @c_common_divisor P w K mg base T
  have c_inverse := @c_inverse P w K mg base T
  have c_tidy_classes := @c_tidy_classes P w K mg base T
  refine calN T.d_refined sc_refined (fun vs H Q E h => ?_) (fun _ _ _ _ _ _ us hl => match us, hl with | [_, _, _], _ => rfl) (fun f cdv A outer s H vs Q E hr h => ?_)
  · obtain ⟨p, cs, r, m, rfl, _⟩ := h
    rfl
  · obtain ⟨p, cs, r, m, rfl, ⟨ts, hp, pp⟩, hm, bm, br, hc, h64, k⟩ := h
    refine ⟨_, (pss_cons (ps_set (i := 3) sc_refined.nd rfl (Or.inl rfl) (pe_lst pa_nil))
      (pss_cons (ps_for PassesOwn.never rfl (pi_list (pv 0)) (pg_tup rfl (pgs_cons (pg_name (i := 4) sc_refined.nd rfl (Or.inl rfl)) (pgs_cons (pg_name (i := 5) sc_refined.nd rfl (Or.inl rfl)) pgs_nil))) (pss_cons (ps_set (i := 6) sc_refined.nd rfl (Or.inl rfl) (pe_cx c_common_divisor hr (by first | decide | omega) rfl passL (pa_cons (pv 2) (pa_cons (pv 5) pa_nil))))
      (pss_one (ps_if (pt_cmpR op_eq (pe_op op_mod (pe_op op_sub (pv 4) (pv 1)) (pv 6)) pe_int (nomark _)) (pss_cons (ps_set (i := 7) sc_refined.nd rfl (Or.inl rfl) (pe_op op_fdivW (pv 5) (pv 6)))
      (C8.pss_cut (ps_set (i := 8) sc_refined.nd rfl (Or.inl rfl) (pe_ifExp (pt_cmpR op_gt (pv 7) pe_int (nomark _)) (pe_op op_mod (pe_op op_mulW (pe_op op_fdivW (pe_op op_sub (pv 4) (pv 1)) (pv 6)) (pe_cx c_inverse hr (by first | decide | omega) rfl passL (pa_cons (pe_op op_fdivW (pv 2) (pv 6)) (pa_cons (pv 7) pa_nil)))) (pv 7)) pe_int))
      (pss_one (ps_expr (pe_bm PySem.F.plainAttrs_list PySem.F.slot_list_append PySem.F.type_list_append mt_append (pv 3) (pa_cons (pe_tup (pa_cons (pv 8) (pa_cons (pv 7) pa_nil))) pa_nil)))))) pss_nil))))
      (pss_one (ps_ret (pe_cx c_tidy_classes hr (by first | decide | omega) rfl passL (pa_cons (pv 3) pa_nil)))))), ?_⟩
    walk_at "g"
    refine ⟨by show 0 ≤ sizeLine; decide, fun l nl => ?_⟩
    walk_at "g"
    have s1 : Same H (upd H l (.lst [])) := same_upd nl
    refine ⟨⟨_, SqL.of (s1 _ _ hp)⟩, ?_⟩
    refine for_pairs (ts := ts) (cs := cs) (fun i σ H' => ∃ (ds : List Cl) (kts : List Addr) (a1 a2 a3 a4 a5 : Option V), σ = [some (.ref p), some (.int r), some (.int m), some (.ref l), a1, a2, a3, a4, a5] ∧
        Same H H' ∧ H' l = some (.lst (kts.map V.ref)) ∧ P2 (PrT H') kts ds ∧ RefL r m (cs.take i) ds) ?_ ?_ ?_ ?_
    · exact ⟨[], [], _, _, _, _, _, rfl, s1, upd_same, .nil, .nil⟩
    · rintro i σ H' hi ⟨ds, kts, a1, a2, a3, a4, a5, rfl, s5, _⟩
      exact ⟨SqL.of (s5 _ _ hp), pp.same s5⟩
    · rintro i c σ H' hq ⟨ds, kts, a1, a2, a3, a4, a5, rfl, s5, hl5, pk, rl⟩
      have hi : i < cs.length := (List.getElem?_eq_some_iff.mp hq).1
      have hcc := hc c (mem_of_at hq)
      have g0 : 0 < (Int.gcd m c.2 : Int) := gcd_pos hcc.1
      have gb : Bd 8000 (Int.gcd m c.2 : Int) := gcd_bd hcc.1 hcc.2.1
      walk_at "g"
      refine ⟨g0, ?_⟩
      walk_at "g"
      refine iteB (fun c1 => ?_) (fun c1 => ?_)
      · have hd : (Int.gcd m c.2 : Int) ∣ c.1 - r := Int.dvd_of_emod_eq_zero (of_dI c1)
        walk_at "g"
        refine ⟨cdivw g0 gb (by omega), ?_⟩
        walk_at "g"
        refine ⟨fun σ' H6 => ∃ t : Int, σ' = [some (.ref p), some (.int r), some (.int m), some (.ref l), some (.int c.1), some (.int c.2), some (.int (Int.gcd m c.2)), some (.int (c.2 / Int.gcd m c.2)), some (.int t)] ∧
            Same H' H6 ∧ Ref1 c.1 c.2 r m t (c.2 / Int.gcd m c.2), ?_, ?_⟩
        · walk_at "g"
          refine iteB (fun c2 => ?_) (fun c2 => ?_)
          · have hs : 1 < c.2 / (Int.gcd m c.2 : Int) := of_decide_eq_true c2
            obtain ⟨m', k', e1, e2, e3, e4, e5, e6⟩ := ediv_gcd (m := m) hcc.1
            walk_at "g"
            refine ⟨cdivw g0 gb (by omega), ?_⟩
            walk_at "g"
            refine ⟨cdivw g0 gb (by omega), ?_⟩
            walk_at "g"
            refine ⟨by omega, by rw [e4, e5]; exact e6, hcc.2.1.div g0, fun x H6 s6 hx => ?_⟩
            walk_at "g"
            refine ⟨cmulw (((hcc.2.2.sub br (m := 8001) (by omega)).div g0)) (m := 8000) ?_ (by omega), ?_⟩
            · exact (hcc.2.1.div g0).le (by have := hx.1; have := hx.2.1; omega)
            walk_at "g"
            refine ⟨by omega, _, rfl, s6, ref_yes hcc.1 hd hx⟩
          · have hs : ¬ c.2 / (Int.gcd m c.2 : Int) > 1 := of_decide_eq_false c2
            exact ⟨0, rfl, Same.refl _, ref_one hcc.1 hd hs⟩
        · rintro σ' H6 ⟨t, rfl, s6, R1⟩
          walk_at "g"
          refine ⟨.inl ⟨rfl, _, SqL.of (s6 _ _ hl5)⟩, ?_⟩
          walk_at "g"
          refine ⟨by show 2 ≤ sizeLine; decide, fun u nu => ?_⟩
          walk_at "g"
          have s7 : Same H6 (upd H6 u (.tup [.int t, .int (c.2 / Int.gcd m c.2)])) := same_upd nu
          have s8 := s6.trans s7
          refine ⟨l, kts.map V.ref, _, rfl, rfl, s8 _ _ hl5, small_app (m := 100000) (by have := pk.len; have := rl.len; simp at *; omega) (Nat.le_refl _), ?_⟩
          walk_at "g"
          refine ⟨ds ++ [(t, c.2 / Int.gcd m c.2)], kts ++ [u], _, _, _, _, _, rfl, (s5.trans s8).wr nl, by rw [List.map_append]; exact upd_same, ?_, ?_⟩
          · exact pl_snoc (s8 _ _ hl5) (pk.same s8) upd_same
          · rw [take_snoc hq]
            exact rl.snoc_yes hd R1
      · have hd : ¬ (Int.gcd m c.2 : Int) ∣ c.1 - r := fun h => of_dI' c1 (Int.emod_eq_zero_of_dvd h)
        refine ⟨ds, kts, _, _, _, _, _, rfl, s5, hl5, pk, ?_⟩
        rw [take_snoc hq]
        exact rl.snoc_no hd
    · rintro σ H' ⟨ds, kts, a1, a2, a3, a4, a5, rfl, s5, hl5, pk, rl⟩
      rw [List.take_length] at rl
      walk_at "g"
      refine ⟨l, ds, rfl, ⟨kts, hl5, pk⟩, fun d hd => ⟨(rl.pos d hd).1, ?_⟩, by have := rl.len; omega, fun p' es H6 s6 np' he td => ?_⟩
      · have h1 := (rl.pos d hd).1
        exact RefL.bdB rl (fun c hcm => ⟨(hc c hcm).1, (hc c hcm).2.1⟩) d hd
      · exact k p' es H6 (s5.trans s6) (s5.free np') he ⟨ds, rl, td⟩
end
end Tr

namespace Tr
open PySem L2
/-- steps of a reading that are plain -/
local macro_rules | `(tactic| walk_at "x") => `(tactic| (refine' ⟨_, _, _, _, rfl, rfl, ?k1, ?k2, ?_⟩; (case k1 => exact SqT.of (by assumption)); (case k2 => exact rfl)))
local macro_rules | `(tactic| walk_at "g") => `(tactic| repeat (first | (refine ⟨_, rfl, ?_⟩) | (refine ⟨_, _, rfl, rfl, ?_⟩) | (refine ⟨_, _, rfl, ?_⟩) | (refine ⟨rfl, ?_⟩) | walk_at "x"))


/-! ### is_covered -/
def covB (cs : List Cl) (n : Int) : Bool := cs.any fun c => decide ((n - c.1) % c.2 = 0)
theorem covB_iff (cs : List Cl) (n : Int) : covB cs n = true ↔ cov cs n := by
  unfold covB cov
  rw [List.any_eq_true]
  constructor
  · rintro ⟨c, hc, e⟩
    exact ⟨c, hc, Int.dvd_of_emod_eq_zero (of_decide_eq_true e)⟩
  · rintro ⟨c, hc, e⟩
    exact ⟨c, hc, decide_eq_true (Int.emod_eq_zero_of_dvd e)⟩
theorem covB_no {cs : List Cl} {n : Int} (h : ¬ cov cs n) : covB cs n = false := by
  cases e : covB cs n with
  | false => rfl
  | true => exact (h ((covB_iff cs n).mp e)).elim
section
variable {P : Program} {w : World} {K : PySem.W.Frag} {mg : Str → Option Value} {base : Heap}
def spCov : Sp := fun vs H Q _ => ∃ (n : Int) (p : Addr) (cs : List Cl), vs = [.int n, .ref p] ∧ PL H p cs ∧ (∀ c ∈ cs, 0 < c.2) ∧ cs.length ≤ 100000 ∧ ∀ H', Same H H' → Q (.bl (covB cs n)) H'
theorem c_is_covered (T : Txt K mg) : Cal P w K mg base 1 "is_covered" spCov [] := by
  refine calN T.d_is_covered sc_is_covered (fun vs H Q E h => ?_) (fun _ _ _ _ _ _ us hl => match us, hl with | [_, _], _ => rfl) (fun f cdv A outer s H vs Q E hr h => ?_)
  · obtain ⟨n, p, cs, rfl, _⟩ := h
    rfl
  · obtain ⟨n, p, cs, rfl, ⟨ts, hp, pp⟩, hc, hl, k⟩ := h
    refine ⟨_, (pss_one (ps_ret (pe_callB (cr_any rfl) (by rfl) T.b_any (by decide +kernel) (pa_cons (pe_lc (own := [("r", 2), ("m", 3)]) (g := gTup K 2 (gCons (gName 2) (gCons (gName 3) gNil))) rfl sc_is_covered.nd (pi_listK K (pv 1)) (blkOk_by (own := [("r", 2), ("m", 3)]) (N := ["n", "classes", "r", "m"]) (sc := defScope s_is_covered) (by decide +kernel)) (fun _ _ _ _ _ => (pg_tup rfl (pgs_cons (pg_name (i := 2) sc_is_covered.nd rfl (Or.inl rfl)) (pgs_cons (pg_name (i := 3) sc_is_covered.nd rfl (Or.inl rfl)) pgs_nil)))) (fun _ _ _ _ _ => pts_nil) (fun _ _ _ _ _ => (pe_cmpR op_eq (pe_op op_mod (pe_op op_sub (pv 0) (pv 2)) (pv 3)) pe_int (nomark _)))) pa_nil)))), ?_⟩
    walk_at "g"
    refine ⟨⟨_, SqL.of hp⟩, fun D nD => ?_⟩
    refine lc_pairs (fun _ => true) (fun y c _ => y = .bl (decide ((n - c.1) % c.2 = 0))) (fun _ _ _ _ _ _ _ e => e) nD (SqL.of hp) pp hl (fun _ _ => rfl) (fun c _ H Q _ q => q H (Same.refl H)) ?_ ?_
    · intro c hcm _ H2 Q2 s2 q
      walk_at "g"
      refine ⟨hc c hcm, ?_⟩
      walk_at "g"
      refine q _ _ (Same.refl _) ?_
      rw [dI]
    · intro ys H2 s2 hD2 py
      rw [filter_all] at py
      have ey := py.eq_map
      walk_at "g"
      refine ⟨D, cs.map fun c => decide ((n - c.1) % c.2 = 0), rfl, SqL.of (by rw [hD2, ey, List.map_map]; rfl), ?_⟩
      have e : (cs.map fun c => decide ((n - c.1) % c.2 = 0)).any id = covB cs n := by
        unfold covB
        rw [List.any_map]
        rfl
      rw [e]
      exact k H2 s2
end
end Tr

namespace Tr
open PySem L2
/-- steps of a reading that are plain -/
local macro_rules | `(tactic| walk_at "x") => `(tactic| (refine' ⟨_, _, _, _, rfl, rfl, ?k1, ?k2, ?_⟩; (case k1 => exact SqT.of (by assumption)); (case k2 => exact rfl)))
local macro_rules | `(tactic| walk_at "g") => `(tactic| repeat (first | (refine ⟨_, rfl, ?_⟩) | (refine ⟨_, _, rfl, rfl, ?_⟩) | (refine ⟨_, _, rfl, ?_⟩) | (refine ⟨rfl, ?_⟩) | walk_at "x"))


/-! ### bare_number -/
def oV : Option Int → V
  | none => .non
  | some i => .int i
def obd (n : Nat) : Option Int → Prop
  | none => True
  | some i => i < ((2 ^ n : Nat) : Int)
/-- classes as the program keeps them -/
def WfC (cs : List Cl) : Prop := ∀ c ∈ cs, 0 < c.2 ∧ Bd 8000 c.2 ∧ 0 ≤ c.1 ∧ Bd 8000 c.1
theorem Refd.cov {r m : Int} {cs es : List Cl} (h : Refd r m cs es) (x : Int) : cov es x ↔ Tr.cov cs (r + m * x) := by
  obtain ⟨ds, h1, h2⟩ := h.ex
  exact (h2.cov x).trans (h1.cov x)
theorem Refd.wf {r m : Int} {cs es : List Cl} (h : Refd r m cs es) (hc : ∀ c ∈ cs, 0 < c.2 ∧ Bd 8000 c.2) : WfC es := by
  obtain ⟨ds, h1, h2⟩ := h.ex
  intro e he
  have p := h2.pos (fun d hd => (h1.pos d hd).1) e he
  obtain ⟨d, hd, e1, e2⟩ := h2.from_ e he
  have b : Bd 8000 e.2 := by
    rw [e1]
    exact h1.bdB hc d hd
  exact ⟨p.1, b, p.2.1, b.le (by omega)⟩
theorem Refd.len {r m : Int} {cs es : List Cl} (h : Refd r m cs es) : es.length ≤ cs.length := by
  obtain ⟨ds, h1, h2⟩ := h.ex
  exact Nat.le_trans h2.len h1.len
theorem Refd.less {r m : Int} {cs es : List Cl} (hm : 0 < m) (h : Refd r m cs es) (hc : ∃ c ∈ cs, c.2 = m) : (∃ d ∈ es, d.2 = 1) ∨ es.length < cs.length := by
  obtain ⟨ds, h1, h2⟩ := h.ex
  rcases h1.less hm hc with h3 | h3
  · exact .inl (h2.one (fun d hd => (h1.pos d hd).1) h3)
  · exact .inr (Nat.lt_of_le_of_lt h2.len h3)
/-- deep enough -/
def Deep (d : Nat) (cs : List Cl) : Prop := cs.length < d ∨ (1 ≤ d ∧ ∃ c ∈ cs, c.2 = 1)
def spBare (d : Nat) : Sp := fun vs H Q _ => ∃ (p : Addr) (cs : List Cl), vs = [.ref p] ∧ PL H p cs ∧ WfC cs ∧ cs.length < 64 ∧ Deep d cs ∧
  ∀ (o : Option Int) (H' : Hp), Same H H' → Bare cs o → obd (6 * d) o → Q (oV o) H'
theorem oV_none (o : Option Int) : decide (oV o = .non) = o.isNone := by
  cases o <;> rfl
section
variable {P : Program} {w : World} {K : PySem.W.Frag} {mg : Str → Option Value} {base : Heap}
theorem c_bare_number (T : Txt K mg) : ∀ d : Nat, Cal P w K mg base (4 + d) "bare_number" (spBare d) []
  | 0 => by
    refine calN T.d_bare_number sc_bare_number (fun vs H Q E h => ?_) (fun _ _ _ _ _ _ us hl => match us, hl with | [_], _ => rfl) (fun f cdv A outer s H vs Q E hr h => ?_)
    · obtain ⟨p, cs, rfl, _⟩ := h
      rfl
    · obtain ⟨p, cs, rfl, _, _, _, hd, _⟩ := h
      rcases hd with h | h
      · omega
      · omega
  | d + 1 => by
    have c_bare_number := c_bare_number T d
    have c_refined := @c_refined P w K mg base T
    have c_is_covered := @c_is_covered P w K mg base T
    refine calN T.d_bare_number sc_bare_number (fun vs H Q E h => ?_) (fun _ _ _ _ _ _ us hl => match us, hl with | [_], _ => rfl) (fun f cdv A outer s H vs Q E hr h => ?_)
    · obtain ⟨p, cs, rfl, _⟩ := h
      rfl
    · obtain ⟨p, cs, rfl, ⟨ts, hp, pp⟩, wf, h64, deep, k⟩ := h
      have hlen := pp.len
      have hr : Room (4 + d) _ := hr
      refine ⟨_, (pss_cons (ps_if (pt_not (pt_truth (pv 0) (by intro _; rfl))) (pss_one (ps_ret pe_int)) pss_nil)
      (pss_cons (ps_set (i := 1) sc_bare_number.nd rfl (Or.inl rfl) (pe_callB (cr_min rfl) (by rfl) T.b_min (by decide +kernel) (pa_cons (pe_lc (own := [("r", 4), ("m", 5)]) (g := gTup K 2 (gCons (gName 4) (gCons (gName 5) gNil))) rfl sc_bare_number.nd (pi_listK K (pv 0)) (blkOk_by (own := [("r", 4), ("m", 5)]) (N := ["classes", "least", "u", "found", "r", "m", "n"]) (sc := defScope s_bare_number) (by decide +kernel)) (fun _ _ _ _ _ => (pg_tup rfl (pgs_cons (pg_name (i := 4) sc_bare_number.nd rfl (Or.inl rfl)) (pgs_cons (pg_name (i := 5) sc_bare_number.nd rfl (Or.inl rfl)) pgs_nil)))) (fun _ _ _ _ _ => pts_nil) (fun _ _ _ _ _ => (pe_callTy call_int1 (by rfl) T.b_int (by decide +kernel) (pa_cons (pv 5) pa_nil)))) pa_nil)))
      (pss_cons (ps_if (pt_cmpR op_eq (pv 1) pe_int (nomark _)) (pss_one (ps_ret pe_non)) pss_nil)
      (pss_cons (ps_if (pt_cmpR op_gt (pv 1) (pe_callB call_len (by rfl) T.b_len (by decide +kernel) (pa_cons (pv 0) pa_nil)) (nomark _)) (pss_one (ps_ret (pe_ix ix_list (pe_lc (own := [("n", 6)]) (g := gName 6) rfl sc_bare_number.nd (pi_range1 (by rfl) T.b_range (pa_cons (pe_op op_add (pe_callB call_len (by rfl) T.b_len (by decide +kernel) (pa_cons (pv 0) pa_nil)) pe_int) pa_nil)) (blkOk_by (own := [("n", 6)]) (N := ["classes", "least", "u", "found", "r", "m", "n"]) (sc := defScope s_bare_number) (by decide +kernel)) (fun _ _ _ _ _ => (pg_name (i := 6) sc_bare_number.nd rfl (Or.inl rfl))) (fun _ _ _ _ _ => (pts_one (pt_not (pt_val (pe_cx c_is_covered hr (by first | decide | omega) rfl passL (pa_cons (pv 6) (pa_cons (pv 0) pa_nil))))))) (fun _ _ _ _ _ => (pv 6))) pe_int (fun _ _ => rfl)))) pss_nil)
      (pss_cons (ps_for PassesOwn.never rfl (pi_range1 (by rfl) T.b_range (pa_cons (pv 1) pa_nil)) (pg_name (i := 2) sc_bare_number.nd rfl (Or.inl rfl)) (pss_cons (ps_set (i := 3) sc_bare_number.nd rfl (Or.inl rfl) (pe_cx c_bare_number hr (by first | decide | omega) rfl passL (pa_cons (pe_cx c_refined hr (by first | decide | omega) rfl passL (pa_cons (pv 0) (pa_cons (pv 2) (pa_cons (pv 1) pa_nil)))) pa_nil)))
      (pss_one (ps_if (pt_cmpR op_notN (pv 3) pe_non (nomark _)) (pss_one (ps_ret (pe_op op_add (pv 2) (pe_op op_mul (pv 1) (pv 3))))) pss_nil))))
      (pss_one (ps_ret pe_non))))))), ?_⟩
      walk_at "g"
      refine ⟨_, .inl ⟨_, SqL.of hp, rfl⟩, ?_⟩
      have pow0 : (0 : Int) < ((2 ^ (6 * (d + 1)) : Nat) : Int) := by
        have := Nat.two_pow_pos (6 * (d + 1))
        omega
      cases hne : (ts.map V.ref).isEmpty with
      | true =>
        have e0 : cs = [] := by
          have : ts = [] := by simpa using hne
          rw [this] at hlen
          exact List.eq_nil_of_length_eq_zero hlen.symm
        subst e0
        refine iteT ?_
        walk_at "g"
        exact k (some 0) H (Same.refl _) ⟨Int.le_refl _, cov_nil _⟩ pow0
      | false =>
        have ne : cs ≠ [] := by
          rintro rfl
          have : ts = [] := List.eq_nil_of_length_eq_zero hlen
          rw [this] at hne
          cases hne
        refine iteF ?_
        walk_at "g"
        refine ⟨⟨_, SqL.of hp⟩, fun D nD => ?_⟩
        refine lc_pairs (fun _ => true) (fun y c _ => y = .int c.2) (fun _ _ _ _ _ _ _ e => e) nD (SqL.of hp) pp (by omega) (fun _ _ => rfl) (fun c _ H Q _ q => q H (Same.refl H)) ?_ ?_
        · intro c hcm _ H2 Q2 s2 q
          walk_at "g"
          exact .inl ⟨_, rfl, q _ _ (Same.refl _) rfl⟩
        · intro ys H2 s2 hD2 py
          rw [filter_all] at py
          have ey := py.eq_map
          walk_at "g"
          refine ⟨D, cs.map (·.2), rfl, SqL.of (by rw [hD2, ey, List.map_map]; rfl), by rw [List.length_map]; exact List.length_pos_iff.mpr ne, fun least hin hle => ?_⟩
          obtain ⟨c0, hc0, e0⟩ := List.mem_map.mp hin
          have lp : 0 < least := by rw [← e0]; exact (wf c0 hc0).1
          have lle : ∀ c ∈ cs, least ≤ c.2 := fun c hcm => hle _ (List.mem_map_of_mem hcm)
          walk_at "g"
          refine iteB (fun c1 => ?_) (fun c1 => ?_)
          · -- a modulus 1
            have l1 := of_dI c1
            walk_at "g"
            refine k none H2 s2 (fun n => ⟨c0, hc0, ?_⟩) trivial
            rw [e0, l1]
            exact Int.one_dvd _
          · have l1 := of_dI' c1
            walk_at "g"
            refine ⟨_, _, rfl, .inl ⟨_, SqL.of (s2 _ _ hp), rfl⟩, ?_⟩
            walk_at "g"
            rw [List.length_map, hlen]
            refine iteB (fun c2 => ?_) (fun c2 => ?_)
            · -- all moduli above the number of classes
              have l2 : (cs.length : Int) < least := of_decide_eq_true c2
              walk_at "g"
              refine ⟨_, _, rfl, .inl ⟨_, SqL.of (s2 _ _ hp), rfl⟩, ?_⟩
              walk_at "g"
              rw [List.length_map, hlen]
              refine ⟨by omega, by omega, fun D3 nD3 => ?_⟩
              obtain ⟨n0, n1, n2, n3⟩ := pigeon cs fun c hcm => Int.lt_of_lt_of_le l2 (lle c hcm)
              refine lc_rng (fun i : Nat => !covB cs (0 + (i : Int))) (fun y i _ => y = .int (0 + (i : Int))) (fun _ _ _ _ _ _ _ e => e) nD3 (by omega) (fun _ => rfl) ?_ ?_ ?_
              · intro i hi H4 Q4 s4 q
                walk_at "g"
                refine ⟨_, _, cs, rfl, ⟨ts, s4 _ _ (s2 _ _ hp), (pp.same s2).same s4⟩, fun c hcm => (wf c hcm).1, by omega, fun H5 s5 => ?_⟩
                walk_at "g"
                exact q H5 s5
              · intro i hi _ H4 Q4 s4 q
                walk_at "g"
                exact q _ _ (Same.refl _) rfl
              · intro zs H4 s4 hD4 pz
                have ez := pz.eq_map
                have hin : n0.toNat ∈ (List.range ((cs.length : Int) + 1).toNat).filter (fun i : Nat => !covB cs (0 + (i : Int))) := by
                  refine List.mem_filter.mpr ⟨List.mem_range.mpr (by omega), ?_⟩
                  have e : (0 + ((n0.toNat : Nat) : Int)) = n0 := by omega
                  rw [e, covB_no n3]
                  rfl
                cases hf : (List.range ((cs.length : Int) + 1).toNat).filter (fun i : Nat => !covB cs (0 + (i : Int))) with
                | nil =>
                  rw [hf] at hin
                  cases hin
                | cons i0 r =>
                  have hi0 : i0 ∈ (List.range ((cs.length : Int) + 1).toNat).filter (fun i : Nat => !covB cs (0 + (i : Int))) := by
                    rw [hf]
                    exact List.mem_cons_self
                  obtain ⟨hr1, hr2⟩ := List.mem_filter.mp hi0
                  have hr3 := List.mem_range.mp hr1
                  rw [hf] at ez
                  rw [ez] at hD4
                  walk_at "g"
                  refine ⟨D3, _, _, .int (0 + (i0 : Int)), rfl, rfl, SqL.of hD4, atI_nat (j := 0) rfl, ?_⟩
                  refine k (some (0 + (i0 : Int))) H4 (s2.trans s4) ⟨by omega, fun hcov => ?_⟩ ?_
                  · rw [(covB_iff _ _).mpr hcov] at hr2
                    cases hr2
                  · show (0 + (i0 : Int)) < _
                    have h1 : (64 : Nat) ≤ 2 ^ (6 * (d + 1)) := Nat.pow_le_pow_right (n := 2) (i := 6) (by decide) (by omega)
                    generalize 2 ^ (6 * (d + 1)) = z at h1 ⊢
                    omega
            · have l2 : ¬ (cs.length : Int) < least := of_decide_eq_false c2
              walk_at "g"
              refine ⟨by omega, by omega, ?_⟩
              have lb : Bd 8000 least := by rw [← e0]; exact (wf c0 hc0).2.1
              have two : 2 ≤ cs.length := by omega
              have deep' : cs.length < d + 1 := by
                rcases deep with h | ⟨_, c1', hc1, ec1⟩
                · exact h
                · have := lle c1' hc1
                  omega
              refine for_range (lo := 0) (n := least.toNat) (fun i σ H' => ∃ a1 a2 : Option V, σ = [some (.ref p), some (.int least), a1, a2, none, none, none] ∧ Same H H' ∧ ∀ u : Nat, u < i → ∀ t : Int, cov cs (u + least * t)) ?_ ?_ ?_
              · exact ⟨_, _, rfl, s2, fun u hu => by omega⟩
              · rintro i σ H' hi ⟨a1, a2, rfl, s5, hcv⟩
                walk_at "g"
                refine ⟨p, cs, 0 + (i : Int), least, rfl, ⟨ts, s5 _ _ hp, pp.same s5⟩, lp, lb, ?_, fun c hcm => ⟨(wf c hcm).1, (wf c hcm).2.1, (wf c hcm).2.2.2⟩, h64, fun p' es H6 s6 np' he rd => ?_⟩
                · exact lb.le (by omega)
                walk_at "g"
                refine ⟨p', es, rfl, he, rd.wf fun c hcm => ⟨(wf c hcm).1, (wf c hcm).2.1⟩, Nat.lt_of_le_of_lt rd.len h64, ?_, fun o H7 s7 hb ho => ?_⟩
                · rcases rd.less lp ⟨c0, hc0, e0⟩ with h | h
                  · exact .inr ⟨by omega, h⟩
                  · exact .inl (by omega)
                walk_at "g"
                rw [oV_none]
                cases o with
                | some b =>
                  refine iteT ?_
                  walk_at "g"
                  obtain ⟨b0, b1⟩ := hb
                  have hz : b < ((2 ^ (6 * d) : Nat) : Int) := ho
                  refine ⟨.inl ⟨by omega, by omega⟩, ?_⟩
                  walk_at "g"
                  refine k (some (0 + (i : Int) + least * b)) H7 ((s5.trans s6).trans s7) ⟨?_, fun hcov => b1 ((rd.cov b).mpr hcov)⟩ ?_
                  · have := Int.mul_nonneg (Int.le_of_lt lp) b0
                    omega
                  · show 0 + (i : Int) + least * b < ((2 ^ (6 * (d + 1)) : Nat) : Int)
                    have e : 2 ^ (6 * (d + 1)) = 2 ^ (6 * d) * 64 := by rw [Nat.mul_add, Nat.pow_add]
                    rw [e]
                    generalize 2 ^ (6 * d) = z at hz ⊢
                    have h1 : least * (b + 1) ≤ 64 * (b + 1) := Int.mul_le_mul_of_nonneg_right (by omega) (by omega)
                    rw [Int.mul_add, Int.mul_one] at h1
                    omega
                | none =>
                  refine iteF ?_
                  refine ⟨_, _, rfl, (s5.trans s6).trans s7, fun u hu t => ?_⟩
                  rcases Nat.lt_succ_iff_lt_or_eq.mp hu with h | h
                  · exact hcv u h t
                  · subst h
                    have := (rd.cov t).mp (hb t)
                    have e : (0 + (u : Int)) + least * t = u + least * t := by omega
                    rw [e] at this
                    exact this
              · rintro σ H' ⟨a1, a2, rfl, s5, hcv⟩
                walk_at "g"
                refine k none H' s5 (fun n => ?_) trivial
                have h1 := Int.emod_nonneg n (show least ≠ 0 by omega)
                have h2 := Int.emod_lt_of_pos n lp
                have h3 := Int.emod_add_mul_ediv n least
                have := hcv (n % least).toNat (by omega) (n / least)
                have e : (((n % least).toNat : Nat) : Int) + least * (n / least) = n := by omega
                rw [e] at this
                exact this
end
end Tr

namespace Tr
open PySem L2
/-- steps of a reading that are plain -/
local macro_rules | `(tactic| walk_at "x") => `(tactic| (refine' ⟨_, _, _, _, rfl, rfl, ?k1, ?k2, ?_⟩; (case k1 => exact SqT.of (by assumption)); (case k2 => exact rfl)))
local macro_rules | `(tactic| walk_at "g") => `(tactic| repeat (first | (refine ⟨_, rfl, ?_⟩) | (refine ⟨_, _, rfl, rfl, ?_⟩) | (refine ⟨_, _, rfl, ?_⟩) | (refine ⟨rfl, ?_⟩) | walk_at "x"))


/-! ### is_whole, is_part, Numbers.__init__ -/
section
variable {P : Program} {w : World} {K : PySem.W.Frag} {mg : Str → Option Value} {base : Heap}
def spWhole (K : PySem.W.Frag) : Sp := fun vs H Q _ => ∃ x b, vs = [x] ∧ IsW K H x b ∧ Q (.bl b) H
theorem c_is_whole (T : Txt K mg) : Cal P w K mg base 1 "is_whole" (spWhole K) [] := by
  refine calN T.d_is_whole sc_is_whole (fun vs H Q E h => ?_) (fun _ _ _ _ _ _ us hl => match us, hl with | [_], _ => rfl) (fun f cdv A outer s H vs Q E hr h => ?_)
  · obtain ⟨x, b, rfl, _⟩ := h
    rfl
  · obtain ⟨x, b, rfl, ⟨t, b1, b2, ty, k1, k2, rfl⟩, k⟩ := h
    refine ⟨_, (pss_one (ps_ret (pe_and (pe_callB call_isi (by rfl) T.b_isinstance (by decide +kernel) (pa_cons (pv 0) (pa_cons (pe_bltn (v := .ty "int") rfl T.b_int (by decide +kernel) rfl) pa_nil))) (pe_one (pe_not (pe_callB call_isi (by rfl) T.b_isinstance (by decide +kernel) (pa_cons (pv 0) (pa_cons (pe_bltn (v := .ty "bool") rfl T.b_bool (by decide +kernel) rfl) pa_nil)))))))), ?_⟩
    refine ⟨x, rfl, x, .ty "int", t, _, b1, rfl, .ty "int", ty, k1, b1, rfl, ?_⟩
    cases b1 with
    | false => exact k
    | true =>
      refine ⟨x, rfl, x, .ty "bool", t, _, b2, rfl, .ty "bool", ty, k2, b2, rfl, ?_⟩
      rw [Bool.true_and] at k
      exact k
def spPart : Sp := fun vs H Q _ => ∃ (t : Addr) (c : Cl), vs = [.ref t] ∧ PrT H t c ∧ ∀ H', Same H H' → Q (.bl (decide (0 ≤ c.2))) H'
theorem c_is_part (T : Txt K mg) : Cal P w K mg base 2 "is_part" spPart [] := by
  have c_is_whole := @c_is_whole P w K mg base T
  refine calN T.d_is_part sc_is_part (fun vs H Q E h => ?_) (fun _ _ _ _ _ _ us hl => match us, hl with | [_], _ => rfl) (fun f cdv A outer s H vs Q E hr h => ?_)
  · obtain ⟨x, b, rfl, _⟩ := h
    rfl
  · obtain ⟨t, c, rfl, ht, k⟩ := h
    refine ⟨_, (pss_cons (ps_if (PW.pt (pw_or (pt_not (pt_val (pe_callB call_isiT (by rfl) T.b_isinstance (by decide +kernel) (pa_cons (pv 0) (pa_cons (pe_tup (pa_cons (pe_bltn (v := .ty "list") rfl T.b_list (by decide +kernel) rfl) (pa_cons (pe_bltn (v := .ty "tuple") rfl T.b_tuple (by decide +kernel) rfl) pa_nil))) pa_nil))))) (pw_or1 (pt_cmpR op_ne (pe_callB call_len (by rfl) T.b_len (by decide +kernel) (pa_cons (pv 0) pa_nil)) pe_int (nomark _))))) (pss_one (ps_ret pe_bl)) pss_nil)
      (pss_one (ps_ret (pe_and (pe_cx c_is_whole hr (by first | decide | omega) rfl passL (pa_cons (pe_ix ix_tup (pv 0) pe_int (fun _ _ => rfl)) pa_nil)) (pe_and (pe_cx c_is_whole hr (by first | decide | omega) rfl passL (pa_cons (pe_ix ix_tup (pv 0) pe_int (fun _ _ => rfl)) pa_nil)) (pe_one (pe_cmpR op_ge (pe_ix ix_tup (pv 0) pe_int (fun _ _ => rfl)) pe_int (nomark _)))))))), ?_⟩
    refine ⟨.ref t, rfl, by show 2 ≤ sizeLine; decide, fun tp ntp => ?_⟩
    have s1 : Same H (upd H tp (.tup [.ty "list", .ty "tuple"])) := same_upd ntp
    have ht1 := s1 _ _ ht
    have ka : PySem.W.kitAny K (.type "tuple") [.type "list", .type "tuple"] = some true := kitAny_cons (b := false) (kit_ty (by decide +kernel)) (fun _ => kitAny_cons (b := true) (kit_ty (by decide +kernel)) (fun z => by cases z) (fun _ => rfl)) (fun z => by cases z)
    refine ⟨.ref t, tp, [.ty "list", .ty "tuple"], .type "tuple", _, true, rfl, upd_same, .cons (.ty _) (.cons (.ty _) .nil), .base (.tup ht1), ka, true, rfl, ?_⟩
    walk_at "g"
    refine ⟨_, _, rfl, .inr ⟨_, SqT.of ht1, rfl⟩, ?_⟩
    walk_at "g"
    refine ⟨_, _, rfl, isW_int _, true, rfl, ?_⟩
    walk_at "g"
    refine ⟨_, _, rfl, isW_int _, true, rfl, ?_⟩
    walk_at "g"
    exact k _ s1
end
end Tr

namespace Tr
open PySem L2
/-- steps of a reading that are plain -/
local macro_rules | `(tactic| walk_at "x") => `(tactic| (refine' ⟨_, _, _, _, rfl, rfl, ?k1, ?k2, ?_⟩; (case k1 => exact SqT.of (by assumption)); (case k2 => exact rfl)))
local macro_rules | `(tactic| walk_at "g") => `(tactic| repeat (first | (refine ⟨_, rfl, ?_⟩) | (refine ⟨_, _, rfl, rfl, ?_⟩) | (refine ⟨_, _, rfl, ?_⟩) | (refine ⟨rfl, ?_⟩) | walk_at "x"))


/-! ### Numbers.__init__ -/
def flds (q1 q2 : Addr) : List (Str × V) := [("classes", .ref q1), ("singles", .ref q2)]
/-- a Numbers stands at a: its classes and singles -/
structure NumAt (C : Addr) (H : Hp) (a : Addr) (ds : List Cl) (ns : List Int) : Prop where
  ex : ∃ dx q1 q2, H a = some (.ins C dx (flds q1 q2)) ∧ PL H q1 ds ∧ H q2 = some (.lst (ns.map V.int))
theorem NumAt.same {C : Addr} {H H' : Hp} {a : Addr} {ds : List Cl} {ns : List Int} (s : Same H H') (h : NumAt C H a ds ns) : NumAt C H' a ds ns :=
  let ⟨dx, q1, q2, e1, e2, e3⟩ := h.ex
  ⟨dx, q1, q2, s _ _ e1, e2.same s, s _ _ e3⟩
/-- what __init__ makes of the pairs -/
structure Num (cs ds : List Cl) (ns : List Int) : Prop where
  tidy : Tidy (cs.filter fun c => decide (0 < c.2)) ds
  up : ns.Pairwise (· < ·)
  mem : ∀ n, n ∈ ns ↔ (n, 0) ∈ cs ∧ ¬ cov ds n
  len : ns.length ≤ cs.length
theorem PL.kpi {C x dx p : Addr} {H H' : Hp} {fs : List (Str × V)} {cs : List Cl} (kp : Kp x H H') (hx : H x = some (.ins C dx fs)) (h : PL H p cs) : PL H' p cs :=
  let ⟨ts, a, b⟩ := h
  ⟨ts, kp _ _ a (ne_of a hx (by intro z; cases z)), b.mono fun t c e => kp _ _ e (ne_of e hx (by intro z; cases z))⟩
section
variable {P : Program} {w : World} {K : PySem.W.Frag} {mg : Str → Option Value} {base : Heap}
def spNum (C : Addr) : Sp := fun vs H Q _ => ∃ (x dx p : Addr) (cs : List Cl), vs = [.ref x, .ref p] ∧ H x = some (.ins C dx []) ∧ PL H p cs ∧ (∀ c ∈ cs, 0 ≤ c.2 ∧ Bd 8000 c.2) ∧ cs.length < 64 ∧
  ∀ (ds : List Cl) (ns : List Int) (H' : Hp), (∀ b o, H b = some o → b ≠ x → H' b = some o) → NumAt C H' x ds ns → Num cs ds ns → Q .non H'
theorem m_Numbers (T : Txt K mg) : Mak P w K mg base 3 "Numbers" (He.ga K "Numbers") (spNum (He.ga K "Numbers")) [] := by
  have c_is_part := @c_is_part P w K mg base T
  have c_tidy_classes := @c_tidy_classes P w K mg base T
  have c_is_covered := @c_is_covered P w K mg base T
  refine makN T.i_Numbers sc_Numbers___init__ (fun vs H Q E h => ?_) (fun dvs f fd hl F => binds_all F 2 rfl (fun _ _ _ _ _ _ _ us its h1 h2 => match us, its, h1, h2.trans hl with | [_, _], [_], _, _ => ⟨_, rfl, rfl⟩) (by intro e; rw [e] at hl; cases hl)) (fun f cdv A outer s H vs Q E hr h => ?_)
  · obtain ⟨x, dx, p, cs, rfl, _⟩ := h
    rfl
  · obtain ⟨x, dx, p, cs, rfl, hx, ⟨ts, hp, pp⟩, hc, h64, k⟩ := h
    refine ⟨_, (pss_cons (ps_for PassesOwn.never rfl (pi_enum (by rfl) T.b_enumerate (pa_cons (pv 1) pa_nil)) (pg_tup rfl (pgs_cons (pg_name (i := 2) sc_Numbers___init__.nd rfl (Or.inl rfl)) (pgs_cons (pg_name (i := 3) sc_Numbers___init__.nd rfl (Or.inl rfl)) pgs_nil))) (pss_one (ps_if (pt_not (pt_val (pe_cx c_is_part hr (by first | decide | omega) rfl passL (pa_cons (pv 3) pa_nil)))) (pss_one ps_never) pss_nil)))
      (pss_cons (ps_fld (pv 0) (pe_cx c_tidy_classes hr (by first | decide | omega) rfl passL (pa_cons (pe_lc (own := [("r", 5), ("m", 6)]) (g := gTup K 2 (gCons (gName 5) (gCons (gName 6) gNil))) rfl sc_Numbers___init__.nd (pi_listK K (pv 1)) (blkOk_by (own := [("r", 5), ("m", 6)]) (N := ["self", "parts", "index", "part", "singles", "r", "m", "n"]) (sc := defScope s_Numbers___init__) (by decide +kernel)) (fun _ _ _ _ _ => (pg_tup rfl (pgs_cons (pg_name (i := 5) sc_Numbers___init__.nd rfl (Or.inl rfl)) (pgs_cons (pg_name (i := 6) sc_Numbers___init__.nd rfl (Or.inl rfl)) pgs_nil)))) (fun _ _ _ _ _ => (pts_one (pt_cmpR op_gt (pv 6) pe_int (nomark _)))) (fun _ _ _ _ _ => (pe_tup (pa_cons (pv 5) (pa_cons (pv 6) pa_nil))))) pa_nil)) rfl)
      (pss_cons (ps_set (i := 4) sc_Numbers___init__.nd rfl (Or.inl rfl) (pe_callB (cr_sortedSet rfl) (by rfl) T.b_sorted (by decide +kernel) (pa_cons (pe_callTy (cr_setI rfl) (by rfl) T.b_set (by decide +kernel) (pa_cons (pe_lc (own := [("r", 5), ("m", 6)]) (g := gTup K 2 (gCons (gName 5) (gCons (gName 6) gNil))) rfl sc_Numbers___init__.nd (pi_listK K (pv 1)) (blkOk_by (own := [("r", 5), ("m", 6)]) (N := ["self", "parts", "index", "part", "singles", "r", "m", "n"]) (sc := defScope s_Numbers___init__) (by decide +kernel)) (fun _ _ _ _ _ => (pg_tup rfl (pgs_cons (pg_name (i := 5) sc_Numbers___init__.nd rfl (Or.inl rfl)) (pgs_cons (pg_name (i := 6) sc_Numbers___init__.nd rfl (Or.inl rfl)) pgs_nil)))) (fun _ _ _ _ _ => (pts_one (pt_cmpR op_eq (pv 6) pe_int (nomark _)))) (fun _ _ _ _ _ => (pv 5))) pa_nil)) pa_nil)))
      (pss_one (ps_fld (pv 0) (pe_lc (own := [("n", 7)]) (g := gName 7) rfl sc_Numbers___init__.nd (pi_listK K (pv 4)) (blkOk_by (own := [("n", 7)]) (N := ["self", "parts", "index", "part", "singles", "r", "m", "n"]) (sc := defScope s_Numbers___init__) (by decide +kernel)) (fun _ _ _ _ _ => (pg_name (i := 7) sc_Numbers___init__.nd rfl (Or.inl rfl))) (fun _ _ _ _ _ => (pts_one (pt_not (pt_val (pe_cx c_is_covered hr (by first | decide | omega) rfl passL (pa_cons (pv 7) (pa_cons (pe_fldK K (pv 0) (by rfl)) pa_nil))))))) (fun _ _ _ _ _ => (pv 7))) rfl))))), ?_⟩
    have hlen := pp.len
    refine ⟨.ref p, rfl, p, _, rfl, SqL.of hp, ?_⟩
    refine for_enum (xs := ts.map V.ref) (fun i σ H' => ∃ a1 a2 : Option V, σ = [some (.ref x), some (.ref p), a1, a2, none, none, none, none] ∧ Same H H') ⟨_, _, rfl, Same.refl H⟩ ?_ ?_ ?_
    · rintro i σ H' hi ⟨a1, a2, rfl, s1⟩
      exact SqL.of (s1 _ _ hp)
    · rintro i y σ H' hy ⟨a1, a2, rfl, s1⟩ tt nt
      rw [List.getElem?_map] at hy
      cases ht : ts[i]? with
      | none => rw [ht] at hy; cases hy
      | some t =>
        rw [ht] at hy
        cases hy
        obtain ⟨c, hcm, r⟩ := pp.getl ht
        have s2 : Same H (upd H' tt (.tup [.int (i : Nat), .ref t])) := s1.upd' nt
        refine ⟨_, rfl, _, c, rfl, s2 _ _ r, fun H5 s5 => ?_⟩
        rw [decide_eq_true (hc c (mem_of_at hcm)).1]
        walk_at "g"
        exact s2.trans s5
    · rintro σ H1 ⟨a1, a2, rfl, s1⟩
      have hx1 := s1 _ _ hx
      walk_at "g"
      refine ⟨⟨_, SqL.of (s1 _ _ hp)⟩, fun D nD => ?_⟩
      refine lc_pairs (fun c => decide (0 < c.2)) (fun y c H => ∃ t, y = .ref t ∧ PrT H t c) ?_ nD (SqL.of (s1 _ _ hp)) (pp.same s1) (by omega) (fun _ _ => rfl) ?_ ?_ ?_
      · rintro y c H H' acc hD kp ⟨t, rfl, ht⟩
        exact ⟨t, rfl, kp _ _ ht (ht.ne hD)⟩
      · intro c hcm H2 Q2 s2 q
        walk_at "g"
        exact q _ (Same.refl _)
      · intro c hcm hpc H2 Q2 s2 q
        walk_at "g"
        refine ⟨by show 2 ≤ sizeLine; decide, fun t nt => ?_⟩
        exact q _ _ (same_upd nt) ⟨t, rfl, upd_same⟩
      · intro ys H2 s2 hD2 py
        obtain ⟨as, rfl⟩ := py.ref (f := V.ref) (fun v b ⟨t, e, _⟩ => ⟨t, e⟩)
        have pD : PL H2 D (cs.filter fun c => decide (0 < c.2)) := ⟨as, hD2, (P2.map_l.mp py).mono fun t c ⟨t', e, r⟩ => by cases e; exact r⟩
        walk_at "g"
        refine ⟨D, _, rfl, pD, fun c hcm => ?_, Nat.lt_of_le_of_lt (List.length_filter_le _ _) h64, fun p' ds H3 s3 np' hpl td => ?_⟩
        · obtain ⟨h1, h2⟩ := List.mem_filter.mp hcm
          exact ⟨of_decide_eq_true h2, (hc c h1).2⟩
        have s03 : Same H H3 := (s1.trans s2).trans s3
        walk_at "g"
        refine ⟨x, _, dx, _, rfl, s03 _ _ hx, T.k_Numbers, T.a_Numbers__classes, by show 0 < 1000; decide, ?_⟩
        obtain ⟨H4, e4⟩ : ∃ H4, H4 = upd H3 x (.ins (He.ga K "Numbers") dx (putF "classes" (.ref p') [])) := ⟨_, rfl⟩
        have kp4 : Kp x H3 H4 := by rw [e4]; exact kp_upd x H3 _
        have hx4 : H4 x = some (.ins (He.ga K "Numbers") dx [("classes", .ref p')]) := by rw [e4]; exact upd_same
        have kp04 : Kp x H H4 := s03.kp.trans kp4
        obtain ⟨ts4, hp4, pp4⟩ := PL.kpi kp04 hx ⟨ts, hp, pp⟩
        have hds4 := PL.kpi kp4 (s03 _ _ hx) hpl
        rw [← e4]
        walk_at "g"
        refine ⟨⟨_, SqL.of hp4⟩, fun D5 nD5 => ?_⟩
        refine lc_pairs (fun c => decide (c.2 = 0)) (fun y c H => y = .int c.1) (fun _ _ _ _ _ _ _ e => e) nD5 (SqL.of hp4) pp4 (by omega) (fun _ _ => rfl) ?_ ?_ ?_
        · intro c hcm H5 Q5 s5 q
          walk_at "g"
          have e := q _ (Same.refl _)
          rw [← dI] at e
          exact e
        · intro c hcm hpc H5 Q5 s5 q
          walk_at "g"
          exact q _ _ (Same.refl _) rfl
        · intro ys H5 s5 hD5 py5
          have ey := py5.eq_map
          have ey2 : ys = ((cs.filter fun c => decide (c.2 = 0)).map (·.1)).map V.int := by rw [ey, List.map_map]; rfl
          have hl5 : ((cs.filter fun c => decide (c.2 = 0)).map (·.1)).length ≤ cs.length := by rw [List.length_map]; exact List.length_filter_le _ _
          walk_at "g"
          refine ⟨D5, (cs.filter fun c => decide (c.2 = 0)).map (·.1), rfl, SqL.of (by rw [hD5, ey2]), by omega, fun S c hcl nS => ?_⟩
          walk_at "g"
          refine ⟨S, _, c, rfl, upd_same, by omega, fun ns pL up mem hlen nL => ?_⟩
          obtain ⟨H6, e6⟩ : ∃ H6, H6 = upd (upd H5 S (SetO w S (fun j => decide (j ∈ (cs.filter fun c => decide (c.2 = 0)).map (·.1))) c)) pL (.lst (ns.map V.int)) := ⟨_, rfl⟩
          have s56 : Same H5 H6 := by rw [e6]; exact (same_upd nS).upd' nL
          have s46 := s5.trans s56
          have hpL : H6 pL = some (.lst (ns.map V.int)) := by rw [e6]; exact upd_same
          have hx6 := s46 _ _ hx4
          have hds6 := hds4.same s46
          show gName 4 (V.ref pL) _ (upd (upd H5 S (SetO w S (fun j => decide (j ∈ (cs.filter fun c => decide (c.2 = 0)).map (·.1))) c)) pL (.lst (ns.map V.int))) _
          rw [← e6]
          walk_at "g"
          refine ⟨⟨_, SqL.of hpL⟩, fun D7 nD7 => ?_⟩
          have dpos : ∀ d ∈ ds, 0 < d.2 := fun d hd => (td.pos (fun c hcm => of_decide_eq_true (List.mem_filter.mp hcm).2) d hd).1
          have dlen : ds.length ≤ cs.length := Nat.le_trans td.len (List.length_filter_le _ _)
          refine lc_vals (xs := []) (cs := ns) (fun n => !covB ds n) V.int (fun y n _ => y = .int n) (fun _ _ _ _ _ _ _ e => e) nD7 (SqL.of hpL) (by omega) (fun _ => rfl) ?_ ?_ ?_
          · intro n hn H7 Q7 s7 q
            walk_at "g"
            refine ⟨x, _, dx, _, _, rfl, s7 _ _ hx6, T.k_Numbers, T.a_Numbers__classes, rfl, ?_⟩
            refine ⟨n, p', ds, rfl, hds6.same s7, dpos, by omega, fun H8 s8 => ?_⟩
            walk_at "g"
            exact q H8 s8
          · intro n hn _ H7 Q7 s7 q
            walk_at "g"
            exact q _ _ (Same.refl _) rfl
          · intro zs H7 s7 hD7 pz
            have ez := pz.eq_map
            walk_at "g"
            refine ⟨x, _, dx, _, rfl, s7 _ _ hx6, T.k_Numbers, T.a_Numbers__singles, by show 1 < 1000; decide, ?_⟩
            obtain ⟨H8, e8⟩ : ∃ H8, H8 = upd H7 x (.ins (He.ga K "Numbers") dx (flds p' D7)) := ⟨_, rfl⟩
            show Q .non (upd H7 x (.ins (He.ga K "Numbers") dx (flds p' D7)))
            rw [← e8]
            have kp8 : Kp x H7 H8 := by rw [e8]; exact kp_upd x H7 _
            have hx7 := s7 _ _ hx6
            have nDx : D7 ≠ x := ne_of hD7 hx7 (by intro z; cases z)
            refine k ds (ns.filter fun n => !covB ds n) H8 (kp04.trans ((s46.trans s7).kp.trans kp8)) ⟨dx, p', D7, by rw [e8]; exact upd_same, PL.kpi kp8 hx7 (hds6.same s7), ?_⟩ ⟨td, up.filter _, fun n => ?_, ?_⟩
            · rw [← ez]
              exact kp8 _ _ hD7 nDx
            · rw [List.mem_filter, mem, decide_eq_true_eq, List.mem_map]
              constructor
              · rintro ⟨⟨c', hc', rfl⟩, hcv⟩
                obtain ⟨h1, h2⟩ := List.mem_filter.mp hc'
                have h3 : c'.2 = 0 := of_decide_eq_true h2
                refine ⟨?_, fun h => ?_⟩
                · have : c' = (c'.1, 0) := by rw [← h3]
                  rw [← this]
                  exact h1
                · rw [(covB_iff _ _).mpr h] at hcv
                  cases hcv
              · rintro ⟨h1, h2⟩
                exact ⟨⟨(n, 0), List.mem_filter.mpr ⟨h1, decide_eq_true rfl⟩, rfl⟩, by rw [covB_no h2]; rfl⟩
            · have h1 := List.length_filter_le (fun n => !covB ds n) ns
              omega
end
end Tr

namespace Tr
open PySem L2
/-- steps of a reading that are plain -/
local macro_rules | `(tactic| walk_at "x") => `(tactic| (refine' ⟨_, _, _, _, rfl, rfl, ?k1, ?k2, ?_⟩; (case k1 => exact SqT.of (by assumption)); (case k2 => exact rfl)))
local macro_rules | `(tactic| walk_at "g") => `(tactic| repeat (first | (refine ⟨_, rfl, ?_⟩) | (refine ⟨_, _, rfl, rfl, ?_⟩) | (refine ⟨_, _, rfl, ?_⟩) | (refine ⟨rfl, ?_⟩) | walk_at "x"))


/-! ### Numbers.__init__ over a tuple -/
theorem pi_tupK {X : Cx} (K : PySem.W.Frag) {tg l : Expr} {tl : TE} (hl : PE X l tl) (hk : X.K = K := by rfl) : PI X tg l (iTup K tl) := by
  subst hk
  exact pi_tup hl
section
variable {P : Program} {w : World} {K : PySem.W.Frag} {mg : Str → Option Value} {base : Heap}
/-- a tuple of pairs -/
def PT (K : PySem.W.Frag) (H : Hp) (p : Addr) (cs : List Cl) : Prop := ∃ ts : List Addr, SqT K H p (ts.map V.ref) ∧ P2 (PrT H) ts cs
theorem PT.kpi {C x dx p : Addr} {H H' : Hp} {fs : List (Str × V)} {cs : List Cl} (kp : Kp x H H') (hx : H x = some (.ins C dx fs)) (h : PT K H p cs) : PT K H' p cs :=
  let ⟨ts, a, b⟩ := h
  ⟨ts, a.elim (fun h => .inl (h.elim (fun h => .inl (kp _ _ h (ne_of h hx (by intro z; cases z)))) fun ⟨o, h⟩ => .inr ⟨o, kp _ _ h (ne_of h hx (by intro z; cases z))⟩)) fun h => .inr h, b.mono fun t c e => kp _ _ e (ne_of e hx (by intro z; cases z))⟩
/-- parts are a tuple, given or kept as the default -/
def spNumT (K : PySem.W.Frag) (C : Addr) : Sp := fun vs H Q _ => ∃ (x dx p : Addr) (cs : List Cl), vs = [.ref x, .ref p] ∧ H x = some (.ins C dx []) ∧ PT K H p cs ∧ (∀ c ∈ cs, 0 ≤ c.2 ∧ Bd 8000 c.2) ∧ cs.length < 64 ∧
  ∀ (ds : List Cl) (ns : List Int) (H' : Hp), (∀ b o, H b = some o → b ≠ x → H' b = some o) → NumAt C H' x ds ns → Num cs ds ns → Q .non H'
theorem walk_NumbersT (T : Txt K mg) (f : Addr) (cdv : Value) (A : Around) (outer : List Env) (s : Shared) (H : Hp) (vs : List V) (Q : VK) (E : XK) (hr : Room 2 (A.deeper (PyProof.Rows.envOfC "Numbers.__init__" (defScope s_Numbers___init__) s.heap.objs.size f cdv))) (h : spNumT K (He.ga K "Numbers") vs H Q E) :
    ∃ t, PSs (cxOf (L2.CX P w) P w K mg base ["self", "parts", "index", "part", "singles", "r", "m", "n"] "Numbers.__init__" (defScope s_Numbers___init__) f cdv A outer s H E).nox (defBody s_Numbers___init__) t ∧ t { nx := fun _ H' => Q .non H', rt := Q } (start ["self", "parts", "index", "part", "singles", "r", "m", "n"] vs) H := by
  have c_is_part := @c_is_part P w K mg base T
  have c_tidy_classes := @c_tidy_classes P w K mg base T
  have c_is_covered := @c_is_covered P w K mg base T
  obtain ⟨x, dx, p, cs, rfl, hx, ⟨ts, hp, pp⟩, hc, h64, k⟩ := h
  refine ⟨_, (pss_cons (ps_for PassesOwn.never rfl (pi_enumT (by rfl) T.b_enumerate (pa_cons (pv 1) pa_nil)) (pg_tup rfl (pgs_cons (pg_name (i := 2) sc_Numbers___init__.nd rfl (Or.inl rfl)) (pgs_cons (pg_name (i := 3) sc_Numbers___init__.nd rfl (Or.inl rfl)) pgs_nil))) (pss_one (ps_if (pt_not (pt_val (pe_cx c_is_part hr (by first | decide | omega) rfl passL (pa_cons (pv 3) pa_nil)))) (pss_one ps_never) pss_nil)))
      (pss_cons (ps_fld (pv 0) (pe_cx c_tidy_classes hr (by first | decide | omega) rfl passL (pa_cons (pe_lc (own := [("r", 5), ("m", 6)]) (g := gTup K 2 (gCons (gName 5) (gCons (gName 6) gNil))) rfl sc_Numbers___init__.nd (pi_tupK K (pv 1)) (blkOk_by (own := [("r", 5), ("m", 6)]) (N := ["self", "parts", "index", "part", "singles", "r", "m", "n"]) (sc := defScope s_Numbers___init__) (by decide +kernel)) (fun _ _ _ _ _ => (pg_tup rfl (pgs_cons (pg_name (i := 5) sc_Numbers___init__.nd rfl (Or.inl rfl)) (pgs_cons (pg_name (i := 6) sc_Numbers___init__.nd rfl (Or.inl rfl)) pgs_nil)))) (fun _ _ _ _ _ => (pts_one (pt_cmpR op_gt (pv 6) pe_int (nomark _)))) (fun _ _ _ _ _ => (pe_tup (pa_cons (pv 5) (pa_cons (pv 6) pa_nil))))) pa_nil)) rfl)
      (pss_cons (ps_set (i := 4) sc_Numbers___init__.nd rfl (Or.inl rfl) (pe_callB (cr_sortedSet rfl) (by rfl) T.b_sorted (by decide +kernel) (pa_cons (pe_callTy (cr_setI rfl) (by rfl) T.b_set (by decide +kernel) (pa_cons (pe_lc (own := [("r", 5), ("m", 6)]) (g := gTup K 2 (gCons (gName 5) (gCons (gName 6) gNil))) rfl sc_Numbers___init__.nd (pi_tupK K (pv 1)) (blkOk_by (own := [("r", 5), ("m", 6)]) (N := ["self", "parts", "index", "part", "singles", "r", "m", "n"]) (sc := defScope s_Numbers___init__) (by decide +kernel)) (fun _ _ _ _ _ => (pg_tup rfl (pgs_cons (pg_name (i := 5) sc_Numbers___init__.nd rfl (Or.inl rfl)) (pgs_cons (pg_name (i := 6) sc_Numbers___init__.nd rfl (Or.inl rfl)) pgs_nil)))) (fun _ _ _ _ _ => (pts_one (pt_cmpR op_eq (pv 6) pe_int (nomark _)))) (fun _ _ _ _ _ => (pv 5))) pa_nil)) pa_nil)))
      (pss_one (ps_fld (pv 0) (pe_lc (own := [("n", 7)]) (g := gName 7) rfl sc_Numbers___init__.nd (pi_listK K (pv 4)) (blkOk_by (own := [("n", 7)]) (N := ["self", "parts", "index", "part", "singles", "r", "m", "n"]) (sc := defScope s_Numbers___init__) (by decide +kernel)) (fun _ _ _ _ _ => (pg_name (i := 7) sc_Numbers___init__.nd rfl (Or.inl rfl))) (fun _ _ _ _ _ => (pts_one (pt_not (pt_val (pe_cx c_is_covered hr (by first | decide | omega) rfl passL (pa_cons (pv 7) (pa_cons (pe_fldK K (pv 0) (by rfl)) pa_nil))))))) (fun _ _ _ _ _ => (pv 7))) rfl))))), ?_⟩
  have hlen := pp.len
  refine ⟨.ref p, rfl, p, _, rfl, hp, ?_⟩
  refine for_enumT (xs := ts.map V.ref) (fun i σ H' => ∃ a1 a2 : Option V, σ = [some (.ref x), some (.ref p), a1, a2, none, none, none, none] ∧ Same H H') ⟨_, _, rfl, Same.refl H⟩ ?_ ?_ ?_
  · rintro i σ H' hi ⟨a1, a2, rfl, s1⟩
    exact s1.seqT hp
  · rintro i y σ H' hy ⟨a1, a2, rfl, s1⟩ tt nt
    rw [List.getElem?_map] at hy
    cases ht : ts[i]? with
    | none => rw [ht] at hy; cases hy
    | some t =>
      rw [ht] at hy
      cases hy
      obtain ⟨c, hcm, r⟩ := pp.getl ht
      have s2 : Same H (upd H' tt (.tup [.int (i : Nat), .ref t])) := s1.upd' nt
      refine ⟨_, rfl, _, c, rfl, s2 _ _ r, fun H5 s5 => ?_⟩
      rw [decide_eq_true (hc c (mem_of_at hcm)).1]
      walk_at "g"
      exact s2.trans s5
  · rintro σ H1 ⟨a1, a2, rfl, s1⟩
    have hx1 := s1 _ _ hx
    walk_at "g"
    refine ⟨⟨_, s1.seqT hp⟩, fun D nD => ?_⟩
    refine lc_pairsT (fun c => decide (0 < c.2)) (fun y c H => ∃ t, y = .ref t ∧ PrT H t c) ?_ nD (s1.seqT hp) (pp.same s1) (by omega) (fun _ _ => rfl) ?_ ?_ ?_
    · rintro y c H H' acc hD kp ⟨t, rfl, ht⟩
      exact ⟨t, rfl, kp _ _ ht (ht.ne hD)⟩
    · intro c hcm H2 Q2 s2 q
      walk_at "g"
      exact q _ (Same.refl _)
    · intro c hcm hpc H2 Q2 s2 q
      walk_at "g"
      refine ⟨by show 2 ≤ sizeLine; decide, fun t nt => ?_⟩
      exact q _ _ (same_upd nt) ⟨t, rfl, upd_same⟩
    · intro ys H2 s2 hD2 py
      obtain ⟨as, rfl⟩ := py.ref (f := V.ref) (fun v b ⟨t, e, _⟩ => ⟨t, e⟩)
      have pD : PL H2 D (cs.filter fun c => decide (0 < c.2)) := ⟨as, hD2, (P2.map_l.mp py).mono fun t c ⟨t', e, r⟩ => by cases e; exact r⟩
      walk_at "g"
      refine ⟨D, _, rfl, pD, fun c hcm => ?_, Nat.lt_of_le_of_lt (List.length_filter_le _ _) h64, fun p' ds H3 s3 np' hpl td => ?_⟩
      · obtain ⟨h1, h2⟩ := List.mem_filter.mp hcm
        exact ⟨of_decide_eq_true h2, (hc c h1).2⟩
      have s03 : Same H H3 := (s1.trans s2).trans s3
      walk_at "g"
      refine ⟨x, _, dx, _, rfl, s03 _ _ hx, T.k_Numbers, T.a_Numbers__classes, by show 0 < 1000; decide, ?_⟩
      obtain ⟨H4, e4⟩ : ∃ H4, H4 = upd H3 x (.ins (He.ga K "Numbers") dx (putF "classes" (.ref p') [])) := ⟨_, rfl⟩
      have kp4 : Kp x H3 H4 := by rw [e4]; exact kp_upd x H3 _
      have hx4 : H4 x = some (.ins (He.ga K "Numbers") dx [("classes", .ref p')]) := by rw [e4]; exact upd_same
      have kp04 : Kp x H H4 := s03.kp.trans kp4
      obtain ⟨ts4, hp4, pp4⟩ := PT.kpi kp04 hx ⟨ts, hp, pp⟩
      have hds4 := PL.kpi kp4 (s03 _ _ hx) hpl
      rw [← e4]
      walk_at "g"
      refine ⟨⟨_, hp4⟩, fun D5 nD5 => ?_⟩
      refine lc_pairsT (fun c => decide (c.2 = 0)) (fun y c H => y = .int c.1) (fun _ _ _ _ _ _ _ e => e) nD5 hp4 pp4 (by omega) (fun _ _ => rfl) ?_ ?_ ?_
      · intro c hcm H5 Q5 s5 q
        walk_at "g"
        have e := q _ (Same.refl _)
        rw [← dI] at e
        exact e
      · intro c hcm hpc H5 Q5 s5 q
        walk_at "g"
        exact q _ _ (Same.refl _) rfl
      · intro ys H5 s5 hD5 py5
        have ey := py5.eq_map
        have ey2 : ys = ((cs.filter fun c => decide (c.2 = 0)).map (·.1)).map V.int := by rw [ey, List.map_map]; rfl
        have hl5 : ((cs.filter fun c => decide (c.2 = 0)).map (·.1)).length ≤ cs.length := by rw [List.length_map]; exact List.length_filter_le _ _
        walk_at "g"
        refine ⟨D5, (cs.filter fun c => decide (c.2 = 0)).map (·.1), rfl, SqL.of (by rw [hD5, ey2]), by omega, fun S c hcl nS => ?_⟩
        walk_at "g"
        refine ⟨S, _, c, rfl, upd_same, by omega, fun ns pL up mem hlen nL => ?_⟩
        obtain ⟨H6, e6⟩ : ∃ H6, H6 = upd (upd H5 S (SetO w S (fun j => decide (j ∈ (cs.filter fun c => decide (c.2 = 0)).map (·.1))) c)) pL (.lst (ns.map V.int)) := ⟨_, rfl⟩
        have s56 : Same H5 H6 := by rw [e6]; exact (same_upd nS).upd' nL
        have s46 := s5.trans s56
        have hpL : H6 pL = some (.lst (ns.map V.int)) := by rw [e6]; exact upd_same
        have hx6 := s46 _ _ hx4
        have hds6 := hds4.same s46
        show gName 4 (V.ref pL) _ (upd (upd H5 S (SetO w S (fun j => decide (j ∈ (cs.filter fun c => decide (c.2 = 0)).map (·.1))) c)) pL (.lst (ns.map V.int))) _
        rw [← e6]
        walk_at "g"
        refine ⟨⟨_, SqL.of hpL⟩, fun D7 nD7 => ?_⟩
        have dpos : ∀ d ∈ ds, 0 < d.2 := fun d hd => (td.pos (fun c hcm => of_decide_eq_true (List.mem_filter.mp hcm).2) d hd).1
        have dlen : ds.length ≤ cs.length := Nat.le_trans td.len (List.length_filter_le _ _)
        refine lc_vals (xs := []) (cs := ns) (fun n => !covB ds n) V.int (fun y n _ => y = .int n) (fun _ _ _ _ _ _ _ e => e) nD7 (SqL.of hpL) (by omega) (fun _ => rfl) ?_ ?_ ?_
        · intro n hn H7 Q7 s7 q
          walk_at "g"
          refine ⟨x, _, dx, _, _, rfl, s7 _ _ hx6, T.k_Numbers, T.a_Numbers__classes, rfl, ?_⟩
          refine ⟨n, p', ds, rfl, hds6.same s7, dpos, by omega, fun H8 s8 => ?_⟩
          walk_at "g"
          exact q H8 s8
        · intro n hn _ H7 Q7 s7 q
          walk_at "g"
          exact q _ _ (Same.refl _) rfl
        · intro zs H7 s7 hD7 pz
          have ez := pz.eq_map
          walk_at "g"
          refine ⟨x, _, dx, _, rfl, s7 _ _ hx6, T.k_Numbers, T.a_Numbers__singles, by show 1 < 1000; decide, ?_⟩
          obtain ⟨H8, e8⟩ : ∃ H8, H8 = upd H7 x (.ins (He.ga K "Numbers") dx (flds p' D7)) := ⟨_, rfl⟩
          show Q .non (upd H7 x (.ins (He.ga K "Numbers") dx (flds p' D7)))
          rw [← e8]
          have kp8 : Kp x H7 H8 := by rw [e8]; exact kp_upd x H7 _
          have hx7 := s7 _ _ hx6
          have nDx : D7 ≠ x := ne_of hD7 hx7 (by intro z; cases z)
          refine k ds (ns.filter fun n => !covB ds n) H8 (kp04.trans ((s46.trans s7).kp.trans kp8)) ⟨dx, p', D7, by rw [e8]; exact upd_same, PL.kpi kp8 hx7 (hds6.same s7), ?_⟩ ⟨td, up.filter _, fun n => ?_, ?_⟩
          · rw [← ez]
            exact kp8 _ _ hD7 nDx
          · rw [List.mem_filter, mem, decide_eq_true_eq, List.mem_map]
            constructor
            · rintro ⟨⟨c', hc', rfl⟩, hcv⟩
              obtain ⟨h1, h2⟩ := List.mem_filter.mp hc'
              have h3 : c'.2 = 0 := of_decide_eq_true h2
              refine ⟨?_, fun h => ?_⟩
              · have : c' = (c'.1, 0) := by rw [← h3]
                rw [← this]
                exact h1
              · rw [(covB_iff _ _).mpr h] at hcv
                cases hcv
            · rintro ⟨h1, h2⟩
              exact ⟨⟨(n, 0), List.mem_filter.mpr ⟨h1, decide_eq_true rfl⟩, rfl⟩, by rw [covB_no h2]; rfl⟩
          · have h1 := List.length_filter_le (fun n => !covB ds n) ns
            omega
theorem m_NumbersT (T : Txt K mg) : Mak P w K mg base 3 "Numbers" (He.ga K "Numbers") (spNumT K (He.ga K "Numbers")) [] := by
  refine makN T.i_Numbers sc_Numbers___init__ (fun vs H Q E h => ?_) (fun dvs f fd hl F => binds_all F 2 rfl (fun _ _ _ _ _ _ _ us its h1 h2 => match us, its, h1, h2.trans hl with | [_, _], [_], _, _ => ⟨_, rfl, rfl⟩) (by intro e; rw [e] at hl; cases hl)) (walk_NumbersT T)
  obtain ⟨x, dx, p, cs, rfl, _⟩ := h
  rfl
end
section
variable {P : Program} {w : World} {K : PySem.W.Frag} {mg : Str → Option Value} {base : Heap}
/-- Numbers(): the default is kept at an empty tuple -/
def spNum0 (C d : Addr) : Sp := fun vs H Q _ => ∃ (x dx : Addr), vs = [.ref x, .ref d] ∧ H x = some (.ins C dx []) ∧
  ∀ (ds : List Cl) (ns : List Int) (H' : Hp), (∀ b o, H b = some o → b ≠ x → H' b = some o) → NumAt C H' x ds ns → Num [] ds ns → Q .non H'
theorem m_Numbers0 (T : Txt K mg) : ∃ d, Mak P w K mg base 3 "Numbers" (He.ga K "Numbers") (spNum0 (He.ga K "Numbers") d) [.ref d] := by
  obtain ⟨f, fd, d, M, hm, F, he⟩ := T.e_Numbers.ex
  obtain ⟨ds, r, b⟩ := F.binds1 (ps := ["self", "parts"]) 1 0 (List.cons_ne_nil _ _) rfl (fun _ _ _ _ _ _ _ us its h1 h2 => match us, its, h1, h2 with | [_], [_], _, _ => ⟨_, rfl, rfl⟩)
  refine ⟨d, f, fd, ["self", "parts"], ds, M, F.ok sc_Numbers___init__ (fun vs H Q E h => ?_) (fun cdv A outer s H vs Q E hr h => ?_), hm, b, r⟩
  · obtain ⟨x, dx, rfl, _⟩ := h
    rfl
  · obtain ⟨x, dx, rfl, hx, k⟩ := h
    obtain ⟨t, h1, h2⟩ := @walk_NumbersT P w K mg base T f cdv A outer s H _ Q E hr ⟨x, dx, d, [], rfl, hx, ⟨[], he H, .nil⟩, (fun c hc => by cases hc), by decide, k⟩
    exact ⟨t, h1.nox, h2⟩
end
end Tr

namespace Tr
open PySem L2
/-- steps of a reading that are plain -/
local macro_rules | `(tactic| walk_at "x") => `(tactic| (refine' ⟨_, _, _, _, rfl, rfl, ?k1, ?k2, ?_⟩; (case k1 => exact SqT.of (by assumption)); (case k2 => exact rfl)))
local macro_rules | `(tactic| walk_at "g") => `(tactic| repeat (first | (refine ⟨_, rfl, ?_⟩) | (refine ⟨_, _, rfl, rfl, ?_⟩) | (refine ⟨_, _, rfl, ?_⟩) | (refine ⟨rfl, ?_⟩) | walk_at "x"))


/-! ### in, bool, is_finite of a Numbers -/
theorem inV_int (n : Int) (ns : List Int) : inV (.int n) (ns.map V.int) = decide (n ∈ ns) := by
  unfold inV
  rw [List.any_map, Bool.eq_iff_iff, List.any_eq_true, decide_eq_true_eq]
  constructor
  · rintro ⟨m, hm, e⟩
    have : m = n := by simpa [eqV] using e
    rw [← this]
    exact hm
  · intro h
    exact ⟨n, h, by simp [eqV]⟩
theorem flat_ints (ns : List Int) : (ns.map V.int).all flatV = true := by
  rw [List.all_map]
  exact List.all_eq_true.mpr fun _ _ => rfl
/-- membership -/
def hasB (ds : List Cl) (ns : List Int) (n : Int) : Bool := decide (n ∈ ns) || covB ds n
def has (ds : List Cl) (ns : List Int) (n : Int) : Prop := n ∈ ns ∨ cov ds n
theorem hasB_iff (ds : List Cl) (ns : List Int) (n : Int) : hasB ds ns n = true ↔ has ds ns n := by
  unfold hasB has
  rw [Bool.or_eq_true, decide_eq_true_eq, covB_iff]
theorem hasB_no {ds : List Cl} {ns : List Int} {n : Int} (h : hasB ds ns n = false) : ¬ has ds ns n := fun k => by
  rw [(hasB_iff ds ns n).mpr k] at h
  cases h
/-- what a Numbers keeps of its parts -/
structure Ok (ds : List Cl) (ns : List Int) : Prop where
  wf : WfC ds
  l1 : ds.length < 64
  l2 : ns.length < 64
section
variable {P : Program} {w : World} {K : PySem.W.Frag} {mg : Str → Option Value} {base : Heap}
def spHas (K : PySem.W.Frag) (C : Addr) : Sp := fun vs H Q _ => ∃ (a : Addr) (x : V), vs = [.ref a, x] ∧ ((∃ (n : Int) (ds : List Cl) (ns : List Int), x = .int n ∧ NumAt C H a ds ns ∧ Ok ds ns ∧ ∀ H', Same H H' → Q (.bl (hasB ds ns n)) H') ∨ (IsW K H x false ∧ ∀ H', Same H H' → Q (.bl false) H'))
theorem c_has (T : Txt K mg) : Met P w K mg base 2 (He.ga K "Numbers") "__contains__" (spHas K (He.ga K "Numbers")) [] := by
  have c_is_whole := @c_is_whole P w K mg base T
  have c_is_covered := @c_is_covered P w K mg base T
  refine metN T.m_Numbers____contains__ sc_Numbers___contains__ (fun vs H Q E h => ?_) (fun _ _ _ _ _ _ us hl => match us, hl with | [_, _], _ => rfl) (fun f cdv A outer s H vs Q E hr h => ?_)
  · obtain ⟨a, x, rfl, _⟩ := h
    rfl
  · obtain ⟨a, x, rfl, h⟩ := h
    refine ⟨_, (pss_one (ps_ret (pe_and (pe_cx c_is_whole hr (by first | decide | omega) rfl passL (pa_cons (pv 1) pa_nil)) (pe_one (pe_or (pe_cmpR op_in_seq (pv 1) (pe_fldK K (pv 0) (by rfl)) (by rfl)) (pe_one (pe_cx c_is_covered hr (by first | decide | omega) rfl passL (pa_cons (pv 1) (pa_cons (pe_fldK K (pv 0) (by rfl)) pa_nil))))))))), ?_⟩
    rcases h with ⟨n, ds, ns, rfl, hN, ok, k⟩ | ⟨hw, k⟩
    · obtain ⟨dx, q1, q2, e1, e2, e3⟩ := hN.ex
      walk_at "g"
      refine ⟨_, _, rfl, isW_int n, true, rfl, ?_⟩
      walk_at "g"
      refine ⟨a, _, dx, _, _, rfl, e1, T.k_Numbers, T.a_Numbers__singles, rfl, ?_⟩
      refine ⟨q2, _, rfl, .inl (SqL.of e3), rfl, flat_ints ns, ?_⟩
      show ∃ c, V.bl (inV (.int n) (ns.map V.int)) = V.bl c ∧ _
      refine ⟨_, rfl, ?_⟩
      rw [inV_int]
      unfold hasB at k
      cases hb : decide (n ∈ ns) with
      | true =>
        rw [hb] at k
        exact k H (Same.refl _)
      | false =>
        rw [hb] at k
        walk_at "g"
        refine ⟨a, _, dx, _, _, rfl, e1, T.k_Numbers, T.a_Numbers__classes, rfl, ?_⟩
        refine ⟨n, q1, ds, rfl, e2, fun c hc => (ok.wf c hc).1, by have := ok.l1; omega, fun H' s' => k H' s'⟩
    · walk_at "g"
      exact ⟨_, _, rfl, hw, false, rfl, k _ (Same.refl _)⟩
end
end Tr

namespace Tr
open PySem L2
/-- steps of a reading that are plain -/
local macro_rules | `(tactic| walk_at "x") => `(tactic| (refine' ⟨_, _, _, _, rfl, rfl, ?k1, ?k2, ?_⟩; (case k1 => exact SqT.of (by assumption)); (case k2 => exact rfl)))
local macro_rules | `(tactic| walk_at "g") => `(tactic| repeat (first | (refine ⟨_, rfl, ?_⟩) | (refine ⟨_, _, rfl, rfl, ?_⟩) | (refine ⟨_, _, rfl, ?_⟩) | (refine ⟨rfl, ?_⟩) | walk_at "x"))


/-! ### outside, within, == -/
theorem lcm_eq {a b : Int} (ha : 0 < a) (hb : 0 < b) : a / Int.gcd a b * b = Int.lcm a b := by
  have h := Int.gcd_mul_lcm a b
  have g0 : 0 < Int.gcd a b := Int.gcd_pos_of_ne_zero_left _ (by omega)
  obtain ⟨a', ha'⟩ := Int.gcd_dvd_left a b
  have e : a / Int.gcd a b = a' := Int.ediv_eq_of_eq_mul_right (by omega) ha'
  rw [e]
  have na : (a.natAbs : Int) = a := by omega
  have nb : (b.natAbs : Int) = b := by omega
  have h2 : (Int.gcd a b : Int) * (Int.lcm a b : Int) = a * b := by
    rw [← Int.natCast_mul, h, Int.natCast_mul, na, nb]
  have h4 : (Int.gcd a b : Int) * (a' * b) = (Int.gcd a b : Int) * Int.lcm a b := by
    rw [h2, ← Int.mul_assoc, ← ha']
  exact Int.eq_of_mul_eq_mul_left (by omega) h4
theorem lcm_pos' {a b : Int} (ha : 0 < a) (hb : 0 < b) : 0 < (Int.lcm a b : Int) := by
  have h := Int.gcd_mul_lcm a b
  have : Int.lcm a b ≠ 0 := fun z => by
    rw [z, Nat.mul_zero] at h
    rcases Nat.mul_eq_zero.mp h.symm with h | h
    · omega
    · omega
  omega
theorem le_of_dvd' {a L : Int} (hL : 0 < L) (h : a ∣ L) : a ≤ L := Int.le_of_dvd hL h
theorem RefL.dvd {r m : Int} {cs ds : List Cl} (h : RefL r m cs ds) (hp : ∀ c ∈ cs, 0 < c.2) : ∀ d ∈ ds, ∃ c ∈ cs, d.2 ∣ c.2 := by
  induction h with
  | nil => intro d hd; cases hd
  | no _ _ ih =>
    intro d hd
    obtain ⟨c, hc, e⟩ := ih (fun c hc => hp c (List.mem_cons_of_mem _ hc)) d hd
    exact ⟨c, List.mem_cons_of_mem _ hc, e⟩
  | yes _ hr _ ih =>
    intro d hd
    rcases List.mem_cons.mp hd with rfl | hd
    · refine ⟨_, List.mem_cons_self, ?_⟩
      obtain ⟨m', k', e1, e2, e3, e4, e5, e6⟩ := ediv_gcd (m := m) (hp _ List.mem_cons_self)
      dsimp only at e2 e5 ⊢
      rw [e5]
      exact ⟨_, by rw [Int.mul_comm]; exact e2⟩
    · obtain ⟨c, hc, e⟩ := ih (fun c hc => hp c (List.mem_cons_of_mem _ hc)) d hd
      exact ⟨c, List.mem_cons_of_mem _ hc, e⟩
theorem Refd.dvd {r m : Int} {cs es : List Cl} (h : Refd r m cs es) (hp : ∀ c ∈ cs, 0 < c.2) : ∀ d ∈ es, ∃ c ∈ cs, d.2 ∣ c.2 := by
  obtain ⟨ds, h1, h2⟩ := h.ex
  intro e he
  obtain ⟨d, hd, e1, _⟩ := h2.from_ e he
  obtain ⟨c, hc, e⟩ := h1.dvd hp d hd
  exact ⟨c, hc, by rw [e1]; exact e⟩
/-- what outside tells -/
def OutR (ds : List Cl) (ns : List Int) (es : List Cl) (ms : List Int) : Option Int → Prop
  | none => ∀ n, has ds ns n → has es ms n
  | some n => has ds ns n ∧ ¬ has es ms n
def muOut (r m : Int) (ms : List Int) : St → Hp → Nat := fun σ _ => match σ[6]? with
  | some (some (V.int b)) => (ms.filter fun x => decide (r + m * b ≤ x)).length
  | _ => 0
theorem filter_less {α : Type} (p q : α → Bool) (l : List α) (hpq : ∀ x, p x = true → q x = true) (x : α) (hx : x ∈ l) (h1 : q x = true) (h2 : p x = false) : (l.filter p).length < (l.filter q).length := by
  induction l with
  | nil => cases hx
  | cons a l ih =>
    have hle : ∀ l : List α, (l.filter p).length ≤ (l.filter q).length := fun l => by
      induction l with
      | nil => exact Nat.le_refl _
      | cons b l ih =>
        rw [List.filter_cons, List.filter_cons]
        cases hb : p b with
        | true => rw [hpq b hb, if_pos rfl, if_pos rfl]; exact Nat.succ_le_succ ih
        | false =>
          rw [if_neg (by simp)]
          split
          · exact Nat.le_succ_of_le ih
          · exact ih
    rw [List.filter_cons, List.filter_cons]
    rcases List.mem_cons.mp hx with e | hx
    · rw [← e, h1, h2, if_neg (by simp), if_pos rfl]
      exact Nat.lt_succ_of_le (hle l)
    · cases hb : p a with
      | true => rw [hpq a hb, if_pos rfl, if_pos rfl]; exact Nat.succ_lt_succ (ih hx)
      | false =>
        rw [if_neg (by simp)]
        split
        · exact Nat.lt_succ_of_lt (ih hx)
        · exact ih hx
section
variable {P : Program} {w : World} {K : PySem.W.Frag} {mg : Str → Option Value} {base : Heap}
def spOut (C : Addr) : Sp := fun vs H Q _ => ∃ (a b : Addr) (ds : List Cl) (ns : List Int) (es : List Cl) (ms : List Int) (L : Int), vs = [.ref a, .ref b] ∧ NumAt C H a ds ns ∧ NumAt C H b es ms ∧ Ok ds ns ∧ Ok es ms ∧
  0 < L ∧ Bd 6000 L ∧ (∀ e ∈ es, e.2 ∣ L) ∧ ∀ o H', Same H H' → OutR ds ns es ms o → Q (oV o) H'
theorem c_outside (T : Txt K mg) : Met P w K mg base 70 (He.ga K "Numbers") "outside" (spOut (He.ga K "Numbers")) [] := by
  have c___contains__ := @c_has P w K mg base T
  have c_refined := @c_refined P w K mg base T
  have c_bare_number := @c_bare_number P w K mg base T 65
  have c_common_multiple := @c_common_multiple P w K mg base T
  refine metN T.m_Numbers__outside sc_Numbers_outside (fun vs H Q E h => ?_) (fun _ _ _ _ _ _ us hl => match us, hl with | [_, _], _ => rfl) (fun f cdv A outer s H vs Q E hr h => ?_)
  · obtain ⟨a, b, _, _, _, _, _, rfl, _⟩ := h
    rfl
  · obtain ⟨a, b, ds, ns, es, ms, L, rfl, hA, hB, okA, okB, L0, LB, hL, k⟩ := h
    obtain ⟨dxa, qa1, qa2, a1, ⟨tsa, a2, pa⟩, a3⟩ := hA.ex
    obtain ⟨dxb, qb1, qb2, b1, b2, b3⟩ := id hB.ex
    refine ⟨_, (pss_cons (ps_for PassesOwn.never rfl (pi_list (pe_fldK K (pv 0) (by rfl))) (pg_name (i := 2) sc_Numbers_outside.nd rfl (Or.inl rfl)) (pss_one (ps_if (pt_cmpR (or_notInO c___contains__ hr (by first | decide | omega) passL) (pv 2) (pv 1) (by rfl)) (pss_one (ps_ret (pv 2))) pss_nil)))
      (pss_cons (ps_for PassesOwn.never rfl (pi_list (pe_fldK K (pv 0) (by rfl))) (pg_tup rfl (pgs_cons (pg_name (i := 3) sc_Numbers_outside.nd rfl (Or.inl rfl)) (pgs_cons (pg_name (i := 4) sc_Numbers_outside.nd rfl (Or.inl rfl)) pgs_nil))) (pss_cons (ps_set (i := 5) sc_Numbers_outside.nd rfl (Or.inl rfl) (pe_cx c_refined hr (by first | decide | omega) rfl passL (pa_cons (pe_fldK K (pv 1) (by rfl)) (pa_cons (pv 3) (pa_cons (pv 4) pa_nil)))))
      (pss_cons (ps_set (i := 6) sc_Numbers_outside.nd rfl (Or.inl rfl) (pe_cx c_bare_number hr (by first | decide | omega) rfl passL (pa_cons (pv 5) pa_nil)))
      (pss_one (ps_if (pt_cmpR op_notN (pv 6) pe_non (nomark _)) (pss_cons (ps_set (i := 7) sc_Numbers_outside.nd rfl (Or.inl rfl) pe_int)
      (pss_cons (ps_for PassesOwn.never rfl (pi_list (pv 5)) (pg_tup rfl (pgs_cons (pg_name (i := 8) sc_Numbers_outside.nd rfl (Or.inl rfl)) (pgs_cons (pg_name (i := 9) sc_Numbers_outside.nd rfl (Or.inl rfl)) pgs_nil))) (pss_one (ps_set (i := 7) sc_Numbers_outside.nd rfl (Or.inl rfl) (pe_cx c_common_multiple hr (by first | decide | omega) rfl passL (pa_cons (pv 7) (pa_cons (pv 9) pa_nil))))))
      (pss_cons (ps_while PassesOwn.never (pt_cmpR op_in_seq (pe_op op_add (pv 3) (pe_op op_mulW (pv 4) (pv 6))) (pe_fldK K (pv 1) (by rfl)) (by rfl)) (pss_one (ps_set (i := 6) sc_Numbers_outside.nd rfl (Or.inl rfl) (pe_op op_add (pv 6) (pv 7)))))
      (pss_one (ps_ret (pe_op op_add (pv 3) (pe_op op_mulW (pv 4) (pv 6)))))))) pss_nil)))))
      (pss_one (ps_ret pe_non)))), ?_⟩
    have hla := pa.len
    walk_at "g"
    refine ⟨a, _, dxa, _, _, rfl, a1, T.k_Numbers, T.a_Numbers__singles, rfl, ?_⟩
    refine ⟨qa2, rfl, ⟨_, SqL.of a3⟩, ?_⟩
    refine for_list (xs := ns.map V.int) (fun i σ H' => ∃ v : Option V, σ = [some (.ref a), some (.ref b), v, none, none, none, none, none, none, none] ∧ Same H H' ∧ ∀ n ∈ ns.take i, has es ms n) ⟨_, rfl, Same.refl H, fun n hn => by cases hn⟩ ?_ ?_ ?_
    · rintro i σ H' _ ⟨v, rfl, s1, _⟩
      exact SqL.of (s1 _ _ a3)
    · rintro i y σ H' hy ⟨v, rfl, s1, hh⟩
      rw [List.getElem?_map] at hy
      cases hn : ns[i]? with
      | none => rw [hn] at hy; cases hy
      | some n =>
        rw [hn] at hy
        cases hy
        walk_at "g"
        refine ⟨b, dxb, _, rfl, s1 _ _ b1, b, _, rfl, .inl ⟨n, es, ms, rfl, hB.same s1, okB, fun H2 s2 => ⟨_, rfl, ?_⟩⟩⟩
        refine ⟨_, rfl, ?_⟩
        cases hb : hasB es ms n with
        | true =>
          refine iteF ?_
          refine ⟨_, rfl, s1.trans s2, fun n' hn' => ?_⟩
          rw [take_snoc hn] at hn'
          rcases List.mem_append.mp hn' with hn' | hn'
          · exact hh n' hn'
          · rw [List.mem_singleton.mp hn']
            exact (hasB_iff _ _ _).mp hb
        | false =>
          refine iteT ?_
          walk_at "g"
          exact k (some n) H2 (s1.trans s2) ⟨.inl (mem_of_at hn), hasB_no hb⟩
    · rintro σ H1 ⟨v, rfl, s1, hh⟩
      rw [List.length_map, List.take_length] at hh
      walk_at "g"
      refine ⟨a, _, dxa, _, _, rfl, s1 _ _ a1, T.k_Numbers, T.a_Numbers__classes, rfl, ?_⟩
      refine ⟨qa1, rfl, ⟨_, SqL.of (s1 _ _ a2)⟩, ?_⟩
      refine for_pairs (ts := tsa) (cs := ds) (fun i σ H' => ∃ v0 v1 v2 v3 v4 v5 v6 v7 : Option V, σ = [some (.ref a), some (.ref b), v0, v1, v2, v3, v4, v5, v6, v7] ∧ Same H H' ∧ ∀ c ∈ ds.take i, ∀ x : Int, has es ms (c.1 + c.2 * x)) ⟨_, _, _, _, _, _, _, _, rfl, s1, fun c hc => by cases hc⟩ ?_ ?_ ?_
      · rintro i σ H' _ ⟨v0, v1, v2, v3, v4, v5, v6, v7, rfl, s2, _⟩
        exact ⟨SqL.of (s2 _ _ a2), pa.same s2⟩
      · rintro i c σ H' hci ⟨v0, v1, v2, v3, v4, v5, v6, v7, rfl, s2, hh2⟩
        have hcm := mem_of_at hci
        obtain ⟨m0, mB, r0, rB⟩ := okA.wf c hcm
        walk_at "g"
        refine ⟨b, _, dxb, _, _, rfl, s2 _ _ b1, T.k_Numbers, T.a_Numbers__classes, rfl, ?_⟩
        walk_at "g"
        refine ⟨qb1, es, c.1, c.2, rfl, b2.same s2, m0, mB, rB, fun d hd => ⟨(okB.wf d hd).1, (okB.wf d hd).2.1, (okB.wf d hd).2.2.2⟩, okB.l1, fun p' fs H3 s3 np' hfs rd => ?_⟩
        have fwf := rd.wf fun d hd => ⟨(okB.wf d hd).1, (okB.wf d hd).2.1⟩
        have flen := rd.len
        have fdvd : ∀ d ∈ fs, d.2 ∣ L := fun d hd => by
          obtain ⟨e, he, z⟩ := rd.dvd (fun d hd => (okB.wf d hd).1) d hd
          exact Int.dvd_trans z (hL e he)
        walk_at "g"
        refine ⟨p', fs, rfl, hfs, fwf, Nat.lt_of_le_of_lt flen okB.l1, .inl (by have := okB.l1; omega), fun o H4 s4 hb hob => ?_⟩
        have s04 : Same H H4 := (s2.trans s3).trans s4
        walk_at "g"
        rw [oV_none]
        cases o with
        | none =>
          refine iteF ?_
          refine ⟨_, _, _, _, _, _, _, _, rfl, s04, fun c' hc' x => ?_⟩
          rw [take_snoc hci] at hc'
          rcases List.mem_append.mp hc' with hc' | hc'
          · exact hh2 c' hc' x
          · rw [List.mem_singleton.mp hc']
            exact .inr ((rd.cov x).mp (hb x))
        | some b0 =>
          refine iteT ?_
          obtain ⟨b00, b01⟩ := hb
          have b0B : Bd 400 b0 := by
            have h1 : b0 < ((2 ^ (6 * 65) : Nat) : Int) := hob
            have h2 : 2 ^ (6 * 65) ≤ 2 ^ 400 := Nat.pow_le_pow_right (by decide) (by decide)
            show b0.natAbs < 2 ^ 400
            generalize 2 ^ (6 * 65) = z at h1 h2
            generalize 2 ^ 400 = y at h2 ⊢
            omega
          walk_at "g"
          obtain ⟨tsf, f1, pf⟩ := hfs
          refine ⟨⟨_, SqL.of (s4 _ _ f1)⟩, ?_⟩
          refine for_pairs (ts := tsf) (cs := fs) (fun j σ H' => ∃ (g : Int) (v6 v7 : Option V), σ = [some (.ref a), some (.ref b), v0, some (.int c.1), some (.int c.2), some (.ref p'), some (.int b0), some (.int g), v6, v7] ∧ Same H4 H' ∧ 0 < g ∧ g ∣ L ∧ ∀ d ∈ fs.take j, d.2 ∣ g) ⟨1, _, _, rfl, Same.refl _, by omega, Int.one_dvd _, fun d hd => by cases hd⟩ ?_ ?_ ?_
          · rintro j σ H' _ ⟨g, v6, v7, rfl, s5, _⟩
            exact ⟨SqL.of (s5 _ _ (s4 _ _ f1)), (pf.same s4).same s5⟩
          · rintro j d σ H' hdj ⟨g, v6, v7, rfl, s5, g0, gL, hg⟩
            have hdm := mem_of_at hdj
            have dp := (fwf d hdm).1
            have gB : Bd 6000 g := LB.le (by have := le_of_dvd' L0 gL; omega)
            walk_at "g"
            refine ⟨dp, gB.mono (by decide), (fwf d hdm).2.1, ?_⟩
            walk_at "g"
            rw [lcm_eq g0 dp]
            refine ⟨_, _, _, rfl, s5, lcm_pos' g0 dp, Int.coe_lcm_dvd gL (fdvd d hdm), fun d' hd' => ?_⟩
            rw [take_snoc hdj] at hd'
            rcases List.mem_append.mp hd' with hd' | hd'
            · exact Int.dvd_trans (hg d' hd') (Int.dvd_lcm_left _ _)
            · rw [List.mem_singleton.mp hd']
              exact Int.dvd_lcm_right _ _
          · rintro σ H5 ⟨g, v6, v7, rfl, s5, g0, gL, hg⟩
            rw [List.take_length] at hg
            have gB : Bd 6000 g := LB.le (by have := le_of_dvd' L0 gL; omega)
            have s05 := s04.trans s5
            walk_at "g"
            have notcov : ∀ j : Nat, ¬ cov es (c.1 + c.2 * (b0 + (j : Int) * g)) := fun j hcv => by
              obtain ⟨d, hd, z⟩ := (rd.cov _).mpr hcv
              refine b01 ⟨d, hd, ?_⟩
              have h1 : d.2 ∣ (j : Int) * g := Int.dvd_trans (hg d hd) (Int.dvd_mul_left _ _)
              have h2 : b0 - d.1 = b0 + (j : Int) * g - d.1 - (j : Int) * g := by omega
              rw [h2]
              exact Int.dvd_sub z h1
            have bbB : ∀ (j : Nat), j ≤ 64 → Bd 6500 (b0 + (j : Int) * g) := fun j hj => by
              have h1 : Bd (7 + 6000) ((j : Int) * g) := Bd.mul (n := 7) (by show (j : Int).natAbs < 2 ^ 7; omega) gB
              exact (b0B.mono (m := 6007) (by decide)).add h1 (by decide)
            refine wh (fun σ H' => ∃ (j : Nat) (bb : Int), bb = b0 + (j : Int) * g ∧ σ = [some (.ref a), some (.ref b), v0, some (.int c.1), some (.int c.2), some (.ref p'), some (.int bb), some (.int g), v6, v7] ∧ Same H5 H' ∧
              j + (ms.filter fun x => decide (c.1 + c.2 * bb ≤ x)).length ≤ ms.length) (muOut c.1 c.2 ms) ⟨0, b0, by simp, rfl, Same.refl _, by simpa using List.length_filter_le _ _⟩ ?_ ?_
            · rintro σ H6 ⟨j, bb, hbb, rfl, s6, hj⟩
              have j64 : j ≤ 64 := by have := okB.l2; omega
              have hbB : Bd 6500 bb := by rw [hbb]; exact bbB j j64
              have s06 := s05.trans s6
              walk_at "g"
              refine ⟨cmulw mB hbB (by omega), ?_⟩
              walk_at "g"
              refine ⟨b, _, dxb, _, _, rfl, s06 _ _ b1, T.k_Numbers, T.a_Numbers__singles, rfl, ?_⟩
              refine ⟨qb2, _, rfl, .inl (SqL.of (s06 _ _ b3)), rfl, flat_ints ms, ?_⟩
              refine ⟨inV (.int (c.1 + c.2 * bb)) (ms.map V.int), rfl, ?_⟩
              rw [inV_int]
              refine iteB (fun c1 => ?_) (fun c1 => ?_)
              · have hin : c.1 + c.2 * bb ∈ ms := of_decide_eq_true c1
                have up : c.1 + c.2 * bb < c.1 + c.2 * (bb + g) := by
                  have := Int.mul_pos m0 g0
                  rw [Int.mul_add]
                  omega
                have less : (ms.filter fun x => decide (c.1 + c.2 * (bb + g) ≤ x)).length < (ms.filter fun x => decide (c.1 + c.2 * bb ≤ x)).length :=
                  filter_less _ _ ms (fun x hx => decide_eq_true (by have := of_decide_eq_true hx; omega)) _ hin (decide_eq_true (Int.le_refl _)) (decide_eq_false (by omega))
                refine ⟨fun σ' H7 => σ' = [some (.ref a), some (.ref b), v0, some (.int c.1), some (.int c.2), some (.ref p'), some (.int (bb + g)), some (.int g), v6, v7] ∧ H7 = H6, ?_, ?_⟩
                · rintro σ' H7 ⟨rfl, rfl⟩
                  refine ⟨⟨j + 1, bb + g, ?_, rfl, s6, by omega⟩, less⟩
                  rw [hbb, Int.natCast_add, Int.add_mul]
                  simp only [Int.natCast_one, Int.one_mul]
                  omega
                · walk_at "g"
                  exact rfl
              · have hin : ¬ c.1 + c.2 * bb ∈ ms := of_decide_eq_false c1
                walk_at "g"
                refine ⟨cmulw mB hbB (by omega), ?_⟩
                walk_at "g"
                refine k (some (c.1 + c.2 * bb)) H6 s06 ⟨.inr ⟨c, hcm, bb, by omega⟩, ?_⟩
                rintro (h | h)
                · exact hin h
                · rw [hbb] at h
                  exact notcov j h
            · rintro σ H' Q1 Q2 hq h
              repeat (first | exact hq _ _ h | (obtain ⟨w1, h⟩ := h; refine ⟨w1, ?_⟩))
      · rintro σ H' ⟨v0, v1, v2, v3, v4, v5, v6, v7, rfl, s2, hh2⟩
        rw [List.take_length] at hh2
        walk_at "g"
        refine k none H' s2 fun n hn => ?_
        rcases hn with hn | ⟨c, hc, z, hz⟩
        · exact hh n hn
        · have := hh2 c hc z
          have e : c.1 + c.2 * z = n := by omega
          rw [e] at this
          exact this
def spWithin (C : Addr) : Sp := fun vs H Q _ => ∃ (a b : Addr) (ds : List Cl) (ns : List Int) (es : List Cl) (ms : List Int) (L : Int), vs = [.ref a, .ref b] ∧ NumAt C H a ds ns ∧ NumAt C H b es ms ∧ Ok ds ns ∧ Ok es ms ∧
  0 < L ∧ Bd 6000 L ∧ (∀ e ∈ es, e.2 ∣ L) ∧ ∀ (r : Bool) H', Same H H' → (r = true ↔ ∀ n, has ds ns n → has es ms n) → Q (.bl r) H'
theorem OutR.is {ds es : List Cl} {ns ms : List Int} {o : Option Int} (h : OutR ds ns es ms o) : (o.isNone = true ↔ ∀ n, has ds ns n → has es ms n) := by
  cases o with
  | none => exact ⟨fun _ => h, fun _ => rfl⟩
  | some n => exact ⟨fun z => (by cases z), fun z => (h.2 (z n h.1)).elim⟩
theorem c_within (T : Txt K mg) : Met P w K mg base 71 (He.ga K "Numbers") "within" (spWithin (He.ga K "Numbers")) [] := by
  have c_outside := @c_outside P w K mg base T
  refine metN T.m_Numbers__within sc_Numbers_within (fun vs H Q E h => ?_) (fun _ _ _ _ _ _ us hl => match us, hl with | [_, _], _ => rfl) (fun f cdv A outer s H vs Q E hr h => ?_)
  · obtain ⟨a, b, _, _, _, _, _, rfl, _⟩ := h
    rfl
  · obtain ⟨a, b, ds, ns, es, ms, L, rfl, hA, hB, okA, okB, L0, LB, hL, k⟩ := h
    obtain ⟨dxa, qa1, qa2, a1, _⟩ := id hA.ex
    refine ⟨_, (pss_one (ps_ret (pe_cmpR op_isN (pe_mtx c_outside hr (by first | decide | omega) passL (pv 0) (pa_cons (pv 1) pa_nil)) pe_non (nomark _)))), ?_⟩
    walk_at "g"
    refine ⟨a, dxa, _, rfl, a1, rfl, ?_⟩
    walk_at "g"
    refine ⟨a, b, ds, ns, es, ms, L, rfl, hA, hB, okA, okB, L0, LB, hL, fun o H' s' hr => ?_⟩
    walk_at "g"
    rw [oV_none]
    exact k _ H' s' hr.is
def spEqN (C : Addr) : Sp := fun vs H Q _ => ∃ (a b : Addr) (ds : List Cl) (ns : List Int) (es : List Cl) (ms : List Int) (L : Int), vs = [.ref a, .ref b] ∧ NumAt C H a ds ns ∧ NumAt C H b es ms ∧ Ok ds ns ∧ Ok es ms ∧
  0 < L ∧ Bd 6000 L ∧ (∀ e ∈ ds, e.2 ∣ L) ∧ (∀ e ∈ es, e.2 ∣ L) ∧ ∀ (r : Bool) H', Same H H' → (r = true ↔ ∀ n, has ds ns n ↔ has es ms n) → Q (.bl r) H'
theorem c_eq (T : Txt K mg) : Met P w K mg base 71 (He.ga K "Numbers") "__eq__" (spEqN (He.ga K "Numbers")) [] := by
  have c_outside := @c_outside P w K mg base T
  refine metN T.m_Numbers____eq__ sc_Numbers___eq__ (fun vs H Q E h => ?_) (fun _ _ _ _ _ _ us hl => match us, hl with | [_, _], _ => rfl) (fun f cdv A outer s H vs Q E hr h => ?_)
  · obtain ⟨a, b, _, _, _, _, _, rfl, _⟩ := h
    rfl
  · obtain ⟨a, b, ds, ns, es, ms, L, rfl, hA, hB, okA, okB, L0, LB, hLd, hLe, k⟩ := h
    obtain ⟨dxa, qa1, qa2, a1, _⟩ := id hA.ex
    obtain ⟨dxb, qb1, qb2, b1, _⟩ := id hB.ex
    refine ⟨_, (pss_one (ps_ret (pe_and (pe_callB call_isi (by rfl) T.b_isinstance (by decide +kernel) (pa_cons (pv 1) (pa_cons (pe_glob (v := .ref (He.ga K "Numbers")) (by rfl) T.v_Numbers rfl) pa_nil))) (pe_and (pe_cmpR op_isN (pe_mtx c_outside hr (by first | decide | omega) passL (pv 0) (pa_cons (pv 1) pa_nil)) pe_non (nomark _)) (pe_one (pe_cmpR op_isN (pe_mtx c_outside hr (by first | decide | omega) passL (pv 1) (pa_cons (pv 0) pa_nil)) pe_non (nomark _))))))), ?_⟩
    walk_at "g"
    refine ⟨.ref b, .ref (He.ga K "Numbers"), _, _, true, rfl, .own _, T.o_Numbers.ty T.k_Numbers b1, kit_self, true, rfl, ?_⟩
    walk_at "g"
    refine ⟨a, dxa, _, rfl, a1, rfl, ?_⟩
    walk_at "g"
    refine ⟨a, b, ds, ns, es, ms, L, rfl, hA, hB, okA, okB, L0, LB, hLe, fun o H1 s1 h1 => ?_⟩
    walk_at "g"
    rw [oV_none]
    have i1 := h1.is
    cases hb : o.isNone with
    | false =>
      refine k false H1 s1 ⟨fun z => (by cases z), fun z => ?_⟩
      rw [hb] at i1
      exact i1.mpr fun n hn => (z n).mp hn
    | true =>
      rw [hb] at i1
      walk_at "g"
      refine ⟨b, dxb, _, rfl, s1 _ _ b1, rfl, ?_⟩
      walk_at "g"
      refine ⟨b, a, es, ms, ds, ns, L, rfl, hB.same s1, hA.same s1, okB, okA, L0, LB, hLd, fun o2 H2 s2 h2 => ?_⟩
      walk_at "g"
      rw [oV_none]
      refine k _ H2 (s1.trans s2) ⟨fun z n => ⟨i1.mp rfl n, h2.is.mp z n⟩, fun z => h2.is.mpr fun n hn => (z n).mpr hn⟩
end
end Tr

namespace Tr
open PySem L2
/-- steps of a reading that are plain -/
local macro_rules | `(tactic| walk_at "x") => `(tactic| (refine' ⟨_, _, _, _, rfl, rfl, ?k1, ?k2, ?_⟩; (case k1 => exact SqT.of (by assumption)); (case k2 => exact rfl)))
local macro_rules | `(tactic| walk_at "g") => `(tactic| repeat (first | (refine ⟨_, rfl, ?_⟩) | (refine ⟨_, _, rfl, rfl, ?_⟩) | (refine ⟨_, _, rfl, ?_⟩) | (refine ⟨rfl, ?_⟩) | walk_at "x"))


/-! ### the law's bag -/
def bagK (q : Addr) (a : Nat) (d c f : Int) : List (Key × V) := [(.inr "cells", .ref q), (.inr "at", .int a), (.inr "digits", .int d), (.inr "count", .int c), (.inr "fold", .int f)]
/-- a bag at p, at most N numbers drawn -/
structure Bag (H : Hp) (p q : Addr) (N : Nat) : Prop where
  ex : ∃ (ns : List Int) (a : Nat) (d c f : Int), H p = some (.dK (bagK q a d c f)) ∧ H q = some (.lst (ns.map V.int)) ∧ 0 ≤ d ∧ 0 ≤ c ∧ c ≤ N ∧ 0 ≤ f ∧ f < 2147483587
section
variable {q : Addr} {a a' : Nat} {d c f x : Int} {H : Hp} {p : Addr}
theorem bg_cells (h : H p = some (.dK (bagK q a d c f))) : DGet H p (.str "cells") (some (.ref q)) := DGet.k (k := Sum.inr "cells") h
theorem bg_at (h : H p = some (.dK (bagK q a d c f))) : DGet H p (.str "at") (some (.int a)) := DGet.k (k := Sum.inr "at") h
theorem bg_digits (h : H p = some (.dK (bagK q a d c f))) : DGet H p (.str "digits") (some (.int d)) := DGet.k (k := Sum.inr "digits") h
theorem bg_count (h : H p = some (.dK (bagK q a d c f))) : DGet H p (.str "count") (some (.int c)) := DGet.k (k := Sum.inr "count") h
theorem bg_fold (h : H p = some (.dK (bagK q a d c f))) : DGet H p (.str "fold") (some (.int f)) := DGet.k (k := Sum.inr "fold") h
theorem bp_at (h : H p = some (.dK (bagK q a d c f))) : DPut H p (.str "at") (.int ((a : Int) + 1)) (upd H p (.dK (bagK q (a + 1) d c f))) := DPut.k (k := Sum.inr "at") h (by show 5 < sizeLine; decide)
theorem bp_digits (h : H p = some (.dK (bagK q a d c f))) : DPut H p (.str "digits") (.int x) (upd H p (.dK (bagK q a x c f))) := DPut.k (k := Sum.inr "digits") h (by show 5 < sizeLine; decide)
theorem bp_count (h : H p = some (.dK (bagK q a d c f))) : DPut H p (.str "count") (.int x) (upd H p (.dK (bagK q a d x f))) := DPut.k (k := Sum.inr "count") h (by show 5 < sizeLine; decide)
theorem bp_fold (h : H p = some (.dK (bagK q a d c f))) : DPut H p (.str "fold") (.int x) (upd H p (.dK (bagK q a d c x))) := DPut.k (k := Sum.inr "fold") h (by show 5 < sizeLine; decide)
theorem bag_new : mergeK [] (bagK q a d c f) = bagK q a d c f := rfl
end
section
variable {P : Program} {w : World} {K : PySem.W.Frag} {mg : Str → Option Value} {base : Heap}
def spBag (K : PySem.W.Frag) : Sp := fun vs H Q _ => ∃ (a : Addr) (ns : List Int), vs = [.ref a] ∧ SqL K H a (ns.map V.int) ∧ ∀ p q H', Same H H' → H p = none → Bag H' p q 0 → Q (.ref p) H'
theorem c__law_bag (T : Txt K mg) : Cal P w K mg base 1 "_law_bag" (spBag K) [] := by
  refine calN T.d__law_bag sc__law_bag (fun vs H Q E h => ?_) (fun _ _ _ _ _ _ us hl => match us, hl with | [_], _ => rfl) (fun f cdv A outer s H vs Q E hr h => ?_)
  · obtain ⟨a, ns, rfl, _⟩ := h
    rfl
  · obtain ⟨a, ns, rfl, hS, k⟩ := h
    refine ⟨_, (pss_cons (ps_set (i := 1) sc__law_bag.nd rfl (Or.inl rfl) pe_int)
      (pss_cons (ps_for PassesOwn.never rfl (pi_list (pv 0)) (pg_name (i := 2) sc__law_bag.nd rfl (Or.inl rfl)) (pss_one (ps_set (i := 1) sc__law_bag.nd rfl (Or.inl rfl) (pe_op op_mod (pe_callTy call_int1 (by rfl) T.b_int (by decide +kernel) (pa_cons (pe_op op_add (pe_op op_mul (pv 1) pe_int) (pv 2)) pa_nil)) pe_int))))
      (pss_one (ps_ret (pe_disp (pps_cons pe_str (pe_callTy call_list_of (by rfl) T.b_list (by decide +kernel) (pa_cons (pv 0) pa_nil)) (pps_cons pe_str pe_int (pps_cons pe_str pe_int (pps_cons pe_str pe_int (pps_cons pe_str (pv 1) pps_nil))))) rfl rfl (List.cons_ne_nil _ _) (by decide)))))), ?_⟩
    walk_at "g"
    refine ⟨⟨_, hS⟩, ?_⟩
    refine for_list (xs := ns.map V.int) (fun i σ H' => ∃ (f : Int) (v : Option V), σ = [some (.ref a), some (.int f), v] ∧ H' = H ∧ 0 ≤ f ∧ f < 1000000009) ⟨0, _, rfl, rfl, by omega, by omega⟩ ?_ ?_ ?_
    · rintro i σ H' _ ⟨f, v, rfl, rfl, _⟩
      exact hS
    · rintro i y σ H' hy ⟨f, v, rfl, rfl, f0, f1⟩
      rw [List.getElem?_map] at hy
      cases hn : ns[i]? with
      | none => rw [hn] at hy; cases hy
      | some n =>
        rw [hn] at hy
        cases hy
        walk_at "g"
        refine ⟨.inr ⟨by decide, by decide⟩, ?_⟩
        walk_at "g"
        refine .inl ⟨_, rfl, ?_⟩
        walk_at "g"
        refine ⟨by show (0 : Int) < 1000000009; decide, ?_⟩
        exact ⟨_, _, rfl, rfl, Int.emod_nonneg _ (by decide), Int.emod_lt_of_pos _ (by decide)⟩
    · rintro σ H' ⟨f, v, rfl, rfl, f0, f1⟩
      walk_at "g"
      intro p np
      walk_at "g"
      refine ⟨a, _, rfl, .inl ((same_upd np).seq hS), fun l nl => ?_⟩
      have npl : p ≠ l := ne_of_none (upd_same : upd H' p (.dK []) p = _) nl
      walk_at "g"
      refine ⟨by rw [upd_ne npl]; exact upd_same, bagK l 0 0 0 f, rfl, by show 5 ≤ 15; decide, ?_⟩
      refine k p l _ (((same_upd np).upd' nl).wr np) np ⟨ns, 0, 0, 0, f, upd_same, ?_, by omega, by omega, by omega, f0, by omega⟩
      rw [upd_ne npl.symm]
      exact upd_same
def spDraw : Sp := fun vs H Q _ => ∃ (p q : Addr) (lim : Int) (N : Nat), vs = [.ref p, .int lim] ∧ Bag H p q N ∧ N < 1000000 ∧ 0 < lim ∧ Bd 8000 lim ∧ ∀ v H', Kp p H H' → Bag H' p q (N + 1) → 0 ≤ v → v < lim → Q (.int v) H'
theorem c__law_draw (T : Txt K mg) : Cal P w K mg base 1 "_law_draw" spDraw [] := by
  refine calN T.d__law_draw sc__law_draw (fun vs H Q E h => ?_) (fun _ _ _ _ _ _ us hl => match us, hl with | [_, _], _ => rfl) (fun f cdv A outer s H vs Q E hr h => ?_)
  · obtain ⟨p, q, lim, N, rfl, _⟩ := h
    rfl
  · obtain ⟨p, q, lim, N, rfl, ⟨ns, a, d, c, fo, hp, hq, d0, c0, c1, f0, f1⟩, hN, l0, lB, k⟩ := h
    refine ⟨_, (pss_cons (ps_dput (hu_of hr) (pv 0) pe_str (pe_op op_add (pe_dget (hu_of hr) (pv 0) pe_str (fun _ _ => rfl)) pe_int) rfl)
      (C8.pss_cut (ps_if (PW.pt (pw_and (pt_cmpR op_eq (pe_dget (hu_of hr) (pv 0) pe_str (fun _ _ => rfl)) pe_int (nomark _)) (pw_and1 (pt_cmpR op_lt (pe_dget (hu_of hr) (pv 0) pe_str (fun _ _ => rfl)) (pe_callB call_len (by rfl) T.b_len (by decide +kernel) (pa_cons (pe_dget (hu_of hr) (pv 0) pe_str (fun _ _ => rfl)) pa_nil)) (nomark _))))) (pss_cons (ps_set (i := 2) sc__law_draw.nd rfl (Or.inl rfl) (pe_ix ix_list (pe_dget (hu_of hr) (pv 0) pe_str (fun _ _ => rfl)) (pe_dget (hu_of hr) (pv 0) pe_str (fun _ _ => rfl)) (fun _ _ => rfl)))
      (pss_cons (ps_dput (hu_of hr) (pv 0) pe_str (pe_op op_add (pe_dget (hu_of hr) (pv 0) pe_str (fun _ _ => rfl)) pe_int) rfl)
      (pss_one (ps_if (pt_cmpR op_ge (pv 2) (pe_op op_pow pe_int pe_int) (nomark _)) (pss_one (ps_dput (hu_of hr) (pv 0) pe_str (pe_op op_sub (pv 2) (pe_op op_pow pe_int pe_int)) rfl)) (pss_one (ps_dput (hu_of hr) (pv 0) pe_str (pe_op op_mod (pe_callTy call_int1 (by rfl) T.b_int (by decide +kernel) (pa_cons (pe_op op_add (pe_op op_mul (pe_dget (hu_of hr) (pv 0) pe_str (fun _ _ => rfl)) pe_int) (pv 2)) pa_nil)) pe_int) rfl)))))) pss_nil)
      (pss_cons (ps_if (pt_cmpR op_gt (pe_dget (hu_of hr) (pv 0) pe_str (fun _ _ => rfl)) pe_int (nomark _)) (pss_cons (ps_set (i := 3) sc__law_draw.nd rfl (Or.inl rfl) (pe_op op_mod (pe_callTy call_int1 (by rfl) T.b_int (by decide +kernel) (pa_cons (pe_dget (hu_of hr) (pv 0) pe_str (fun _ _ => rfl)) pa_nil)) (pv 1)))
      (pss_cons (ps_dput (hu_of hr) (pv 0) pe_str (pe_op op_fdivW (pe_dget (hu_of hr) (pv 0) pe_str (fun _ _ => rfl)) (pv 1)) rfl)
      (pss_one (ps_ret (pv 3))))) pss_nil)
      (pss_cons (ps_set (i := 4) sc__law_draw.nd rfl (Or.inl rfl) (pe_op op_add (pe_op op_add (pe_dget (hu_of hr) (pv 0) pe_str (fun _ _ => rfl)) (pe_op op_mul (pe_dget (hu_of hr) (pv 0) pe_str (fun _ _ => rfl)) pe_int)) pe_int))
      (pss_one (ps_ret (pe_op op_mod (pe_op op_fdivW (pe_callTy call_int1 (by rfl) T.b_int (by decide +kernel) (pa_cons (pe_op op_mod (pe_op op_pow (pv 4) pe_int) pe_int) pa_nil)) pe_int) (pv 1)))))))), ?_⟩
    have nqp : q ≠ p := ne_of hq hp (by intro z; cases z)
    walk_at "g"
    refine ⟨p, _, rfl, bg_count hp, ?_⟩
    walk_at "g"
    refine ⟨p, _, rfl, bp_count hp, ?_⟩
    obtain ⟨H1, e1⟩ : ∃ H1, H1 = upd H p (.dK (bagK q a d (c + 1) fo)) := ⟨_, rfl⟩
    rw [← e1]
    have kp1 : Kp p H H1 := by rw [e1]; exact kp_upd p H _
    have hp1 : H1 p = some (.dK (bagK q a d (c + 1) fo)) := by rw [e1]; exact upd_same
    have hq1 : H1 q = some (.lst (ns.map V.int)) := kp1 _ _ hq nqp
    refine ⟨fun σ' H2 => ∃ (v : Option V) (a2 : Nat) (d2 f2 : Int), σ' = [some (.ref p), some (.int lim), v, none, none] ∧ Kp p H H2 ∧ H2 p = some (.dK (bagK q a2 d2 (c + 1) f2)) ∧ H2 q = some (.lst (ns.map V.int)) ∧ 0 ≤ d2 ∧ 0 ≤ f2 ∧ f2 < 2147483587, ?_, ?_⟩
    · walk_at "g"
      refine ⟨p, _, rfl, bg_digits hp1, ?_⟩
      walk_at "g"
      have stay : (fun σ' H2 => ∃ (v : Option V) (a2 : Nat) (d2 f2 : Int), σ' = [some (.ref p), some (.int lim), v, none, none] ∧ Kp p H H2 ∧ H2 p = some (.dK (bagK q a2 d2 (c + 1) f2)) ∧ H2 q = some (.lst (ns.map V.int)) ∧ 0 ≤ d2 ∧ 0 ≤ f2 ∧ f2 < 2147483587) [some (.ref p), some (.int lim), none, none, none] H1 :=
        ⟨_, a, d, fo, rfl, kp1, hp1, hq1, d0, f0, f1⟩
      refine iteB (fun c2 => ?_) (fun c2 => ?_)
      · walk_at "g"
        refine ⟨p, _, rfl, bg_at hp1, ?_⟩
        walk_at "g"
        refine ⟨p, _, rfl, bg_cells hp1, ?_⟩
        refine ⟨_, _, rfl, .inl ⟨_, SqL.of hq1, rfl⟩, ?_⟩
        walk_at "g"
        rw [List.length_map]
        refine iteB (fun c3 => ?_) (fun c3 => ?_)
        · have ha : a < ns.length := by have := of_decide_eq_true c3; omega
          walk_at "g"
          refine ⟨p, _, rfl, bg_cells hp1, ?_⟩
          walk_at "g"
          refine ⟨p, _, rfl, bg_at hp1, ?_⟩
          refine ⟨q, _, (a : Int), .int ns[a], rfl, rfl, SqL.of hq1, atI_nat (j := a) (by rw [List.getElem?_map, List.getElem?_eq_getElem ha] <;> rfl), ?_⟩
          generalize ns[a] = z
          walk_at "g"
          refine ⟨p, _, rfl, bg_at hp1, ?_⟩
          walk_at "g"
          refine ⟨p, _, rfl, bp_at hp1, ?_⟩
          obtain ⟨H3, e3⟩ : ∃ H3, H3 = upd H1 p (.dK (bagK q (a + 1) d (c + 1) fo)) := ⟨_, rfl⟩
          rw [← e3]
          have kp3 : Kp p H H3 := by rw [e3]; exact kp1.trans (kp_upd p H1 _)
          have hp3 : H3 p = some (.dK (bagK q (a + 1) d (c + 1) fo)) := by rw [e3]; exact upd_same
          have hq3 : H3 q = some (.lst (ns.map V.int)) := kp3 _ _ hq nqp
          walk_at "g"
          refine ⟨⟨by decide, by decide, by decide⟩, ?_⟩
          walk_at "g"
          refine iteB (fun c4 => ?_) (fun c4 => ?_)
          · walk_at "g"
            refine ⟨⟨by decide, by decide, by decide⟩, ?_⟩
            walk_at "g"
            have h4 := of_decide_eq_true c4
            exact ⟨p, _, rfl, bp_digits hp3, _, a + 1, _, fo, rfl, kp3.trans (kp_upd p H3 _), upd_same, by rw [upd_ne nqp]; exact hq3, by omega, f0, f1⟩
          · walk_at "g"
            refine ⟨p, _, rfl, bg_fold hp3, ?_⟩
            walk_at "g"
            refine ⟨.inr ⟨by decide, by decide⟩, ?_⟩
            walk_at "g"
            refine .inl ⟨_, rfl, ?_⟩
            walk_at "g"
            refine ⟨by show (0 : Int) < 2147483587; decide, ?_⟩
            walk_at "g"
            exact ⟨p, _, rfl, bp_fold hp3, _, a + 1, d, _, rfl, kp3.trans (kp_upd p H3 _), upd_same, by rw [upd_ne nqp]; exact hq3, d0, Int.emod_nonneg _ (by decide), Int.emod_lt_of_pos _ (by decide)⟩
        · exact stay
      · exact stay
    · rintro σ' H2 ⟨v, a2, d2, f2, rfl, kp2, hp2, hq2, d20, f20, f21⟩
      walk_at "g"
      refine ⟨p, _, rfl, bg_digits hp2, ?_⟩
      walk_at "g"
      refine iteB (fun c2 => ?_) (fun c2 => ?_)
      · have h2 := of_decide_eq_true c2
        walk_at "g"
        refine ⟨p, _, rfl, bg_digits hp2, ?_⟩
        refine .inl ⟨_, rfl, ?_⟩
        walk_at "g"
        refine ⟨l0, ?_⟩
        walk_at "g"
        refine ⟨p, _, rfl, bg_digits hp2, ?_⟩
        walk_at "g"
        refine ⟨cdivw l0 lB (by omega), ?_⟩
        walk_at "g"
        refine ⟨p, _, rfl, bp_digits hp2, ?_⟩
        walk_at "g"
        exact k _ _ (kp2.trans (kp_upd p H2 _)) ⟨ns, a2, _, c + 1, f2, upd_same, by rw [upd_ne nqp]; exact hq2, Int.ediv_nonneg d20 (Int.le_of_lt l0), by omega, by omega, f20, f21⟩ (Int.emod_nonneg _ (by omega)) (Int.emod_lt_of_pos _ l0)
      · walk_at "g"
        refine ⟨p, _, rfl, bg_fold hp2, ?_⟩
        walk_at "g"
        refine ⟨p, _, rfl, bg_count hp2, ?_⟩
        walk_at "g"
        refine ⟨.inr ⟨by decide, by decide⟩, ?_⟩
        walk_at "g"
        refine ⟨⟨by decide, by decide, by omega⟩, ?_⟩
        walk_at "g"
        refine ⟨by show (0 : Int) < 2305843009213693951; decide, ?_⟩
        refine .inl ⟨_, rfl, ?_⟩
        walk_at "g"
        refine ⟨⟨by decide, by decide⟩, ?_⟩
        walk_at "g"
        refine ⟨l0, ?_⟩
        exact k _ H2 kp2 ⟨ns, a2, d2, c + 1, f2, hp2, hq2, d20, by omega, by omega, f20, f21⟩ (Int.emod_nonneg _ (by omega)) (Int.emod_lt_of_pos _ l0)
end
end Tr

namespace Tr
open PySem L2
/-- steps of a reading that are plain -/
local macro_rules | `(tactic| walk_at "x") => `(tactic| (refine' ⟨_, _, _, _, rfl, rfl, ?k1, ?k2, ?_⟩; (case k1 => exact SqT.of (by assumption)); (case k2 => exact rfl)))
local macro_rules | `(tactic| walk_at "g") => `(tactic| repeat (first | (refine ⟨_, rfl, ?_⟩) | (refine ⟨_, _, rfl, rfl, ?_⟩) | (refine ⟨_, _, rfl, ?_⟩) | (refine ⟨rfl, ?_⟩) | walk_at "x"))


/-! ### the law's pairs -/
theorem Kp.wr {p l : Addr} {H H' : Hp} {o : HO} (k : Kp p H H') (h : H l = none) : Kp p H (upd H' l o) := fun b u e n => by
  rw [upd_ne (ne_of_none e h)]
  exact k b u e n
theorem P2.kpB {p : Addr} {H H' : Hp} {kvs : List (Key × V)} {ts : List Addr} {cs : List Cl} (k : Kp p H H') (hp : H p = some (.dK kvs)) (h : P2 (PrT H) ts cs) : P2 (PrT H') ts cs :=
  h.mono fun t c e => k _ _ e (ne_of e hp (by intro z; cases z))
theorem PL.kpB {p l : Addr} {H H' : Hp} {kvs : List (Key × V)} {cs : List Cl} (k : Kp p H H') (hp : H p = some (.dK kvs)) (h : PL H l cs) : PL H' l cs :=
  let ⟨ts, a, b⟩ := h
  ⟨ts, k _ _ a (ne_of a hp (by intro z; cases z)), b.kpB k hp⟩
theorem Bag.at_ {H : Hp} {p q : Addr} {N : Nat} (h : Bag H p q N) : ∃ kvs xs, H p = some (.dK kvs) ∧ H q = some (.lst xs) :=
  let ⟨_, _, _, _, _, a, b, _⟩ := h.ex
  ⟨_, _, a, b⟩
theorem Bag.mono {H : Hp} {p q : Addr} {N M : Nat} (h : Bag H p q N) (l : N ≤ M) : Bag H p q M :=
  let ⟨ns, a, d, c, f, h1, h2, h3, h4, h5, r⟩ := h.ex
  ⟨ns, a, d, c, f, h1, h2, h3, h4, by omega, r⟩
theorem Bag.keep {H H' : Hp} {p q : Addr} {N : Nat} (h : Bag H p q N) (hp : H' p = H p) (hq : H' q = H q) : Bag H' p q N :=
  let ⟨ns, a, d, c, f, h1, h2, r⟩ := h.ex
  ⟨ns, a, d, c, f, hp.trans h1, hq.trans h2, r⟩
theorem Bag.same {H H' : Hp} {p q : Addr} {N : Nat} (s : Same H H') (h : Bag H p q N) : Bag H' p q N :=
  let ⟨ns, a, d, c, f, h1, h2, r⟩ := h.ex
  ⟨ns, a, d, c, f, s _ _ h1, s _ _ h2, r⟩
theorem Bag.wr {H : Hp} {p q l : Addr} {N : Nat} {o : HO} (h : Bag H p q N) (h1 : l ≠ p) (h2 : l ≠ q) : Bag (upd H l o) p q N := h.keep (upd_ne h1.symm) (upd_ne h2.symm)
end Tr

namespace Tr
open PySem L2
/-- steps of a reading that are plain -/
local macro_rules | `(tactic| walk_at "x") => `(tactic| (refine' ⟨_, _, _, _, rfl, rfl, ?k1, ?k2, ?_⟩; (case k1 => exact SqT.of (by assumption)); (case k2 => exact rfl)))
local macro_rules | `(tactic| walk_at "g") => `(tactic| repeat (first | (refine ⟨_, rfl, ?_⟩) | (refine ⟨_, _, rfl, rfl, ?_⟩) | (refine ⟨_, _, rfl, ?_⟩) | (refine ⟨rfl, ?_⟩) | walk_at "x"))


section
variable {P : Program} {w : World} {K : PySem.W.Frag} {mg : Str → Option Value} {base : Heap}
def spPairs : Sp := fun vs H Q _ => ∃ (p q : Addr) (most lim spread : Int) (N : Nat), vs = [.ref p, .int most, .int lim, .int spread] ∧ Bag H p q N ∧ N < 500000 ∧ 0 ≤ most ∧ most ≤ 62 ∧ 0 < lim ∧ Bd 60 lim ∧ 0 ≤ spread ∧ Bd 60 spread ∧
  ∀ (l : Addr) (cs : List Cl) H', Kp p H H' → Bag H' p q (N + 200) → H l = none → PL H' l cs → cs.length ≤ most.toNat → (∀ c ∈ cs, 0 ≤ c.2 ∧ c.2 ≤ lim ∧ -spread ≤ c.1 ∧ c.1 ≤ spread) → Q (.ref l) H'
theorem c__law_pairs (T : Txt K mg) : Cal P w K mg base 2 "_law_pairs" spPairs [] := by
  have c__law_draw := @c__law_draw P w K mg base T
  refine calN T.d__law_pairs sc__law_pairs (fun vs H Q E h => ?_) (fun _ _ _ _ _ _ us hl => match us, hl with | [_, _, _, _], _ => rfl) (fun f cdv A outer s H vs Q E hr h => ?_)
  · obtain ⟨p, q, most, lim, spread, N, rfl, _⟩ := h
    rfl
  · obtain ⟨p, q, most, lim, spread, N, rfl, hB, hN, m0, m1, l0, lB, s0, sB, k⟩ := h
    refine ⟨_, (pss_cons (ps_set (i := 4) sc__law_pairs.nd rfl (Or.inl rfl) (pe_lst pa_nil))
      (pss_cons (ps_for PassesOwn.never rfl (pi_range1 (by rfl) T.b_range (pa_cons (pe_cx c__law_draw hr (by first | decide | omega) rfl passL (pa_cons (pv 0) (pa_cons (pe_op op_add (pv 1) pe_int) pa_nil))) pa_nil)) (pg_name (i := 5) sc__law_pairs.nd rfl (Or.inl rfl)) (pss_cons (ps_set (i := 6) sc__law_pairs.nd rfl (Or.inl rfl) (pe_op op_mul (pe_op op_add pe_int (pe_cx c__law_draw hr (by first | decide | omega) rfl passL (pa_cons (pv 0) (pa_cons (pv 2) pa_nil)))) (pe_callTy call_int1 (by rfl) T.b_int (by decide +kernel) (pa_cons (pe_cmpR op_gt (pe_cx c__law_draw hr (by first | decide | omega) rfl passL (pa_cons (pv 0) (pa_cons pe_int pa_nil))) pe_int (nomark _)) pa_nil))))
      (pss_one (ps_expr (pe_bm PySem.F.plainAttrs_list PySem.F.slot_list_append PySem.F.type_list_append mt_append (pv 4) (pa_cons (pe_tup (pa_cons (pe_op op_sub (pe_cx c__law_draw hr (by first | decide | omega) rfl passL (pa_cons (pv 0) (pa_cons (pe_op op_add (pe_op op_mul pe_int (pv 3)) pe_int) pa_nil))) (pv 3)) (pa_cons (pv 6) pa_nil))) pa_nil))))))
      (pss_one (ps_ret (pv 4))))), ?_⟩
    walk_at "g"
    refine ⟨by show 0 ≤ sizeLine; decide, fun l nl => ?_⟩
    walk_at "g"
    obtain ⟨kvs, cells, hp, hq⟩ := hB.at_
    have npl : p ≠ l := ne_of_none hp nl
    have nql : q ≠ l := ne_of_none hq nl
    have s1 : Same H (upd H l (.lst [])) := same_upd nl
    have big : ∀ x : Int, Bd 64 x → Bd 8000 x := fun x h => h.mono (by decide)
    refine ⟨p, q, _, N, rfl, hB.same s1, by omega, by omega, big _ ?_, fun v H1 kp1 hB1 v0 v1 => ?_⟩
    · show (most + 1).natAbs < 2 ^ 64
      omega
    refine ⟨_, rfl, by omega, by omega, ?_⟩
    have h1l : H1 l = some (.lst []) := kp1 _ _ upd_same npl.symm
    refine for_range (lo := 0) (n := v.toNat) (fun i σ H' => ∃ (cs : List Cl) (ts : List Addr) (a1 a2 : Option V), σ = [some (.ref p), some (.int most), some (.int lim), some (.int spread), some (.ref l), a1, a2] ∧ Kp p H H' ∧ Bag H' p q (N + 1 + 3 * i) ∧
      H' l = some (.lst (ts.map V.ref)) ∧ P2 (PrT H') ts cs ∧ cs.length ≤ i ∧ ∀ c ∈ cs, 0 ≤ c.2 ∧ c.2 ≤ lim ∧ -spread ≤ c.1 ∧ c.1 ≤ spread) ?_ ?_ ?_
    · exact ⟨[], [], _, _, rfl, s1.kp.trans kp1, hB1, h1l, .nil, Nat.le_refl _, fun c hc => by cases hc⟩
    · rintro i σ H2 hi ⟨cs, ts, a1, a2, rfl, kp2, hB2, hl2, pp, hlen, hcs⟩
      obtain ⟨kvs2, cells2, hp2, hq2⟩ := hB2.at_
      walk_at "g"
      refine ⟨p, q, lim, _, rfl, hB2, by omega, l0, lB.mono (by decide), fun v3 H3 kp3 hB3 v30 v31 => ?_⟩
      walk_at "g"
      refine ⟨p, q, 3, _, rfl, hB3, by omega, by decide, big _ (by show (3 : Int).natAbs < 2 ^ 64; decide), fun v4 H4 kp4 hB4 v40 v41 => ?_⟩
      walk_at "g"
      refine .inr ⟨_, rfl, ?_⟩
      walk_at "g"
      have hm : 0 ≤ (1 + v3) * (if decide (0 < v4) = true then (1 : Int) else 0) ∧ (1 + v3) * (if decide (0 < v4) = true then (1 : Int) else 0) ≤ lim := by
        split <;> omega
      refine ⟨.inr (by split <;> decide), ?_⟩
      dsimp only
      generalize (1 + v3) * (if decide (0 < v4) = true then (1 : Int) else 0) = md at hm ⊢
      have kp24 := kp3.trans kp4
      have hl4 : H4 l = some (.lst (ts.map V.ref)) := kp24 _ _ hl2 npl.symm
      walk_at "g"
      refine ⟨.inl ⟨rfl, _, SqL.of hl4⟩, ?_⟩
      walk_at "g"
      refine ⟨.inl ⟨by decide, by decide⟩, ?_⟩
      walk_at "g"
      refine ⟨p, q, _, _, rfl, hB4, by omega, by omega, big _ ?_, fun v5 H5 kp5 hB5 v50 v51 => ?_⟩
      · have hs : spread.natAbs < 2 ^ 60 := sB
        show (2 * spread + 1).natAbs < 2 ^ 64
        omega
      walk_at "g"
      refine ⟨by show 2 ≤ sizeLine; decide, fun u nu => ?_⟩
      have kp25 := kp24.trans kp5
      have hl5 : H5 l = some (.lst (ts.map V.ref)) := kp25 _ _ hl2 npl.symm
      have hl6 := (same_upd (o := .tup [.int (v5 - spread), .int md]) nu) _ _ hl5
      have len2 := pp.len
      refine ⟨l, ts.map V.ref, _, rfl, rfl, hl6, small_app (m := 100000) (by rw [List.length_map]; omega) (Nat.le_refl _), ?_⟩
      have pp6 := (pp.kpB kp25 hp2).same (same_upd (o := .tup [.int (v5 - spread), .int md]) nu)
      have nlq : l ≠ q := nql.symm
      obtain ⟨kvs5, cells5, hp5, hq5⟩ := hB5.at_
      refine ⟨cs ++ [(v5 - spread, md)], ts ++ [u], _, _, rfl, ?_, ((hB5.same (same_upd nu)).wr npl.symm nlq).mono (by omega), by rw [List.map_append]; exact upd_same, pl_snoc hl6 pp6 upd_same, by rw [List.length_append]; exact Nat.succ_le_succ hlen, fun c hc => ?_⟩
      · exact ((kp2.trans kp25).trans (same_upd nu).kp).wr nl
      · rcases List.mem_append.mp hc with hc | hc
        · exact hcs c hc
        · rw [List.mem_singleton.mp hc]
          exact ⟨hm.1, hm.2, by show -spread ≤ v5 - spread; omega, by show v5 - spread ≤ spread; omega⟩
    · rintro σ H2 ⟨cs, ts, a1, a2, rfl, kp2, hB2, hl2, pp, hlen, hcs⟩
      walk_at "g"
      exact k l cs H2 kp2 (hB2.mono (by omega)) nl ⟨ts, hl2, pp⟩ (by omega) hcs
end
end Tr

namespace Tr
open PySem L2
/-- steps of a reading that are plain -/
local macro_rules | `(tactic| walk_at "x") => `(tactic| (refine' ⟨_, _, _, _, rfl, rfl, ?k1, ?k2, ?_⟩; (case k1 => exact SqT.of (by assumption)); (case k2 => exact rfl)))
local macro_rules | `(tactic| walk_at "g") => `(tactic| repeat (first | (refine ⟨_, rfl, ?_⟩) | (refine ⟨_, _, rfl, rfl, ?_⟩) | (refine ⟨_, _, rfl, ?_⟩) | (refine ⟨rfl, ?_⟩) | walk_at "x"))


section
variable {P : Program} {w : World} {K : PySem.W.Frag} {mg : Str → Option Value} {base : Heap}
/-- a pair has the number -/
def hasP (c : Cl) (n : Int) : Bool := if c.2 = 0 then decide (n = c.1) else decide ((n - c.1) % c.2 = 0)
def spHasP : Sp := fun vs H Q _ => ∃ (l : Addr) (n : Int) (cs : List Cl), vs = [.ref l, .int n] ∧ PL H l cs ∧ (∀ c ∈ cs, 0 ≤ c.2) ∧ cs.length ≤ 100000 ∧ ∀ H', Same H H' → Q (.bl (cs.any fun c => hasP c n)) H'
theorem c__law_has (T : Txt K mg) : Cal P w K mg base 1 "_law_has" spHasP [] := by
  refine calN T.d__law_has sc__law_has (fun vs H Q E h => ?_) (fun _ _ _ _ _ _ us hl => match us, hl with | [_, _], _ => rfl) (fun f cdv A outer s H vs Q E hr h => ?_)
  · obtain ⟨l, n, cs, rfl, _⟩ := h
    rfl
  · obtain ⟨l, n, cs, rfl, ⟨ts, hl, pp⟩, hc, hlen, k⟩ := h
    refine ⟨_, (pss_one (ps_ret (pe_callB (cr_any rfl) (by rfl) T.b_any (by decide +kernel) (pa_cons (pe_lc (own := [("_law_r", 2), ("_law_m", 3)]) (g := gTup K 2 (gCons (gName 2) (gCons (gName 3) gNil))) rfl sc__law_has.nd (pi_listK K (pv 0)) (blkOk_by (own := [("_law_r", 2), ("_law_m", 3)]) (N := ["_law_pairs_here", "_law_n", "_law_r", "_law_m"]) (sc := defScope s__law_has) (by decide +kernel)) (fun _ _ _ _ _ => (pg_tup rfl (pgs_cons (pg_name (i := 2) sc__law_has.nd rfl (Or.inl rfl)) (pgs_cons (pg_name (i := 3) sc__law_has.nd rfl (Or.inl rfl)) pgs_nil)))) (fun _ _ _ _ _ => pts_nil) (fun _ _ _ _ _ => (pe_ifExp (pt_cmpR op_eq (pv 3) pe_int (nomark _)) (pe_cmpR op_eq (pv 1) (pv 2) (nomark _)) (pe_cmpR op_eq (pe_op op_mod (pe_callTy call_int1 (by rfl) T.b_int (by decide +kernel) (pa_cons (pe_op op_sub (pv 1) (pv 2)) pa_nil)) (pv 3)) pe_int (nomark _))))) pa_nil)))), ?_⟩
    walk_at "g"
    refine ⟨⟨_, SqL.of hl⟩, fun D nD => ?_⟩
    refine lc_pairs (fun _ => true) (fun y c _ => y = .bl (hasP c n)) (fun _ _ _ _ _ _ _ e => e) nD (SqL.of hl) pp hlen (fun _ _ => rfl) (fun c _ H Q _ q => q H (Same.refl H)) ?_ ?_
    · intro c hcm _ H2 Q2 s2 q
      walk_at "g"
      have h0 := hc c hcm
      unfold hasP at q
      refine iteB (fun c1 => ?_) (fun c1 => ?_)
      · have e := of_dI c1
        rw [if_pos e] at q
        walk_at "g"
        have e2 := q (.bl (decide (n = c.1))) H2 (Same.refl _) rfl
        rw [← dI] at e2
        exact e2
      · have e := of_dI' c1
        rw [if_neg e] at q
        walk_at "g"
        refine .inl ⟨_, rfl, ?_⟩
        walk_at "g"
        refine ⟨by omega, ?_⟩
        walk_at "g"
        have e2 := q (.bl (decide ((n - c.1) % c.2 = 0))) H2 (Same.refl _) rfl
        rw [← dI] at e2
        exact e2
    · intro ys H2 s2 hD2 py
      rw [filter_all] at py
      have ey := py.eq_map
      walk_at "g"
      refine ⟨D, cs.map fun c => hasP c n, rfl, SqL.of (by rw [hD2, ey, List.map_map]; rfl), ?_⟩
      have e : (cs.map fun c => hasP c n).any id = cs.any fun c => hasP c n := by
        rw [List.any_map]
        rfl
      rw [e]
      exact k H2 s2
end
end Tr

namespace Tr
open PySem L2
/-! ### what a Numbers made of pairs holds -/
def hasC (cs : List Cl) (n : Int) : Bool := cs.any fun c => hasP c n
theorem hasP_iff {c : Cl} {n : Int} : hasP c n = true ↔ c.2 ∣ n - c.1 := by
  unfold hasP
  by_cases h : c.2 = 0
  · rw [if_pos h, decide_eq_true_eq, h, Int.zero_dvd]
    omega
  · rw [if_neg h, decide_eq_true_eq]
    exact ⟨Int.dvd_of_emod_eq_zero, Int.emod_eq_zero_of_dvd⟩
theorem hasC_iff {cs : List Cl} {n : Int} : hasC cs n = true ↔ cov cs n := by
  unfold hasC cov
  rw [List.any_eq_true]
  constructor
  · rintro ⟨c, hc, e⟩
    exact ⟨c, hc, hasP_iff.mp e⟩
  · rintro ⟨c, hc, e⟩
    exact ⟨c, hc, hasP_iff.mpr e⟩
section
variable {cs ds : List Cl} {ns : List Int}
theorem Num.ok (h : Num cs ds ns) (hc : ∀ c ∈ cs, 0 ≤ c.2 ∧ Bd 8000 c.2) (hl : cs.length < 64) : Ok ds ns := by
  refine ⟨fun d hd => ?_, ?_, Nat.lt_of_le_of_lt h.len hl⟩
  · obtain ⟨p1, p2, p3⟩ := h.tidy.pos (fun c hcm => of_decide_eq_true (List.mem_filter.mp hcm).2) d hd
    obtain ⟨c, hcm, e1, _⟩ := h.tidy.from_ d hd
    have b : Bd 8000 d.2 := by rw [e1]; exact (hc c (List.mem_filter.mp hcm).1).2
    exact ⟨p1, b, p2, b.le (by omega)⟩
  · exact Nat.lt_of_le_of_lt (Nat.le_trans h.tidy.len (List.length_filter_le _ _)) hl
theorem Num.has (h : Num cs ds ns) (hc : ∀ c ∈ cs, 0 ≤ c.2) (n : Int) : has ds ns n ↔ cov cs n := by
  unfold Tr.has
  rw [h.tidy.cov n]
  constructor
  · rintro (k | ⟨c, hcm, d⟩)
    · exact ⟨(n, 0), ((h.mem n).mp k).1, by rw [Int.sub_self]; exact Int.dvd_zero _⟩
    · exact ⟨c, (List.mem_filter.mp hcm).1, d⟩
  · rintro ⟨c, hcm, d⟩
    rcases Int.lt_trichotomy 0 c.2 with k | k | k
    · exact .inr ⟨c, List.mem_filter.mpr ⟨hcm, decide_eq_true k⟩, d⟩
    · rw [← k, Int.zero_dvd] at d
      have e : c = (n, 0) := by
        obtain ⟨c1, c2⟩ := c
        simp only at k d
        rw [← k]
        have : c1 = n := by omega
        rw [this]
      by_cases z : cov ds n
      · exact .inr ((h.tidy.cov n).mp z)
      · exact .inl ((h.mem n).mpr ⟨by rw [← e]; exact hcm, z⟩)
    · have := hc c hcm
      omega
theorem Num.hasB (h : Num cs ds ns) (hc : ∀ c ∈ cs, 0 ≤ c.2) (n : Int) : hasB ds ns n = hasC cs n := by
  rw [Bool.eq_iff_iff, hasB_iff, hasC_iff]
  exact h.has hc n
theorem Num.dvd (h : Num cs ds ns) {L : Int} (hL : ∀ c ∈ cs, 0 < c.2 → c.2 ∣ L) : ∀ d ∈ ds, d.2 ∣ L := fun d hd => by
  obtain ⟨c, hcm, e1, _⟩ := h.tidy.from_ d hd
  obtain ⟨h1, h2⟩ := List.mem_filter.mp hcm
  rw [e1]
  exact hL c h1 (of_decide_eq_true h2)
theorem Num.some_ (h : Num cs ds ns) (hc : ∀ c ∈ cs, 0 ≤ c.2) : (decide (0 < ds.length) || decide (0 < ns.length)) = !cs.isEmpty := by
  cases cs with
  | nil =>
    have e : ds = [] := h.tidy.nil
    have e2 : ns = [] := List.eq_nil_of_length_eq_zero (by have := h.len; simp at this; simp [this])
    rw [e, e2]
    rfl
  | cons c r =>
    show _ = true
    rw [Bool.or_eq_true, decide_eq_true_eq, decide_eq_true_eq]
    have := (h.has hc c.1).mpr ⟨c, List.mem_cons_self, by rw [Int.sub_self]; exact Int.dvd_zero _⟩
    rcases this with k | ⟨d, hd, _⟩
    · exact .inr (List.length_pos_of_mem k)
    · exact .inl (List.length_pos_of_mem hd)
theorem Num.fin (h : Num cs ds ns) : decide (ds.length = 0) = (cs.filter fun c => decide (0 < c.2)).isEmpty := by
  have t := h.tidy
  cases e : cs.filter fun c => decide (0 < c.2) with
  | nil =>
    rw [e] at t
    rw [t.nil]
    rfl
  | cons c r =>
    rw [e] at t
    have := t.ne (List.cons_ne_nil _ _)
    cases ds with
    | nil => exact absurd rfl this
    | cons d ds => rfl
end
/-! ### lists of pairs as data -/
def pairD (c : Cl) : PyData := .tuple [.int c.1, .int c.2]
theorem lay_pairs : ∀ cs : List Cl, PyData.canLayAll0 (cs.map pairD) = true
  | [] => rfl
  | c :: cs => by
    show (true && PyData.canLayAll0 (cs.map pairD)) = true
    rw [lay_pairs cs]
    rfl
theorem depth_pairs : ∀ cs : List Cl, PyData.depthAll (cs.map pairD) ≤ 1
  | [] => Nat.zero_le _
  | c :: cs => by
    have h := depth_pairs cs
    show max 1 (PyData.depthAll (cs.map pairD)) ≤ 1
    omega
theorem shaped_pairs (cs : List Cl) : SeqAt.shaped (.list (cs.map pairD)) = true := by
  unfold SeqAt.shaped
  rw [Bool.and_eq_true, decide_eq_true_eq]
  refine ⟨lay_pairs cs, ?_⟩
  have h := depth_pairs cs
  show PyData.depthAll (cs.map pairD) + 1 ≤ 64
  omega
theorem dp_pairs {K : PySem.W.Frag} {H : Hp} {l : Addr} {cs : List Cl} (h : PL H l cs) : Dp K H (.ref l) (.list (cs.map pairD)) := by
  obtain ⟨ts, hl, pp⟩ := h
  refine .lst (SqL.of hl) ?_
  clear hl
  induction pp with
  | nil => exact .nil
  | cons r _ ih => exact .cons (.tup (SqT.of r) (.cons (.int _) (.cons (.int _) .nil))) ih
theorem eqv_nil (ds : List PyData) : PyData.eqv (.list ds) (.list []) = ds.isEmpty := by
  cases ds <;> rfl
theorem lay_ints : ∀ ns : List Int, PyData.canLayAll0 (ns.map PyData.int) = true
  | [] => rfl
  | n :: ns => by
    show (true && PyData.canLayAll0 (ns.map PyData.int)) = true
    rw [lay_ints ns]
    rfl
theorem depth_ints : ∀ ns : List Int, PyData.depthAll (ns.map PyData.int) ≤ 0
  | [] => Nat.zero_le _
  | c :: cs => by
    have h := depth_ints cs
    show max 0 (PyData.depthAll (cs.map PyData.int)) ≤ 0
    omega
theorem shaped_ints (ns : List Int) : SeqAt.shaped (.list (ns.map PyData.int)) = true := by
  unfold SeqAt.shaped
  rw [Bool.and_eq_true, decide_eq_true_eq]
  refine ⟨lay_ints ns, ?_⟩
  have h := depth_ints ns
  show PyData.depthAll (ns.map PyData.int) + 1 ≤ 64
  omega
theorem dp_ints {K : PySem.W.Frag} {H : Hp} {l : Addr} {ns : List Int} (hl : SqL K H l (ns.map V.int)) : Dp K H (.ref l) (.list (ns.map PyData.int)) := by
  refine .lst hl ?_
  clear hl
  induction ns with
  | nil => exact .nil
  | cons n ns ih => exact .cons (.int _) ih
end Tr

namespace Tr
open PySem L2
/-! ### moduli that divide a number; a window tells all -/
/-- pairs whose moduli divide L, or are 0 -/
def Dv (L : Int) (cs : List Cl) : Prop := ∀ c ∈ cs, c.2 = 0 ∨ (0 < c.2 ∧ c.2 ∣ L)
theorem Dv.nn {L : Int} {cs : List Cl} (h : Dv L cs) : ∀ c ∈ cs, 0 ≤ c.2 := fun c hc => by
  rcases h c hc with e | ⟨e, _⟩ <;> omega
theorem Dv.bd {L : Int} {cs : List Cl} (h : Dv L cs) (h0 : 0 < L) (hb : Bd 6000 L) : ∀ c ∈ cs, 0 ≤ c.2 ∧ Bd 8000 c.2 := fun c hc => by
  refine ⟨h.nn c hc, ?_⟩
  rcases h c hc with e | ⟨e, d⟩
  · rw [e]
    exact Nat.two_pow_pos 8000
  · exact (hb.mono (by decide)).le (by have := Int.le_of_dvd h0 d; omega)
theorem Dv.app {L : Int} {cs ds : List Cl} (h : Dv L cs) (k : Dv L ds) : Dv L (cs ++ ds) := fun c hc => (List.mem_append.mp hc).elim (h c) (k c)
theorem Dv.mono {L M : Int} {cs : List Cl} (h : Dv L cs) (d : L ∣ M) : Dv M cs := fun c hc => (h c hc).imp id fun ⟨a, b⟩ => ⟨a, Int.dvd_trans b d⟩
theorem Dv.sub {L : Int} {cs ds : List Cl} (h : Dv L cs) (s : ∀ c ∈ ds, c ∈ cs) : Dv L ds := fun c hc => h c (s c hc)
theorem cut_drop (xs : List V) (k : Nat) : cutV xs (some (k : Int)) none = xs.drop k := by
  unfold cutV
  rw [HT.sIx_none, HT.sIx_nat]
  rcases Nat.le_total k xs.length with h | h
  · rw [Nat.min_eq_left h]
    refine List.take_of_length_le ?_
    rw [List.length_drop]
    exact Nat.le_refl _
  · rw [Nat.min_eq_right h, Nat.sub_self, List.take_zero, List.drop_of_length_le h]
/-- a class of the pairs has the number -/
def posB (cs : List Cl) (n : Int) : Bool := cs.any fun c => decide (0 < c.2) && decide ((n - c.1) % c.2 = 0)
/-! ### the window is enough -/
theorem posB_iff {cs : List Cl} {n : Int} : posB cs n = true ↔ ∃ c ∈ cs, 0 < c.2 ∧ c.2 ∣ n - c.1 := by
  unfold posB
  rw [List.any_eq_true]
  constructor
  · rintro ⟨c, hc, e⟩
    obtain ⟨h1, h2⟩ := Bool.and_eq_true_iff.mp e
    exact ⟨c, hc, of_decide_eq_true h1, Int.dvd_of_emod_eq_zero (of_decide_eq_true h2)⟩
  · rintro ⟨c, hc, h1, h2⟩
    exact ⟨c, hc, Bool.and_eq_true_iff.mpr ⟨decide_eq_true h1, decide_eq_true (Int.emod_eq_zero_of_dvd h2)⟩⟩
/-- the classes repeat by L -/
theorem posB_mod {L : Int} {cs : List Cl} (h : Dv L cs) (n t : Int) : posB cs (n + L * t) = posB cs n := by
  rw [Bool.eq_iff_iff, posB_iff, posB_iff]
  have one : ∀ c ∈ cs, 0 < c.2 → (c.2 ∣ n + L * t - c.1 ↔ c.2 ∣ n - c.1) := fun c hc h0 => by
    have d : c.2 ∣ L := by
      rcases h c hc with e | ⟨_, d⟩
      · omega
      · exact d
    have d2 : c.2 ∣ L * t := Int.dvd_trans d (Int.dvd_mul_right _ _)
    have e1 : n + L * t - c.1 = (n - c.1) + L * t := by omega
    have e2 : n - c.1 = (n + L * t - c.1) - L * t := by omega
    constructor
    · intro q
      rw [e2]
      exact Int.dvd_sub q d2
    · intro q
      rw [e1]
      exact Int.dvd_add q d2
  constructor
  · rintro ⟨c, hc, h0, d⟩
    exact ⟨c, hc, h0, (one c hc h0).mp d⟩
  · rintro ⟨c, hc, h0, d⟩
    exact ⟨c, hc, h0, (one c hc h0).mpr d⟩
theorem cov_pos {cs : List Cl} (h : ∀ c ∈ cs, 0 ≤ c.2) {n : Int} : cov cs n ↔ posB cs n = true ∨ (n, 0) ∈ cs := by
  rw [posB_iff]
  constructor
  · rintro ⟨c, hc, d⟩
    by_cases z : c.2 = 0
    · refine .inr ?_
      rw [z, Int.zero_dvd] at d
      have : c = (n, 0) := by
        obtain ⟨c1, c2⟩ := c
        simp only at z d
        rw [z, show c1 = n by omega]
      rw [← this]
      exact hc
    · exact .inl ⟨c, hc, by have := h c hc; omega, d⟩
  · rintro (⟨c, hc, _, d⟩ | h)
    · exact ⟨c, hc, d⟩
    · exact ⟨_, h, by rw [Int.sub_self]; exact Int.dvd_zero _⟩
/-- beyond all singles there are classes alone -/
theorem beyond {cs : List Cl} (h : ∀ c ∈ cs, 0 ≤ c.2) : ∃ B : Int, ∀ n, B ≤ n → cov cs n → posB cs n = true := by
  have : ∃ B : Int, ∀ n, (n, 0) ∈ cs → n < B := by
    clear h
    induction cs with
    | nil => exact ⟨0, fun n hn => by cases hn⟩
    | cons c cs ih =>
      obtain ⟨B, hB⟩ := ih
      refine ⟨max B (c.1 + 1), fun n hn => ?_⟩
      rcases List.mem_cons.mp hn with e | hn
      · have : c.1 = n := by rw [← e]
        omega
      · have := hB n hn
        omega
  obtain ⟨B, hB⟩ := this
  refine ⟨B, fun n hn hc => ?_⟩
  rcases (cov_pos h).mp hc with k | k
  · exact k
  · have := hB n k
    omega
theorem window {L : Int} (L0 : 0 < L) {cs ds : List Cl} (hc : Dv L cs) (hd : Dv L ds) :
    ((∀ n : Nat, (n : Int) < L → posB cs n = true → posB ds n = true) ∧ ∀ c ∈ cs, c.2 = 0 → hasC ds c.1 = true) ↔ ∀ n, cov cs n → cov ds n := by
  constructor
  · rintro ⟨h1, h2⟩ n hn
    rcases (cov_pos hc.nn).mp hn with k | k
    · have e := Int.emod_add_mul_ediv n L
      have m0 := Int.emod_nonneg n (show L ≠ 0 by omega)
      have m1 := Int.emod_lt_of_pos n L0
      have e2 : n = (((n % L).toNat : Nat) : Int) + L * (n / L) := by omega
      rw [e2, posB_mod hc] at k
      have := h1 (n % L).toNat (by omega) k
      rw [cov_pos hd.nn]
      refine .inl ?_
      rw [e2, posB_mod hd]
      exact this
    · exact hasC_iff.mp (h2 _ k rfl)
  · intro h
    refine ⟨fun n hn hp => ?_, fun c hcm h0 => hasC_iff.mpr (h _ ⟨c, hcm, by rw [Int.sub_self]; exact Int.dvd_zero _⟩)⟩
    obtain ⟨B, hB⟩ := beyond hd.nn
    have t0 : B ≤ n + L * (B.toNat : Int) := by
      have : (B.toNat : Int) ≤ L * (B.toNat : Int) := by
        have := Int.mul_le_mul_of_nonneg_right (show 1 ≤ L by omega) (show 0 ≤ (B.toNat : Int) by omega)
        omega
      omega
    have k1 : posB cs (n + L * (B.toNat : Int)) = true := by rw [posB_mod hc]; exact hp
    have k2 := hB _ t0 (h _ ((cov_pos hc.nn).mpr (.inl k1)))
    rw [posB_mod hd] at k2
    exact k2
/-- pairs of classes alone, their moduli divide M -/
def Cls' (M : Int) (cs : List Cl) : Prop := ∀ c ∈ cs, 0 < c.2 ∧ c.2 ∣ M
theorem Cls'.dv {M : Int} {cs : List Cl} (h : Cls' M cs) : Dv M cs := fun c hc => .inr (h c hc)
theorem Cls'.app {M : Int} {cs ds : List Cl} (h : Cls' M cs) (k : Cls' M ds) : Cls' M (cs ++ ds) := fun c hc => (List.mem_append.mp hc).elim (h c) (k c)
theorem Cls'.mono {L M : Int} {cs : List Cl} (h : Cls' L cs) (d : L ∣ M) : Cls' M cs := fun c hc => ⟨(h c hc).1, Int.dvd_trans (h c hc).2 d⟩
theorem Cls'.sub {L : Int} {cs ds : List Cl} (h : Cls' L cs) (s : ∀ c ∈ ds, c ∈ cs) : Cls' L ds := fun c hc => h c (s c hc)
end Tr

namespace Tr
open PySem L2
/-! ### making a Numbers, comprehensions that draw -/
theorem same_made {H : Hp} {x dx : Addr} {o o2 : HO} (nx : H x = none) (ndx : H dx = none) : Same H (upd (upd H dx o2) x o) := fun b u e => by
  rw [upd_ne (ne_of_none e nx), upd_ne (ne_of_none e ndx)]
  exact e
theorem mk_same {H H' : Hp} {x dx : Addr} {o o2 : HO} (k : ∀ b u, upd (upd H dx o2) x o b = some u → b ≠ x → H' b = some u) (nx : H x = none) (ndx : H dx = none) : Same H H' := fun b u e => k b u (same_made nx ndx _ _ e) (ne_of_none e nx)
theorem cut_take (xs : List V) (k : Nat) : cutV xs none (some (k : Int)) = xs.take k := by
  unfold cutV
  rw [HT.sIx_none, HT.sIx_nat, List.drop_zero, Nat.sub_zero]
  rcases Nat.le_total k xs.length with h | h
  · rw [Nat.min_eq_left h]
  · rw [Nat.min_eq_right h, List.take_of_length_le (Nat.le_refl _), List.take_of_length_le h]
theorem P2.split {S : Cl → Cl → Prop} {H : Hp} {ys : List V} {cs : List Cl} (h : P2 (fun y c => ∃ u e, y = V.ref u ∧ PrT H u e ∧ S e c) ys cs) : ∃ (us : List Addr) (es : List Cl), ys = us.map V.ref ∧ P2 (PrT H) us es ∧ P2 S es cs := by
  induction h with
  | nil => exact ⟨[], [], rfl, .nil, .nil⟩
  | cons r _ ih =>
    obtain ⟨u, e, rfl, h1, h2⟩ := r
    obtain ⟨us, es, rfl, h3, h4⟩ := ih
    exact ⟨u :: us, e :: es, rfl, .cons h1 h3, .cons h2 h4⟩
theorem NumAt.kpB {C p a : Addr} {H H' : Hp} {kvs : List (Key × V)} {ds : List Cl} {ns : List Int} (k : Kp p H H') (hp : H p = some (.dK kvs)) (h : NumAt C H a ds ns) : NumAt C H' a ds ns :=
  let ⟨dx, q1, q2, e1, e2, e3⟩ := h.ex
  ⟨dx, q1, q2, k _ _ e1 (ne_of e1 hp (by intro z; cases z)), e2.kpB k hp, k _ _ e3 (ne_of e3 hp (by intro z; cases z))⟩
theorem neB {a b : Bool} (h : a = b) : (!decide (V.bl a = V.bl b)) = false := by
  rw [h, decide_eq_true rfl]
  rfl
/-- one pair told in another way -/
def Mv (e c : Cl) : Prop := e.2 = c.2 ∧ ∃ t : Int, e.1 = c.1 + c.2 * t ∧ -2 ≤ t ∧ t ≤ 2
theorem Mv.dvd {e c : Cl} (h : Mv e c) (n : Int) : e.2 ∣ n - e.1 ↔ c.2 ∣ n - c.1 := by
  obtain ⟨h1, t, h2, _⟩ := h
  rw [h1, h2]
  have e1 : n - (c.1 + c.2 * t) = (n - c.1) - c.2 * t := by omega
  have e2 : n - c.1 = (n - (c.1 + c.2 * t)) + c.2 * t := by omega
  constructor
  · intro d
    rw [e2]
    exact Int.dvd_add d (Int.dvd_mul_right _ _)
  · intro d
    rw [e1]
    exact Int.dvd_sub d (Int.dvd_mul_right _ _)
theorem mv_cov {es cs : List Cl} (h : P2 Mv es cs) (n : Int) : cov es n ↔ cov cs n := by
  constructor
  · rintro ⟨e, he, d⟩
    obtain ⟨c, hc, m⟩ := h.meml he
    exact ⟨c, hc, (m.dvd n).mp d⟩
  · rintro ⟨c, hc, d⟩
    obtain ⟨e, he, m⟩ := h.memr hc
    exact ⟨e, he, (m.dvd n).mpr d⟩
/-- tuples stay -/
def Tk (H H' : Hp) : Prop := ∀ b xs, H b = some (.tup xs) → H' b = some (.tup xs)
theorem Same.tk {H H' : Hp} (s : Same H H') : Tk H H' := fun b _ e => s b _ e
theorem Kp.tk {p : Addr} {H H' : Hp} {kvs : List (Key × V)} (k : Kp p H H') (hp : H p = some (.dK kvs)) : Tk H H' := fun b _ e => k b _ e (ne_of e hp (by intro z; cases z))
theorem tk_upd {D : Addr} {H : Hp} {o : HO} {xs : List V} (h : H D = some (.lst xs)) : Tk H (upd H D o) := fun b _ e => by
  rw [upd_ne (ne_of e h (by intro z; cases z))]
  exact e
/-- [e for a, b in pairs], e draws d numbers -/
theorem lc_pairsB {K : PySem.W.Frag} {a : Addr} {ts : List Addr} {cs : List (Int × Int)} {i1 i2 : Nat} {tt : TT} {te : TE} {vs : List Nat} {σ : St} {H1 : Hp} {D p q : Addr} {N d : Nat} {Qd : Hp → Prop} (R : V → Int × Int → Hp → Prop)
    (hR : ∀ y c H H', Tk H H' → R y c H → R y c H') (hD : H1 D = none) (hB : Bag H1 p q N) (hL : H1 a = some (.lst (ts.map V.ref))) (hP : P2 (PrT H1) ts cs) (hsz : cs.length ≤ 100000)
    (hw : ∀ x y, wipe (((wipe σ vs).set i1 x).set i2 y) vs = wipe σ vs) (ht : ∀ σ H Q, Q true H → tt σ H Q)
    (he : ∀ c ∈ cs, ∀ H Q M, Kp p H1 H → Bag H p q M → M ≤ N + d * cs.length → (∀ y H', Kp p H H' → Bag H' p q (M + d) → R y c H' → Q y H') → te (((wipe σ vs).set i1 (some (.int c.1))).set i2 (some (.int c.2))) H Q)
    (hd : ∀ ys H, Kp p H1 H → Bag H p q (N + d * cs.length) → H D = some (.lst ys) → P2 (fun y c => R y c H) ys cs → Qd H) : LcG (Itl K a) (gTup K 2 (gCons (gName i1) (gCons (gName i2) gNil))) tt te vs σ H1 D Qd := by
  have hlen := hP.len
  obtain ⟨kvs, cells, hp, hq⟩ := hB.at_
  have npD : p ≠ D := ne_of_none hp hD
  have nqD : q ≠ D := ne_of_none hq hD
  have naD : a ≠ D := ne_of_none hL hD
  have nap : a ≠ p := ne_of hL hp (by intro z; cases z)
  refine lc_list (K := K) (a := a) (xs := ts.map V.ref) (fun i H => Kp p H1 H ∧ Bag H p q (N + d * i) ∧ ∃ ys, H D = some (.lst ys) ∧ P2 (fun y c => R y c H) ys (cs.take i)) ⟨(same_upd hD).kp, hB.wr npD.symm nqD.symm, [], upd_same, .nil⟩ (fun i H _ ⟨s, _⟩ => SqL.of (s _ _ hL nap)) ?_ ?_
  · rintro i x H hx ⟨s, hBi, ys, hy, py⟩
    rw [List.getElem?_map] at hx
    cases ht' : ts[i]? with
    | none => rw [ht'] at hx; cases hx
    | some t =>
      rw [ht'] at hx
      cases hx
      obtain ⟨c, hc, r⟩ := hP.getl ht'
      have hi : i < cs.length := (List.getElem?_eq_some_iff.mp hc).1
      have ll : ys.length ≤ 100000 := by
        have h1 := py.len
        rw [List.length_take] at h1
        omega
      refine ⟨t, _, rfl, SqT.of (s.tk hp _ _ r), rfl, _, _, rfl, _, _, rfl, rfl, hw _ _, ht _ _ _ ?_⟩
      rw [if_pos rfl]
      obtain ⟨kvs2, cells2, hp2, hq2⟩ := hBi.at_
      have : N + d * i ≤ N + d * cs.length := Nat.add_le_add_left (Nat.mul_le_mul_left d (Nat.le_of_lt hi)) N
      refine he c (mem_of_at hc) H _ _ s hBi this fun y H' s' hB' r' => ⟨ys, s' _ _ hy npD.symm, small_app (Nat.le_refl _) ll, (s.trans s').wr hD, ?_, ys ++ [y], upd_same, ?_⟩
      · rw [Nat.mul_succ, ← Nat.add_assoc]
        exact hB'.wr npD.symm nqD.symm
      · rw [take_snoc hc]
        have hy' := s' _ _ hy npD.symm
        exact (py.mono fun v b rb => hR v b H' _ (tk_upd hy') (hR v b H H' (s'.tk hp2) rb)).snoc (hR y c H' _ (tk_upd hy') r')
  · rintro H ⟨s, hBi, ys, hy, py⟩
    rw [List.length_map, hlen] at hBi
    rw [List.length_map, hlen, List.take_length] at py
    exact hd ys H s hBi hy py
/-- a .. b - 1 -/
def rgI (a b : Int) : List Int := (List.range (b - a).toNat).map fun (i : Nat) => a + (i : Int)
theorem rgV_I (a b : Int) : rgV a b = (rgI a b).map V.int := by
  unfold rgV rgI
  rw [List.map_map]
  rfl
theorem mem_rgI {a b x : Int} : x ∈ rgI a b ↔ a ≤ x ∧ x < b := by
  unfold rgI
  rw [List.mem_map]
  constructor
  · rintro ⟨i, hi, rfl⟩
    have := List.mem_range.mp hi
    omega
  · rintro ⟨h1, h2⟩
    exact ⟨(x - a).toNat, List.mem_range.mpr (by omega), by omega⟩
theorem len_rgI {a b : Int} : (rgI a b).length = (b - a).toNat := by
  unfold rgI
  rw [List.length_map, List.length_range]
end Tr

namespace Tr
open PySem L2
/-! ### inserting, windows -/
theorem pl_ins {H : Hp} {l u : Addr} {kts : List Addr} {ds : List Cl} {c : Cl} {xs ys : List V} {i : Nat} (hl : H l = some (.lst xs)) (pk : P2 (PrT H) kts ds) (hu : PrT H u c) :
    P2 (PrT (upd H l (.lst ys))) (kts.take i ++ [u] ++ kts.drop i) (ds.take i ++ [c] ++ ds.drop i) := by
  have tup : ∀ {u : Addr} {c : Int × Int}, PrT H u c → PrT (upd H l (.lst ys)) u c := fun {u c} e => by
    have n : u ≠ l := ne_of e hl (by intro z; cases z)
    show upd _ _ _ u = _
    rw [upd_ne n]
    exact e
  have pk' := pk.mono fun _ _ e => tup e
  exact ((pk'.take i).app (.cons (tup hu) .nil)).app (pk'.drop i)
theorem mem_ins {cs : List Cl} {c : Cl} {i : Nat} {e : Cl} (h : e ∈ cs.take i ++ [c] ++ cs.drop i) : e = c ∨ e ∈ cs := by
  rcases List.mem_append.mp h with h | h
  · rcases List.mem_append.mp h with h | h
    · exact .inr (List.mem_of_mem_take h)
    · exact .inl (List.mem_singleton.mp h)
  · exact .inr (List.mem_of_mem_drop h)
theorem ins_mem {cs : List Cl} {c : Cl} {i : Nat} {e : Cl} (h : e ∈ cs) : e ∈ cs.take i ++ [c] ++ cs.drop i := by
  rw [← List.take_append_drop i cs] at h
  rcases List.mem_append.mp h with h | h
  · exact List.mem_append_left _ (List.mem_append_left _ h)
  · exact List.mem_append_right _ h
theorem len_ins {α : Type} (cs : List α) (c : α) (i : Nat) : (cs.take i ++ [c] ++ cs.drop i).length = cs.length + 1 := by
  rw [List.length_append, List.length_append, List.length_take, List.length_drop]
  simp
  omega
theorem map_ins (ts : List Addr) (u : Addr) (i : Nat) : (ts.map V.ref).take i ++ [V.ref u] ++ (ts.map V.ref).drop i = (ts.take i ++ [u] ++ ts.drop i).map V.ref := by
  rw [List.map_append, List.map_append, List.map_take, List.map_drop]
  rfl
theorem posB_ins0 {cs : List Cl} {r : Int} {i : Nat} (n : Int) : posB (cs.take i ++ [(r, 0)] ++ cs.drop i) n = posB cs n := by
  rw [Bool.eq_iff_iff, posB_iff, posB_iff]
  constructor
  · rintro ⟨c, hc, h0, d⟩
    rcases mem_ins hc with rfl | hc
    · exact absurd h0 (Int.lt_irrefl 0)
    · exact ⟨c, hc, h0, d⟩
  · rintro ⟨c, hc, h0, d⟩
    exact ⟨c, ins_mem hc, h0, d⟩
theorem Num.cls {cs ds : List Cl} {ns : List Int} (h : Num cs ds ns) (n : Int) : cov ds n ↔ posB cs n = true := by
  rw [h.tidy.cov n, posB_iff]
  constructor
  · rintro ⟨c, hc, d⟩
    obtain ⟨h1, h2⟩ := List.mem_filter.mp hc
    exact ⟨c, h1, of_decide_eq_true h2, d⟩
  · rintro ⟨c, hc, h0, d⟩
    exact ⟨c, List.mem_filter.mpr ⟨hc, decide_eq_true h0⟩, d⟩
theorem cov1 (n : Int) : cov [(0, 1)] n := ⟨(0, 1), List.mem_cons_self, Int.one_dvd _⟩
theorem every_ok {ds : List Cl} {ns : List Int} {L : Int} (h : Num [(0, 1)] ds ns) : Ok ds ns ∧ (∀ n, has ds ns n) ∧ ∀ e ∈ ds, e.2 ∣ L := by
  have h0 : ∀ c ∈ ([(0, 1)] : List Cl), c.2 = 1 := fun c hc => by rw [List.mem_singleton.mp hc]
  refine ⟨h.ok (fun c hc => ?_) (by decide), fun n => (h.has (fun c hc => by rw [h0 c hc]; decide) n).mpr (cov1 n), h.dvd fun c hc _ => by rw [h0 c hc]; exact Int.one_dvd _⟩
  rw [h0 c hc]
  exact ⟨by decide, Bd.mono (n := 5) (by show (1 : Int).natAbs < 2 ^ 5; decide) (by decide)⟩
/-- all n are held if those of the window are -/
theorem all_of {L : Int} (L0 : 0 < L) {cs : List Cl} (hc : Dv L cs) : (∀ n : Nat, (n : Int) < L → posB cs n = true) ↔ ∀ n, posB cs n = true := by
  constructor
  · intro h n
    have e := Int.emod_add_mul_ediv n L
    have m0 := Int.emod_nonneg n (show L ≠ 0 by omega)
    have m1 := Int.emod_lt_of_pos n L0
    have e2 : n = (((n % L).toNat : Nat) : Int) + L * (n / L) := by omega
    rw [e2, posB_mod hc]
    exact h _ (by omega)
  · intro h n _
    exact h n
theorem cov_all {L : Int} (L0 : 0 < L) {cs : List Cl} (hc : Dv L cs) : (∀ n, cov cs n) ↔ ∀ n, posB cs n = true := by
  constructor
  · intro h n
    obtain ⟨B, hB⟩ := beyond hc.nn
    have := hB (n + L * ((B - n).toNat : Int)) ?_ (h _)
    · rw [posB_mod hc] at this
      exact this
    · have := Int.mul_le_mul_of_nonneg_right (show 1 ≤ L by omega) (show 0 ≤ ((B - n).toNat : Int) by omega)
      omega
  · intro h n
    exact (cov_pos hc.nn).mpr (.inl (h n))
theorem posB_cls {M : Int} {cs : List Cl} (h : Cls' M cs) (n : Int) : hasC cs n = posB cs n := by
  rw [Bool.eq_iff_iff, hasC_iff, posB_iff]
  constructor
  · rintro ⟨c, hc, d⟩
    exact ⟨c, hc, (h c hc).1, d⟩
  · rintro ⟨c, hc, _, d⟩
    exact ⟨c, hc, d⟩
end Tr

namespace Tr
open PySem L2
/-- steps of a reading that are plain -/
local macro_rules | `(tactic| walk_at "x") => `(tactic| (refine' ⟨_, _, _, _, rfl, rfl, ?k1, ?k2, ?_⟩; (case k1 => exact SqT.of (by assumption)); (case k2 => exact rfl)))
local macro_rules | `(tactic| walk_at "g") => `(tactic| repeat (first | (refine ⟨_, rfl, ?_⟩) | (refine ⟨_, _, rfl, rfl, ?_⟩) | (refine ⟨_, _, rfl, ?_⟩) | (refine ⟨rfl, ?_⟩) | walk_at "x"))


/-! ### parts_told, common_class -/
/-- both classes at once -/
def CC (c d : Cl) (n : Int) : Prop := c.2 ∣ n - c.1 ∧ d.2 ∣ n - d.1
def CCR (c d : Cl) (y : V) (H : Hp) : Prop := (y = .non ∧ ∀ n, ¬ CC c d n) ∨ ∃ u e, y = .ref u ∧ PrT H u e ∧ 0 ≤ e.2 ∧ (0 < e.2 → 0 < c.2 ∧ 0 < d.2 ∧ e.2 = Int.lcm c.2 d.2) ∧ (e.2 = 0 → (c.2 = 0 ∧ e.1 = c.1) ∨ (d.2 = 0 ∧ e.1 = d.1)) ∧ ∀ n, e.2 ∣ n - e.1 ↔ CC c d n
theorem cc_whole {r m s k y : Int} (m0 : 0 < m) (k0 : 0 < k) (h1 : m ∣ y - r) (h2 : k ∣ y - s) (n : Int) : (Int.lcm m k : Int) ∣ n - y % (Int.lcm m k : Int) ↔ CC (r, m) (s, k) n := by
  have dy : (Int.lcm m k : Int) ∣ y - y % (Int.lcm m k : Int) := emod_sub_dvd _ _
  have one : ∀ {a b : Int}, a ∣ (Int.lcm m k : Int) → a ∣ y - b → (a ∣ n - b ↔ a ∣ n - y % (Int.lcm m k : Int)) := fun {a b} ha hb => by
    have h := Int.dvd_sub hb (Int.dvd_trans ha dy)
    have e1 : n - b = (n - y % (Int.lcm m k : Int)) + ((y - b) - (y - y % (Int.lcm m k : Int))) := by omega
    have e2 : n - y % (Int.lcm m k : Int) = (n - b) - ((y - b) - (y - y % (Int.lcm m k : Int))) := by omega
    constructor
    · intro q
      rw [e2]
      exact Int.dvd_sub q h
    · intro q
      rw [e1]
      exact Int.dvd_add q h
  have im := one (Int.dvd_lcm_left m k) h1
  have ik := one (Int.dvd_lcm_right m k) h2
  constructor
  · intro q
    exact ⟨im.mpr (Int.dvd_trans (Int.dvd_lcm_left m k) q), ik.mpr (Int.dvd_trans (Int.dvd_lcm_right m k) q)⟩
  · rintro ⟨q1, q2⟩
    exact Int.coe_lcm_dvd (im.mp q1) (ik.mp q2)
theorem cc_no {r m s k : Int} (h : ¬ (Int.gcd m k : Int) ∣ r - s) (n : Int) : ¬ CC (r, m) (s, k) n := by
  rintro ⟨h1, h2⟩
  refine h ?_
  have e : r - s = (n - s) - (n - r) := by omega
  rw [e]
  exact Int.dvd_sub (Int.dvd_trans (Int.gcd_dvd_right m k) h2) (Int.dvd_trans (Int.gcd_dvd_left m k) h1)
section
variable {P : Program} {w : World} {K : PySem.W.Frag} {mg : Str → Option Value} {base : Heap}
def spTold (C : Addr) : Sp := fun vs H Q _ => ∃ (a : Addr) (ds : List Cl) (ns : List Int), vs = [.ref a] ∧ NumAt C H a ds ns ∧ ds.length < 64 ∧ ns.length < 64 ∧
  ∀ (l : Addr) H', Same H H' → H l = none → PL H' l (ds ++ ns.map fun n => (n, 0)) → Q (.ref l) H'
theorem c_told (T : Txt K mg) : Met P w K mg base 1 (He.ga K "Numbers") "parts_told" (spTold (He.ga K "Numbers")) [] := by
  refine metN T.m_Numbers__parts_told sc_Numbers_parts_told (fun vs H Q E h => ?_) (fun _ _ _ _ _ _ us hl => match us, hl with | [_], _ => rfl) (fun f cdv A outer s H vs Q E hr h => ?_)
  · obtain ⟨a, ds, ns, rfl, _⟩ := h
    rfl
  · obtain ⟨a, ds, ns, rfl, hN, l1, l2, k⟩ := h
    obtain ⟨dx, q1, q2, e1, ⟨ts, e2, pp⟩, e3⟩ := hN.ex
    have lx := pp.len
    refine ⟨_, (pss_one (ps_ret (pe_lst (StX.pa_star (pe_fldK K (pv 0) (by rfl)) (StX.pa_star (pe_lc (own := [("n", 1)]) (g := gName 1) rfl sc_Numbers_parts_told.nd (pi_listK K (pe_fldK K (pv 0) (by rfl))) (blkOk_by (own := [("n", 1)]) (N := ["self", "n"]) (sc := defScope s_Numbers_parts_told) (by decide +kernel)) (fun _ _ _ _ _ => (pg_name (i := 1) sc_Numbers_parts_told.nd rfl (Or.inl rfl))) (fun _ _ _ _ _ => pts_nil) (fun _ _ _ _ _ => (pe_tup (pa_cons (pv 1) (pa_cons pe_int pa_nil))))) pa_nil))))), ?_⟩
    walk_at "g"
    refine ⟨a, _, dx, _, _, rfl, e1, T.k_Numbers, T.a_Numbers__classes, rfl, ?_⟩
    refine ⟨q1, _, rfl, .inr (SqL.of e2), ?_⟩
    walk_at "g"
    refine ⟨a, _, dx, _, _, rfl, e1, T.k_Numbers, T.a_Numbers__singles, rfl, ?_⟩
    refine ⟨q2, rfl, ⟨_, SqL.of e3⟩, fun D nD => ?_⟩
    refine lc_vals (xs := []) (cs := ns) (fun _ => true) V.int (fun y n H => ∃ u, y = V.ref u ∧ PrT H u (n, 0)) (fun y j H H' acc hD kp ⟨u, e, h⟩ => ⟨u, e, kp _ _ h (h.ne hD)⟩) nD (SqL.of e3) (by omega) (fun _ => rfl) (fun c _ H Q _ q => q H (Same.refl H)) ?_ ?_
    · intro n hn _ H2 Q2 s2 q
      walk_at "g"
      refine ⟨by show 2 ≤ sizeLine; decide, fun u nu => ?_⟩
      exact q _ _ (same_upd nu) ⟨u, rfl, upd_same⟩
    · intro ys H2 s2 hD2 py
      rw [filter_all] at py
      obtain ⟨us, rfl⟩ := py.ref (f := V.ref) (fun v b ⟨t, e, _⟩ => ⟨t, e⟩)
      have pR : P2 (PrT H2) us (ns.map fun n => ((n, 0) : Cl)) := P2.mapr ((P2.map_l.mp py).mono fun t j ⟨t', e, r⟩ => by cases e; exact r)
      have ly := pR.len
      rw [List.length_map] at ly
      refine ⟨D, _, rfl, .inr (SqL.of hD2), ?_⟩
      have eapp : ts.map V.ref ++ (us.map V.ref ++ []) = (ts ++ us).map V.ref := by rw [List.append_nil, List.map_append]
      show (ts.map V.ref ++ (us.map V.ref ++ [])).length ≤ sizeLine ∧ ∀ l, H2 l = none → Q (.ref l) (upd H2 l (.lst (ts.map V.ref ++ (us.map V.ref ++ []))))
      rw [eapp]
      refine ⟨?_, fun l nl => ?_⟩
      · rw [List.length_map, List.length_append]
        exact Nat.le_trans (show _ ≤ 200 by omega) (by decide)
      have s3 := same_upd (o := .lst ((ts ++ us).map V.ref)) nl
      exact k l _ (s2.trans s3) (s2.free nl) ⟨ts ++ us, upd_same, ((pp.same s2).same s3).app (pR.same s3)⟩
def spCC : Sp := fun vs H Q _ => ∃ (t1 t2 : Addr) (c d : Cl), vs = [.ref t1, .ref t2] ∧ PrT H t1 c ∧ PrT H t2 d ∧ 0 ≤ c.2 ∧ 0 ≤ d.2 ∧ Bd 3000 c.2 ∧ Bd 3000 d.2 ∧ (0 < c.2 → Bd 3000 c.1) ∧ (0 < d.2 → Bd 3000 d.1) ∧
  ∀ y H', Same H H' → CCR c d y H' → Q y H'
theorem c_common_class (T : Txt K mg) : Cal P w K mg base 3 "common_class" spCC [] := by
  have c_common_divisor := @c_common_divisor P w K mg base T
  have c_inverse := @c_inverse P w K mg base T
  refine calN T.d_common_class sc_common_class (fun vs H Q E h => ?_) (fun _ _ _ _ _ _ us hl => match us, hl with | [_, _], _ => rfl) (fun f cdv A outer s H vs Q E hr h => ?_)
  · obtain ⟨t1, t2, c, d, rfl, _⟩ := h
    rfl
  · obtain ⟨t1, t2, ⟨r, m⟩, ⟨s', k'⟩, rfl, h1, h2, m0, k0, mB, kB, rB, sB, k⟩ := h
    refine ⟨_, (pss_cons (ps_asg (pe_tup (pa_cons (pv 0) (pa_cons (pv 1) pa_nil))) (pg_tup rfl (pgs_cons (pg_tup rfl (pgs_cons (pg_name (i := 2) sc_common_class.nd rfl (Or.inl rfl)) (pgs_cons (pg_name (i := 3) sc_common_class.nd rfl (Or.inl rfl)) pgs_nil))) (pgs_cons (pg_tup rfl (pgs_cons (pg_name (i := 4) sc_common_class.nd rfl (Or.inl rfl)) (pgs_cons (pg_name (i := 5) sc_common_class.nd rfl (Or.inl rfl)) pgs_nil))) pgs_nil))))
      (pss_cons (ps_if (PW.pt (pw_or (pt_cmpR op_eq (pv 3) pe_int (nomark _)) (pw_or1 (pt_cmpR op_eq (pv 5) pe_int (nomark _))))) (pss_cons (ps_if (PW.pt (pw_and (pt_cmpR op_eq (pv 3) pe_int (nomark _)) (pw_and1 (pt_cmpR op_gt (pv 5) pe_int (nomark _))))) (pss_one (ps_ret (pe_ifExp (pt_cmpR op_eq (pe_op op_mod (pe_op op_sub (pv 2) (pv 4)) (pv 5)) pe_int (nomark _)) (pv 0) pe_non))) pss_nil)
      (pss_cons (ps_if (PW.pt (pw_and (pt_cmpR op_eq (pv 5) pe_int (nomark _)) (pw_and1 (pt_cmpR op_gt (pv 3) pe_int (nomark _))))) (pss_one (ps_ret (pe_ifExp (pt_cmpR op_eq (pe_op op_mod (pe_op op_sub (pv 4) (pv 2)) (pv 3)) pe_int (nomark _)) (pv 1) pe_non))) pss_nil)
      (pss_one (ps_ret (pe_ifExp (pt_cmpR op_eq (pv 2) (pv 4) (nomark _)) (pv 0) pe_non))))) pss_nil)
      (pss_cons (ps_set (i := 6) sc_common_class.nd rfl (Or.inl rfl) (pe_cx c_common_divisor hr (by first | decide | omega) rfl passL (pa_cons (pv 3) (pa_cons (pv 5) pa_nil))))
      (pss_cons (ps_if (pt_cmpR op_ne (pe_op op_mod (pe_op op_sub (pv 2) (pv 4)) (pv 6)) pe_int (nomark _)) (pss_one (ps_ret pe_non)) pss_nil)
      (pss_cons (ps_set (i := 7) sc_common_class.nd rfl (Or.inl rfl) (pe_ifExp (pt_cmpR op_gt (pe_op op_fdivW (pv 5) (pv 6)) pe_int (nomark _)) (pe_op op_mulW (pe_op op_fdivW (pe_op op_sub (pv 4) (pv 2)) (pv 6)) (pe_cx c_inverse hr (by first | decide | omega) rfl passL (pa_cons (pe_op op_fdivW (pv 3) (pv 6)) (pa_cons (pe_op op_fdivW (pv 5) (pv 6)) pa_nil)))) pe_int))
      (pss_cons (ps_set (i := 8) sc_common_class.nd rfl (Or.inl rfl) (pe_op op_mulW (pe_op op_fdivW (pv 3) (pv 6)) (pv 5)))
      (pss_one (ps_ret (pe_tup (pa_cons (pe_op op_mod (pe_op op_add (pv 2) (pe_op op_mulW (pv 3) (pv 7))) (pv 8)) (pa_cons (pv 8) pa_nil))))))))))), ?_⟩
    walk_at "g"
    refine ⟨by show 2 ≤ sizeLine; decide, fun tt ntt => ?_⟩
    walk_at "g"
    have st := same_upd (o := .tup [.ref t1, .ref t2]) ntt
    refine ⟨tt, _, rfl, SqT.of upd_same, rfl, _, _, rfl, ?_⟩
    refine ⟨t1, _, rfl, SqT.of (st _ _ h1), rfl, _, _, rfl, _, _, rfl, rfl, _, _, rfl, ?_⟩
    refine ⟨t2, _, rfl, SqT.of (st _ _ h2), rfl, _, _, rfl, _, _, rfl, rfl, rfl, ?_⟩
    walk_at "g"
    have m0' : 0 ≤ m := m0
    have k0' : 0 ≤ k' := k0
    have zero : ∀ x : Int, (0 : Int) ∣ x ↔ x = 0 := fun x => Int.zero_dvd
    refine iteB (fun c1 => ?_) (fun c1 => ?_)
    · have em := of_dI c1
      subst em
      walk_at "g"
      refine iteB (fun c2 => ?_) (fun c2 => ?_)
      · have hk := of_decide_eq_true c2
        walk_at "g"
        refine ⟨hk, ?_⟩
        walk_at "g"
        refine iteB (fun c3 => ?_) (fun c3 => ?_)
        · have d := Int.dvd_of_emod_eq_zero (of_dI c3)
          walk_at "g"
          refine k (.ref t1) _ st (.inr ⟨t1, (r, 0), rfl, st _ _ h1, Int.le_refl _, fun z => absurd z (Int.lt_irrefl _), fun _ => .inl ⟨rfl, rfl⟩, fun n => ?_⟩)
          unfold CC
          dsimp only
          rw [zero]
          constructor
          · intro e
            exact ⟨e, by rw [show n - s' = r - s' by omega]; exact d⟩
          · exact fun e => e.1
        · have d : ¬ k' ∣ r - s' := fun z => of_dI' c3 (Int.emod_eq_zero_of_dvd z)
          walk_at "g"
          refine k .non _ st (.inl ⟨rfl, fun n z => d ?_⟩)
          have e := (zero _).mp z.1
          dsimp only at e
          rw [show r - s' = n - s' by omega]
          exact z.2
      · have hk := of_decide_eq_false c2
        have ek : k' = 0 := by omega
        subst ek
        walk_at "g"
        refine iteB (fun c3 => ?_) (fun c3 => ?_)
        · have e := of_dI c3
          walk_at "g"
          refine k (.ref t1) _ st (.inr ⟨t1, (r, 0), rfl, st _ _ h1, Int.le_refl _, fun z => absurd z (Int.lt_irrefl _), fun _ => .inl ⟨rfl, rfl⟩, fun n => ?_⟩)
          have e' : r = s' := e
          subst e'
          unfold CC
          exact ⟨fun z => ⟨z, z⟩, fun z => z.1⟩
        · have e := of_dI' c3
          walk_at "g"
          refine k .non _ st (.inl ⟨rfl, fun n z => e ?_⟩)
          have e1 := (zero _).mp z.1
          have e2 := (zero _).mp z.2
          dsimp only at e1 e2 ⊢
          omega
    · have nm := of_dI' c1
      have hm : 0 < m := by
        have : m ≠ 0 := nm
        omega
      walk_at "g"
      refine iteB (fun c2 => ?_) (fun c2 => ?_)
      · have ek := of_dI c2
        subst ek
        walk_at "g"
        have dm : decide (V.int (r, m).2 = V.int 0) = false := c1
        rw [dm]
        refine iteF ?_
        walk_at "g"
        rw [decide_eq_true hm]
        refine iteT ?_
        walk_at "g"
        refine ⟨hm, ?_⟩
        walk_at "g"
        refine iteB (fun c3 => ?_) (fun c3 => ?_)
        · have d := Int.dvd_of_emod_eq_zero (of_dI c3)
          walk_at "g"
          refine k (.ref t2) _ st (.inr ⟨t2, (s', 0), rfl, st _ _ h2, Int.le_refl _, fun z => absurd z (Int.lt_irrefl _), fun _ => .inr ⟨rfl, rfl⟩, fun n => ?_⟩)
          unfold CC
          dsimp only
          rw [zero]
          constructor
          · intro e
            exact ⟨by rw [show n - r = s' - r by omega]; exact d, e⟩
          · exact fun e => e.2
        · have d : ¬ m ∣ s' - r := fun z => of_dI' c3 (Int.emod_eq_zero_of_dvd z)
          walk_at "g"
          refine k .non _ st (.inl ⟨rfl, fun n z => d ?_⟩)
          have e := (zero _).mp z.2
          dsimp only at e
          rw [show s' - r = n - r by omega]
          exact z.1
      · have nk := of_dI' c2
        have hk : 0 < k' := by
          have : k' ≠ 0 := nk
          omega
        have mB' : Bd 3000 m := mB
        have kB' : Bd 3000 k' := kB
        have rB' := rB hm
        have sB' := sB hk
        have g0 : 0 < (Int.gcd m k' : Int) := gcd_pos hk
        have gB : Bd 3000 (Int.gcd m k' : Int) := gcd_bd hk kB'
        walk_at "g"
        refine ⟨g0, ?_⟩
        walk_at "g"
        have sdr : Bd 3001 (s' - r) := sB'.sub rB' (by omega)
        refine iteB (fun c3 => ?_) (fun c3 => ?_)
        · have hn : ¬ (Int.gcd m k' : Int) ∣ r - s' := fun z => by
            have c3' : (!decide (V.int ((r - s') % (Int.gcd m k' : Int)) = V.int 0)) = true := c3
            rw [dI, decide_eq_true (Int.emod_eq_zero_of_dvd z)] at c3'
            cases c3'
          walk_at "g"
          exact k .non _ st (.inl ⟨rfl, cc_no hn⟩)
        · have hd : (Int.gcd m k' : Int) ∣ s' - r := by
            have c3' : (!decide (V.int ((r - s') % (Int.gcd m k' : Int)) = V.int 0)) = false := c3
            rw [dI] at c3'
            have e0 : (r - s') % (Int.gcd m k' : Int) = 0 := of_decide_eq_true (by simpa using c3')
            have d := Int.dvd_of_emod_eq_zero e0
            have : s' - r = -(r - s') := by omega
            rw [this]
            exact Int.dvd_neg.mpr d
          obtain ⟨m1, k1, e1, e2, e3, e4, e5, e6⟩ := ediv_gcd (m := m) hk
          walk_at "g"
          refine ⟨cdivw g0 gB (by omega), ?_⟩
          walk_at "g"
          have lp : 0 < (Int.lcm m k' : Int) := lcm_pos' hm hk
          have le : m / (Int.gcd m k' : Int) * k' = (Int.lcm m k' : Int) := lcm_eq hm hk
          have fin : ∀ (tm : Int) (H' : Hp), Same H H' → k' ∣ r + m * tm - s' → ∀ u, H' u = none → Q (.ref u) (upd H' u (.tup [.int ((r + m * tm) % (Int.lcm m k' : Int)), .int (Int.lcm m k')])) := fun tm H' s2 hd2 u nu =>
            k (.ref u) _ (s2.upd' nu) (.inr ⟨u, ((r + m * tm) % (Int.lcm m k' : Int), (Int.lcm m k' : Int)), rfl, upd_same, Int.le_of_lt lp, fun _ => ⟨hm, hk, rfl⟩, fun (z : (Int.lcm m k' : Int) = 0) => absurd z (by omega), fun n => cc_whole hm hk (by rw [show r + m * tm - r = m * tm by omega]; exact Int.dvd_mul_right _ _) hd2 n⟩)
          refine iteB (fun c4 => ?_) (fun c4 => ?_)
          · have h4 : 1 < k' / (Int.gcd m k' : Int) := of_decide_eq_true c4
            walk_at "g"
            refine ⟨cdivw g0 gB (by omega), ?_⟩
            walk_at "g"
            refine ⟨cdivw g0 gB (by omega), ?_⟩
            walk_at "g"
            refine ⟨cdivw g0 gB (by omega), ?_⟩
            walk_at "g"
            refine ⟨show 0 < k' / (Int.gcd m k' : Int) by omega, by show Int.gcd (m / (Int.gcd m k' : Int)) (k' / (Int.gcd m k' : Int)) = 1; rw [e4, e5]; exact e6, (kB'.div g0).mono (by decide), fun x H6 s6 hx => ?_⟩
            have hx : Inv1 (m / (Int.gcd m k' : Int)) (k' / (Int.gcd m k' : Int)) x := hx
            have xB : Bd 3000 x := (kB'.div g0).le (by have := hx.1; have := hx.2.1; omega)
            walk_at "g"
            refine ⟨cmulw (sdr.div g0) xB (by omega), ?_⟩
            walk_at "g"
            refine ⟨cdivw g0 gB (by omega), ?_⟩
            walk_at "g"
            refine ⟨cmulw (mB'.div g0) kB' (by omega), ?_⟩
            walk_at "g"
            refine ⟨cmulw mB' ((sdr.div g0).mul xB) (by omega), ?_⟩
            walk_at "g"
            dsimp only
            rw [le]
            refine ⟨lp, ?_⟩
            walk_at "g"
            refine ⟨by show 2 ≤ sizeLine; decide, fun u nu => ?_⟩
            refine fin _ H6 (st.trans s6) ?_ u nu
            have R := ref_yes hk hd hx
            exact (R.iff _).mp (emod_sub_dvd _ _)
          · have h4 : ¬ k' / (Int.gcd m k' : Int) > 1 := of_decide_eq_false c4
            walk_at "g"
            refine ⟨cdivw g0 gB (by omega), ?_⟩
            walk_at "g"
            refine ⟨cmulw (mB'.div g0) kB' (by omega), ?_⟩
            walk_at "g"
            refine ⟨cmulw mB' (m := 5) (by show (0 : Int).natAbs < 2 ^ 5; decide) (by omega), ?_⟩
            walk_at "g"
            dsimp only
            rw [le]
            refine ⟨lp, ?_⟩
            walk_at "g"
            refine ⟨by show 2 ≤ sizeLine; decide, fun u nu => ?_⟩
            refine fin 0 _ st ?_ u nu
            have R := ref_one (r := r) (s := s') hk hd h4
            exact (R.iff 0).mp (by rw [Int.sub_self]; exact Int.dvd_zero _)
end
end Tr

namespace Tr
open PySem L2
/-- steps of a reading that are plain -/
local macro_rules | `(tactic| walk_at "x") => `(tactic| (refine' ⟨_, _, _, _, rfl, rfl, ?k1, ?k2, ?_⟩; (case k1 => exact SqT.of (by assumption)); (case k2 => exact rfl)))
local macro_rules | `(tactic| walk_at "g") => `(tactic| repeat (first | (refine ⟨_, rfl, ?_⟩) | (refine ⟨_, _, rfl, rfl, ?_⟩) | (refine ⟨_, _, rfl, ?_⟩) | (refine ⟨rfl, ?_⟩) | walk_at "x"))


/-! ### & of two Numbers -/
theorem CCR.tk {c d : Cl} {y : V} {H H' : Hp} (h : CCR c d y H) (t : ∀ b xs, H b = some (.tup xs) → H' b = some (.tup xs)) : CCR c d y H' := by
  rcases h with h | ⟨u, e, h1, h2, h3⟩
  · exact .inl h
  · exact .inr ⟨u, e, h1, t _ _ h2, h3⟩
/-- the pairs of the two lists, in the order of the two loops -/
def prods (cs es : List Cl) : List (Cl × Cl) := cs.flatMap fun c => es.map fun d => (c, d)
theorem prods_snoc (cs es : List Cl) (c : Cl) : prods (cs ++ [c]) es = prods cs es ++ es.map fun d => (c, d) := by
  unfold prods
  rw [List.flatMap_append]
  simp
theorem mem_prods {cs es : List Cl} {p : Cl × Cl} : p ∈ prods cs es ↔ p.1 ∈ cs ∧ p.2 ∈ es := by
  unfold prods
  rw [List.mem_flatMap]
  constructor
  · rintro ⟨c, hc, h⟩
    obtain ⟨d, hd, rfl⟩ := List.mem_map.mp h
    exact ⟨hc, hd⟩
  · rintro ⟨h1, h2⟩
    exact ⟨p.1, h1, List.mem_map.mpr ⟨p.2, h2, rfl⟩⟩
theorem len_prods (cs es : List Cl) : (prods cs es).length = cs.length * es.length := by
  unfold prods
  induction cs with
  | nil => simp
  | cons c cs ih =>
    rw [List.flatMap_cons, List.length_append, ih, List.length_map, List.length_cons, Nat.add_mul]
    omega
theorem cc_list {H : Hp} {ys : List V} {ps : List (Cl × Cl)} (h : P2 (fun y cd => CCR cd.1 cd.2 y H) ys ps) : ∃ (us : List Addr) (fs : List Cl), ys.filter (fun y => !decide (y = .non)) = us.map V.ref ∧ P2 (PrT H) us fs ∧ fs.length ≤ ps.length ∧
    (∀ n, cov fs n ↔ ∃ cd ∈ ps, CC cd.1 cd.2 n) ∧ ∀ e ∈ fs, ∃ cd ∈ ps, 0 ≤ e.2 ∧ (0 < e.2 → 0 < cd.1.2 ∧ 0 < cd.2.2 ∧ e.2 = Int.lcm cd.1.2 cd.2.2) ∧ (e.2 = 0 → (cd.1.2 = 0 ∧ e.1 = cd.1.1) ∨ (cd.2.2 = 0 ∧ e.1 = cd.2.1)) := by
  induction h with
  | nil => exact ⟨[], [], rfl, .nil, Nat.le_refl _, fun n => ⟨fun z => (cov_nil _ z).elim, fun ⟨_, z, _⟩ => (by cases z)⟩, fun e he => by cases he⟩
  | @cons y cd ys ps r _ ih =>
    obtain ⟨us, fs, e1, e2, e3, e4, e5⟩ := ih
    rcases r with ⟨rfl, hn⟩ | ⟨u, e, rfl, h1, h2, h3, h30, h4⟩
    · refine ⟨us, fs, by rw [List.filter_cons, if_neg (by simp)]; exact e1, e2, Nat.le_succ_of_le e3, fun n => ?_, fun e he => ?_⟩
      · rw [e4]
        constructor
        · rintro ⟨q, hq, z⟩
          exact ⟨q, List.mem_cons_of_mem _ hq, z⟩
        · rintro ⟨q, hq, z⟩
          rcases List.mem_cons.mp hq with rfl | hq
          · exact (hn n z).elim
          · exact ⟨q, hq, z⟩
      · obtain ⟨q, hq, z⟩ := e5 e he
        exact ⟨q, List.mem_cons_of_mem _ hq, z⟩
    · refine ⟨u :: us, e :: fs, by rw [List.filter_cons, if_pos (by simp), e1]; rfl, .cons h1 e2, Nat.succ_le_succ e3, fun n => ?_, fun e' he => ?_⟩
      · constructor
        · rintro ⟨c, hc, d⟩
          rcases List.mem_cons.mp hc with rfl | hc
          · exact ⟨cd, List.mem_cons_self, (h4 n).mp d⟩
          · obtain ⟨q, hq, z⟩ := (e4 n).mp ⟨c, hc, d⟩
            exact ⟨q, List.mem_cons_of_mem _ hq, z⟩
        · rintro ⟨q, hq, z⟩
          rcases List.mem_cons.mp hq with rfl | hq
          · exact ⟨e, List.mem_cons_self, (h4 n).mpr z⟩
          · obtain ⟨c, hc, d⟩ := (e4 n).mpr ⟨q, hq, z⟩
            exact ⟨c, List.mem_cons_of_mem _ hc, d⟩
      · rcases List.mem_cons.mp he with rfl | he
        · exact ⟨cd, List.mem_cons_self, h2, h3, h30⟩
        · obtain ⟨q, hq, z⟩ := e5 e' he
          exact ⟨q, List.mem_cons_of_mem _ hq, z⟩
theorem cov_told {ds : List Cl} {ns : List Int} (n : Int) : cov (ds ++ ns.map fun n => ((n, 0) : Cl)) n ↔ has ds ns n := by
  rw [cov_app]
  unfold has
  constructor
  · rintro (h | ⟨c, hc, d⟩)
    · exact .inr h
    · obtain ⟨m, hm, rfl⟩ := List.mem_map.mp hc
      dsimp only at d
      rw [Int.zero_dvd] at d
      exact .inl (by rw [show n = m by omega]; exact hm)
  · rintro (h | h)
    · exact .inr ⟨(n, 0), List.mem_map.mpr ⟨n, h, rfl⟩, by rw [Int.sub_self]; exact Int.dvd_zero _⟩
    · exact .inl h
section
variable {P : Program} {w : World} {K : PySem.W.Frag} {mg : Str → Option Value} {base : Heap}
def spAnd (C : Addr) : Sp := fun vs H Q _ => ∃ (a b : Addr) (ds : List Cl) (ns : List Int) (es : List Cl) (ms : List Int), vs = [.ref a, .ref b] ∧ NumAt C H a ds ns ∧ NumAt C H b es ms ∧ Ok ds ns ∧ Ok es ms ∧
  (∀ c ∈ ds, Bd 3000 c.2 ∧ Bd 3000 c.1) ∧ (∀ c ∈ es, Bd 3000 c.2 ∧ Bd 3000 c.1) ∧ (ds.length + ns.length) * (es.length + ms.length) < 64 ∧
  ∀ x cs fs gs H', Same H H' → H x = none → NumAt C H' x fs gs → Num cs fs gs → (∀ c ∈ cs, 0 ≤ c.2 ∧ Bd 8000 c.2) → cs.length < 64 → cs.length ≤ (ds.length + ns.length) * (es.length + ms.length) → (∀ c ∈ cs, c.2 = 0 → c.1 ∈ ns ∨ c.1 ∈ ms) → (∀ L, (∀ c ∈ ds, c.2 ∣ L) → (∀ c ∈ es, c.2 ∣ L) → ∀ c ∈ cs, 0 < c.2 → c.2 ∣ L) →
    (∀ n, cov cs n ↔ has ds ns n ∧ has es ms n) → Q (.ref x) H'
theorem c_and (T : Txt K mg) : Met P w K mg base 5 (He.ga K "Numbers") "__and__" (spAnd (He.ga K "Numbers")) [] := by
  have m_Numbers := @m_Numbers P w K mg base T
  have c_parts_told := @c_told P w K mg base T
  have c_common_class := @c_common_class P w K mg base T
  refine metN T.m_Numbers____and__ sc_Numbers___and__ (fun vs H Q E h => ?_) (fun _ _ _ _ _ _ us hl => match us, hl with | [_, _], _ => rfl) (fun f cdv A outer s H vs Q E hr h => ?_)
  · obtain ⟨a, b, _, _, _, _, rfl, _⟩ := h
    rfl
  · obtain ⟨a, b, ds, ns, es, ms, rfl, hA, hB, okA, okB, bA, bB, small, k⟩ := h
    obtain ⟨dxa, qa1, qa2, a1, _⟩ := id hA.ex
    obtain ⟨dxb, qb1, qb2, b1, _⟩ := id hB.ex
    refine ⟨_, (pss_cons (ps_if (pt_not (pt_val (pe_callB call_isi (by rfl) T.b_isinstance (by decide +kernel) (pa_cons (pv 1) (pa_cons (pe_glob (v := .ref (He.ga K "Numbers")) (by rfl) T.v_Numbers rfl) pa_nil))))) (pss_one ps_never) pss_nil)
      (pss_cons (ps_setLc2 (i := 2) (own := [("one", 3), ("two", 4)]) (vs1 := [4]) (g := gName 3) (g1 := gName 4) rfl sc_Numbers___and__.nd rfl rfl (sw_true rfl rfl rfl (by decide +kernel)) (pi_list (pe_mtx0 c_parts_told hr (by first | decide | omega) passL (pv 0))) (blkOk_by (own := [("one", 3), ("two", 4)]) (N := ["self", "other", "found", "one", "two", "pair"]) (sc := defScope s_Numbers___and__) (by decide +kernel)) (by decide) (fun _ _ _ _ _ => (pg_name (i := 3) sc_Numbers___and__.nd rfl (Or.inl rfl))) (fun _ _ _ _ _ => pts_nil) (fun _ _ _ _ _ => (pi_listK K (pe_mtx0 c_parts_told hr (by first | decide | omega) passL (pv 1)))) (fun _ _ _ _ _ => (pg_name (i := 4) sc_Numbers___and__.nd rfl (Or.inl rfl))) (fun _ _ _ _ _ => pts_nil) (fun _ _ _ _ _ => (pe_cx c_common_class hr (by first | decide | omega) rfl passL (pa_cons (pv 3) (pa_cons (pv 4) pa_nil)))))
      (pss_one (ps_ret (pe_mkx m_Numbers hr (by first | decide | omega) rfl passL (pa_cons (pe_lc (own := [("pair", 5)]) (g := gName 5) rfl sc_Numbers___and__.nd (pi_listK K (pv 2)) (blkOk_by (own := [("pair", 5)]) (N := ["self", "other", "found", "one", "two", "pair"]) (sc := defScope s_Numbers___and__) (by decide +kernel)) (fun _ _ _ _ _ => (pg_name (i := 5) sc_Numbers___and__.nd rfl (Or.inl rfl))) (fun _ _ _ _ _ => (pts_one (pt_cmpR op_notN (pv 5) pe_non (nomark _)))) (fun _ _ _ _ _ => (pv 5))) pa_nil)))))), ?_⟩
    walk_at "g"
    refine ⟨.ref b, .ref (He.ga K "Numbers"), _, _, true, rfl, .own _, T.o_Numbers.ty T.k_Numbers b1, kit_self, true, rfl, ?_⟩
    walk_at "g"
    refine ⟨a, dxa, _, rfl, a1, rfl, ?_⟩
    walk_at "g"
    refine ⟨a, ds, ns, rfl, hA, okA.l1, okA.l2, fun l1 H1 s1 nl1 hP1 => ?_⟩
    obtain ⟨ts1, hl1, pp1⟩ := id hP1
    have lx1 := pp1.len
    refine ⟨l1, rfl, ⟨_, SqL.of hl1⟩, fun D nD => ?_⟩
    obtain ⟨cs1, ecs1⟩ : ∃ cs1, cs1 = ds ++ ns.map fun n => ((n, 0) : Cl) := ⟨_, rfl⟩
    obtain ⟨cs2, ecs2⟩ : ∃ cs2, cs2 = es ++ ms.map fun n => ((n, 0) : Cl) := ⟨_, rfl⟩
    rw [← ecs1] at hP1 pp1 lx1
    have lc1 : cs1.length = ds.length + ns.length := by rw [ecs1, List.length_append, List.length_map]
    have lc2 : cs2.length = es.length + ms.length := by rw [ecs2, List.length_append, List.length_map]
    refine it_list (xs := ts1.map V.ref) (fun i H' => Same H1 H' ∧ ∃ ys, H' D = some (.lst ys) ∧ P2 (fun y cd => CCR cd.1 cd.2 y H') ys (prods (cs1.take i) cs2)) ⟨same_upd nD, [], upd_same, .nil⟩ (fun i H' _ ⟨s', _⟩ => SqL.of (s' _ _ hl1)) ?_ ?_
    · rintro i x H' hx ⟨s2, ys, hy, py⟩
      rw [List.getElem?_map] at hx
      cases ht : ts1[i]? with
      | none => rw [ht] at hx; cases hx
      | some t1 =>
        rw [ht] at hx
        cases hx
        obtain ⟨c, hc, rc⟩ := pp1.getl ht
        walk_at "g"
        have s12 := s1.trans s2
        refine ⟨b, dxb, _, rfl, s12 _ _ b1, rfl, ?_⟩
        walk_at "g"
        refine ⟨b, es, ms, rfl, hB.same s12, okB.l1, okB.l2, fun l2 H3 s3 nl2 hP2 => ?_⟩
        rw [← ecs2] at hP2
        obtain ⟨ts2, hl2, pp2⟩ := hP2
        have lx2 := pp2.len
        have hy3 := s3 _ _ hy
        have nl2D : l2 ≠ D := (ne_of_none hy nl2).symm
        have cd0 : ∀ {fs : List Cl} {ks : List Int}, Ok fs ks → (∀ c ∈ fs, Bd 3000 c.2 ∧ Bd 3000 c.1) → ∀ c ∈ fs ++ ks.map (fun n => ((n, 0) : Cl)), 0 ≤ c.2 ∧ Bd 3000 c.2 ∧ (0 < c.2 → Bd 3000 c.1) := fun {fs ks} ok bb c hc => by
          rcases List.mem_append.mp hc with hc | hc
          · exact ⟨Int.le_of_lt (ok.wf c hc).1, (bb c hc).1, fun _ => (bb c hc).2⟩
          · obtain ⟨n, _, rfl⟩ := List.mem_map.mp hc
            exact ⟨Int.le_refl _, Nat.two_pow_pos 3000, fun z => absurd z (Int.lt_irrefl _)⟩
        have cc := cd0 okA bA c (by rw [← ecs1]; exact mem_of_at hc)
        refine ⟨l2, rfl, ⟨_, SqL.of hl2⟩, ?_⟩
        refine it_list (xs := ts2.map V.ref) (fun j H' => Kp D H3 H' ∧ ∃ zs, H' D = some (.lst zs) ∧ P2 (fun y cd => CCR cd.1 cd.2 y H') zs (prods (cs1.take i) cs2 ++ (cs2.take j).map fun d => (c, d))) ?_ ?_ ?_ ?_
        · refine ⟨Kp.refl _ _, ys, hy3, ?_⟩
          rw [List.take_zero, List.map_nil, List.append_nil]
          exact py.mono fun y cd h => h.tk fun b' xs' e => s3 b' _ e
        · rintro j H4 _ ⟨kp4, _⟩
          exact SqL.of (kp4 _ _ hl2 nl2D)
        · rintro j x H4 hx ⟨kp4, zs, hz, pz⟩
          rw [List.getElem?_map] at hx
          cases ht2 : ts2[j]? with
          | none => rw [ht2] at hx; cases hx
          | some t2 =>
            rw [ht2] at hx
            cases hx
            obtain ⟨d, hd, rd⟩ := pp2.getl ht2
            have dd := cd0 okB bB d (by rw [← ecs2]; exact mem_of_at hd)
            walk_at "g"
            have r1 : PrT H4 t1 c := kp4 _ _ (s3 _ _ (s2 _ _ rc)) (ne_of (s3 _ _ (s2 _ _ rc)) hy3 (by intro z; cases z))
            have r2 : PrT H4 t2 d := kp4 _ _ rd (ne_of rd hy3 (by intro z; cases z))
            refine ⟨t1, t2, c, d, rfl, r1, r2, cc.1, dd.1, cc.2.1, dd.2.1, cc.2.2, dd.2.2, fun y H5 s5 hr5 => ?_⟩
            have hz5 := s5 _ _ hz
            have ll : zs.length ≤ 100000 := by
              have := pz.len
              rw [List.length_append, len_prods, List.length_map, List.length_take, List.length_take] at this
              have h1 : min i cs1.length * cs2.length ≤ cs1.length * cs2.length := Nat.mul_le_mul_right _ (Nat.min_le_right _ _)
              have h2 : cs1.length * cs2.length < 64 := by rw [lc1, lc2]; exact small
              have h3 : cs2.length < 128 := by rw [lc2]; have := okB.l1; have := okB.l2; omega
              omega
            refine ⟨zs, hz5, small_app (Nat.le_refl _) ll, (kp4.trans s5.kp).trans (kp_upd D H5 _), zs ++ [y], upd_same, ?_⟩
            rw [take_snoc hd, List.map_append, ← List.append_assoc]
            exact ((pz.mono fun y cd h => (h.tk fun b' xs' e => s5 b' _ e).tk (tk_upd hz5)).snoc (hr5.tk (tk_upd hz5)))
        · rintro H4 ⟨kp4, zs, hz, pz⟩
          rw [List.length_map, lx2, List.take_length, ← prods_snoc, ← take_snoc hc] at pz
          exact ⟨fun b' o' e => kp4 _ _ (s3 _ _ (s2 _ _ e)) (ne_of_none e nD), zs, hz, pz⟩
    · rintro H' ⟨s2, ys, hy, py⟩
      rw [List.length_map, lx1, List.take_length] at py
      walk_at "g"
      refine ⟨⟨_, SqL.of hy⟩, fun D2 nD2 => ?_⟩
      have lp : ys.length < 64 := by rw [py.len, len_prods, lc1, lc2]; exact small
      refine it_list (xs := ys) (fun i H2 => Same H' H2 ∧ H2 D2 = some (.lst ((ys.take i).filter fun y => !decide (y = .non)))) ⟨same_upd nD2, upd_same⟩ (fun i H2 _ ⟨s', _⟩ => SqL.of (s' _ _ hy)) ?_ ?_
      · rintro i y H2 hyi ⟨s3, h3⟩
        have ll : ((ys.take i).filter fun y => !decide (y = .non)).length ≤ 100000 := by
          have h1 := List.length_filter_le (fun y : V => !decide (y = .non)) (ys.take i)
          rw [List.length_take] at h1
          omega
        walk_at "g"
        rw [take_snoc hyi, List.filter_append]
        cases e : (!decide (y = V.non)) with
        | true =>
          refine iteT ?_
          walk_at "g"
          refine ⟨_, h3, small_app (Nat.le_refl _) ll, s3.wr nD2, ?_⟩
          rw [List.filter_cons, if_pos e, List.filter_nil]
          exact upd_same
        | false =>
          refine iteF ?_
          refine ⟨s3, ?_⟩
          rw [List.filter_cons, if_neg (by rw [e]; exact Bool.false_ne_true), List.filter_nil, List.append_nil]
          exact h3
      · rintro H2 ⟨s3, h3⟩
        rw [List.take_length] at h3
        obtain ⟨us, fs, f1, f2, f3, f4, f5⟩ := cc_list (py.mono fun y cd h => h.tk fun b' xs' e => s3 b' _ e)
        rw [f1] at h3
        have s13 : Same H H2 := (s1.trans s2).trans s3
        have flen : fs.length < 64 := by
          rw [len_prods, lc1, lc2] at f3
          omega
        have fb : ∀ e ∈ fs, 0 ≤ e.2 ∧ Bd 8000 e.2 := fun e he => by
          obtain ⟨q, hq, z1, z2, z3⟩ := f5 e he
          refine ⟨z1, ?_⟩
          rcases Int.lt_trichotomy 0 e.2 with h | h | h
          · obtain ⟨w1, w2, w3⟩ := z2 h
            obtain ⟨h1, h2⟩ := mem_prods.mp hq
            have b1 : Bd 3000 q.1.2 := by
              rw [ecs1] at h1
              rcases List.mem_append.mp h1 with h1 | h1
              · exact (bA _ h1).1
              · obtain ⟨n, _, e⟩ := List.mem_map.mp h1
                rw [← e] at w1
                exact absurd w1 (Int.lt_irrefl _)
            have b2 : Bd 3000 q.2.2 := by
              rw [ecs2] at h2
              rcases List.mem_append.mp h2 with h2 | h2
              · exact (bB _ h2).1
              · obtain ⟨n, _, e⟩ := List.mem_map.mp h2
                rw [← e] at w2
                exact absurd w2 (Int.lt_irrefl _)
            rw [w3, ← lcm_eq w1 w2]
            exact ((b1.div (gcd_pos w2)).mul b2).mono (by decide)
          · rw [← h]
            exact Nat.two_pow_pos 8000
          · omega
        walk_at "g"
        intro x dx nx ndx ne0
        refine ⟨x, dx, D2, fs, rfl, upd_same, PL.same (same_made nx ndx) ⟨us, h3, f2⟩, fb, flen, fun hs gs H5 kp5 hN hM => ⟨rfl, ?_⟩⟩
        refine k x fs hs gs H5 (s13.trans (mk_same kp5 nx ndx)) (s13.free nx) hN hM fb flen (by rw [len_prods, lc1, lc2] at f3; exact f3) ?_ ?_ ?_
        · intro e he e0
          obtain ⟨q, hq, z1, z2, z3⟩ := f5 e he
          obtain ⟨h1, h2⟩ := mem_prods.mp hq
          have one : ∀ {ds : List Cl} {ns : List Int} {c : Cl}, WfC ds → c ∈ ds ++ ns.map (fun n => ((n, 0) : Cl)) → c.2 = 0 → c.1 ∈ ns := fun {ds ns c} wf hc h0 => by
            rcases List.mem_append.mp hc with hc | hc
            · have := (wf c hc).1
              omega
            · obtain ⟨n, hn, rfl⟩ := List.mem_map.mp hc
              exact hn
          rcases z3 e0 with ⟨w1, w2⟩ | ⟨w1, w2⟩
          · rw [w2]
            exact .inl (one okA.wf (by rw [← ecs1]; exact h1) w1)
          · rw [w2]
            exact .inr (one okB.wf (by rw [← ecs2]; exact h2) w1)
        · intro L hL1 hL2 e he h0
          obtain ⟨q, hq, z1, z2, z3⟩ := f5 e he
          obtain ⟨w1, w2, w3⟩ := z2 h0
          obtain ⟨h1, h2⟩ := mem_prods.mp hq
          rw [w3]
          refine Int.coe_lcm_dvd ?_ ?_
          · rw [ecs1] at h1
            rcases List.mem_append.mp h1 with h1 | h1
            · exact hL1 _ h1
            · obtain ⟨n, _, e⟩ := List.mem_map.mp h1
              rw [← e] at w1
              exact absurd w1 (Int.lt_irrefl _)
          · rw [ecs2] at h2
            rcases List.mem_append.mp h2 with h2 | h2
            · exact hL2 _ h2
            · obtain ⟨n, _, e⟩ := List.mem_map.mp h2
              rw [← e] at w2
              exact absurd w2 (Int.lt_irrefl _)
        · intro n
          rw [f4, ← cov_told, ← cov_told, ← ecs1, ← ecs2]
          constructor
          · rintro ⟨q, hq, z1, z2⟩
            obtain ⟨h1, h2⟩ := mem_prods.mp hq
            exact ⟨⟨q.1, h1, z1⟩, ⟨q.2, h2, z2⟩⟩
          · rintro ⟨⟨c, hc, z1⟩, ⟨d, hd, z2⟩⟩
            exact ⟨(c, d), mem_prods.mpr ⟨hc, hd⟩, z1, z2⟩
end
end Tr

namespace Tr
open PySem L2
/-- steps of a reading that are plain -/
local macro_rules | `(tactic| walk_at "x") => `(tactic| (refine' ⟨_, _, _, _, rfl, rfl, ?k1, ?k2, ?_⟩; (case k1 => exact SqT.of (by assumption)); (case k2 => exact rfl)))
local macro_rules | `(tactic| walk_at "g") => `(tactic| repeat (first | (refine ⟨_, rfl, ?_⟩) | (refine ⟨_, _, rfl, rfl, ?_⟩) | (refine ⟨_, _, rfl, ?_⟩) | (refine ⟨rfl, ?_⟩) | walk_at "x"))


section
variable {P : Program} {w : World} {K : PySem.W.Frag} {mg : Str → Option Value} {base : Heap}
def spBool (C : Addr) : Sp := fun vs H Q _ => ∃ (a : Addr) (ds : List Cl) (ns : List Int), vs = [.ref a] ∧ NumAt C H a ds ns ∧ Q (.bl (decide (0 < ds.length) || decide (0 < ns.length))) H
theorem c_bool (T : Txt K mg) : Met P w K mg base 1 (He.ga K "Numbers") "__bool__" (spBool (He.ga K "Numbers")) [] := by
  refine metN T.m_Numbers____bool__ sc_Numbers___bool__ (fun vs H Q E h => ?_) (fun _ _ _ _ _ _ us hl => match us, hl with | [_], _ => rfl) (fun f cdv A outer s H vs Q E hr h => ?_)
  · obtain ⟨a, ds, ns, rfl, _⟩ := h
    rfl
  · obtain ⟨a, ds, ns, rfl, hN, k⟩ := h
    obtain ⟨dx, q1, q2, e1, ⟨ts, e2, pp⟩, e3⟩ := hN.ex
    refine ⟨_, (pss_one (ps_ret (pe_or (pe_cmpR op_gt (pe_callB call_len (by rfl) T.b_len (by decide +kernel) (pa_cons (pe_fldK K (pv 0) (by rfl)) pa_nil)) pe_int (nomark _)) (pe_one (pe_cmpR op_gt (pe_callB call_len (by rfl) T.b_len (by decide +kernel) (pa_cons (pe_fldK K (pv 0) (by rfl)) pa_nil)) pe_int (nomark _)))))), ?_⟩
    have hl := pp.len
    walk_at "g"
    refine ⟨a, _, dx, _, _, rfl, e1, T.k_Numbers, T.a_Numbers__classes, rfl, ?_⟩
    refine ⟨_, _, rfl, .inl ⟨_, SqL.of e2, rfl⟩, ?_⟩
    walk_at "g"
    rw [List.length_map, hl]
    have e0 : decide ((0 : Int) < (ds.length : Int)) = decide (0 < ds.length) := decide_eq_decide.mpr (by omega)
    have e9 : decide ((0 : Int) < (ns.length : Int)) = decide (0 < ns.length) := decide_eq_decide.mpr (by omega)
    rw [e0]
    cases hb : decide (0 < ds.length) with
    | true =>
      rw [hb] at k
      exact k
    | false =>
      rw [hb, Bool.false_or, ← e9] at k
      refine iteF ?_
      walk_at "g"
      refine ⟨a, _, dx, _, _, rfl, e1, T.k_Numbers, T.a_Numbers__singles, rfl, ?_⟩
      refine ⟨_, _, rfl, .inl ⟨_, SqL.of e3, rfl⟩, ?_⟩
      walk_at "g"
      rw [List.length_map]
      exact k
end
end Tr

namespace Tr
open PySem L2
/-- steps of a reading that are plain -/
local macro_rules | `(tactic| walk_at "x") => `(tactic| (refine' ⟨_, _, _, _, rfl, rfl, ?k1, ?k2, ?_⟩; (case k1 => exact SqT.of (by assumption)); (case k2 => exact rfl)))
local macro_rules | `(tactic| walk_at "g") => `(tactic| repeat (first | (refine ⟨_, rfl, ?_⟩) | (refine ⟨_, _, rfl, rfl, ?_⟩) | (refine ⟨_, _, rfl, ?_⟩) | (refine ⟨rfl, ?_⟩) | walk_at "x"))


/-! ### sets: a Numbers by its members -/
section
variable {P : Program} {w : World} {K : PySem.W.Frag} {mg : Str → Option Value} {base : Heap}
theorem Met.imp {k : Nat} {C : Addr} {x : Str} {sp sp' : Sp} {dvs : List V} (c : Met P w K mg base k C x sp dvs) (h : ∀ vs H Q E, sp' vs H Q E → sp vs H Q E) : Met P w K mg base k C x sp' dvs :=
  let ⟨f, fd, ps, ds, a, b, F, r⟩ := c.ex
  ⟨f, fd, ps, ds, a, b, F.imp h, r⟩
theorem Mak.imp {k : Nat} {C : Addr} {x : Str} {sp sp' : Sp} {dvs : List V} (c : Mak P w K mg base k x C sp dvs) (h : ∀ vs H Q E, sp' vs H Q E → sp vs H Q E) : Mak P w K mg base k x C sp' dvs :=
  let ⟨f, fd, ps, ds, a, F, r⟩ := c.ex
  ⟨f, fd, ps, ds, a, F.imp h, r⟩
theorem Pro.imp {k : Nat} {C : Addr} {x : Str} {sp sp' : Sp} (c : Pro P w K mg base k C x sp) (h : ∀ vs H Q E, sp' vs H Q E → sp vs H Q E) : Pro P w K mg base k C x sp' :=
  let ⟨p, g, fd, ps, a, b, F, r⟩ := c.ex
  ⟨p, g, fd, ps, a, b, F.imp h, r⟩
theorem Sta.imp {k : Nat} {C : Addr} {x : Str} {sp sp' : Sp} (c : Sta P w K mg base k C x sp) (h : ∀ vs H Q E, sp' vs H Q E → sp vs H Q E) : Sta P w K mg base k C x sp' :=
  let ⟨p, g, fd, ps, a, F, r⟩ := c.ex
  ⟨p, g, fd, ps, a, F.imp h, r⟩
end
theorem Num.len2 {cs ds : List Cl} {ns : List Int} (h : Num cs ds ns) (hc : ∀ c ∈ cs, 0 ≤ c.2) : ds.length + ns.length ≤ cs.length := by
  have h1 := h.tidy.len
  have h2 : (ns.map fun n => ((n, 0) : Cl)).length ≤ (cs.filter fun c => !decide (0 < c.2)).length := by
    refine nodup_len _ _ ?_ fun x hx => ?_
    · refine List.Pairwise.map _ (fun a b (q : a ≠ b) e => q ?_) (h.up.imp fun z => Int.ne_of_lt z)
      exact (Prod.mk.inj e).1
    · obtain ⟨n, hn, rfl⟩ := List.mem_map.mp hx
      exact List.mem_filter.mpr ⟨((h.mem n).mp hn).1, by show (!decide ((0 : Int) < 0)) = true; decide⟩
  rw [List.length_map] at h2
  have h3 : (cs.filter fun c => decide (0 < c.2)).length + (cs.filter fun c => !decide (0 < c.2)).length = cs.length := by
    clear h h1 h2 hc
    induction cs with
    | nil => rfl
    | cons c cs ih =>
      rw [List.filter_cons, List.filter_cons]
      cases decide (0 < c.2) <;> simp only [Bool.not_true, Bool.not_false, if_true, if_false, Bool.false_eq_true, List.length_cons] <;> omega
  omega
/-- classes and singles that hold the set S, at most N of them, moduli that divide L -/
structure NbOk (L : Int) (B : Nat) (ds : List Cl) (ns : List Int) (S : Int → Prop) (N : Nat) : Prop where
  L0 : 0 < L
  LB : Bd 2900 L
  ok : Ok ds ns
  dvd : ∀ e ∈ ds, e.2 ∣ L
  lo : ∀ e ∈ ds, e.1 < e.2
  iff : ∀ n, has ds ns n ↔ S n
  len : ds.length + ns.length ≤ N
  sm : ∀ n ∈ ns, Bd B n
/-- a Numbers with these members stands at a -/
structure NbAt (C : Addr) (L : Int) (B : Nat) (H : Hp) (a : Addr) (S : Int → Prop) (N : Nat) : Prop where
  ex : ∃ ds ns, NumAt C H a ds ns ∧ NbOk L B ds ns S N
section
variable {C a p : Addr} {L M : Int} {B : Nat} {H H' : Hp} {S S' : Int → Prop} {N N' : Nat} {ds cs : List Cl} {ns : List Int}
theorem NbOk.bd (h : NbOk L B ds ns S N) : ∀ c ∈ ds, Bd 2900 c.2 ∧ Bd 2900 c.1 := fun c hc => by
  obtain ⟨w1, w2, w3, w4⟩ := h.ok.wf c hc
  have b : Bd 2900 c.2 := h.LB.le (by have := Int.le_of_dvd h.L0 (h.dvd c hc); omega)
  exact ⟨b, b.le (by have := h.lo c hc; omega)⟩
theorem NbAt.same (s : Same H H') (h : NbAt C L B H a S N) : NbAt C L B H' a S N :=
  let ⟨ds, ns, h1, h2⟩ := h.ex
  ⟨ds, ns, h1.same s, h2⟩
theorem NbAt.kpB {kvs : List (Key × V)} (k : Kp p H H') (hp : H p = some (.dK kvs)) (h : NbAt C L B H a S N) : NbAt C L B H' a S N :=
  let ⟨ds, ns, h1, h2⟩ := h.ex
  ⟨ds, ns, h1.kpB k hp, h2⟩
theorem NbAt.at_ (h : NbAt C L B H a S N) : ∃ dx fs, H a = some (.ins C dx fs) :=
  let ⟨ds, ns, h1, h2⟩ := h.ex
  let ⟨dx, q1, q2, e, _⟩ := h1.ex
  ⟨dx, _, e⟩
theorem NbAt.atf (h : NbAt C L B H a S N) : ∃ dx q1 q2, H a = some (.ins C dx (flds q1 q2)) :=
  let ⟨ds, ns, h1, h2⟩ := h.ex
  let ⟨dx, q1, q2, e, _⟩ := h1.ex
  ⟨dx, q1, q2, e⟩
theorem NbAt.cong (h : NbAt C L B H a S N) (e : ∀ n, S n ↔ S' n) : NbAt C L B H a S' N :=
  let ⟨ds, ns, h1, h2⟩ := h.ex
  ⟨ds, ns, h1, { h2 with iff := fun n => (h2.iff n).trans (e n) }⟩
theorem NbAt.mono (h : NbAt C L B H a S N) (e : N ≤ N') : NbAt C L B H a S N' :=
  let ⟨ds, ns, h1, h2⟩ := h.ex
  ⟨ds, ns, h1, { h2 with len := Nat.le_trans h2.len e }⟩
theorem NbAt.wide (h : NbAt C L B H a S N) (d : L ∣ M) (M0 : 0 < M) (MB : Bd 2900 M) : NbAt C M B H a S N :=
  let ⟨ds, ns, h1, h2⟩ := h.ex
  ⟨ds, ns, h1, { h2 with L0 := M0, LB := MB, dvd := fun e he => Int.dvd_trans (h2.dvd e he) d }⟩
theorem NbOk.of (h : Num cs ds ns) (L0 : 0 < L) (LB : Bd 2900 L) (hd : Dv L cs) (hl : cs.length < 64) (hb : ∀ c ∈ cs, c.2 = 0 → Bd B c.1) : NbOk L B ds ns (cov cs) cs.length where
  L0 := L0
  LB := LB
  ok := h.ok (hd.bd L0 (LB.mono (by decide))) hl
  dvd := h.dvd fun c hc h0 => (hd c hc).elim (fun e => by omega) fun e => e.2
  lo := fun e he => (h.tidy.pos (fun c hcm => of_decide_eq_true (List.mem_filter.mp hcm).2) e he).2.2
  iff := h.has hd.nn
  len := h.len2 hd.nn
  sm := fun n hn => hb _ ((h.mem n).mp hn).1 rfl
end
section
variable {P : Program} {w : World} {K : PySem.W.Frag} {mg : Str → Option Value} {base : Heap}
def spMakeS (C : Addr) : Sp := fun vs H Q _ => ∃ (x dx p : Addr) (cs : List Cl) (L : Int) (B : Nat), vs = [.ref x, .ref p] ∧ H x = some (.ins C dx []) ∧ PL H p cs ∧ 0 < L ∧ Bd 2900 L ∧ Dv L cs ∧ cs.length < 64 ∧ (∀ c ∈ cs, c.2 = 0 → Bd B c.1) ∧
  ∀ H', (∀ b o, H b = some o → b ≠ x → H' b = some o) → NbAt C L B H' x (cov cs) cs.length → Q .non H'
theorem m_NumbersS (T : Txt K mg) : Mak P w K mg base 3 "Numbers" (He.ga K "Numbers") (spMakeS (He.ga K "Numbers")) [] := by
  refine (m_Numbers T).imp fun vs H Q E h => ?_
  obtain ⟨x, dx, p, cs, L, B, rfl, hx, hP, L0, LB, hd, hl, hb, k⟩ := h
  exact ⟨x, dx, p, cs, rfl, hx, hP, hd.bd L0 (LB.mono (by decide)), hl, fun ds ns H' kp hN nm => k H' kp ⟨ds, ns, hN, .of nm L0 LB hd hl hb⟩⟩
def spMake0S (C d : Addr) : Sp := fun vs H Q _ => ∃ (x dx : Addr), vs = [.ref x, .ref d] ∧ H x = some (.ins C dx []) ∧
  ∀ H', (∀ b o, H b = some o → b ≠ x → H' b = some o) → (∀ L B, 0 < L → Bd 2900 L → NbAt C L B H' x (fun _ => False) 0) → Q .non H'
theorem m_Numbers0S (T : Txt K mg) : ∃ d, Mak P w K mg base 3 "Numbers" (He.ga K "Numbers") (spMake0S (He.ga K "Numbers") d) [.ref d] := by
  obtain ⟨d, m⟩ := @m_Numbers0 P w K mg base T
  refine ⟨d, m.imp fun vs H Q E h => ?_⟩
  obtain ⟨x, dx, rfl, hx, k⟩ := h
  exact ⟨x, dx, rfl, hx, fun ds ns H' kp hN nm => k H' kp fun L B L0 LB => NbAt.cong (S := cov []) ⟨ds, ns, hN, .of nm L0 LB (fun c hc => by cases hc) (by decide) (fun c hc => by cases hc)⟩ fun n => ⟨fun z => cov_nil _ z, fun z => z.elim⟩⟩
def spHasS (C : Addr) : Sp := fun vs H Q _ => ∃ (a : Addr) (n L : Int) (B : Nat) (S : Int → Prop) (N : Nat), vs = [.ref a, .int n] ∧ NbAt C L B H a S N ∧ ∀ (b : Bool) H', Same H H' → (b = true ↔ S n) → Q (.bl b) H'
theorem c_hasS (T : Txt K mg) : Met P w K mg base 2 (He.ga K "Numbers") "__contains__" (spHasS (He.ga K "Numbers")) [] := by
  refine (c_has T).imp fun vs H Q E h => ?_
  obtain ⟨a, n, L, B, S, N, rfl, ⟨ds, ns, hN, ok⟩, k⟩ := h
  exact ⟨a, _, rfl, .inl ⟨n, ds, ns, rfl, hN, ok.ok, fun H' s => k _ H' s ((hasB_iff _ _ _).trans (ok.iff n))⟩⟩
def spBoolS (C : Addr) : Sp := fun vs H Q _ => ∃ (a : Addr) (L : Int) (B : Nat) (S : Int → Prop) (N : Nat), vs = [.ref a] ∧ NbAt C L B H a S N ∧ ∀ b : Bool, (b = true ↔ ∃ n, S n) → Q (.bl b) H
theorem c_boolS (T : Txt K mg) : Met P w K mg base 1 (He.ga K "Numbers") "__bool__" (spBoolS (He.ga K "Numbers")) [] := by
  refine (c_bool T).imp fun vs H Q E h => ?_
  obtain ⟨a, L, B, S, N, rfl, ⟨ds, ns, hN, ok⟩, k⟩ := h
  refine ⟨a, ds, ns, rfl, hN, k _ ?_⟩
  rw [Bool.or_eq_true, decide_eq_true_eq, decide_eq_true_eq]
  constructor
  · rintro (h | h)
    · cases ds with
      | nil => simp at h
      | cons d ds => exact ⟨d.1, (ok.iff _).mp (.inr ⟨d, List.mem_cons_self, by rw [Int.sub_self]; exact Int.dvd_zero _⟩)⟩
    · cases ns with
      | nil => simp at h
      | cons n ns => exact ⟨n, (ok.iff _).mp (.inl List.mem_cons_self)⟩
  · rintro ⟨n, hn⟩
    rcases (ok.iff n).mpr hn with h | ⟨c, hc, _⟩
    · exact .inr (List.length_pos_of_mem h)
    · exact .inl (List.length_pos_of_mem hc)
def spOutS (C : Addr) : Sp := fun vs H Q _ => ∃ (a b : Addr) (L : Int) (B : Nat) (S : Int → Prop) (N : Nat) (S' : Int → Prop) (N' : Nat), vs = [.ref a, .ref b] ∧ NbAt C L B H a S N ∧ NbAt C L B H b S' N' ∧
  ∀ o H', Same H H' → (match o with | none => ∀ n, S n → S' n | some n => S n ∧ ¬ S' n) → Q (oV o) H'
theorem c_outsideS (T : Txt K mg) : Met P w K mg base 70 (He.ga K "Numbers") "outside" (spOutS (He.ga K "Numbers")) [] := by
  refine (c_outside T).imp fun vs H Q E h => ?_
  obtain ⟨a, b, L, B, S, N, S', N', rfl, ⟨ds, ns, hA, okA⟩, ⟨es, ms, hB, okB⟩, k⟩ := h
  refine ⟨a, b, ds, ns, es, ms, L, rfl, hA, hB, okA.ok, okB.ok, okA.L0, okA.LB.mono (by decide), okB.dvd, fun o H' s ho => k o H' s ?_⟩
  cases o with
  | none => exact fun n hn => (okB.iff n).mp (ho n ((okA.iff n).mpr hn))
  | some n => exact ⟨(okA.iff n).mp ho.1, fun z => ho.2 ((okB.iff n).mpr z)⟩
def spWithinS (C : Addr) : Sp := fun vs H Q _ => ∃ (a b : Addr) (L : Int) (B : Nat) (S : Int → Prop) (N : Nat) (S' : Int → Prop) (N' : Nat), vs = [.ref a, .ref b] ∧ NbAt C L B H a S N ∧ NbAt C L B H b S' N' ∧
  ∀ (r : Bool) H', Same H H' → (r = true ↔ ∀ n, S n → S' n) → Q (.bl r) H'
theorem c_withinS (T : Txt K mg) : Met P w K mg base 71 (He.ga K "Numbers") "within" (spWithinS (He.ga K "Numbers")) [] := by
  refine (c_within T).imp fun vs H Q E h => ?_
  obtain ⟨a, b, L, B, S, N, S', N', rfl, ⟨ds, ns, hA, okA⟩, ⟨es, ms, hB, okB⟩, k⟩ := h
  refine ⟨a, b, ds, ns, es, ms, L, rfl, hA, hB, okA.ok, okB.ok, okA.L0, okA.LB.mono (by decide), okB.dvd, fun r H' s hr => k r H' s (hr.trans ?_)⟩
  exact ⟨fun z n hn => (okB.iff n).mp (z n ((okA.iff n).mpr hn)), fun z n hn => (okB.iff n).mpr (z n ((okA.iff n).mp hn))⟩
def spEqS (C : Addr) : Sp := fun vs H Q _ => ∃ (a b : Addr) (L : Int) (B : Nat) (S : Int → Prop) (N : Nat) (S' : Int → Prop) (N' : Nat), vs = [.ref a, .ref b] ∧ NbAt C L B H a S N ∧ NbAt C L B H b S' N' ∧
  ∀ (r : Bool) H', Same H H' → (r = true ↔ ∀ n, S n ↔ S' n) → Q (.bl r) H'
theorem c_eqS (T : Txt K mg) : Met P w K mg base 71 (He.ga K "Numbers") "__eq__" (spEqS (He.ga K "Numbers")) [] := by
  refine (c_eq T).imp fun vs H Q E h => ?_
  obtain ⟨a, b, L, B, S, N, S', N', rfl, ⟨ds, ns, hA, okA⟩, ⟨es, ms, hB, okB⟩, k⟩ := h
  refine ⟨a, b, ds, ns, es, ms, L, rfl, hA, hB, okA.ok, okB.ok, okA.L0, okA.LB.mono (by decide), okA.dvd, okB.dvd, fun r H' s hr => k r H' s (hr.trans ?_)⟩
  exact ⟨fun z n => (okA.iff n).symm.trans ((z n).trans (okB.iff n)), fun z n => (okA.iff n).trans ((z n).trans (okB.iff n).symm)⟩
def spAndS (C : Addr) : Sp := fun vs H Q _ => ∃ (a b : Addr) (L : Int) (B : Nat) (S : Int → Prop) (N : Nat) (S' : Int → Prop) (N' : Nat), vs = [.ref a, .ref b] ∧ NbAt C L B H a S N ∧ NbAt C L B H b S' N' ∧ N * N' < 64 ∧
  ∀ x H', Same H H' → H x = none → NbAt C L B H' x (fun n => S n ∧ S' n) (N * N') → Q (.ref x) H'
theorem Num.lo {cs ds : List Cl} {ns : List Int} (h : Num cs ds ns) : ∀ e ∈ ds, e.1 < e.2 := fun e he => (h.tidy.pos (fun c hcm => of_decide_eq_true (List.mem_filter.mp hcm).2) e he).2.2
theorem c_andS (T : Txt K mg) : Met P w K mg base 5 (He.ga K "Numbers") "__and__" (spAndS (He.ga K "Numbers")) [] := by
  refine (c_and T).imp fun vs H Q E h => ?_
  obtain ⟨a, b, L, B, S, N, S', N', rfl, ⟨ds, ns, hA, okA⟩, ⟨es, ms, hB, okB⟩, hl, k⟩ := h
  have hl2 : (ds.length + ns.length) * (es.length + ms.length) ≤ N * N' := Nat.mul_le_mul okA.len okB.len
  refine ⟨a, b, ds, ns, es, ms, rfl, hA, hB, okA.ok, okB.ok, fun c hc => ⟨(okA.bd c hc).1.mono (by decide), (okA.bd c hc).2.mono (by decide)⟩, fun c hc => ⟨(okB.bd c hc).1.mono (by decide), (okB.bd c hc).2.mono (by decide)⟩, Nat.lt_of_le_of_lt hl2 hl, fun x cs fs gs H' s nx hN nm bcs lcs lle ssm dcs hcs => k x H' s nx ⟨fs, gs, hN, okA.L0, okA.LB, nm.ok bcs lcs, nm.dvd (dcs L okA.dvd okB.dvd), nm.lo, fun n => ?_, ?_, fun n hn => (ssm _ ((nm.mem n).mp hn).1 rfl).elim (okA.sm n) (okB.sm n)⟩⟩
  · rw [nm.has (fun c hc => (bcs c hc).1) n, hcs, okA.iff, okB.iff]
  · exact Nat.le_trans (Nat.le_trans (nm.len2 fun c hc => (bcs c hc).1) lle) hl2
def spOrS (C : Addr) : Sp := fun vs H Q _ => ∃ (a b : Addr) (L : Int) (B : Nat) (S : Int → Prop) (N : Nat) (S' : Int → Prop) (N' : Nat), vs = [.ref a, .ref b] ∧ NbAt C L B H a S N ∧ NbAt C L B H b S' N' ∧ N + N' < 64 ∧
  ∀ x H', Same H H' → H x = none → NbAt C L B H' x (fun n => S n ∨ S' n) (N + N') → Q (.ref x) H'
theorem NbOk.told {L : Int} {B : Nat} {ds : List Cl} {ns : List Int} {S : Int → Prop} {N : Nat} (h : NbOk L B ds ns S N) : Dv L (ds ++ ns.map fun n => ((n, 0) : Cl)) := fun c hc => by
  rcases List.mem_append.mp hc with hc | hc
  · exact .inr ⟨(h.ok.wf c hc).1, h.dvd c hc⟩
  · obtain ⟨n, _, rfl⟩ := List.mem_map.mp hc
    exact .inl rfl
theorem NbOk.toldB {L : Int} {B : Nat} {ds : List Cl} {ns : List Int} {S : Int → Prop} {N : Nat} (h : NbOk L B ds ns S N) : ∀ c ∈ ds ++ ns.map (fun n => ((n, 0) : Cl)), c.2 = 0 → Bd B c.1 := fun c hc h0 => by
  rcases List.mem_append.mp hc with hc | hc
  · have := (h.ok.wf c hc).1
    omega
  · obtain ⟨n, hn, rfl⟩ := List.mem_map.mp hc
    exact h.sm n hn
theorem c_orS (T : Txt K mg) : Met P w K mg base 5 (He.ga K "Numbers") "__or__" (spOrS (He.ga K "Numbers")) [] := by
  have m_Numbers := @m_NumbersS P w K mg base T
  have c_parts_told := @c_told P w K mg base T
  refine metN T.m_Numbers____or__ sc_Numbers___or__ (fun vs H Q E h => ?_) (fun _ _ _ _ _ _ us hl => match us, hl with | [_, _], _ => rfl) (fun f cdv A outer s H vs Q E hr h => ?_)
  · obtain ⟨a, b, _, _, _, _, _, _, rfl, _⟩ := h
    rfl
  · obtain ⟨a, b, L, B, S, N, S', N', rfl, ⟨ds, ns, hA, okA⟩, ⟨es, ms, hB, okB⟩, hl, k⟩ := h
    obtain ⟨dxa, qa1, qa2, a1, _⟩ := id hA.ex
    obtain ⟨dxb, qb1, qb2, b1, _⟩ := id hB.ex
    refine ⟨_, (pss_cons (ps_if (pt_not (pt_val (pe_callB call_isi (by rfl) T.b_isinstance (by decide +kernel) (pa_cons (pv 1) (pa_cons (pe_glob (v := .ref (He.ga K "Numbers")) (by rfl) T.v_Numbers rfl) pa_nil))))) (pss_one ps_never) pss_nil)
      (pss_one (ps_ret (pe_mkx m_Numbers hr (by first | decide | omega) rfl passL (pa_cons (pe_op op_cat (pe_mtx0 c_parts_told hr (by first | decide | omega) passL (pv 0)) (pe_mtx0 c_parts_told hr (by first | decide | omega) passL (pv 1))) pa_nil))))), ?_⟩
    walk_at "g"
    refine ⟨.ref b, .ref (He.ga K "Numbers"), _, _, true, rfl, .own _, T.o_Numbers.ty T.k_Numbers b1, kit_self, true, rfl, ?_⟩
    walk_at "g"
    refine ⟨a, dxa, _, rfl, a1, rfl, ?_⟩
    walk_at "g"
    refine ⟨a, ds, ns, rfl, hA, okA.ok.l1, okA.ok.l2, fun l1 H1 s1 nl1 hP1 => ?_⟩
    walk_at "g"
    refine ⟨b, dxb, _, rfl, s1 _ _ b1, rfl, ?_⟩
    walk_at "g"
    refine ⟨b, es, ms, rfl, hB.same s1, okB.ok.l1, okB.ok.l2, fun l2 H2 s2 nl2 hP2 => ?_⟩
    obtain ⟨ts1, h1, pp1⟩ := hP1.same s2
    obtain ⟨ts2, h2, pp2⟩ := hP2
    have e1 := pp1.len
    have e2 := pp2.len
    rw [List.length_append, List.length_map] at e1 e2
    have b1' := okA.len
    have b2' := okB.len
    refine ⟨l1, l2, _, _, rfl, rfl, h1, h2, ?_, fun l3 nl3 => ?_⟩
    · rw [List.length_map, List.length_map]
      exact Nat.le_trans (show _ ≤ 100 by omega) (by decide)
    rw [← List.map_append]
    have s3 := same_upd (o := .lst ((ts1 ++ ts2).map V.ref)) nl3
    have s13 := (s1.trans s2).trans s3
    have hl3 : ((ds ++ ns.map fun n => ((n, 0) : Cl)) ++ (es ++ ms.map fun n => ((n, 0) : Cl))).length ≤ N + N' := by
      rw [List.length_append, List.length_append, List.length_append, List.length_map, List.length_map]
      omega
    walk_at "g"
    intro x dx nx ndx ne0
    refine ⟨x, dx, l3, _, L, B, rfl, upd_same, PL.same (same_made nx ndx) ⟨ts1 ++ ts2, upd_same, (pp1.same s3).app (pp2.same s3)⟩, okA.L0, okA.LB, okA.told.app okB.told, Nat.lt_of_le_of_lt hl3 hl, (fun c hc => (List.mem_append.mp hc).elim (okA.toldB c) (okB.toldB c)), fun H5 kp5 hN => ⟨rfl, ?_⟩⟩
    refine k x H5 (s13.trans (mk_same kp5 nx ndx)) (s13.free nx) ((hN.mono hl3).cong fun n => ?_)
    rw [cov_app, cov_told, cov_told, okA.iff, okB.iff]
end
section
variable {X : Cx} {k : Nat} {C : Addr} {sp : Sp} {E : XK}
/-- not o, by an own __bool__ -/
theorem pe_notO {j : Nat} {e : Expr} {ta : TE} {pos : Pos} (c : Met X.prog X.w X.K X.mg X.base k C "__bool__" sp []) (hr : Room j X.A) (hk : k ≤ j) (hx : Passes (L2.CX X.prog X.w) X E) (ha : PE X e ta) :
    PE X (.UnaryOp .Not e pos) (fun σ H Q => ta σ H fun x H1 => ∃ a dx fs, x = .ref a ∧ H1 a = some (.ins C dx fs) ∧ sp [.ref a] H1 (fun v H2 => ∃ b, v = .bl b ∧ Q (.bl (!b)) H2) E) := by
  obtain ⟨f, fd, ps, ds, hc, hm, F, b, d⟩ := c.ex
  cases d
  refine ⟨fun pins s σ H Q I h => ?_⟩
  refine PyProof.Rows.UnaryOp_ (thn (ha.run pins s σ H _ I h) fun v s1 ⟨x, H1, I1, r1, a, dx, fs, ex, ea, q1⟩ => ?_)
  subst ex
  cases r1
  obtain ⟨mA, J, _⟩ := ins_get I1.hok ea
  obtain ⟨od, J, _⟩ := J.look
  obtain ⟨m, hF⟩ := I1.fr
  refine PyProof.Rows.not_of (PySem.W.truthy_K hF I1.ok.mod.kin J hm.at_ hm.fn ?_)
  refine wpAny_mono (run_at F (hr.mono hk) rfl b hx I1 (us := [.ref a]) (vs := [.ref a]) (.cons rfl .nil) q1) (fun r s' q => ?_) fun _ _ z => z
  obtain ⟨z, H', I', rz, b', rfl, q⟩ := q
  cases rz
  exact ⟨.bl (!b'), H', I', rfl, q⟩
end
section
variable {C a b : Addr} {L n : Int} {B : Nat} {H : Hp} {S S' : Int → Prop} {N N' : Nat} {E : XK} {Q : VK}
theorem st_or (hA : NbAt C L B H a S N) (hB : NbAt C L B H b S' N') (hl : N + N' < 64) (k : ∀ x H', Same H H' → NbAt C L B H' x (fun n => S n ∨ S' n) (N + N') → Q (.ref x) H') : rBinO C (spOrS C) E (.ref a) (.ref b) H Q :=
  let ⟨dx, fs, e⟩ := hA.at_
  let ⟨dy, gs, e2⟩ := hB.at_
  ⟨a, dx, fs, b, dy, gs, rfl, rfl, e, e2, a, b, L, B, S, N, S', N', rfl, hA, hB, hl, fun x H' s _ h => ⟨x, rfl, k x H' s h⟩⟩
theorem st_and (hA : NbAt C L B H a S N) (hB : NbAt C L B H b S' N') (hl : N * N' < 64) (k : ∀ x H', Same H H' → NbAt C L B H' x (fun n => S n ∧ S' n) (N * N') → Q (.ref x) H') : rBinO C (spAndS C) E (.ref a) (.ref b) H Q :=
  let ⟨dx, fs, e⟩ := hA.at_
  let ⟨dy, gs, e2⟩ := hB.at_
  ⟨a, dx, fs, b, dy, gs, rfl, rfl, e, e2, a, b, L, B, S, N, S', N', rfl, hA, hB, hl, fun x H' s _ h => ⟨x, rfl, k x H' s h⟩⟩
theorem st_eq {out : Bool → V} (hA : NbAt C L B H a S N) (hB : NbAt C L B H b S' N') (k : ∀ (r : Bool) H', Same H H' → (r = true ↔ ∀ n, S n ↔ S' n) → Q (out r) H') : rEqO C (spEqS C) E out (.ref a) (.ref b) H Q :=
  let ⟨dx, fs, e⟩ := hA.at_
  let ⟨dy, gs, e2⟩ := hB.at_
  ⟨a, dx, fs, b, dy, gs, rfl, rfl, e, e2, a, b, L, B, S, N, S', N', rfl, hA, hB, fun r H' s h => ⟨r, rfl, k r H' s h⟩⟩
/-- two sets that are the same -/
theorem st_same {out : Bool → V} (hA : NbAt C L B H a S N) (hB : NbAt C L B H b S' N') (e : ∀ n, S n ↔ S' n) (k : ∀ H', Same H H' → Q (out true) H') : rEqO C (spEqS C) E out (.ref a) (.ref b) H Q :=
  st_eq hA hB fun r H' s h => by
    have : r = true := h.mpr e
    subst this
    exact k H' s
theorem st_in {out : Bool → V} (hA : NbAt C L B H a S N) (k : ∀ (r : Bool) H', Same H H' → (r = true ↔ S n) → Q (out r) H') : rInO C (spHasS C) E out (.int n) (.ref a) H Q :=
  let ⟨dx, fs, e⟩ := hA.at_
  ⟨a, dx, fs, rfl, e, a, n, L, B, S, N, rfl, hA, fun r H' s h => ⟨r, rfl, k r H' s h⟩⟩
end
end Tr

namespace Tr
open PySem L2
/-- steps of a reading that are plain -/
local macro_rules | `(tactic| walk_at "x") => `(tactic| (refine' ⟨_, _, _, _, rfl, rfl, ?k1, ?k2, ?_⟩; (case k1 => exact SqT.of (by assumption)); (case k2 => exact rfl)))
local macro_rules | `(tactic| walk_at "g") => `(tactic| repeat (first | (refine ⟨_, rfl, ?_⟩) | (refine ⟨_, _, rfl, rfl, ?_⟩) | (refine ⟨_, _, rfl, ?_⟩) | (refine ⟨rfl, ?_⟩) | walk_at "x"))


/-! ### first_from, last_until, nearest -/
def FirstR (S : Int → Prop) (n : Int) : Option Int → Prop
  | none => ∀ t, S t → t < n
  | some v => S v ∧ n ≤ v ∧ ∀ t, S t → n ≤ t → v ≤ t
def LastR (S : Int → Prop) (n : Int) : Option Int → Prop
  | none => ∀ t, S t → n < t
  | some v => S v ∧ v ≤ n ∧ ∀ t, S t → t ≤ n → t ≤ v
theorem FirstR.uniq {S : Int → Prop} {n : Int} {o o' : Option Int} (h : FirstR S n o) (h' : FirstR S n o') : o = o' := by
  cases o with
  | none =>
    cases o' with
    | none => rfl
    | some v =>
      have := h v h'.1
      have := h'.2.1
      omega
  | some u =>
    cases o' with
    | none =>
      have := h' u h.1
      have := h.2.1
      omega
    | some v =>
      have h1 := h.2.2 v h'.1 h'.2.1
      have h2 := h'.2.2 u h.1 h.2.1
      rw [Int.le_antisymm h1 h2]
theorem LastR.uniq {S : Int → Prop} {n : Int} {o o' : Option Int} (h : LastR S n o) (h' : LastR S n o') : o = o' := by
  cases o with
  | none =>
    cases o' with
    | none => rfl
    | some v =>
      have := h v h'.1
      have := h'.2.1
      omega
  | some u =>
    cases o' with
    | none =>
      have := h' u h.1
      have := h.2.1
      omega
    | some v =>
      have h1 := h.2.2 v h'.1 h'.2.1
      have h2 := h'.2.2 u h.1 h.2.1
      rw [Int.le_antisymm h2 h1]
theorem FirstR.cong {S S' : Int → Prop} {n : Int} {o : Option Int} (e : ∀ n, S n ↔ S' n) (h : FirstR S n o) : FirstR S' n o := by
  cases o with
  | none => exact fun t ht => h t ((e t).mpr ht)
  | some v => exact ⟨(e v).mp h.1, h.2.1, fun t ht => h.2.2 t ((e t).mpr ht)⟩
theorem LastR.cong {S S' : Int → Prop} {n : Int} {o : Option Int} (e : ∀ n, S n ↔ S' n) (h : LastR S n o) : LastR S' n o := by
  cases o with
  | none => exact fun t ht => h t ((e t).mpr ht)
  | some v => exact ⟨(e v).mp h.1, h.2.1, fun t ht => h.2.2 t ((e t).mpr ht)⟩
def nearO (n : Int) : Option Int → Option Int → Option Int
  | none, a => a
  | some b, none => some b
  | some b, some a => if n - b < a - n then some b else some a
def ceilC (n : Int) (c : Cl) : Int := c.1 + c.2 * ((n - c.1 + c.2 - 1) / c.2)
def floorC (n : Int) (c : Cl) : Int := c.1 + c.2 * ((n - c.1) / c.2)
theorem ceil_ok {n : Int} {c : Cl} (h : 0 < c.2) : n ≤ ceilC n c ∧ c.2 ∣ ceilC n c - c.1 ∧ ∀ t, c.2 ∣ t - c.1 → n ≤ t → ceilC n c ≤ t := by
  unfold ceilC
  have e := Int.mul_ediv_add_emod (n - c.1 + c.2 - 1) c.2
  have m0 := Int.emod_nonneg (n - c.1 + c.2 - 1) (show c.2 ≠ 0 by omega)
  have m1 := Int.emod_lt_of_pos (n - c.1 + c.2 - 1) h
  refine ⟨by omega, ⟨(n - c.1 + c.2 - 1) / c.2, by omega⟩, ?_⟩
  rintro t ⟨z, hz⟩ ht
  have : (n - c.1 + c.2 - 1) / c.2 ≤ z := by
    refine Int.le_of_lt_add_one ?_
    refine Int.lt_of_mul_lt_mul_left (a := c.2) ?_ (Int.le_of_lt h)
    rw [Int.mul_add, Int.mul_one]
    omega
  have := Int.mul_le_mul_of_nonneg_left this (Int.le_of_lt h)
  omega
theorem floor_ok {n : Int} {c : Cl} (h : 0 < c.2) : floorC n c ≤ n ∧ c.2 ∣ floorC n c - c.1 ∧ ∀ t, c.2 ∣ t - c.1 → t ≤ n → t ≤ floorC n c := by
  unfold floorC
  have e := Int.mul_ediv_add_emod (n - c.1) c.2
  have m0 := Int.emod_nonneg (n - c.1) (show c.2 ≠ 0 by omega)
  have m1 := Int.emod_lt_of_pos (n - c.1) h
  refine ⟨by omega, ⟨(n - c.1) / c.2, by omega⟩, ?_⟩
  rintro t ⟨z, hz⟩ ht
  have : z ≤ (n - c.1) / c.2 := by
    refine Int.le_of_lt_add_one ?_
    refine Int.lt_of_mul_lt_mul_left (a := c.2) ?_ (Int.le_of_lt h)
    rw [Int.mul_add, Int.mul_one]
    omega
  have := Int.mul_le_mul_of_nonneg_left this (Int.le_of_lt h)
  omega
section
variable {L n : Int} {B N : Nat} {ds : List Cl} {ns : List Int} {S : Int → Prop}
def firstL (ds : List Cl) (ns : List Int) (n : Int) : List Int := ds.map (ceilC n) ++ ns.filter fun k => decide (k ≥ n)
def lastL (ds : List Cl) (ns : List Int) (n : Int) : List Int := ds.map (floorC n) ++ ns.filter fun k => decide (k ≤ n)
theorem first_mem (ok : NbOk L B ds ns S N) : (∀ v ∈ firstL ds ns n, S v ∧ n ≤ v) ∧ ∀ t, S t → n ≤ t → ∃ v ∈ firstL ds ns n, v ≤ t := by
  unfold firstL
  constructor
  · intro v hv
    rcases List.mem_append.mp hv with hv | hv
    · obtain ⟨c, hc, rfl⟩ := List.mem_map.mp hv
      obtain ⟨h1, h2, _⟩ := ceil_ok (n := n) (ok.ok.wf c hc).1
      exact ⟨(ok.iff _).mp (.inr ⟨c, hc, h2⟩), h1⟩
    · obtain ⟨h1, h2⟩ := List.mem_filter.mp hv
      exact ⟨(ok.iff _).mp (.inl h1), of_decide_eq_true h2⟩
  · intro t ht hn
    rcases (ok.iff t).mpr ht with h | ⟨c, hc, d⟩
    · exact ⟨t, List.mem_append_right _ (List.mem_filter.mpr ⟨h, decide_eq_true hn⟩), Int.le_refl _⟩
    · exact ⟨_, List.mem_append_left _ (List.mem_map.mpr ⟨c, hc, rfl⟩), (ceil_ok (ok.ok.wf c hc).1).2.2 t d hn⟩
theorem last_mem (ok : NbOk L B ds ns S N) : (∀ v ∈ lastL ds ns n, S v ∧ v ≤ n) ∧ ∀ t, S t → t ≤ n → ∃ v ∈ lastL ds ns n, t ≤ v := by
  unfold lastL
  constructor
  · intro v hv
    rcases List.mem_append.mp hv with hv | hv
    · obtain ⟨c, hc, rfl⟩ := List.mem_map.mp hv
      obtain ⟨h1, h2, _⟩ := floor_ok (n := n) (ok.ok.wf c hc).1
      exact ⟨(ok.iff _).mp (.inr ⟨c, hc, h2⟩), h1⟩
    · obtain ⟨h1, h2⟩ := List.mem_filter.mp hv
      exact ⟨(ok.iff _).mp (.inl h1), of_decide_eq_true h2⟩
  · intro t ht hn
    rcases (ok.iff t).mpr ht with h | ⟨c, hc, d⟩
    · exact ⟨t, List.mem_append_right _ (List.mem_filter.mpr ⟨h, decide_eq_true hn⟩), Int.le_refl _⟩
    · exact ⟨_, List.mem_append_left _ (List.mem_map.mpr ⟨c, hc, rfl⟩), (floor_ok (ok.ok.wf c hc).1).2.2 t d hn⟩
theorem first_none {xs : List Int} (h : (∀ v ∈ xs, S v ∧ n ≤ v) ∧ ∀ t, S t → n ≤ t → ∃ v ∈ xs, v ≤ t) (e : xs = []) : FirstR S n none := fun t ht => by
  subst e
  rcases Int.lt_or_le t n with z | z
  · exact z
  · obtain ⟨v, hv, _⟩ := h.2 t ht z
    cases hv
theorem first_some {xs : List Int} (h : (∀ v ∈ xs, S v ∧ n ≤ v) ∧ ∀ t, S t → n ≤ t → ∃ v ∈ xs, v ≤ t) {m : Int} (hm : m ∈ xs) (hle : ∀ y ∈ xs, m ≤ y) : FirstR S n (some m) :=
  ⟨(h.1 m hm).1, (h.1 m hm).2, fun t ht hn => by
    obtain ⟨v, hv, hvt⟩ := h.2 t ht hn
    exact Int.le_trans (hle v hv) hvt⟩
theorem last_none {xs : List Int} (h : (∀ v ∈ xs, S v ∧ v ≤ n) ∧ ∀ t, S t → t ≤ n → ∃ v ∈ xs, t ≤ v) (e : xs = []) : LastR S n none := fun t ht => by
  subst e
  rcases Int.lt_or_le n t with z | z
  · exact z
  · obtain ⟨v, hv, _⟩ := h.2 t ht z
    cases hv
theorem last_some {xs : List Int} (h : (∀ v ∈ xs, S v ∧ v ≤ n) ∧ ∀ t, S t → t ≤ n → ∃ v ∈ xs, t ≤ v) {m : Int} (hm : m ∈ xs) (hle : ∀ y ∈ xs, y ≤ m) : LastR S n (some m) :=
  ⟨(h.1 m hm).1, (h.1 m hm).2, fun t ht hn => by
    obtain ⟨v, hv, hvt⟩ := h.2 t ht hn
    exact Int.le_trans hvt (hle v hv)⟩
end
section
variable {P : Program} {w : World} {K : PySem.W.Frag} {mg : Str → Option Value} {base : Heap}
def spFirstS (C : Addr) : Sp := fun vs H Q _ => ∃ (a : Addr) (n L : Int) (B bn : Nat) (S : Int → Prop) (N : Nat), vs = [.ref a, .int n] ∧ NbAt C L B H a S N ∧ Bd bn n ∧ bn ≤ 100000 ∧ ∀ o H', Same H H' → FirstR S n o → Q (oV o) H'
def spLastS (C : Addr) : Sp := fun vs H Q _ => ∃ (a : Addr) (n L : Int) (B bn : Nat) (S : Int → Prop) (N : Nat), vs = [.ref a, .int n] ∧ NbAt C L B H a S N ∧ Bd bn n ∧ bn ≤ 100000 ∧ ∀ o H', Same H H' → LastR S n o → Q (oV o) H'
theorem c_firstS (T : Txt K mg) : Met P w K mg base 1 (He.ga K "Numbers") "first_from" (spFirstS (He.ga K "Numbers")) [] := by
  refine metN T.m_Numbers__first_from sc_Numbers_first_from (fun vs H Q E h => ?_) (fun _ _ _ _ _ _ us hl => match us, hl with | [_, _], _ => rfl) (fun f cdv A outer s H vs Q E hr h => ?_)
  · obtain ⟨a, n, _, _, _, _, _, rfl, _⟩ := h
    rfl
  · obtain ⟨a, n, L, B, bn, S, N, rfl, ⟨ds, ns, hA, ok⟩, nB, hbn, q⟩ := h
    obtain ⟨dxa, qa1, qa2, a1, ⟨ts, a2, pp⟩, a3⟩ := hA.ex
    have lx := pp.len
    have l1 := ok.ok.l1
    have l2 := ok.ok.l2
    refine ⟨_, (pss_cons (ps_setLc (i := 2) (own := [("r", 3), ("m", 4)]) (g := gTup K 2 (gCons (gName 3) (gCons (gName 4) gNil))) rfl sc_Numbers_first_from.nd rfl rfl (sw_true rfl rfl rfl (by decide +kernel)) (pi_listK K (pe_fldK K (pv 0) (by rfl))) (blkOk_by (own := [("r", 3), ("m", 4)]) (N := ["self", "n", "found", "r", "m", "k"]) (sc := defScope s_Numbers_first_from) (by decide +kernel)) (fun _ _ _ _ _ => (pg_tup rfl (pgs_cons (pg_name (i := 3) sc_Numbers_first_from.nd rfl (Or.inl rfl)) (pgs_cons (pg_name (i := 4) sc_Numbers_first_from.nd rfl (Or.inl rfl)) pgs_nil)))) (fun _ _ _ _ _ => pts_nil) (fun _ _ _ _ _ => (pe_op op_add (pv 3) (pe_op op_mulW (pv 4) (pe_op op_fdivW (pe_op op_sub (pe_op op_add (pe_op op_sub (pv 1) (pv 3)) (pv 4)) pe_int) (pv 4))))))
      (pss_cons (ps_set (i := 2) sc_Numbers_first_from.nd rfl (Or.inl rfl) (pe_lst (StX.pa_star (pv 2) (StX.pa_star (pe_lc (own := [("k", 5)]) (g := gName 5) rfl sc_Numbers_first_from.nd (pi_listK K (pe_fldK K (pv 0) (by rfl))) (blkOk_by (own := [("k", 5)]) (N := ["self", "n", "found", "r", "m", "k"]) (sc := defScope s_Numbers_first_from) (by decide +kernel)) (fun _ _ _ _ _ => (pg_name (i := 5) sc_Numbers_first_from.nd rfl (Or.inl rfl))) (fun _ _ _ _ _ => (pts_one (pt_cmpR op_ge (pv 5) (pv 1) (nomark _)))) (fun _ _ _ _ _ => (pv 5))) pa_nil))))
      (pss_one (ps_ret (pe_callBK (cr_minD rfl (units_of hr)) (by rfl) T.b_min (by decide +kernel) (pa_cons (pe_lc (own := [("k", 5)]) (g := gName 5) rfl sc_Numbers_first_from.nd (pi_listK K (pv 2)) (blkOk_by (own := [("k", 5)]) (N := ["self", "n", "found", "r", "m", "k"]) (sc := defScope s_Numbers_first_from) (by decide +kernel)) (fun _ _ _ _ _ => (pg_name (i := 5) sc_Numbers_first_from.nd rfl (Or.inl rfl))) (fun _ _ _ _ _ => pts_nil) (fun _ _ _ _ _ => (pe_callTy call_int1 (by rfl) T.b_int (by decide +kernel) (pa_cons (pv 5) pa_nil)))) pa_nil) (pk_cons pe_non pk_nil)))))), ?_⟩
    walk_at "g"
    refine ⟨a, _, dxa, _, _, rfl, a1, T.k_Numbers, T.a_Numbers__classes, rfl, ?_⟩
    refine ⟨qa1, rfl, ⟨_, SqL.of a2⟩, fun D nD => ?_⟩
    refine lc_pairs (fun _ => true) (fun y c _ => y = .int (ceilC n c)) (fun _ _ _ _ _ _ _ e => e) nD (SqL.of a2) pp (by omega) (fun _ _ => rfl) (fun c _ H Q _ q => q H (Same.refl H)) ?_ ?_
    · intro c hcm _ H2 Q2 s2 q2
      have w := ok.ok.wf c hcm
      have b := ok.bd c hcm
      have b1 : Bd (max bn 2900) n := nB.mono (Nat.le_max_left _ _)
      have b2 : Bd (max bn 2900) c.1 := b.2.mono (Nat.le_max_right _ _)
      have b3 : Bd (max bn 2900 + 1) (n - c.1) := b1.sub b2 (Nat.lt_succ_self _)
      have b4 : Bd (max bn 2900 + 2) (n - c.1 + c.2) := b3.add (b.1.mono (by omega)) (Nat.lt_succ_self _)
      have b5 : Bd (max bn 2900 + 3) (n - c.1 + c.2 - 1) := b4.sub (Bd.mono (n := 1) (by show (1 : Int).natAbs < 2 ^ 1; decide) (by omega)) (Nat.lt_succ_self _)
      walk_at "g"
      refine ⟨cdivw w.1 b.1 (by omega), ?_⟩
      walk_at "g"
      refine ⟨cmulw b.1 (b5.div w.1) (by omega), ?_⟩
      walk_at "g"
      exact q2 _ _ (Same.refl _) rfl
    · intro ys H2 s2 hD2 py
      rw [filter_all] at py
      have ey : ys = (ds.map (ceilC n)).map V.int := by rw [py.eq_map, List.map_map]; rfl
      rw [ey] at hD2
      walk_at "g"
      refine ⟨D, _, rfl, .inr (SqL.of hD2), ?_⟩
      walk_at "g"
      refine ⟨a, _, dxa, _, _, rfl, s2 _ _ a1, T.k_Numbers, T.a_Numbers__singles, rfl, ?_⟩
      refine ⟨qa2, rfl, ⟨_, SqL.of (s2 _ _ a3)⟩, fun D3 nD3 => ?_⟩
      refine lc_vals (xs := []) (cs := ns) (fun k => decide (k ≥ n)) V.int (fun y k _ => y = .int k) (fun _ _ _ _ _ _ _ e => e) nD3 (SqL.of (s2 _ _ a3)) (by omega) (fun _ => rfl) ?_ ?_ ?_
      · intro k hk H3 Q3 s3 q3
        walk_at "g"
        exact q3 _ (Same.refl _)
      · intro k hk _ H3 Q3 s3 q3
        walk_at "g"
        exact q3 _ _ (Same.refl _) rfl
      · intro zs H3 s3 hD3 pz
        have ez := pz.eq_map
        rw [ez] at hD3
        refine ⟨D3, _, rfl, .inr (SqL.of hD3), ?_⟩
        have eapp : (ds.map (ceilC n)).map V.int ++ ((ns.filter fun k => decide (k ≥ n)).map V.int ++ []) = (firstL ds ns n).map V.int := by
          unfold firstL
          rw [List.append_nil, List.map_append]
        have flen : (firstL ds ns n).length ≤ 200 := by
          unfold firstL
          rw [List.length_append, List.length_map]
          have := List.length_filter_le (fun k => decide (k ≥ n)) ns
          omega
        show ((ds.map (ceilC n)).map V.int ++ ((ns.filter fun k => decide (k ≥ n)).map V.int ++ [])).length ≤ sizeLine ∧ ∀ l, H3 l = none → gName 2 (V.ref l) _ (upd H3 l (.lst ((ds.map (ceilC n)).map V.int ++ ((ns.filter fun k => decide (k ≥ n)).map V.int ++ [])))) _
        rw [eapp]
        refine ⟨?_,  fun D4 nD4 => ?_⟩
        · rw [List.length_map]
          exact Nat.le_trans flen (by decide)
        have s4 := same_upd (o := .lst ((firstL ds ns n).map V.int)) nD4
        have s24 := (s2.trans s3).trans s4
        walk_at "g"
        refine ⟨⟨_, SqL.of upd_same⟩, fun D5 nD5 => ?_⟩
        refine lc_vals (xs := []) (cs := firstL ds ns n) (fun _ => true) V.int (fun y k _ => y = .int k) (fun _ _ _ _ _ _ _ e => e) nD5 (SqL.of upd_same) (by omega) (fun _ => rfl) (fun c _ H Q _ q => q H (Same.refl H)) ?_ ?_
        · intro k hk _ H5 Q5 s5 q5
          walk_at "g"
          exact .inl ⟨_, rfl, q5 _ _ (Same.refl _) rfl⟩
        · intro ws H5 s5 hD5 pw
          rw [filter_all] at pw
          rw [pw.eq_map] at hD5
          walk_at "g"
          refine ⟨D5, firstL ds ns n, .non, rfl, rfl, SqL.of hD5, fun e => ?_, fun m hm hle => ?_⟩
          · exact q none H5 (s24.trans s5) (first_none (first_mem ok) e)
          · exact q (some m) H5 (s24.trans s5) (first_some (first_mem ok) hm hle)
theorem c_lastS (T : Txt K mg) : Met P w K mg base 1 (He.ga K "Numbers") "last_until" (spLastS (He.ga K "Numbers")) [] := by
  refine metN T.m_Numbers__last_until sc_Numbers_last_until (fun vs H Q E h => ?_) (fun _ _ _ _ _ _ us hl => match us, hl with | [_, _], _ => rfl) (fun f cdv A outer s H vs Q E hr h => ?_)
  · obtain ⟨a, n, _, _, _, _, _, rfl, _⟩ := h
    rfl
  · obtain ⟨a, n, L, B, bn, S, N, rfl, ⟨ds, ns, hA, ok⟩, nB, hbn, q⟩ := h
    obtain ⟨dxa, qa1, qa2, a1, ⟨ts, a2, pp⟩, a3⟩ := hA.ex
    have lx := pp.len
    have l1 := ok.ok.l1
    have l2 := ok.ok.l2
    refine ⟨_, (pss_cons (ps_setLc (i := 2) (own := [("r", 3), ("m", 4)]) (g := gTup K 2 (gCons (gName 3) (gCons (gName 4) gNil))) rfl sc_Numbers_last_until.nd rfl rfl (sw_true rfl rfl rfl (by decide +kernel)) (pi_listK K (pe_fldK K (pv 0) (by rfl))) (blkOk_by (own := [("r", 3), ("m", 4)]) (N := ["self", "n", "found", "r", "m", "k"]) (sc := defScope s_Numbers_last_until) (by decide +kernel)) (fun _ _ _ _ _ => (pg_tup rfl (pgs_cons (pg_name (i := 3) sc_Numbers_last_until.nd rfl (Or.inl rfl)) (pgs_cons (pg_name (i := 4) sc_Numbers_last_until.nd rfl (Or.inl rfl)) pgs_nil)))) (fun _ _ _ _ _ => pts_nil) (fun _ _ _ _ _ => (pe_op op_add (pv 3) (pe_op op_mulW (pv 4) (pe_op op_fdivW (pe_op op_sub (pv 1) (pv 3)) (pv 4))))))
      (pss_cons (ps_set (i := 2) sc_Numbers_last_until.nd rfl (Or.inl rfl) (pe_lst (StX.pa_star (pv 2) (StX.pa_star (pe_lc (own := [("k", 5)]) (g := gName 5) rfl sc_Numbers_last_until.nd (pi_listK K (pe_fldK K (pv 0) (by rfl))) (blkOk_by (own := [("k", 5)]) (N := ["self", "n", "found", "r", "m", "k"]) (sc := defScope s_Numbers_last_until) (by decide +kernel)) (fun _ _ _ _ _ => (pg_name (i := 5) sc_Numbers_last_until.nd rfl (Or.inl rfl))) (fun _ _ _ _ _ => (pts_one (pt_cmpR op_le (pv 5) (pv 1) (nomark _)))) (fun _ _ _ _ _ => (pv 5))) pa_nil))))
      (pss_one (ps_ret (pe_callBK (cr_maxD rfl (units_of hr)) (by rfl) T.b_max (by decide +kernel) (pa_cons (pe_lc (own := [("k", 5)]) (g := gName 5) rfl sc_Numbers_last_until.nd (pi_listK K (pv 2)) (blkOk_by (own := [("k", 5)]) (N := ["self", "n", "found", "r", "m", "k"]) (sc := defScope s_Numbers_last_until) (by decide +kernel)) (fun _ _ _ _ _ => (pg_name (i := 5) sc_Numbers_last_until.nd rfl (Or.inl rfl))) (fun _ _ _ _ _ => pts_nil) (fun _ _ _ _ _ => (pe_callTy call_int1 (by rfl) T.b_int (by decide +kernel) (pa_cons (pv 5) pa_nil)))) pa_nil) (pk_cons pe_non pk_nil)))))), ?_⟩
    walk_at "g"
    refine ⟨a, _, dxa, _, _, rfl, a1, T.k_Numbers, T.a_Numbers__classes, rfl, ?_⟩
    refine ⟨qa1, rfl, ⟨_, SqL.of a2⟩, fun D nD => ?_⟩
    refine lc_pairs (fun _ => true) (fun y c _ => y = .int (floorC n c)) (fun _ _ _ _ _ _ _ e => e) nD (SqL.of a2) pp (by omega) (fun _ _ => rfl) (fun c _ H Q _ q => q H (Same.refl H)) ?_ ?_
    · intro c hcm _ H2 Q2 s2 q2
      have w := ok.ok.wf c hcm
      have b := ok.bd c hcm
      have b1 : Bd (max bn 2900) n := nB.mono (Nat.le_max_left _ _)
      have b2 : Bd (max bn 2900) c.1 := b.2.mono (Nat.le_max_right _ _)
      have b3 : Bd (max bn 2900 + 1) (n - c.1) := b1.sub b2 (Nat.lt_succ_self _)
      walk_at "g"
      refine ⟨cdivw w.1 b.1 (by omega), ?_⟩
      walk_at "g"
      refine ⟨cmulw b.1 (b3.div w.1) (by omega), ?_⟩
      walk_at "g"
      exact q2 _ _ (Same.refl _) rfl
    · intro ys H2 s2 hD2 py
      rw [filter_all] at py
      have ey : ys = (ds.map (floorC n)).map V.int := by rw [py.eq_map, List.map_map]; rfl
      rw [ey] at hD2
      walk_at "g"
      refine ⟨D, _, rfl, .inr (SqL.of hD2), ?_⟩
      walk_at "g"
      refine ⟨a, _, dxa, _, _, rfl, s2 _ _ a1, T.k_Numbers, T.a_Numbers__singles, rfl, ?_⟩
      refine ⟨qa2, rfl, ⟨_, SqL.of (s2 _ _ a3)⟩, fun D3 nD3 => ?_⟩
      refine lc_vals (xs := []) (cs := ns) (fun k => decide (k ≤ n)) V.int (fun y k _ => y = .int k) (fun _ _ _ _ _ _ _ e => e) nD3 (SqL.of (s2 _ _ a3)) (by omega) (fun _ => rfl) ?_ ?_ ?_
      · intro k hk H3 Q3 s3 q3
        walk_at "g"
        exact q3 _ (Same.refl _)
      · intro k hk _ H3 Q3 s3 q3
        walk_at "g"
        exact q3 _ _ (Same.refl _) rfl
      · intro zs H3 s3 hD3 pz
        have ez := pz.eq_map
        rw [ez] at hD3
        refine ⟨D3, _, rfl, .inr (SqL.of hD3), ?_⟩
        have eapp : (ds.map (floorC n)).map V.int ++ ((ns.filter fun k => decide (k ≤ n)).map V.int ++ []) = (lastL ds ns n).map V.int := by
          unfold lastL
          rw [List.append_nil, List.map_append]
        have flen : (lastL ds ns n).length ≤ 200 := by
          unfold lastL
          rw [List.length_append, List.length_map]
          have := List.length_filter_le (fun k => decide (k ≤ n)) ns
          omega
        show ((ds.map (floorC n)).map V.int ++ ((ns.filter fun k => decide (k ≤ n)).map V.int ++ [])).length ≤ sizeLine ∧ ∀ l, H3 l = none → gName 2 (V.ref l) _ (upd H3 l (.lst ((ds.map (floorC n)).map V.int ++ ((ns.filter fun k => decide (k ≤ n)).map V.int ++ [])))) _
        rw [eapp]
        refine ⟨?_,  fun D4 nD4 => ?_⟩
        · rw [List.length_map]
          exact Nat.le_trans flen (by decide)
        have s4 := same_upd (o := .lst ((lastL ds ns n).map V.int)) nD4
        have s24 := (s2.trans s3).trans s4
        walk_at "g"
        refine ⟨⟨_, SqL.of upd_same⟩, fun D5 nD5 => ?_⟩
        refine lc_vals (xs := []) (cs := lastL ds ns n) (fun _ => true) V.int (fun y k _ => y = .int k) (fun _ _ _ _ _ _ _ e => e) nD5 (SqL.of upd_same) (by omega) (fun _ => rfl) (fun c _ H Q _ q => q H (Same.refl H)) ?_ ?_
        · intro k hk _ H5 Q5 s5 q5
          walk_at "g"
          exact .inl ⟨_, rfl, q5 _ _ (Same.refl _) rfl⟩
        · intro ws H5 s5 hD5 pw
          rw [filter_all] at pw
          rw [pw.eq_map] at hD5
          walk_at "g"
          refine ⟨D5, lastL ds ns n, .non, rfl, rfl, SqL.of hD5, fun e => ?_, fun m hm hle => ?_⟩
          · exact q none H5 (s24.trans s5) (last_none (last_mem ok) e)
          · exact q (some m) H5 (s24.trans s5) (last_some (last_mem ok) hm hle)
end
end Tr

namespace Tr
open PySem L2
/-- steps of a reading that are plain -/
local macro_rules | `(tactic| walk_at "x") => `(tactic| (refine' ⟨_, _, _, _, rfl, rfl, ?k1, ?k2, ?_⟩; (case k1 => exact SqT.of (by assumption)); (case k2 => exact rfl)))
local macro_rules | `(tactic| walk_at "g") => `(tactic| repeat (first | (refine ⟨_, rfl, ?_⟩) | (refine ⟨_, _, rfl, rfl, ?_⟩) | (refine ⟨_, _, rfl, ?_⟩) | (refine ⟨rfl, ?_⟩) | walk_at "x"))


section
variable {P : Program} {w : World} {K : PySem.W.Frag} {mg : Str → Option Value} {base : Heap}
def spNearS (C : Addr) : Sp := fun vs H Q _ => ∃ (a : Addr) (n L : Int) (B bn : Nat) (S : Int → Prop) (N : Nat), vs = [.ref a, .int n] ∧ NbAt C L B H a S N ∧ Bd bn n ∧ bn ≤ 100000 ∧ ∀ o o' H', Same H H' → LastR S n o → FirstR S n o' → Q (oV (nearO n o o')) H'
theorem c_nearS (T : Txt K mg) : Met P w K mg base 2 (He.ga K "Numbers") "nearest" (spNearS (He.ga K "Numbers")) [] := by
  have c_first_from := @c_firstS P w K mg base T
  have c_last_until := @c_lastS P w K mg base T
  refine metN T.m_Numbers__nearest sc_Numbers_nearest (fun vs H Q E h => ?_) (fun _ _ _ _ _ _ us hl => match us, hl with | [_, _], _ => rfl) (fun f cdv A outer s H vs Q E hr h => ?_)
  · obtain ⟨a, n, _, _, _, _, _, rfl, _⟩ := h
    rfl
  · obtain ⟨a, n, L, B, bn, S, N, rfl, hA, nB, hbn, q⟩ := h
    obtain ⟨dxa, qa1, qa2, a1⟩ := hA.atf
    refine ⟨_, (pss_cons (ps_par (i := 2) (j := 3) (by rfl) sc_Numbers_nearest.nd rfl rfl (by decide) rfl rfl (pa_cons (pe_mtx c_last_until hr (by first | decide | omega) passL (pv 0) (pa_cons (pv 1) pa_nil)) (pa_cons (pe_mtx c_first_from hr (by first | decide | omega) passL (pv 0) (pa_cons (pv 1) pa_nil)) pa_nil)) (by rfl))
      (pss_cons (ps_if (PW.pt (pw_or (pt_cmpR op_isN (pv 2) pe_non (nomark _)) (pw_or1 (pt_cmpR op_isN (pv 3) pe_non (nomark _))))) (pss_one (ps_ret (pe_ifExp (pt_cmpR op_isN (pv 2) pe_non (nomark _)) (pv 3) (pv 2)))) pss_nil)
      (pss_one (ps_ret (pe_ifExp (pt_cmpR op_lt (pe_op op_sub (pv 1) (pv 2)) (pe_op op_sub (pv 3) (pv 1)) (nomark _)) (pv 2) (pv 3)))))), ?_⟩
    walk_at "g"
    refine ⟨a, dxa, _, rfl, a1, rfl, ?_⟩
    walk_at "g"
    refine ⟨a, n, L, B, bn, S, N, rfl, hA, nB, hbn, fun o H2 s2 ho => ?_⟩
    walk_at "g"
    refine ⟨a, dxa, _, rfl, s2 _ _ a1, rfl, ?_⟩
    walk_at "g"
    refine ⟨a, n, L, B, bn, S, N, rfl, hA.same s2, nB, hbn, fun o' H3 s3 ho' => ?_⟩
    have fin := q o o' H3 (s2.trans s3) ho ho'
    walk_at "g"
    rw [oV_none]
    cases o with
    | none =>
      refine iteT ?_
      walk_at "g"
      exact fin
    | some b =>
      refine iteF ?_
      walk_at "g"
      cases o' with
      | none =>
        walk_at "g"
        exact fin
      | some c =>
        walk_at "g"
        unfold nearO at fin
        dsimp only at fin
        refine iteB (fun c1 => ?_) (fun c1 => ?_)
        · walk_at "g"
          rw [if_pos (of_decide_eq_true c1)] at fin
          exact fin
        · walk_at "g"
          rw [if_neg (of_decide_eq_false c1)] at fin
          exact fin
end
end Tr

namespace Tr
open PySem L2
/-- steps of a reading that are plain -/
local macro_rules | `(tactic| walk_at "x") => `(tactic| (refine' ⟨_, _, _, _, rfl, rfl, ?k1, ?k2, ?_⟩; (case k1 => exact SqT.of (by assumption)); (case k2 => exact rfl)))
local macro_rules | `(tactic| walk_at "g") => `(tactic| repeat (first | (refine ⟨_, rfl, ?_⟩) | (refine ⟨_, _, rfl, rfl, ?_⟩) | (refine ⟨_, _, rfl, ?_⟩) | (refine ⟨rfl, ?_⟩) | walk_at "x"))


/-! ### k07: the law's ahead, behind, near -/
theorem scal_oV (o o' : Option Int) : scal (oV o) (oV o') = true := by cases o <;> cases o' <;> rfl
def stepUp (n : Int) (c : Cl) : Int := n + (c.1 - n) % c.2
theorem stepUp_ok {n : Int} {c : Cl} (h : 0 < c.2) : n ≤ stepUp n c ∧ c.2 ∣ stepUp n c - c.1 ∧ ∀ t, c.2 ∣ t - c.1 → n ≤ t → stepUp n c ≤ t := by
  unfold stepUp
  have e := Int.mul_ediv_add_emod (c.1 - n) c.2
  have m0 := Int.emod_nonneg (c.1 - n) (show c.2 ≠ 0 by omega)
  refine ⟨by omega, ⟨-((c.1 - n) / c.2), by rw [Int.mul_neg]; omega⟩, ?_⟩
  rintro t ⟨z, hz⟩ ht
  have e2 : (t - n) % c.2 = (c.1 - n) % c.2 := by
    rw [Int.emod_eq_emod_iff_emod_sub_eq_zero]
    refine Int.emod_eq_zero_of_dvd ⟨z, by omega⟩
  have e3 := Int.mul_ediv_add_emod (t - n) c.2
  have e4 : 0 ≤ (t - n) / c.2 := Int.ediv_nonneg (by omega) (Int.le_of_lt h)
  have e5 := Int.mul_nonneg (Int.le_of_lt h) e4
  omega
def aheadL (cs : List Cl) (n : Int) : List Int := ((cs.filter fun c => decide (c.2 = 0) && decide (c.1 ≥ n)).map (·.1)) ++ (cs.filter fun c => decide (0 < c.2)).map (stepUp n)
theorem ahead_mem {cs : List Cl} {n : Int} (hc : ∀ c ∈ cs, 0 ≤ c.2) : (∀ v ∈ aheadL cs n, cov cs v ∧ n ≤ v) ∧ ∀ t, cov cs t → n ≤ t → ∃ v ∈ aheadL cs n, v ≤ t := by
  unfold aheadL
  constructor
  · intro v hv
    rcases List.mem_append.mp hv with hv | hv
    · obtain ⟨c, h, rfl⟩ := List.mem_map.mp hv
      obtain ⟨h1, h2⟩ := List.mem_filter.mp h
      have h3 := Bool.and_eq_true_iff.mp h2
      exact ⟨⟨c, h1, by rw [Int.sub_self]; exact Int.dvd_zero _⟩, of_decide_eq_true h3.2⟩
    · obtain ⟨c, h, rfl⟩ := List.mem_map.mp hv
      obtain ⟨h1, h2⟩ := List.mem_filter.mp h
      obtain ⟨k1, k2, _⟩ := stepUp_ok (n := n) (of_decide_eq_true h2)
      exact ⟨⟨c, h1, k2⟩, k1⟩
  · rintro t ⟨c, h, d⟩ hn
    by_cases h0 : c.2 = 0
    · rw [h0, Int.zero_dvd] at d
      exact ⟨c.1, List.mem_append_left _ (List.mem_map.mpr ⟨c, List.mem_filter.mpr ⟨h, Bool.and_eq_true_iff.mpr ⟨decide_eq_true h0, decide_eq_true (show c.1 ≥ n by omega)⟩⟩, rfl⟩), by omega⟩
    · have hp : 0 < c.2 := by have := hc c h; omega
      exact ⟨_, List.mem_append_right _ (List.mem_map.mpr ⟨c, List.mem_filter.mpr ⟨h, decide_eq_true hp⟩, rfl⟩), (stepUp_ok hp).2.2 t d hn⟩
theorem cov_neg {cs : List Cl} {n : Int} : cov (cs.map fun c => ((-c.1, c.2) : Cl)) n ↔ cov cs (-n) := by
  constructor
  · rintro ⟨e, he, d⟩
    obtain ⟨c, hc, rfl⟩ := List.mem_map.mp he
    refine ⟨c, hc, ?_⟩
    dsimp only at d
    rw [show -n - c.1 = -(n - -c.1) by omega]
    exact Int.dvd_neg.mpr d
  · rintro ⟨c, hc, d⟩
    refine ⟨_, List.mem_map.mpr ⟨c, hc, rfl⟩, ?_⟩
    dsimp only
    rw [show n - -c.1 = -(-n - c.1) by omega]
    exact Int.dvd_neg.mpr d
theorem eqv_nilI (ns : List Int) : (!PyData.eqv (.list (ns.map PyData.int)) (.list (([] : List Int).map PyData.int))) = !ns.isEmpty := by
  rw [List.map_nil, eqv_nil, List.isEmpty_map]
section
variable {P : Program} {w : World} {K : PySem.W.Frag} {mg : Str → Option Value} {base : Heap}
def spAhead : Sp := fun vs H Q _ => ∃ (l : Addr) (n : Int) (cs : List Cl), vs = [.ref l, .int n] ∧ PL H l cs ∧ (∀ c ∈ cs, 0 ≤ c.2) ∧ cs.length ≤ 100 ∧ ∀ o H', Same H H' → FirstR (cov cs) n o → Q (oV o) H'
theorem c__law_ahead (T : Txt K mg) : Cal P w K mg base 1 "_law_ahead" spAhead [] := by
  refine calN T.d__law_ahead sc__law_ahead (fun vs H Q E h => ?_) (fun _ _ _ _ _ _ us hl => match us, hl with | [_, _], _ => rfl) (fun f cdv A outer s H vs Q E hr h => ?_)
  · obtain ⟨l, n, cs, rfl, _⟩ := h
    rfl
  · obtain ⟨l, n, cs, rfl, ⟨ts, hl, pp⟩, hc, hlen, q⟩ := h
    refine ⟨_, (pss_cons (ps_setLc (i := 2) (own := [("_law_r", 3), ("_law_m", 4)]) (g := gTup K 2 (gCons (gName 3) (gCons (gName 4) gNil))) rfl sc__law_ahead.nd rfl rfl (sw_true rfl rfl rfl (by decide +kernel)) (pi_listK K (pv 0)) (blkOk_by (own := [("_law_r", 3), ("_law_m", 4)]) (N := ["_law_pairs_here", "_law_n", "_law_found", "_law_r", "_law_m", "_law_k"]) (sc := defScope s__law_ahead) (by decide +kernel)) (fun _ _ _ _ _ => (pg_tup rfl (pgs_cons (pg_name (i := 3) sc__law_ahead.nd rfl (Or.inl rfl)) (pgs_cons (pg_name (i := 4) sc__law_ahead.nd rfl (Or.inl rfl)) pgs_nil)))) (fun _ _ _ _ _ => (pts_one (PW.pt (pw_and (pt_cmpR op_eq (pv 4) pe_int (nomark _)) (pw_and1 (pt_cmpR op_ge (pv 3) (pv 1) (nomark _))))))) (fun _ _ _ _ _ => (pv 3)))
      (pss_cons (ps_set (i := 2) sc__law_ahead.nd rfl (Or.inl rfl) (pe_op op_cat (pv 2) (pe_lc (own := [("_law_r", 3), ("_law_m", 4)]) (g := gTup K 2 (gCons (gName 3) (gCons (gName 4) gNil))) rfl sc__law_ahead.nd (pi_listK K (pv 0)) (blkOk_by (own := [("_law_r", 3), ("_law_m", 4)]) (N := ["_law_pairs_here", "_law_n", "_law_found", "_law_r", "_law_m", "_law_k"]) (sc := defScope s__law_ahead) (by decide +kernel)) (fun _ _ _ _ _ => (pg_tup rfl (pgs_cons (pg_name (i := 3) sc__law_ahead.nd rfl (Or.inl rfl)) (pgs_cons (pg_name (i := 4) sc__law_ahead.nd rfl (Or.inl rfl)) pgs_nil)))) (fun _ _ _ _ _ => (pts_one (pt_cmpR op_gt (pv 4) pe_int (nomark _)))) (fun _ _ _ _ _ => (pe_op op_add (pv 1) (pe_op op_mod (pe_callTy call_int1 (by rfl) T.b_int (by decide +kernel) (pa_cons (pe_op op_sub (pv 3) (pv 1)) pa_nil)) (pv 4)))))))
      (pss_one (ps_ret (pe_ifExp (pt_cmpR (op_neD (units_of hr)) (pv 2) (pe_lst pa_nil) (nomark _)) (pe_callB (cr_min rfl) (by rfl) T.b_min (by decide +kernel) (pa_cons (pe_lc (own := [("_law_k", 5)]) (g := gName 5) rfl sc__law_ahead.nd (pi_listK K (pv 2)) (blkOk_by (own := [("_law_k", 5)]) (N := ["_law_pairs_here", "_law_n", "_law_found", "_law_r", "_law_m", "_law_k"]) (sc := defScope s__law_ahead) (by decide +kernel)) (fun _ _ _ _ _ => (pg_name (i := 5) sc__law_ahead.nd rfl (Or.inl rfl))) (fun _ _ _ _ _ => pts_nil) (fun _ _ _ _ _ => (pe_callTy call_int1 (by rfl) T.b_int (by decide +kernel) (pa_cons (pv 5) pa_nil)))) pa_nil)) pe_non))))), ?_⟩
    walk_at "g"
    refine ⟨⟨_, SqL.of hl⟩, fun D nD => ?_⟩
    refine lc_pairs (fun c => decide (c.2 = 0) && decide (c.1 ≥ n)) (fun y c _ => y = .int c.1) (fun _ _ _ _ _ _ _ e => e) nD (SqL.of hl) pp (by omega) (fun _ _ => rfl) ?_ ?_ ?_
    · intro c hcm H2 Q2 s2 q2
      walk_at "g"
      rw [dI]
      refine iteB (fun c1 => ?_) (fun c1 => ?_)
      · walk_at "g"
        have := q2 H2 (Same.refl _)
        rw [c1, Bool.true_and] at this
        exact this
      · have := q2 H2 (Same.refl _)
        rw [c1, Bool.false_and] at this
        exact this
    · intro c hcm _ H2 Q2 s2 q2
      walk_at "g"
      exact q2 _ _ (Same.refl _) rfl
    · intro ys H2 s2 hD2 py
      have ey : ys = ((cs.filter fun c => decide (c.2 = 0) && decide (c.1 ≥ n)).map (·.1)).map V.int := by rw [py.eq_map, List.map_map]; rfl
      rw [ey] at hD2
      walk_at "g"
      refine ⟨⟨_, SqL.of (s2 _ _ hl)⟩, fun D3 nD3 => ?_⟩
      refine lc_pairs (fun c => decide (0 < c.2)) (fun y c _ => y = .int (stepUp n c)) (fun _ _ _ _ _ _ _ e => e) nD3 (SqL.of (s2 _ _ hl)) (pp.same s2) (by omega) (fun _ _ => rfl) ?_ ?_ ?_
      · intro c hcm H3 Q3 s3 q3
        walk_at "g"
        exact q3 H3 (Same.refl _)
      · intro c hcm h0 H3 Q3 s3 q3
        walk_at "g"
        refine .inl ⟨_, rfl, ?_⟩
        walk_at "g"
        refine ⟨of_decide_eq_true h0, ?_⟩
        walk_at "g"
        exact q3 _ _ (Same.refl _) rfl
      · intro zs H3 s3 hD3 pz
        have ez : zs = ((cs.filter fun c => decide (0 < c.2)).map (stepUp n)).map V.int := by rw [pz.eq_map, List.map_map]; rfl
        rw [ez] at hD3
        have flen : (aheadL cs n).length ≤ 200 := by
          unfold aheadL
          rw [List.length_append, List.length_map, List.length_map]
          have := List.length_filter_le (fun c : Cl => decide (c.2 = 0) && decide (c.1 ≥ n)) cs
          have := List.length_filter_le (fun c : Cl => decide (0 < c.2)) cs
          omega
        refine ⟨D, D3, _, _, rfl, rfl, s3 _ _ hD2, hD3, ?_, fun D4 nD4 => ?_⟩
        · rw [← List.length_append, ← List.map_append, List.length_map]
          exact Nat.le_trans flen (by decide)
        rw [← List.map_append]
        have s4 := same_upd (o := .lst ((aheadL cs n).map V.int)) nD4
        have s24 := (s2.trans s3).trans s4
        have mem := ahead_mem (n := n) hc
        have hD4 : upd H3 D4 (.lst ((aheadL cs n).map V.int)) D4 = _ := upd_same
        obtain ⟨xs, exs⟩ : ∃ xs, xs = aheadL cs n := ⟨_, rfl⟩
        show gName 2 (V.ref D4) _ (upd H3 D4 (.lst ((aheadL cs n).map V.int))) _
        rw [← exs] at mem hD4 s4 s24 flen ⊢
        walk_at "g"
        refine ⟨by show 0 ≤ sizeLine; decide, fun e1 ne1 => ?_⟩
        have s5 := same_upd (o := .lst []) ne1
        refine ⟨_, _, dp_ints (SqL.of (s5 _ _ hD4)), dp_ints (ns := []) (SqL.of upd_same), shaped_ints xs, shaped_ints [], ?_⟩
        rw [eqv_nilI]
        walk_at "g"
        cases xs with
        | nil =>
          refine iteF ?_
          exact q none _ (s24.trans s5) (first_none mem rfl)
        | cons x0 xr =>
          refine iteT ?_
          walk_at "g"
          refine ⟨⟨_, SqL.of (s5 _ _ hD4)⟩, fun D6 nD6 => ?_⟩
          refine lc_vals (xs := []) (cs := x0 :: xr) (fun _ => true) V.int (fun y k _ => y = .int k) (fun _ _ _ _ _ _ _ e => e) nD6 (SqL.of (s5 _ _ hD4)) (by omega) (fun _ => rfl) (fun c _ H Q _ q => q H (Same.refl H)) ?_ ?_
          · intro k hk _ H6 Q6 s6 q6
            walk_at "g"
            exact .inl ⟨_, rfl, q6 _ _ (Same.refl _) rfl⟩
          · intro ws H6 s6 hD6 pw
            rw [filter_all] at pw
            rw [pw.eq_map] at hD6
            walk_at "g"
            exact ⟨D6, x0 :: xr, rfl, SqL.of hD6, Nat.succ_pos _, fun m hm hle => q (some m) H6 ((s24.trans s5).trans s6) (first_some mem hm hle)⟩
def spBehind : Sp := fun vs H Q _ => ∃ (l : Addr) (n : Int) (cs : List Cl), vs = [.ref l, .int n] ∧ PL H l cs ∧ (∀ c ∈ cs, 0 ≤ c.2) ∧ cs.length ≤ 100 ∧ ∀ o H', Same H H' → LastR (cov cs) n o → Q (oV o) H'
theorem c__law_behind (T : Txt K mg) : Cal P w K mg base 2 "_law_behind" spBehind [] := by
  have c__law_ahead := @c__law_ahead P w K mg base T
  refine calN T.d__law_behind sc__law_behind (fun vs H Q E h => ?_) (fun _ _ _ _ _ _ us hl => match us, hl with | [_, _], _ => rfl) (fun f cdv A outer s H vs Q E hr h => ?_)
  · obtain ⟨l, n, cs, rfl, _⟩ := h
    rfl
  · obtain ⟨l, n, cs, rfl, ⟨ts, hl, pp⟩, hc, hlen, q⟩ := h
    refine ⟨_, (pss_cons (ps_set (i := 2) sc__law_behind.nd rfl (Or.inl rfl) (pe_cx c__law_ahead hr (by first | decide | omega) rfl passL (pa_cons (pe_lc (own := [("_law_r", 3), ("_law_m", 4)]) (g := gTup K 2 (gCons (gName 3) (gCons (gName 4) gNil))) rfl sc__law_behind.nd (pi_listK K (pv 0)) (blkOk_by (own := [("_law_r", 3), ("_law_m", 4)]) (N := ["_law_pairs_here", "_law_n", "_law_turned", "_law_r", "_law_m"]) (sc := defScope s__law_behind) (by decide +kernel)) (fun _ _ _ _ _ => (pg_tup rfl (pgs_cons (pg_name (i := 3) sc__law_behind.nd rfl (Or.inl rfl)) (pgs_cons (pg_name (i := 4) sc__law_behind.nd rfl (Or.inl rfl)) pgs_nil)))) (fun _ _ _ _ _ => pts_nil) (fun _ _ _ _ _ => (pe_tup (pa_cons (pe_un un_neg (pv 3)) (pa_cons (pv 4) pa_nil))))) (pa_cons (pe_un un_neg (pv 1)) pa_nil))))
      (pss_one (ps_ret (pe_ifExp (pt_cmpR op_isN (pv 2) pe_non (nomark _)) pe_non (pe_un un_neg (pv 2)))))), ?_⟩
    walk_at "g"
    refine ⟨⟨_, SqL.of hl⟩, fun D nD => ?_⟩
    refine lc_pairs (fun _ => true) (fun y c H => ∃ u, y = V.ref u ∧ PrT H u (-c.1, c.2)) (fun y j H H' acc hD kp ⟨u, e, h⟩ => ⟨u, e, kp _ _ h (h.ne hD)⟩) nD (SqL.of hl) pp (by omega) (fun _ _ => rfl) (fun c _ H Q _ q => q H (Same.refl H)) ?_ ?_
    · intro c hcm _ H2 Q2 s2 q2
      walk_at "g"
      refine ⟨by show 2 ≤ sizeLine; decide, fun u nu => ?_⟩
      exact q2 _ _ (same_upd nu) ⟨u, rfl, upd_same⟩
    · intro ys H2 s2 hD2 py
      rw [filter_all] at py
      obtain ⟨us, rfl⟩ := py.ref (f := V.ref) (fun v b ⟨t, e, _⟩ => ⟨t, e⟩)
      have pR : P2 (PrT H2) us (cs.map fun c => ((-c.1, c.2) : Cl)) := P2.mapr ((P2.map_l.mp py).mono fun t j ⟨t', e, r⟩ => by cases e; exact r)
      walk_at "g"
      refine ⟨D, -n, _, rfl, ⟨us, hD2, pR⟩, fun e he => ?_, by rw [List.length_map]; exact hlen, fun o H3 s3 ho => ?_⟩
      · obtain ⟨c, hcm, rfl⟩ := List.mem_map.mp he
        exact hc c hcm
      have ho := ho.cong (fun n => cov_neg)
      walk_at "g"
      rw [oV_none]
      cases o with
      | none =>
        refine iteT ?_
        refine q none H3 (s2.trans s3) fun t ht => ?_
        have := ho (-t) (by show cov cs (- -t); rw [Int.neg_neg]; exact ht)
        omega
      | some v =>
        refine iteF ?_
        walk_at "g"
        refine q (some (-v)) H3 (s2.trans s3) ⟨ho.1, by have := ho.2.1; omega, fun t ht hn => ?_⟩
        have := ho.2.2 (-t) (by show cov cs (- -t); rw [Int.neg_neg]; exact ht) (by omega)
        omega
def spNear7 : Sp := fun vs H Q _ => ∃ (l : Addr) (n : Int) (cs : List Cl), vs = [.ref l, .int n] ∧ PL H l cs ∧ (∀ c ∈ cs, 0 ≤ c.2) ∧ cs.length ≤ 100 ∧ ∀ o o' H', Same H H' → LastR (cov cs) n o → FirstR (cov cs) n o' → Q (oV (nearO n o o')) H'
theorem c__law_near (T : Txt K mg) : Cal P w K mg base 3 "_law_near" spNear7 [] := by
  have c__law_ahead := @c__law_ahead P w K mg base T
  have c__law_behind := @c__law_behind P w K mg base T
  refine calN T.d__law_near sc__law_near (fun vs H Q E h => ?_) (fun _ _ _ _ _ _ us hl => match us, hl with | [_, _], _ => rfl) (fun f cdv A outer s H vs Q E hr h => ?_)
  · obtain ⟨l, n, cs, rfl, _⟩ := h
    rfl
  · obtain ⟨l, n, cs, rfl, hP, hc, hlen, q⟩ := h
    refine ⟨_, (pss_cons (ps_par (i := 2) (j := 3) (by rfl) sc__law_near.nd rfl rfl (by decide) rfl rfl (pa_cons (pe_cx c__law_behind hr (by first | decide | omega) rfl passL (pa_cons (pv 0) (pa_cons (pv 1) pa_nil))) (pa_cons (pe_cx c__law_ahead hr (by first | decide | omega) rfl passL (pa_cons (pv 0) (pa_cons (pv 1) pa_nil))) pa_nil)) (by rfl))
      (pss_cons (ps_if (PW.pt (pw_or (pt_cmpR op_isN (pv 2) pe_non (nomark _)) (pw_or1 (pt_cmpR op_isN (pv 3) pe_non (nomark _))))) (pss_one (ps_ret (pe_ifExp (pt_cmpR op_isN (pv 2) pe_non (nomark _)) (pv 3) (pv 2)))) pss_nil)
      (pss_one (ps_ret (pe_ifExp (pt_cmpR op_lt (pe_op op_sub (pv 1) (pv 2)) (pe_op op_sub (pv 3) (pv 1)) (nomark _)) (pv 2) (pv 3)))))), ?_⟩
    walk_at "g"
    refine ⟨l, n, cs, rfl, hP, hc, hlen, fun o H2 s2 ho => ?_⟩
    walk_at "g"
    refine ⟨l, n, cs, rfl, hP.same s2, hc, hlen, fun o' H3 s3 ho' => ?_⟩
    have fin := q o o' H3 (s2.trans s3) ho ho'
    walk_at "g"
    rw [oV_none]
    cases o with
    | none =>
      refine iteT ?_
      walk_at "g"
      exact fin
    | some b =>
      refine iteF ?_
      walk_at "g"
      cases o' with
      | none =>
        walk_at "g"
        exact fin
      | some c =>
        walk_at "g"
        unfold nearO at fin
        dsimp only at fin
        refine iteB (fun c1 => ?_) (fun c1 => ?_)
        · walk_at "g"
          rw [if_pos (of_decide_eq_true c1)] at fin
          exact fin
        · walk_at "g"
          rw [if_neg (of_decide_eq_false c1)] at fin
          exact fin
end
end Tr

namespace Tr
open PySem L2
/-- steps of a reading that are plain -/
local macro_rules | `(tactic| walk_at "x") => `(tactic| (refine' ⟨_, _, _, _, rfl, rfl, ?k1, ?k2, ?_⟩; (case k1 => exact SqT.of (by assumption)); (case k2 => exact rfl)))
local macro_rules | `(tactic| walk_at "g") => `(tactic| repeat (first | (refine ⟨_, rfl, ?_⟩) | (refine ⟨_, _, rfl, rfl, ?_⟩) | (refine ⟨_, _, rfl, ?_⟩) | (refine ⟨rfl, ?_⟩) | walk_at "x"))


/- wanted: T.v_Numbers T.b_len T.b_list T.b_range T.b_any T.b_int T.b_bool T.b_min T.b_max T.d__law_bag T.d__law_draw T.d__law_pairs T.d__law_has T.d__law_ahead T.d__law_behind T.d__law_near -/
section
variable {P : Program} {w : World} {K : PySem.W.Frag} {mg : Str → Option Value} {base : Heap}
/-! ### k07: the law -/
def Post7 (C : Addr) (σ : St) (H : Hp) : Prop := ∃ (v0 v1 v2 : Option V) (l x : Addr) (far : Int) (pl : Addr) (v7 v8 : Option V) (cs : List Cl) (L : Int) (xs : List Int), σ = [v0, v1, v2, some (.ref l), some (.ref x), some (.int far), some (.ref pl), v7, v8, none, none] ∧
  PL H l cs ∧ (∀ c ∈ cs, 0 ≤ c.2) ∧ cs.length ≤ 4 ∧ NbAt C L 400 H x (cov cs) 4 ∧ H pl = some (.lst (xs.map V.int)) ∧ (∀ x ∈ xs, Bd 400 x) ∧ Bd 400 far
theorem law_b (T : Txt K mg) {f : Addr} {cdv : Value} {A : Around} {outer : List Env} {s : Shared} {H : Hp} {E : XK} (hr : Room 79 (A.deeper (PyProof.Rows.envOfC "law" (defScope s_law) s.heap.objs.size f cdv))) :
    ∃ t, PSs (cxOf (L2.CX P w) P w K mg base ["_law_script", "_law_bag_here", "_law_scale", "_law_pairs_here", "_law_a", "_law_far", "_law_points", "_law_k", "_law_n", "_law_r", "_law_m"] "law" (defScope s_law) f cdv A outer s H E).nox ((defBody s_law).drop 8) t ∧ ∀ (Q : VK) σ H', Post7 (He.ga K "Numbers") σ H' → (∀ H'', Q (.bl true) H'') → t { nx := fun _ H' => Q .non H', rt := Q } σ H' := by
  have c__law_ahead := @c__law_ahead P w K mg base T
  have c__law_behind := @c__law_behind P w K mg base T
  have c__law_near := @c__law_near P w K mg base T
  have c_first_from := @c_firstS P w K mg base T
  have c_last_until := @c_lastS P w K mg base T
  have c_nearest := @c_nearS P w K mg base T
  obtain ⟨d0, m_Numbers0⟩ := @m_Numbers0S P w K mg base T
  refine ⟨_, (pss_cons (ps_for PassesOwn.never rfl (pi_list (pv 6)) (pg_name (i := 8) sc_law.nd rfl (Or.inl rfl)) (pss_cons (ps_if (PW.pt (pw_or (pt_cmpR op_ne (pe_mtx c_first_from hr (by first | decide | omega) passL (pv 4) (pa_cons (pv 8) pa_nil)) (pe_cx c__law_ahead hr (by first | decide | omega) rfl passL (pa_cons (pv 3) (pa_cons (pv 8) pa_nil))) (nomark _)) (pw_or1 (pt_cmpR op_ne (pe_mtx c_last_until hr (by first | decide | omega) passL (pv 4) (pa_cons (pv 8) pa_nil)) (pe_cx c__law_behind hr (by first | decide | omega) rfl passL (pa_cons (pv 3) (pa_cons (pv 8) pa_nil))) (nomark _))))) (pss_one (ps_ret pe_bl)) pss_nil)
      (pss_one (ps_if (pt_cmpR op_ne (pe_mtx c_nearest hr (by first | decide | omega) passL (pv 4) (pa_cons (pv 8) pa_nil)) (pe_cx c__law_near hr (by first | decide | omega) rfl passL (pa_cons (pv 3) (pa_cons (pv 8) pa_nil))) (nomark _)) (pss_one (ps_ret pe_bl)) pss_nil))))
      (pss_one (ps_ret (pe_and (pe_cmpR op_isN (pe_mtx c_first_from hr (by first | decide | omega) passL (pe_mkx0 m_Numbers0 hr (by first | decide | omega) rfl passL) (pa_cons pe_int pa_nil)) pe_non (nomark _)) (pe_and (pe_cmpR op_isN (pe_mtx c_last_until hr (by first | decide | omega) passL (pe_mkx0 m_Numbers0 hr (by first | decide | omega) rfl passL) (pa_cons (pv 5) pa_nil)) pe_non (nomark _)) (pe_one (pe_cmpR op_isN (pe_mtx c_nearest hr (by first | decide | omega) passL (pe_mkx0 m_Numbers0 hr (by first | decide | omega) rfl passL) (pa_cons (pe_un un_neg (pv 5)) pa_nil)) pe_non (nomark _)))))))), ?_⟩
  rintro Q σ H1 ⟨v0, v1, v2, l, x, far, pl, v7, v8, cs, L, xs, rfl, hP, hc, hl, hA, hpl, hxs, hfar⟩ q
  obtain ⟨dxa, qa1, qa2, a1⟩ := hA.atf
  walk_at "g"
  refine ⟨⟨_, SqL.of hpl⟩, ?_⟩
  refine for_list (xs := xs.map V.int) (fun i σ H' => ∃ v8 : Option V, σ = [v0, v1, v2, some (.ref l), some (.ref x), some (.int far), some (.ref pl), v7, v8, none, none] ∧ Same H1 H') ⟨_, rfl, Same.refl _⟩ ?_ ?_ ?_
  · rintro i σ H' _ ⟨v8, rfl, s'⟩
    exact SqL.of (s' _ _ hpl)
  · rintro i y σ H2 hy ⟨v8, rfl, s2⟩
    rw [List.getElem?_map] at hy
    cases hn : xs[i]? with
    | none => rw [hn] at hy; cases hy
    | some n =>
      rw [hn] at hy
      cases hy
      have nB := hxs n (mem_of_at hn)
      walk_at "g"
      refine ⟨x, dxa, _, rfl, s2 _ _ a1, rfl, ?_⟩
      walk_at "g"
      refine ⟨x, n, L, 400, 400, _, 4, rfl, hA.same s2, nB, by decide, fun o H3 s3 ho => ?_⟩
      have t3 := s2.trans s3
      walk_at "g"
      refine ⟨l, n, cs, rfl, hP.same t3, hc, by omega, fun o' H4 s4 ho' => ?_⟩
      have t4 := t3.trans s4
      refine ⟨scal_oV _ _, ?_⟩
      walk_at "g"
      refine iteNe (by rw [ho.uniq ho']) ?_
      walk_at "g"
      refine ⟨x, dxa, _, rfl, t4 _ _ a1, rfl, ?_⟩
      walk_at "g"
      refine ⟨x, n, L, 400, 400, _, 4, rfl, hA.same t4, nB, by decide, fun p H5 s5 hp => ?_⟩
      have t5 := t4.trans s5
      walk_at "g"
      refine ⟨l, n, cs, rfl, hP.same t5, hc, by omega, fun p' H6 s6 hp' => ?_⟩
      have t6 := t5.trans s6
      refine ⟨scal_oV _ _, ?_⟩
      walk_at "g"
      refine iteNe (by rw [hp.uniq hp']) ?_
      walk_at "g"
      refine ⟨x, dxa, _, rfl, t6 _ _ a1, rfl, ?_⟩
      walk_at "g"
      refine ⟨x, n, L, 400, 400, _, 4, rfl, hA.same t6, nB, by decide, fun u u' H7 s7 hu hu' => ?_⟩
      have t7 := t6.trans s7
      walk_at "g"
      refine ⟨l, n, cs, rfl, hP.same t7, hc, by omega, fun w w' H8 s8 hw hw' => ?_⟩
      refine ⟨scal_oV _ _, ?_⟩
      walk_at "g"
      refine iteNe (by rw [hu.uniq hw, hu'.uniq hw']) ?_
      exact ⟨_, rfl, t7.trans s8⟩
  · rintro σ H2 ⟨v8, rfl, s2⟩
    have zB : Bd 1 0 := by show (0 : Int).natAbs < 2 ^ 1; decide
    have oB : Bd 2900 1 := Bd.mono (n := 1) (by show (1 : Int).natAbs < 2 ^ 1; decide) (by decide)
    have emp : ∀ {o : Option Int} {n}, FirstR (fun _ => False) n o → o = none := fun {o n} h => by
      cases o with
      | none => rfl
      | some v => exact h.1.elim
    have emp' : ∀ {o : Option Int} {n}, LastR (fun _ => False) n o → o = none := fun {o n} h => by
      cases o with
      | none => rfl
      | some v => exact h.1.elim
    walk_at "g"
    intro x3 dx3 nx3 ndx3 ne3
    refine ⟨x3, dx3, rfl, upd_same, fun H3 kp3 h3 => ⟨rfl, ?_⟩⟩
    have h3 := h3 1 0 (by decide) oB
    obtain ⟨dxb, qb1, qb2, b1⟩ := h3.atf
    refine ⟨x3, dxb, _, rfl, b1, rfl, ?_⟩
    walk_at "g"
    refine ⟨x3, 0, 1, 0, 1, _, 0, rfl, h3, zB, by decide, fun o H4 s4 ho => ?_⟩
    have e := emp ho
    subst e
    walk_at "g"
    intro x5 dx5 nx5 ndx5 ne5
    refine ⟨x5, dx5, rfl, upd_same, fun H5 kp5 h5 => ⟨rfl, ?_⟩⟩
    have h5 := h5 1 0 (by decide) oB
    obtain ⟨dxc, qc1, qc2, c1⟩ := h5.atf
    refine ⟨x5, dxc, _, rfl, c1, rfl, ?_⟩
    walk_at "g"
    refine ⟨x5, far, 1, 0, 400, _, 0, rfl, h5, hfar, by decide, fun o H6 s6 ho => ?_⟩
    have e := emp' ho
    subst e
    walk_at "g"
    intro x7 dx7 nx7 ndx7 ne7
    refine ⟨x7, dx7, rfl, upd_same, fun H7 kp7 h7 => ⟨rfl, ?_⟩⟩
    have h7 := h7 1 0 (by decide) oB
    obtain ⟨dxd, qd1, qd2, d1⟩ := h7.atf
    refine ⟨x7, dxd, _, rfl, d1, rfl, ?_⟩
    walk_at "g"
    refine ⟨x7, -far, 1, 0, 400, _, 0, rfl, h7, hfar.neg, by decide, fun o o' H8 s8 ho ho' => ?_⟩
    have e := emp' ho
    subst e
    have e := emp ho'
    subst e
    walk_at "g"
    rw [decide_eq_true (show oV (nearO (-far) none none) = V.non from rfl)]
    exact q H8
end
end Tr

namespace Tr
open PySem L2
/-- steps of a reading that are plain -/
local macro_rules | `(tactic| walk_at "x") => `(tactic| (refine' ⟨_, _, _, _, rfl, rfl, ?k1, ?k2, ?_⟩; (case k1 => exact SqT.of (by assumption)); (case k2 => exact rfl)))
local macro_rules | `(tactic| walk_at "g") => `(tactic| repeat (first | (refine ⟨_, rfl, ?_⟩) | (refine ⟨_, _, rfl, rfl, ?_⟩) | (refine ⟨_, _, rfl, ?_⟩) | (refine ⟨rfl, ?_⟩) | walk_at "x"))


section
variable {P : Program} {w : World} {K : PySem.W.Frag} {mg : Str → Option Value} {base : Heap}
theorem div12 (c : Int) (h0 : 0 < c) (h1 : c ≤ 12) : c ∣ 27720 := by
  have d12 : ∀ m : Nat, m < 13 → 0 < m → m ∣ 27720 := by decide
  have := d12 c.toNat (by omega) (by omega)
  have e : ((c.toNat : Nat) : Int) = c := by omega
  rw [← e]
  exact Int.ofNat_dvd.mpr this
def scl (S : Int) (c : Cl) : Cl := (c.1 * S, c.2 * S)
theorem scl_ok {cs : List Cl} {sp S : Int} (s0 : 0 < S) (h : ∀ c ∈ cs, 0 ≤ c.2 ∧ c.2 ≤ 12 ∧ -sp ≤ c.1 ∧ c.1 ≤ sp) : Dv (27720 * S) (cs.map (scl S)) := fun e he => by
  obtain ⟨c, hc, rfl⟩ := List.mem_map.mp he
  obtain ⟨h0, h1, _⟩ := h c hc
  unfold scl
  dsimp only
  rcases Int.lt_trichotomy 0 c.2 with k | k | k
  · exact .inr ⟨Int.mul_pos k s0, Int.mul_dvd_mul (div12 _ k h1) (Int.dvd_refl _)⟩
  · exact .inl (by rw [← k, Int.zero_mul])
  · omega
theorem scl_nn {cs : List Cl} {S : Int} (s0 : 0 < S) (h : ∀ c ∈ cs, 0 ≤ c.2) : ∀ c ∈ cs.map (scl S), 0 ≤ c.2 := fun e he => by
  obtain ⟨c, hc, rfl⟩ := List.mem_map.mp he
  exact Int.mul_nonneg (h c hc) (Int.le_of_lt s0)
def spLaw (K : PySem.W.Frag) : Sp := fun vs H Q _ => ∃ (a : Addr) (ns : List Int), vs = [.ref a] ∧ SqL K H a (ns.map V.int) ∧ ∀ H', Q (.bl true) H'
theorem ok_law (T : Txt K mg) {fl : Addr} {fdl : FuncData} (Fl : Fun K "law" "law" s_law fl fdl) : FnOk P w K mg base (L2.CX P w) 80 fl fdl ["_law_script"] (spLaw K) := by
  have c__law_bag := @c__law_bag P w K mg base T
  have c__law_draw := @c__law_draw P w K mg base T
  have c__law_pairs := @c__law_pairs P w K mg base T
  have m_Numbers := @m_NumbersS P w K mg base T
  refine okN Fl sc_law (fun vs H Q E h => ?_) (fun cdv A outer s H vs Q E hr h => ?_)
  · obtain ⟨a, ns, rfl, _⟩ := h
    rfl
  · obtain ⟨a0, ns, rfl, hS, k0⟩ := h
    obtain ⟨t2, h2, hk2⟩ := @law_b P w K mg base T fl cdv A outer s H E hr
    refine ⟨_, (pss_cons (ps_set (i := 1) sc_law.nd rfl (Or.inl rfl) (pe_cx c__law_bag hr (by first | decide | omega) rfl passL (pa_cons (pv 0) pa_nil)))
      (pss_cons (ps_set (i := 2) sc_law.nd rfl (Or.inr rfl) (pe_ix ix_list (pe_lst (pa_cons pe_int (pa_cons (pe_op op_add (pe_op op_pow pe_int pe_int) pe_int) pa_nil))) (pe_cx c__law_draw hr (by first | decide | omega) rfl passL (pa_cons (pv 1) (pa_cons pe_int pa_nil))) (fun _ _ => rfl)))
      (pss_cons (ps_setLc (i := 3) (own := [("_law_r", 9), ("_law_m", 10)]) (g := gTup K 2 (gCons (gName 9) (gCons (gName 10) gNil))) rfl sc_law.nd rfl rfl (sw_true rfl rfl rfl (by decide +kernel)) (pi_listK K (pe_cx c__law_pairs hr (by first | decide | omega) rfl passL (pa_cons (pv 1) (pa_cons pe_int (pa_cons pe_int (pa_cons pe_int pa_nil)))))) (blkOk_by (own := [("_law_r", 9), ("_law_m", 10)]) (N := ["_law_script", "_law_bag_here", "_law_scale", "_law_pairs_here", "_law_a", "_law_far", "_law_points", "_law_k", "_law_n", "_law_r", "_law_m"]) (sc := defScope s_law) (by decide +kernel)) (fun _ _ _ _ _ => (pg_tup rfl (pgs_cons (pg_name (i := 9) sc_law.nd rfl (Or.inl rfl)) (pgs_cons (pg_name (i := 10) sc_law.nd rfl (Or.inl rfl)) pgs_nil)))) (fun _ _ _ _ _ => pts_nil) (fun _ _ _ _ _ => (pe_tup (pa_cons (pe_op op_mulW (pv 9) (pv 2)) (pa_cons (pe_op op_mulW (pv 10) (pv 2)) pa_nil)))))
      (pss_cons (ps_set (i := 4) sc_law.nd rfl (Or.inl rfl) (pe_mkx m_Numbers hr (by first | decide | omega) rfl passL (pa_cons (pv 3) pa_nil)))
      (pss_cons (ps_set (i := 5) sc_law.nd rfl (Or.inr rfl) (pe_op op_add (pe_op op_pow pe_int pe_int) (pe_cx c__law_draw hr (by first | decide | omega) rfl passL (pa_cons (pv 1) (pa_cons pe_int pa_nil)))))
      (pss_cons (ps_set (i := 6) sc_law.nd rfl (Or.inl rfl) (pe_op op_cat (pe_lc (own := [("_law_k", 7)]) (g := gName 7) rfl sc_law.nd (pi_range2 (by rfl) T.b_range (pa_cons (pe_un un_neg pe_int) (pa_cons pe_int pa_nil))) (blkOk_by (own := [("_law_k", 7)]) (N := ["_law_script", "_law_bag_here", "_law_scale", "_law_pairs_here", "_law_a", "_law_far", "_law_points", "_law_k", "_law_n", "_law_r", "_law_m"]) (sc := defScope s_law) (by decide +kernel)) (fun _ _ _ _ _ => (pg_name (i := 7) sc_law.nd rfl (Or.inl rfl))) (fun _ _ _ _ _ => pts_nil) (fun _ _ _ _ _ => (pe_op op_mulW (pv 7) (pv 2)))) (pe_lc (own := [("_law_k", 7)]) (g := gName 7) rfl sc_law.nd (pi_range1 (by rfl) T.b_range (pa_cons pe_int pa_nil)) (blkOk_by (own := [("_law_k", 7)]) (N := ["_law_script", "_law_bag_here", "_law_scale", "_law_pairs_here", "_law_a", "_law_far", "_law_points", "_law_k", "_law_n", "_law_r", "_law_m"]) (sc := defScope s_law) (by decide +kernel)) (fun _ _ _ _ _ => (pg_name (i := 7) sc_law.nd rfl (Or.inl rfl))) (fun _ _ _ _ _ => pts_nil) (fun _ _ _ _ _ => (pe_op op_add (pe_op op_mulW (pv 5) (pv 2)) (pe_op op_mulW (pv 7) (pv 2)))))))
      (pss_cons (ps_set (i := 6) sc_law.nd rfl (Or.inl rfl) (pe_op op_cat (pv 6) (pe_lc (own := [("_law_k", 7)]) (g := gName 7) rfl sc_law.nd (pi_range1 (by rfl) T.b_range (pa_cons pe_int pa_nil)) (blkOk_by (own := [("_law_k", 7)]) (N := ["_law_script", "_law_bag_here", "_law_scale", "_law_pairs_here", "_law_a", "_law_far", "_law_points", "_law_k", "_law_n", "_law_r", "_law_m"]) (sc := defScope s_law) (by decide +kernel)) (fun _ _ _ _ _ => (pg_name (i := 7) sc_law.nd rfl (Or.inl rfl))) (fun _ _ _ _ _ => pts_nil) (fun _ _ _ _ _ => (pe_op op_sub (pe_un un_neg (pv 5)) (pv 7))))))
      (pss_cons (ps_for PassesOwn.never rfl (pi_range1 (by rfl) T.b_range (pa_cons pe_int pa_nil)) (pg_name (i := 7) sc_law.nd rfl (Or.inl rfl)) (pss_cons (ps_set (i := 8) sc_law.nd rfl (Or.inl rfl) (pe_op op_mulW (pe_op op_sub (pe_cx c__law_draw hr (by first | decide | omega) rfl passL (pa_cons (pv 1) (pa_cons pe_int pa_nil))) pe_int) (pv 2)))
      (pss_one (ps_set (i := 6) sc_law.nd rfl (Or.inl rfl) (pe_op op_cat (pv 6) (pe_lst (pa_cons (pe_op op_sub (pv 8) pe_int) (pa_cons (pe_op op_add (pv 8) pe_int) (pa_cons (pe_op op_add (pv 8) (pe_op op_fdivW (pv 2) pe_int)) (pa_cons (pe_op op_sub (pv 8) (pe_op op_fdivW (pv 2) pe_int)) pa_nil))))))))))
      h2)))))))), ?_⟩
    have nb : ∀ n : Int, -300 ≤ n → n ≤ 300 → Bd 20 n := fun n h0 h1 => by show n.natAbs < 2 ^ 20; omega
    walk_at "g"
    refine ⟨a0, ns, rfl, hS, fun p q H1 s1 np hB1 => ?_⟩
    walk_at "g"
    refine ⟨⟨by decide, by decide, by decide⟩, ?_⟩
    walk_at "g"
    refine ⟨by show 2 ≤ sizeLine; decide, fun sl nsl => ?_⟩
    walk_at "g"
    have s2 := same_upd (o := .lst (([1, 10 ^ Int.toNat 40 + 9] : List Int).map V.int)) nsl
    refine ⟨p, q, 2, 0, rfl, hB1.same s2, by decide, by decide, Bd.mono (n := 5) (by show (2 : Int).natAbs < 2 ^ 5; decide) (by decide), fun v H2 kp2 hB2 v0 v1 => ?_⟩
    obtain ⟨j, rfl⟩ : ∃ j : Nat, v = (j : Int) := ⟨v.toNat, by omega⟩
    obtain ⟨kvs, cells, hp, hq⟩ := hB1.at_
    have npl : sl ≠ p := (ne_of_none hp nsl).symm
    have hj : j < ([1, 10 ^ Int.toNat 40 + 9] : List Int).length := by show j < 2; omega
    have hl2 : H2 sl = some (.lst (([1, 10 ^ Int.toNat 40 + 9] : List Int).map V.int)) := kp2 _ _ upd_same npl
    have all : ∀ x ∈ ([1, 10 ^ Int.toNat 40 + 9] : List Int), 0 < x ∧ x.natAbs < 2 ^ 134 := by decide
    refine ⟨sl, _, (j : Int), .int (([1, 10 ^ Int.toNat 40 + 9] : List Int)[j]), rfl, rfl, SqL.of hl2, atI_nat (j := j) (by rw [List.getElem?_map, List.getElem?_eq_getElem hj]; rfl), ?_⟩
    obtain ⟨s0, sB⟩ := all _ (List.getElem_mem hj)
    generalize ([1, 10 ^ Int.toNat 40 + 9] : List Int)[j] = S at s0 sB
    have sB : Bd 134 S := sB
    clear all hl2 hj s2 npl hp hq
    walk_at "g"
    refine ⟨p, q, 4, 12, 30, _, rfl, hB2, by decide, by decide, by decide, by decide, by show (12 : Int).natAbs < 2 ^ 60; decide, by decide, by show (30 : Int).natAbs < 2 ^ 60; decide, fun l0 cs0 H3 kp3 hB3 nl0 hP0 hlen0 hcs0 => ?_⟩
    obtain ⟨ts0, hl0, pp0⟩ := hP0
    have l04 : cs0.length ≤ 4 := hlen0
    walk_at "g"
    refine ⟨⟨_, SqL.of hl0⟩, fun D nD => ?_⟩
    refine lc_pairs (fun _ => true) (fun y c H => ∃ u, y = V.ref u ∧ PrT H u (scl S c)) (fun y j H H' acc hD kp ⟨u, e, h⟩ => ⟨u, e, kp _ _ h (h.ne hD)⟩) nD (SqL.of hl0) pp0 (by omega) (fun _ _ => rfl) (fun c _ H Q _ q => q H (Same.refl H)) ?_ ?_
    · intro c hcm _ H4 Q4 s4 q4
      have hc := hcs0 c hcm
      walk_at "g"
      refine ⟨cmulw (nb _ (by omega) (by omega)) sB (by decide), ?_⟩
      walk_at "g"
      refine ⟨cmulw (nb _ (by omega) (by omega)) sB (by decide), ?_⟩
      walk_at "g"
      refine ⟨by show 2 ≤ sizeLine; decide, fun u nu => ?_⟩
      exact q4 _ _ (same_upd nu) ⟨u, rfl, upd_same⟩
    · intro ys H4 s4 hD4 py
      rw [filter_all] at py
      obtain ⟨us, rfl⟩ := py.ref (f := V.ref) (fun v b ⟨t, e, _⟩ => ⟨t, e⟩)
      have pR : P2 (PrT H4) us (cs0.map (scl S)) := P2.mapr ((P2.map_l.mp py).mono fun t j ⟨t', e, r⟩ => by cases e; exact r)
      have hP : PL H4 D (cs0.map (scl S)) := ⟨us, hD4, pR⟩
      have hB4 := hB3.same s4
      have dv := scl_ok s0 hcs0
      have nn := scl_nn s0 fun c hc => (hcs0 c hc).1
      have cl4 : (cs0.map (scl S)).length ≤ 4 := by rw [List.length_map]; exact l04
      have sb : ∀ c ∈ cs0.map (scl S), c.2 = 0 → Bd 400 c.1 := fun e he _ => by
        obtain ⟨c, hc, rfl⟩ := List.mem_map.mp he
        have := hcs0 c hc
        exact ((nb c.1 (by omega) (by omega)).mul sB).mono (by decide)
      have LB : Bd 2900 (27720 * S) := (Bd.mul (n := 20) (by show (27720 : Int).natAbs < 2 ^ 20; decide) sB).mono (by decide)
      have L0 : 0 < 27720 * S := Int.mul_pos (by decide) s0
      clear hcs0 l04 hlen0 pR py
      generalize cs0.map (scl S) = cs at hP dv nn cl4 sb
      generalize 27720 * S = L at dv LB L0
      walk_at "g"
      intro x1 dx1 nx1 ndx1 ne1
      refine ⟨x1, dx1, D, cs, L, 400, rfl, upd_same, hP.same (same_made nx1 ndx1), L0, LB, dv, by omega, sb, fun H5 kp5 hA => ⟨rfl, ?_⟩⟩
      have s5 := mk_same kp5 nx1 ndx1
      have hA := hA.mono cl4
      have hB5 := hB4.same s5
      have hP := hP.same s5
      walk_at "g"
      refine ⟨⟨by decide, by decide, by decide⟩, ?_⟩
      walk_at "g"
      refine ⟨p, q, 27720, _, rfl, hB5, by decide, by decide, Bd.mono (n := 20) (by show (27720 : Int).natAbs < 2 ^ 20; decide) (by decide), fun v2 H6 kp6 hB6 v20 v21 => ?_⟩
      obtain ⟨kvs5, cells5, hp5, hq5⟩ := hB5.at_
      have hA := hA.kpB kp6 hp5
      have hP := hP.kpB kp6 hp5
      obtain ⟨far, efar⟩ : ∃ far : Int, far = 10 ^ Int.toNat 40 + v2 := ⟨_, rfl⟩
      have fB : Bd 140 far := by
        have p40 : (10 : Int) ^ Int.toNat 40 = 10000000000000000000000000000000000000000 := by decide
        have p140 : (2 : Nat) ^ 140 = 1393796574908163946345982392040522594123776 := by decide
        show far.natAbs < 2 ^ 140
        omega
      have key : ∀ (Q : VK), Q (V.int far) H6 → rI0 (fun i j => V.int (i + j)) (V.int (10 ^ Int.toNat 40)) (V.int v2) H6 Q := fun Q h => ⟨_, _, rfl, rfl, by rw [efar] at h; exact h⟩
      refine key _ ?_
      clear key efar v20 v21
      walk_at "g"
      refine ⟨⟨by decide, by decide, by decide⟩, fun D1 nD1 => ?_⟩
      refine lc_rng (lo := -35) (n := 71) (fun _ => true) (fun y j _ => y = .int ((-35 + (j : Int)) * S)) (fun _ _ _ _ _ _ _ e => e) nD1 (by omega) (fun _ => rfl) (fun j _ H Q _ q => q H (Same.refl H)) ?_ ?_
      · intro j hj _ H7 Q7 s7 q7
        walk_at "g"
        refine ⟨cmulw (nb _ (by omega) (by omega)) sB (by decide), ?_⟩
        exact q7 _ _ (Same.refl _) rfl
      intro ys1 H7 s7 hD7 py1
      rw [filter_all] at py1
      have ey1 : ys1 = ((List.range 71).map fun (j : Nat) => (-35 + (j : Int)) * S).map V.int := by rw [py1.eq_map, List.map_map]; rfl
      walk_at "g"
      refine ⟨by decide, by decide, fun D2 nD2 => ?_⟩
      refine lc_rng (lo := 0) (n := 13) (fun _ => true) (fun y j _ => y = .int (far * S + (0 + (j : Int)) * S)) (fun _ _ _ _ _ _ _ e => e) nD2 (by omega) (fun _ => rfl) (fun j _ H Q _ q => q H (Same.refl H)) ?_ ?_
      · intro j hj _ H8 Q8 s8 q8
        walk_at "g"
        refine ⟨cmulw fB sB (by decide), ?_⟩
        walk_at "g"
        refine ⟨cmulw (nb _ (by omega) (by omega)) sB (by decide), ?_⟩
        walk_at "g"
        exact q8 _ _ (Same.refl _) rfl
      intro ys2 H8 s8 hD8 py2
      rw [filter_all] at py2
      have ey2 : ys2 = ((List.range 13).map fun (j : Nat) => far * S + (0 + (j : Int)) * S).map V.int := by rw [py2.eq_map, List.map_map]; rfl
      refine ⟨D1, D2, _, _, rfl, rfl, s8 _ _ hD7, hD8, ?_, fun D3 nD3 => ?_⟩
      · rw [ey1, ey2, List.length_map, List.length_map, List.length_map, List.length_map, List.length_range, List.length_range]
        decide
      rw [ey1, ey2, ← List.map_append]
      obtain ⟨xs1, exs1⟩ : ∃ xs, xs = ((List.range 71).map fun (j : Nat) => (-35 + (j : Int)) * S) ++ ((List.range 13).map fun (j : Nat) => far * S + (0 + (j : Int)) * S) := ⟨_, rfl⟩
      have hx1 : ∀ x ∈ xs1, Bd 400 x := fun x hx => by
        rw [exs1] at hx
        rcases List.mem_append.mp hx with h | h
        · obtain ⟨j, hj, rfl⟩ := List.mem_map.mp h
          have := List.mem_range.mp hj
          exact ((nb (-35 + (j : Int)) (by omega) (by omega)).mul sB).mono (by decide)
        · obtain ⟨j, hj, rfl⟩ := List.mem_map.mp h
          have := List.mem_range.mp hj
          exact ((fB.mul sB).mono (m := 300) (by decide)).add (((nb (0 + (j : Int)) (by omega) (by omega)).mul sB).mono (by decide)) (by decide)
      have hl1 : xs1.length = 84 := by
        rw [exs1, List.length_append, List.length_map, List.length_map, List.length_range, List.length_range]
      rw [← exs1]
      obtain ⟨H9, e9⟩ : ∃ H9, H9 = upd H8 D3 (.lst (xs1.map V.int)) := ⟨_, rfl⟩
      have s9 : Same H6 H9 := by rw [e9]; exact (s7.trans s8).trans (same_upd nD3)
      have hD9 : H9 D3 = some (.lst (xs1.map V.int)) := by rw [e9]; exact upd_same
      rw [← e9]
      clear exs1 ey1 ey2 py1 py2 e9 hD7 hD8
      walk_at "g"
      refine ⟨by decide, by decide, fun D4 nD4 => ?_⟩
      refine lc_rng (lo := 0) (n := 13) (fun _ => true) (fun y j _ => y = .int (-far - (0 + (j : Int)))) (fun _ _ _ _ _ _ _ e => e) nD4 (by omega) (fun _ => rfl) (fun j _ H Q _ q => q H (Same.refl H)) ?_ ?_
      · intro j hj _ H10 Q10 s10 q10
        walk_at "g"
        exact q10 _ _ (Same.refl _) rfl
      intro ys3 H10 s10 hD10 py3
      rw [filter_all] at py3
      have ey3 : ys3 = ((List.range 13).map fun (j : Nat) => -far - (0 + (j : Int))).map V.int := by rw [py3.eq_map, List.map_map]; rfl
      refine ⟨D3, D4, _, _, rfl, rfl, s10 _ _ hD9, hD10, ?_, fun D5 nD5 => ?_⟩
      · rw [ey3, List.length_map, List.length_map, List.length_map, List.length_range, hl1]
        decide
      rw [ey3, ← List.map_append]
      obtain ⟨xs2, exs2⟩ : ∃ xs, xs = xs1 ++ ((List.range 13).map fun (j : Nat) => -far - (0 + (j : Int))) := ⟨_, rfl⟩
      have hx2 : ∀ x ∈ xs2, Bd 400 x := fun x hx => by
        rw [exs2] at hx
        rcases List.mem_append.mp hx with h | h
        · exact hx1 x h
        · obtain ⟨j, hj, rfl⟩ := List.mem_map.mp h
          have := List.mem_range.mp hj
          exact fB.neg.mono (m := 300) (by decide) |>.sub ((nb (0 + (j : Int)) (by omega) (by omega)).mono (by decide)) (by decide)
      have hl2 : xs2.length = 97 := by
        rw [exs2, List.length_append, List.length_map, List.length_range, hl1]
      rw [← exs2]
      obtain ⟨H11, e11⟩ : ∃ H11, H11 = upd H10 D5 (.lst (xs2.map V.int)) := ⟨_, rfl⟩
      have s11 : Same H6 H11 := by rw [e11]; exact (s9.trans s10).trans (same_upd nD5)
      have hD11 : H11 D5 = some (.lst (xs2.map V.int)) := by rw [e11]; exact upd_same
      rw [← e11]
      clear exs2 ey3 py3 e11 hD9 hD10
      have hB11 := hB6.same s11
      have hA := hA.same s11
      have hP := hP.same s11
      walk_at "g"
      refine ⟨by decide, by decide, ?_⟩
      refine for_range (lo := 0) (n := 12) (fun i σ H' => ∃ (v7 v8 : Option V) (pl : Addr) (xs : List Int), σ = [some (.ref a0), some (.ref p), some (.int S), some (.ref D), some (.ref x1), some (.int far), some (.ref pl), v7, v8, none, none] ∧ Kp p H11 H' ∧ Bag H' p q (300 + i) ∧ H' pl = some (.lst (xs.map V.int)) ∧ (∀ x ∈ xs, Bd 400 x) ∧ xs.length ≤ 97 + 4 * i) ?_ ?_ ?_
      · exact ⟨_, _, D5, xs2, rfl, Kp.refl _ _, hB11.mono (by decide), hD11, hx2, by omega⟩
      · rintro i σ H12 hi ⟨v7, v8, pl, xs, rfl, kp12, hB12, hpl, hxs, hxl⟩
        obtain ⟨kvs12, cells12, hp12, hq12⟩ := hB12.at_
        walk_at "g"
        refine ⟨p, q, 49, _, rfl, hB12, by omega, by decide, Bd.mono (n := 20) (by show (49 : Int).natAbs < 2 ^ 20; decide) (by decide), fun v3 H13 kp13 hB13 v30 v31 => ?_⟩
        have hpl := kp13 _ _ hpl (ne_of hpl hp12 (by intro z; cases z))
        walk_at "g"
        refine ⟨cmulw (nb _ (by omega) (by omega)) sB (by decide), ?_⟩
        dsimp only
        have gB : Bd 160 ((v3 - 24) * S) := ((nb (v3 - 24) (by omega) (by omega)).mul sB).mono (by decide)
        generalize (v3 - 24) * S = g at gB
        have hB : Bd 160 (S / 2) := (sB.div (by decide)).mono (by decide)
        walk_at "g"
        refine ⟨cdivw (by decide) (nb 2 (by decide) (by decide)) (by decide), ?_⟩
        walk_at "g"
        refine ⟨cdivw (by decide) (nb 2 (by decide) (by decide)) (by decide), ?_⟩
        walk_at "g"
        refine ⟨by show 4 ≤ sizeLine; decide, fun e1 ne1 => ?_⟩
        have s14 := same_upd (o := .lst (([g - 1, g + 1, g + S / 2, g - S / 2] : List Int).map V.int)) ne1
        have hr4 : ∀ x ∈ ([g - 1, g + 1, g + S / 2, g - S / 2] : List Int), Bd 400 x := fun x hx => by
          have u1 : Bd 160 1 := (nb 1 (by decide) (by decide)).mono (by decide)
          simp only [List.mem_cons, List.not_mem_nil, or_false] at hx
          rcases hx with rfl | rfl | rfl | rfl
          · exact gB.sub u1 (by decide)
          · exact gB.add u1 (by decide)
          · exact gB.add hB (by decide)
          · exact gB.sub hB (by decide)
        refine ⟨pl, e1, _, _, rfl, rfl, s14 _ _ hpl, upd_same, ?_, fun e2 ne2 => ?_⟩
        · rw [List.length_map]
          exact Nat.le_trans (show _ ≤ 200 by show xs.length + 4 ≤ 200; omega) (by decide)
        have s15 := s14.trans (same_upd (o := .lst ((xs ++ [g - 1, g + 1, g + S / 2, g - S / 2]).map V.int)) ne2)
        have key : xs.map V.int ++ [V.int (g - 1), V.int (g + 1), V.int (g + S / 2), V.int (g - S / 2)] = (xs ++ [g - 1, g + 1, g + S / 2, g - S / 2]).map V.int := by rw [List.map_append]; rfl
        rw [← key] at s15
        refine ⟨_, _, e2, xs ++ [g - 1, g + 1, g + S / 2, g - S / 2], rfl, (kp12.trans kp13).trans s15.kp, (hB13.same s15).mono (by omega), by rw [← key]; exact upd_same, fun x hx => ?_, by rw [List.length_append]; show xs.length + 4 ≤ _; omega⟩
        rcases List.mem_append.mp hx with h | h
        · exact hxs x h
        · exact hr4 x h
      · rintro σ H12 ⟨v7, v8, pl, xs, rfl, kp12, hB12, hpl, hxs, hxl⟩
        exact hk2 Q _ H12 ⟨_, _, _, D, x1, far, pl, _, _, cs, L, xs, rfl, hP.kpB kp12 hB11.at_.choose_spec.choose_spec.1, nn, cl4, hA.kpB kp12 hB11.at_.choose_spec.choose_spec.1, hpl, hxs, fB.mono (by decide)⟩ k0
end
end Tr

/-! # The head by facts: a hook of own booleans and of functions by their places. -/
namespace Tr
open PySem PySem.Spec PyProof.Rows L2
theorem _root_.L2.FnOk.to0 {P : Program} {w : World} {K : PySem.W.Frag} {mg : Str → Option Value} {base : Heap} {k : Nat} {f : Addr} {fd : FuncData} {ps : List Str} {sp : Sp} (F : FnOk P w K mg base (L2.CX P w) k f fd ps sp) (h : ∀ vs H Q E, sp vs H Q E → sp vs H Q E0) :
    FnOk P w K mg base CX0 k f fd ps sp := ⟨F.len, fun A outer s H args us vs Q E hr he hb hv hs => codeAny_mono (F.run A outer s H args us vs Q E0 hr he hb hv (h _ _ _ _ hs)) fun r s' q => by
  cases r with
  | error e =>
    obtain ⟨_, _, _, _, _, _, _, _, _, _, _, _, z⟩ := q
    exact z.elim
  | ok fl => cases fl <;> exact q⟩
theorem _root_.L2.FunD.fun_ {K : PySem.W.Frag} {x qual : Str} {st : Stmt} {f : Addr} {fd : FuncData} (F : FunD K x qual (defArgs st) (defBody st) (defScope st) [] [] f fd) : Fun K x qual st f fd := by
  obtain ⟨oc, od, dV, kV, doc, pm, an, cdv, ct, osl, e, lk, hcd, hD, _⟩ := F.ex
  rcases hD with ⟨_, rfl⟩ | ⟨e, _⟩
  · exact ⟨⟨oc, od, kV, doc, pm, an, cdv, ct, osl, e, lk, hcd⟩, F.kp⟩
  · exact absurd rfl e
/-- one def: its place, names, parameters, body, scope, defaults -/
structure DefX where
  at_ : PySem.W.Frag → Addr
  name : Str
  qual : Str
  params : Arguments
  body : List Stmt
  scope : Scope
  dfl : List He.Dv := []
def DefX.val (d : DefX) : He.FnW := some (d.name, d.qual, d.params, .stmts d.body, d.scope, mainGlobals, [], builtinsNs)
def fnX (K : PySem.W.Frag) (a : Addr) : He.FnW := match K.lookup a with
  | some ⟨_, _, .func fd, _⟩ => some (fd.name, fd.qualname, fd.params, fd.body, fd.scope, fd.globals, fd.closure, fd.builtins)
  | _ => none
def DefX.ok (K : PySem.W.Frag) (d : DefX) : Bool := PySem.W.keepIn K (.ref (d.at_ K)) && (match K.lookup (d.at_ K) with
  | some ⟨_, _, .func fd, _⟩ => PySem.W.codeIn K fd.code d.qual && (He.dflB K fd.defaults (d.dfl.map (He.Dv.v K)) && He.kwdB K fd.kwdefaults [])
  | _ => false)
theorem DefX.funD {K : PySem.W.Frag} {d : DefX} (e : fnX K (d.at_ K) = d.val) (c : d.ok K = true) : ∃ fd, FunD K d.name d.qual d.params d.body d.scope (d.dfl.map (He.Dv.v K)) [] (d.at_ K) fd := by
  obtain ⟨kp, c2⟩ := He.ba c
  unfold fnX at e
  cases q : K.lookup (d.at_ K) with
  | none =>
    rw [q] at c2
    cases c2
  | some o =>
    obtain ⟨oc, od, dt, osl⟩ := o
    rw [q] at c2 e
    cases dt with
    | func fd =>
      obtain ⟨n1, n2, n3, n4, n5, n6, n7, n8, n9, n10, n11, n12, n13, n14, n15⟩ := fd
      have e2 : (some (n1, n2, n3, n4, n5, n6, n7, n15) : He.FnW) = some (d.name, d.qual, d.params, .stmts d.body, d.scope, mainGlobals, [], builtinsNs) := e
      simp only [Option.some.injEq, Prod.mk.injEq] at e2
      obtain ⟨h1, h2, h3, h4, h5, h6, h7, h8⟩ := e2
      subst h1 h2 h3 h4 h5 h6 h7 h8
      have c3 : (PySem.W.codeIn K n13 d.qual && (He.dflB K n8 (d.dfl.map (He.Dv.v K)) && He.kwdB K n9 [])) = true := c2
      obtain ⟨k1, k2⟩ := He.ba c3
      obtain ⟨k3, k4⟩ := He.ba k2
      exact ⟨_, ⟨oc, od, n8, n9, n10, n11, n12, n13, n14, osl, rfl, q, k1, He.dflB_ok k3, He.kwdB_ok k4⟩, kp⟩
    | _ => cases c2
abbrev AlX : Type := Bool × List He.FnW
def obsX (fb : List (PySem.W.Frag → Bool)) (fx : List DefX) (K : PySem.W.Frag) : AlX := ((fb.all fun f => f K) && fx.all fun d => d.ok K, fx.map fun d => fnX K (d.at_ K))
def valX (fx : List DefX) : AlX := (true, fx.map DefX.val)
def SaysX (fb : List (PySem.W.Frag → Bool)) (fx : List DefX) (K : PySem.W.Frag) : Prop := obsX fb fx K = valX fx
/-- what the module's names and the C statics reach in n steps -/
def asX (g : Addr → Option Obj) : Nat → List Addr
  | 0 => [mainGlobals, cStatics]
  | n + 1 => He.growD g (asX g n)
def obsXG (n : Nat) (fb : List (PySem.W.Frag → Bool)) (fx : List DefX) (g : Addr → Option Obj) : AlX := obsX fb fx (He.frG g (asX g n))
def hookX (n : Nat) (fb : List (PySem.W.Frag → Bool)) (fx : List DefX) : PySem.W.Hook where
  α := AlX
  obs := fun s => obsXG n fb fx s.heap.get?
  val := fun _ => valX fx
  says := fun _ h => ∃ K : PySem.W.Frag, K.In h ∧ SaysX fb fx K
  of := fun _ _ e => ⟨_, He.frG_in, e⟩
  keeps := fun _ _ _ ⟨K, hK, c⟩ k => ⟨K, PySem.W.Frag.In.keeps hK k, c⟩
theorem obsXG_eq {n : Nat} {fb : List (PySem.W.Frag → Bool)} {fx : List DefX} {g : Addr → Option Obj} {s : Shared} (h : ∀ a, g a = s.heap.get? a) : obsXG n fb fx g = (hookX n fb fx).obs s := by
  have e : g = s.heap.get? := funext h
  rw [e] <;> rfl
section
variable {fb : List (PySem.W.Frag → Bool)} {fx : List DefX} {K : PySem.W.Frag}
theorem SaysX.fact (c : SaysX fb fx K) (i : Nat) {f : PySem.W.Frag → Bool} (h : fb[i]? = some f := by rfl) : f K = true := by
  have c1 := (He.ba (show ((fb.all fun f => f K) && fx.all fun d => d.ok K) = true from congrArg (fun z : AlX => z.1) c)).1
  exact List.all_eq_true.mp c1 f (List.mem_of_getElem? h)
theorem SaysX.def_ (c : SaysX fb fx K) (i : Nat) {d : DefX} (h : fx[i]? = some d := by rfl) : ∃ fd, FunD K d.name d.qual d.params d.body d.scope (d.dfl.map (He.Dv.v K)) [] (d.at_ K) fd := by
  have c2 := (He.ba (show ((fb.all fun f => f K) && fx.all fun d => d.ok K) = true from congrArg (fun z : AlX => z.1) c)).2
  have e : fx.map (fun d => fnX K (d.at_ K)) = fx.map DefX.val := congrArg (fun z : AlX => z.2) c
  have e2 : (fx.map fun d => fnX K (d.at_ K))[i]? = (fx.map DefX.val)[i]? := by rw [e]
  rw [List.getElem?_map, List.getElem?_map, h] at e2
  exact DefX.funD (Option.some.inj e2) (List.all_eq_true.mp c2 d (List.mem_of_getElem? h))
end
/-! ### own facts -/
def gof (kind : String) (K : PySem.W.Frag) (p : Addr) : Addr := match PySem.W.recIn K p kind with
  | some (.ref g :: _) => g
  | _ => 0
def decO (a : Option (Option Value)) (b : Option (Option Value)) : Bool := decide (a = b)
def propB (x m : Str) (K : PySem.W.Frag) : Bool :=
  decO (PySem.W.findIn K (.ref (He.ga K x)) m) (some (some (.ref (He.ma K (He.ga K x) m)))) && (decO (PySem.W.specialIn K (.ref (He.ma K (He.ga K x) m)) "__get__") (some (some (.builtin "property.__get__"))) &&
    (decide (PySem.W.takesIn K (.ref (He.ma K (He.ga K x) m)) = some true) && (match PySem.W.recIn K (He.ma K (He.ga K x) m) "property" with
      | some (.ref _ :: _) => true
      | _ => false)))
theorem propB_ok {x m : Str} {K : PySem.W.Frag} (h : propB x m K = true) : PropOf K (He.ga K x) m (He.ma K (He.ga K x) m) (gof "property" K (He.ma K (He.ga K x) m)) := by
  obtain ⟨h1, h⟩ := He.ba h
  obtain ⟨h2, h⟩ := He.ba h
  obtain ⟨h3, h4⟩ := He.ba h
  refine ⟨of_decide_eq_true h1, of_decide_eq_true h2, of_decide_eq_true h3, ?_⟩
  unfold gof
  split at h4
  · rename_i g r e
    rw [e]
    exact ⟨r, rfl⟩
  · cases h4
def isoB (x : Str) (K : PySem.W.Frag) : Bool :=
  decO (PySem.W.findIn K (.ref (He.ga K x)) "__class__") (some (some (.builtin "object.__class__"))) && (decO (PySem.W.specialIn K (.builtin "object.__class__") "__get__") (some (some (.builtin "getset_descriptor.__get__"))) &&
    (decide (PySem.W.takesIn K (.builtin "object.__class__") = some true) && decide (PySem.W.mroIn K (He.ga K x) (.type "object") = some true)))
theorem isoB_ok {x : Str} {K : PySem.W.Frag} (h : isoB x K = true) : IsO K (He.ga K x) := by
  obtain ⟨h1, h⟩ := He.ba h
  obtain ⟨h2, h⟩ := He.ba h
  obtain ⟨h3, h4⟩ := He.ba h
  exact ⟨of_decide_eq_true h1, of_decide_eq_true h2, of_decide_eq_true h3, of_decide_eq_true h4⟩
def neB_ (x : Str) (K : PySem.W.Frag) : Bool := decO (PySem.W.findIn K (.ref (He.ga K x)) "__ne__") (some (some (.builtin "object.__ne__"))) && decide (PySem.W.mroIn K (He.ga K x) (.type "object") = some true)
theorem neB_ok {x : Str} {K : PySem.W.Frag} (h : neB_ x K = true) : NeOf K (He.ga K x) := by
  obtain ⟨h1, h2⟩ := He.ba h
  exact ⟨of_decide_eq_true h1, of_decide_eq_true h2⟩
end Tr

namespace Tr
open PySem PySem.Spec PyProof.Rows L2
/-- static methods: for texts that hold A6 -/
def cfIs (r : Option PySem.W.CFound) (p C : Addr) : Bool := match r with
  | some (.get (.builtin b) (.ref q) .none (.ref D)) => decide (b = "staticmethod.__get__") && (decide (q = p) && decide (D = C))
  | _ => false
theorem cfIs_ok {r : Option PySem.W.CFound} {p C : Addr} (h : cfIs r p C = true) : r = some (.get (.builtin "staticmethod.__get__") (.ref p) .none (.ref C)) := by
  unfold cfIs at h
  split at h
  · obtain ⟨h1, h⟩ := He.ba h
    obtain ⟨h2, h3⟩ := He.ba h
    rw [of_decide_eq_true h1, of_decide_eq_true h2, of_decide_eq_true h3]
  · cases h
def smB (x m : Str) (K : PySem.W.Frag) : Bool := PySem.W.readsIn K (He.ga K x) (.type "type") && (decO (PySem.W.specialIn K (.ref (He.ga K x)) "__getattribute__") (some (some (.builtin "type.__getattribute__"))) &&
  (cfIs (PySem.W.findCls K (.ref (He.ga K x)) (.type "type") m) (He.ma K (He.ga K x) m) (He.ga K x) && ((match PySem.W.recIn K (He.ma K (He.ga K x) m) "staticmethod" with
    | some (.ref _ :: _) => true
    | _ => false) && PySem.W.keepIn K (.ref (gof "staticmethod" K (He.ma K (He.ga K x) m))))))
theorem smB_ok {x m : Str} {K : PySem.W.Frag} (h : smB x m K = true) : SMet K (He.ga K x) m (He.ma K (He.ga K x) m) (gof "staticmethod" K (He.ma K (He.ga K x) m)) := by
  obtain ⟨h1, h⟩ := He.ba h
  obtain ⟨h2, h⟩ := He.ba h
  obtain ⟨h3, h⟩ := He.ba h
  obtain ⟨h4, h5⟩ := He.ba h
  refine ⟨h1, of_decide_eq_true h2, cfIs_ok h3, ?_, h5⟩
  unfold gof
  split at h4
  · rename_i g r e
    rw [e]
    exact ⟨r, rfl⟩
  · cases h4
end Tr

/-! ### what the top has left -/
namespace Tr
open PySem PySem.Spec PyProof.Rows L2
def fb : List (PySem.W.Frag → Bool) := [
  (fun K => (He.Fa.noat "Numbers" "classes").ok K),
  (fun K => (He.Fa.noat "Numbers" "singles").ok K),
  (fun K => (He.Fa.free "abs").ok K),
  (fun K => (He.Fa.free "any").ok K),
  (fun K => (He.Fa.free "bool").ok K),
  (fun K => (He.Fa.free "enumerate").ok K),
  (fun K => (He.Fa.free "int").ok K),
  (fun K => (He.Fa.free "isinstance").ok K),
  (fun K => (He.Fa.free "len").ok K),
  (fun K => (He.Fa.free "list").ok K),
  (fun K => (He.Fa.free "max").ok K),
  (fun K => (He.Fa.free "min").ok K),
  (fun K => (He.Fa.free "range").ok K),
  (fun K => (He.Fa.free "set").ok K),
  (fun K => (He.Fa.free "sorted").ok K),
  (fun K => (He.Fa.free "tuple").ok K),
  (fun K => (He.Fa.glo "_law_ahead").ok K),
  (fun K => (He.Fa.glo "_law_bag").ok K),
  (fun K => (He.Fa.glo "_law_behind").ok K),
  (fun K => (He.Fa.glo "_law_draw").ok K),
  (fun K => (He.Fa.glo "_law_has").ok K),
  (fun K => (He.Fa.glo "_law_near").ok K),
  (fun K => (He.Fa.glo "_law_pairs").ok K),
  (fun K => (He.Fa.glo "bare_number").ok K),
  (fun K => (He.Fa.glo "combination").ok K),
  (fun K => (He.Fa.glo "common_class").ok K),
  (fun K => (He.Fa.glo "common_divisor").ok K),
  (fun K => (He.Fa.glo "common_multiple").ok K),
  (fun K => (He.Fa.glo "inverse").ok K),
  (fun K => (He.Fa.glo "is_covered").ok K),
  (fun K => (He.Fa.glo "is_part").ok K),
  (fun K => (He.Fa.glo "is_whole").ok K),
  (fun K => (He.Fa.glo "refined").ok K),
  (fun K => (He.Fa.glo "tidy_classes").ok K),
  (fun K => (He.Fa.mkr "Numbers").ok K),
  (fun K => (He.Fa.glo "Numbers").ok K),
  (empB (He.dflAt ("Numbers", some "__init__") 0)),
  (fun K => (He.Fa.cls "Numbers").ok K),
  (fun K => (He.Fa.meth "Numbers" "__and__").ok K),
  (fun K => (He.Fa.meth "Numbers" "__bool__").ok K),
  (fun K => (He.Fa.meth "Numbers" "__contains__").ok K),
  (fun K => (He.Fa.meth "Numbers" "__eq__").ok K),
  (fun K => (He.Fa.meth "Numbers" "__or__").ok K),
  (fun K => (He.Fa.meth "Numbers" "first_from").ok K),
  (fun K => (He.Fa.meth "Numbers" "last_until").ok K),
  (fun K => (He.Fa.meth "Numbers" "nearest").ok K),
  (fun K => (He.Fa.meth "Numbers" "outside").ok K),
  (fun K => (He.Fa.meth "Numbers" "parts_told").ok K),
  (fun K => (He.Fa.meth "Numbers" "within").ok K),
  (isoB "Numbers"),
  (fun K => (He.Fa.glo "law").ok K)]
def fx : List DefX := [
  ⟨fun K => He.ga K "_law_ahead", "_law_ahead", "_law_ahead", defArgs s__law_ahead, defBody s__law_ahead, defScope s__law_ahead, []⟩,
  ⟨fun K => He.ga K "_law_bag", "_law_bag", "_law_bag", defArgs s__law_bag, defBody s__law_bag, defScope s__law_bag, []⟩,
  ⟨fun K => He.ga K "_law_behind", "_law_behind", "_law_behind", defArgs s__law_behind, defBody s__law_behind, defScope s__law_behind, []⟩,
  ⟨fun K => He.ga K "_law_draw", "_law_draw", "_law_draw", defArgs s__law_draw, defBody s__law_draw, defScope s__law_draw, []⟩,
  ⟨fun K => He.ga K "_law_has", "_law_has", "_law_has", defArgs s__law_has, defBody s__law_has, defScope s__law_has, []⟩,
  ⟨fun K => He.ga K "_law_near", "_law_near", "_law_near", defArgs s__law_near, defBody s__law_near, defScope s__law_near, []⟩,
  ⟨fun K => He.ga K "_law_pairs", "_law_pairs", "_law_pairs", defArgs s__law_pairs, defBody s__law_pairs, defScope s__law_pairs, []⟩,
  ⟨fun K => He.ga K "bare_number", "bare_number", "bare_number", defArgs s_bare_number, defBody s_bare_number, defScope s_bare_number, []⟩,
  ⟨fun K => He.ga K "combination", "combination", "combination", defArgs s_combination, defBody s_combination, defScope s_combination, []⟩,
  ⟨fun K => He.ga K "common_class", "common_class", "common_class", defArgs s_common_class, defBody s_common_class, defScope s_common_class, []⟩,
  ⟨fun K => He.ga K "common_divisor", "common_divisor", "common_divisor", defArgs s_common_divisor, defBody s_common_divisor, defScope s_common_divisor, []⟩,
  ⟨fun K => He.ga K "common_multiple", "common_multiple", "common_multiple", defArgs s_common_multiple, defBody s_common_multiple, defScope s_common_multiple, []⟩,
  ⟨fun K => He.ga K "inverse", "inverse", "inverse", defArgs s_inverse, defBody s_inverse, defScope s_inverse, []⟩,
  ⟨fun K => He.ga K "is_covered", "is_covered", "is_covered", defArgs s_is_covered, defBody s_is_covered, defScope s_is_covered, []⟩,
  ⟨fun K => He.ga K "is_part", "is_part", "is_part", defArgs s_is_part, defBody s_is_part, defScope s_is_part, []⟩,
  ⟨fun K => He.ga K "is_whole", "is_whole", "is_whole", defArgs s_is_whole, defBody s_is_whole, defScope s_is_whole, []⟩,
  ⟨fun K => He.ga K "refined", "refined", "refined", defArgs s_refined, defBody s_refined, defScope s_refined, []⟩,
  ⟨fun K => He.ga K "tidy_classes", "tidy_classes", "tidy_classes", defArgs s_tidy_classes, defBody s_tidy_classes, defScope s_tidy_classes, []⟩,
  ⟨fun K => He.ma K (He.ga K "Numbers") "__init__", "__init__", "Numbers.__init__", defArgs s_Numbers___init__, defBody s_Numbers___init__, defScope s_Numbers___init__, [.adr (He.dflAt ("Numbers", some "__init__") 0)]⟩,
  ⟨fun K => He.ma K (He.ga K "Numbers") "__init__", "__init__", "Numbers.__init__", defArgs s_Numbers___init__, defBody s_Numbers___init__, defScope s_Numbers___init__, [.adr (He.dflAt ("Numbers", some "__init__") 0)]⟩,
  ⟨fun K => He.ma K (He.ga K "Numbers") "__and__", "__and__", "Numbers.__and__", defArgs s_Numbers___and__, defBody s_Numbers___and__, defScope s_Numbers___and__, []⟩,
  ⟨fun K => He.ma K (He.ga K "Numbers") "__bool__", "__bool__", "Numbers.__bool__", defArgs s_Numbers___bool__, defBody s_Numbers___bool__, defScope s_Numbers___bool__, []⟩,
  ⟨fun K => He.ma K (He.ga K "Numbers") "__contains__", "__contains__", "Numbers.__contains__", defArgs s_Numbers___contains__, defBody s_Numbers___contains__, defScope s_Numbers___contains__, []⟩,
  ⟨fun K => He.ma K (He.ga K "Numbers") "__eq__", "__eq__", "Numbers.__eq__", defArgs s_Numbers___eq__, defBody s_Numbers___eq__, defScope s_Numbers___eq__, []⟩,
  ⟨fun K => He.ma K (He.ga K "Numbers") "__or__", "__or__", "Numbers.__or__", defArgs s_Numbers___or__, defBody s_Numbers___or__, defScope s_Numbers___or__, []⟩,
  ⟨fun K => He.ma K (He.ga K "Numbers") "first_from", "first_from", "Numbers.first_from", defArgs s_Numbers_first_from, defBody s_Numbers_first_from, defScope s_Numbers_first_from, []⟩,
  ⟨fun K => He.ma K (He.ga K "Numbers") "last_until", "last_until", "Numbers.last_until", defArgs s_Numbers_last_until, defBody s_Numbers_last_until, defScope s_Numbers_last_until, []⟩,
  ⟨fun K => He.ma K (He.ga K "Numbers") "nearest", "nearest", "Numbers.nearest", defArgs s_Numbers_nearest, defBody s_Numbers_nearest, defScope s_Numbers_nearest, []⟩,
  ⟨fun K => He.ma K (He.ga K "Numbers") "outside", "outside", "Numbers.outside", defArgs s_Numbers_outside, defBody s_Numbers_outside, defScope s_Numbers_outside, []⟩,
  ⟨fun K => He.ma K (He.ga K "Numbers") "parts_told", "parts_told", "Numbers.parts_told", defArgs s_Numbers_parts_told, defBody s_Numbers_parts_told, defScope s_Numbers_parts_told, []⟩,
  ⟨fun K => He.ma K (He.ga K "Numbers") "within", "within", "Numbers.within", defArgs s_Numbers_within, defBody s_Numbers_within, defScope s_Numbers_within, []⟩,
  ⟨fun K => He.ga K "law", "law", "law", defArgs s_law, defBody s_law, defScope s_law, []⟩]
def d0 : DefX := ⟨fun _ => 0, "law", "law", ⟨[], [], none, [], [], none, []⟩, [], ⟨.function, [], false, false, []⟩, []⟩
theorem txt_of {K : PySem.W.Frag} {h : Heap} {mg : Str → Option Value} (X : K.In h) (G : h.Ns mainGlobals mg) (c : SaysX fb fx K) : Txt K mg where
  a_Numbers__classes := He.noat_ok (c.fact 0 (f := (fun K => (He.Fa.noat "Numbers" "classes").ok K)) rfl)
  a_Numbers__singles := He.noat_ok (c.fact 1 (f := (fun K => (He.Fa.noat "Numbers" "singles").ok K)) rfl)
  b_abs := He.free_ok X G (c.fact 2 (f := (fun K => (He.Fa.free "abs").ok K)) rfl)
  b_any := He.free_ok X G (c.fact 3 (f := (fun K => (He.Fa.free "any").ok K)) rfl)
  b_bool := He.free_ok X G (c.fact 4 (f := (fun K => (He.Fa.free "bool").ok K)) rfl)
  b_enumerate := He.free_ok X G (c.fact 5 (f := (fun K => (He.Fa.free "enumerate").ok K)) rfl)
  b_int := He.free_ok X G (c.fact 6 (f := (fun K => (He.Fa.free "int").ok K)) rfl)
  b_isinstance := He.free_ok X G (c.fact 7 (f := (fun K => (He.Fa.free "isinstance").ok K)) rfl)
  b_len := He.free_ok X G (c.fact 8 (f := (fun K => (He.Fa.free "len").ok K)) rfl)
  b_list := He.free_ok X G (c.fact 9 (f := (fun K => (He.Fa.free "list").ok K)) rfl)
  b_max := He.free_ok X G (c.fact 10 (f := (fun K => (He.Fa.free "max").ok K)) rfl)
  b_min := He.free_ok X G (c.fact 11 (f := (fun K => (He.Fa.free "min").ok K)) rfl)
  b_range := He.free_ok X G (c.fact 12 (f := (fun K => (He.Fa.free "range").ok K)) rfl)
  b_set := He.free_ok X G (c.fact 13 (f := (fun K => (He.Fa.free "set").ok K)) rfl)
  b_sorted := He.free_ok X G (c.fact 14 (f := (fun K => (He.Fa.free "sorted").ok K)) rfl)
  b_tuple := He.free_ok X G (c.fact 15 (f := (fun K => (He.Fa.free "tuple").ok K)) rfl)
  d__law_ahead := let ⟨fd, F⟩ := c.def_ 0 (d := fx.getD 0 d0) rfl; ⟨_, fd, F.fun_, He.glo_ok X G (c.fact 16 (f := (fun K => (He.Fa.glo "_law_ahead").ok K)) rfl)⟩
  d__law_bag := let ⟨fd, F⟩ := c.def_ 1 (d := fx.getD 1 d0) rfl; ⟨_, fd, F.fun_, He.glo_ok X G (c.fact 17 (f := (fun K => (He.Fa.glo "_law_bag").ok K)) rfl)⟩
  d__law_behind := let ⟨fd, F⟩ := c.def_ 2 (d := fx.getD 2 d0) rfl; ⟨_, fd, F.fun_, He.glo_ok X G (c.fact 18 (f := (fun K => (He.Fa.glo "_law_behind").ok K)) rfl)⟩
  d__law_draw := let ⟨fd, F⟩ := c.def_ 3 (d := fx.getD 3 d0) rfl; ⟨_, fd, F.fun_, He.glo_ok X G (c.fact 19 (f := (fun K => (He.Fa.glo "_law_draw").ok K)) rfl)⟩
  d__law_has := let ⟨fd, F⟩ := c.def_ 4 (d := fx.getD 4 d0) rfl; ⟨_, fd, F.fun_, He.glo_ok X G (c.fact 20 (f := (fun K => (He.Fa.glo "_law_has").ok K)) rfl)⟩
  d__law_near := let ⟨fd, F⟩ := c.def_ 5 (d := fx.getD 5 d0) rfl; ⟨_, fd, F.fun_, He.glo_ok X G (c.fact 21 (f := (fun K => (He.Fa.glo "_law_near").ok K)) rfl)⟩
  d__law_pairs := let ⟨fd, F⟩ := c.def_ 6 (d := fx.getD 6 d0) rfl; ⟨_, fd, F.fun_, He.glo_ok X G (c.fact 22 (f := (fun K => (He.Fa.glo "_law_pairs").ok K)) rfl)⟩
  d_bare_number := let ⟨fd, F⟩ := c.def_ 7 (d := fx.getD 7 d0) rfl; ⟨_, fd, F.fun_, He.glo_ok X G (c.fact 23 (f := (fun K => (He.Fa.glo "bare_number").ok K)) rfl)⟩
  d_combination := let ⟨fd, F⟩ := c.def_ 8 (d := fx.getD 8 d0) rfl; ⟨_, fd, F.fun_, He.glo_ok X G (c.fact 24 (f := (fun K => (He.Fa.glo "combination").ok K)) rfl)⟩
  d_common_class := let ⟨fd, F⟩ := c.def_ 9 (d := fx.getD 9 d0) rfl; ⟨_, fd, F.fun_, He.glo_ok X G (c.fact 25 (f := (fun K => (He.Fa.glo "common_class").ok K)) rfl)⟩
  d_common_divisor := let ⟨fd, F⟩ := c.def_ 10 (d := fx.getD 10 d0) rfl; ⟨_, fd, F.fun_, He.glo_ok X G (c.fact 26 (f := (fun K => (He.Fa.glo "common_divisor").ok K)) rfl)⟩
  d_common_multiple := let ⟨fd, F⟩ := c.def_ 11 (d := fx.getD 11 d0) rfl; ⟨_, fd, F.fun_, He.glo_ok X G (c.fact 27 (f := (fun K => (He.Fa.glo "common_multiple").ok K)) rfl)⟩
  d_inverse := let ⟨fd, F⟩ := c.def_ 12 (d := fx.getD 12 d0) rfl; ⟨_, fd, F.fun_, He.glo_ok X G (c.fact 28 (f := (fun K => (He.Fa.glo "inverse").ok K)) rfl)⟩
  d_is_covered := let ⟨fd, F⟩ := c.def_ 13 (d := fx.getD 13 d0) rfl; ⟨_, fd, F.fun_, He.glo_ok X G (c.fact 29 (f := (fun K => (He.Fa.glo "is_covered").ok K)) rfl)⟩
  d_is_part := let ⟨fd, F⟩ := c.def_ 14 (d := fx.getD 14 d0) rfl; ⟨_, fd, F.fun_, He.glo_ok X G (c.fact 30 (f := (fun K => (He.Fa.glo "is_part").ok K)) rfl)⟩
  d_is_whole := let ⟨fd, F⟩ := c.def_ 15 (d := fx.getD 15 d0) rfl; ⟨_, fd, F.fun_, He.glo_ok X G (c.fact 31 (f := (fun K => (He.Fa.glo "is_whole").ok K)) rfl)⟩
  d_refined := let ⟨fd, F⟩ := c.def_ 16 (d := fx.getD 16 d0) rfl; ⟨_, fd, F.fun_, He.glo_ok X G (c.fact 32 (f := (fun K => (He.Fa.glo "refined").ok K)) rfl)⟩
  d_tidy_classes := let ⟨fd, F⟩ := c.def_ 17 (d := fx.getD 17 d0) rfl; ⟨_, fd, F.fun_, He.glo_ok X G (c.fact 33 (f := (fun K => (He.Fa.glo "tidy_classes").ok K)) rfl)⟩
  e_Numbers := let ⟨fd, F⟩ := c.def_ 18 (d := fx.getD 18 d0) rfl; ⟨_, fd, _, He.mkr_ok (c.fact 34 (f := (fun K => (He.Fa.mkr "Numbers").ok K)) rfl), He.glo_ok X G (c.fact 35 (f := (fun K => (He.Fa.glo "Numbers").ok K)) rfl), F, empB_ok (c.fact 36 (f := (empB (He.dflAt ("Numbers", some "__init__") 0))) rfl)⟩
  i_Numbers := let ⟨fd, F⟩ := c.def_ 19 (d := fx.getD 19 d0) rfl; ⟨_, fd, _, He.mkr_ok (c.fact 34 (f := (fun K => (He.Fa.mkr "Numbers").ok K)) rfl), He.glo_ok X G (c.fact 35 (f := (fun K => (He.Fa.glo "Numbers").ok K)) rfl), F, rfl⟩
  k_Numbers := He.cls_ok (c.fact 37 (f := (fun K => (He.Fa.cls "Numbers").ok K)) rfl)
  m_Numbers____and__ := let ⟨fd, F⟩ := c.def_ 20 (d := fx.getD 20 d0) rfl; ⟨He.cls_ok (c.fact 37 (f := (fun K => (He.Fa.cls "Numbers").ok K)) rfl), _, fd, He.meth_ok (c.fact 38 (f := (fun K => (He.Fa.meth "Numbers" "__and__").ok K)) rfl), F.fun_⟩
  m_Numbers____bool__ := let ⟨fd, F⟩ := c.def_ 21 (d := fx.getD 21 d0) rfl; ⟨He.cls_ok (c.fact 37 (f := (fun K => (He.Fa.cls "Numbers").ok K)) rfl), _, fd, He.meth_ok (c.fact 39 (f := (fun K => (He.Fa.meth "Numbers" "__bool__").ok K)) rfl), F.fun_⟩
  m_Numbers____contains__ := let ⟨fd, F⟩ := c.def_ 22 (d := fx.getD 22 d0) rfl; ⟨He.cls_ok (c.fact 37 (f := (fun K => (He.Fa.cls "Numbers").ok K)) rfl), _, fd, He.meth_ok (c.fact 40 (f := (fun K => (He.Fa.meth "Numbers" "__contains__").ok K)) rfl), F.fun_⟩
  m_Numbers____eq__ := let ⟨fd, F⟩ := c.def_ 23 (d := fx.getD 23 d0) rfl; ⟨He.cls_ok (c.fact 37 (f := (fun K => (He.Fa.cls "Numbers").ok K)) rfl), _, fd, He.meth_ok (c.fact 41 (f := (fun K => (He.Fa.meth "Numbers" "__eq__").ok K)) rfl), F.fun_⟩
  m_Numbers____or__ := let ⟨fd, F⟩ := c.def_ 24 (d := fx.getD 24 d0) rfl; ⟨He.cls_ok (c.fact 37 (f := (fun K => (He.Fa.cls "Numbers").ok K)) rfl), _, fd, He.meth_ok (c.fact 42 (f := (fun K => (He.Fa.meth "Numbers" "__or__").ok K)) rfl), F.fun_⟩
  m_Numbers__first_from := let ⟨fd, F⟩ := c.def_ 25 (d := fx.getD 25 d0) rfl; ⟨He.cls_ok (c.fact 37 (f := (fun K => (He.Fa.cls "Numbers").ok K)) rfl), _, fd, He.meth_ok (c.fact 43 (f := (fun K => (He.Fa.meth "Numbers" "first_from").ok K)) rfl), F.fun_⟩
  m_Numbers__last_until := let ⟨fd, F⟩ := c.def_ 26 (d := fx.getD 26 d0) rfl; ⟨He.cls_ok (c.fact 37 (f := (fun K => (He.Fa.cls "Numbers").ok K)) rfl), _, fd, He.meth_ok (c.fact 44 (f := (fun K => (He.Fa.meth "Numbers" "last_until").ok K)) rfl), F.fun_⟩
  m_Numbers__nearest := let ⟨fd, F⟩ := c.def_ 27 (d := fx.getD 27 d0) rfl; ⟨He.cls_ok (c.fact 37 (f := (fun K => (He.Fa.cls "Numbers").ok K)) rfl), _, fd, He.meth_ok (c.fact 45 (f := (fun K => (He.Fa.meth "Numbers" "nearest").ok K)) rfl), F.fun_⟩
  m_Numbers__outside := let ⟨fd, F⟩ := c.def_ 28 (d := fx.getD 28 d0) rfl; ⟨He.cls_ok (c.fact 37 (f := (fun K => (He.Fa.cls "Numbers").ok K)) rfl), _, fd, He.meth_ok (c.fact 46 (f := (fun K => (He.Fa.meth "Numbers" "outside").ok K)) rfl), F.fun_⟩
  m_Numbers__parts_told := let ⟨fd, F⟩ := c.def_ 29 (d := fx.getD 29 d0) rfl; ⟨He.cls_ok (c.fact 37 (f := (fun K => (He.Fa.cls "Numbers").ok K)) rfl), _, fd, He.meth_ok (c.fact 47 (f := (fun K => (He.Fa.meth "Numbers" "parts_told").ok K)) rfl), F.fun_⟩
  m_Numbers__within := let ⟨fd, F⟩ := c.def_ 30 (d := fx.getD 30 d0) rfl; ⟨He.cls_ok (c.fact 37 (f := (fun K => (He.Fa.cls "Numbers").ok K)) rfl), _, fd, He.meth_ok (c.fact 48 (f := (fun K => (He.Fa.meth "Numbers" "within").ok K)) rfl), F.fun_⟩
  o_Numbers := isoB_ok (c.fact 49 (f := (isoB "Numbers")) rfl)
  v_Numbers := He.glo_ok X G (c.fact 35 (f := (fun K => (He.Fa.glo "Numbers").ok K)) rfl)
def names : List PySem.Str := (["_wall", "common_divisor", "common_multiple", "combination", "inverse", "common_class", "TurnError", "BadPart", "is_whole", "is_part", "tidy_classes", "refined", "is_covered", "bare_number", "Numbers", "_law_bag", "_law_draw", "_law_pairs", "_law_has", "_law_ahead", "_law_behind", "_law_near"] : List PySem.Str)
abbrev R : PySem.W.OpenRow := PySem.W.OpenLaw.row PySem.Challenge.rw_turnrings_k07_first_last_nearest
def hk : PySem.W.Hook := hookX 5 fb fx
def ob (s : PySem.W.SharedT) : AlX := obsXG 5 fb fx (HandSHeadRun.getT s)
theorem ob_eq (s : PySem.W.SharedT) : ob s = hk.obs s.abs := obsXG_eq (HandSHeadRun.getT_eq s)
theorem run (w : World) : HandSHeadRun.RunEq R (PySem.W.view R.prog [26]) hk ob 4000 names w := by
  intro os
  kernel_rfl
end Tr
open PySem PySem.W PySem.Calls PyProof.Rows
set_option maxHeartbeats 0
theorem PySem.Challenge.cw_turnrings_k07_first_last_nearest_holds : PySem.Challenge.rw_turnrings_k07_first_last_nearest.Holds := by
  w_on; o_law
  refine HandSHeadRun.head_any (r := OpenLaw.row PySem.Challenge.rw_turnrings_k07_first_last_nearest) (q := view (OpenLaw.row PySem.Challenge.rw_turnrings_k07_first_last_nearest).prog [26]) (H := Tr.hk) (ob := Tr.ob) (M := 4000) (loose := Tr.names) (d := HandSHeadRun.topDef (OpenLaw.row PySem.Challenge.rw_turnrings_k07_first_last_nearest).prog 26) (kwd := []) Tr.ob_eq
    (by kernel_rfl) (fun s => by kernel_rfl) Tr.run (by kernel_rfl) (by kernel_rfl) (by kernel_rfl) (by rfl) (by first | assumption | decide +kernel) (by decide +kernel) ⟨rfl, rfl, rfl, rfl, rfl, by decide +kernel⟩ ?hw ?hc
  case hw => w_witness2
  case hc =>
    refine L2.walk_ofE (l := PySem.Challenge.rw_turnrings_k07_first_last_nearest) (n := 63) (k := 80) (x := "_law_script") (CX := L2.CX0) rfl (by decide) (by kernel_rfl) ⟨rfl, by decide, by decide⟩ ?F (fun _ _ _ _ z => z)
    intro w mg fa h Y G hmg0
    obtain ⟨K, KX, c⟩ := Y
    have hmg : mg ("law" : PySem.Str) = some (.ref fa) := by
      have e : (HandSHeadRun.topDef (OpenLaw.row PySem.Challenge.rw_turnrings_k07_first_last_nearest).prog 26).name = ("law" : PySem.Str) := by kernel_rfl
      rw [← e]
      exact hmg0
    have e := hmg.symm.trans (He.glo_ok KX G (Tr.SaysX.fact c 50 (f := (fun K => (He.Fa.glo "law").ok K)) rfl))
    cases e
    obtain ⟨fd, F⟩ := Tr.SaysX.def_ c 31 (d := Tr.fx.getD 31 Tr.d0) rfl
    have T := Tr.txt_of KX G c
    refine ⟨K, fd, Tr.spLaw K, KX, fun s u => L2.FunD.bindsA (ps := ["_law_script"]) F (fun _ _ _ _ _ _ us hl => match us, hl with | [_], _ => rfl) s [u] rfl, fun H a ns hl _ hS => ⟨a, ns, rfl, hS, fun _ => rfl⟩, fun base _ _ => L2.FnOk.to0 (Tr.ok_law T F.fun_) fun vs H Q E h => h⟩
