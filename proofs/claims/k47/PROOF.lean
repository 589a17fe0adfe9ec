import PyProof.Rows.All
import Wide.All
import OpenK.AllK
import Wide.FinOn
import HandS.ForMost
import HandS.ForExc
import HandS.TupSets
import HandS.Strs
import HandS.Wide
import HandS.Codes
import HandS.Star
import HandS.IsInst
import HandS.Property
import HandS.Defaults
import HandS.OwnEq
import HandS.SetFor
import HandS.TupLe
import HandS.Style
import HandS.HeadHook2
import HandS.Head2
import HandS.HeadEnd
import HandS.ClsMeth
import KE.GoesEnum
import KE.KOpsOwn
import KE.DataMinMax
import HandS.SortKw
import HandS.Walk
import HandS.HeadHook3
import HandS.TupAny
import KE.KRevSl
import HandS.ExcInit
import HandS.Nested
import KE.KExcSuper
import HandS.TryOnly
import HandS.TryMany
import HandS.ExcOwn
import HandS.ExcField
import HandS.ExcIs
import KE.DataCmp
import KE.SortData
import KE.KCallOwn
import HandS.Lambda
import HandS.Deep
import HandS.MakeKw
import HandS.MakeKwOnly
import KE.KeyNested
import KE.KDictKeyed
import KE.KDictPairs
import PyProof.StrBlock2
import HandS.FStr
import HandS.CallLocal
import KE.IntTextLaws
import HandS.HotCalls
import HandS.Flt
import HandS.Conv
import HandS.DictComp
import PySem.Challenge.RW_turnrings_k47_whole_turns_map_one_to_one
set_option Elab.async false
set_option linter.all false
set_option maxRecDepth 100000
set_option maxHeartbeats 4000000
/-! # My layer over HandS: defs by name (Cal), own operators. -/
namespace Tr
open PySem L2
open PyProof.Rows (envOfC)

theorem units_of {A : Around} {k : Nat} (hr : Room k A) : A.units + 64 < cLine := hr.units

/-- a def that may be called by its name -/
structure Cal (P : Program) (w : World) (K : PySem.W.Frag) (mg : Str → Option Value) (base : Heap) (k : Nat) (x : Str) (sp : Sp) (dvs : List V) : Prop where
  ex : ∃ (f : Addr) (fd : FuncData) (ps : List Str) (ds : List Value), FnOk P w K mg base (L2.CX P w) k f fd ps sp ∧ mg x = some (.ref f) ∧ PySem.W.keepIn K (.ref f) = true ∧ Binds K fd ps ds ∧ Vals dvs ds
/-- a method of the class at C -/
structure Met (P : Program) (w : World) (K : PySem.W.Frag) (mg : Str → Option Value) (base : Heap) (k : Nat) (C : Addr) (m : Str) (sp : Sp) (dvs : List V) : Prop where
  ex : ∃ (f : Addr) (fd : FuncData) (ps : List Str) (ds : List Value), Cls K C ∧ Meth K C m f ∧ FnOk P w K mg base (L2.CX P w) k f fd ps sp ∧ Binds K fd ps ds ∧ Vals dvs ds
/-- a class that may be made by its name; sp: its __init__ -/
structure Mak (P : Program) (w : World) (K : PySem.W.Frag) (mg : Str → Option Value) (base : Heap) (k : Nat) (x : Str) (C : Addr) (sp : Sp) (dvs : List V) : Prop where
  ex : ∃ (f : Addr) (fd : FuncData) (ps : List Str) (ds : List Value), Mk K C f ∧ FnOk P w K mg base (L2.CX P w) k f fd ps sp ∧ mg x = some (.ref C) ∧ Binds K fd ps ds ∧ Vals dvs ds
/-- a def of the module, as the top has left it -/
def Dfn (K : PySem.W.Frag) (mg : Str → Option Value) (x : Str) (st : Stmt) : Prop := ∃ f fd, Fun K x x st f fd ∧ mg x = some (.ref f)

section
variable {P : Program} {w : World} {K : PySem.W.Frag} {mg : Str → Option Value} {base : Heap}
theorem Cal.mono {j k : Nat} {x : Str} {sp : Sp} {dvs : List V} (c : Cal P w K mg base j x sp dvs) (h : j ≤ k) : Cal P w K mg base k x sp dvs :=
  let ⟨f, fd, ps, ds, F, r⟩ := c.ex
  ⟨f, fd, ps, ds, F.mono h, r⟩
theorem Cal.imp {k : Nat} {x : Str} {sp sp' : Sp} {dvs : List V} (c : Cal P w K mg base k x sp dvs) (h : ∀ vs H Q E, sp' vs H Q E → sp vs H Q E) : Cal P w K mg base k x sp' dvs :=
  let ⟨f, fd, ps, ds, F, r⟩ := c.ex
  ⟨f, fd, ps, ds, F.imp h, r⟩
/-- a def that raises nothing, by its body -/
theorem okN {x qual : Str} {st : Stmt} {f : Addr} {fd : FuncData} {N ps : List Str} {k : Nat} {sp : Sp} (F : Fun K x qual st f fd) (S : FnScope N ps (defScope st)) (len : ∀ vs H Q E, sp vs H Q E → vs.length = ps.length)
    (hbody : ∀ (cdv : Value) (A : Around) (outer : List Env) (s : Shared) (H : Hp) (vs : List V) (Q : VK) (E : XK), Room k (A.deeper (envOfC qual (defScope st) s.heap.objs.size f cdv)) → sp vs H Q E →
      ∃ t, PSs (cxOf (L2.CX P w) P w K mg base N qual (defScope st) f cdv A outer s H E).nox (defBody st) t ∧ t { nx := fun _ H' => Q .non H', rt := Q } (start N vs) H) : FnOk P w K mg base (L2.CX P w) (k + 1) f fd ps sp :=
  F.okX S len fun cdv A outer s H vs Q E hr h =>
    let ⟨t, h1, h2⟩ := hbody cdv A outer s H vs Q E hr h
    ⟨t, h1.nox, h2⟩
theorem calN {x : Str} {st : Stmt} {N ps : List Str} {k : Nat} {sp : Sp} (D : Dfn K mg x st) (S : FnScope N ps (defScope st)) (len : ∀ vs H Q E, sp vs H Q E → vs.length = ps.length)
    (hb : ∀ (kV doc pm : Value) (an : Option Addr) (cdv ct : Value) (us : List Value), us.length = ps.length → bindArgs (PySem.W.fnOf x x (defArgs st) (defBody st) (defScope st) .none kV doc pm an cdv ct) ⟨us, []⟩ = pure (ps.zip us))
    (hbody : ∀ (f : Addr) (cdv : Value) (A : Around) (outer : List Env) (s : Shared) (H : Hp) (vs : List V) (Q : VK) (E : XK), Room k (A.deeper (envOfC x (defScope st) s.heap.objs.size f cdv)) → sp vs H Q E →
      ∃ t, PSs (cxOf (L2.CX P w) P w K mg base N x (defScope st) f cdv A outer s H E).nox (defBody st) t ∧ t { nx := fun _ H' => Q .non H', rt := Q } (start N vs) H) : Cal P w K mg base (k + 1) x sp [] :=
  let ⟨f, fd, F, hm⟩ := D
  ⟨f, fd, ps, [], okN F S len (hbody f), hm, F.kp, F.binds hb, .nil⟩
/-- a def that may raise -/
theorem calX {x : Str} {st : Stmt} {N ps : List Str} {k : Nat} {sp : Sp} (D : Dfn K mg x st) (S : FnScope N ps (defScope st)) (len : ∀ vs H Q E, sp vs H Q E → vs.length = ps.length)
    (hb : ∀ (kV doc pm : Value) (an : Option Addr) (cdv ct : Value) (us : List Value), us.length = ps.length → bindArgs (PySem.W.fnOf x x (defArgs st) (defBody st) (defScope st) .none kV doc pm an cdv ct) ⟨us, []⟩ = pure (ps.zip us))
    (hbody : ∀ (f : Addr) (cdv : Value) (A : Around) (outer : List Env) (s : Shared) (H : Hp) (vs : List V) (Q : VK) (E : XK), Room k (A.deeper (envOfC x (defScope st) s.heap.objs.size f cdv)) → sp vs H Q E →
      ∃ t, PSs (cxOf (L2.CX P w) P w K mg base N x (defScope st) f cdv A outer s H E) (defBody st) t ∧ t { nx := fun _ H' => Q .non H', rt := Q } (start N vs) H) : Cal P w K mg base (k + 1) x sp [] :=
  let ⟨f, fd, F, hm⟩ := D
  ⟨f, fd, ps, [], F.okX S len (hbody f), hm, F.kp, F.binds hb, .nil⟩
theorem dfn_of {h : Heap} {x : Str} {st : Stmt} {f : Addr} {oc : Value} {od an : Option Addr} {osl : Array (Option Value)} {kV doc pm cdv ct : Value} (X : K.In h) (G : h.Ns mainGlobals mg)
    (a : PySem.W.nsIn K mainGlobals x = some (some (.ref f))) (l : K.lookup f = some ⟨oc, od, .func (PySem.W.fnOf x x (defArgs st) (defBody st) (defScope st) .none kV doc pm an cdv ct), osl⟩)
    (c : PySem.W.codeIn K cdv x = true) (k : PySem.W.keepIn K (.ref f) = true) : Dfn K mg x st := ⟨f, _, fun_mk l c k, PySem.W.mg_of X G a⟩
end

section
variable {X : Cx} {k j : Nat} {C : Addr} {x m : Str} {sp : Sp} {dvs : List V} {p pos apos : Pos} {e o : Expr} {es : List Expr} {ta : TE} {t : TA} {E : XK}
theorem pe_cx (c : Cal X.prog X.w X.K X.mg X.base k x sp dvs) (hr : Room j X.A) (hk : k ≤ j) (hg : Gl X x) (hx : Passes (L2.CX X.prog X.w) X E) (ha : PA X (e :: es) t)
    (hdb : (x == ("__debug__" : Str)) = false := by decide) (he : starEach (e :: es) X.env = (false, eval e X.env) :: starEach es X.env := by rfl) (hpl : (backTo pos (starEach es X.env)).any (·.1) = false := by rfl) :
    PE X (.Call (.Name x p) (e :: es) [] pos) (tCall sp dvs E t) := by
  obtain ⟨f, fd, ps, ds, F, hm, kp, b, d⟩ := c.ex
  exact pe_call F (hr.mono hk) hg hm kp b d hx ha hdb he hpl
theorem pe_cx0 (c : Cal X.prog X.w X.K X.mg X.base k x sp dvs) (hr : Room j X.A) (hk : k ≤ j) (hg : Gl X x) (hx : Passes (L2.CX X.prog X.w) X E)
    (hdb : (x == ("__debug__" : Str)) = false := by decide) : PE X (.Call (.Name x p) [] [] pos) (tCall sp dvs E tNil) := by
  obtain ⟨f, fd, ps, ds, F, hm, kp, b, d⟩ := c.ex
  exact pe_call0 F (hr.mono hk) hg hm kp b d hx hdb
end
end Tr

/-! # Lists of pairs, loops and comprehensions over them. -/
namespace Tr
open PySem L2

/-- two lists, item by item -/
inductive P2 {α β : Type} (R : α → β → Prop) : List α → List β → Prop where
  | nil : P2 R [] []
  | cons {a : α} {b : β} {l : List α} {m : List β} : R a b → P2 R l m → P2 R (a :: l) (b :: m)
namespace P2
variable {α β γ : Type} {R S : α → β → Prop}
theorem len {l : List α} {m : List β} (h : P2 R l m) : l.length = m.length := by
  induction h with
  | nil => rfl
  | cons _ _ ih => simp only [List.length_cons, ih]
theorem mono {l : List α} {m : List β} (h : P2 R l m) (f : ∀ a b, R a b → S a b) : P2 S l m := by
  induction h with
  | nil => exact .nil
  | cons r _ ih => exact .cons (f _ _ r) ih
theorem monoM {l : List α} {m : List β} (h : P2 R l m) (f : ∀ a b, a ∈ l → b ∈ m → R a b → S a b) : P2 S l m := by
  induction h with
  | nil => exact .nil
  | cons r _ ih => exact .cons (f _ _ List.mem_cons_self List.mem_cons_self r) (ih fun a b ha hb => f a b (List.mem_cons_of_mem _ ha) (List.mem_cons_of_mem _ hb))
theorem app {l l' : List α} {m m' : List β} (h : P2 R l m) (h' : P2 R l' m') : P2 R (l ++ l') (m ++ m') := by
  induction h with
  | nil => exact h'
  | cons r _ ih => exact .cons r ih
theorem snoc {l : List α} {m : List β} {a : α} {b : β} (h : P2 R l m) (r : R a b) : P2 R (l ++ [a]) (m ++ [b]) := h.app (.cons r .nil)
theorem get {l : List α} {m : List β} (h : P2 R l m) {i : Nat} {b : β} (e : m[i]? = some b) : ∃ a, l[i]? = some a ∧ R a b := by
  induction h generalizing i with
  | nil => simp at e
  | cons r _ ih =>
    cases i with
    | zero =>
      simp only [List.getElem?_cons_zero, Option.some.injEq] at e
      subst e
      exact ⟨_, rfl, r⟩
    | succ i => exact ih (by simpa using e)
theorem getl {l : List α} {m : List β} (h : P2 R l m) {i : Nat} {a : α} (e : l[i]? = some a) : ∃ b, m[i]? = some b ∧ R a b := by
  induction h generalizing i with
  | nil => simp at e
  | cons r _ ih =>
    cases i with
    | zero =>
      simp only [List.getElem?_cons_zero, Option.some.injEq] at e
      subst e
      exact ⟨_, rfl, r⟩
    | succ i => exact ih (by simpa using e)
theorem eq_map {g : β → α} {l : List α} {m : List β} (h : P2 (fun a b => a = g b) l m) : l = m.map g := by
  induction h with
  | nil => rfl
  | cons r _ ih => rw [r, ih]; rfl
theorem of_map {g : β → α} (m : List β) (h : ∀ b ∈ m, R (g b) b) : P2 R (m.map g) m := by
  induction m with
  | nil => exact .nil
  | cons b m ih => exact .cons (h b List.mem_cons_self) (ih fun c hc => h c (List.mem_cons_of_mem _ hc))
theorem mapr {f : γ → β} {l : List α} {m : List γ} (h : P2 (fun a c => R a (f c)) l m) : P2 R l (m.map f) := by
  induction h with
  | nil => exact .nil
  | cons r _ ih => exact .cons r ih
theorem memr {l : List α} {m : List β} (h : P2 R l m) {b : β} (hb : b ∈ m) : ∃ a ∈ l, R a b := by
  induction h with
  | nil => cases hb
  | cons r _ ih =>
    rcases List.mem_cons.mp hb with e | hb
    · rw [e]; exact ⟨_, List.mem_cons_self, r⟩
    · obtain ⟨a, ha, r⟩ := ih hb
      exact ⟨a, List.mem_cons_of_mem _ ha, r⟩
theorem meml {l : List α} {m : List β} (h : P2 R l m) {a : α} (ha : a ∈ l) : ∃ b ∈ m, R a b := by
  induction h with
  | nil => cases ha
  | cons r _ ih =>
    rcases List.mem_cons.mp ha with e | ha
    · rw [e]; exact ⟨_, List.mem_cons_self, r⟩
    · obtain ⟨b, hb, r⟩ := ih ha
      exact ⟨b, List.mem_cons_of_mem _ hb, r⟩
theorem ref {f : α → V} {l : List V} {m : List β} {T : V → β → Prop} (h : P2 T l m) (hf : ∀ v b, T v b → ∃ a, v = f a) : ∃ as : List α, l = as.map f := by
  induction h with
  | nil => exact ⟨[], rfl⟩
  | cons r _ ih =>
    obtain ⟨as, e⟩ := ih
    obtain ⟨a, e2⟩ := hf _ _ r
    exact ⟨a :: as, by rw [e2, e]; rfl⟩
theorem map_l {f : α → γ} {T : γ → β → Prop} {l : List α} {m : List β} : P2 T (l.map f) m ↔ P2 (fun a b => T (f a) b) l m := by
  constructor
  · intro h
    generalize hl : l.map f = k at h
    induction h generalizing l with
    | nil =>
      cases l with
      | nil => exact .nil
      | cons a l => cases hl
    | cons r _ ih =>
      cases l with
      | nil => cases hl
      | cons a l =>
        simp only [List.map_cons, List.cons.injEq] at hl
        obtain ⟨e1, e2⟩ := hl
        subst e1
        exact .cons r (ih e2)
  · intro h
    induction h with
    | nil => exact .nil
    | cons r _ ih => exact .cons r ih
theorem take {l : List α} {m : List β} (h : P2 R l m) (n : Nat) : P2 R (l.take n) (m.take n) := by
  induction h generalizing n with
  | nil => simp only [List.take_nil]; exact .nil
  | cons r _ ih =>
    cases n with
    | zero => exact .nil
    | succ n => exact .cons r (ih n)
theorem drop {l : List α} {m : List β} (h : P2 R l m) (n : Nat) : P2 R (l.drop n) (m.drop n) := by
  induction h generalizing n with
  | nil => simp only [List.drop_nil]; exact .nil
  | cons r h ih =>
    cases n with
    | zero => exact .cons r h
    | succ n => exact ih n
theorem rev {l : List α} {m : List β} (h : P2 R l m) : P2 R l.reverse m.reverse := by
  induction h with
  | nil => exact .nil
  | cons r _ ih => rw [List.reverse_cons, List.reverse_cons]; exact ih.snoc r
end P2

theorem take_snoc {α : Type} {l : List α} {i : Nat} {x : α} (h : l[i]? = some x) : l.take (i + 1) = l.take i ++ [x] := by
  obtain ⟨hi, e⟩ := List.getElem?_eq_some_iff.mp h
  rw [← e]
  exact List.take_succ_eq_append_getElem hi
theorem mem_of_at {α : Type} {l : List α} {i : Nat} {x : α} (h : l[i]? = some x) : x ∈ l := List.mem_of_getElem? h

theorem nodup_len {α : Type} [DecidableEq α] : ∀ (l m : List α), l.Nodup → (∀ x ∈ l, x ∈ m) → l.length ≤ m.length
  | [], _, _, _ => Nat.zero_le _
  | a :: l, m, nd, h => by
    have ha := h a List.mem_cons_self
    obtain ⟨n1, n2⟩ := List.nodup_cons.mp nd
    have := nodup_len l (m.erase a) n2 fun x hx => (List.mem_erase_of_ne (fun e => n1 (by rw [← e]; exact hx))).mpr (h x (List.mem_cons_of_mem _ hx))
    rw [List.length_erase_of_mem ha] at this
    have : 0 < m.length := List.length_pos_of_mem ha
    simp only [List.length_cons]
    omega
/-! ### heaps -/
theorem same_upd {H : Hp} {p : Addr} {o : HO} (h : H p = none) : Same H (upd H p o) := fun b u e => by rw [upd_ne (ne_of_none e h)]; exact e
theorem _root_.L2.Same.upd' {H H1 : Hp} {p : Addr} {o : HO} (s : Same H H1) (h : H1 p = none) : Same H (L2.upd H1 p o) := s.trans (same_upd h)
/-- an object made since is written -/
theorem _root_.L2.Same.wr {H H1 : Hp} {p : Addr} {o : HO} (s : Same H H1) (h : H p = none) : Same H (L2.upd H1 p o) := fun b u e => by
  rw [upd_ne (ne_of_none e h)]
  exact s b u e
theorem _root_.L2.Same.seqT {K : PySem.W.Frag} {H H' : Hp} {a : Addr} {xs : List V} (e : Same H H') (h : SqT K H a xs) : SqT K H' a xs :=
  h.elim (fun h => .inl (h.elim (fun h => .inl (e _ _ h)) fun ⟨o, h⟩ => .inr ⟨o, e _ _ h⟩)) fun h => .inr h

/-- all but what stands at D is as it was -/
def Kp (D : Addr) (H H' : Hp) : Prop := ∀ b o, H b = some o → b ≠ D → H' b = some o
theorem Kp.refl (D : Addr) (H : Hp) : Kp D H H := fun _ _ e _ => e
theorem Kp.trans {D : Addr} {H H1 H2 : Hp} (a : Kp D H H1) (b : Kp D H1 H2) : Kp D H H2 := fun c o e n => b c o (a c o e n) n
theorem _root_.L2.Same.kp {D : Addr} {H H' : Hp} (s : Same H H') : Kp D H H' := fun b o e _ => s b o e
theorem kp_upd (D : Addr) (H : Hp) (o : HO) : Kp D H (L2.upd H D o) := fun b u e n => by rw [upd_ne n]; exact e

/-- a pair (r, m) stands at t -/
def PrT (H : Hp) (t : Addr) (c : Int × Int) : Prop := H t = some (.tup [.int c.1, .int c.2])
/-- a list of pairs stands at p -/
def PL (H : Hp) (p : Addr) (cs : List (Int × Int)) : Prop := ∃ ts : List Addr, H p = some (.lst (ts.map V.ref)) ∧ P2 (PrT H) ts cs
theorem PrT.ne {H : Hp} {t D : Addr} {c : Int × Int} {xs : List V} (h : PrT H t c) (hD : H D = some (.lst xs)) : t ≠ D := ne_of h hD (by intro z; cases z)
theorem P2.same {H H' : Hp} (s : Same H H') {ts : List Addr} {cs : List (Int × Int)} (h : P2 (PrT H) ts cs) : P2 (PrT H') ts cs := h.mono fun _ _ e => s _ _ e
theorem PL.same {H H' : Hp} {p : Addr} {cs : List (Int × Int)} (s : Same H H') (h : PL H p cs) : PL H' p cs :=
  let ⟨ts, a, b⟩ := h
  ⟨ts, s _ _ a, b.same s⟩

/-! ### loops -/
section
variable {K : PySem.W.Frag}
theorem wh {c : TT} {tb : TS} {D : Ends} {σ : St} {H : Hp} (Pv : St → Hp → Prop) (μ : St → Hp → Nat) (h0 : Pv σ H)
    (hs : ∀ σ H, Pv σ H → c σ H fun b H1 => if b = true then ∃ N : St → Hp → Prop, (∀ σ' H', N σ' H' → Pv σ' H' ∧ μ σ' H' < μ σ H) ∧ tb { D with nx := N, ct := N, bk := D.nx } σ H1 else D.nx σ H1)
    (mono : ∀ σ H Q Q', (∀ b H1, Q b H1 → Q' b H1) → c σ H Q → c σ H Q') : tWhile c tb D σ H := by
  refine ⟨fun m σ H => m = μ σ H ∧ Pv σ H, ⟨_, rfl, h0⟩, ?_⟩
  rintro m σ H ⟨rfl, p⟩
  refine mono σ H _ _ (fun b H1 q => ?_) (hs σ H p)
  cases b with
  | true =>
    obtain ⟨N, hN, q⟩ := q
    exact ⟨N, fun σ' H' n => ⟨_, (hN σ' H' n).2, rfl, (hN σ' H' n).1⟩, q⟩
  | false => exact q

/-- for a, b in pairs -/
theorem for_pairs {a : Addr} {i1 i2 : Nat} {tb : TS} {D : Ends} {σ : St} {H : Hp} {cs : List (Int × Int)} {ts : List Addr} (Pv : Nat → St → Hp → Prop) (h0 : Pv 0 σ H)
    (hl : ∀ i σ H, i ≤ cs.length → Pv i σ H → SqL K H a (ts.map V.ref) ∧ P2 (PrT H) ts cs)
    (hs : ∀ i c σ H, cs[i]? = some c → Pv i σ H → tb { D with nx := Pv (i + 1), ct := Pv (i + 1), bk := D.nx } ((σ.set i1 (some (.int c.1))).set i2 (some (.int c.2))) H)
    (hd : ∀ σ H, Pv cs.length σ H → D.nx σ H) :
    ∃ W : Nat → Nat → St → Hp → Prop, (∃ m, W 0 m σ H) ∧ ∀ i m σ H, W i m σ H →
      ((Itl K a).stop i H ∧ D.nx σ H) ∨ ((Itl K a).go i H ∧ ∃ N : St → Hp → Prop, (∀ σ' H', N σ' H' → ∃ m', m' < m ∧ W (i + 1) m' σ' H') ∧ ∀ x H', (Itl K a).yld i H x H' → gTup K 2 (gCons (gName i1) (gCons (gName i2) gNil)) x σ H' fun σ2 H2 => tb { D with nx := N, ct := N, bk := D.nx } σ2 H2) := by
  have hlen := (hl 0 σ H (Nat.zero_le _) h0).2.len
  have e : (ts.map V.ref).length = cs.length := by rw [List.length_map, hlen]
  refine for_list (K := K) (a := a) (xs := ts.map V.ref) Pv h0 (fun i σ H hi p => (hl i σ H (by omega) p).1) ?_ (fun σ H p => hd σ H (by rw [← e]; exact p))
  intro i x σ H hx p
  rw [List.getElem?_map] at hx
  cases ht : ts[i]? with
  | none => rw [ht] at hx; cases hx
  | some t =>
    rw [ht] at hx
    cases hx
    have hi : i < ts.length := (List.getElem?_eq_some_iff.mp ht).1
    obtain ⟨c, hc, r⟩ := (hl i σ H (by omega) p).2.getl ht
    exact ⟨t, _, rfl, SqT.of r, rfl, _, _, rfl, _, _, rfl, rfl, hs i c σ H hc p⟩

/-- the end of a comprehension -/
def LcG (J : It) (g : TG) (tt : TT) (te : TE) (vs : List Nat) (σ : St) (H1 : Hp) (D : Addr) (Qd : Hp → Prop) : Prop :=
    ∃ W : Nat → Nat → Hp → Prop, (∃ m, W 0 m (upd H1 D (.lst []))) ∧ ∀ i m H, W i m H →
      (J.stop i H ∧ Qd H) ∨ (J.go i H ∧ ∃ Nx : Hp → Prop, (∀ H', Nx H' → ∃ m', m' < m ∧ W (i + 1) m' H') ∧ ∀ x H', J.yld i H x H' → g x (wipe σ vs) H' fun σ2 H2 => wipe σ2 vs = wipe σ vs ∧ tt σ2 H2 fun b H3 =>
        if b = true then te σ2 H3 fun y H4 => ∃ acc, H4 D = some (.lst acc) ∧ acc.length < sizeLine ∧ Nx (upd H4 D (.lst (acc ++ [y]))) else Nx H3)

theorem small_app {n m : Nat} (h : n ≤ m) (hm : m ≤ 100000) : n < sizeLine := Nat.lt_of_le_of_lt (Nat.le_trans h hm) (by decide)

/-- [e for x in xs if p]: over a list of values; what stood stands, each item has the relation R to its source -/
theorem lc_vals {α : Type} {a : Addr} {xs : List V} {cs : List α} {i1 : Nat} {tt : TT} {te : TE} {vs : List Nat} {σ : St} {H1 : Hp} {D : Addr} {Qd : Hp → Prop} (p : α → Bool) (val : α → V) (R : V → α → Hp → Prop)
    (hR : ∀ y c H H' acc, H D = some (.lst acc) → Kp D H H' → R y c H → R y c H') (hD : H1 D = none) (hL : SqL K H1 a (cs.map val)) (hsz : cs.length ≤ 100000)
    (hw : ∀ x, wipe ((wipe σ vs).set i1 x) vs = wipe σ vs)
    (ht : ∀ c ∈ cs, ∀ H Q, Same H1 H → (∀ H', Same H H' → Q (p c) H') → tt ((wipe σ vs).set i1 (some (val c))) H Q)
    (he : ∀ c ∈ cs, p c = true → ∀ H Q, Same H1 H → (∀ y H', Same H H' → R y c H' → Q y H') → te ((wipe σ vs).set i1 (some (val c))) H Q)
    (hd : ∀ ys H, Same H1 H → H D = some (.lst ys) → P2 (fun y c => R y c H) ys (cs.filter p) → Qd H) : LcG (Itl K a) (gName i1) tt te vs σ H1 D Qd := by
  refine lc_list (K := K) (a := a) (xs := cs.map val) (fun i H => Same H1 H ∧ ∃ ys, H D = some (.lst ys) ∧ P2 (fun y c => R y c H) ys ((cs.take i).filter p)) ⟨same_upd hD, [], upd_same, .nil⟩ (fun i H _ ⟨s, _⟩ => s.seq hL) ?_ ?_
  · rintro i x H hx ⟨s, ys, hy, py⟩
    rw [List.getElem?_map] at hx
    cases hc : cs[i]? with
    | none => rw [hc] at hx; cases hx
    | some c =>
      rw [hc] at hx
      cases hx
      have hi : i < cs.length := (List.getElem?_eq_some_iff.mp hc).1
      have ll : ys.length ≤ 100000 := by
        have h1 := py.len
        have h2 := List.length_filter_le p (cs.take i)
        rw [List.length_take] at h2
        omega
      refine ⟨hw _, ht c (mem_of_at hc) H _ s fun H2 s2 => ?_⟩
      have py2 := py.mono fun v b rb => hR v b H H2 _ hy s2.kp rb
      have hy2 := s2 _ _ hy
      by_cases hp : p c = true
      · rw [if_pos hp]
        refine he c (mem_of_at hc) hp H2 _ (s.trans s2) fun y H' s' r => ⟨ys, s' _ _ hy2, small_app (Nat.le_refl _) ll, ((s.trans s2).trans s').wr hD, ys ++ [y], upd_same, ?_⟩
        rw [take_snoc hc, List.filter_append, List.filter_cons, if_pos hp, List.filter_nil]
        exact (py2.mono fun v b rb => hR v b H' _ _ (s' _ _ hy2) (kp_upd D H' _) (hR v b H2 H' _ hy2 s'.kp rb)).snoc (hR y c H' _ _ (s' _ _ hy2) (kp_upd D H' _) r)
      · rw [if_neg hp]
        refine ⟨s.trans s2, ys, hy2, ?_⟩
        rw [take_snoc hc, List.filter_append, List.filter_cons, if_neg hp, List.filter_nil, List.append_nil]
        exact py2
  · rintro H ⟨s, ys, hy, py⟩
    rw [List.length_map, List.take_length] at py
    exact hd ys H s hy py

/-- [e for a, b in pairs if p] -/
theorem lc_pairs {a : Addr} {ts : List Addr} {cs : List (Int × Int)} {i1 i2 : Nat} {tt : TT} {te : TE} {vs : List Nat} {σ : St} {H1 : Hp} {D : Addr} {Qd : Hp → Prop} (p : Int × Int → Bool) (R : V → Int × Int → Hp → Prop)
    (hR : ∀ y c H H' acc, H D = some (.lst acc) → Kp D H H' → R y c H → R y c H') (hD : H1 D = none) (hL : SqL K H1 a (ts.map V.ref)) (hP : P2 (PrT H1) ts cs) (hsz : cs.length ≤ 100000)
    (hw : ∀ x y, wipe (((wipe σ vs).set i1 x).set i2 y) vs = wipe σ vs)
    (ht : ∀ c ∈ cs, ∀ H Q, Same H1 H → (∀ H', Same H H' → Q (p c) H') → tt (((wipe σ vs).set i1 (some (.int c.1))).set i2 (some (.int c.2))) H Q)
    (he : ∀ c ∈ cs, p c = true → ∀ H Q, Same H1 H → (∀ y H', Same H H' → R y c H' → Q y H') → te (((wipe σ vs).set i1 (some (.int c.1))).set i2 (some (.int c.2))) H Q)
    (hd : ∀ ys H, Same H1 H → H D = some (.lst ys) → P2 (fun y c => R y c H) ys (cs.filter p) → Qd H) : LcG (Itl K a) (gTup K 2 (gCons (gName i1) (gCons (gName i2) gNil))) tt te vs σ H1 D Qd := by
  have hlen := hP.len
  refine lc_list (K := K) (a := a) (xs := ts.map V.ref) (fun i H => Same H1 H ∧ ∃ ys, H D = some (.lst ys) ∧ P2 (fun y c => R y c H) ys ((cs.take i).filter p)) ⟨same_upd hD, [], upd_same, .nil⟩ (fun i H _ ⟨s, _⟩ => s.seq hL) ?_ ?_
  · rintro i x H hx ⟨s, ys, hy, py⟩
    rw [List.getElem?_map] at hx
    cases ht' : ts[i]? with
    | none => rw [ht'] at hx; cases hx
    | some t =>
      rw [ht'] at hx
      cases hx
      obtain ⟨c, hc, r⟩ := hP.getl ht'
      have hi : i < cs.length := (List.getElem?_eq_some_iff.mp hc).1
      have ll : ys.length ≤ 100000 := by
        have h1 := py.len
        have h2 := List.length_filter_le p (cs.take i)
        rw [List.length_take] at h2
        omega
      refine ⟨t, _, rfl, SqT.of (s _ _ r), rfl, _, _, rfl, _, _, rfl, rfl, hw _ _, ht c (mem_of_at hc) H _ s fun H2 s2 => ?_⟩
      have py2 := py.mono fun v b rb => hR v b H H2 _ hy s2.kp rb
      have hy2 := s2 _ _ hy
      by_cases hp : p c = true
      · rw [if_pos hp]
        refine he c (mem_of_at hc) hp H2 _ (s.trans s2) fun y H' s' r => ⟨ys, s' _ _ hy2, small_app (Nat.le_refl _) ll, ((s.trans s2).trans s').wr hD, ys ++ [y], upd_same, ?_⟩
        rw [take_snoc hc, List.filter_append, List.filter_cons, if_pos hp, List.filter_nil]
        exact (py2.mono fun v b rb => hR v b H' _ _ (s' _ _ hy2) (kp_upd D H' _) (hR v b H2 H' _ hy2 s'.kp rb)).snoc (hR y c H' _ _ (s' _ _ hy2) (kp_upd D H' _) r)
      · rw [if_neg hp]
        refine ⟨s.trans s2, ys, hy2, ?_⟩
        rw [take_snoc hc, List.filter_append, List.filter_cons, if_neg hp, List.filter_nil, List.append_nil]
        exact py2
  · rintro H ⟨s, ys, hy, py⟩
    rw [List.length_map, hlen, List.take_length] at py
    exact hd ys H s hy py
/-- [e for i in range(lo, lo + n) if p] -/
theorem lc_rng {lo : Int} {n : Nat} {i1 : Nat} {tt : TT} {te : TE} {vs : List Nat} {σ : St} {H1 : Hp} {D : Addr} {Qd : Hp → Prop} (p : Nat → Bool) (R : V → Nat → Hp → Prop)
    (hR : ∀ y c H H' acc, H D = some (.lst acc) → Kp D H H' → R y c H → R y c H') (hD : H1 D = none) (hsz : n ≤ 100000)
    (hw : ∀ x, wipe ((wipe σ vs).set i1 x) vs = wipe σ vs)
    (ht : ∀ i, i < n → ∀ H Q, Same H1 H → (∀ H', Same H H' → Q (p i) H') → tt ((wipe σ vs).set i1 (some (.int (lo + i)))) H Q)
    (he : ∀ i, i < n → p i = true → ∀ H Q, Same H1 H → (∀ y H', Same H H' → R y i H' → Q y H') → te ((wipe σ vs).set i1 (some (.int (lo + i)))) H Q)
    (hd : ∀ ys H, Same H1 H → H D = some (.lst ys) → P2 (fun y c => R y c H) ys ((List.range n).filter p) → Qd H) : LcG (Itr lo n) (gName i1) tt te vs σ H1 D Qd := by
  refine lc_range (fun i H => Same H1 H ∧ ∃ ys, H D = some (.lst ys) ∧ P2 (fun y c => R y c H) ys ((List.range i).filter p)) ⟨same_upd hD, [], upd_same, .nil⟩ ?_ ?_
  · rintro i H hi ⟨s, ys, hy, py⟩
    have ll : ys.length ≤ 100000 := by
      have h1 := py.len
      have h2 := List.length_filter_le p (List.range i)
      rw [List.length_range] at h2
      omega
    refine ⟨hw _, ht i hi H _ s fun H2 s2 => ?_⟩
    have py2 := py.mono fun v b rb => hR v b H H2 _ hy s2.kp rb
    have hy2 := s2 _ _ hy
    by_cases hp : p i = true
    · rw [if_pos hp]
      refine he i hi hp H2 _ (s.trans s2) fun y H' s' r => ⟨ys, s' _ _ hy2, small_app (Nat.le_refl _) ll, ((s.trans s2).trans s').wr hD, ys ++ [y], upd_same, ?_⟩
      rw [List.range_succ, List.filter_append, List.filter_cons, if_pos hp, List.filter_nil]
      exact (py2.mono fun v b rb => hR v b H' _ _ (s' _ _ hy2) (kp_upd D H' _) (hR v b H2 H' _ hy2 s'.kp rb)).snoc (hR y i H' _ _ (s' _ _ hy2) (kp_upd D H' _) r)
    · rw [if_neg hp]
      refine ⟨s.trans s2, ys, hy2, ?_⟩
      rw [List.range_succ, List.filter_append, List.filter_cons, if_neg hp, List.filter_nil, List.append_nil]
      exact py2
  · rintro H ⟨s, ys, hy, py⟩
    exact hd ys H s hy py
theorem filter_all {α : Type} (l : List α) : l.filter (fun _ => true) = l := List.filter_eq_self.mpr fun _ _ => rfl
end
end Tr

namespace Tr
/-! Arithmetic behind common_divisor, combination, inverse. -/

theorem gcd_step {a b : Int} (hb : 0 < b) : Int.gcd b (a % b) = Int.gcd a b := by
  rw [Int.gcd_comm a b]
  have h : a = a % b + b * (a / b) := by have := Int.emod_add_mul_ediv a b; omega
  conv => rhs; rw [h]
  rw [Int.gcd_add_mul_left_right]

structure Comb (a b x0 u0 v0 x1 u1 v1 : Int) : Prop where
  h0 : u0 * a + v0 * b = x0
  h1 : u1 * a + v1 * b = x1
  n0 : 0 ≤ x0
  n1 : 0 ≤ x1
  g : Int.gcd x0 x1 = Int.gcd a b
  sg : (0 ≤ u0 ∧ u1 ≤ 0 ∧ v0 ≤ 0 ∧ 0 ≤ v1 ∧ u0 * x1 - u1 * x0 = b ∧ v1 * x0 - v0 * x1 = a) ∨
       (u0 ≤ 0 ∧ 0 ≤ u1 ∧ 0 ≤ v0 ∧ v1 ≤ 0 ∧ u1 * x0 - u0 * x1 = b ∧ v0 * x1 - v1 * x0 = a)
  bu0 : u0.natAbs ≤ b.natAbs
  bu1 : u1.natAbs ≤ b.natAbs
  bv0 : v0.natAbs ≤ a.natAbs + 1
  bv1 : v1.natAbs ≤ a.natAbs + 1
  bx : x0.natAbs ≤ a.natAbs + b.natAbs
  by_ : x1.natAbs ≤ a.natAbs + b.natAbs

theorem comb_start {a b : Int} (ha : 0 ≤ a) (hb : 0 < b) : Comb a b a 1 0 b 0 1 where
  h0 := by omega
  h1 := by omega
  n0 := ha
  n1 := Int.le_of_lt hb
  g := rfl
  sg := .inl ⟨by omega, by omega, by omega, by omega, by omega, by omega⟩
  bu0 := by omega
  bu1 := by omega
  bv0 := by omega
  bv1 := by omega
  bx := by omega
  by_ := by omega

theorem mul_bound {x y c : Int} (hx : 0 < x) (hy : 0 ≤ y) (h : y * x ≤ c) : y ≤ c := by
  have h1 : y * 1 ≤ y * x := Int.mul_le_mul_of_nonneg_left (by omega) hy
  omega

theorem comb_step {a b x0 u0 v0 x1 u1 v1 : Int} (ha : 0 ≤ a) (hb : 0 < b) (c : Comb a b x0 u0 v0 x1 u1 v1) (hx : x1 ≠ 0) :
    Comb a b x1 u1 v1 (x0 - x0 / x1 * x1) (u0 - x0 / x1 * u1) (v0 - x0 / x1 * v1) := by
  have px : 0 < x1 := by have := c.n1; omega
  have e2 : x0 - x0 / x1 * x1 = x0 % x1 := by
    have := Int.emod_add_mul_ediv x0 x1
    rw [Int.mul_comm] at this
    omega
  have q0 : 0 ≤ x0 / x1 := Int.ediv_nonneg c.n0 c.n1
  have r0 : 0 ≤ x0 % x1 := Int.emod_nonneg _ hx
  have r1 : x0 % x1 < x1 := Int.emod_lt_of_pos _ px
  generalize hq : x0 / x1 = q at *
  have n2 : 0 ≤ x0 - q * x1 := by omega
  have key : (0 ≤ u1 ∧ (u0 - q * u1) ≤ 0 ∧ v1 ≤ 0 ∧ 0 ≤ (v0 - q * v1) ∧ u1 * (x0 - q * x1) - (u0 - q * u1) * x1 = b ∧ (v0 - q * v1) * x1 - v1 * (x0 - q * x1) = a) ∨
       (u1 ≤ 0 ∧ 0 ≤ (u0 - q * u1) ∧ 0 ≤ v1 ∧ (v0 - q * v1) ≤ 0 ∧ (u0 - q * u1) * x1 - u1 * (x0 - q * x1) = b ∧ v1 * (x0 - q * x1) - (v0 - q * v1) * x1 = a) := by
    rcases c.sg with ⟨s1, s2, s3, s4, s5, s6⟩ | ⟨s1, s2, s3, s4, s5, s6⟩
    · refine .inr ⟨s2, ?_, s4, ?_, ?_, ?_⟩
      · have := Int.mul_nonneg q0 (show 0 ≤ -u1 by omega)
        rw [Int.mul_neg] at this
        omega
      · have := Int.mul_nonneg q0 s4
        omega
      · rw [← s5]
        simp only [Int.sub_mul, Int.mul_sub]
        have : q * u1 * x1 = u1 * (q * x1) := by rw [Int.mul_comm q u1, Int.mul_assoc]
        omega
      · rw [← s6]
        simp only [Int.sub_mul, Int.mul_sub]
        have : q * v1 * x1 = v1 * (q * x1) := by rw [Int.mul_comm q v1, Int.mul_assoc]
        omega
    · refine .inl ⟨s2, ?_, s4, ?_, ?_, ?_⟩
      · have := Int.mul_nonneg q0 s2
        omega
      · have := Int.mul_nonneg q0 (show 0 ≤ -v1 by omega)
        rw [Int.mul_neg] at this
        omega
      · rw [← s5]
        simp only [Int.sub_mul, Int.mul_sub]
        have : q * u1 * x1 = u1 * (q * x1) := by rw [Int.mul_comm q u1, Int.mul_assoc]
        omega
      · rw [← s6]
        simp only [Int.sub_mul, Int.mul_sub]
        have : q * v1 * x1 = v1 * (q * x1) := by rw [Int.mul_comm q v1, Int.mul_assoc]
        omega
  have bnd : (u0 - q * u1).natAbs ≤ b.natAbs ∧ (v0 - q * v1).natAbs ≤ a.natAbs + 1 := by
    rcases key with ⟨s1, s2, s3, s4, s5, s6⟩ | ⟨s1, s2, s3, s4, s5, s6⟩
    · have t1 : 0 ≤ u1 * (x0 - q * x1) := Int.mul_nonneg s1 n2
      have t2 : -(u0 - q * u1) * x1 ≤ b := by rw [Int.neg_mul]; omega
      have t3 := mul_bound px (by omega) t2
      have t4 : 0 ≤ -v1 * (x0 - q * x1) := Int.mul_nonneg (by omega) n2
      rw [Int.neg_mul] at t4
      have t5 : (v0 - q * v1) * x1 ≤ a := by omega
      have t6 := mul_bound px s4 t5
      omega
    · have t1 : 0 ≤ -u1 * (x0 - q * x1) := Int.mul_nonneg (by omega) n2
      rw [Int.neg_mul] at t1
      have t2 : (u0 - q * u1) * x1 ≤ b := by omega
      have t3 := mul_bound px s2 t2
      have t4 : 0 ≤ v1 * (x0 - q * x1) := Int.mul_nonneg s3 n2
      have t5 : -(v0 - q * v1) * x1 ≤ a := by rw [Int.neg_mul]; omega
      have t6 := mul_bound px (by omega) t5
      omega
  exact {
    h0 := c.h1
    h1 := by
      have e0 := c.h0
      have e1 := c.h1
      simp only [Int.sub_mul, Int.mul_assoc]
      have : q * x1 = q * (u1 * a) + q * (v1 * b) := by rw [← e1, Int.mul_add]
      omega
    n0 := c.n1
    n1 := n2
    g := by rw [e2, gcd_step px]; exact c.g
    sg := key.elim .inl .inr
    bu0 := c.bu1
    bu1 := bnd.1
    bv0 := c.bv1
    bv1 := bnd.2
    bx := c.by_
    by_ := by have := c.by_; omega }

/-- the quotient of a step is bounded -/
theorem comb_q {a b x0 u0 v0 x1 u1 v1 : Int} (c : Comb a b x0 u0 v0 x1 u1 v1) (hx : x1 ≠ 0) : (x0 / x1).natAbs ≤ a.natAbs + b.natAbs := by
  have px : 0 < x1 := by have := c.n1; omega
  have q0 : 0 ≤ x0 / x1 := Int.ediv_nonneg c.n0 c.n1
  have : x0 / x1 ≤ x0 := Int.ediv_le_self _ c.n0
  have := c.bx
  omega
end Tr
namespace Tr
/-! Classes (r, m): what they cover. -/
abbrev Cl := Int × Int
/-- n lies in one of the classes -/
def cov (cs : List Cl) (n : Int) : Prop := ∃ c ∈ cs, c.2 ∣ n - c.1
theorem cov_nil (n : Int) : ¬ cov [] n := fun ⟨_, h, _⟩ => by cases h
theorem cov_app {a b : List Cl} {n : Int} : cov (a ++ b) n ↔ cov a n ∨ cov b n := by
  constructor
  · rintro ⟨c, h, d⟩
    rcases List.mem_append.mp h with h | h
    · exact .inl ⟨c, h, d⟩
    · exact .inr ⟨c, h, d⟩
  · rintro (⟨c, h, d⟩ | ⟨c, h, d⟩)
    · exact ⟨c, List.mem_append_left _ h, d⟩
    · exact ⟨c, List.mem_append_right _ h, d⟩
/-- every class of the one lies within a class of the other -/
def within (cs ds : List Cl) : Prop := ∀ c ∈ cs, ∃ d ∈ ds, d.2 ∣ c.2 ∧ d.2 ∣ c.1 - d.1
theorem dvd_chain {k m n r s : Int} (h1 : k ∣ m) (h2 : k ∣ r - s) (h3 : m ∣ n - r) : k ∣ n - s := by
  have h4 : k ∣ n - r := Int.dvd_trans h1 h3
  have h5 : n - s = (n - r) + (r - s) := by omega
  rw [h5]
  exact Int.dvd_add h4 h2
theorem cov_within {cs ds : List Cl} (h : within cs ds) {n : Int} (c : cov cs n) : cov ds n := by
  obtain ⟨c, hc, d⟩ := c
  obtain ⟨e, he, h1, h2⟩ := h c hc
  exact ⟨e, he, dvd_chain h1 h2 d⟩
theorem within_refl (cs : List Cl) : within cs cs := fun c hc => ⟨c, hc, Int.dvd_refl _, by rw [Int.sub_self]; exact Int.dvd_zero _⟩
/-- what tidy_classes hands back -/
structure Tidy (cs ds : List Cl) : Prop where
  from_ : ∀ d ∈ ds, ∃ c ∈ cs, d.2 = c.2 ∧ d.1 = c.1 % c.2
  to : within cs ds
  len : ds.length ≤ cs.length
theorem emod_sub_dvd (r m : Int) : m ∣ r - r % m := by
  have := Int.emod_add_mul_ediv r m
  exact ⟨r / m, by omega⟩
theorem Tidy.back {cs ds : List Cl} (t : Tidy cs ds) : within ds cs := fun d hd => by
  obtain ⟨c, hc, e1, e2⟩ := t.from_ d hd
  refine ⟨c, hc, by rw [e1]; exact Int.dvd_refl _, ?_⟩
  rw [e2]
  have := emod_sub_dvd c.1 c.2
  obtain ⟨k, hk⟩ := this
  exact ⟨-k, by rw [Int.mul_neg]; omega⟩
theorem Tidy.cov {cs ds : List Cl} (t : Tidy cs ds) (n : Int) : cov ds n ↔ cov cs n := ⟨cov_within t.back, cov_within t.to⟩
theorem Tidy.pos {cs ds : List Cl} (t : Tidy cs ds) (h : ∀ c ∈ cs, 0 < c.2) : ∀ d ∈ ds, 0 < d.2 ∧ 0 ≤ d.1 ∧ d.1 < d.2 := fun d hd => by
  obtain ⟨c, hc, e1, e2⟩ := t.from_ d hd
  have p := h c hc
  rw [e1, e2]
  exact ⟨p, Int.emod_nonneg _ (by omega), Int.emod_lt_of_pos _ p⟩
theorem Tidy.nil {ds : List Cl} (t : Tidy [] ds) : ds = [] := List.eq_nil_of_length_eq_zero (by have := t.len; simp at this; exact this ▸ rfl)
theorem Tidy.ne {cs ds : List Cl} (t : Tidy cs ds) (h : cs ≠ []) : ds ≠ [] := by
  rintro rfl
  cases cs with
  | nil => exact h rfl
  | cons c r =>
    obtain ⟨d, hd, _⟩ := t.to c List.mem_cons_self
    cases hd
/-- inverse: a * x - 1 is a multiple of m -/
def Inv1 (a m x : Int) : Prop := 0 ≤ x ∧ x < m ∧ m ∣ a * x - 1
theorem inv_of {a m u v : Int} (hm : 0 < m) (h : u * (a % m) + v * m = 1) : Inv1 a m (u % m) := by
  refine ⟨Int.emod_nonneg _ (by omega), Int.emod_lt_of_pos _ hm, ?_⟩
  have e1 := Int.emod_add_mul_ediv u m
  have e2 := Int.emod_add_mul_ediv a m
  -- a * (u % m) - 1 = u * (a % m) + v * m  modulo m
  refine ⟨a / m * u - v - a * (u / m), ?_⟩
  have k1 : u % m = u - m * (u / m) := by omega
  have k2 : u * a = u * (a % m) + u * (m * (a / m)) := by rw [← Int.mul_add, e2]
  rw [k1, Int.mul_sub, Int.mul_comm a u, k2]
  have k3 : u * (m * (a / m)) = m * (a / m * u) := by rw [Int.mul_left_comm, Int.mul_comm u]
  have k4 : a * (m * (u / m)) = m * (a * (u / m)) := by rw [Int.mul_left_comm]
  rw [k3, k4, Int.mul_sub, Int.mul_sub, Int.mul_comm m v]
  omega

/-- the classes of refined, ahead of tidying: of (s, k) the t with r + m * t in it -/
structure Ref1 (s k r m t j : Int) : Prop where
  pos : 0 < j
  bd : j ≤ k
  lo : 0 ≤ t
  hi : t < j
  iff : ∀ x : Int, j ∣ x - t ↔ k ∣ r + m * x - s
theorem gcd_pos' {m k : Int} (hk : 0 < k) : 0 < (Int.gcd m k : Int) := by
  have : Int.gcd m k ≠ 0 := fun h => by
    have := (Int.gcd_eq_zero_iff.mp h).2
    omega
  omega
theorem ediv_gcd {m k : Int} (hk : 0 < k) : ∃ m' k', m = Int.gcd m k * m' ∧ k = Int.gcd m k * k' ∧ 0 < k' ∧ m / Int.gcd m k = m' ∧ k / Int.gcd m k = k' ∧ Int.gcd m' k' = 1 := by
  have g0 := gcd_pos' (m := m) hk
  obtain ⟨m', hm⟩ := Int.gcd_dvd_left m k
  obtain ⟨k', hk'⟩ := Int.gcd_dvd_right m k
  have p : 0 < k' := by
    rcases Int.lt_trichotomy k' 0 with h | h | h
    · have := Int.mul_neg_of_pos_of_neg g0 h
      omega
    · rw [h] at hk'; omega
    · exact h
  have e1 : m / Int.gcd m k = m' := Int.ediv_eq_of_eq_mul_right (by omega) hm
  have e2 : k / Int.gcd m k = k' := Int.ediv_eq_of_eq_mul_right (by omega) hk'
  refine ⟨m', k', hm, hk', p, e1, e2, ?_⟩
  have gn : 0 < Int.gcd m k := by omega
  have e3 : Int.gcd m k = Int.gcd m k * Int.gcd m' k' := by
    have := Int.gcd_mul_left (Int.gcd m k : Int) m' k'
    rw [← hm, ← hk'] at this
    simpa using this
  have e4 : Int.gcd m k * Int.gcd m' k' = Int.gcd m k * 1 := by rw [Nat.mul_one]; exact e3.symm
  exact Nat.eq_of_mul_eq_mul_left gn e4
theorem ref_no {s k r m : Int} (h : ¬ (Int.gcd m k : Int) ∣ s - r) (x : Int) : ¬ k ∣ r + m * x - s := fun d => h (by
  have h1 : (Int.gcd m k : Int) ∣ r + m * x - s := Int.dvd_trans (Int.gcd_dvd_right m k) d
  have h2 : (Int.gcd m k : Int) ∣ m * x := Int.dvd_trans (Int.gcd_dvd_left m k) (Int.dvd_mul_right _ _)
  have h3 : s - r = m * x - (r + m * x - s) := by omega
  rw [h3]
  exact Int.dvd_sub h2 h1)
/-- the case small > 1 -/
theorem ref_yes {s k r m i : Int} (hk : 0 < k) (hd : (Int.gcd m k : Int) ∣ s - r) (hi : Inv1 (m / Int.gcd m k) (k / Int.gcd m k) i) :
    Ref1 s k r m ((s - r) / Int.gcd m k * i % (k / Int.gcd m k)) (k / Int.gcd m k) := by
  obtain ⟨m', k', e1, e2, p, d1, d2, co⟩ := ediv_gcd (m := m) hk
  have g0 := gcd_pos' (m := m) hk
  generalize hg : (Int.gcd m k : Int) = g at *
  obtain ⟨q, hq⟩ := hd
  have dq : (s - r) / g = q := Int.ediv_eq_of_eq_mul_right (by omega) hq
  rw [d1, d2] at hi
  rw [dq, d2]
  obtain ⟨i0, i1, z, hz⟩ := hi
  refine ⟨p, ?_, Int.emod_nonneg _ (by omega), Int.emod_lt_of_pos _ p, fun x => ?_⟩
  · rw [e2]
    have := Int.mul_le_mul_of_nonneg_right (show 1 ≤ g by omega) (Int.le_of_lt p)
    omega
  · -- k | r + m x - s  iff  k' | m' x - q  iff  k' | x - q i
    have a1 : r + m * x - s = g * (m' * x - q) := by
      rw [Int.mul_sub, ← Int.mul_assoc, ← e1, ← hq]
      omega
    have a2 : k ∣ r + m * x - s ↔ k' ∣ m' * x - q := by
      rw [a1]
      constructor
      · rintro ⟨c, hc⟩
        refine ⟨c, ?_⟩
        rw [e2, Int.mul_assoc] at hc
        exact Int.eq_of_mul_eq_mul_left (by omega) hc
      · rintro ⟨c, hc⟩
        exact ⟨c, by rw [hc, ← Int.mul_assoc, ← e2]⟩
    rw [a2]
    have b1 : k' ∣ q * i - q * i % k' := emod_sub_dvd _ _
    constructor
    · intro h
      have h1 : k' ∣ x - q * i := by
        have : x - q * i = (x - q * i % k') - (q * i - q * i % k') := by omega
        rw [this]
        exact Int.dvd_sub h b1
      have h2 : k' ∣ m' * (x - q * i) := Int.dvd_trans h1 (Int.dvd_mul_left _ _)
      have h3 : k' ∣ q * (m' * i - 1) := Int.dvd_trans ⟨z, hz⟩ (Int.dvd_mul_left _ _)
      have h4 : m' * x - q = m' * (x - q * i) + q * (m' * i - 1) := by
        simp only [Int.mul_sub, Int.mul_one]
        have : m' * (q * i) = q * (m' * i) := Int.mul_left_comm _ _ _
        omega
      rw [h4]
      exact Int.dvd_add h2 h3
    · intro h
      have h1 : k' ∣ i * (m' * x - q) := Int.dvd_trans h (Int.dvd_mul_left _ _)
      have h3 : k' ∣ x * (m' * i - 1) := Int.dvd_trans ⟨z, hz⟩ (Int.dvd_mul_left _ _)
      have h4 : x - q * i = i * (m' * x - q) - x * (m' * i - 1) := by
        simp only [Int.mul_sub, Int.mul_one]
        have : i * (m' * x) = x * (m' * i) := by rw [Int.mul_left_comm, Int.mul_comm i x, Int.mul_left_comm]
        have : i * q = q * i := Int.mul_comm _ _
        omega
      have h5 : x - q * i % k' = (x - q * i) + (q * i - q * i % k') := by omega
      rw [h5]
      refine Int.dvd_add ?_ b1
      rw [h4]
      exact Int.dvd_sub h1 h3
/-- the case small = 1 -/
theorem ref_one {s k r m : Int} (hk : 0 < k) (hd : (Int.gcd m k : Int) ∣ s - r) (h1 : ¬ k / Int.gcd m k > 1) : Ref1 s k r m 0 (k / Int.gcd m k) := by
  obtain ⟨m', k', e1, e2, p, d1, d2, co⟩ := ediv_gcd (m := m) hk
  have e : k / Int.gcd m k = 1 := by rw [d2] at h1 ⊢; omega
  have ek : k = (Int.gcd m k : Int) := by
    rw [d2] at e
    rw [e, Int.mul_one] at e2
    exact e2
  rw [e]
  refine ⟨by omega, by omega, by omega, by omega, fun x => ⟨fun _ => ?_, fun _ => Int.one_dvd _⟩⟩
  have h2 : k ∣ m * x := by
    rw [ek]
    exact Int.dvd_trans (Int.gcd_dvd_left m k) (Int.dvd_mul_right _ _)
  have h3 : k ∣ s - r := by rw [ek]; exact hd
  have h4 : r + m * x - s = m * x - (s - r) := by omega
  rw [h4]
  exact Int.dvd_sub h2 h3

/-- what refined builds ahead of tidying -/
inductive RefL (r m : Int) : List Cl → List Cl → Prop where
  | nil : RefL r m [] []
  | no {s k : Int} {cs ds : List Cl} : ¬ (Int.gcd m k : Int) ∣ s - r → RefL r m cs ds → RefL r m ((s, k) :: cs) ds
  | yes {s k t : Int} {cs ds : List Cl} : (Int.gcd m k : Int) ∣ s - r → Ref1 s k r m t (k / Int.gcd m k) → RefL r m cs ds → RefL r m ((s, k) :: cs) ((t, k / Int.gcd m k) :: ds)
theorem RefL.cov {r m : Int} {cs ds : List Cl} (h : RefL r m cs ds) (x : Int) : cov ds x ↔ Tr.cov cs (r + m * x) := by
  induction h with
  | nil => exact ⟨fun c => (cov_nil _ c).elim, fun c => (cov_nil _ c).elim⟩
  | @no s k cs ds hn _ ih =>
    constructor
    · intro c
      obtain ⟨c, hc, d⟩ := ih.mp c
      exact ⟨c, List.mem_cons_of_mem _ hc, d⟩
    · rintro ⟨c, hc, d⟩
      rcases List.mem_cons.mp hc with rfl | hc
      · exact (ref_no hn x d).elim
      · exact ih.mpr ⟨c, hc, d⟩
  | @yes s k t cs ds hd hr _ ih =>
    constructor
    · rintro ⟨c, hc, d⟩
      rcases List.mem_cons.mp hc with rfl | hc
      · exact ⟨(s, k), List.mem_cons_self, (hr.iff x).mp d⟩
      · obtain ⟨c', hc', d'⟩ := ih.mp ⟨c, hc, d⟩
        exact ⟨c', List.mem_cons_of_mem _ hc', d'⟩
    · rintro ⟨c, hc, d⟩
      rcases List.mem_cons.mp hc with rfl | hc
      · exact ⟨_, List.mem_cons_self, (hr.iff x).mpr d⟩
      · obtain ⟨c', hc', d'⟩ := ih.mpr ⟨c, hc, d⟩
        exact ⟨c', List.mem_cons_of_mem _ hc', d'⟩
theorem RefL.snoc_no {r m : Int} {cs ds : List Cl} (h : RefL r m cs ds) {s k : Int} (hn : ¬ (Int.gcd m k : Int) ∣ s - r) : RefL r m (cs ++ [(s, k)]) ds := by
  induction h with
  | nil => exact .no hn .nil
  | no a _ ih => exact .no a ih
  | yes a b _ ih => exact .yes a b ih
theorem RefL.snoc_yes {r m : Int} {cs ds : List Cl} (h : RefL r m cs ds) {s k t : Int} (hn : (Int.gcd m k : Int) ∣ s - r) (hr : Ref1 s k r m t (k / Int.gcd m k)) : RefL r m (cs ++ [(s, k)]) (ds ++ [(t, k / Int.gcd m k)]) := by
  induction h with
  | nil => exact .yes hn hr .nil
  | no a _ ih => exact .no a ih
  | yes a b _ ih => exact .yes a b ih
theorem RefL.len {r m : Int} {cs ds : List Cl} (h : RefL r m cs ds) : ds.length ≤ cs.length := by
  induction h with
  | nil => exact Nat.le_refl _
  | no _ _ ih => simp only [List.length_cons]; omega
  | yes _ _ _ ih => simp only [List.length_cons]; omega
theorem RefL.pos {r m : Int} {cs ds : List Cl} (h : RefL r m cs ds) : ∀ d ∈ ds, 0 < d.2 ∧ 0 ≤ d.1 ∧ d.1 < d.2 := by
  induction h with
  | nil => intro d hd; cases hd
  | no _ _ ih => exact ih
  | yes _ hr _ ih =>
    intro d hd
    rcases List.mem_cons.mp hd with rfl | hd
    · exact ⟨hr.pos, hr.lo, hr.hi⟩
    · exact ih d hd
theorem RefL.bd {r m B : Int} {cs ds : List Cl} (h : RefL r m cs ds) (hb : ∀ c ∈ cs, c.2 ≤ B) : ∀ d ∈ ds, d.2 ≤ B := by
  induction h with
  | nil => intro d hd; cases hd
  | no _ _ ih => exact ih fun c hc => hb c (List.mem_cons_of_mem _ hc)
  | yes _ hr _ ih =>
    intro d hd
    rcases List.mem_cons.mp hd with rfl | hd
    · exact Int.le_trans hr.bd (hb _ List.mem_cons_self)
    · exact ih (fun c hc => hb c (List.mem_cons_of_mem _ hc)) d hd
/-- a class with the modulus m either meets r + m * Z in all of it, or falls away -/
theorem RefL.less {r m : Int} {cs ds : List Cl} (hm : 0 < m) (h : RefL r m cs ds) (hc : ∃ c ∈ cs, c.2 = m) : (∃ d ∈ ds, d.2 = 1) ∨ ds.length < cs.length := by
  induction h with
  | nil => obtain ⟨c, hc, _⟩ := hc; cases hc
  | no _ h' ih => exact .inr (by have := h'.len; simp only [List.length_cons]; omega)
  | @yes s k t cs ds hd hr h' ih =>
    by_cases e : k = m
    · subst e
      refine .inl ⟨_, List.mem_cons_self, ?_⟩
      have : (Int.gcd k k : Int) = k := by rw [Int.gcd_self]; omega
      show k / (Int.gcd k k : Int) = 1
      rw [this]
      exact Int.ediv_self (by omega)
    · obtain ⟨c, hc, ec⟩ := hc
      rcases List.mem_cons.mp hc with rfl | hc
      · exact (e ec).elim
      · rcases ih ⟨c, hc, ec⟩ with ⟨d, hd, ed⟩ | hl
        · exact .inl ⟨d, List.mem_cons_of_mem _ hd, ed⟩
        · exact .inr (by simp only [List.length_cons]; omega)
theorem Tidy.one {cs ds : List Cl} (t : Tidy cs ds) (hp : ∀ c ∈ cs, 0 < c.2) (h : ∃ c ∈ cs, c.2 = 1) : ∃ d ∈ ds, d.2 = 1 := by
  obtain ⟨c, hc, e⟩ := h
  obtain ⟨d, hd, h1, _⟩ := t.to c hc
  refine ⟨d, hd, ?_⟩
  have p := (t.pos hp d hd).1
  rw [e] at h1
  have := Int.le_of_dvd (by omega) h1
  omega

/-- the answer of bare_number -/
def Bare (cs : List Cl) : Option Int → Prop
  | none => ∀ n, cov cs n
  | some b => 0 ≤ b ∧ ¬ cov cs b
/-- a number within the first ones that none of the classes has: their moduli are above their number -/
theorem pigeon : ∀ (cs : List Cl), (∀ c ∈ cs, (cs.length : Int) < c.2) → ∃ n : Int, 0 ≤ n ∧ n ≤ cs.length ∧ ¬ cov cs n := by
  intro cs h
  -- each class has at most one of 0 .. length
  have gen : ∀ (ds : List Cl) (L : List Int) (N : Int), L.Nodup → (∀ x ∈ L, 0 ≤ x ∧ x ≤ N) → (∀ c ∈ ds, N < c.2) → ds.length < L.length → ∃ n ∈ L, ¬ cov ds n := by
    intro ds
    induction ds with
    | nil =>
      intro L N _ _ _ hl
      cases L with
      | nil => simp at hl
      | cons x L => exact ⟨x, List.mem_cons_self, cov_nil _⟩
    | cons d ds ih =>
      intro L N nd hL hc hl
      -- at most one member of L lies in d
      have one : ∀ x ∈ L, ∀ y ∈ L, d.2 ∣ x - d.1 → d.2 ∣ y - d.1 → x = y := by
        intro x hx y hy h1 h2
        have h3 : d.2 ∣ x - y := by
          have : x - y = (x - d.1) - (y - d.1) := by omega
          rw [this]
          exact Int.dvd_sub h1 h2
        have b := hc d List.mem_cons_self
        have bx := hL x hx
        have b_y := hL y hy
        obtain ⟨q, hq⟩ := h3
        have q0 : q = 0 := by
          rcases Int.lt_trichotomy q 0 with z | z | z
          · have := Int.mul_le_mul_of_nonneg_left (show q ≤ -1 by omega) (show 0 ≤ d.2 by omega)
            omega
          · exact z
          · have := Int.mul_le_mul_of_nonneg_left (show 1 ≤ q by omega) (show 0 ≤ d.2 by omega)
            omega
        rw [q0] at hq
        omega
      by_cases ex : ∃ x ∈ L, d.2 ∣ x - d.1
      · obtain ⟨x, hx, hd⟩ := ex
        obtain ⟨n, hn, hn2⟩ := ih (L.erase x) N (nd.erase _) (fun y hy => hL y (List.mem_of_mem_erase hy)) (fun c hc' => hc c (List.mem_cons_of_mem _ hc'))
          (by rw [List.length_erase_of_mem hx]; simp only [List.length_cons] at hl; omega)
        have hnL := List.mem_of_mem_erase hn
        refine ⟨n, hnL, ?_⟩
        rintro ⟨c, hc', hcd⟩
        rcases List.mem_cons.mp hc' with rfl | hc'
        · have e := one n hnL x hx hcd hd
          subst e
          exact (List.Nodup.not_mem_erase nd) hn
        · exact hn2 ⟨c, hc', hcd⟩
      · obtain ⟨n, hn, hn2⟩ := ih L N nd hL (fun c hc' => hc c (List.mem_cons_of_mem _ hc')) (by simp only [List.length_cons] at hl; omega)
        refine ⟨n, hn, ?_⟩
        rintro ⟨c, hc', hcd⟩
        rcases List.mem_cons.mp hc' with rfl | hc'
        · exact ex ⟨n, hn, hcd⟩
        · exact hn2 ⟨c, hc', hcd⟩
  obtain ⟨n, hn, hc⟩ := gen cs ((List.range (cs.length + 1)).map (fun i : Nat => (i : Int))) cs.length (by
      refine List.Pairwise.map _ (fun a b (h : a ≠ b) e => h (by omega)) List.nodup_range) (fun x hx => by
      obtain ⟨i, hi, rfl⟩ := List.mem_map.mp hx
      have := List.mem_range.mp hi
      omega) h (by simp)
  obtain ⟨i, hi, rfl⟩ := List.mem_map.mp hn
  have := List.mem_range.mp hi
  exact ⟨i, by omega, by omega, hc⟩
end Tr

namespace Tr
open PySem L2
/-! ### bounds -/
def Bd (n : Nat) (x : Int) : Prop := x.natAbs < 2 ^ n
theorem Bd.mono {n m : Nat} {x : Int} (h : Bd n x) (l : n ≤ m) : Bd m x := Nat.lt_of_lt_of_le h (Nat.pow_le_pow_right (by decide) l)
theorem Bd.le {n : Nat} {x y : Int} (h : Bd n x) (l : y.natAbs ≤ x.natAbs) : Bd n y := Nat.lt_of_le_of_lt l h
theorem Bd.mul {n m : Nat} {x y : Int} (h : Bd n x) (k : Bd m y) : Bd (n + m) (x * y) := wide_lt h k
theorem Bd.add {n m : Nat} {x y : Int} (h : Bd n x) (k : Bd n y) (l : n < m) : Bd m (x + y) := by
  refine Bd.mono (n := n + 1) ?_ l
  have h' : x.natAbs < 2 ^ n := h
  have k' : y.natAbs < 2 ^ n := k
  show (x + y).natAbs < 2 ^ (n + 1)
  have := Int.natAbs_add_le x y
  rw [Nat.pow_succ]
  omega
theorem Bd.neg {n : Nat} {x : Int} (h : Bd n x) : Bd n (-x) := h.le (by simp)
theorem Bd.sub {n m : Nat} {x y : Int} (h : Bd n x) (k : Bd n y) (l : n < m) : Bd m (x - y) := by
  rw [Int.sub_eq_add_neg]
  exact h.add k.neg l
theorem Bd.div {n : Nat} {x y : Int} (h : Bd n x) (hy : 0 < y) : Bd n (x / y) := h.le (Int.natAbs_ediv_le_natAbs x y)
theorem Bd.mod {n : Nat} {x y : Int} (h : Bd n y) (hy : 0 < y) : Bd n (x % y) := by
  have := Int.emod_nonneg x (show y ≠ 0 by omega)
  have := Int.emod_lt_of_pos x hy
  exact h.le (by omega)
theorem Bd.two {n : Nat} {a b x : Int} (h : Bd n a) (k : Bd n b) (l : x.natAbs ≤ a.natAbs + b.natAbs) : Bd (n + 1) x := by
  have h' : a.natAbs < 2 ^ n := h
  have k' : b.natAbs < 2 ^ n := k
  show x.natAbs < 2 ^ (n + 1)
  rw [Nat.pow_succ]
  omega
theorem Bd.one {n : Nat} {a x : Int} (h : Bd n a) (l : x.natAbs ≤ a.natAbs + 1) : Bd (n + 1) x := by
  have h' : a.natAbs < 2 ^ n := h
  show x.natAbs < 2 ^ (n + 1)
  rw [Nat.pow_succ]
  have := Nat.two_pow_pos n
  omega
theorem cmulw {n m : Nat} {x y : Int} (h : Bd n x) (k : Bd m y) (l : n + m ≤ 900000) : CMulW x y :=
  wide_mul (a := n + 1) (b := m + 1) (h.mono (Nat.le_succ _)) (k.mono (Nat.le_succ _)) (Nat.succ_pos _) (Nat.succ_pos _) (by omega)
theorem cdivw {m : Nat} {x y : Int} (hy : 0 < y) (k : Bd m y) (l : m ≤ 8999) : CDivW x y :=
  wide_div (b := m + 1) hy (k.mono (Nat.le_succ _)) (Nat.succ_pos _) (by omega)

theorem dI (a b : Int) : decide (V.int a = V.int b) = decide (a = b) := by
  rw [dec_int, Bool.beq_eq_decide_eq]
theorem iteB {b : Bool} {A B : Prop} (h1 : b = true → A) (h2 : b = false → B) : if b = true then A else B := by
  cases b
  · rw [if_neg Bool.false_ne_true]; exact h2 rfl
  · rw [if_pos rfl]; exact h1 rfl
theorem of_dI {a b : Int} (h : decide (V.int a = V.int b) = true) : a = b := by rw [dI] at h; exact of_decide_eq_true h
theorem of_dI' {a b : Int} (h : decide (V.int a = V.int b) = false) : a ≠ b := by rw [dI] at h; exact of_decide_eq_false h
end Tr

/-! # Classes: their making, methods, own operators. -/
namespace Tr
open PySem PySem.Spec PyProof.Rows L2

/-- a method of the class at C, as the top has left it -/
structure Mth (K : PySem.W.Frag) (C : Addr) (m qual : Str) (st : Stmt) : Prop where
  cls : Cls K C
  ex : ∃ f fd, Meth K C m f ∧ Fun K m qual st f fd
/-- a property -/
structure Prp (K : PySem.W.Frag) (C : Addr) (m qual : Str) (st : Stmt) : Prop where
  cls : Cls K C
  ex : ∃ p g fd, PropOf K C m p g ∧ Fun K m qual st g fd
/-- a class that is made by its name, n defaults -/
structure Ini (K : PySem.W.Frag) (mg : Str → Option Value) (x qual : Str) (C : Addr) (st : Stmt) (n : Nat) : Prop where
  ex : ∃ f fd dvs, Mk K C f ∧ mg x = some (.ref C) ∧ FunD K "__init__" qual (defArgs st) (defBody st) (defScope st) dvs [] f fd ∧ dvs.length = n
/-- a property that may be read -/
structure Pro (P : Program) (w : World) (K : PySem.W.Frag) (mg : Str → Option Value) (base : Heap) (k : Nat) (C : Addr) (m : Str) (sp : Sp) : Prop where
  ex : ∃ (p g : Addr) (fd : FuncData) (ps : List Str), Cls K C ∧ PropOf K C m p g ∧ FnOk P w K mg base (L2.CX P w) k g fd ps sp ∧ Binds K fd ps []

section
variable {P : Program} {w : World} {K : PySem.W.Frag} {mg : Str → Option Value} {base : Heap}
theorem Met.mono {j k : Nat} {C : Addr} {x : Str} {sp : Sp} {dvs : List V} (c : Met P w K mg base j C x sp dvs) (h : j ≤ k) : Met P w K mg base k C x sp dvs :=
  let ⟨f, fd, ps, ds, a, b, F, r⟩ := c.ex
  ⟨f, fd, ps, ds, a, b, F.mono h, r⟩
theorem Mak.mono {j k : Nat} {C : Addr} {x : Str} {sp : Sp} {dvs : List V} (c : Mak P w K mg base j x C sp dvs) (h : j ≤ k) : Mak P w K mg base k x C sp dvs :=
  let ⟨f, fd, ps, ds, a, F, r⟩ := c.ex
  ⟨f, fd, ps, ds, a, F.mono h, r⟩
theorem metN {m qual : Str} {C : Addr} {st : Stmt} {N ps : List Str} {k : Nat} {sp : Sp} (D : Mth K C m qual st) (S : FnScope N ps (defScope st)) (len : ∀ vs H Q E, sp vs H Q E → vs.length = ps.length)
    (hb : ∀ (kV doc pm : Value) (an : Option Addr) (cdv ct : Value) (us : List Value), us.length = ps.length → bindArgs (PySem.W.fnOf m qual (defArgs st) (defBody st) (defScope st) .none kV doc pm an cdv ct) ⟨us, []⟩ = pure (ps.zip us))
    (hbody : ∀ (f : Addr) (cdv : Value) (A : Around) (outer : List Env) (s : Shared) (H : Hp) (vs : List V) (Q : VK) (E : XK), Room k (A.deeper (envOfC qual (defScope st) s.heap.objs.size f cdv)) → sp vs H Q E →
      ∃ t, PSs (cxOf (L2.CX P w) P w K mg base N qual (defScope st) f cdv A outer s H E).nox (defBody st) t ∧ t { nx := fun _ H' => Q .non H', rt := Q } (start N vs) H) : Met P w K mg base (k + 1) C m sp [] :=
  let ⟨f, fd, M, F⟩ := D.ex
  ⟨f, fd, ps, [], D.cls, M, okN F S len (hbody f), F.binds hb, .nil⟩
theorem metX {m qual : Str} {C : Addr} {st : Stmt} {N ps : List Str} {k : Nat} {sp : Sp} (D : Mth K C m qual st) (S : FnScope N ps (defScope st)) (len : ∀ vs H Q E, sp vs H Q E → vs.length = ps.length)
    (hb : ∀ (kV doc pm : Value) (an : Option Addr) (cdv ct : Value) (us : List Value), us.length = ps.length → bindArgs (PySem.W.fnOf m qual (defArgs st) (defBody st) (defScope st) .none kV doc pm an cdv ct) ⟨us, []⟩ = pure (ps.zip us))
    (hbody : ∀ (f : Addr) (cdv : Value) (A : Around) (outer : List Env) (s : Shared) (H : Hp) (vs : List V) (Q : VK) (E : XK), Room k (A.deeper (envOfC qual (defScope st) s.heap.objs.size f cdv)) → sp vs H Q E →
      ∃ t, PSs (cxOf (L2.CX P w) P w K mg base N qual (defScope st) f cdv A outer s H E) (defBody st) t ∧ t { nx := fun _ H' => Q .non H', rt := Q } (start N vs) H) : Met P w K mg base (k + 1) C m sp [] :=
  let ⟨f, fd, M, F⟩ := D.ex
  ⟨f, fd, ps, [], D.cls, M, F.okX S len (hbody f), F.binds hb, .nil⟩
theorem proN {m qual : Str} {C : Addr} {st : Stmt} {N ps : List Str} {k : Nat} {sp : Sp} (D : Prp K C m qual st) (S : FnScope N ps (defScope st)) (len : ∀ vs H Q E, sp vs H Q E → vs.length = ps.length)
    (hb : ∀ (kV doc pm : Value) (an : Option Addr) (cdv ct : Value) (us : List Value), us.length = ps.length → bindArgs (PySem.W.fnOf m qual (defArgs st) (defBody st) (defScope st) .none kV doc pm an cdv ct) ⟨us, []⟩ = pure (ps.zip us))
    (hbody : ∀ (f : Addr) (cdv : Value) (A : Around) (outer : List Env) (s : Shared) (H : Hp) (vs : List V) (Q : VK) (E : XK), Room k (A.deeper (envOfC qual (defScope st) s.heap.objs.size f cdv)) → sp vs H Q E →
      ∃ t, PSs (cxOf (L2.CX P w) P w K mg base N qual (defScope st) f cdv A outer s H E).nox (defBody st) t ∧ t { nx := fun _ H' => Q .non H', rt := Q } (start N vs) H) : Pro P w K mg base (k + 1) C m sp :=
  let ⟨p, g, fd, M, F⟩ := D.ex
  ⟨p, g, fd, ps, D.cls, M, okN F S len (hbody g), F.binds hb⟩
/-- all parameters written -/
theorem binds_all {x qual : Str} {params : Arguments} {body : List Stmt} {scope : Scope} {dvs : List V} {f : Addr} {fd : FuncData} {ps : List Str} (F : FunD K x qual params body scope dvs [] f fd) (n : Nat) (hn : n = ps.length)
    (h : ∀ (T : Addr) (kV doc pm : Value) (an : Option Addr) (cdv ct : Value) (us its : List Value), us.length = n → its.length = dvs.length →
      ∃ k, bindArgs (PySem.W.fnOf x qual params body scope (.ref T) kV doc pm an cdv ct) ⟨us, []⟩ = seqItems? (.ref T) >>= k ∧ k (some its.toArray) = pure (ps.zip (us ++ []))) (hd : dvs ≠ []) : Binds K fd ps [] := by
  obtain ⟨ds, r, b⟩ := F.binds1 (ps := ps) n dvs.length hd (by omega) (fun T kV doc pm an cdv ct us its h1 h2 => by
    obtain ⟨k, e1, e2⟩ := h T kV doc pm an cdv ct us its h1 h2
    refine ⟨k, e1, ?_⟩
    rw [e2, ← h2, List.drop_length])
  rw [List.drop_length] at r
  cases r
  exact b
theorem makN {x qual : Str} {C : Addr} {st : Stmt} {n : Nat} {N ps : List Str} {k : Nat} {sp : Sp} (D : Ini K mg x qual C st n) (S : FnScope N ps (defScope st)) (len : ∀ vs H Q E, sp vs H Q E → vs.length = ps.length)
    (hb : ∀ dvs f fd, dvs.length = n → FunD K "__init__" qual (defArgs st) (defBody st) (defScope st) dvs [] f fd → Binds K fd ps [])
    (hbody : ∀ (f : Addr) (cdv : Value) (A : Around) (outer : List Env) (s : Shared) (H : Hp) (vs : List V) (Q : VK) (E : XK), Room k (A.deeper (envOfC qual (defScope st) s.heap.objs.size f cdv)) → sp vs H Q E →
      ∃ t, PSs (cxOf (L2.CX P w) P w K mg base N qual (defScope st) f cdv A outer s H E).nox (defBody st) t ∧ t { nx := fun _ H' => Q .non H', rt := Q } (start N vs) H) : Mak P w K mg base (k + 1) x C sp [] :=
  let ⟨f, fd, dvs, M, hm, F, hl⟩ := D.ex
  ⟨f, fd, ps, [], M, F.ok S len (fun cdv A outer s H vs Q E hr h =>
    let ⟨t, h1, h2⟩ := hbody f cdv A outer s H vs Q E hr h
    ⟨t, h1.nox, h2⟩), hm, hb dvs f fd hl F, .nil⟩
end

section
variable {X : Cx} {k j : Nat} {C : Addr} {x m : Str} {sp : Sp} {dvs : List V} {p pos apos : Pos} {e o : Expr} {es : List Expr} {ta : TE} {t : TA} {E : XK}
theorem pe_mkx (c : Mak X.prog X.w X.K X.mg X.base k x C sp dvs) (hr : Room j X.A) (hk : k + 1 ≤ j) (hg : Gl X x) (hx : Passes (L2.CX X.prog X.w) X E) (ha : PA X (e :: es) t)
    (hdb : (x == ("__debug__" : Str)) = false := by decide) (he : starEach (e :: es) X.env = (false, eval e X.env) :: starEach es X.env := by rfl) (hpl : (backTo pos (starEach es X.env)).any (·.1) = false := by rfl) :
    PE X (.Call (.Name x p) (e :: es) [] pos) (tMake C sp dvs E t) := by
  obtain ⟨f, fd, ps, ds, M, F, hm, b, d⟩ := c.ex
  exact pe_make M F (hr.mono hk) hg hm b d hx ha hdb he hpl
theorem pe_mtx {pl : Sem Bool} (c : Met X.prog X.w X.K X.mg X.base k C m sp dvs) (hr : Room j X.A) (hk : k ≤ j) (hx : Passes (L2.CX X.prog X.w) X E) (he : PE X o ta) (ha : PA X (e :: es) t)
    (hst : starEach (e :: es) X.env = (false, eval e X.env) :: starEach es X.env := by rfl) (hpl : (backTo pos (starEach es X.env)).any (·.1) = false := by rfl)
    (ht : eval (.Call (.Attribute o m apos) (e :: es) [] pos) X.env = (do
      let ov ← eval o X.env
      standAt apos.atName
      let (f, first) ← holding [ov] (getMethod ov m pl)
      callWith pos f first (backTo pos (starEach (e :: es) X.env)) (backToKw pos (keywordEach [] X.env))) := by rfl) :
    PE X (.Call (.Attribute o m apos) (e :: es) [] pos) (tMeth C m sp dvs E ta t) := by
  obtain ⟨f, fd, ps, ds, hc, hm, F, b, d⟩ := c.ex
  exact pe_meth (pl := pl) he hc hm F (hr.mono hk) b d hx ha hst hpl ht
theorem pe_mtx0 {pl : Sem Bool} (c : Met X.prog X.w X.K X.mg X.base k C m sp dvs) (hr : Room j X.A) (hk : k ≤ j) (hx : Passes (L2.CX X.prog X.w) X E) (he : PE X o ta)
    (ht : eval (.Call (.Attribute o m apos) [] [] pos) X.env = (do
      let ov ← eval o X.env
      standAt apos.atName
      let (f, first) ← holding [ov] (getMethod ov m pl)
      callWith pos f first (backTo pos (starEach [] X.env)) (backToKw pos (keywordEach [] X.env))) := by rfl) :
    PE X (.Call (.Attribute o m apos) [] [] pos) (tMeth C m sp dvs E ta tNil) := by
  obtain ⟨f, fd, ps, ds, hc, hm, F, b, d⟩ := c.ex
  exact pe_meth0 (pl := pl) he hc hm F (hr.mono hk) b d hx ht
theorem pe_px (c : Pro X.prog X.w X.K X.mg X.base k C m sp) (hr : Room j X.A) (hk : k + 1 ≤ j) (he : PE X e ta) (hx : Passes (L2.CX X.prog X.w) X.nox E)
    (hab : attributeBase e m X.env (eval e X.env) = eval e X.env := by rfl) : PE X (.Attribute e m pos) (tProp C sp [] E ta) := by
  obtain ⟨p, g, fd, ps, hc, hp, F, b⟩ := c.ex
  exact pe_prop he hc hp F (hr.mono hk) b .nil hx hab
end

/-! ### own operators -/
section
variable {X : Cx} {k : Nat} {C : Addr} {sp : Sp} {E : XK}
theorem run_at {CX : CXT} {f : Addr} {fd : FuncData} {ps : List Str} {pins : List (Addr × Obj)} {σ : L2.St} {H : Hp} {s : Shared} {Q : VK} {us : List Value} {vs : List V} {A : Around} (F : FnOk X.prog X.w X.K X.mg X.base CX k f fd ps sp) (hr : Room k A) (hf : A.frames = X.A.frames)
    (hb : Binds X.K fd ps []) (hx : Passes CX X E) (I : Inv X pins σ H s) (r : Vals vs us) (h : sp vs H Q E) : wpAny (model X.prog X.w) A (call (.ref f) us) (EP X pins σ Q) X.xe s := by
  have e0 : Env0 X.prog X.w X.K X.mg X.base A X.stack s H := by
    have e := I.env0
    exact ⟨by rw [hf]; exact e.frames, e.mod, e.bs, e.bsz, e.funs, e.frf, e.hok, e.bare⟩
  have hl : (us ++ []).length = ps.length := by rw [List.append_nil, ← r.length]; exact F.len _ _ _ _ h
  have b := hb s us I.kIn hl
  rw [List.append_nil] at b
  refine wpAny_call (codeAny_mono (F.run A X.stack s H ⟨us, []⟩ us vs Q E hr e0 b r h) fun r s' hq => ?_)
  cases r with
  | error e => exact hx pins σ H s e s' I hq
  | ok fl =>
    cases fl with
    | ret u => exact I.after hq
    | next => exact False.elim hq
    | brk => exact False.elim hq
    | cont => exact False.elim hq
/-- the reading of an own operator -/
def rOwn (C : Addr) (sp : Sp) (E : XK) (g : V → V → List V) (out : Bool → V) : V → V → V → Hp → VK → Prop := fun o x y H Q => ∃ a dx fs, o = .ref a ∧ H a = some (.ins C dx fs) ∧ sp (g x y) H (fun v H' => ∃ b, v = .bl b ∧ Q (out b) H') E
def rInO (C : Addr) (sp : Sp) (E : XK) (out : Bool → V) : R2 := fun x y H Q => ∃ a dx fs, y = .ref a ∧ H a = some (.ins C dx fs) ∧ sp [y, x] H (fun v H' => ∃ b, v = .bl b ∧ Q (out b) H') E
theorem or_inO (c : Met X.prog X.w X.K X.mg X.base k C "__contains__" sp []) {j : Nat} (hr : Room j X.A) (hk : k ≤ j) (hx : Passes (L2.CX X.prog X.w) X E) : OpR X (compareOp .In) (rInO C sp E .bl) := by
  obtain ⟨f, fd, ps, ds, hc, hm, F, b, d⟩ := c.ex
  cases d
  intro pins s σ H x y v u Q I rx ry h
  obtain ⟨a, dx, fs, rfl, ha, h⟩ := h
  cases ry
  obtain ⟨mA, J, _⟩ := ins_get I.hok ha
  obtain ⟨od, J, _⟩ := J.look
  obtain ⟨m, hF⟩ := I.fr
  refine PySem.W.in_K hF I.ok.mod.kin J hm.at_ hm.fn ?_
  refine wpAny_mono (run_at F (hr.mono hk) rfl b hx I (us := [.ref a, v]) (vs := [.ref a, x]) (.cons rfl (.cons rx .nil)) h) (fun r s' q => ?_) fun _ _ z => z
  obtain ⟨z, H', I', rz, b', rfl, q⟩ := q
  cases rz
  exact wpAny_truthy_bool ⟨.bl b', H', I', rfl, q⟩
theorem or_notInO (c : Met X.prog X.w X.K X.mg X.base k C "__contains__" sp []) {j : Nat} (hr : Room j X.A) (hk : k ≤ j) (hx : Passes (L2.CX X.prog X.w) X E) : OpR X (compareOp .NotIn) (rInO C sp E fun b => .bl (!b)) := by
  obtain ⟨f, fd, ps, ds, hc, hm, F, b, d⟩ := c.ex
  cases d
  intro pins s σ H x y v u Q I rx ry h
  obtain ⟨a, dx, fs, rfl, ha, h⟩ := h
  cases ry
  obtain ⟨mA, J, _⟩ := ins_get I.hok ha
  obtain ⟨od, J, _⟩ := J.look
  obtain ⟨m, hF⟩ := I.fr
  refine PySem.W.notIn_K hF I.ok.mod.kin J hm.at_ hm.fn ?_
  refine wpAny_mono (run_at F (hr.mono hk) rfl b hx I (us := [.ref a, v]) (vs := [.ref a, x]) (.cons rfl (.cons rx .nil)) h) (fun r s' q => ?_) fun _ _ z => z
  obtain ⟨z, H', I', rz, b', rfl, q⟩ := q
  cases rz
  exact wpAny_truthy_bool ⟨.bl (!b'), H', I', rfl, q⟩
/-- == of two instances of one class -/
def rEqO (C : Addr) (sp : Sp) (E : XK) (out : Bool → V) : R2 := fun x y H Q => ∃ a dx fs b dy gs, x = .ref a ∧ y = .ref b ∧ H a = some (.ins C dx fs) ∧ H b = some (.ins C dy gs) ∧ sp [x, y] H (fun v H' => ∃ b, v = .bl b ∧ Q (out b) H') E
theorem or_eqO (c : Met X.prog X.w X.K X.mg X.base k C "__eq__" sp []) {j : Nat} (hr : Room j X.A) (hk : k ≤ j) (hx : Passes (L2.CX X.prog X.w) X E) : OpR X (compareOp .Eq) (rEqO C sp E .bl) := by
  obtain ⟨f, fd, ps, ds, hc, hm, F, b, d⟩ := c.ex
  cases d
  intro pins s σ H x y v u Q I rx ry h
  obtain ⟨a, dx, fs, c, dy, gs, rfl, rfl, ha, hc', h⟩ := h
  cases rx
  cases ry
  obtain ⟨mA, J, _⟩ := ins_get I.hok ha
  obtain ⟨mB, J', _⟩ := ins_get I.hok hc'
  obtain ⟨od, J, _⟩ := J.look
  obtain ⟨od', J', _⟩ := J'.look
  obtain ⟨m, hF⟩ := I.fr
  show wpAny (model X.prog X.w) X.A (richCompare .Eq (.ref a) (.ref c)) _ _ s
  refine PySem.W.cmp_K (op := .Eq) (tb := .ref C) hr.units0 hF I.ok.mod.kin J J'.type (by simp [PySem.W.notFirst]) hm.at_ hm.fn ?_
  refine wpAny_mono (run_at F (hr.mono hk) rfl b hx I (us := [.ref a, .ref c]) (vs := [.ref a, .ref c]) (.cons rfl (.cons rfl .nil)) h) (fun r s' q => ?_) fun _ _ z => z
  obtain ⟨z, H', I', rz, b', rfl, q⟩ := q
  cases rz
  exact ⟨.bl b', H', I', rfl, q⟩

/-- what != of a class without own __ne__ leans on -/
structure NeOf (K : PySem.W.Frag) (C : Addr) : Prop where
  ne : PySem.W.findIn K (.ref C) "__ne__" = some (some (.builtin "object.__ne__"))
  mro : PySem.W.mroIn K C (.type "object") = some true
theorem ifBound_ne {M : Model} {A : Around} {E : Value → Shared → Prop} {s : Shared} {K : PySem.W.Frag} {x C : Addr} {ox : Obj} {od : Option Obj} {args : List Value} {Q : Option Value → Shared → Prop} (X : K.In s.heap) (I : PySem.W.InstAt s.heap x ox C od) (hs : PySem.W.findIn K (.ref C) "__ne__" = some (some (.builtin "object.__ne__")))
    (h : wpAny M A (call (.builtin "object.__ne__") (.ref x :: args)) (fun v => Q (some v)) E s) : wpAny M A (callSpecialIfBound? (.ref x) "__ne__" args) Q E s := by
  simp only [callSpecialIfBound?, bindSpecialIfBound?]
  refine wpAny_holding (wpAny_bind (wpAny_bind (wpAny_bind (I.type.here ((PySem.W.looks_findIn X hs).here ?_)))))
  refine wpAny_bind (wpAny_askSetting (wpAny_ite ?_))
  have fin : wpAny M A (call (.builtin "object.__ne__") ([.ref x] ++ args) >>= fun v => pure (some v)) Q E s := wpAny_bind (wpAny_mono h (fun v s' h' => wpAny_pure h') fun _ _ h' => h')
  split
  · exact wpAny_bind (wpAny_of_eq (F.cmp_object.ne.bind _) (wpAny_pure (by exact fin)))
  · exact wpAny_tryCatch (wpAny_bind (wpAny_of_eq (F.cmp_object.ne.bind _) (wpAny_pure (by exact fin))))
theorem entry_ne {prog : Program} {w : World} {A : Around} {E : Value → Shared → Prop} {s : Shared} {K : PySem.W.Frag} {x C f : Addr} {b : Value} {ox : Obj} {od : Option Obj} {Q : Fin → Shared → Prop} (hu : A.units < cLine) (X : K.In s.heap) (I : PySem.W.InstAt s.heap x ox C od)
    (hs : PySem.W.findIn K (.ref C) "__eq__" = some (some (.ref f))) (hf : PySem.W.isFn K (.ref f) = true)
    (h : wpAny (model prog w) A (call (.ref f) [.ref x, b]) (fun v s' => ∃ b, v = .bool b ∧ Q (.done (.ret (.bool (!b)))) s') E s) : wpAny (model prog w) A (Builtin.«object.__ne__» ⟨[.ref x, b], []⟩) Q E s := by
  unfold Builtin.«object.__ne__»
  repeat (first
    | with_reducible refine wpAny_cRoomFor hu ?_
    | (refine wpAny_bind (m := callSpecialIfBound? (.ref x) (Str.ofString "__eq__") [b]) (PySem.W.ifBound_K X I hs hf (wpAny_mono h (fun r s' hr => by
          obtain ⟨b, rfl, hq⟩ := hr
          repeat (first | exact hq | exact wpAny_pure hq | exact wpAny_truthy_bool hq | (refine wpAny_bind (m := truthy (.bool _)) (wpAny_truthy_bool ?_)) | wp_step)) fun _ _ e => e)))
    | wp_step)
theorem ne_K {prog : Program} {w : World} {A : Around} {E : Value → Shared → Prop} {s : Shared} {K : PySem.W.Frag} {x C L f : Addr} {h₀ : Heap} {m : Str → Option Value} {ox : Obj} {od : Option Obj} {b tb : Value} {Q : Value → Shared → Prop} (hu : A.units + 1 < cLine) (FF : Fr h₀ L s.heap m) (X₀ : K.In h₀) (I : PySem.W.InstAt s.heap x ox C od) (hb : PySem.W.Looks (model prog w) s.heap (typeOf b) tb)
    (hn : PySem.W.notFirst K C tb = true) (n : NeOf K C) (hs : PySem.W.findIn K (.ref C) "__eq__" = some (some (.ref f))) (hf : PySem.W.isFn K (.ref f) = true)
    (h : wpAny (model prog w) A.in1 (call (.ref f) [.ref x, b]) (fun v s' => ∃ b, v = .bool b ∧ Q (.bool (!b)) s') E s) : wpAny (model prog w) A (richCompare .NotEq (.ref x) b) Q E s := by
  have X := X₀.keeps FF.keep
  have one : wpAny (model prog w) A (tryCompare (.ref x) (cmpInfo .NotEq).2.1 b) (fun r s' => ∃ v, r = some v ∧ Q v s') E s := by
    unfold tryCompare
    refine wpAny_bind (ifBound_ne X I n.ne (wpAny_call (codeAny_call_builtin F.cmp_object.ne.plain F.cmpEntry_ne (PySem.W.check_slot F.cmpKind_ne F.cmpSplit_ne (I.type.andThen (PySem.W.looks_mroIn X n.mro)) (F.cmpArgs_ne _ _)
      (entry_ne (A := A.in1) hu X I hs hf (wpAny_mono h (fun v s' hv => ?_) fun _ _ e => e))))))
    obtain ⟨c, rfl, hq⟩ := hv
    exact ⟨c, rfl, wpAny_pure ⟨_, rfl, hq⟩⟩
  unfold richCompare
  simp only [oneThing_ref]
  refine wpAny_holding (wpAny_bind (wpAny_cRoomFor (Nat.lt_of_succ_lt hu) ?_))
  refine wpAny_bind (I.type.here (wpAny_bind (hb.here ?_)))
  split
  · rename_i q
    have e : PySem.W.subIn K tb (.ref C) = some false := by
      rcases Bool.or_eq_true_iff.mp hn with e | e
      · rw [beq_iff_eq.mp e] at q; simp at q
      · exact beq_iff_eq.mp e
    refine wpAny_bind ((PySem.W.looks_subIn X e).here ?_)
    simp only [Bool.false_eq_true, if_false]
    refine wpAny_bind (wpAny_mono one (fun r s' z => ?_) fun _ _ e => e)
    obtain ⟨v, rfl, hq⟩ := z
    exact wpAny_pure hq
  · refine wpAny_bind (wpAny_pure ?_)
    simp only [Bool.false_eq_true, if_false]
    refine wpAny_bind (wpAny_mono one (fun r s' z => ?_) fun _ _ e => e)
    obtain ⟨v, rfl, hq⟩ := z
    exact wpAny_pure hq
theorem or_neO (c : Met X.prog X.w X.K X.mg X.base k C "__eq__" sp []) (n : NeOf X.K C) {j : Nat} (hr : Room j X.A) (hk : k + 1 ≤ j) (hx : Passes (L2.CX X.prog X.w) X E) : OpR X (compareOp .NotEq) (rEqO C sp E fun b => .bl (!b)) := by
  obtain ⟨f, fd, ps, ds, hc, hm, F, b, d⟩ := c.ex
  cases d
  intro pins s σ H x y v u Q I rx ry h
  obtain ⟨a, dx, fs, c, dy, gs, rfl, rfl, ha, hc', h⟩ := h
  cases rx
  cases ry
  obtain ⟨mA, J, _⟩ := ins_get I.hok ha
  obtain ⟨mB, J', _⟩ := ins_get I.hok hc'
  obtain ⟨od, J, _⟩ := J.look
  obtain ⟨od', J', _⟩ := J'.look
  obtain ⟨m, hF⟩ := I.fr
  show wpAny (model X.prog X.w) X.A (richCompare .NotEq (.ref a) (.ref c)) _ _ s
  refine ne_K (tb := .ref C) (by have := hr.units; omega) hF I.ok.mod.kin J J'.type (by simp [PySem.W.notFirst]) n hm.at_ hm.fn ?_
  refine wpAny_mono (run_at (A := X.A.in1) F (hr.mono hk).in1 rfl b hx I (us := [.ref a, .ref c]) (vs := [.ref a, .ref c]) (.cons rfl (.cons rfl .nil)) h) (fun r s' q => ?_) fun _ _ z => z
  obtain ⟨z, H', I', rz, b', rfl, q⟩ := q
  cases rz
  exact ⟨_, rfl, .bl (!b'), H', I', rfl, q⟩
/-- bool(o) by an own __bool__ -/
theorem call_bool_own {prog : Program} {w : World} {A : Around} {E : Value → Shared → Prop} {s : Shared} {x : Addr} {Q : Value → Shared → Prop} (h : wpAny (model prog w) A.in1.in1 (truthy (.ref x)) (fun b s' => Q (.bool b) s') E s) :
    wpAny (model prog w) A (call (.type "bool") [.ref x]) Q E s := by
  have ft := F.called_bool
  have hct := F.typeCall_bool_1 (.ref x)
  obtain ⟨c, tl, hmro⟩ := ft.mro
  have hmade := ft.made
  have hsub := ft.sub
  refine wpAny_call (codeAny_of_tree ?_)
  show wpAny _ _ (callAny (.type "bool") _) _ _ _
  refine wpAny_pure ⟨Code.quiet_builtin _ (by decide +kernel), codeAny_builtin F.entry_type_call ?_⟩
  rw [Around.under_plain (weight_type_call_type "bool" [.ref x] []) (units_type_call_type "bool" [.ref x] [])]
  have h1 := ft.notType
  have h2 := ft.canCreate
  repeat (any_goals (first | assumption | wp_step))

  refine codeAny_mono (codeAny_call_builtin (R := wants (fun obj s₁ => ∃ b, obj = .bool b ∧ Q (.bool b) s₁) E) ft.plain F.entry_bool_new (wpAny_of_eq (F.newCall_bool_1 _) ?_)) fun r s₁ hr => ?_
  · unfold Builtin.«bool.__new__»
    have f1 := F.conv_sub_bool
    repeat (any_goals (first | assumption | (with_reducible refine wpAny_bind (m := truthy (.ref x)) (wpAny_mono h (fun b s' hq => ?_) fun _ _ e => e)) | wp_step))
    all_goals exact ⟨_, rfl, hq⟩
  cases r with
  | error e => exact hr
  | ok fl =>
    cases fl with
    | ret obj =>
      obtain ⟨bb, rfl, hr⟩ := hr
      have hT : s₁.TypeIs (.bool bb) "bool" := rfl
      have hli := ft.init.lookup
      have hbi := ft.init.bind (.bool bb)
      repeat (any_goals (first | assumption | wp_step))

      refine codeAny_mono (codeAny_call_builtin ft.init.plain F.entry_object_init (ft.init.check _ _ _ _ _ _ _ _ hT (F.args_object_init_2 _ _) (object_init_meets (self := .bool bb) (rest := [.ref x]) ft.init.lookup ft.made F.newNe_bool prog w A.in1 (wants (fun r s₂ => r = .none ∧ Q (.bool bb) s₂) E) s₁ ⟨hT, rfl, hr⟩))) fun r₂ s₂ hr₂ => ?_
      cases r₂ with
      | error e => exact hr₂
      | ok fl₂ =>
        cases fl₂ with
        | ret r =>
          obtain ⟨rfl, hq⟩ := hr₂
          repeat (any_goals (first | assumption | wp_step))
        | _ => exact hr₂.elim
    | _ => exact hr.elim
theorem cr_boolO (c : Met X.prog X.w X.K X.mg X.base k C "__bool__" sp []) {j : Nat} (hr : Room j X.A) (hk : k + 2 ≤ j) (hx : Passes (L2.CX X.prog X.w) X E) :
    CallR X (.type "bool") (fun xs H Q => ∃ a dx fs, xs = [.ref a] ∧ H a = some (.ins C dx fs) ∧ sp [.ref a] H (fun v H' => ∃ b, v = .bl b ∧ Q (.bl b) H') E) := by
  obtain ⟨f, fd, ps, ds, hc, hm, F, b, d⟩ := c.ex
  cases d
  intro pins s σ H xs us Q I r h
  obtain ⟨a, dx, fs, rfl, ha, h⟩ := h
  rw [Vals.ref1 r]
  obtain ⟨mA, J, _⟩ := ins_get I.hok ha
  obtain ⟨od, J, _⟩ := J.look
  obtain ⟨m, hF⟩ := I.fr
  refine call_bool_own (PySem.W.truthy_K hF I.ok.mod.kin J hm.at_ hm.fn ?_)
  refine wpAny_mono (run_at (A := X.A.in1.in1) F (hr.mono hk).in1.in1 rfl b hx I (us := [.ref a]) (vs := [.ref a]) (.cons rfl .nil) h) (fun r s' q => ?_) fun _ _ z => z
  obtain ⟨z, H', I', rz, b', rfl, q⟩ := q
  cases rz
  exact ⟨.bl b', H', I', rfl, q⟩
end
end Tr

/-! # enumerate, isinstance of own things, fields. -/
namespace Tr
open PySem L2
section
variable {K : PySem.W.Frag}
/-- for i, x in enumerate(list) -/
theorem for_enum {a : Addr} {xs : List V} {i1 i2 : Nat} {tb : TS} {D : Ends} {σ : St} {H : Hp} (Pv : Nat → St → Hp → Prop) (h0 : Pv 0 σ H) (hl : ∀ i σ H, i ≤ xs.length → Pv i σ H → SqL K H a xs)
    (hs : ∀ i x σ H, xs[i]? = some x → Pv i σ H → ∀ T, H T = none → tb { D with nx := Pv (i + 1), ct := Pv (i + 1), bk := D.nx } ((σ.set i1 (some (.int (i : Nat)))).set i2 (some x)) (upd H T (.tup [.int (i : Nat), x]))) (hd : ∀ σ H, Pv xs.length σ H → D.nx σ H) :
    ∃ W : Nat → Nat → St → Hp → Prop, (∃ m, W 0 m σ H) ∧ ∀ i m σ H, W i m σ H →
      ((Ite K a).stop i H ∧ D.nx σ H) ∨ ((Ite K a).go i H ∧ ∃ N : St → Hp → Prop, (∀ σ' H', N σ' H' → ∃ m', m' < m ∧ W (i + 1) m' σ' H') ∧ ∀ x H', (Ite K a).yld i H x H' → gTup K 2 (gCons (gName i1) (gCons (gName i2) gNil)) x σ H' fun σ2 H2 => tb { D with nx := N, ct := N, bk := D.nx } σ2 H2) := by
  refine ⟨fun i m σ H => m = xs.length - i ∧ i ≤ xs.length ∧ Pv i σ H, ⟨xs.length, by simp, Nat.zero_le _, h0⟩, ?_⟩
  rintro i m σ H ⟨rfl, hi, p⟩
  have q := hl i σ H hi p
  by_cases hlt : i < xs.length
  · refine .inr ⟨⟨xs, xs[i], q, by simp [hlt]⟩, Pv (i + 1), fun σ' H' p' => ⟨xs.length - (i + 1), by omega, rfl, hlt, p'⟩, fun x H' y => ?_⟩
    obtain ⟨T, z, rfl, nT, rfl, y⟩ := y
    exact ⟨T, _, rfl, SqT.of upd_same, rfl, _, _, rfl, _, _, rfl, rfl, hs i z σ H (y xs q) p T nT⟩
  · have e : i = xs.length := by omega
    subst e
    exact .inl ⟨⟨xs, q, Nat.le_refl _⟩, hd σ H p⟩
end
/-- e.f, K by its name (inside a comprehension X.K would hold what is bound there) -/
theorem pe_fldK {X : Cx} (K : PySem.W.Frag) {e : Expr} {ta : TE} {f : Str} {pos : Pos} (he : PE X e ta) (hb : attributeBase e f X.env (eval e X.env) = eval e X.env) (hk : X.K = K := by rfl) : PE X (.Attribute e f pos) (tFld K ta f) := by
  subst hk
  exact pe_fld he hb
theorem pi_listK {X : Cx} (K : PySem.W.Frag) {tg l : Expr} {tl : TE} (hl : PE X l tl) (hk : X.K = K := by rfl) : PI X tg l (iList K tl) := by
  subst hk
  exact pi_list hl
/-- a walk over a list, whatever is done at each turn -/
theorem it_list {K : PySem.W.Frag} {a : Addr} {xs : List V} {Hs : Hp} {Qd : Hp → Prop} {F : V → Hp → (Hp → Prop) → Prop} (Pv : Nat → Hp → Prop) (h0 : Pv 0 Hs) (hl : ∀ i H, i ≤ xs.length → Pv i H → SqL K H a xs)
    (hs : ∀ i x H, xs[i]? = some x → Pv i H → F x H (Pv (i + 1))) (hd : ∀ H, Pv xs.length H → Qd H) :
    ∃ W : Nat → Nat → Hp → Prop, (∃ m, W 0 m Hs) ∧ ∀ i m H, W i m H → ((Itl K a).stop i H ∧ Qd H) ∨ ((Itl K a).go i H ∧ ∃ Nx : Hp → Prop, (∀ H', Nx H' → ∃ m', m' < m ∧ W (i + 1) m' H') ∧ ∀ x H', (Itl K a).yld i H x H' → F x H' Nx) := by
  refine ⟨fun i m H => m = xs.length - i ∧ i ≤ xs.length ∧ Pv i H, ⟨xs.length, by simp, Nat.zero_le _, h0⟩, ?_⟩
  rintro i m H ⟨rfl, hi, p⟩
  have q := hl i H hi p
  by_cases hlt : i < xs.length
  · refine .inr ⟨⟨xs, xs[i], q, by simp [hlt]⟩, Pv (i + 1), fun H' p' => ⟨xs.length - (i + 1), by omega, rfl, hlt, p'⟩, fun x H' y => ?_⟩
    obtain ⟨e, y⟩ := y
    subst e
    exact hs i x _ (y xs q) p
  · have e : i = xs.length := by omega
    subst e
    exact .inl ⟨⟨xs, q, Nat.le_refl _⟩, hd H p⟩
/-- another reading of the same -/
theorem pe_imp {X : Cx} {e : Expr} {t t' : TE} (h : PE X e t) (f : ∀ σ H Q, t' σ H Q → t σ H Q) : PE X e t' := ⟨fun pins s σ H Q I q => h.run pins s σ H Q I (f σ H Q q)⟩
/-- what isinstance of an instance of the class leans on -/
structure IsO (K : PySem.W.Frag) (C : Addr) : Prop where
  ha : PySem.W.findIn K (.ref C) "__class__" = some (some (.builtin "object.__class__"))
  hn : PySem.W.specialIn K (.builtin "object.__class__") "__get__" = some (some (.builtin "getset_descriptor.__get__"))
  ht : PySem.W.takesIn K (.builtin "object.__class__") = some true
  hm : PySem.W.mroIn K C (.type "object") = some true
theorem IsO.ty {K : PySem.W.Frag} {C a dx : Addr} {H : Hp} {fs : List (Str × V)} (o : IsO K C) (c : Cls K C) (e : H a = some (.ins C dx fs)) : TyX K H (.ref a) (.ref C) := .base (.ins e c o.ha o.hn o.ht o.hm)
theorem kit_self {K : PySem.W.Frag} {t : Value} : PySem.W.kitOne K t t = some true := by
  unfold PySem.W.kitOne
  first
    | rfl
    | simp
/-- isinstance(x, int) and not isinstance(x, bool) -/
structure IsW (K : PySem.W.Frag) (H : Hp) (x : V) (b : Bool) : Prop where
  ex : ∃ t b1 b2, TyX K H x t ∧ PySem.W.kitOne K t (.type "int") = some b1 ∧ PySem.W.kitOne K t (.type "bool") = some b2 ∧ b = (b1 && !b2)
theorem isW_int {K : PySem.W.Frag} {H : Hp} (i : Int) : IsW K H (.int i) true := ⟨_, true, false, .base (.int i), kit_ty (by decide +kernel), kit_ty (by decide +kernel), rfl⟩
end Tr

/-! # Static methods, own binary operators, own truth, two ways to iterate. -/
namespace Tr
open PySem PySem.Spec PyProof.Rows L2
/-- C.m is a static method: its record at p, its def at g -/
structure SMet (K : PySem.W.Frag) (C : Addr) (m : Str) (p g : Addr) : Prop where
  rd : PySem.W.readsIn K C (.type "type") = true
  ga : PySem.W.specialIn K (.ref C) "__getattribute__" = some (some (.builtin "type.__getattribute__"))
  at_ : PySem.W.findCls K (.ref C) (.type "type") m = some (.get (.builtin "staticmethod.__get__") (.ref p) .none (.ref C))
  rc : ∃ rest, PySem.W.recIn K p "staticmethod" = some (.ref g :: rest)
  kp : PySem.W.keepIn K (.ref g) = true
structure Smt (K : PySem.W.Frag) (C : Addr) (m qual : Str) (st : Stmt) : Prop where
  ex : ∃ p g fd, SMet K C m p g ∧ Fun K m qual st g fd
/-- a static method that may be called -/
structure Sta (P : Program) (w : World) (K : PySem.W.Frag) (mg : Str → Option Value) (base : Heap) (k : Nat) (C : Addr) (m : Str) (sp : Sp) : Prop where
  ex : ∃ (p g : Addr) (fd : FuncData) (ps : List Str), SMet K C m p g ∧ FnOk P w K mg base (L2.CX P w) k g fd ps sp ∧ Binds K fd ps []
section
variable {P : Program} {w : World} {K : PySem.W.Frag} {mg : Str → Option Value} {base : Heap}
theorem staN {m qual : Str} {C : Addr} {st : Stmt} {N ps : List Str} {k : Nat} {sp : Sp} (D : Smt K C m qual st) (S : FnScope N ps (defScope st)) (len : ∀ vs H Q E, sp vs H Q E → vs.length = ps.length)
    (hb : ∀ (kV doc pm : Value) (an : Option Addr) (cdv ct : Value) (us : List Value), us.length = ps.length → bindArgs (PySem.W.fnOf m qual (defArgs st) (defBody st) (defScope st) .none kV doc pm an cdv ct) ⟨us, []⟩ = pure (ps.zip us))
    (hbody : ∀ (f : Addr) (cdv : Value) (A : Around) (outer : List Env) (s : Shared) (H : Hp) (vs : List V) (Q : VK) (E : XK), Room k (A.deeper (envOfC qual (defScope st) s.heap.objs.size f cdv)) → sp vs H Q E →
      ∃ t, PSs (cxOf (L2.CX P w) P w K mg base N qual (defScope st) f cdv A outer s H E).nox (defBody st) t ∧ t { nx := fun _ H' => Q .non H', rt := Q } (start N vs) H) : Sta P w K mg base (k + 1) C m sp :=
  let ⟨p, g, fd, M, F⟩ := D.ex
  ⟨p, g, fd, ps, M, okN F S len (hbody g), F.binds hb⟩
end
section
variable {X : Cx} {k j : Nat} {C : Addr} {m : Str} {sp : Sp} {p pos apos : Pos} {e o : Expr} {es : List Expr} {ta : TE} {t : TA} {E : XK}
theorem getsm_ok {pins : List (Addr × Obj)} {σ : L2.St} {H : Hp} {s : Shared} {A : Around} {E' : Value → Shared → Prop} {p g : Addr} {pl : Sem Bool} {Q : Value × List Value → Shared → Prop} (I : Inv X pins σ H s) (c : SMet X.K C m p g)
    (h : ∀ s', Inv X pins σ H s' → Q (.ref g, []) s') : wpAny (model X.prog X.w) A (getMethod (.ref C) m pl) Q E' s := by
  obtain ⟨rest, hp⟩ := c.rc
  exact PySem.W.method_cls I.kIn c.ga (PySem.W.cls_bind I.kIn c.rd c.at_ (wpAny_call (PySem.W.sm_get (s := { s with toks := s.toks + 1 }) I.kIn hp (PySem.W.handed_on rfl (h _ (I.tok _))))))
/-- C.m(e, ..) of a static method -/
def tSta (C : Addr) (sp : Sp) (E : XK) (ta : TE) (t : TA) : TE := fun σ H Q => ta σ H fun x H1 => x = .ref C ∧ t σ H1 fun vs H2 => sp vs H2 Q E
theorem pe_sta {pl : Sem Bool} (c : Sta X.prog X.w X.K X.mg X.base k C m sp) (hr : Room j X.A) (hk : k ≤ j) (hx : Passes (L2.CX X.prog X.w) X E) (he : PE X o ta) (ha : PA X (e :: es) t)
    (hst : starEach (e :: es) X.env = (false, eval e X.env) :: starEach es X.env := by rfl) (hpl : (backTo pos (starEach es X.env)).any (·.1) = false := by rfl)
    (ht : eval (.Call (.Attribute o m apos) (e :: es) [] pos) X.env = (do
      let ov ← eval o X.env
      standAt apos.atName
      let (f, first) ← holding [ov] (getMethod ov m pl)
      callWith pos f first (backTo pos (starEach (e :: es) X.env)) (backToKw pos (keywordEach [] X.env))) := by rfl) :
    PE X (.Call (.Attribute o m apos) (e :: es) [] pos) (tSta C sp E ta t) := by
  obtain ⟨p, g, fd, ps, M, F, b⟩ := c.ex
  refine ⟨fun pins s σ H Q I h => ?_⟩
  refine PySem.W.methodCall_KW (pl := pl) (thn (he.run pins s σ H _ I h) fun u s1 ⟨x, H1, I1, rx, ex, q⟩ => ?_) ht
  subst ex
  obtain rfl : u = Value.ref C := rx
  refine getsm_ok I1 M fun s2 I2 => ?_
  refine PySem.W.callWith_K (first := []) (h₀ := X.base) I.ok.mod.kin M.kp (thn (ha.run pos pins s2 σ H1 _ I2 q) fun us s3 ⟨vs, H2, I3, r, q2⟩ => ⟨I3.kIn, ?_⟩) hst hpl
  exact run_fn F (hr.mono hk) b .nil hx I3 r (by rw [List.append_nil]; exact q2)
theorem pe_sta0 {pl : Sem Bool} (c : Sta X.prog X.w X.K X.mg X.base k C m sp) (hr : Room j X.A) (hk : k ≤ j) (hx : Passes (L2.CX X.prog X.w) X E) (he : PE X o ta)
    (ht : eval (.Call (.Attribute o m apos) [] [] pos) X.env = (do
      let ov ← eval o X.env
      standAt apos.atName
      let (f, first) ← holding [ov] (getMethod ov m pl)
      callWith pos f first (backTo pos (starEach [] X.env)) (backToKw pos (keywordEach [] X.env))) := by rfl) :
    PE X (.Call (.Attribute o m apos) [] [] pos) (tSta C sp E ta tNil) := by
  obtain ⟨p, g, fd, ps, M, F, b⟩ := c.ex
  refine ⟨fun pins s σ H Q I h => ?_⟩
  refine PySem.W.methodCall_KW (pl := pl) (thn (he.run pins s σ H _ I h) fun u s1 ⟨x, H1, I1, rx, ex, q⟩ => ?_) ht
  subst ex
  obtain rfl : u = Value.ref C := rx
  refine getsm_ok I1 M fun s2 I2 => ?_
  exact PySem.W.callWith_K0 (first := []) I2.kIn M.kp (run_fn (us := []) (vs := []) F (hr.mono hk) b .nil hx I2 .nil q)
/-- a binary operator of two instances of one class -/
def rBinO (C : Addr) (sp : Sp) (E : XK) : R2 := fun x y H Q => ∃ a dx fs b dy gs, x = .ref a ∧ y = .ref b ∧ H a = some (.ins C dx fs) ∧ H b = some (.ins C dy gs) ∧ sp [x, y] H (fun v H' => ∃ z, v = .ref z ∧ Q (.ref z) H') E
theorem or_binO {op : Operator} (c : Met X.prog X.w X.K X.mg X.base k C m sp []) (hm : PySem.dunder op.info.2 = m) (hs : PySem.W.selfFirst X.K C = true) (hr : Room j X.A) (hk : k ≤ j) (hx : Passes (L2.CX X.prog X.w) X E) : OpR X (binaryOp op) (rBinO C sp E) := by
  subst hm
  obtain ⟨f, fd, ps, ds, hc, hm, F, b, d⟩ := c.ex
  cases d
  intro pins s σ H x y v u Q I rx ry h
  obtain ⟨a, dx, fs, c, dy, gs, rfl, rfl, ha, hc', h⟩ := h
  cases rx
  cases ry
  obtain ⟨mA, J, _⟩ := ins_get I.hok ha
  obtain ⟨mB, J', _⟩ := ins_get I.hok hc'
  obtain ⟨od, J, _⟩ := J.look
  obtain ⟨od', J', _⟩ := J'.look
  obtain ⟨m, hF⟩ := I.fr
  refine PySem.W.binop_K hF I.ok.mod.kin J J'.type hs hm.at_ hm.fn ?_
  refine wpAny_mono (run_at F (hr.mono hk) rfl b hx I (us := [.ref a, .ref c]) (vs := [.ref a, .ref c]) (.cons rfl (.cons rfl .nil)) h) (fun r s' q => ?_) fun _ _ z => z
  obtain ⟨z, H', I', rz, b', rfl, q⟩ := q
  cases rz
  exact ⟨.ref b', H', I', rfl, q⟩
/-- the truth of an instance -/
theorem pt_truO {C : Addr} {sp : Sp} (c : Met X.prog X.w X.K X.mg X.base k C "__bool__" sp []) (hr : Room j X.A) (hk : k ≤ j) (hx : Passes (L2.CX X.prog X.w) X E) (ha : PE X e ta) (he : ∀ whole, isTrue e X.env whole = (do let v ← whole; standAt e.pos; holding [v] (truthy v))) :
    PT X e (fun σ H Q => ta σ H fun x H1 => ∃ a dx fs, x = .ref a ∧ H1 a = some (.ins C dx fs) ∧ sp [.ref a] H1 (fun v H2 => ∃ b, v = .bl b ∧ Q b H2) E) := by
  obtain ⟨f, fd, ps, ds, hc, hm, F, b, d⟩ := c.ex
  cases d
  refine ⟨fun pins s σ H Q I h => ?_⟩
  refine isTrue_plain (thn (ha.run pins s σ H _ I h) fun v s1 ⟨x, H1, I1, r1, a, dx, fs, ex, ea, q1⟩ => ?_) (he _)
  subst ex
  cases r1
  obtain ⟨mA, J, _⟩ := ins_get I1.hok ea
  obtain ⟨od, J, _⟩ := J.look
  obtain ⟨m, hF⟩ := I1.fr
  refine PySem.W.truthy_K hF I1.ok.mod.kin J hm.at_ hm.fn ?_
  refine wpAny_mono (run_at F (hr.mono hk) rfl b hx I1 (us := [.ref a]) (vs := [.ref a]) (.cons rfl .nil) q1) (fun r s' q => ?_) fun _ _ z => z
  obtain ⟨z, H', I', rz, b', rfl, q⟩ := q
  cases rz
  exact ⟨H', I', q⟩
theorem pi_or {tg e : Expr} {w1 w2 : TI} (h1 : PI X tg e w1) (h2 : PI X tg e w2) : PI X tg e (fun σ H R => w1 σ H R ∨ w2 σ H R) := ⟨fun pins s σ H R I h => h.elim (h1.run pins s σ H R I) (h2.run pins s σ H R I)⟩
end
end Tr

/-! # Small words. -/
namespace Tr
open PySem L2
theorem iteNe {x y : V} {A B : Prop} (h : x = y) (b : B) : if (!decide (x = y)) = true then A else B := by
  rw [if_neg (by rw [decide_eq_true h]; exact Bool.false_ne_true)]
  exact b
theorem iteEq {x y : V} {A B : Prop} (h : x = y) (b : A) : if decide (x = y) = true then A else B := by
  rw [if_pos (decide_eq_true h)]
  exact b
theorem iteOr {b1 b2 : Bool} {σ : St} {j : Nat} {H : Hp} {Q : VK} (e : σ[j]? = some (some (.bl b2))) (h : Q (.bl (b1 || b2)) H) : if b1 = true then Q (.bl true) H else tVar j σ H Q := by
  cases b1
  · rw [if_neg Bool.false_ne_true]
    exact ⟨_, e, h⟩
  · rw [if_pos rfl]
    exact h
theorem iteAnd {b1 b2 : Bool} {σ : St} {j : Nat} {H : Hp} {Q : VK} (e : σ[j]? = some (some (.bl b2))) (h : Q (.bl (b1 && b2)) H) : if b1 = true then tVar j σ H Q else Q (.bl false) H := by
  cases b1
  · rw [if_neg Bool.false_ne_true]
    exact h
  · rw [if_pos rfl]
    exact ⟨_, e, h⟩
end Tr

/-! # enumerate over a tuple; loops and comprehensions over a tuple of pairs. -/
namespace Tr
open PySem PySem.Spec PyProof.Rows L2
abbrev enumO (it : Addr) : Obj := { cls := .type "enumerate", data := .fields #[.none, .bool false, .ref it, rawInt 0, .none, .none] }
theorem meets_enum1 {v : Value} {o : Obj} {W : Heap → Prop} (B : Begins v o W) :
    Meets (Builtin.«enumerate.__new__» ⟨[.type "enumerate", v], []⟩) (fun _ R s => W s.heap ∧ R (.ok (.ret (.ref (s.heap.push o).objs.size))) { s with heap := (s.heap.push o).push (enumO s.heap.objs.size) }) := .of_wp fun prog w A R s h => by
  obtain ⟨hp, g, d, tk, os⟩ := s
  obtain ⟨h1, h⟩ := h
  have hsub := sub_enumerate
  have q1 : ∀ {A' : Around} {E : Value → Shared → Prop} {Q : Value → Shared → Prop}, Q (.ref hp.objs.size) ⟨hp.push o, g, d, tk, os⟩ → wpAny (model prog w) A' (pyIter v) Q E ⟨hp, g, d, tk, os⟩ := fun q => B.iter prog w _ _ ⟨hp, g, d, tk, os⟩ _ h1 q
  wp_walk using q1
  refine wpAny_stack_any fun st => wpAny_pure ?_
  split
  · rename_i c _ _ _ _ _
    cases (c == Value.type "enumerate") <;> (wp_walk using q1; exact ⟨_, rfl, h⟩)
  · wp_walk using q1
    exact ⟨_, rfl, h⟩
section
variable {prog : Program} {w : World} {A : Around} {E : Value → Shared → Prop} {s : Shared}
theorem call_enum1 {v : Value} {o : Obj} {W : Heap → Prop} {Q : Value → Shared → Prop} (B : Begins v o W) (h1 : W s.heap)
    (h : ∀ h', IsEnum h' (s.heap.objs.size + 1) s.heap.objs.size 0 .none → h'.get? s.heap.objs.size = some o → (∀ b o, s.heap.get? b = some o → h'.get? b = some o) → Q (.ref (s.heap.objs.size + 1)) { s with heap := h' }) :
    wpAny (model prog w) A (call (.type "enumerate") [v]) Q E s := by
  refine callType_new F.called_enumerate (by decide) (F.typeCall_enumerate_1 _) (F.newCall_enumerate_1 _) (fun obj => F.args_object_init_2 obj _) F.entry_enumerate_new (meets_enum1 B) ⟨h1, ?_⟩
  have hz : (s.heap.push o).objs.size = s.heap.objs.size + 1 := Heap.size_push ..
  show _ ∧ _
  rw [hz]
  have he : IsEnum ((s.heap.push o).push (enumO s.heap.objs.size)) (s.heap.objs.size + 1) s.heap.objs.size 0 .none := by
    have := Heap.get?_push_size (s.heap.push o) (o := enumO s.heap.objs.size) rfl
    rw [hz] at this
    exact this
  exact ⟨⟨_, he, rfl⟩, h _ he (Heap.get?_push_of_some _ (Heap.get?_push_size _ B.free)) fun b o x => Heap.get?_push_of_some _ (Heap.get?_push_of_some _ x)⟩
end
/-- the tuple at a, each item in a new pair with its index -/
def IteT (K : PySem.W.Frag) (a : Addr) : It :=
  ⟨fun i H => ∃ (xs : List V) (x : V), SqT K H a xs ∧ xs[i]? = some x, fun i H v H' => ∃ T x, v = .ref T ∧ H T = none ∧ H' = upd H T (.tup [.int (i : Nat), x]) ∧ ∀ xs, SqT K H a xs → xs[i]? = some x, fun i H => ∃ xs : List V, SqT K H a xs ∧ xs.length = i⟩
theorem turn_enumT {P : Program} {w : World} {K : PySem.W.Frag} {elts : List Expr} {kk : Nat} {tpos : Pos} (a e it : Addr) :
    Turn P w K (.Tuple elts kk tpos) (IteT K a) [e, it] e (fun i h => (∃ old, IsEnum h e it ((i : Nat) : Int) old) ∧ h.IsTupleIter it a i ∧ e ≠ it) where
  mem := by simp
  obj := fun i h st b hb => by
    obtain ⟨⟨old, he⟩, ⟨o, ho, hc, hd⟩, _⟩ := st
    rcases (show b = e ∨ b = it by simpa using hb) with z | z
    · rw [z]; exact ⟨_, he, fun v q => nomatch q⟩
    · rw [z]; exact ⟨o, ho, fun v q => by rw [hd] at q; cases q⟩
  keep := fun i h h' ⟨⟨old, he⟩, hi, hne⟩ k => ⟨⟨old, k e (by simp) _ he⟩, hi.at fun o q => k it (by simp) o q, hne⟩
  item := by
    intro X hP hw hK hc i pins s σ H E I hf st hg
    subst hP hw hK
    obtain ⟨⟨old, he⟩, hit, hne⟩ := st
    obtain ⟨xs, x, hq, hx⟩ := hg
    obtain ⟨its, rv, p, hz⟩ := I.tuple hq
    obtain ⟨u, hu, ru⟩ := rv.get hx
    have p' : s.heap.IsTuple a its.toArray := p
    have hel : e < s.heap.objs.size := Heap.lt_size he
    have hil : it < s.heap.objs.size := by obtain ⟨_, q, _⟩ := hit; exact Heap.lt_size q
    have ait : a ≠ it := by
      rintro rfl
      obtain ⟨o, q1, q2, _⟩ := hit
      obtain ⟨o', q3, q4, _⟩ := p'
      rw [q1] at q3
      cases q3
      rw [q2] at q4
      injection q4 with q4
      exact absurd q4 (by decide)
    have ae : a ≠ e := by
      rintro rfl
      obtain ⟨o', q3, q4, _⟩ := p'
      rw [he] at q3
      cases q3
      injection q4 with q4
      exact absurd q4 (by decide)
    have hh : X.A.in1.handled = none := I.ok.hd hc
    have hi : i < its.toArray.size := by
      have := (List.getElem?_eq_some_iff.mp hu).1
      simpa using this
    refine wpAny_pyNext_enum_itemC (Draws.tuple hh it a ait its.toArray) he ⟨hit, p'⟩ hi hne (by simp [hne, ae.symm]) fun x' h' tk hP ho hst hT hsz hk => ?_
    obtain ⟨hit', _⟩ := hst
    have ex : x' = u := by
      have : its[i]? = some x' := by simpa using hP
      rw [hu] at this
      exact (Option.some.inj this).symm
    subst ex
    refine ⟨_, rfl, wpAny_letOwnedTupleGo_enum (s := { s with heap := h', toks := tk + 1 }) ho fun h'' he' sb => ?_⟩
    have hT2 : h''.get? s.heap.objs.size = some { cls := .type "tuple", data := .seq #[.int i tk, x'] } := (sb.2 _ (Nat.ne_of_gt hel)).trans hT
    have new : ObjOk X.prog X.w (upd H s.heap.objs.size (.tup [.int (i : Nat), x])) h'' s.heap.objs.size (.tup [.int (i : Nat), x]) :=
      ⟨by show 2 ≤ sizeLine; decide, [.int i tk, x'], .cons ⟨_, rfl⟩ (.cons ru .nil), ⟨_, hT2, rfl, _, rfl⟩⟩
    have I1 : Inv X pins σ (upd H s.heap.objs.size (.tup [.int (i : Nat), x])) { s with heap := h'', toks := tk + 1 } :=
      I.turnedNew (ch := [e, it]) (fun b ob hb q => (sb.2 b (fun z => hb (by simp [z]))).trans (hk b ob (fun z => hb (by simp [z])) (fun z => hb (by simp [z])) q)) hf (Nat.le_refl _) new
    refine ⟨.ref s.heap.objs.size, _, I1, rfl, ⟨_, x, rfl, I.hok.fresh (Nat.le_refl _), rfl, fun ys hy => by rw [I.tuple_inj hy hq]; exact hx⟩, ⟨⟨x', ?_⟩, hit'.at fun o q => (sb.2 it (Ne.symm hne)).trans q, hne⟩, fun b hb => ?_⟩
    · have e1 : ((i + 1 : Nat) : Int) = (i : Int) + 1 := by omega
      rw [e1]
      exact he'
    · have hb' : b < s.heap.objs.size := by
        rcases (show b = e ∨ b = it by simpa using hb) with z | z
        · rw [z]; exact hel
        · rw [z]; exact hil
      rw [upd_ne (Nat.ne_of_lt hb')]
      exact (hf b hb).1
  done := by
    intro X hP hw hK hc i pins s σ H E I hf st hg
    subst hP hw hK
    obtain ⟨⟨old, he⟩, hit, hne⟩ := st
    obtain ⟨xs, hq, hx⟩ := hg
    obtain ⟨its, rv, p, hz⟩ := I.tuple hq
    obtain ⟨f0, f1, f2, f3, f4, f5⟩ := hf it (by simp)
    have p' : s.heap.IsTuple a its.toArray := p
    have ait : a ≠ it := by
      rintro rfl
      obtain ⟨o, q1, q2, _⟩ := hit
      obtain ⟨o', q3, q4, _⟩ := p'
      rw [q1] at q3
      cases q3
      rw [q2] at q4
      injection q4 with q4
      exact absurd q4 (by decide)
    have hh : X.A.in1.handled = none := I.ok.hd hc
    have hl : i = its.toArray.size := by
      have := rv.length
      simp
      omega
    subst hl
    exact wpAny_pyNext_enum_endD (Draws.tuple hh it a ait its.toArray) he ⟨hit, p'⟩ fun h' eb => ⟨rfl, I.turned (t' := s.toks) (fun b o hb q => eb b o hb q) f0 f1 f3 f4 f5⟩
  self := fun A i s Q E ⟨⟨_, he⟩, _⟩ h => wpAny_pyIter_enum he h
def iEnumT (K : PySem.W.Frag) (ta : TA) : TI := fun σ H R => ta σ H fun vs H1 => ∃ a xs, vs = [.ref a] ∧ SqT K H1 a xs ∧ R (IteT K a) H1
theorem pi_enumT {X : Cx} {e : Expr} {ta : TA} {p pos tpos : Pos} {elts : List Expr} {kk : Nat} (hg : Gl X "enumerate") (hm : X.mg "enumerate" = none) (ha : PA X [e] ta) (hs : starEach [e] X.env = [(false, eval e X.env)] := by rfl) :
    PI X (.Tuple elts kk tpos) (.Call (.Name "enumerate" p) [e] [] pos) (iEnumT X.K ta) := by
  refine ⟨fun pins s σ H R I h => ?_⟩
  refine Call_ (ld_blt I hg hm boot_enumerate (PyProof.Rows.callWith_type1 (thn (ha.run pos pins s σ H _ I h) fun us s1 ⟨vs, H1, I1, r1, q1⟩ => ?_) hs rfl))
  obtain ⟨a, xs, ex, hq, q⟩ := q1
  subst ex
  cases r1 with
  | cons r rr =>
    cases rr
    cases r
    obtain ⟨its, rv, p', hz⟩ := I1.tuple hq
    have p2 : s1.heap.IsTuple a its.toArray := p'
    refine call_enum1 (begins_tuple a its.toArray) p2 fun h' he hit hk => wpAny_pyIter_enum he ?_
    have I2 : Inv X pins σ H1 { s1 with heap := h' } := I1.kept (t' := s1.toks) hk
    refine ⟨s1.heap.objs.size + 1, [s1.heap.objs.size + 1, s1.heap.objs.size], _, _, H1, rfl, I2, turn_enumT a (s1.heap.objs.size + 1) s1.heap.objs.size, ⟨⟨.none, he⟩, ⟨_, hit, rfl, rfl⟩, Nat.succ_ne_self _⟩, fun b hb => ?_, q⟩
    have hle : s1.heap.objs.size ≤ b := by
      rcases (show b = s1.heap.objs.size + 1 ∨ b = s1.heap.objs.size by simpa using hb) with z | z
      · rw [z]; exact Nat.le_add_right _ _
      · rw [z]; exact Nat.le_refl _
    exact I1.fpOk hle (I1.hok.fresh hle)
/-- for i, x in enumerate(tuple) -/
theorem for_enumT {K : PySem.W.Frag} {a : Addr} {xs : List V} {i1 i2 : Nat} {tb : TS} {D : Ends} {σ : L2.St} {H : Hp} (Pv : Nat → L2.St → Hp → Prop) (h0 : Pv 0 σ H) (hl : ∀ i σ H, i ≤ xs.length → Pv i σ H → SqT K H a xs)
    (hs : ∀ i x σ H, xs[i]? = some x → Pv i σ H → ∀ T, H T = none → tb { D with nx := Pv (i + 1), ct := Pv (i + 1), bk := D.nx } ((σ.set i1 (some (.int (i : Nat)))).set i2 (some x)) (upd H T (.tup [.int (i : Nat), x]))) (hd : ∀ σ H, Pv xs.length σ H → D.nx σ H) :
    ∃ W : Nat → Nat → L2.St → Hp → Prop, (∃ m, W 0 m σ H) ∧ ∀ i m σ H, W i m σ H →
      ((IteT K a).stop i H ∧ D.nx σ H) ∨ ((IteT K a).go i H ∧ ∃ N : L2.St → Hp → Prop, (∀ σ' H', N σ' H' → ∃ m', m' < m ∧ W (i + 1) m' σ' H') ∧ ∀ x H', (IteT K a).yld i H x H' → gTup K 2 (gCons (gName i1) (gCons (gName i2) gNil)) x σ H' fun σ2 H2 => tb { D with nx := N, ct := N, bk := D.nx } σ2 H2) := by
  refine ⟨fun i m σ H => m = xs.length - i ∧ i ≤ xs.length ∧ Pv i σ H, ⟨xs.length, by simp, Nat.zero_le _, h0⟩, ?_⟩
  rintro i m σ H ⟨rfl, hi, p⟩
  have q := hl i σ H hi p
  by_cases hlt : i < xs.length
  · refine .inr ⟨⟨xs, xs[i], q, by simp [hlt]⟩, Pv (i + 1), fun σ' H' p' => ⟨xs.length - (i + 1), by omega, rfl, hlt, p'⟩, fun x H' y => ?_⟩
    obtain ⟨T, z, rfl, nT, rfl, y⟩ := y
    exact ⟨T, _, rfl, SqT.of upd_same, rfl, _, _, rfl, _, _, rfl, rfl, hs i z σ H (y xs q) p T nT⟩
  · have e : i = xs.length := by omega
    subst e
    exact .inl ⟨⟨xs, q, rfl⟩, hd σ H p⟩
/-- [e for a, b in tuple of pairs if p] -/
theorem lc_pairsT {K : PySem.W.Frag} {a : Addr} {ts : List Addr} {cs : List (Int × Int)} {i1 i2 : Nat} {tt : TT} {te : TE} {vs : List Nat} {σ : L2.St} {H1 : Hp} {D : Addr} {Qd : Hp → Prop} (p : Int × Int → Bool) (R : V → Int × Int → Hp → Prop)
    (hR : ∀ y c H H' acc, H D = some (.lst acc) → Kp D H H' → R y c H → R y c H') (hD : H1 D = none) (hL : SqT K H1 a (ts.map V.ref)) (hP : P2 (PrT H1) ts cs) (hsz : cs.length ≤ 100000)
    (hw : ∀ x y, wipe (((wipe σ vs).set i1 x).set i2 y) vs = wipe σ vs)
    (ht : ∀ c ∈ cs, ∀ H Q, Same H1 H → (∀ H', Same H H' → Q (p c) H') → tt (((wipe σ vs).set i1 (some (.int c.1))).set i2 (some (.int c.2))) H Q)
    (he : ∀ c ∈ cs, p c = true → ∀ H Q, Same H1 H → (∀ y H', Same H H' → R y c H' → Q y H') → te (((wipe σ vs).set i1 (some (.int c.1))).set i2 (some (.int c.2))) H Q)
    (hd : ∀ ys H, Same H1 H → H D = some (.lst ys) → P2 (fun y c => R y c H) ys (cs.filter p) → Qd H) : LcG (Itt K a) (gTup K 2 (gCons (gName i1) (gCons (gName i2) gNil))) tt te vs σ H1 D Qd := by
  have hlen := hP.len
  refine lc_tup (K := K) (a := a) (xs := ts.map V.ref) (fun i H => Same H1 H ∧ ∃ ys, H D = some (.lst ys) ∧ P2 (fun y c => R y c H) ys ((cs.take i).filter p)) ⟨same_upd hD, [], upd_same, .nil⟩ (fun i H _ ⟨s, _⟩ => s.seqT hL) ?_ ?_
  · rintro i x H hx ⟨s, ys, hy, py⟩
    rw [List.getElem?_map] at hx
    cases ht' : ts[i]? with
    | none => rw [ht'] at hx; cases hx
    | some t =>
      rw [ht'] at hx
      cases hx
      obtain ⟨c, hc, r⟩ := hP.getl ht'
      have hi : i < cs.length := (List.getElem?_eq_some_iff.mp hc).1
      have ll : ys.length ≤ 100000 := by
        have h1 := py.len
        have h2 := List.length_filter_le p (cs.take i)
        rw [List.length_take] at h2
        omega
      refine ⟨t, _, rfl, SqT.of (s _ _ r), rfl, _, _, rfl, _, _, rfl, rfl, hw _ _, ht c (mem_of_at hc) H _ s fun H2 s2 => ?_⟩
      have py2 := py.mono fun v b rb => hR v b H H2 _ hy s2.kp rb
      have hy2 := s2 _ _ hy
      by_cases hp : p c = true
      · rw [if_pos hp]
        refine he c (mem_of_at hc) hp H2 _ (s.trans s2) fun y H' s' r => ⟨ys, s' _ _ hy2, small_app (Nat.le_refl _) ll, ((s.trans s2).trans s').wr hD, ys ++ [y], upd_same, ?_⟩
        rw [take_snoc hc, List.filter_append, List.filter_cons, if_pos hp, List.filter_nil]
        exact (py2.mono fun v b rb => hR v b H' _ _ (s' _ _ hy2) (kp_upd D H' _) (hR v b H2 H' _ hy2 s'.kp rb)).snoc (hR y c H' _ _ (s' _ _ hy2) (kp_upd D H' _) r)
      · rw [if_neg hp]
        refine ⟨s.trans s2, ys, hy2, ?_⟩
        rw [take_snoc hc, List.filter_append, List.filter_cons, if_neg hp, List.filter_nil, List.append_nil]
        exact py2
  · rintro H ⟨s, ys, hy, py⟩
    rw [List.length_map, hlen, List.take_length] at py
    exact hd ys H s hy py
/-- a class that is made by its name, one default: an empty tuple -/
structure Ini0 (K : PySem.W.Frag) (mg : Str → Option Value) (x qual : Str) (C : Addr) (st : Stmt) : Prop where
  ex : ∃ f fd d, Mk K C f ∧ mg x = some (.ref C) ∧ FunD K "__init__" qual (defArgs st) (defBody st) (defScope st) [.ref d] [] f fd ∧ ∀ H, SqT K H d []
def empB (a : PySem.W.Frag → Addr) (K : PySem.W.Frag) : Bool := match K.lookup (a K) with
  | some ⟨.type c, _, .seq its _, _⟩ => decide (c = "tuple") && its.toList.isEmpty
  | _ => false
theorem empB_ok {a : PySem.W.Frag → Addr} {K : PySem.W.Frag} (h : empB a K = true) : ∀ H, SqT K H (a K) [] := by
  intro H
  unfold empB at h
  split at h
  · rename_i c od its n osl e
    obtain ⟨h1, h2⟩ := He.ba h
    have e2 : its.toList = [] := List.isEmpty_iff.mp h2
    refine .inr ⟨_, its, n, e, by rw [of_decide_eq_true h1], rfl, ?_, by rw [e2]; exact .nil⟩
    have : its.size = 0 := by rw [← Array.length_toList, e2]; rfl
    rw [this]
    exact Nat.zero_le _
  · cases h
/-- a class made without an argument, a default kept -/
theorem pe_mkx0 {X : Cx} {k j : Nat} {C : Addr} {x : Str} {sp : Sp} {dvs : List V} {p pos : Pos} {E : XK} (c : Mak X.prog X.w X.K X.mg X.base k x C sp dvs) (hr : Room j X.A) (hk : k + 1 ≤ j) (hg : Gl X x) (hx : Passes (L2.CX X.prog X.w) X E)
    (hdb : (x == ("__debug__" : Str)) = false := by decide) : PE X (.Call (.Name x p) [] [] pos) (tMake C sp dvs E tNil) := by
  obtain ⟨f, fd, ps, ds, M, F, hm, b, d⟩ := c.ex
  exact pe_make0 M F (hr.mono hk) hg hm b d hx hdb
theorem pi_tupK {X : Cx} (K : PySem.W.Frag) {tg l : Expr} {tl : TE} (hl : PE X l tl) (hk : X.K = K := by rfl) : PI X tg l (iTup K tl) := by
  subst hk
  exact pi_tup hl
end Tr

/-! # Own operators with an int: o + n, n + o, -o. -/
namespace Tr
open PySem PySem.Spec PyProof.Rows L2
/-- what o + n leans on -/
structure IntOp (K : PySem.W.Frag) (C : Addr) (nm : String) : Prop where
  hc : PySem.W.selfFirst K C = true
  hr : ∃ rc, PySem.W.findIn K (.ref C) (dunderR nm) = some rc ∧ (rc = none ∨ ∃ g : Addr, rc = some (.ref g))
  h1 : ∃ fo, PySem.W.findIn K (.type "int") (PySem.dunder nm) = some fo
  h2 : ∃ ro, PySem.W.findIn K (.type "int") (dunderR nm) = some ro
  hs : PySem.W.subIn K (.type "int") (.ref C) = some false
  hs' : PySem.W.subIn K (.ref C) (.type "int") = some false
def intOpB (x : Str) (nm : String) (K : PySem.W.Frag) : Bool :=
  PySem.W.selfFirst K (He.ga K x) && ((match PySem.W.findIn K (.ref (He.ga K x)) (dunderR nm) with
    | some none => true
    | some (some (.ref _)) => true
    | _ => false) && ((PySem.W.findIn K (.type "int") (PySem.dunder nm)).isSome && ((PySem.W.findIn K (.type "int") (dunderR nm)).isSome &&
      (decide (PySem.W.subIn K (.type "int") (.ref (He.ga K x)) = some false) && decide (PySem.W.subIn K (.ref (He.ga K x)) (.type "int") = some false)))))
theorem intOpB_ok {x : Str} {nm : String} {K : PySem.W.Frag} (h : intOpB x nm K = true) : IntOp K (He.ga K x) nm := by
  obtain ⟨h1, h⟩ := He.ba h
  obtain ⟨h2, h⟩ := He.ba h
  obtain ⟨h3, h⟩ := He.ba h
  obtain ⟨h4, h⟩ := He.ba h
  obtain ⟨h5, h6⟩ := He.ba h
  refine ⟨h1, ?_, Option.isSome_iff_exists.mp h3, Option.isSome_iff_exists.mp h4, of_decide_eq_true h5, of_decide_eq_true h6⟩
  split at h2
  · rename_i e
    exact ⟨none, e, .inl rfl⟩
  · rename_i g e
    exact ⟨_, e, .inr ⟨g, rfl⟩⟩
  · cases h2
section
variable {prog : Program} {w : World} {A : Around} {E : Value → Shared → Prop} {s : Shared} {K : PySem.W.Frag} {x C L f f0 : Addr} {h₀ : Heap} {m : Str → Option Value} {ox : Obj} {od : Option Obj}
theorem int_add_no (a : Int) (t : Tok) (x C dx : Addr) : Meets (Builtin.«int.__add__» ⟨[.int a t, .ref x], []⟩) (fun _ R s => s.heap.get? x = some (PySem.W.instObj C dx) ∧ R (.ok (.ret Value.notImplemented)) s) := .of_wp fun prog w A R s h => by
  obtain ⟨hp, g, d, tk, os⟩ := s
  obtain ⟨hl, h⟩ := h
  unfold PySem.W.instObj at hl
  wp_walk
  exact ⟨_, rfl, h⟩
theorem int_mul_no (a : Int) (t : Tok) (x C dx : Addr) : Meets (Builtin.«int.__mul__» ⟨[.int a t, .ref x], []⟩) (fun _ R s => s.heap.get? x = some (PySem.W.instObj C dx) ∧ R (.ok (.ret Value.notImplemented)) s) := .of_wp fun prog w A R s h => by
  obtain ⟨hp, g, d, tk, os⟩ := s
  obtain ⟨hl, h⟩ := h
  unfold PySem.W.instObj at hl
  wp_walk
  exact ⟨_, rfl, h⟩
/-- int op o, by the class's reflected method -/
theorem binop_R {op : Operator} {a : Int} {t : Tok} {id : String} {Q : Value → Shared → Prop} (F : Fr h₀ L s.heap m) (X₀ : K.In h₀) (I : PySem.W.InstAt s.heap x ox C od) (i : IntOp K C op.info.2)
    (hs : PySem.W.findIn K (.ref C) (PySem.dunder op.info.2) = some (some (.ref f0))) (hr : PySem.W.findIn K (.ref C) (dunderR op.info.2) = some (some (.ref f))) (hf : PySem.W.isFn K (.ref f) = true)
    (hfT : fillsNumberSlot (.type "int") op.info.2 = pure true) (sl : Slot "int" (PySem.dunder op.info.2) id) (hd : ∀ E', wpAny (model prog w) A (call (.builtin id) [.int a t, .ref x]) (fun v s' => v = .notImplemented ∧ s' = s) E' s)
    (h : wpAny (model prog w) A (call (.ref f) [.ref x, .int a t]) (PySem.W.CmpBack Q) E s) : wpAny (model prog w) A (binaryOp op (.int a t) (.ref x)) Q E s := by
  have X := X₀.keeps F.keep
  obtain ⟨cd, rest, hcd, hm⟩ := PySem.W.ksp_first i.hc
  have one := PySem.W.ksp_try X I hr hf h
  have two : wpAny (model prog w) A (tryMethod (.int a t) (PySem.dunder op.info.2) (.ref x)) (fun r s' => r = none ∧ s' = s) E s :=
    wpAny_tryMethod_declines (T := "int") rfl sl (wpAny_mono (hd E) (fun v s' q => ⟨q.1, rfl, q.2⟩) fun _ _ z => z)
  rcases hi : op.info with ⟨sym, nm'⟩
  have i' := i
  rw [hi] at hs hr hfT sl one two i'
  dsimp only at hs hr hfT sl one two i'
  have L1 : PySem.W.Looks (model prog w) s.heap (typeOf (.ref x)) (.ref C) := I.type
  have L3 : PySem.W.Looks (model prog w) s.heap (fillsNumberSlot (.ref C) nm') true := PySem.W.fills_K X hcd hm hs
  have L5 : PySem.W.Looks (model prog w) s.heap (isSubtype (.ref C) (.type "int")) false := PySem.W.looks_subIn X i'.hs'
  have hne : (Value.type "int" == Value.ref C) = false := Bool.eq_false_iff.mpr fun q => by cases beq_iff_eq.mp q
  simp only [binaryOp, hi]
  refine wpAny_holding (wpAny_bind ?_)
  unfold binaryOp1
  refine wpAny_bind (wpAny_of_eq (a := Value.type "int") rfl (wpAny_bind (L1.here (wpAny_bind (wpAny_of_eq hfT ?_)))))
  simp only [hne, Bool.false_eq_true, if_false]
  refine wpAny_bind (L3.here ?_)
  simp only [Bool.and_self, if_true]
  refine wpAny_bind (L5.here ?_)
  simp only [Bool.false_eq_true, if_false, Bool.not_false, Bool.and_self, if_true]
  refine wpAny_bind (wpAny_of_eq (a := false) rfl ?_)
  simp only [Bool.false_eq_true, if_false, Bool.not_false, Bool.and_self, if_true]
  refine wpAny_bind (wpAny_mono two (fun r s' q => ?_) fun _ _ z => z)
  obtain ⟨rfl, rfl⟩ := q
  refine wpAny_bind (wpAny_mono one (fun r s' q => ?_) fun _ _ z => z)
  obtain ⟨v, rfl, q⟩ := q
  exact wpAny_bind (wpAny_rule (wpAny_pure (wpAny_pure q)))
end
section
variable {X : Cx} {k : Nat} {C : Addr} {m : Str} {sp : Sp} {E : XK}
/-- o op n -/
def rBinI (C : Addr) (sp : Sp) (E : XK) : R2 := fun x y H Q => ∃ a dx fs i, x = .ref a ∧ y = .int i ∧ H a = some (.ins C dx fs) ∧ sp [x, y] H (fun v H' => ∃ z, v = .ref z ∧ Q (.ref z) H') E
/-- n op o -/
def rBinR (C : Addr) (sp : Sp) (E : XK) : R2 := fun x y H Q => ∃ a dx fs i, x = .int i ∧ y = .ref a ∧ H a = some (.ins C dx fs) ∧ sp [y, x] H (fun v H' => ∃ z, v = .ref z ∧ Q (.ref z) H') E
theorem or_binI {op : Operator} (c : Met X.prog X.w X.K X.mg X.base k C m sp []) (hm : PySem.dunder op.info.2 = m) (i : IntOp X.K C op.info.2) {j : Nat} (hr : Room j X.A) (hk : k ≤ j) (hx : Passes (L2.CX X.prog X.w) X E) : OpR X (binaryOp op) (rBinI C sp E) := by
  subst hm
  obtain ⟨f, fd, ps, ds, hc, hm, F, b, d⟩ := c.ex
  cases d
  intro pins s σ H x y v u Q I rx ry h
  obtain ⟨a, dx, fs, n, rfl, rfl, ha, h⟩ := h
  cases rx
  obtain ⟨tk, rfl⟩ := ry
  obtain ⟨mA, J, _⟩ := ins_get I.hok ha
  obtain ⟨od, J, _⟩ := J.look
  obtain ⟨m, hF⟩ := I.fr
  obtain ⟨rc, hr1, hr2⟩ := i.hr
  obtain ⟨fo, h1⟩ := i.h1
  obtain ⟨ro, h2⟩ := i.h2
  refine PySem.W.ksp_binT (T := "int") hF I.ok.mod.kin J rfl i.hc hm.at_ hm.fn hr1 hr2 h1 h2 i.hs ?_
  refine wpAny_mono (run_at F (hr.mono hk) rfl b hx I (us := [.ref a, .int n tk]) (vs := [.ref a, .int n]) (.cons rfl (.cons ⟨_, rfl⟩ .nil)) h) (fun r s' q => ?_) fun _ _ z => z
  obtain ⟨z, H', I', rz, b', rfl, q⟩ := q
  cases rz
  exact ⟨.ref b', H', I', rfl, q⟩
/-- the left int's own method says no -/
structure IntNo (op : Operator) : Prop where
  fills : fillsNumberSlot (.type "int") op.info.2 = pure true
  ex : ∃ id b, Slot "int" (PySem.dunder op.info.2) id ∧ entryFor table id = some b ∧ (∀ x y, argsOk id ⟨[x, y], []⟩) ∧ ∀ (a : Int) (t : Tok) (x C dx : Addr), Meets (b ⟨[.int a t, .ref x], []⟩) (fun _ R s => s.heap.get? x = some (PySem.W.instObj C dx) ∧ R (.ok (.ret Value.notImplemented)) s)
theorem intNo_add : IntNo .Add := ⟨F.fills_int_add, _, _, F.slot_int_add, F.entry_int_add, F.args_int_add_2, int_add_no⟩
theorem intNo_mul : IntNo .Mult := ⟨F.fills_int_mul, _, _, F.slot_int_mul, F.entry_int_mul, F.args_int_mul_2, int_mul_no⟩
theorem or_binR {op : Operator} {m0 : Str} {sp0 : Sp} {k0 : Nat} (c : Met X.prog X.w X.K X.mg X.base k C m sp []) (c0 : Met X.prog X.w X.K X.mg X.base k0 C m0 sp0 []) (hm : dunderR op.info.2 = m) (hm0 : PySem.dunder op.info.2 = m0) (i : IntOp X.K C op.info.2) (no : IntNo op) {j : Nat} (hr : Room j X.A) (hk : k ≤ j) (hx : Passes (L2.CX X.prog X.w) X E) : OpR X (binaryOp op) (rBinR C sp E) := by
  subst hm hm0
  obtain ⟨f0, _, _, _, _, hm0, _, _, _⟩ := c0.ex
  obtain ⟨f, fd, ps, ds, hc, hm, F, b, d⟩ := c.ex
  cases d
  intro pins s σ H x y v u Q I rx ry h
  obtain ⟨a, dx, fs, n, rfl, rfl, ha, h⟩ := h
  obtain ⟨tk, rfl⟩ := rx
  cases ry
  obtain ⟨mA, J0, _⟩ := ins_get I.hok ha
  obtain ⟨od, J, _⟩ := J0.look
  obtain ⟨m, hF⟩ := I.fr
  obtain ⟨fills, id, bb, sl, en, ar, me⟩ := no
  refine binop_R hF I.ok.mod.kin J i hm0.at_ hm.at_ hm.fn fills sl (fun E' => ?_) ?_
  · exact call_meets sl (show s.TypeIs (.int n tk) "int" from rfl) en (ar _ _) (me n tk a C dx) ⟨J0.obj, rfl, rfl⟩
  · refine wpAny_mono (run_at F (hr.mono hk) rfl b hx I (us := [.ref a, .int n tk]) (vs := [.ref a, .int n]) (.cons rfl (.cons ⟨_, rfl⟩ .nil)) h) (fun r s' q => ?_) fun _ _ z => z
    obtain ⟨z, H', I', rz, b', rfl, q⟩ := q
    cases rz
    exact ⟨.ref b', H', I', rfl, q⟩
/-- -o -/
def rNegO (C : Addr) (sp : Sp) (E : XK) (x : V) (H : Hp) (Q : VK) : Prop := ∃ a dx fs, x = .ref a ∧ H a = some (.ins C dx fs) ∧ sp [x] H Q E
theorem pe_unO {u : UnaryOp} {j : Nat} {e : Expr} {ta : TE} {pos : Pos} (c : Met X.prog X.w X.K X.mg X.base k C m sp []) (hu : (u = .USub ∧ m = "__neg__") ∨ (u = .Invert ∧ m = "__invert__")) (hr : Room j X.A) (hk : k ≤ j) (hx : Passes (L2.CX X.prog X.w) X E) (ha : PE X e ta) :
    PE X (.UnaryOp u e pos) (fun σ H Q => ta σ H fun x H1 => rNegO C sp E x H1 Q) := by
  obtain ⟨f, fd, ps, ds, hc, hm, F, b, d⟩ := c.ex
  cases d
  refine ⟨fun pins s σ H Q I h => ?_⟩
  refine UnaryOp_ (thn (ha.run pins s σ H _ I h) fun v s1 ⟨x, H1, I1, r1, a, dx, fs, ex, ea, q1⟩ => ?_)
  subst ex
  cases r1
  obtain ⟨mA, J, _⟩ := ins_get I1.hok ea
  obtain ⟨od, J, _⟩ := J.look
  obtain ⟨m, hF⟩ := I1.fr
  have go := run_at (A := X.A) F (hr.mono hk) rfl b hx I1 (us := [.ref a]) (vs := [.ref a]) (.cons rfl .nil) q1
  rcases hu with ⟨rfl, rfl⟩ | ⟨rfl, rfl⟩
  · exact PySem.W.ksp_neg hF I1.ok.mod.kin J hm.at_ hm.fn go
  · exact PySem.W.ksp_inv hF I1.ok.mod.kin J hm.at_ hm.fn go
end
end Tr

/-! # min, max of a list of ints with a default. -/
namespace Tr
open PySem PySem.Spec PyProof.Rows L2 PySem.W
def rMinD (K : PySem.W.Frag) : List V → List V → Hp → VK → Prop := fun vs zs H Q => ∃ (a : Addr) (ns : List Int) (d : V), vs = [V.ref a] ∧ zs = [d] ∧ SqL K H a (ns.map V.int) ∧ (ns = [] → Q d H) ∧ ∀ m, m ∈ ns → (∀ y, y ∈ ns → m ≤ y) → Q (.int m) H
def rMaxD (K : PySem.W.Frag) : List V → List V → Hp → VK → Prop := fun vs zs H Q => ∃ (a : Addr) (ns : List Int) (d : V), vs = [V.ref a] ∧ zs = [d] ∧ SqL K H a (ns.map V.int) ∧ (ns = [] → Q d H) ∧ ∀ m, m ∈ ns → (∀ y, y ∈ ns → y ≤ m) → Q (.int m) H
theorem reads_ints {h : Heap} {ns : List Int} {its : List Value} (r : Vals (ns.map V.int) its) : ReadsAll h its (ns.map PyData.int) [] := by
  induction ns generalizing its with
  | nil =>
    cases r
    exact .nil
  | cons n ns ih =>
    cases r with
    | cons r rr =>
      obtain ⟨t, rfl⟩ := r
      exact .cons (as := []) (.int n t) (ih rr)
theorem alike_ints (ns : List Int) : AlikeAll (ns.map PyData.int) := by
  refine ⟨fun x hx y hy => ?_, fun x hx => ?_⟩
  · obtain ⟨a, _, rfl⟩ := List.mem_map.mp hx
    obtain ⟨b, _, rfl⟩ := List.mem_map.mp hy
    rfl
  · obtain ⟨a, _, rfl⟩ := List.mem_map.mp hx
    intro z
    cases z
theorem depth_ints0 : ∀ ns : List Int, PyData.depthAll (ns.map PyData.int) ≤ 0
  | [] => Nat.zero_le _
  | c :: cs => by
    have h := depth_ints0 cs
    show max 0 (PyData.depthAll (cs.map PyData.int)) ≤ 0
    omega
theorem fold_min (n : Int) : ∀ ns : List Int, (ns.foldl min n) ∈ n :: ns ∧ ∀ y ∈ n :: ns, ns.foldl min n ≤ y := by
  intro ns
  induction ns generalizing n with
  | nil => exact ⟨List.mem_cons_self, fun y hy => by rw [List.mem_singleton.mp hy]; exact Int.le_refl _⟩
  | cons k r ih =>
    obtain ⟨h1, h2⟩ := ih (min n k)
    rw [List.foldl_cons]
    have h3 := h2 _ List.mem_cons_self
    refine ⟨?_, fun y hy => ?_⟩
    · rcases List.mem_cons.mp h1 with e | h
      · rw [e]
        rcases Int.le_total n k with z | z
        · rw [Int.min_eq_left z]; exact List.mem_cons_self
        · rw [Int.min_eq_right z]; exact List.mem_cons_of_mem _ List.mem_cons_self
      · exact List.mem_cons_of_mem _ (List.mem_cons_of_mem _ h)
    · rcases List.mem_cons.mp hy with rfl | hy
      · omega
      · rcases List.mem_cons.mp hy with rfl | hy
        · omega
        · exact h2 y (List.mem_cons_of_mem _ hy)
theorem fold_max (n : Int) : ∀ ns : List Int, (ns.foldl max n) ∈ n :: ns ∧ ∀ y ∈ n :: ns, y ≤ ns.foldl max n := by
  intro ns
  induction ns generalizing n with
  | nil => exact ⟨List.mem_cons_self, fun y hy => by rw [List.mem_singleton.mp hy]; exact Int.le_refl _⟩
  | cons k r ih =>
    obtain ⟨h1, h2⟩ := ih (max n k)
    rw [List.foldl_cons]
    have h3 := h2 _ List.mem_cons_self
    refine ⟨?_, fun y hy => ?_⟩
    · rcases List.mem_cons.mp h1 with e | h
      · rw [e]
        rcases Int.le_total n k with z | z
        · rw [Int.max_eq_right z]; exact List.mem_cons_of_mem _ List.mem_cons_self
        · rw [Int.max_eq_left z]; exact List.mem_cons_self
      · exact List.mem_cons_of_mem _ (List.mem_cons_of_mem _ h)
    · rcases List.mem_cons.mp hy with rfl | hy
      · omega
      · rcases List.mem_cons.mp hy with rfl | hy
        · omega
        · exact h2 y (List.mem_cons_of_mem _ hy)
theorem cr_minD {X : Cx} (hc : X.calm = true) (hu : X.A.units + 64 < cLine) : CallRK X (.builtin "min") ["default"] (rMinD X.K) := by
  intro pins s σ H xs zs us ws Q I r rz h
  obtain ⟨a, ns, d, rfl, rfl, hs, q0, q⟩ := h
  obtain ⟨its, rv, hl, _⟩ := I.list hs
  rw [Vals.ref1 r]
  cases rz with
  | cons rd rr =>
    cases rr
    refine min_list_default (I.ok.hd hc) hl.isList (by simpa using reads_ints rv) (alike_ints ns) ?_ (fun e h' tk hk => ?_) fun y ys i v h' tk bs e hv hr hk => ?_
    · have := depth_ints0 ns
      omega
    · exact ⟨d, H, I.kept hk, rd, q0 (by cases ns with | nil => rfl | cons _ _ => cases e)⟩
    · cases ns with
      | nil => cases e
      | cons n ns =>
        rw [List.map_cons] at e
        injection e with e1 e2
        subst e1 e2
        rw [minD_ints] at hr
        cases hr
        obtain ⟨m1, m2⟩ := fold_min n ns
        exact ⟨.int _, H, I.kept hk, ⟨_, rfl⟩, q _ m1 m2⟩
theorem cr_maxD {X : Cx} (hc : X.calm = true) (hu : X.A.units + 64 < cLine) : CallRK X (.builtin "max") ["default"] (rMaxD X.K) := by
  intro pins s σ H xs zs us ws Q I r rz h
  obtain ⟨a, ns, d, rfl, rfl, hs, q0, q⟩ := h
  obtain ⟨its, rv, hl, _⟩ := I.list hs
  rw [Vals.ref1 r]
  cases rz with
  | cons rd rr =>
    cases rr
    refine max_list_default (I.ok.hd hc) hl.isList (by simpa using reads_ints rv) (alike_ints ns) ?_ (fun e h' tk hk => ?_) fun y ys i v h' tk bs e hv hr hk => ?_
    · have := depth_ints0 ns
      omega
    · exact ⟨d, H, I.kept hk, rd, q0 (by cases ns with | nil => rfl | cons _ _ => cases e)⟩
    · cases ns with
      | nil => cases e
      | cons n ns =>
        rw [List.map_cons] at e
        injection e with e1 e2
        subst e1 e2
        rw [maxD_ints] at hr
        cases hr
        obtain ⟨m1, m2⟩ := fold_max n ns
        exact ⟨.int _, H, I.kept hk, ⟨_, rfl⟩, q _ m1 m2⟩
end Tr

/-! # Constants of the module and of classes; comprehensions over any walk. -/
namespace Tr
open PySem PySem.Spec PyProof.Rows L2
/-- the module's name x holds the constant v -/
def GCon (mg : Str → Option Value) (x : Str) (v : V) : Prop := ∃ u, mg x = some u ∧ RelV v u
theorem gconS {mg : Str → Option Value} {x z : Str} (h : ∃ t, mg x = some (.str z t)) : GCon mg x (.str z) :=
  let ⟨t, e⟩ := h
  ⟨_, e, ⟨t, rfl⟩⟩
theorem gconI {mg : Str → Option Value} {x : Str} {i : Int} (h : ∃ t, mg x = some (.int i t)) : GCon mg x (.int i) :=
  let ⟨t, e⟩ := h
  ⟨_, e, ⟨t, rfl⟩⟩
theorem pe_gcon {X : Cx} {x : Str} {v : V} {pos : Pos} (h : GCon X.mg x v) (hg : Gl X x) (hd : (x == ("__debug__" : Str)) = false := by decide) : PE X (.Name x pos) (tC v) := by
  obtain ⟨u, hm, r⟩ := h
  exact pe_glob hg hm r hd
/-- C.f is the constant v -/
def CCon (K : PySem.W.Frag) (C : Addr) (f : Str) (v : V) : Prop := ∃ u, ClX.CRead K C (.type "type") ∧ ClX.CVal K C (.type "type") f v u
/-- e.f, e the class at C -/
def tCCon (C : Addr) (v : V) (ta : TE) : TE := fun σ H Q => ta σ H fun x H1 => x = .ref C ∧ Q v H1
theorem pe_ccon {X : Cx} {C : Addr} {e : Expr} {ta : TE} {f : Str} {v : V} {pos : Pos} (h : CCon X.K C f v) (he : PE X e ta) (hb : attributeBase e f X.env (eval e X.env) = eval e X.env := by rfl) : PE X (.Attribute e f pos) (tCCon C v ta) := by
  obtain ⟨w, r, k⟩ := h
  refine ⟨fun pins s σ H Q I h => ?_⟩
  refine attr_of hb (thn (he.run pins s σ H _ I h) fun u s1 ⟨x, H1, I1, rx, ex, q⟩ => ?_)
  subst ex
  obtain rfl : u = Value.ref C := rx
  exact ClX.getcval_ok I1 r k fun s2 I2 => ⟨v, H1, I2, k.rel, q⟩
theorem funD0 {K : PySem.W.Frag} {x qual : Str} {st : Stmt} {f : Addr} {fd : FuncData} (F : FunD K x qual (defArgs st) (defBody st) (defScope st) [] [] f fd) : Fun K x qual st f fd := by
  obtain ⟨oc, od, dV, kV, doc, pm, an, cdv, ct, osl, e, lk, hcd, hD, _⟩ := F.ex
  rcases hD with ⟨_, rfl⟩ | ⟨e, _⟩
  · exact ⟨⟨oc, od, kV, doc, pm, an, cdv, ct, osl, e, lk, hcd⟩, F.kp⟩
  · exact absurd rfl e
/-- a class method -/
structure Cmt (K : PySem.W.Frag) (C : Addr) (m qual : Str) (st : Stmt) : Prop where
  ex : ∃ p g fd, (ClX.CRead K C (.type "type") ∧ ClX.CMet K C (.type "type") m p g) ∧ Fun K m qual st g fd
/-- a class method that may be called -/
structure Cme (P : Program) (w : World) (K : PySem.W.Frag) (mg : Str → Option Value) (base : Heap) (k : Nat) (C : Addr) (m : Str) (sp : Sp) : Prop where
  ex : ∃ (p g : Addr), ClX.CRead K C (.type "type") ∧ ClX.CMet K C (.type "type") m p g ∧ FnR P w K mg base (L2.CX P w) k g sp
section
variable {P : Program} {w : World} {K : PySem.W.Frag} {mg : Str → Option Value} {base : Heap}
theorem cmeN {m qual : Str} {C : Addr} {st : Stmt} {N ps : List Str} {k : Nat} {sp : Sp} (D : Cmt K C m qual st) (S : FnScope N ps (defScope st)) (len : ∀ vs H Q E, sp vs H Q E → vs.length = ps.length)
    (hb : ∀ (kV doc pm : Value) (an : Option Addr) (cdv ct : Value) (us : List Value), us.length = ps.length → bindArgs (PySem.W.fnOf m qual (defArgs st) (defBody st) (defScope st) .none kV doc pm an cdv ct) ⟨us, []⟩ = pure (ps.zip us))
    (hbody : ∀ (f : Addr) (cdv : Value) (A : Around) (outer : List Env) (s : Shared) (H : Hp) (vs : List V) (Q : VK) (E : XK), Room k (A.deeper (envOfC qual (defScope st) s.heap.objs.size f cdv)) → sp vs H Q E →
      ∃ t, PSs (cxOf (L2.CX P w) P w K mg base N qual (defScope st) f cdv A outer s H E).nox (defBody st) t ∧ t { nx := fun _ H' => Q .non H', rt := Q } (start N vs) H) : Cme P w K mg base (k + 1) C m sp :=
  let ⟨p, g, fd, ⟨r, c⟩, F⟩ := D.ex
  ⟨p, g, r, c, ((okN F S len (hbody g)).raw (F.binds hb) .nil).imp fun vs H Q E h => by rw [List.append_nil]; exact h⟩
theorem cmeX {m qual : Str} {C : Addr} {st : Stmt} {N ps : List Str} {k : Nat} {sp : Sp} (D : Cmt K C m qual st) (S : FnScope N ps (defScope st)) (len : ∀ vs H Q E, sp vs H Q E → vs.length = ps.length)
    (hb : ∀ (kV doc pm : Value) (an : Option Addr) (cdv ct : Value) (us : List Value), us.length = ps.length → bindArgs (PySem.W.fnOf m qual (defArgs st) (defBody st) (defScope st) .none kV doc pm an cdv ct) ⟨us, []⟩ = pure (ps.zip us))
    (hbody : ∀ (f : Addr) (cdv : Value) (A : Around) (outer : List Env) (s : Shared) (H : Hp) (vs : List V) (Q : VK) (E : XK), Room k (A.deeper (envOfC qual (defScope st) s.heap.objs.size f cdv)) → sp vs H Q E →
      ∃ t, PSs (cxOf (L2.CX P w) P w K mg base N qual (defScope st) f cdv A outer s H E) (defBody st) t ∧ t { nx := fun _ H' => Q .non H', rt := Q } (start N vs) H) : Cme P w K mg base (k + 1) C m sp :=
  let ⟨p, g, fd, ⟨r, c⟩, F⟩ := D.ex
  ⟨p, g, r, c, ((F.okX S len (hbody g)).raw (F.binds hb) .nil).imp fun vs H Q E h => by rw [List.append_nil]; exact h⟩
end
/-- C.m(e, ..), m a class method -/
theorem pe_cme {X : Cx} {k j : Nat} {C : Addr} {m : Str} {sp : Sp} {pos apos : Pos} {e o : Expr} {es : List Expr} {ta : TE} {t : TA} {E : XK} {pl : Sem Bool} (c : Cme X.prog X.w X.K X.mg X.base k C m sp) (hr : Room j X.A) (hk : k ≤ j) (hx : Passes (L2.CX X.prog X.w) X E) (he : PE X o ta) (ha : PA X (e :: es) t)
    (hst : starEach (e :: es) X.env = (false, eval e X.env) :: starEach es X.env := by rfl) (hpl : (backTo pos (starEach es X.env)).any (·.1) = false := by rfl)
    (ht : eval (.Call (.Attribute o m apos) (e :: es) [] pos) X.env = (do
      let ov ← eval o X.env
      standAt apos.atName
      let (f, first) ← holding [ov] (getMethod ov m pl)
      callWith pos f first (backTo pos (starEach (e :: es) X.env)) (backToKw pos (keywordEach [] X.env))) := by rfl) :
    PE X (.Call (.Attribute o m apos) (e :: es) [] pos) (ClX.tCMeth C sp E ta t) := by
  obtain ⟨p, g, r, cm, F⟩ := c.ex
  exact ClX.pe_cmeth (pl := pl) he r cm F (hr.mono hk) hx ha hst hpl ht
/-- any comprehension over a walk of items of cs -/
theorem lc_gen {α : Type} {J : It} {G : Hp → Prop} {Y : Nat → Hp → V → Hp → Prop} {cs : List α} {g : TG} {tt : TT} {te : TE} {vs : List Nat} {σ : L2.St} {H1 : Hp} {D : Addr} {Qd : Hp → Prop} (w : Walk J cs.length G Y) (S : α → L2.St) (p : α → Bool) (R : V → α → Hp → Prop)
    (hR : ∀ y c H H' acc, H D = some (.lst acc) → Kp D H H' → R y c H → R y c H') (hD : H1 D = none) (hsz : cs.length ≤ 100000)
    (hG : ∀ H, Same H1 H → G H)
    (hY : ∀ i H x H' c, cs[i]? = some c → Same H1 H → Y i H x H' → Same H H' ∧ ∀ Q : L2.St → Hp → Prop, Q (S c) H' → g x (wipe σ vs) H' Q)
    (hw : ∀ c ∈ cs, wipe (S c) vs = wipe σ vs)
    (ht : ∀ c ∈ cs, ∀ H Q, Same H1 H → (∀ H', Same H H' → Q (p c) H') → tt (S c) H Q)
    (he : ∀ c ∈ cs, p c = true → ∀ H Q, Same H1 H → (∀ y H', Same H H' → R y c H' → Q y H') → te (S c) H Q)
    (hd : ∀ ys H, Same H1 H → H D = some (.lst ys) → P2 (fun y c => R y c H) ys (cs.filter p) → Qd H) : LcG J g tt te vs σ H1 D Qd := by
  refine lc_it w (fun i H => Same H1 H ∧ ∃ ys, H D = some (.lst ys) ∧ P2 (fun y c => R y c H) ys ((cs.take i).filter p)) ⟨same_upd hD, [], upd_same, .nil⟩ (fun i H _ ⟨s, _⟩ => hG H s) ?_ ?_
  · rintro i x H H0 hi ⟨s, ys, hy, py⟩ hyl
    have hc : cs[i]? = some cs[i] := List.getElem?_eq_getElem hi
    generalize cs[i] = c at hc
    obtain ⟨s0, hg⟩ := hY i H x H0 c hc s hyl
    have ll : ys.length ≤ 100000 := by
      have h1 := py.len
      have h2 := List.length_filter_le p (cs.take i)
      rw [List.length_take] at h2
      omega
    refine hg _ ⟨hw c (mem_of_at hc), ht c (mem_of_at hc) H0 _ (s.trans s0) fun H2 s2' => ?_⟩
    have s2 := s0.trans s2'
    have py2 := py.mono fun v b rb => hR v b H H2 _ hy s2.kp rb
    have hy2 := s2 _ _ hy
    by_cases hp : p c = true
    · rw [if_pos hp]
      refine he c (mem_of_at hc) hp H2 _ (s.trans s2) fun y H' s' r => ⟨ys, s' _ _ hy2, small_app (Nat.le_refl _) ll, ((s.trans s2).trans s').wr hD, ys ++ [y], upd_same, ?_⟩
      rw [take_snoc hc, List.filter_append, List.filter_cons, if_pos hp, List.filter_nil]
      exact (py2.mono fun v b rb => hR v b H' _ _ (s' _ _ hy2) (kp_upd D H' _) (hR v b H2 H' _ hy2 s'.kp rb)).snoc (hR y c H' _ _ (s' _ _ hy2) (kp_upd D H' _) r)
    · rw [if_neg hp]
      refine ⟨s.trans s2, ys, hy2, ?_⟩
      rw [take_snoc hc, List.filter_append, List.filter_cons, if_neg hp, List.filter_nil, List.append_nil]
      exact py2
  · rintro H ⟨s, ys, hy, py⟩
    rw [List.take_length] at py
    exact hd ys H s hy py
/-- a text's signs, as a walk of items -/
theorem walk_txt {z : Str} : Walk (Its z) (TL.tl z).length (fun _ => True) (fun i H v H' => H' = H ∧ ∃ c, (TL.tl z)[i]? = some c ∧ v = .str ⟨#[c]⟩) := by
  have e : (TL.tl z).length = z.cps.size := Array.length_toList
  rw [e]
  refine walk_str.mono (fun _ h => h) fun i H x H' hi _ y => ⟨y.1, ?_⟩
  obtain ⟨c, h1, h2⟩ := y.2
  exact ⟨c, by show z.cps.toList[i]? = _; rw [Array.getElem?_toList]; exact h1, h2⟩
/-! ### facts of the head -/
def creadB (x : Str) (K : PySem.W.Frag) : Bool := PySem.W.readsIn K (He.ga K x) (.type "type") && He.eqO (PySem.W.specialIn K (.ref (He.ga K x)) "__getattribute__") (some (some (.builtin "type.__getattribute__")))
theorem creadB_ok {x : Str} {K : PySem.W.Frag} (h : creadB x K = true) : ClX.CRead K (He.ga K x) (.type "type") := by
  obtain ⟨h1, h2⟩ := He.ba h
  exact ⟨h1, He.eqO_ok h2⟩
def cvalB (r : Option PySem.W.CFound) (v : V) : Bool := match r with
  | some (.val u) => He.relB v u
  | _ => false
def cconB (x f : Str) (v : V) (K : PySem.W.Frag) : Bool := creadB x K && cvalB (PySem.W.findCls K (.ref (He.ga K x)) (.type "type") f) v
theorem cconB_ok {x f : Str} {v : V} {K : PySem.W.Frag} (h : cconB x f v K = true) : CCon K (He.ga K x) f v := by
  obtain ⟨h1, h2⟩ := He.ba h
  unfold cvalB at h2
  split at h2
  · rename_i u e
    exact ⟨u, creadB_ok h1, e, He.relB_ok h2⟩
  · cases h2
def cmfB (r : Option PySem.W.CFound) (p C : Addr) : Bool := match r with
  | some (.get (.builtin b) (.ref q) .none (.ref D)) => decide (b = "classmethod.__get__") && (decide (q = p) && decide (D = C))
  | _ => false
def gofC (K : PySem.W.Frag) (p : Addr) : Addr := match PySem.W.recIn K p "classmethod" with
  | some (.ref g :: _) => g
  | _ => 0
def cmB (x m : Str) (K : PySem.W.Frag) : Bool := creadB x K && (cmfB (PySem.W.findCls K (.ref (He.ga K x)) (.type "type") m) (He.ma K (He.ga K x) m) (He.ga K x) && ((match PySem.W.recIn K (He.ma K (He.ga K x) m) "classmethod" with
    | some (.ref _ :: _) => true
    | _ => false) && PySem.W.fnIn K (gofC K (He.ma K (He.ga K x) m))))
theorem cmB_ok {x m : Str} {K : PySem.W.Frag} (h : cmB x m K = true) : ClX.CRead K (He.ga K x) (.type "type") ∧ ClX.CMet K (He.ga K x) (.type "type") m (He.ma K (He.ga K x) m) (gofC K (He.ma K (He.ga K x) m)) := by
  obtain ⟨h1, h⟩ := He.ba h
  obtain ⟨h2, h⟩ := He.ba h
  obtain ⟨h3, h4⟩ := He.ba h
  refine ⟨creadB_ok h1, ?_, ?_, h4⟩
  · unfold cmfB at h2
    split at h2
    · rename_i b q D e
      obtain ⟨k1, k⟩ := He.ba h2
      obtain ⟨k2, k3⟩ := He.ba k
      rw [e, of_decide_eq_true k1, of_decide_eq_true k2, of_decide_eq_true k3]
    · cases h2
  · unfold gofC
    split at h3
    · rename_i g r e
      rw [e]
      exact ⟨r, rfl⟩
    · cases h3
end Tr

/-! # Slices with a step, of lists and tuples; parts that may be None. -/
namespace Tr
open PySem PySem.Spec PyProof.Rows L2 HT
theorem same_made {H : Hp} {x dx : Addr} {o o2 : HO} (nx : H x = none) (ndx : H dx = none) : Same H (upd (upd H dx o2) x o) := fun b u e => by
  rw [upd_ne (ne_of_none e nx), upd_ne (ne_of_none e ndx)]
  exact e
theorem mk_same {H H' : Hp} {x dx : Addr} {o o2 : HO} (k : ∀ b u, upd (upd H dx o2) x o b = some u → b ≠ x → H' b = some u) (nx : H x = none) (ndx : H dx = none) : Same H H' := fun b u e => k b u (same_made nx ndx _ _ e) (ne_of_none e nx)
/-- first place, step, number of places -/
def slB (lo hi st : Option Int) (n : Nat) : Int × Int × Nat := ((Builtin.Slice.sliceAdjust lo hi (st.getD 1) (n : Int)).1, st.getD 1, Builtin.Slice.slicePlaces (Builtin.Slice.sliceAdjust lo hi (st.getD 1) (n : Int)).1 (Builtin.Slice.sliceAdjust lo hi (st.getD 1) (n : Int)).2 (st.getD 1))
def slP {α : Type} (xs : List α) (b : Int × Int × Nat) : List α := (List.range b.2.2).filterMap fun (m : Nat) => xs[(b.1 + (m : Int) * b.2.1).toNat]?
/-- xs[lo:hi:st] -/
def slV {α : Type} (xs : List α) (lo hi st : Option Int) : List α := slP xs (slB lo hi st xs.length)
theorem slV_map {α β : Type} (f : α → β) (xs : List α) (lo hi st : Option Int) : slV (xs.map f) lo hi st = (slV xs lo hi st).map f := by
  unfold slV slP
  rw [List.length_map, List.map_filterMap]
  congr 1
  funext m
  rw [List.getElem?_map]
theorem slV_mem {α : Type} {xs : List α} {lo hi st : Option Int} {x : α} (h : x ∈ slV xs lo hi st) : x ∈ xs := by
  unfold slV slP at h
  obtain ⟨m, _, e⟩ := List.mem_filterMap.mp h
  exact List.mem_of_getElem? e
theorem slV_len {α : Type} (xs : List α) (lo hi st : Option Int) : (slV xs lo hi st).length ≤ (slB lo hi st xs.length).2.2 := by
  unfold slV slP
  exact Nat.le_trans (List.length_filterMap_le _ _) (by rw [List.length_range]; exact Nat.le_refl _)
theorem P2.sl {α β : Type} {R : α → β → Prop} {l : List α} {m : List β} (h : P2 R l m) (lo hi st : Option Int) : P2 R (slV l lo hi st) (slV m lo hi st) := by
  unfold slV
  rw [h.len]
  generalize slB lo hi st m.length = b
  unfold slP
  generalize b.2.2 = k
  induction k with
  | zero => exact .nil
  | succ k ih =>
    rw [List.range_succ, List.filterMap_append, List.filterMap_append]
    refine ih.app ?_
    rw [List.filterMap_cons, List.filterMap_cons, List.filterMap_nil, List.filterMap_nil]
    cases e : l[(b.1 + (k : Int) * b.2.1).toNat]? with
    | none =>
      have : m[(b.1 + (k : Int) * b.2.1).toNat]? = none := by
        rw [List.getElem?_eq_none_iff] at e ⊢
        rw [← h.len]
        exact e
      rw [this]
      exact .nil
    | some x =>
      obtain ⟨y, ey, r⟩ := h.getl e
      rw [ey]
      exact .cons r .nil
theorem slB_eq (lo hi st : Option Int) (n : Nat) (h0 : st ≠ some 0) :
    (sliceRange (sliceBounds lo hi st n).1 (sliceBounds lo hi st n).2.1 (sliceBounds lo hi st n).2.2) = (List.range (slB lo hi st n).2.2).map fun (m : Nat) => ((slB lo hi st n).1 + (m : Int) * (slB lo hi st n).2.1).toNat := by
  have hs : st.getD 1 ≠ 0 := by
    cases st with
    | none => decide
    | some i => exact fun z => h0 (by show some i = some 0; rw [show i = 0 from z])
  have b1 : (sliceBounds lo hi st n).1 = (slB lo hi st n).1 := by
    unfold sliceBounds slB Builtin.Slice.sliceAdjust
    dsimp only
    generalize st.getD 1 = c at hs
    by_cases hc : c > 0
    · have : ¬ c < 0 := by omega
      simp only [hc, this, if_true, if_false]
      cases lo with
      | none => rfl
      | some v => dsimp only; split <;> omega
    · have : c < 0 := by omega
      simp only [hc, this, if_true, if_false]
      cases lo with
      | none => rfl
      | some v => dsimp only; split <;> omega
  have b2 : (sliceBounds lo hi st n).2.1 = (Builtin.Slice.sliceAdjust lo hi (st.getD 1) (n : Int)).2 := by
    unfold sliceBounds Builtin.Slice.sliceAdjust
    dsimp only
    generalize st.getD 1 = c at hs
    by_cases hc : c > 0
    · have : ¬ c < 0 := by omega
      simp only [hc, this, if_true, if_false]
      cases hi with
      | none => rfl
      | some v => dsimp only; split <;> omega
    · have : c < 0 := by omega
      simp only [hc, this, if_true, if_false]
      cases hi with
      | none => rfl
      | some v => dsimp only; split <;> omega
  have b3 : (sliceBounds lo hi st n).2.2 = st.getD 1 := rfl
  have e1 : (slB lo hi st n).1 = (Builtin.Slice.sliceAdjust lo hi (st.getD 1) (n : Int)).1 := rfl
  have e2 : (slB lo hi st n).2.1 = st.getD 1 := rfl
  have e3 : (slB lo hi st n).2.2 = Builtin.Slice.slicePlaces (Builtin.Slice.sliceAdjust lo hi (st.getD 1) (n : Int)).1 (Builtin.Slice.sliceAdjust lo hi (st.getD 1) (n : Int)).2 (st.getD 1) := rfl
  rw [b1, b2, b3, e3, ← e1, e2]
  generalize (slB lo hi st n).1 = a
  generalize (Builtin.Slice.sliceAdjust lo hi (st.getD 1) (n : Int)).2 = b
  generalize st.getD 1 = c at hs
  unfold sliceRange Builtin.Slice.slicePlaces
  dsimp only
  have ec : (if c > 0 then (if a < b then (b - a + c - 1) / c else 0) else (if a > b then (a - b - c - 1) / (-c) else 0)) = (if c > 0 then (if a < b then (b - a - 1) / c + 1 else 0) else (if a > b then (a - b - 1) / (-c) + 1 else 0)) := by
    split
    · split
      · rw [show b - a + c - 1 = (b - a - 1) + c by omega, Int.add_ediv_of_dvd_right ⟨1, (Int.mul_one c).symm⟩, Int.ediv_self hs]
      · rfl
    · split
      · rw [show a - b - c - 1 = (a - b - 1) + (-c) by omega, Int.add_ediv_of_dvd_right ⟨1, (Int.mul_one (-c)).symm⟩, Int.ediv_self (by omega)]
      · rfl
  rw [ec]
  congr 1
  funext k
  rw [Int.mul_comm]
theorem slicePick_eq (items : Array Value) (lo hi st : Option Int) (h0 : st ≠ some 0) : slicePick items lo hi st = (slV items.toList lo hi st).toArray := by
  unfold slicePick slV slP
  rw [slB_eq lo hi st items.size h0, List.filterMap_map, Array.length_toList]
  congr 2
  funext m
  show items[_]? = items.toList[_]?
  rw [Array.getElem?_toList]
/-- none of the places is beyond the ends -/
theorem slV_le {α : Type} (xs : List α) (lo hi st : Option Int) (h0 : st ≠ some 0) : (slV xs lo hi st).length ≤ xs.length := by
  have h := slB_eq lo hi st xs.length h0
  have h2 : (slV xs lo hi st) = (sliceRange (sliceBounds lo hi st xs.length).1 (sliceBounds lo hi st xs.length).2.1 (sliceBounds lo hi st xs.length).2.2).filterMap fun i => xs[i]? := by
    rw [h, List.filterMap_map]
    rfl
  rw [h2]
  refine Nat.le_trans (List.length_filterMap_le _ _) (sliceRange_length_le _ _ _ _ (fun hc => ?_) fun hc => ?_)
  · simp only [sliceBounds] at hc ⊢
    simp only [hc, if_true]
    constructor
    · cases lo with
      | none => simp
      | some i => dsimp only; omega
    · cases hi with
      | none => simp
      | some i => dsimp only; omega
  · simp only [sliceBounds] at hc ⊢
    simp only [hc, if_false]
    constructor
    · cases lo with
      | none => simp
      | some i => dsimp only; omega
    · cases hi with
      | none => simp
      | some i => dsimp only; omega
theorem slP_whole {α : Type} (xs : List α) : slP xs (0, 1, xs.length) = xs := by
  unfold slP
  show (List.range xs.length).filterMap (fun (m : Nat) => xs[((0 : Int) + (m : Int) * 1).toNat]?) = xs
  have e : (fun (m : Nat) => xs[((0 : Int) + (m : Int) * 1).toNat]?) = fun m => xs[m]? := by
    funext m
    have : ((0 : Int) + (m : Int) * 1).toNat = m := by omega
    rw [this]
  rw [e]
  have key : ∀ (ys zs : List α), (List.range zs.length).filterMap (fun m => (zs ++ ys)[m]?) = zs := by
    intro ys zs
    rcases List.eq_nil_or_concat zs with rfl | ⟨l, x, rfl⟩
    · rfl
    · induction l generalizing ys x with
      | nil => simp
      | cons a l ih =>
        rw [List.concat_eq_append] at *
        rw [List.cons_append, List.length_cons, List.range_succ_eq_map, List.filterMap_cons]
        simp only [List.cons_append, List.getElem?_cons_zero, List.filterMap_map]
        have := ih ys x
        rw [List.concat_eq_append] at this
        congr 1
  have := key [] xs
  rwa [List.append_nil] at this
section
variable {prog : Program} {w : World} {A : Around} {E : Value → Shared → Prop} {s : Shared}
theorem sliceApplied_any {sl : Addr} {vl vu vs : Value} {lo hi st : Option Int} {n : Nat} {Q : Int × Int × Nat → Shared → Prop} (hs : s.heap.IsSliceOf sl vl vu vs) (pl : IsPart vl lo) (pu : IsPart vu hi) (ps : IsPart vs st) (h0 : st ≠ some 0)
    (h : Q (slB lo hi st n) s) : wpAny (model prog w) A (Builtin.Slice.sliceApplied (.ref sl) (pure (n : Int))) Q E s := by
  have hst : st.getD 1 ≠ 0 := by
    cases st with
    | none => decide
    | some i => exact fun z => h0 (by show some i = some 0; rw [show i = 0 from z])
  obtain ⟨os, hos, hcs, hds⟩ := id hs
  unfold Builtin.Slice.sliceApplied Builtin.Slice.sliceFields
  refine wpAny_bind (wpAny_bind (wpAny_field hos hds (x := vl) rfl (wpAny_bind (wpAny_field hos hds (x := vu) rfl (wpAny_bind (wpAny_field hos hds (x := vs) rfl (wpAny_pure ?_)))))))
  refine wpAny_bind (slicePart_ ps ?_)
  show wpAny _ _ (if ((st.getD 1) == 0) = true then _ else _) _ _ s
  rw [if_neg (by simpa using hst)]
  refine wpAny_bind (slicePart_ pl (wpAny_bind (slicePart_ pu (wpAny_bind (wpAny_pure ?_)))))
  exact wpAny_pure h
theorem getItem_tuple_any {t sl : Addr} {items : Array Value} {vl vu vs : Value} {lo hi st : Option Int} {Q : Value → Shared → Prop} (ht : IsTup s.heap t items) (hs : s.heap.IsSliceOf sl vl vu vs) (pl : IsPart vl lo) (pu : IsPart vu hi) (ps : IsPart vs st) (h0 : st ≠ some 0)
    (h1 : slB lo hi st items.size = (0, 1, items.size) → Q (.ref t) s) (h2 : Q (.ref s.heap.objs.size) { s with heap := s.heap.push { cls := .type "tuple", data := .seq (slV items.toList lo hi st).toArray } })
    (hsz : items.size ≤ sizeLine) : wpAny (model prog w) A (getItem (.ref t) (.ref sl)) Q E s := by
  have htake : sizeOk (.seq (slV items.toList lo hi st).toArray) := by
    show (slV items.toList lo hi st).toArray.size ≤ sizeLine
    rw [List.size_toArray]
    exact Nat.le_trans (slV_le _ _ _ _ h0) (by rw [Array.length_toList]; exact hsz)
  obtain ⟨os, hos, hcs, hds⟩ := id hs
  have hTs : s.TypeIs (.ref sl) "slice" := ⟨os, hos, hcs⟩
  unfold getItem
  try with_reducible refine wpAny_holding ?_
  first | refine wpAny_bind (wpAny_pure ?_) | skip
  refine wpAny_bind (wpAny_sequenceKey ht.typeIs (by decide) ?_)
  refine wpAny_bind (wpAny_callSpecial?_slot (name := Str.ofString "__getitem__") ht.typeIs PyProof.Rows.slot_tuple_getitem
    (wpAny_call_entry PyProof.Rows.slot_tuple_getitem ht.typeIs entry_tuple_getitem ?_ (args_tuple_getitem _ _)))
  show wpAny _ _ (Builtin.Tuple.tupleItemsOf (.ref t) >>= _) _ _ s
  refine wpAny_bind (tupleItemsOf_ ht ?_)
  refine wpAny_bind (wpAny_typeOf hTs ?_)
  rw [if_pos (by decide)]
  refine wpAny_bind (sliceApplied_any hs pl pu ps h0 ?_)
  have ev : slV items.toList lo hi st = slP items.toList (slB lo hi st items.size) := by unfold slV; rw [Array.length_toList]
  rw [ev] at h2 htake
  generalize slB lo hi st items.size = b at *
  obtain ⟨b1, b2, b3⟩ := b
  show wpAny _ _ (if ((b1 : Int) == 0 && b2 == 1 && b3 == items.size) = true then _ else _) _ _ s
  by_cases hw : ((b1 : Int) == 0 && b2 == 1 && b3 == items.size) = true
  · rw [if_pos hw]
    rw [Bool.and_eq_true, Bool.and_eq_true] at hw
    have e1 : b1 = 0 := eq_of_beq hw.1.1
    have e2 : b2 = 1 := eq_of_beq hw.1.2
    have e3 : b3 = items.size := eq_of_beq hw.2
    subst e1 e2 e3
    have h := h1 rfl
    refine wpAny_bind ?_
    show wpAny _ _ (typeOf (.ref t) >>= fun T => pure (T == .type "tuple")) _ _ s
    refine wpAny_bind (wpAny_typeOf ht.typeIs (wpAny_pure ?_))
    first
      | rw [if_pos (by decide)]
      | simp only [beq_self_eq_true, if_true]
    first
      | exact wpAny_bind (wpAny_rule (wpAny_pure ⟨_, rfl, wpAny_pure h⟩))
      | exact wpAny_bind (wpAny_rule (wpAny_bind (wpAny_pure (wpAny_pure ⟨_, rfl, wpAny_pure h⟩))))
  · rw [if_neg hw]
    have ep : ((List.range b3).filterMap fun (m : Nat) => items[(b1 + (m : Int) * b2).toNat]?).toArray = (slP items.toList (b1, b2, b3)).toArray := by
      unfold slP
      congr 2
      funext m
      show items[_]? = items.toList[_]?
      rw [Array.getElem?_toList]
    rw [ep]
    first
      | exact wpAny_bind (m := Builtin.Tuple.tupleExact _) (wpAny_newObj_type (wpAny_pure ⟨_, rfl, wpAny_pure h2⟩) htake)
      | exact wpAny_bind (m := Builtin.Tuple.tupleExact _) (wpAny_newObj_type (wpAny_bind (wpAny_pure (wpAny_pure ⟨_, rfl, wpAny_pure h2⟩))) htake)
      | exact wpAny_bind (wpAny_bind (m := Builtin.Tuple.tupleExact _) (wpAny_newObj_type (wpAny_pure (wpAny_pure ⟨_, rfl, wpAny_pure h2⟩)) htake))
      | exact wpAny_bind (wpAny_bind (m := Builtin.Tuple.tupleExact _) (wpAny_newObj_type (wpAny_pure ⟨_, rfl, wpAny_pure h2⟩) htake))
end
section
variable {X : Cx} {e se : Expr} {te ts : TE} {lo hi : Option Expr} {tl th tst : TO} {pos p2 p3 : Pos}
/-- a part that is an int or None -/
def tPartN (t : TE) : TO := fun σ H Q => t σ H fun x H1 => (∃ i, x = .int i ∧ Q (some i) H1) ∨ (x = .non ∧ Q none H1)
theorem po_someN (h : PE X e te) : PO X (some e) (tPartN te) := by
  refine ⟨fun pins s σ H Q I hw => ?_⟩
  rw [evalPart_some]
  refine thn (h.run pins s σ H _ I hw) fun u s1 ⟨x, H1, I1, r1, q1⟩ => ?_
  rcases q1 with ⟨i, rfl, q⟩ | ⟨rfl, q⟩
  · obtain ⟨t, rfl⟩ := r1
    exact ⟨some i, H1, I1, .int i t, q⟩
  · cases r1
    exact ⟨none, H1, I1, .none, q⟩
/-- x[lo:hi:st] by values -/
abbrev R3s := V → Option Int → Option Int → Option Int → Hp → VK → Prop
def tSl3 (r : R3s) (te : TE) (tl th tst : TO) : TE := fun σ H Q => te σ H fun x H1 => tl σ H1 fun l H2 => th σ H2 fun u H3 => tst σ H3 fun c H4 => r x l u c H4 Q
def rSl3L (K : PySem.W.Frag) : R3s := fun x lo hi st H Q => ∃ a xs, x = .ref a ∧ SqL K H a xs ∧ st ≠ some 0 ∧ ∀ p, H p = none → Q (.ref p) (upd H p (.lst (slV xs lo hi st)))
def rSl3T (K : PySem.W.Frag) : R3s := fun x lo hi st H Q => ∃ a xs, x = .ref a ∧ SqT K H a xs ∧ st ≠ some 0 ∧ ∀ p H', Same H H' → SqT K H' p (slV xs lo hi st) → Q (.ref p) H'
theorem vals_sl {xs : List V} {us : List Value} (r : Vals xs us) (lo hi st : Option Int) : Vals (slV xs lo hi st) (slV us lo hi st) := by
  have hlen := r.length
  unfold slV
  rw [hlen]
  generalize slB lo hi st us.length = b
  unfold slP
  generalize b.2.2 = k
  induction k with
  | zero => exact .nil
  | succ k ih =>
    rw [List.range_succ, List.filterMap_append, List.filterMap_append]
    refine ih.append ?_
    rw [List.filterMap_cons, List.filterMap_cons, List.filterMap_nil, List.filterMap_nil]
    cases e : xs[(b.1 + (k : Int) * b.2.1).toNat]? with
    | none =>
      have : us[(b.1 + (k : Int) * b.2.1).toNat]? = none := by
        rw [List.getElem?_eq_none_iff] at e ⊢
        rw [← hlen]
        exact e
      rw [this]
      exact .nil
    | some x =>
      obtain ⟨y, ey, ry⟩ := r.get e
      rw [ey]
      exact .cons ry .nil
theorem pe_sl3L (he : PE X e te) (hl : PO X lo tl) (hh : PO X hi th) (hst : PO X (some se) tst) : PE X (.Subscript e (.Slice lo hi (some se) p3) pos) (tSl3 (rSl3L X.K) te tl th tst) := by
  refine ⟨fun pins s σ H Q I h => ?_⟩
  refine Subscript_ (thn (he.run pins s σ H _ I h) fun v s1 ⟨x, H1, I1, r1, q1⟩ => ?_)
  refine wpAny_Slice (thn (hl.run pins s1 σ H1 _ I1 q1) fun vl s2 ⟨l, H2, I2, pl, q2⟩ => thn (hh.run pins s2 σ H2 _ I2 q2) fun vu s3 ⟨u, H3, I3, pu, q3⟩ => thn (hst.run pins s3 σ H3 _ I3 q3) fun vs s4 ⟨c, H4, I4, ps, q4⟩ => ?_)
  obtain ⟨a, xs, ex, hx, h0, q⟩ := q4
  subst ex
  cases r1
  have I5 : Inv X pins σ H4 { s4 with heap := s4.heap.push { cls := .type "slice", data := .fields #[vl, vu, vs] } } := I4.kept (t' := s4.toks) fun b ob q => Heap.get?_push_of_some _ q
  obtain ⟨its, r, ht, hz⟩ := I5.list hx
  have hlen := r.length
  show wpAny (model X.prog X.w) X.A (subscriptTail e (.Slice lo hi (some se) p3) (.ref a) (.ref s4.heap.objs.size)) (EP X pins σ Q) X.xe { s4 with heap := s4.heap.push { cls := .type "slice", data := .fields #[vl, vu, vs] } }
  refine tail_any (ops := [.ref a, .ref s4.heap.objs.size]) ht.isList.typeIs (PySem.slot_list_getitem.lookup) ?_ (by with_unfolding_all rfl)
  refine wpAny_getItem_list_slice ht.isList (Heap.IsSliceOf.new _ vl vu vs) pl pu ps h0 ?_ (by rw [List.size_toArray]; omega)
  rw [slicePick_eq _ _ _ _ h0]
  refine ⟨.ref _, _, I5.laid (t' := s4.toks) (o := .lst (slV xs l u c)) (fun b ob q => Heap.get?_push_of_some _ q) (Nat.le_refl _) ?_, rfl, q _ (I5.hok.fresh (Nat.le_refl _))⟩
  exact ⟨Nat.le_trans (slV_le _ _ _ _ h0) hz, _, 0, by simpa using vals_sl r l u c, Heap.get?_push_size _ rfl⟩
theorem pe_sl3T (he : PE X e te) (hl : PO X lo tl) (hh : PO X hi th) (hst : PO X (some se) tst) : PE X (.Subscript e (.Slice lo hi (some se) p3) pos) (tSl3 (rSl3T X.K) te tl th tst) := by
  refine ⟨fun pins s σ H Q I h => ?_⟩
  refine Subscript_ (thn (he.run pins s σ H _ I h) fun v s1 ⟨x, H1, I1, r1, q1⟩ => ?_)
  refine wpAny_Slice (thn (hl.run pins s1 σ H1 _ I1 q1) fun vl s2 ⟨l, H2, I2, pl, q2⟩ => thn (hh.run pins s2 σ H2 _ I2 q2) fun vu s3 ⟨u, H3, I3, pu, q3⟩ => thn (hst.run pins s3 σ H3 _ I3 q3) fun vs s4 ⟨c, H4, I4, ps, q4⟩ => ?_)
  obtain ⟨a, xs, ex, hx, h0, q⟩ := q4
  subst ex
  cases r1
  have I5 : Inv X pins σ H4 { s4 with heap := s4.heap.push { cls := .type "slice", data := .fields #[vl, vu, vs] } } := I4.kept (t' := s4.toks) fun b ob q => Heap.get?_push_of_some _ q
  obtain ⟨its, r, ht, hz⟩ := I5.tuple hx
  have hlen := r.length
  show wpAny (model X.prog X.w) X.A (subscriptTail e (.Slice lo hi (some se) p3) (.ref a) (.ref s4.heap.objs.size)) (EP X pins σ Q) X.xe { s4 with heap := s4.heap.push { cls := .type "slice", data := .fields #[vl, vu, vs] } }
  refine tail_any (ops := [.ref a, .ref s4.heap.objs.size]) ht.typeIs (PyProof.Rows.slot_tuple_getitem.lookup) ?_ (by with_unfolding_all rfl)
  refine getItem_tuple_any ht (Heap.IsSliceOf.new _ vl vu vs) pl pu ps h0 (fun ew => ?_) ?_ (by rw [List.size_toArray]; omega)
  · refine ⟨.ref a, H4, I5, rfl, q _ _ (Same.refl _) ?_⟩
    have e : slV xs l u c = xs := by
      rw [List.size_toArray, ← hlen] at ew
      unfold slV
      rw [ew]
      exact slP_whole xs
    rw [e]
    exact hx
  · refine ⟨.ref _, _, I5.laid (t' := s4.toks) (o := .tup (slV xs l u c)) (fun b ob q => Heap.get?_push_of_some _ q) (Nat.le_refl _) ?_, rfl, q _ _ (same_upd (I5.hok.fresh (Nat.le_refl _))) (SqT.of upd_same)⟩
    exact ⟨Nat.le_trans (slV_le _ _ _ _ h0) hz, _, by simpa using vals_sl r l u c, IsTup.new _ _⟩
end
end Tr

/-! # Slice objects as values; own subscripts. -/
namespace Tr
open PySem PySem.Spec PyProof.Rows L2 HT
section
theorem sk_lk : typeLookup (.type "slice") "__class__" = pure (some (.builtin "object.__class__")) := by rw [typeLookup_type, builtinLookup_eq_fast]; kernel_rfl
theorem sk_ga : Slot "slice" "__getattribute__" "slice.__getattribute__" :=
  .of (owner := "slice") (n := "__getattribute__") (by rw [typeLookup_type, builtinLookup_eq_fast]; kernel_rfl) (by decide +kernel) (by decide +kernel) (by decide +kernel) (by first | exact .inl (by decide +kernel) | exact .inr (by decide +kernel)) (by rw [isSubtype_type]; kernel_rfl)
theorem sk_en : entryFor table "slice.__getattribute__" = some Builtin.«object.__getattribute__» := entryFor_alias (id' := "object.__getattribute__") (by kernel_rfl) (by first | rfl | decide +kernel) (by decide +kernel) (by kernel_rfl)
theorem sk_ar (a b : Value) : argsOk "slice.__getattribute__" ⟨[a, b], []⟩ := by unfold argsOk; kernel_rfl
theorem sk_ow : isSubtype (.type "slice") (.type (".".intercalate ("object.__class__".cutAt '.').dropLast)) = pure true := by rw [F.owner_object_class, isSubtype_type]; kernel_rfl
variable {prog : Program} {w : World} {A : Around} {E : Value → Shared → Prop} {s : Shared} {a : Addr} {o : Obj}
theorem sk_get {R : Result → Shared → Prop} (hT : s.TypeIs (.ref a) "slice") (hq : R (.ok (.ret (.type "slice"))) s) : codeAny (model prog w) A (.call (.builtin "getset_descriptor.__get__") ⟨[.builtin "object.__class__", .ref a, .type "slice"], []⟩) R s := by
  obtain ⟨h, g, d, t, os⟩ := s
  have g1 : (⟨h, g, d, t, os⟩ : Shared).TypeIs (.builtin "object.__class__") "getset_descriptor" := F.typeOf_object_class
  have g2 := sk_ow
  refine codeAny_call_builtin F.slot_gs_get.plain F.entry_gs_get (F.slot_gs_get.check _ _ _ _ _ _ _ _ g1 (F.args_gs_get _ _ _) ?_)
  repeat (any_goals (first | assumption | wp_step))
  refine ⟨Code.quiet_builtin _ (by decide +kernel), codeAny_builtin F.entry_object_class ?_⟩
  repeat (any_goals (first | assumption | wp_step))
theorem sk_cls {Q : Option Value → Shared → Prop} (hT : s.TypeIs (.ref a) "slice") (hq : Q (some (.type "slice")) { s with toks := s.toks + 1 }) : wpAny (model prog w) A (getAttr? (.ref a) "__class__") Q E s := by
  obtain ⟨h, g, d, t, os⟩ := s
  have hT1 : (⟨h, g, d, t + 1, os⟩ : Shared).TypeIs (.ref a) "slice" := hT
  have one : ∀ {tk : Tok} {Q : Fin → Shared → Prop}, Q (.done (.ret (.type "slice"))) ⟨h, g, d, t + 1, os⟩ → ∀ A E, wpAny (model prog w) A (Builtin.«object.__getattribute__» ⟨[.ref a, .str "__class__" tk], []⟩) Q E ⟨h, g, d, t + 1, os⟩ := by
    intro tk Q hq A E
    have g1 := sk_lk
    have g2 := F.typeOf_object_class
    have g3 : (⟨h, g, d, t + 1, os⟩ : Shared).TypeIs (.builtin "object.__class__") "getset_descriptor" := F.typeOf_object_class
    have g4 := F.slot_gs_get.lookup
    have g5 := F.slot_gs_set.lookup
    repeat (any_goals (first | assumption | wp_step))
    refine sk_get hT1 ?_
    repeat (any_goals (first | assumption | wp_step))
  have two : ∀ {tk : Tok} {R : Result → Shared → Prop}, R (.ok (.ret (.type "slice"))) ⟨h, g, d, t + 1, os⟩ → ∀ A, codeAny (model prog w) A (.call (.builtin "slice.__getattribute__") ⟨[.ref a, .str "__class__" tk], []⟩) R ⟨h, g, d, t + 1, os⟩ := fun hq A =>
    codeAny_call_builtin sk_ga.plain sk_en (sk_ga.check _ _ _ _ _ _ _ _ hT1 (sk_ar _ _) (one hq _ _))
  have three : ∀ {tk : Tok} {Q : Value → Shared → Prop}, Q (.type "slice") ⟨h, g, d, t + 1, os⟩ → ∀ A E, wpAny (model prog w) A (getAttrBy (.ref a) (.str "__class__" tk) false) Q E ⟨h, g, d, t + 1, os⟩ := by
    intro tk Q hq A E
    have f2 := sk_ga.lookup
    have f3 := sk_ga.bind (.ref a)
    repeat (any_goals (first | assumption | wp_step))
    refine two ?_ _
    repeat (any_goals (first | assumption | wp_step))
  unfold getAttr? getAttrBy?
  repeat (any_goals (first | assumption | exact three (by assumption) _ _ | with_reducible apply three | wp_step))
end
/-- a slice object -/
def slO (a : Addr) (lo hi st : Option Int) : HO := .ext fun h => ∃ vl vu vs, h.IsSliceOf a vl vu vs ∧ IsPart vl lo ∧ IsPart vu hi ∧ IsPart vs st
section
variable {X : Cx} {pins : List (Addr × Obj)} {σ : L2.St} {H : Hp} {s : Shared}
theorem slO_at {a : Addr} {lo hi st : Option Int} (I : Inv X pins σ H s) (h : H a = some (slO a lo hi st)) : ∃ vl vu vs, s.heap.IsSliceOf a vl vu vs ∧ IsPart vl lo ∧ IsPart vu hi ∧ IsPart vs st :=
  (show ObjOk X.prog X.w H s.heap a (slO a lo hi st) from I.hok a _ h).1
/-- isinstance of a slice object -/
def rIsiSl (K : PySem.W.Frag) : List V → Hp → VK → Prop := fun xs H Q => ∃ (a : Addr) (lo hi st : Option Int) (c : V) (u : Value) (b : Bool), xs = [.ref a, c] ∧ H a = some (slO a lo hi st) ∧ ClsV c u ∧ PySem.W.kitOne K (.type "slice") u = some b ∧ Q (.bl b) H
theorem call_isiSl : CallR X (.builtin "isinstance") (rIsiSl X.K) := by
  intro pins s σ H xs us Q I r h
  obtain ⟨a, lo, hi, st, c, u, b, rfl, ha, k, e, q⟩ := h
  obtain ⟨u1, u2, rfl, r1, r2⟩ := vals2 r
  have e2 := k.eq r2
  subst e2
  cases (show u1 = Value.ref a from r1)
  obtain ⟨vl, vu, vs, ⟨o, ho, hc, hd⟩, _⟩ := slO_at I ha
  exact PySem.W.kia_one (K := X.K) (t := .type "slice") (H := PySem.W.KitAt a "slice") (PySem.W.kitx_of PySem.W.kitAt_ty fun p k => sk_cls p k) I.kIn ⟨o, ho, hc⟩ e (fun z => nomatch z) fun tk => ⟨.bl b, H, I.tok tk, rfl, q⟩
/-- t[k], k a slice object -/
def rIxTS (K : PySem.W.Frag) : R2 := fun x y H Q => ∃ (p sl : Addr) (lo hi st : Option Int) (xs : List V), x = .ref p ∧ y = .ref sl ∧ SqT K H p xs ∧ H sl = some (slO sl lo hi st) ∧ st ≠ some 0 ∧ ∀ q H', Same H H' → SqT K H' q (slV xs lo hi st) → Q (.ref q) H'
theorem ix_tupS : IxR X (rIxTS X.K) := by
  intro value slice pins s σ H x y v u Q I rx ry h hs
  obtain ⟨p, sl, lo, hi, st, xs, rfl, rfl, hq, hsl, h0, q⟩ := h
  cases rx
  cases ry
  obtain ⟨its, r, pl, hz⟩ := I.tuple hq
  have hlen := r.length
  obtain ⟨vl, vu, vs, hS, p1, p2, p3⟩ := slO_at I hsl
  refine tail_any pl.typeIs slot_tuple_getitem.lookup ?_ hs
  refine getItem_tuple_any pl hS p1 p2 p3 h0 (fun ew => ?_) ?_ (by rw [List.size_toArray]; omega)
  · refine ⟨.ref p, H, I, rfl, q _ _ (Same.refl _) ?_⟩
    have e : slV xs lo hi st = xs := by
      rw [List.size_toArray, ← hlen] at ew
      unfold slV
      rw [ew]
      exact slP_whole xs
    rw [e]
    exact hq
  · refine ⟨.ref _, _, I.laid (t' := s.toks) (o := .tup (slV xs lo hi st)) (fun b ob q => Heap.get?_push_of_some _ q) (Nat.le_refl _) ?_, rfl, q _ _ (same_upd (I.hok.fresh (Nat.le_refl _))) (SqT.of upd_same)⟩
    exact ⟨Nat.le_trans (slV_le _ _ _ _ h0) hz, _, by simpa using vals_sl r lo hi st, IsTup.new _ _⟩
/-- o[lo:hi] goes by getItem itself -/
theorem sub_two {prog : Program} {w : World} {A : Around} {E : Value → Shared → Prop} {s : Shared} {K : PySem.W.Frag} {x C L f : Addr} {h₀ : Heap} {m : Str → Option Value} {ox : Obj} {od : Option Obj} {value slice : Expr} {i : Value} {ops : List Value} {Q : Value → Shared → Prop} (FF : Fr h₀ L s.heap m) (X₀ : K.In h₀) (I : PySem.W.InstAt s.heap x ox C od) (hq : PySem.W.noSeq K C = true)
    (hs : PySem.W.findIn K (.ref C) "__getitem__" = some (some (.ref f))) (hf : PySem.W.fnIn K f = true) (hfn : PySem.W.isFn K (.ref f) = true) (h : wpAny (model prog w) A (call (.ref f) [.ref x, i]) Q E s) (hsl : subscripted slice true (.ref x) i = operate ops (getItem (.ref x) i)) :
    wpAny (model prog w) A (subscriptTail value slice (.ref x) i) Q E s := by
  have X := X₀.keeps FF.keep
  have go := PySem.W.getItem_K FF X₀ I hq hs hfn h
  unfold PySem.W.fnIn at hf
  split at hf
  · rename_i e
    unfold subscriptTail getitemInPython
    refine wpAny_bind (wpAny_bind (wpAny_bind (I.type.here ((PySem.W.looks_findIn X hs).here ?_))))
    dsimp only
    refine wpAny_bind (wpAny_load (X _ _ e) (wpAny_pure ?_))
    dsimp only
    rw [hsl]
    refine wpAny_bind (wpAny_operateT (wpAny_mono go (fun v s' z => ?_) fun _ _ z => z))
    show wpAny (model prog w) A (letTemporaryGo value (.ref x) v >>= fun _ => pure v) Q E s'
    exact wpAny_bind (wpAny_letTemporaryGo (wpAny_pure z))
  · cases hf
/-- what an own subscript leans on -/
structure GetO (K : PySem.W.Frag) (C : Addr) : Prop where
  nq : PySem.W.noSeq K C = true
  fi : ∀ f : Addr, PySem.W.findIn K (.ref C) "__getitem__" = some (some (.ref f)) → PySem.W.fnIn K f = true
def rGetO (C : Addr) (sp : Sp) (E : XK) : R2 := fun x y H Q => ∃ a dx fs, x = .ref a ∧ H a = some (.ins C dx fs) ∧ sp [x, y] H Q E
theorem pe_getO {C : Addr} {sp : Sp} {E : XK} {k j : Nat} {ea eb : Expr} {ta tb : TE} {pos : Pos} (c : Met X.prog X.w X.K X.mg X.base k C "__getitem__" sp []) (g : GetO X.K C) (hr : Room j X.A) (hk : k + 1 ≤ j) (hx : Passes (L2.CX X.prog X.w) X E) (he : PE X ea ta) (hb : PE X eb tb)
    (hsl : ∀ v i, subscripted eb true v i = runValue (.builtin "lifetime.subscript" ⟨[v, i], []⟩) := by intros; with_unfolding_all rfl) : PE X (.Subscript ea eb pos) (tOp (rGetO C sp E) ta tb) := by
  obtain ⟨f, fd, ps, ds, hc, hm, F, b, d⟩ := c.ex
  cases d
  refine ⟨fun pins s σ H Q I h => ?_⟩
  refine Subscript_ (binT he hb I h fun v u s2 x y H2 I2 rx ry q => ?_)
  obtain ⟨a, dx, fs, rfl, ha, h⟩ := q
  cases rx
  obtain ⟨mA, J, _⟩ := ins_get I2.hok ha
  obtain ⟨od, J, _⟩ := J.look
  obtain ⟨m, hF⟩ := I2.fr
  refine PySem.W.sub_K hF I2.ok.mod.kin J hm.at_ (g.fi _ hm.at_) hm.fn ?_ (hsl _ _)
  exact run_at (A := X.A.in1) F (hr.mono hk).in1 rfl b hx I2 (us := [.ref a, u]) (vs := [.ref a, y]) (.cons rfl (.cons ry .nil)) h
end
section
variable {X : Cx} {e : Expr} {te : TE} {lo hi st : Option Expr} {tl th tst : TO} {pos p3 : Pos} {C : Addr} {sp : Sp} {E : XK}
/-- o[lo:hi:st], o an instance with its own __getitem__ -/
def tGetS (C : Addr) (sp : Sp) (E : XK) (te : TE) (tl th tst : TO) : TE := fun σ H Q => te σ H fun x H1 => tl σ H1 fun l H2 => th σ H2 fun u H3 => tst σ H3 fun c H4 => ∃ a dx fs, x = .ref a ∧ H4 a = some (.ins C dx fs) ∧ ∀ q, H4 q = none → sp [.ref a, .ref q] (upd H4 q (slO q l u c)) Q E
theorem pe_getS {k j : Nat} (c : Met X.prog X.w X.K X.mg X.base k C "__getitem__" sp []) (g : GetO X.K C) (hr : Room j X.A) (hk : k + 1 ≤ j) (hx : Passes (L2.CX X.prog X.w) X E) (he : PE X e te) (hl : PO X lo tl) (hh : PO X hi th) (hst : PO X st tst)
    (hsl : ∀ v i, subscripted (.Slice lo hi st p3) true v i = runValue (.builtin "lifetime.subscript" ⟨[v, i], []⟩) := by intros; with_unfolding_all rfl) :
    PE X (.Subscript e (.Slice lo hi st p3) pos) (tGetS C sp E te tl th tst) := by
  obtain ⟨f, fd, ps, ds, hc, hm, F, b, d⟩ := c.ex
  cases d
  refine ⟨fun pins s σ H Q I h => ?_⟩
  refine Subscript_ (thn (he.run pins s σ H _ I h) fun v s1 ⟨x, H1, I1, r1, q1⟩ => ?_)
  refine wpAny_Slice (thn (hl.run pins s1 σ H1 _ I1 q1) fun vl s2 ⟨l, H2, I2, pl, q2⟩ => thn (hh.run pins s2 σ H2 _ I2 q2) fun vu s3 ⟨u, H3, I3, pu, q3⟩ => thn (hst.run pins s3 σ H3 _ I3 q3) fun vs s4 ⟨c, H4, I4, ps', q4⟩ => ?_)
  obtain ⟨a, dx, fs, ex, ha, q⟩ := q4
  subst ex
  cases r1
  have free := I4.hok.fresh (Nat.le_refl s4.heap.objs.size)
  have hS : (s4.heap.push { cls := .type "slice", data := .fields #[vl, vu, vs] }).IsSliceOf s4.heap.objs.size vl vu vs := Heap.IsSliceOf.new _ vl vu vs
  have I5 : Inv X pins σ (upd H4 s4.heap.objs.size (slO s4.heap.objs.size l u c)) { s4 with heap := s4.heap.push { cls := .type "slice", data := .fields #[vl, vu, vs] } } :=
    I4.laid (t' := s4.toks) (fun b ob q => Heap.get?_push_of_some _ q) (Nat.le_refl _) ⟨⟨vl, vu, vs, hS, pl, pu, ps'⟩, ⟨_, Heap.get?_push_size _ rfl⟩, fun h1 h2 ⟨a1, a2, a3, ⟨o, b1, b2⟩, c1⟩ k => ⟨a1, a2, a3, ⟨o, k o b1, b2⟩, c1⟩⟩
  have ha5 : upd H4 s4.heap.objs.size (slO s4.heap.objs.size l u c) a = some (.ins C dx fs) := by rw [upd_ne (ne_of_none ha free)]; exact ha
  obtain ⟨mA, J, _⟩ := ins_get I5.hok ha5
  obtain ⟨od, J, _⟩ := J.look
  obtain ⟨m, hF⟩ := I5.fr
  show wpAny (model X.prog X.w) X.A (subscriptTail e (.Slice lo hi st p3) (.ref a) (.ref s4.heap.objs.size)) (EP X pins σ Q) X.xe { s4 with heap := s4.heap.push { cls := .type "slice", data := .fields #[vl, vu, vs] } }
  refine PySem.W.sub_K hF I5.ok.mod.kin J hm.at_ (g.fi _ hm.at_) hm.fn ?_ (hsl _ _)
  exact run_at (A := X.A.in1) F (hr.mono hk).in1 rfl b hx I5 (us := [.ref a, .ref s4.heap.objs.size]) (vs := [.ref a, .ref s4.heap.objs.size]) (.cons rfl (.cons rfl .nil)) (q _ free)
theorem pe_getS2 {k j : Nat} (c : Met X.prog X.w X.K X.mg X.base k C "__getitem__" sp []) (g : GetO X.K C) (hr : Room j X.A) (hk : k ≤ j) (hx : Passes (L2.CX X.prog X.w) X E) (he : PE X e te) (hl : PO X lo tl) (hh : PO X hi th) :
    PE X (.Subscript e (.Slice lo hi none p3) pos) (tGetS C sp E te tl th tNoPart) := by
  obtain ⟨f, fd, ps, ds, hc, hm, F, b, d⟩ := c.ex
  cases d
  refine ⟨fun pins s σ H Q I h => ?_⟩
  refine Subscript_ (thn (he.run pins s σ H _ I h) fun v s1 ⟨x, H1, I1, r1, q1⟩ => ?_)
  refine wpAny_Slice (thn (hl.run pins s1 σ H1 _ I1 q1) fun vl s2 ⟨l, H2, I2, pl, q2⟩ => thn (hh.run pins s2 σ H2 _ I2 q2) fun vu s3 ⟨u, H3, I3, pu, q3⟩ => thn (po_none.run pins s3 σ H3 _ I3 q3) fun vs s4 ⟨c, H4, I4, ps', q4⟩ => ?_)
  obtain ⟨a, dx, fs, ex, ha, q⟩ := q4
  subst ex
  cases r1
  have free := I4.hok.fresh (Nat.le_refl s4.heap.objs.size)
  have hS : (s4.heap.push { cls := .type "slice", data := .fields #[vl, vu, vs] }).IsSliceOf s4.heap.objs.size vl vu vs := Heap.IsSliceOf.new _ vl vu vs
  have I5 : Inv X pins σ (upd H4 s4.heap.objs.size (slO s4.heap.objs.size l u c)) { s4 with heap := s4.heap.push { cls := .type "slice", data := .fields #[vl, vu, vs] } } :=
    I4.laid (t' := s4.toks) (fun b ob q => Heap.get?_push_of_some _ q) (Nat.le_refl _) ⟨⟨vl, vu, vs, hS, pl, pu, ps'⟩, ⟨_, Heap.get?_push_size _ rfl⟩, fun h1 h2 ⟨a1, a2, a3, ⟨o, b1, b2⟩, c1⟩ k => ⟨a1, a2, a3, ⟨o, k o b1, b2⟩, c1⟩⟩
  have ha5 : upd H4 s4.heap.objs.size (slO s4.heap.objs.size l u c) a = some (.ins C dx fs) := by rw [upd_ne (ne_of_none ha free)]; exact ha
  obtain ⟨mA, J, _⟩ := ins_get I5.hok ha5
  obtain ⟨od, J, _⟩ := J.look
  obtain ⟨m, hF⟩ := I5.fr
  show wpAny (model X.prog X.w) X.A (subscriptTail e (.Slice lo hi none p3) (.ref a) (.ref s4.heap.objs.size)) (EP X pins σ Q) X.xe { s4 with heap := s4.heap.push { cls := .type "slice", data := .fields #[vl, vu, vs] } }
  refine sub_two (ops := [.ref s4.heap.objs.size, .ref a]) hF I5.ok.mod.kin J g.nq hm.at_ (g.fi _ hm.at_) hm.fn ?_ (by with_unfolding_all rfl)
  exact run_at (A := X.A) F (hr.mono hk) rfl b hx I5 (us := [.ref a, .ref s4.heap.objs.size]) (vs := [.ref a, .ref s4.heap.objs.size]) (.cons rfl (.cons rfl .nil)) (q _ free)
end
def getOB (x : Str) (K : PySem.W.Frag) : Bool := PySem.W.noSeq K (He.ga K x) && match PySem.W.findIn K (.ref (He.ga K x)) "__getitem__" with
  | some (some (.ref f)) => PySem.W.fnIn K f
  | _ => true
theorem getOB_ok {x : Str} {K : PySem.W.Frag} (h : getOB x K = true) : GetO K (He.ga K x) := by
  obtain ⟨h1, h2⟩ := He.ba h
  refine ⟨h1, fun f e => ?_⟩
  rw [e] at h2
  exact h2
end Tr

/-! # Exceptions of the program's own, whose __init__ says super().__init__(text) first. -/
namespace Tr
open PySem PySem.Spec PyProof.Rows L2
/-- the main module: its file; «super» is not its own name -/
class PMain (P : Program) : Prop where
  file : P.main.file = ("/claim/cut.py" : Str)
  sup : (P.main.scope.names.lookup ("super" : Str)).isSome = false

section
variable {X : Cx} {pins : List (Addr × Obj)} {σ : L2.St} {H : Hp} {s : Shared} {body : List Stmt} {a C f cda cc : Addr} {z : Str} {kd : Nat} {p0 p1 p2 p3 p4 p5 : Pos} {fd : FuncData} {ar : Arg} {vs : Array Value} {tf : Tok} {oc ccl cl : Value} {od cdd cld : Option Addr} {osl ccs csl : Array (Option Value)}
  {Q : Flow → Shared → Prop} {E' : Value → Shared → Prop}
theorem sup_call {u : Addr} {rest : List Value} {Q : Value → Shared → Prop} {A : Around} (T : OexC X.K C) (I : Inv X pins σ H s) (e : H a = some (exo a C none)) (hu : s.heap.get? u = some (PySem.W.kxs_mw "ValueError.__init__" a)) (hz : rest.length ≤ sizeLine)
    (hq : ∀ s', Inv X pins σ H s' → Q .none s') : wpAny (model X.prog X.w) A (call (.ref u) rest) Q E' s := by
  obtain ⟨nm, q, N, bs, bm, sn, sub, ab, col, dd, k0, k1, k2, k3, k5, hC, hbm⟩ := T.cls
  obtain ⟨t1, he⟩ := exo_at I.hok e
  have hC' := I.kIn _ _ hC
  obtain ⟨hp, g, d, tk, os⟩ := s
  refine wpAny_call (codeAny_of_tree ?_)
  show wpAny _ A.in1 (callAny (.ref u) ⟨rest, []⟩) _ _ _
  simp only [callAny]
  refine wpAny_bind (wpAny_load hu ?_)
  simp only [PySem.W.kxs_mw, show (Value.type "method-wrapper" == Value.type "method" || Value.type "method-wrapper" == Value.type "builtin_function_or_method" || Value.type "method-wrapper" == Value.type "method-wrapper") = true by decide, if_true]
  refine PySem.W.KFB.if_so (by decide) ?_
  refine wpAny_bind (PySem.W.check_bound_init F.excBase_ValueError.toExcCallFacts hC' he rfl ?_)
  refine wpAny_bind (wpAny_pure (wpAny_pure ?_))
  refine ⟨plainId_quiet F.excBase_ValueError.init.plain _, codeAny_builtin F.excBase_ValueError.initEntry ?_⟩
  refine PySem.W.exc_init_tree (cls := .ref C) (t0 := t1) (dv := none) (c2 := .none) (c3 := .none) (b4 := .bool false) he hz fun h' k hx _ => ?_
  have J := I.write (t' := tk) (x := a) (e := a) (o := exo a C none) (by rw [e]; exact True.intro) (.inl rfl) k ⟨_, hx⟩ (exo_ok hx)
  have eu : upd H a (exo a C none) = H := by
    funext b
    by_cases hb : b = a
    · rw [hb, upd_same, e]
    · rw [upd_ne hb]
  rw [eu] at J
  exact hq _ J

theorem sup_ok (I : Inv X pins σ H s) [PM : PMain X.prog] (T : OexC X.K C) (e : H a = some (exo a C none)) (h0 : σ[0]? = some (some (.ref a))) (hN0 : X.N[0]? = some ("self" : Str)) (hself : X.env.scope.names.lookup ("self" : Str) = some .local)
    (hfu : X.env.func = some f) (lk : X.K.lookup f = some ⟨oc, od, .func fd, osl⟩) (hp : (fd.params.posonlyargs ++ fd.params.args).head? = some ar) (har : ar.arg = ("self" : Str))
    (hco : X.env.code = .ref cda) (hcode : X.K.lookup cda = some ⟨ccl, cdd, .fields vs, ccs⟩) (hvs : vs[2]? = some (.str "/claim/cut.py" tf))
    (hks : X.env.scope.names.lookup ("super" : Str) = some .globalImplicit) (hkc : X.env.scope.names.lookup ("__class__" : Str) = some .free) (hcl : X.env.cells.lookup ("__class__" : Str) = some cc) (hcell : X.K.lookup cc = some ⟨cl, cld, .cell (some (.ref C)), csl⟩)
    (hsuper : X.mg "super" = none) (ho : PySem.W.nsIn X.K cStatics "thirdparty.any" = some none) (hm : PySem.W.ks_superIn X.K C C "__init__" = some (some (.builtin "ValueError.__init__")))
    (hsub : PySem.W.mroIn X.K C (.ref C) = some true) (hB : PySem.W.subIn X.K (.ref C) (.type "ValueError") = some true)
    (hi : interactive X.env = false) (hs : swapsWith (.Call (.Attribute (.Call (.Name "super" p0) [] [] p1) "__init__" p2) [.Constant (.str z) kd p5] [] p3) none p4.line X.env = pure false)
    {pl : Sem Bool} (hev : eval (.Call (.Attribute (.Call (.Name "super" p0) [] [] p1) "__init__" p2) [.Constant (.str z) kd p5] [] p3) X.env = (do
      let ov ← attributeBase (.Call (.Name "super" p0) [] [] p1) "__init__" X.env (eval (.Call (.Name "super" p0) [] [] p1) X.env)
      standAt p2.atName
      let (f, first) ← holding [ov] (getMethod ov "__init__" pl)
      callWith p3 f first (backTo p3 (starEach [.Constant (.str z) kd p5] X.env)) []))
    (hq : ∀ s', Inv X pins σ H s' → Q .next s') :
    PySem.wpAt (model X.prog X.w) X.A (.func body X.env) (exec (.Expr (.Call (.Attribute (.Call (.Name "super" p0) [] [] p1) "__init__" p2) [.Constant (.str z) kd p5] [] p3) p4) X.env) Q E' s := by
  refine ks_wpAt_Expr_any ?_ hi hs
  refine ks_wpAt_MethodCall (pl := pl) ?_ hev
  refine ks_wpAt_super_base (attr := "__init__") (body := body) hks hkc (by decide) hfu (I.kIn _ _ lk) rfl hp hco (I.kIn _ _ hcode) rfl hvs (by rw [PM.file]; decide) PM.sup ?_
  obtain ⟨mb, h1, h2⟩ := I.mod.blt
  refine PySem.W.ks_loadName_global I.ok.kind hks (Calls.loadGlobal_builtin (by rw [I.ok.glob]; exact I.mod.glob.keeps I.bk) hsuper (by rw [I.ok.blt]; exact h1.keeps I.bk) ((h2 "super" (by decide)).trans PyProof.Rows.Boot.super) ⟨rfl, ?_⟩)
  refine wpAny_loadName_free I.ok.kind hkc hcl ⟨_, I.kIn _ _ hcell, rfl⟩ ?_
  obtain ⟨m, hn, hl⟩ := I.loc
  obtain ⟨u, r, l⟩ := hl 0 _ (.ref a) hN0 h0 (.inl hself)
  obtain rfl : u = Value.ref a := r
  have hv : m ("self" : Str) = some (.ref a) := by
    rcases l with ⟨_, z⟩ | ⟨z, _⟩
    · exact z
    · have z' : X.env.scope.names.lookup ("self" : Str) = some .cell ∨ X.env.scope.names.lookup ("self" : Str) = some .free := z
      rw [hself] at z'
      rcases z' with z' | z' <;> cases z'
  rw [har]
  refine wpAny_loadName_local I.ok.kind hself hn hv ?_
  obtain ⟨nm, q, N, bs, bm, sn, sub, ab, col, dd, k0, k1, k2, k3, k5, hC, hbm⟩ := T.cls
  have hcd : PySem.W.clsIn X.K C = some { name := nm, bases := bs, mro := .ref C :: bm, ns := N, qualname := q, hasDict := true, slotNames := sn, subclasses := sub, abstract := ab, collection := col, hasDel := false } := by unfold PySem.W.clsIn; rw [hC] <;> rfl
  have hC' := I.kIn _ _ hC
  obtain ⟨t1, he⟩ := exo_at I.hok e
  obtain ⟨hp0, g, d, tk, os⟩ := s
  refine ks_wpAny_isType_cls hC' rfl ⟨rfl, ?_⟩
  refine ks_wpAny_call_super hC' rfl he rfl (fun c z => by cases z) (PySem.W.looks_mroIn I.kIn hsub) (fun h1 es k => ?_)
  have I1 : Inv X pins σ H ⟨h1, g, d, tk, os⟩ := I.kept (t' := tk) k
  obtain ⟨t2, he1⟩ := exo_at I1.hok e
  have hxC : a ≠ C := fun y => by
    have hC1 := I1.kIn _ _ hC
    rw [← y] at hC1
    have w := hC1.symm.trans he1
    cases w
  unfold PySem.W.ks_superIn at hm
  rw [hcd] at hm
  have IA : PySem.W.InstAt h1 a { cls := .ref C, dict := none, data := .fields #[.ref t2, .none, .none, .none, .bool false, .none] } C none := ⟨he1, rfl, rfl, trivial⟩
  refine PySem.W.kxs_getMethod PySem.W.kxs_ValueError es (PySem.W.looks_opaque I1.kIn ho) (l₀ := .ref C :: bm) (fun A Q E s k q => wpAny_bind ((PySem.W.looks_clsIn I1.kIn hcd) A _ E s k (wpAny_pure q))) rfl I1.kIn hm (IA.type.andThen (PySem.W.looks_subIn I1.kIn hB)) hxC (by decide) ?_
  have I2 : Inv X pins σ H ⟨h1.push (PySem.W.kxs_mw "ValueError.__init__" a), g, d, tk + 1, os⟩ := I1.kept (t' := tk + 1) fun b o e => Heap.get?_push_of_some _ e
  have hu : (h1.push (PySem.W.kxs_mw "ValueError.__init__" a)).get? h1.objs.size = some (PySem.W.kxs_mw "ValueError.__init__" a) := Heap.get?_push_at rfl rfl
  refine PySem.W.kxs_callWith (i := "ValueError.__init__") (x := a) (by rfl) ?_
  have est : starEach [Expr.Constant (.str z) kd p5] X.env = (false, eval (.Constant (.str z) kd p5) X.env) :: starEach [] X.env := by rfl
  rw [est]
  refine Calls.evalArgs_plain ?_
  show wpAny _ _ (spliced ((false, eval (.Constant (.str z) kd p5) X.env) :: [])) _ _ _
  refine Calls.spliced_cons (Calls.Constant_str (Calls.spliced_nil ⟨hu, ?_⟩))
  exact sup_call T (I2.tok _) e hu (by rw [sizeLine_eq]; exact (by decide : 1 ≤ 16777216)) hq
end
abbrev exPs (fs : List Str) : List Str := "self" :: fs
abbrev exNs (fs : List Str) : List Str := exPs fs ++ [("__class__" : Str)]
abbrev exF (qual : Str) (st : Stmt) (cc cda : Addr) : NdefX.NF := ⟨"__init__", qual, defArgs st, defBody st, defScope st, [("__class__", cc)], cda⟩
/-- what the top has left of an own exception's class: its __init__ (a def with the cell of __class__), its fields' names -/
structure Exn (K : PySem.W.Frag) (mg : Str → Option Value) (x : Str) (C : Addr) (qual : Str) (st : Stmt) (fs : List Str) : Prop where
  oex : OexC K C
  glo : mg x = some (.ref C)
  sup : mg "super" = none
  fn : ∃ (f cc cda : Addr) (kV doc pm ct oc ccl cl : Value) (an od cdd cld : Option Addr) (osl ccs csl : Array (Option Value)) (vs : Array Value) (tf : Tok), PySem.W.findIn K (.ref C) "__init__" = some (some (.ref f)) ∧ PySem.W.typeIn K (.ref f) = some (.type "function") ∧
    K.lookup f = some ⟨oc, od, .func (PySem.W.fnX "__init__" qual (defArgs st) (defBody st) (defScope st) [("__class__", cc)] .none kV doc pm an (.ref cda) ct), osl⟩ ∧ PySem.W.codeIn K (.ref cda) qual = true ∧
    K.lookup cda = some ⟨ccl, cdd, .fields vs, ccs⟩ ∧ vs[2]? = some (.str "/claim/cut.py" tf) ∧ K.lookup cc = some ⟨cl, cld, .cell (some (.ref C)), csl⟩
  any : PySem.W.nsIn K cStatics "thirdparty.any" = some none
  up : PySem.W.ks_superIn K C C "__init__" = some (some (.builtin "ValueError.__init__"))
  sub : PySem.W.mroIn K C (.ref C) = some true
  ve : PySem.W.subIn K (.ref C) (.type "ValueError") = some true
  no : ∀ f ∈ fs, PySem.W.findIn K (.ref C) f = some none
  xf : XfC K C
/-- an own exception that may be made: sp its __init__ -/
structure Exm (P : Program) (w : World) (K : PySem.W.Frag) (mg : Str → Option Value) (base : Heap) (k : Nat) (x : Str) (C : Addr) (sp : Sp) : Prop where
  ex : ∃ (f : Addr) (fd : FuncData) (ps : List Str), OexC K C ∧ mg x = some (.ref C) ∧ PySem.W.findIn K (.ref C) "__init__" = some (some (.ref f)) ∧ PySem.W.typeIn K (.ref f) = some (.type "function") ∧ FnOk P w K mg base (L2.CX P w) k f fd ps sp ∧ Binds K fd ps []
theorem Exm.mono {P : Program} {w : World} {K : PySem.W.Frag} {mg : Str → Option Value} {base : Heap} {j k : Nat} {x : Str} {C : Addr} {sp : Sp} (c : Exm P w K mg base j x C sp) (h : j ≤ k) : Exm P w K mg base k x C sp :=
  let ⟨f, fd, ps, a, b, d, e, F, r⟩ := c.ex
  ⟨f, fd, ps, a, b, d, e, F.mono h, r⟩

section
variable {P : Program} [PM : PMain P] {w : World} {K : PySem.W.Frag} {mg : Str → Option Value} {base : Heap}
theorem exn_fn {x qual : Str} {C : Addr} {st : Stmt} {fs : List Str} {rest : List Stmt} {k : Nat} {sp : Sp} {ar : Arg} {z : Str} {kd : Nat} {p0 p1 p2 p3 p4 p5 : Pos} (D : Exn K mg x C qual st fs) (S : NdefX.NScope (exNs fs) (exPs fs) ["__class__"] (defScope st))
    (hbody : defBody st = .Expr (.Call (.Attribute (.Call (.Name "super" p0) [] [] p1) "__init__" p2) [.Constant (.str z) kd p5] [] p3) p4 :: rest)
    (hp : ((defArgs st).posonlyargs ++ (defArgs st).args).head? = some ar) (har : ar.arg = ("self" : Str)) (hks : (defScope st).names.lookup ("super" : Str) = some .globalImplicit)
    (hb : ∀ (kV doc pm : Value) (an : Option Addr) (cdv ct : Value) (cc : Addr) (us : List Value), us.length = (exPs fs).length → bindArgs (PySem.W.fnX "__init__" qual (defArgs st) (defBody st) (defScope st) [("__class__", cc)] .none kV doc pm an cdv ct) ⟨us, []⟩ = pure ((exPs fs).zip us))
    (hi : ∀ cc cda f L, interactive (NdefX.envF (exF qual st cc cda) f L) = false)
    (hev : ∀ cc cda f L, ∃ pl : Sem Bool, eval (.Call (.Attribute (.Call (.Name "super" p0) [] [] p1) "__init__" p2) [.Constant (.str z) kd p5] [] p3) (NdefX.envF (exF qual st cc cda) f L) = (do
      let ov ← attributeBase (.Call (.Name "super" p0) [] [] p1) "__init__" (NdefX.envF (exF qual st cc cda) f L) (eval (.Call (.Name "super" p0) [] [] p1) (NdefX.envF (exF qual st cc cda) f L))
      standAt p2.atName
      let (g, first) ← holding [ov] (getMethod ov "__init__" pl)
      callWith p3 g first (backTo p3 (starEach [.Constant (.str z) kd p5] (NdefX.envF (exF qual st cc cda) f L))) []))
    (len : ∀ vs H Q E, sp vs H Q E → ∃ a ws, vs = .ref a :: ws ∧ ws.length = fs.length ∧ H a = some (exo a C none))
    (hr : ∀ (cc cda f : Addr) (A : Around) (outer : List Env) (s : Shared) (H : Hp) (vs : List V) (Q : VK) (E : XK), sp vs H Q E →
      ∃ t, PSs (NdefX.ncx (L2.CX P w) P w K mg base (exNs fs) (exF qual st cc cda) f A outer s H E) rest t ∧ t { nx := fun _ H' => Q .non H', rt := Q } (NdefX.startF (exNs fs) vs [none]) H) : Exm P w K mg base (k + 1) x C sp := by
  obtain ⟨f, cc, cda, kV, doc, pm, ct, oc, ccl, cl, an, od, cdd, cld, osl, ccs, csl, cvs, tf, iC, tI, lk, hcd, hcode, hvs, hcell⟩ := D.fn
  refine ⟨f, PySem.W.fnX "__init__" qual (defArgs st) (defBody st) (defScope st) [("__class__", cc)] .none kV doc pm an (.ref cda) ct, exPs fs, D.oex, D.glo, iC, tI, ⟨fun vs H Q E h => ?_, fun A outer s H args us vs Q E hr0 e0 hbi r hsp => ?_⟩, Binds.all (hb kV doc pm an _ ct cc)⟩
  · obtain ⟨a, ws, rfl, h2, _⟩ := len _ _ _ _ h
    rw [List.length_cons, List.length_cons, h2]
  obtain ⟨a, ws, rfl, hwl, hea⟩ := len _ _ _ _ hsp
  have hl : (V.ref a :: ws).length = (exPs fs).length := by rw [List.length_cons, List.length_cons, hwl]
  have KX : K.In s.heap := e0.mod.kin.keeps fun b o e => (e0.bs b o e).1
  have lim : s.heap.NoLimit := e0.mod.nolimit.keeps fun b o e => (e0.bs b o e).1
  have hCn : H cc = none := (e0.bs cc _ (e0.mod.kin _ _ hcell)).2
  refine ks_codeAny_call_defAt (body := defBody st) (binds := (exPs fs).zip us) hr0.depth (KX _ _ lk) rfl lim (PySem.W.codeRec_of KX hcd) rfl hbi S.nocell (fun ⟨n, _⟩ hy => S.par n (List.of_mem_zip hy).1) (fun h₁ hns kp => ?_) S.co S.gen S.kind
  have CA : NdefX.CellsAt [("__class__", cc)] ["__class__"] [none] s.heap H := by
    have hx : ∀ (y : Str) (c : Addr), [(("__class__" : Str), cc)].lookup y = some c → c = cc := fun y c e => by
      simp only [List.lookup] at e
      split at e
      · exact (Option.some.inj e).symm
      · cases e
    refine ⟨rfl, fun y c e => ?_, fun x y c e1 e2 => ?_, fun i y e => ?_⟩
    · obtain rfl := hx y c e
      exact ⟨hCn, _, _, KX _ _ hcell, rfl⟩
    · have q : ∀ (y : Str) (c : Addr), [(("__class__" : Str), cc)].lookup y = some c → y = "__class__" := fun y c e => by
        simp only [List.lookup] at e
        split at e
        · rename_i hb
          exact eq_of_beq hb
        · cases e
      rw [q x c e1, q y c e2]
    · cases i with
      | zero =>
        obtain rfl := Option.some.inj (show some (("__class__" : Str)) = some y from e)
        refine ⟨cc, by rfl, fun v hv => ?_⟩
        have hv : some (none : Option V) = some (some v) := hv
        cases hv
      | succ i => cases (show (none : Option Str) = some y from e)
  have I := NdefX.inv_startN (CX := L2.CX P w) (E := E) (f := f) (tk := s.toks + ((exPs fs).zip us).length) (F := exF qual st cc cda) S hr0.hd e0 hl r CA hns kp
  obtain ⟨t, ht, hq⟩ := hr cc cda f A outer s H _ Q E hsp
  have fin : ∀ {σ' : L2.St} {H' : Hp} {v : V} {u : Value} {s' : Shared}, Inv (NdefX.ncx (L2.CX P w) P w K mg base (exNs fs) (exF qual st cc cda) f A outer s H E) [] σ' H' s' → L2.RelV v u → Q v H' → CE outer P w H s Q u s' :=
    fun {σ' H' v u s'} J rv q => ⟨v, H', J.os, J.bare, J.base, J.hok, rv, q⟩
  have key : ∀ b, b = defBody st → PySem.wpAt (model P w) (A.deeper (NdefX.envF (exF qual st cc cda) f s.heap.objs.size)) (.func b (NdefX.envF (exF qual st cc cda) f s.heap.objs.size)) (execs b (NdefX.envF (exF qual st cc cda) f s.heap.objs.size))
      (fun fl s' => CR (L2.CX P w) outer P w H s Q E (.ok (.ret (match fl with | .ret v => v | _ => .none))) s') (NdefX.ncx (L2.CX P w) P w K mg base (exNs fs) (exF qual st cc cda) f A outer s H E).xe { s with heap := h₁, toks := s.toks + ((exPs fs).zip us).length } := by
    intro b hbb
    rw [hbody] at hbb
    subst hbb
    refine ks_wpAt_execs_cons ?_
    obtain ⟨pl, hpl⟩ := hev cc cda f s.heap.objs.size
    refine sup_ok (PM := PM) (X := NdefX.ncx (L2.CX P w) P w K mg base (exNs fs) (exF qual st cc cda) f A outer s H E) (a := a) (C := C) (f := f) (cda := cda) (cc := cc) (ar := ar) I D.oex hea (by rfl) (by rfl) (S.par _ (List.mem_cons_self ..)) rfl lk hp har rfl hcode hvs hks (S.frk _ (List.mem_cons_self ..)) rfl hcell D.sup D.any D.up D.sub D.ve (hi ..) (by rfl) hpl fun s' J => ?_
    refine wpAt_of_wpAny (wpAny_mono (ht.run [] _ _ H _ J hq) (fun fl s' hs => ?_) fun e s' hs => hs)
    cases fl with
    | ret u =>
      obtain ⟨v, σ', H', J, rv, q⟩ := hs
      exact fin J rv q
    | next =>
      obtain ⟨σ', H', J, q⟩ := hs
      exact fin (v := V.non) (u := Value.none) J rfl q
    | brk =>
      obtain ⟨_, _, _, q⟩ := hs
      exact False.elim q
    | cont =>
      obtain ⟨_, _, _, q⟩ := hs
      exact False.elim q
  exact key _ rfl
end
/-- what the text has of such an __init__ -/
structure ExS (qual : Str) (st : Stmt) (fs : List Str) (rest : List Stmt) : Prop where
  S : NdefX.NScope (exNs fs) (exPs fs) ["__class__"] (defScope st)
  body : ∃ (z : Str) (kd : Nat) (p0 p1 p2 p3 p4 p5 : Pos), defBody st = .Expr (.Call (.Attribute (.Call (.Name "super" p0) [] [] p1) "__init__" p2) [.Constant (.str z) kd p5] [] p3) p4 :: rest ∧
    (∀ cc cda f L, interactive (NdefX.envF (exF qual st cc cda) f L) = false) ∧
    (∀ cc cda f L, ∃ pl : Sem Bool, eval (.Call (.Attribute (.Call (.Name "super" p0) [] [] p1) "__init__" p2) [.Constant (.str z) kd p5] [] p3) (NdefX.envF (exF qual st cc cda) f L) = (do
      let ov ← attributeBase (.Call (.Name "super" p0) [] [] p1) "__init__" (NdefX.envF (exF qual st cc cda) f L) (eval (.Call (.Name "super" p0) [] [] p1) (NdefX.envF (exF qual st cc cda) f L))
      standAt p2.atName
      let (g, first) ← holding [ov] (getMethod ov "__init__" pl)
      callWith p3 g first (backTo p3 (starEach [.Constant (.str z) kd p5] (NdefX.envF (exF qual st cc cda) f L))) []))
  ar : ∃ ar, ((defArgs st).posonlyargs ++ (defArgs st).args).head? = some ar ∧ ar.arg = ("self" : Str)
  ks : (defScope st).names.lookup ("super" : Str) = some .globalImplicit
  bind : ∀ (kV doc pm : Value) (an : Option Addr) (cdv ct : Value) (cc : Addr) (us : List Value), us.length = (exPs fs).length → bindArgs (PySem.W.fnX "__init__" qual (defArgs st) (defBody st) (defScope st) [("__class__", cc)] .none kV doc pm an cdv ct) ⟨us, []⟩ = pure ((exPs fs).zip us)
/-- the exception at a with its dict at dx -/
def exH (H : Hp) (a C dx : Addr) (l : List (Str × V)) : Hp := upd (upd H dx (exd dx l)) a (exo a C (some dx))
/-- what such an __init__ does -/
def spE (C : Addr) (fs : List Str) : Sp := fun vs H Q _ => ∃ a ws, vs = .ref a :: ws ∧ ws.length = fs.length ∧ H a = some (exo a C none) ∧ (fs = [] → Q .non H) ∧ (fs ≠ [] → ∀ dx, H dx = none → dx ≠ a → Q .non (exH H a C dx (fs.zip ws).reverse))
theorem exH_next {H : Hp} {a C dx : Addr} {l l' : List (Str × V)} (h : dx ≠ a) : upd (exH H a C dx l) dx (exd dx l') = exH H a C dx l' := by
  funext b
  unfold exH upd
  by_cases h1 : b = dx
  · subst h1
    rw [if_pos rfl, if_neg h, if_pos rfl]
  · rw [if_neg h1]
    by_cases h2 : b = a
    · rw [if_pos h2, if_pos h2]
    · rw [if_neg h2, if_neg h2, if_neg h1, if_neg h1]
section
variable {P : Program} [PM : PMain P] {w : World} {K : PySem.W.Frag} {mg : Str → Option Value} {base : Heap} {k : Nat} {x qual : Str} {C : Addr} {st : Stmt} {f1 f2 f3 : Str} {q1 q2 q3 q4 q5 q6 q7 q8 q9 q10 q11 q12 : Pos} {rest : List Stmt}
theorem exn0 (D : Exn K mg x C qual st []) (W : ExS qual st [] []) : Exm P w K mg base (k + 1) x C (spE C []) := by
  obtain ⟨z, kd, p0, p1, p2, p3, p4, p5, hb, hi, hev⟩ := W.body
  obtain ⟨ar, hp, har⟩ := W.ar
  refine exn_fn D W.S hb hp har W.ks W.bind hi hev (fun vs H Q E ⟨a, ws, e1, e2, e3, _⟩ => ⟨a, ws, e1, e2, e3⟩) fun cc cda f A outer s H vs Q E h => ?_
  obtain ⟨a, ws, e1, e2, e3, e4, _⟩ := h
  exact ⟨_, pss_nil, e4 rfl⟩
theorem exn1 (D : Exn K mg x C qual st [f1]) (W : ExS qual st [f1] rest) (hr : rest = [.Assign [.Attribute (.Name "self" q1) f1 q2] (.Name f1 q3) q4] := by rfl) (hd : (f1 == ("__debug__" : Str)) = false := by decide) (hc : (f1 == ("__classdict__" : Str)) = false := by decide) : Exm P w K mg base (k + 1) x C (spE C [f1]) := by
  subst hr
  obtain ⟨z, kd, p0, p1, p2, p3, p4, p5, hb, hi, hev⟩ := W.body
  obtain ⟨ar, hp, har⟩ := W.ar
  refine exn_fn D W.S hb hp har W.ks W.bind hi hev (fun vs H Q E ⟨a, ws, e1, e2, e3, _⟩ => ⟨a, ws, e1, e2, e3⟩) fun cc cda f A outer s H vs Q E h => ?_
  obtain ⟨a, ws, e1, e2, e3, _, e4⟩ := h
  subst e1
  obtain ⟨y, rfl⟩ : ∃ y, ws = [y] := by
    match ws, e2 with
    | [y], _ => exact ⟨y, rfl⟩
  refine ⟨_, pss_one (ps_ost (pe_var (i := 0) rfl (.inl (W.S.par _ (by simp)))) (pe_var (i := 1) rfl (.inl (W.S.par _ (by simp))) hd hc)), ?_⟩
  exact ⟨y, rfl, .ref a, rfl, a, C, rfl, D.oex, D.no _ (by simp), .inl ⟨e3, fun dx h1 h2 => e4 (by simp) dx h1 h2⟩⟩
theorem exn2 (D : Exn K mg x C qual st [f1, f2]) (W : ExS qual st [f1, f2] rest) (hr : rest = [.Assign [.Attribute (.Name "self" q1) f1 q2] (.Name f1 q3) q4, .Assign [.Attribute (.Name "self" q5) f2 q6] (.Name f2 q7) q8] := by rfl)
    (hd : (f1 == ("__debug__" : Str)) = false := by decide) (hc : (f1 == ("__classdict__" : Str)) = false := by decide) (hd2 : (f2 == ("__debug__" : Str)) = false := by decide) (hc2 : (f2 == ("__classdict__" : Str)) = false := by decide) : Exm P w K mg base (k + 1) x C (spE C [f1, f2]) := by
  subst hr
  obtain ⟨z, kd, p0, p1, p2, p3, p4, p5, hb, hi, hev⟩ := W.body
  obtain ⟨ar, hp, har⟩ := W.ar
  refine exn_fn D W.S hb hp har W.ks W.bind hi hev (fun vs H Q E ⟨a, ws, e1, e2, e3, _⟩ => ⟨a, ws, e1, e2, e3⟩) fun cc cda f A outer s H vs Q E h => ?_
  obtain ⟨a, ws, e1, e2, e3, _, e4⟩ := h
  subst e1
  obtain ⟨y1, y2, rfl⟩ : ∃ y1 y2, ws = [y1, y2] := by
    match ws, e2 with
    | [y1, y2], _ => exact ⟨y1, y2, rfl⟩
  refine ⟨_, pss_cons (ps_ost (pe_var (i := 0) rfl (.inl (W.S.par _ (by simp)))) (pe_var (i := 1) rfl (.inl (W.S.par _ (by simp))) hd hc)) (pss_one (ps_ost (pe_var (i := 0) rfl (.inl (W.S.par _ (by simp)))) (pe_var (i := 2) rfl (.inl (W.S.par _ (by simp))) hd2 hc2))), ?_⟩
  refine ⟨y1, rfl, .ref a, rfl, a, C, rfl, D.oex, D.no _ (by simp), .inl ⟨e3, fun dx h1 h2 => ?_⟩⟩
  refine ⟨y2, rfl, .ref a, rfl, a, C, rfl, D.oex, D.no _ (by simp), .inr ⟨dx, [(f1, y1)], upd_same, (upd_ne h2).trans upd_same, by simp, ?_⟩⟩
  have e := e4 (by simp) dx h1 h2
  rw [← exH_next (l := [(f1, y1)]) h2] at e
  exact e
theorem exn3 (D : Exn K mg x C qual st [f1, f2, f3]) (W : ExS qual st [f1, f2, f3] rest) (hr : rest = [.Assign [.Attribute (.Name "self" q1) f1 q2] (.Name f1 q3) q4, .Assign [.Attribute (.Name "self" q5) f2 q6] (.Name f2 q7) q8, .Assign [.Attribute (.Name "self" q9) f3 q10] (.Name f3 q11) q12] := by rfl)
    (hd : (f1 == ("__debug__" : Str)) = false := by decide) (hc : (f1 == ("__classdict__" : Str)) = false := by decide) (hd2 : (f2 == ("__debug__" : Str)) = false := by decide) (hc2 : (f2 == ("__classdict__" : Str)) = false := by decide)
    (hd3 : (f3 == ("__debug__" : Str)) = false := by decide) (hc3 : (f3 == ("__classdict__" : Str)) = false := by decide) : Exm P w K mg base (k + 1) x C (spE C [f1, f2, f3]) := by
  subst hr
  obtain ⟨z, kd, p0, p1, p2, p3, p4, p5, hb, hi, hev⟩ := W.body
  obtain ⟨ar, hp, har⟩ := W.ar
  refine exn_fn D W.S hb hp har W.ks W.bind hi hev (fun vs H Q E ⟨a, ws, e1, e2, e3, _⟩ => ⟨a, ws, e1, e2, e3⟩) fun cc cda f A outer s H vs Q E h => ?_
  obtain ⟨a, ws, e1, e2, e3, _, e4⟩ := h
  subst e1
  obtain ⟨y1, y2, y3, rfl⟩ : ∃ y1 y2 y3, ws = [y1, y2, y3] := by
    match ws, e2 with
    | [y1, y2, y3], _ => exact ⟨y1, y2, y3, rfl⟩
  refine ⟨_, pss_cons (ps_ost (pe_var (i := 0) rfl (.inl (W.S.par _ (by simp)))) (pe_var (i := 1) rfl (.inl (W.S.par _ (by simp))) hd hc)) (pss_cons (ps_ost (pe_var (i := 0) rfl (.inl (W.S.par _ (by simp)))) (pe_var (i := 2) rfl (.inl (W.S.par _ (by simp))) hd2 hc2))
    (pss_one (ps_ost (pe_var (i := 0) rfl (.inl (W.S.par _ (by simp)))) (pe_var (i := 3) rfl (.inl (W.S.par _ (by simp))) hd3 hc3)))), ?_⟩
  refine ⟨y1, rfl, .ref a, rfl, a, C, rfl, D.oex, D.no _ (by simp), .inl ⟨e3, fun dx h1 h2 => ?_⟩⟩
  refine ⟨y2, rfl, .ref a, rfl, a, C, rfl, D.oex, D.no _ (by simp), .inr ⟨dx, [(f1, y1)], upd_same, (upd_ne h2).trans upd_same, by simp, ?_⟩⟩
  rw [show upd (upd (upd H dx (exd dx [(f1, y1)])) a (exo a C (some dx))) dx (exd dx [(f2, y2), (f1, y1)]) = exH H a C dx [(f2, y2), (f1, y1)] from exH_next (l := [(f1, y1)]) h2]
  refine ⟨y3, rfl, .ref a, rfl, a, C, rfl, D.oex, D.no _ (by simp), .inr ⟨dx, [(f2, y2), (f1, y1)], upd_same, (upd_ne h2).trans upd_same, by simp, ?_⟩⟩
  have e := e4 (by simp) dx h1 h2
  rw [← exH_next (l := [(f2, y2), (f1, y1)]) h2] at e
  exact e
end
/-! ### C(e, ..) made to be raised -/
/-- a reading that may be weakened -/
def taW (ta : TA) : TA := fun σ H P => ∃ P0 : List V → Hp → Prop, ta σ H P0 ∧ ∀ vs H1, P0 vs H1 → P vs H1
theorem pa_w {X : Cx} {es : List Expr} {ta : TA} (ha : PA X es ta) : PA X es (taW ta) := ⟨fun pos pins s σ H Q I ⟨P0, h, hp⟩ => thn (ha.run pos pins s σ H P0 I h) fun us s' ⟨vs, H', J, r, q⟩ => ⟨vs, H', J, r, hp _ _ q⟩⟩
/-- C(e, ..), C an own exception with the fields fs: its dict has them -/
def tExn (C : Addr) (fs : List Str) (ta : TA) : L2.St → Hp → XK → Prop := fun σ H Q => ta σ H fun vs H1 => vs.length = fs.length ∧ ∀ d, H1 d = none → Q (.ref C) (some d) (upd H1 d (.xd (fs.zip vs).reverse))
def tExn0 (C : Addr) : L2.St → Hp → XK → Prop := fun _ H Q => Q (.ref C) none H
theorem exH_end {H : Hp} {a C d : Addr} {l : List (Str × V)} (ha : H a = none) (hd : d ≠ a) : upd (del (exH (upd H a (exo a C none)) a C d l) a) d (.xd l) = upd H d (.xd l) := by
  funext b
  unfold exH upd del
  by_cases h1 : b = d
  · rw [if_pos h1, if_pos h1]
  · rw [if_neg h1, if_neg h1]
    by_cases h2 : b = a
    · rw [h2, ha]
      exact if_pos rfl
    · show (if b = a then none else _) = _
      rw [if_neg h2]
      show (if b = a then _ else if b = d then _ else if b = a then _ else H b) = _
      rw [if_neg h2, if_neg h1, if_neg h2]
section
variable {X : Cx} {e : Expr} {es : List Expr} {ta : TA} {p pos : Pos} {x : Str} {C : Addr} {k j : Nat} {fs : List Str}
theorem pmk_exn (c : Exm X.prog X.w X.K X.mg X.base k x C (spE C fs)) (hr : Room j X.A) (hk : k + 1 ≤ j) (hg : Gl X x) (ha : PA X (e :: es) ta) (hn : fs ≠ []) (hn2 : fs.length ≤ 1000 := by decide)
    (hdb : (x == ("__debug__" : Str)) = false := by decide) (he : starEach (e :: es) X.env = (false, eval e X.env) :: starEach es X.env := by rfl) (hpl : (backTo pos (starEach es X.env)).any (·.1) = false := by rfl) :
    PMk X (.Call (.Name x p) (e :: es) [] pos) (tExn C fs ta) := by
  obtain ⟨f, fd, ps, T, hm, iC, tI, F, b⟩ := c.ex
  intro pins s σ H Q I h
  refine pmk_oex T iC tI F (hr.mono hk) b .nil (fun pins σ H s e s' I hq => ?_) hg hm (pa_w ha) hdb he hpl pins s σ H Q I ?_
  · obtain ⟨_, _, _, _, _, _, _, _, _, _, _, _, z⟩ := hq
    exact z.elim
  · refine ⟨_, h, fun vs H1 ⟨hl, q⟩ => ⟨by omega, fun a ha => ?_⟩⟩
    rw [List.append_nil]
    refine ⟨a, vs, rfl, hl, upd_same, fun z => absurd z hn, fun _ dx h1 h2 => ⟨rfl, dx, (fs.zip vs).reverse, upd_same, (upd_ne h2).trans upd_same, ?_, ?_⟩⟩
    · rw [upd_ne h2] at h1
      exact h1
    · rw [exH_end ha h2]
      rw [upd_ne h2] at h1
      exact q dx h1
end
section
variable {X : Cx} {p pos : Pos} {x : Str} {C : Addr} {k j : Nat}
/-- the end of C(), an exception without fields -/
theorem mk_endN {pins : List (Addr × Obj)} {σ : L2.St} {H1 : Hp} {hp hp2 h2 : Heap} {g1 g2 : Array GenState} {d1 d2 : Drawn} {t1 t2 : Nat} {os1 os2 : OsState} {a : Addr} (I1 : Inv X pins σ H1 ⟨hp, g1, d1, t1, os1⟩)
    (ha : hp.objs.size ≤ a) (k : ∀ b o, hp.get? b = some o → hp2.get? b = some o) (un : Un (frs X.stack) [] (upd H1 a (exo a C none)) (upd H1 a (exo a C none)) hp2 h2) (hok : HOk X.prog X.w (upd H1 a (exo a C none)) h2) (ho : os2 = os1) (hb : AllBare g2) :
    ∃ (t0 : Addr) (G : Heap), Inv X pins σ H1 ⟨G, g2, d2, t2, os2⟩ ∧ (∀ b o, G.get? b = some o → h2.get? b = some o) ∧ G.get? a = none ∧
      h2.get? a = some ({ cls := .ref C, dict := none, data := .fields #[.ref t0, .none, .none, .none, .bool false, .none] } : Obj) ∧ H1 a = none := by
  obtain ⟨t0, hoe⟩ := exo_at hok upd_same
  have hn : H1 a = none := I1.hok.fresh ha
  obtain ⟨G, g1', g2'⟩ := restrict h2 fun b => decide (b ≠ a)
  have gk : ∀ b, b ≠ a → G.get? b = h2.get? b := fun b hb => g1' b (decide_eq_true hb)
  have ge : G.get? a = none := g2' a (by simp)
  have nha : ∀ {b : Addr} {o : Obj}, hp.get? b = some o → b ≠ a := fun {b o} z => Nat.ne_of_lt (Nat.lt_of_lt_of_le (Heap.lt_size z) ha)
  have up : ∀ {b : Addr}, b ≠ a → H1 b = none → upd H1 a (exo a C none) b = none := fun {b} hb n => by rw [upd_ne hb]; exact n
  have U : Un (frs X.stack) [] H1 H1 hp G := {
    keep := fun b o z n hf hx => by
      rw [gk b (nha z)]
      exact un.keep b o (k b o z) (up (nha z) n) hf hx
    slot := fun b o z n hf hx => by
      rw [gk b (nha z)]
      exact un.slot b o (k b o z) (up (nha z) n) hf hx
    free := fun b o z n hx => n
    there := fun b o z hx => by
      rw [gk b (nha z)]
      exact un.there b o (k b o z) hx
    tups := fun b xs z => z
    frzs := fun b o v z => z
    tbls := fun b ps z => ⟨#[], by rw [z]; simp⟩ }
  have hok3 : HOk X.prog X.w H1 G := fun b o z => by
    have hba : b ≠ a := fun e => by
      rw [e, hn] at z
      cases z
    have z2 : upd H1 a (exo a C none) b = some o := by rw [upd_ne hba]; exact z
    have noa : ∀ {c : Addr} {u : HO}, H1 c = some u → c ≠ a := fun {c u} hc e => by
      rw [e, hn] at hc
      cases hc
    have nox : ∀ {c : Addr}, upd H1 a (exo a C none) c = some (.own b) → c ≠ a := fun {c} hc => at_ne upd_same hc exo_own
    exact (hok b o z2).stay (fun c v hc y => by
        have hca : c ≠ a := by
          rcases hc with hc | hc
          · rw [hc]
            exact hba
          · exact nox hc
        rw [gk c hca]
        exact y)
      (fun c hc => by
        have e := nox hc
        rw [upd_ne e] at hc
        exact hc)
      (fun c xs hc => by
        have e : c ≠ a := at_ne upd_same hc exo_tup
        rw [upd_ne e] at hc
        exact hc)
  have J : Inv X pins σ H1 ⟨G, g2, d2, t2, os2⟩ := I1.call' (ch := []) ho U hok3 hb (fun b z => absurd z (by simp))
  refine ⟨t0, G, J, fun b o z => ?_, ge, hoe, hn⟩
  by_cases hba : b = a
  · rw [hba, ge] at z
    cases z
  · exact (gk b hba).symm.trans z
/-- C(), C an own exception without fields -/
theorem pmk_exn0 (c : Exm X.prog X.w X.K X.mg X.base k x C (spE C [])) (hr : Room j X.A) (hk : k + 1 ≤ j) (hg : Gl X x)
    (hdb : (x == ("__debug__" : Str)) = false := by decide) : PMk X (.Call (.Name x p) [] [] pos) (tExn0 C) := by
  obtain ⟨f, fd, ps, T, hm, iC, tI, F1, hb⟩ := c.ex
  intro pins s σ H Q I h
  obtain ⟨nm, q, N, bs, bm, sn, sub, ab, col, dd, k0, k1, k2, k3, k5, hC, hbm⟩ := T.cls
  refine wpAny_Call_Name_kw (ld_glob I hg hm ?_ hdb)
  refine PySem.W.callWith_K0 I.kIn T.kC ?_
  show wpAny _ _ (call (.ref C) []) _ _ _
  obtain ⟨hp, g, dr, tk, os⟩ := s
  have hsz : hp.objs.size ≤ hp.objs.size + 1 := Nat.le_succ _
  have hn : H (hp.objs.size + 1) = none := I.hok.fresh hsz
  have kk : ∀ b o, hp.get? b = some o → ((hp.push (PySem.W.kdv_tup [])).push (PySem.HandSPX.excO C hp.objs.size)).get? b = some o := fun b o e => Heap.get?_push_of_some _ (Heap.get?_push_of_some _ e)
  have hget : ((hp.push (PySem.W.kdv_tup [])).push (PySem.HandSPX.excO C hp.objs.size)).get? (hp.objs.size + 1) = some (PySem.HandSPX.excO C hp.objs.size) := by heap_get
  have I2 : Inv X pins σ (upd H (hp.objs.size + 1) (exo (hp.objs.size + 1) C none)) ⟨(hp.push (PySem.W.kdv_tup [])).push (PySem.HandSPX.excO C hp.objs.size), g, dr, tk, os⟩ :=
    I.laid (t' := tk) (a := hp.objs.size + 1) (o := exo (hp.objs.size + 1) C none) (h' := (hp.push (PySem.W.kdv_tup [])).push (PySem.HandSPX.excO C hp.objs.size)) kk hsz (exo_ok hget)
  have hq : spE C [] [V.ref (hp.objs.size + 1)] (upd H (hp.objs.size + 1) (exo (hp.objs.size + 1) C none)) (fun v H2 => v = .non ∧ H2 = upd H (hp.objs.size + 1) (exo (hp.objs.size + 1) C none)) (fun _ _ _ => False) := ⟨_, [], rfl, rfl, upd_same, fun _ => ⟨rfl, rfl⟩, fun z => absurd rfl z⟩
  have r2 : Vals [V.ref (hp.objs.size + 1)] [Value.ref (hp.objs.size + 1)] := .cons rfl .nil
  have hl : ([Value.ref (hp.objs.size + 1)] ++ []).length = ps.length := by
    rw [← F1.len _ _ _ _ hq]
    rfl
  refine wpAny_call (PySem.HandSPX.call_own F.excBase_ValueError (fun Y => PySem.HandSPX.refsVE_contains Y bm hbm) (I.kIn _ _ hC) (PySem.W.looks_findIn I.kIn iC) (fun self => PySem.W.bind_fn I.kIn self tI) (by rw [sizeLine_eq]; exact Nat.zero_le _)
    (codeAny_mono (F1.run _ X.stack _ _ ⟨[Value.ref (hp.objs.size + 1)], []⟩ [Value.ref (hp.objs.size + 1)] _ _ (fun _ _ _ => False) ((hr.mono hk).make C [] []) (I2.env0.make C [] []) (hb _ _ I2.kIn hl) r2 hq) fun r s' hq' => ?_))
  cases r with
  | error er =>
    obtain ⟨_, _, _, _, _, _, _, _, _, _, _, _, z⟩ := hq'
    exact z.elim
  | ok fl =>
    cases fl with
    | ret u =>
      obtain ⟨v, H2, os2, bare2, un2, hok2, rv, ev, eH⟩ := hq'
      subst ev
      subst eH
      obtain ⟨h2, g2, d2, t2, os'⟩ := s'
      obtain ⟨t0, G, J, kG, ge, hoe, na⟩ := mk_endN (d2 := d2) (t2 := t2) I hsz kk un2 hok2 os2 bare2
      exact ⟨rv, _, _, _, ⟨G, g2, d2, t2, os'⟩, _, .ref C, none, rfl, J, kG, ge, hoe, ⟨rfl, rfl⟩, rfl, rfl, na, rfl, bare2, raises_own T.exC T.tyC, h⟩
    | next => exact False.elim hq'
    | brk => exact False.elim hq'
    | cont => exact False.elim hq'
end
/-! ### calls that may raise: in a def that lets it out (passE), in a try (passAt) -/
theorem passE {X : Cx} {E : XK} {E₁ : Value → Shared → Prop} (hs : X.stack = X.env :: X.outer) (hf : X.env.frame = some X.env.locals) (hex : X.ex = [])
    (hx : X.xe = fun e s' => wpAny (model X.prog X.w) X.A (leaving X.env e) (fun _ s'' => L2.CX X.prog X.w X.outer X.H_0 X.s_0 E e s'') E₁ s') : Passes (L2.CX X.prog X.w) X E :=
  fun _ _ _ _ e s' I c => takes_of hs hf hex hx e s' (XE.of_call I (fun _ _ _ h => h) c)
def tMethS (C : Addr) (m : Str) (sp : Sp) (E : L2.St → XK) (ta : TE) (t : TA) : TE := fun σ H Q => ta σ H fun x H1 => ∃ a dx fs, x = .ref a ∧ H1 a = some (.ins C dx fs) ∧ fs.lookup m = none ∧ t σ H1 fun vs H2 => sp (x :: vs) H2 Q (E σ)
def tMakeS (C : Addr) (sp : Sp) (E : L2.St → XK) (t : TA) : TE := fun σ H Q => t σ H fun vs H1 => ∀ x dx, H1 x = none → H1 dx = none → dx ≠ x →
  sp (.ref x :: vs) (upd (upd H1 dx (.own x)) x (.ins C dx [])) (fun v H2 => v = .non ∧ Q (.ref x) H2) (E σ)
section
variable {X : Cx} {k j : Nat} {C : Addr} {x m : Str} {sp : Sp} {p pos apos : Pos} {e o : Expr} {es : List Expr} {ta : TE} {t : TA} {E : L2.St → XK}
theorem pe_cxS (c : Cal X.prog X.w X.K X.mg X.base k x sp []) (hr : Room j X.A) (hk : k ≤ j) (hg : Gl X x) (hx : ∀ σ, PassesAt (L2.CX X.prog X.w) X σ (E σ)) (ha : PA X (e :: es) t)
    (hdb : (x == ("__debug__" : Str)) = false := by decide) (he : starEach (e :: es) X.env = (false, eval e X.env) :: starEach es X.env := by rfl) (hpl : (backTo pos (starEach es X.env)).any (·.1) = false := by rfl) :
    PE X (.Call (.Name x p) (e :: es) [] pos) (tCallS sp E t) := by
  obtain ⟨f, fd, ps, ds, F, hm, kp, b, d⟩ := c.ex
  cases d
  exact pe_callS F (hr.mono hk) hg hm kp b hx ha hdb he hpl
theorem pe_mtxS {pl : Sem Bool} (c : Met X.prog X.w X.K X.mg X.base k C m sp []) (hr : Room j X.A) (hk : k ≤ j) (hx : ∀ σ, PassesAt (L2.CX X.prog X.w) X σ (E σ)) (he : PE X o ta) (ha : PA X (e :: es) t)
    (hst : starEach (e :: es) X.env = (false, eval e X.env) :: starEach es X.env := by rfl) (hpl : (backTo pos (starEach es X.env)).any (·.1) = false := by rfl)
    (ht : eval (.Call (.Attribute o m apos) (e :: es) [] pos) X.env = (do
      let ov ← eval o X.env
      standAt apos.atName
      let (f, first) ← holding [ov] (getMethod ov m pl)
      callWith pos f first (backTo pos (starEach (e :: es) X.env)) (backToKw pos (keywordEach [] X.env))) := by rfl) :
    PE X (.Call (.Attribute o m apos) (e :: es) [] pos) (tMethS C m sp E ta t) := by
  obtain ⟨f, fd, ps, ds, hc, hm, F, b, d⟩ := c.ex
  cases d
  refine ⟨fun pins s σ H Q I h => ?_⟩
  refine PySem.W.methodCall_KW (pl := pl) (thn (he.run pins s σ H _ I h) fun u s1 ⟨x, H1, I1, rx, a, dx, fs, ex, ea, l, q⟩ => ?_) ht
  subst ex
  obtain rfl : u = Value.ref a := rx
  refine getmeth_ok I1 ea hc hm l ?_
  refine PySem.W.callWith_K (first := [.ref a]) (h₀ := X.base) I.ok.mod.kin hm.kp (thn (ha.run pos pins s1 σ H1 _ I1 q) fun us s2 ⟨vs, H2, I2, r, q2⟩ => ⟨I2.kIn, ?_⟩) hst hpl
  exact run_fnS (us := .ref a :: us) (vs := .ref a :: vs) F (hr.mono hk) b (hx σ) I2 (.cons rfl r) q2
theorem pe_mkxS (c : Mak X.prog X.w X.K X.mg X.base k x C sp []) (hr : Room j X.A) (hk : k + 1 ≤ j) (hg : Gl X x) (hx : ∀ σ, PassesAt (L2.CX X.prog X.w) X σ (E σ)) (ha : PA X (e :: es) t)
    (hdb : (x == ("__debug__" : Str)) = false := by decide) (he : starEach (e :: es) X.env = (false, eval e X.env) :: starEach es X.env := by rfl) (hpl : (backTo pos (starEach es X.env)).any (·.1) = false := by rfl) :
    PE X (.Call (.Name x p) (e :: es) [] pos) (tMakeS C sp E t) := by
  obtain ⟨f, fd, ps, ds, M, F, hm, b, d⟩ := c.ex
  cases d
  refine ⟨fun pins s σ H Q I h => ?_⟩
  refine wpAny_Call_Name_kw (ld_glob I hg hm ?_ hdb)
  refine PySem.W.callWith_K (h₀ := X.base) I.ok.mod.kin M.kp (thn (ha.run pos pins s σ H _ I h) fun us s1 ⟨vs, H1, I1, r, q⟩ => ⟨I1.kIn, ?_⟩) he hpl
  have hq := q (s1.heap.objs.size + 1) s1.heap.objs.size (I1.hok.fresh (Nat.le_succ _)) (I1.hok.fresh (Nat.le_refl _)) (Nat.ne_of_lt (Nat.lt_succ_self _))
  have I2 := Inv.made (C := C) I1
  have r2 : Vals (V.ref (s1.heap.objs.size + 1) :: vs) (Value.ref (s1.heap.objs.size + 1) :: us) := .cons rfl r
  have hl : (Value.ref (s1.heap.objs.size + 1) :: us ++ []).length = ps.length := by
    have e := r2.length
    rw [F.len _ _ _ _ hq] at e
    rw [List.append_nil]
    exact e.symm
  have bb := b _ (Value.ref (s1.heap.objs.size + 1) :: us) I2.kIn hl
  rw [List.append_nil] at bb
  refine wpAny_call (make_map (f := f) I1.kIn M.makes M.init (beq_iff_eq.mp M.fn) (codeAny_mono (F.run _ X.stack _ _ ⟨Value.ref (s1.heap.objs.size + 1) :: us, []⟩ (Value.ref (s1.heap.objs.size + 1) :: us) _ _ (E σ) ((hr.mono hk).make C us [])
    (I2.env0.make C us []) bb r2 hq) fun r s' hq' => ?_))
  cases r with
  | error e => exact hx σ pins _ _ e s' I2 hq'
  | ok fl =>
    cases fl with
    | ret u =>
      obtain ⟨v, H', I3, rv, ev, q3⟩ := I2.after hq'
      subst ev
      exact ⟨rv, ⟨V.ref (s1.heap.objs.size + 1), H', I3, rfl, q3⟩⟩
    | next => exact False.elim hq'
    | brk => exact False.elim hq'
    | cont => exact False.elim hq'
end
/-- no exception of the body goes further than the clauses -/
theorem takesN {X : Cx} : Takes X (fun _ _ _ _ => False) := fun _ _ x => by
  obtain ⟨_, _, _, _, _, _, _, _, _, _, _, _, _, _, _, _, z⟩ := x
  exact z.elim
/-- the clause of an own class tells of an exception of a class -/
theorem Exn.exm {K : PySem.W.Frag} {mg : Str → Option Value} {x qual : Str} {C : Addr} {st : Stmt} {fs : List Str} (D : Exn K mg x C qual st fs) {cls : Value} {b : Bool} (h : PySem.W.subIn K cls (.ref C) = some b) : PySem.W.exmOne K cls (.ref C) = some b :=
  PySem.W.exm_ref D.oex.exC (by
    obtain ⟨nm, q, N, bs, bm, sn, sub, ab, col, dd, k0, k1, k2, k3, k5, hC, hbm⟩ := D.oex.cls
    unfold PySem.W.hasDictIn PySem.W.clsIn
    rw [hC]
    rfl) D.oex.tyC h
theorem Exn.self {K : PySem.W.Frag} {mg : Str → Option Value} {x qual : Str} {C : Addr} {st : Stmt} {fs : List Str} (D : Exn K mg x C qual st fs) : PySem.W.exmOne K (.ref C) (.ref C) = some true := D.exm (by
  have e := D.sub
  unfold PySem.W.subIn
  first | exact e | (simp [e]))
end Tr

/-! # a, b = an item that is a tuple or a list. -/
namespace Tr
open PySem PySem.Spec PyProof.Rows L2
/-- a tuple or a list -/
def SqE (K : PySem.W.Frag) (H : Hp) (a : Addr) (xs : List V) : Prop := SqT K H a xs ∨ SqL K H a xs
/-- a, b, .. = a tuple or a list of that length -/
def gSeq (K : PySem.W.Frag) (n : Nat) (t : TGs) : TG := fun v σ H Q => ∃ a xs, v = .ref a ∧ SqE K H a xs ∧ xs.length = n ∧ t xs σ H Q
theorem pg_seq {X : Cx} {pos : Pos} {es : List Expr} {k : Nat} {t : TGs} {n : Nat} (hc : X.calm = true) (h : PGs X es t)
    (hn : (assignEach es X.env).length = n := by rfl) (hst : (assignEach es X.env).findIdx? (·.1) = none := by rfl) : PG X (.Tuple es k pos) (gSeq X.K n t) := by
  refine ⟨fun pins s σ H v u Q I r hw => ?_⟩
  obtain ⟨a, xs, e1, hq, hl, hw⟩ := hw
  rcases hq with hq | hq
  · exact (pg_tup hc h hn hst).run pins s σ H v u Q I r ⟨a, xs, e1, hq, hl, hw⟩
  · exact (pg_lst hc h hn hst).run pins s σ H v u Q I r ⟨a, xs, e1, hq, hl, hw⟩
end Tr

/-! # A method that answers NotImplemented; == of an object and a thing of another kind. -/
namespace Tr
open PySem PySem.Spec PyProof.Rows L2
/-- statements that end by NotImplemented, the heap as it was -/
structure PNi (X : Cx) (st : List Stmt) (t : L2.St → Hp → Prop) : Prop where
  run : ∀ (pins : List (Addr × Obj)) (s : Shared) (σ : L2.St) (H : Hp), Inv X pins σ H s → t σ H → wpAny (model X.prog X.w) X.A (execs st X.env) (fun f s' => f = .ret .notImplemented ∧ ∃ σ', Inv X pins σ' H s') X.xe s
theorem pni_ret {X : Cx} {pos p2 : Pos} {rest : List Stmt} (hg : Gl X "NotImplemented") (hm : X.mg "NotImplemented" = none) : PNi X (.Return (some (.Name "NotImplemented" pos)) p2 :: rest) fun _ _ => True := by
  refine ⟨fun pins s σ H I _ => ?_⟩
  refine wpAny_execs_cons (wpAny_Return_some (ld_blt I hg hm (u := .notImplemented) (by rfl) ?_))
  exact ⟨rfl, σ, I⟩
theorem pni_if {X : Cx} {c : Expr} {a b : List Stmt} {pos : Pos} {rest : List Stmt} {tc : TT} {t : L2.St → Hp → Prop} (hc : PT X c tc) (ha : PNi X a t) : PNi X (.If c a b pos :: rest) fun σ H => tc σ H fun d H' => d = true ∧ H' = H ∧ t σ H := by
  refine ⟨fun pins s σ H I h => ?_⟩
  refine wpAny_execs_cons (wpAny_If (thn (hc.run pins s σ H _ I h) fun d s1 ⟨H1, I1, q1⟩ => ?_))
  obtain ⟨rfl, rfl, q⟩ := q1
  refine thn (ha.run pins s1 σ H1 I1 q) fun f s2 q2 => ?_
  obtain ⟨rfl, q2⟩ := q2
  exact ⟨rfl, q2⟩
theorem PNi.nox {X : Cx} {st : List Stmt} {t : L2.St → Hp → Prop} (h : PNi X.nox st t) : PNi X st t := ⟨fun pins s σ H I q => wpAny_mono (h.run pins s σ H (I.wish _) q) (fun _ _ ⟨e, σ', I'⟩ => ⟨e, σ', I'.unwish⟩) fun _ _ z => False.elim z⟩
/-- the end of such a call -/
def CNi (outer : List Env) (P : Program) (w : World) (H : Hp) (s : Shared) (r : Result) (s' : Shared) : Prop :=
  r = .ok (.ret .notImplemented) ∧ s'.os = s.os ∧ AllBare s'.gens ∧ Un (frs outer) [] H H s.heap s'.heap ∧ HOk P w H s'.heap
structure FnNi (P : Program) (w : World) (K : PySem.W.Frag) (mg : Str → Option Value) (base : Heap) (k : Nat) (f : Addr) (fd : FuncData) (ps : List Str) (sp : List V → Hp → Prop) : Prop where
  len : ∀ vs H, sp vs H → vs.length = ps.length
  run : ∀ (A : Around) (outer : List Env) (s : Shared) (H : Hp) (args : Args) (us : List Value) (vs : List V), Room k A → Env0 P w K mg base A outer s H → BindsTo s fd args (ps.zip us) → Vals vs us → sp vs H →
    codeAny (model P w) A (.call (.ref f) args) (CNi outer P w H s) s
/-- a method that answers NotImplemented -/
structure NiMet (P : Program) (w : World) (K : PySem.W.Frag) (mg : Str → Option Value) (base : Heap) (k : Nat) (C : Addr) (m : Str) (sp : List V → Hp → Prop) : Prop where
  ex : ∃ (f : Addr) (fd : FuncData) (ps : List Str), Cls K C ∧ Meth K C m f ∧ FnNi P w K mg base k f fd ps sp ∧ Binds K fd ps []
section
variable {P : Program} {w : World} {K : PySem.W.Frag} {mg : Str → Option Value} {base : Heap}
theorem fni_of {k : Nat} {f : Addr} {name qual : Str} {params : Arguments} {body : List Stmt} {scope : Scope} {dV kV doc pm cdv ct oc : Value} {an od : Option Addr}
    {osl : Array (Option Value)} {N ps : List Str} {sp : List V → Hp → Prop} (lk : K.lookup f = some ⟨oc, od, .func (PySem.W.fnOf name qual params body scope dV kV doc pm an cdv ct), osl⟩) (hcd : PySem.W.codeIn K cdv qual = true) (S : FnScope N ps scope)
    (len : ∀ vs H, sp vs H → vs.length = ps.length)
    (hbody : ∀ (A : Around) (outer : List Env) (s : Shared) (H : Hp) (vs : List V) (E : XK), Room k (A.deeper (envOfC qual scope s.heap.objs.size f cdv)) → sp vs H →
      ∃ t, PNi (cxOf (L2.CX P w) P w K mg base N qual scope f cdv A outer s H E).nox body t ∧ t (start N vs) H) :
    FnNi P w K mg base (k + 1) f (PySem.W.fnOf name qual params body scope dV kV doc pm an cdv ct) ps sp := by
  refine ⟨len, fun A outer s H args us vs hr e0 hb r hsp => ?_⟩
  have stands : ∀ b o, base.get? b = some o → s.heap.get? b = some o := fun b o e => (e0.bs b o e).1
  have inK := e0.mod.kin.keeps stands
  obtain ⟨t, body_, start_⟩ := hbody A outer s H vs (fun _ _ _ => False) (hr.deeper _) hsp
  refine codeAny_call_function hr.depth (inK _ _ lk) rfl S.co S.gen rfl (PySem.W.codeRec_of inK hcd) (hb _ _ _ _ (wpAny_newFunctionEnv_cells S.kind (fun y hy => ?_) fun env he s1 x => ?_))
  · exact (S.par y.1 (List.of_mem_zip hy).1).imp id fun q => ⟨q, PySem.W.cellsFrom_some _ _ _ (.inl q)⟩
  · subst he
    refine ⟨(e0.mod.nolimit.keeps stands).keeps x.toInCall.keep, codeAny_func ?_⟩
    have begun := inv_start (CX := L2.CX P w) (E := fun _ _ _ => False) S hr.hd e0 (len _ _ hsp) r x
    refine wpAny_mono (body_.run [] s1 _ H (begun.wish _) start_) (fun fl s' ended => ?_) fun _ _ z => False.elim z
    obtain ⟨rfl, σ', J⟩ := ended
    exact ⟨rfl, J.os, J.bare, J.base, J.hok⟩
theorem niN {m qual : Str} {C : Addr} {st : Stmt} {N ps : List Str} {k : Nat} {sp : List V → Hp → Prop} (D : Mth K C m qual st) (S : FnScope N ps (defScope st)) (len : ∀ vs H, sp vs H → vs.length = ps.length)
    (hb : ∀ (kV doc pm : Value) (an : Option Addr) (cdv ct : Value) (us : List Value), us.length = ps.length → bindArgs (PySem.W.fnOf m qual (defArgs st) (defBody st) (defScope st) .none kV doc pm an cdv ct) ⟨us, []⟩ = pure (ps.zip us))
    (hbody : ∀ (f : Addr) (cdv : Value) (A : Around) (outer : List Env) (s : Shared) (H : Hp) (vs : List V) (E : XK), Room k (A.deeper (envOfC qual (defScope st) s.heap.objs.size f cdv)) → sp vs H →
      ∃ t, PNi (cxOf (L2.CX P w) P w K mg base N qual (defScope st) f cdv A outer s H E).nox (defBody st) t ∧ t (start N vs) H) : NiMet P w K mg base (k + 1) C m sp := by
  obtain ⟨f, fd, hm, F⟩ := D.ex
  have F0 := F
  obtain ⟨oc, od, kV, doc, pm, an, cdv, ct, osl, rfl, lk, hcd⟩ := F.ex
  exact ⟨f, _, ps, D.cls, hm, fni_of lk hcd S len fun A outer s H vs E hr h => hbody f cdv A outer s H vs E hr h, F0.binds hb⟩
end
/-! ## richCompare -/
section
variable {M : Model} {A : Around} {E : Value → Shared → Prop} {s : Shared}
/-- == where both decline -/
theorem eq_ni {prog : Program} {w : World} {K : PySem.W.Frag} {x C f : Addr} {tb : String} {b : Value} {ox : Obj} {od : Option Obj} {R R2 : Shared → Prop} {Q : Value → Shared → Prop} (hu : A.units < cLine) (X : K.In s.heap) (I : PySem.W.InstAt s.heap x ox C od)
    (hb : PySem.W.Looks (model prog w) s.heap (typeOf b) (.type tb)) (hn : PySem.W.subIn K (.type tb) (.ref C) = some false) (hs : PySem.W.findIn K (.ref C) "__eq__" = some (some (.ref f))) (hf : PySem.W.isFn K (.ref f) = true)
    (h1 : wpAny (model prog w) A (call (.ref f) [.ref x, b]) (fun v s' => v = .notImplemented ∧ R s') E s)
    (h2 : ∀ s', R s' → wpAny (model prog w) A (tryCompare b "__eq__" (.ref x)) (fun r s' => r = none ∧ R2 s') E s')
    (h3 : ∀ s', R2 s' → wpAny (model prog w) A (isSame (.ref x) b) (fun c s'' => Q (.bool c) s'') E s') : wpAny (model prog w) A (richCompare .Eq (.ref x) b) Q E s := by
  have one : wpAny (model prog w) A (tryCompare (.ref x) "__eq__" b) (fun r s' => r = none ∧ R s') E s := by
    unfold tryCompare
    refine wpAny_bind (PySem.W.ifBound_K X I hs hf (wpAny_mono h1 (fun v s' hv => ?_) fun _ _ e => e))
    obtain ⟨rfl, hv⟩ := hv
    exact wpAny_pure ⟨rfl, hv⟩
  simp only [richCompare, cmpInfo_Eq, oneThing_ref]
  refine wpAny_holding (wpAny_bind (wpAny_cRoomFor hu ?_))
  refine wpAny_bind (I.type.here (wpAny_bind (hb.here ?_)))
  split
  · refine wpAny_bind ((PySem.W.looks_subIn X hn).here ?_)
    simp only [Bool.false_eq_true, if_false, Bool.not_false, if_true]
    refine wpAny_bind (wpAny_mono one (fun r s1 z => ?_) fun _ _ e => e)
    obtain ⟨rfl, z2⟩ := z
    refine wpAny_bind (wpAny_mono (h2 s1 z2) (fun r s2 z => ?_) fun _ _ e => e)
    obtain ⟨rfl, z2⟩ := z
    exact wpAny_bind (wpAny_rule (wpAny_bind (wpAny_mono (h3 _ z2) (fun _ _ q => wpAny_pure q) fun _ _ e => e)))
  · rename_i q
    exact absurd (by simp) q
theorem list_ni (l x : Addr) (items : Array Value) (n : Nat) (dd : Option Addr) (sl : Array (Option Value)) {prog : Program} {w : World} {A : Around} {R : Fin → Shared → Prop} {s : Shared} (hl : s.heap.get? l = some { cls := .type "list", dict := dd, data := .seq items n, slots := sl })
    (hi : PySem.W.Looks (model prog w) s.heap (isInstance (.ref x) (.type "list")) false) (h : R (.done (.ret .notImplemented)) s) {E : Value → Shared → Prop} : wpAny (model prog w) A (Builtin.«list.__eq__» ⟨[.ref l, .ref x], []⟩) R E s := by
  repeat (first | with_reducible refine hi.here ?_ | wp_step)
  exact h
end
/-- a class that is apart from the built-in ones -/
def bNames : List String := ["list", "tuple", "dict", "int", "str", "NoneType", "bool", "set"]
structure KindO (K : PySem.W.Frag) (C : Addr) : Prop where
  one : ∀ n ∈ bNames, PySem.W.kitOne K (.type n) (.ref C) = some false
  sub : ∀ n ∈ bNames, PySem.W.subIn K (.type n) (.ref C) = some false
  mro : ∀ n ∈ bNames, PySem.W.subIn K (.ref C) (.type n) = some false
section
variable {X : Cx} {k : Nat} {C : Addr}
theorem run_ni {f : Addr} {fd : FuncData} {ps : List Str} {sp : List V → Hp → Prop} {pins : List (Addr × Obj)} {σ : L2.St} {H : Hp} {s : Shared} {us : List Value} {vs : List V} {A : Around} {E : Value → Shared → Prop} (F : FnNi X.prog X.w X.K X.mg X.base k f fd ps sp) (hr : Room k A) (hf : A.frames = X.A.frames)
    (hb : Binds X.K fd ps []) (I : Inv X pins σ H s) (r : Vals vs us) (h : sp vs H) : wpAny (model X.prog X.w) A (call (.ref f) us) (fun v s' => v = .notImplemented ∧ Inv X pins σ H s') E s := by
  have there := I.env0
  have e0 : Env0 X.prog X.w X.K X.mg X.base A X.stack s H := { there with frames := hf.trans there.frames }
  have bound := hb s us I.kIn (by rw [List.append_nil]; exact r.length.symm.trans (F.len _ _ h))
  rw [List.append_nil] at bound
  refine wpAny_call (codeAny_mono (F.run A X.stack s H ⟨us, []⟩ us vs hr e0 bound r h) fun r s' hq => ?_)
  obtain ⟨rfl, os, bare, un, hok⟩ := hq
  obtain ⟨v, H', I', _, _, rfl⟩ := I.after (Q := fun v H' => v = .non ∧ H' = H) (u := Value.none) ⟨.non, H, os, bare, un, hok, rfl, rfl, rfl⟩
  exact ⟨rfl, I'⟩
/-- an object == a list: the object's __eq__ declines -/
def rEqNi (C : Addr) (sp : List V → Hp → Prop) (out : Bool → V) : R2 := fun x y H Q => ∃ a dx fs l xs, x = .ref a ∧ y = .ref l ∧ H a = some (.ins C dx fs) ∧ H l = some (.lst xs) ∧ sp [x, y] H ∧ Q (out false) H
theorem or_eqNi {sp : List V → Hp → Prop} (c : NiMet X.prog X.w X.K X.mg X.base k C "__eq__" sp) (kd : KindO X.K C) {j : Nat} (hr : Room j X.A) (hk : k ≤ j) : OpR X (compareOp .Eq) (rEqNi C sp .bl) := by
  obtain ⟨f, fd, ps, hc, hm, F1, b⟩ := c.ex
  intro pins s σ H x y v u Q I rx ry h
  obtain ⟨a, dx, fs, l, xs, rfl, rfl, ha, hl, h, q⟩ := h
  cases rx
  cases ry
  obtain ⟨mA, J, _⟩ := ins_get I.hok ha
  obtain ⟨od, J, _⟩ := J.look
  obtain ⟨its, rv, hL, _⟩ := I.list (SqL.of hl)
  obtain ⟨⟨cls0, dd0, data0, sl0⟩, ho0, hc0, n0, hd0⟩ := hL.isList
  simp only at hc0 hd0
  subst hc0 hd0
  show wpAny (model X.prog X.w) X.A (richCompare .Eq (.ref a) (.ref l)) _ _ s
  refine eq_ni (R := fun s' => Inv X pins σ H s') (R2 := fun s' => Inv X pins σ H s') hr.units0 I.kIn J (tb := "list") ?_ (kd.sub _ (by decide)) hm.at_ hm.fn ?_ ?_ ?_
  · exact (PySem.W.Looks.ld ho0).andThen .now
  · exact run_ni F1 (hr.mono hk) rfl b I (us := [.ref a, .ref l]) (vs := [.ref a, .ref l]) (.cons rfl (.cons rfl .nil)) h
  · intro s' I'
    obtain ⟨its, rv, hL, _⟩ := I'.list (SqL.of hl)
    obtain ⟨mA, J, _⟩ := ins_get I'.hok ha
    obtain ⟨od, J, _⟩ := J.look
    obtain ⟨⟨cls, dd, data, sl⟩, ho, hc, n, hd⟩ := hL.isList
    simp only at hc hd
    subst hc hd
    refine wpAny_tryCompare_declines ⟨_, ho, rfl⟩ F.slot_list_eq_refl (wpAny_call (codeAny_call_builtin F.slot_list_eq_refl.plain F.entry_list_eq (F.slot_list_eq_refl.check _ _ _ _ _ _ _ _ ⟨_, ho, rfl⟩ (F.args_list_eq_2 _ _) ?_)))
    exact list_ni l a _ n dd sl ho (J.type.andThen (PySem.W.looks_subIn I'.kIn (kd.mro _ (by decide)))) ⟨rfl, rfl, I'⟩
  · intro s' I'
    have ne : a ≠ l := ne_of ha hl (by intro z; cases z)
    obtain ⟨its, rv, hL, _⟩ := I'.list (SqL.of hl)
    obtain ⟨mA, J, _⟩ := ins_get I'.hok ha
    obtain ⟨od, J, _⟩ := J.look
    obtain ⟨o2, ho2, hc2, _⟩ := hL.isList
    exact wpAny_isSame_ref_other ne J.at_ ho2 (by rw [J.cls]; intro z; cases z) ⟨.bl false, H, I', rfl, q⟩
end
end Tr

/-! # try with several clauses, each with or without a name. -/
namespace Tr
open PySem PySem.Spec PyProof.Rows L2
/-- a clause: the class it names, the slot of its name, its suite's reading -/
structure Clz where
  cls : Value
  slot : Option Nat
  ts : Addr → Value → Option Addr → TS
/-- behind the suite the name is gone -/
def goneD (D : Ends) : Option Nat → Ends
  | none => D
  | some i => { nx := fun σ H => D.nx (σ.set i none) H, rt := D.rt, bk := fun σ H => D.bk (σ.set i none) H, ct := fun σ H => D.ct (σ.set i none) H }
def heldS (σ : L2.St) (a : Addr) : Option Nat → L2.St
  | none => σ
  | some i => σ.set i (some (.ref a))
/-- what the clauses wish -/
def wAny (K : PySem.W.Frag) (Wout : WX) (D : Ends) : List Clz → WX
  | [] => Wout
  | z :: r => fun cls d σ H => ∃ b, PySem.W.exmOne K cls z.cls = some b ∧ (b = true → ∀ a, H a = none → z.ts a cls d (goneD D z.slot) (heldS σ a z.slot) H) ∧ (b = false → wAny K Wout D r cls d σ H)
/-- a suite, of any such exception -/
def SuiteOk (X : Cx) (b : List Stmt) (ts : Addr → Value → Option Addr → TS) : Prop :=
  ∀ (a : Addr) (oe : Obj) (cls : Value) (d : Option Addr) (pn : List (Addr × Obj)), Zc cls d oe → (∃ vs, oe.data = .fields vs) → PSs (X.suite a ((a, oe) :: pn)) b (ts a cls d)
inductive ClzOk (X : Cx) : List ExceptHandler → List Clz → Prop
  | nil : ClzOk X [] []
  | bare {x : Str} {c : Value} {ts : Addr → Value → Option Addr → TS} {b : Stmt} {bs : List Stmt} {p q : Pos} {hs : List ExceptHandler} {l : List Clz} (n : Names X x c) (s : SuiteOk X (b :: bs) ts) (r : ClzOk X hs l) :
      ClzOk X (.ExceptHandler (some (.Name x p)) none (b :: bs) q :: hs) (⟨c, none, ts⟩ :: l)
  | named {x y : Str} {i : Nat} {c : Value} {ts : Addr → Value → Option Addr → TS} {b : Stmt} {bs : List Stmt} {p q : Pos} {hs : List ExceptHandler} {l : List Clz} (nd : X.N.Nodup) (hi : X.N[i]? = some y) (hk : X.env.kindOf y = some .local) (n : Names X x c) (s : SuiteOk X (b :: bs) ts) (r : ClzOk X hs l) :
      ClzOk X (.ExceptHandler (some (.Name x p)) (some y) (b :: bs) q :: hs) (⟨c, some i, ts⟩ :: l)
section
variable {X : Cx}
theorem sp_off {pins : List (Addr × Obj)} {D : Ends} {f : Flow} {s : Shared} {pn : List (Addr × Obj)} {xe : Value → Shared → Prop} (ok : X.Ok) (h : SP (X.tr pn xe) [] D f s) (hx : pn = X.pn ++ pins) : SP X pins D f s := by
  subst hx
  cases f with
  | ret u => exact let ⟨v, σ, H, J, r, q⟩ := h; ⟨v, σ, H, J.ofTry ok, r, q⟩
  | next => exact let ⟨σ, H, J, q⟩ := h; ⟨σ, H, J.ofTry ok, q⟩
  | brk => exact let ⟨σ, H, J, q⟩ := h; ⟨σ, H, J.ofTry ok, q⟩
  | cont => exact let ⟨σ, H, J, q⟩ := h; ⟨σ, H, J.ofTry ok, q⟩
/-- the value of a class's name in a suite -/
theorem name_in {x : Str} {c : Value} {np : Pos} {a : Addr} {oe : Obj} {pn pins : List (Addr × Obj)} {σ : L2.St} {H : Hp} {s : Shared} {Q : Value → Shared → Prop} {E : Value → Shared → Prop} (n : Names X x c) (S : Inv (X.suite a ((a, oe) :: pn)) pins σ H s) (q : Q c s) :
    wpAny (model X.prog X.w) (X.A.mark (some (.ref a))) (eval (.Name x np) X.env) Q E s := by
  rcases n with ⟨g, nd, m | ⟨m, v, nn⟩⟩
  · exact ld_glob (X := X.suite a ((a, oe) :: pn)) S g m q nd
  · exact ld_blt (X := X.suite a ((a, oe) :: pn)) S g m v q nn nd
theorem sp_suite {pins : List (Addr × Obj)} {D : Ends} {f : Flow} {s : Shared} {a : Addr} {oe : Obj} (ok : X.Ok) (h : SP (X.suite a ((a, oe) :: (X.pn ++ pins))) [] D f s) : SP X pins D f s := by
  cases f with
  | ret u => exact let ⟨v, σ, H, S, r, q⟩ := h; ⟨v, σ, H, S.unsuite ok, r, q⟩
  | next => exact let ⟨σ, H, S, q⟩ := h; ⟨σ, H, S.unsuite ok, q⟩
  | brk => exact let ⟨σ, H, S, q⟩ := h; ⟨σ, H, S.unsuite ok, q⟩
  | cont => exact let ⟨σ, H, S, q⟩ := h; ⟨σ, H, S.unsuite ok, q⟩
variable {body : List Stmt} {h₀ : ExceptHandler} {hds : List ExceptHandler} {l : List Clz} {pos : Pos} {tb : WX → TS} {Wout : WX}
theorem ps_try_any (st : X.stack = X.env :: X.outer) (fr : X.env.frame = some X.env.locals) (tk : Takes X Wout)
    (hb : ∀ (W : WX) (pn : List (Addr × Obj)) (xe : Value → Shared → Prop), Takes (X.tr pn xe) W → PassesOwn (model X.prog X.w) X.A X.env xe → PSs (X.tr pn xe) body (tb W))
    (cl : ClzOk X (h₀ :: hds) l) : PS X (.Try body (h₀ :: hds) [] [] pos) (fun D σ H => tb (wAny X.K Wout D l) D σ H) := by
  refine ⟨fun pins s σ H D I h => wpAny_Try_except ?_⟩
  have ok := I.ok
  have afr : X.A.frames = some (X.env :: X.outer) := ok.frames.trans (congrArg some st)
  refine wpAny_mono ((hb (wAny X.K Wout D l) (X.pn ++ pins) (fun e s1 => wpAny (model X.prog X.w) X.A (noteFrame e X.env) (fun _ s2 => wpAny (model X.prog X.w) X.A (setFlight e none)
    (fun _ s3 => wpAny (model X.prog X.w) X.A (handleBy e X.env (h₀ :: hds)) (SP X pins D) X.xe s3) X.xe s2) X.xe s1) (fun u s' caught => ?_) PassesOwn.looking).run [] s σ H D (I.toTry _) h) (fun f s1 r => ?_) fun _ _ z => z
  · obtain ⟨a, B, sI, pins', σ1, H1, cls, d, rfl, J1, nb, up, sky, na, os, ag, w⟩ := caught
    have J := J1.ofTry ok
    rw [st] at sky
    refine (show wpAny (model X.prog X.w) X.A (noteFrame (.ref a) X.env) _ _ _ from Sky.land Zc.steady afr fr sky fun h3 fl up3 => ?_)
    obtain ⟨o3, v3, at3, z3, dt3⟩ := fl.there
    have off : a ∉ frs (X.env :: X.outer) := fun hm => by
      obtain ⟨_, o, e, no⟩ := fl.2.2.1.mem hm
      rw [at3] at e
      cases e
      exact no _ dt3
    have off1 : a ≠ X.env.locals := fun z => off (List.mem_filterMap.mpr ⟨X.env, .head _, by rw [fr, z]⟩)
    have off2 : a ∉ X.fs := fun hm => let ⟨e, me, q⟩ := List.mem_filterMap.mp hm; off (List.mem_filterMap.mpr ⟨e, .tail _ me, q⟩)
    have J3 : Inv X pins σ1 H1 { s' with heap := h3 } := J.landed nb fl.1 (up.trans up3) os ag
    have S3 := J3.suite at3 dt3 na off1 off2
    suffices go : ∀ {hs' : List ExceptHandler} {l' : List Clz}, ClzOk X hs' l' → wAny X.K Wout D l' cls d σ1 H1 → wpAny (model X.prog X.w) X.A (handleBy (.ref a) X.env hs') (SP X pins D) X.xe { s' with heap := h3 } from go cl w
    intro hs' l' k
    induction k with
    | nil =>
      intro w
      refine wpAny_handleBy_nil ?_
      obtain ⟨_, _, _, oe, vs, T, _, _, eT, _, dT, fT, _⟩ := id fl
      have away : wpAny (model X.prog X.w) X.A (setFlight (.ref a) X.env.frame) (fun _ s4 => wpAny (model X.prog X.w) X.A (throw (.ref a) : Sem Flow) (SP X pins D) X.xe s4) X.xe { s' with heap := h3 } := by
        rw [fr]
        exact HandSPX.setFlight_upZ fl fun h4 sky4 up4 => wpAny_throw (tk _ _ ⟨a, B, sI, pins, σ1, H1, cls, d, rfl, J, nb, (up.trans up3).trans up4, .inr (.inr (st ▸ sky4)), na, os, ag, w⟩)
      unfold PySem.passOn
      refine wpAny_bind (wpAny_field eT dT fT ?_)
      rw [if_neg (by simp : ¬ ((Value.ref T == Value.none) = true))]
      first
        | exact wpAny_bind away
        | exact wpAny_bind (wpAny_pure (wpAny_bind away))
    | @bare x c ts b bs p q hs2 l2 n su r ih =>
      rintro ⟨y, e, yes, no⟩
      refine wpAny_handleBy_cons (codeAny_handlers_test (name_in n S3 ((PySem.W.exm_one (M := model X.prog X.w) J3.kIn (fun A Q E s k q => wpAny_typeOf_ref (k _ _ at3) (by rw [z3.1]; exact q)) e).here ?_))) (by intro z; cases z)
      cases y with
      | false => exact ih (no rfl)
      | true =>
        refine codeAny_handlers_suite (HandSPX.lands_againZ fl fun h4 fl4 up4 => ?_)
        obtain ⟨o4, v4, at4, z4, dt4⟩ := fl4.there
        have S4 := (J.landed nb fl4.1 ((up.trans up3).trans up4) os ag : Inv X pins σ1 H1 { s' with heap := h4 }).suite at4 dt4 na off1 off2
        exact wpAny_mono ((su a o4 cls d (X.pn ++ pins) z4 ⟨_, dt4⟩).run [] _ _ H1 _ S4 (yes rfl a na)) (fun f s6 r6 => by cases f <;> exact sp_suite ok r6) fun _ _ z => z.elim
    | @named x yn i c ts b bs p q hs2 l2 nd hi hk n su r ih =>
      rintro ⟨y, e, yes, no⟩
      refine wpAny_handleBy_cons (codeAny_handlers_test (name_in n S3 ((PySem.W.exm_one (M := model X.prog X.w) J3.kIn (fun A Q E s k q => wpAny_typeOf_ref (k _ _ at3) (by rw [z3.1]; exact q)) e).here ?_))) (by intro z; cases z)
      cases y with
      | false => exact ih (no rfl)
      | true =>
        refine codeAny_handlers_suite_as (HandSPX.lands_againZ fl fun h4 fl4 up4 => ?_)
        obtain ⟨o4, v4, at4, z4, dt4⟩ := fl4.there
        have S4 := (J.landed nb fl4.1 ((up.trans up3).trans up4) os ag : Inv X pins σ1 H1 { s' with heap := h4 }).suite at4 dt4 na off1 off2
        refine store_ok (X := X.suite a ((a, o4) :: (X.pn ++ pins))) (v := .ref a) S4 nd hi (.inl hk) rfl (fun s5 S5 => ?_) (.inr hk)
        refine wpAny_mono ((su a o4 cls d (X.pn ++ pins) z4 ⟨_, dt4⟩).run [] s5 _ H1 _ S5 (yes rfl a na)) (fun f s6 r6 => ?_) fun _ _ z => z.elim
        cases f with
        | ret u =>
          obtain ⟨v6, σ6, H6, S6, rv, q6⟩ := r6
          exact gone_ok (S6.unsuite ok) nd hi hk fun s7 J7 => ⟨_, _, _, J7, rv, q6⟩
        | next =>
          obtain ⟨σ6, H6, S6, q6⟩ := r6
          exact gone_ok (S6.unsuite ok) nd hi hk fun s7 J7 => ⟨_, _, J7, q6⟩
        | brk =>
          obtain ⟨σ6, H6, S6, q6⟩ := r6
          exact gone_ok (S6.unsuite ok) nd hi hk fun s7 J7 => ⟨_, _, J7, q6⟩
        | cont =>
          obtain ⟨σ6, H6, S6, q6⟩ := r6
          exact gone_ok (S6.unsuite ok) nd hi hk fun s7 J7 => ⟨_, _, J7, q6⟩
  · have r2 := sp_off ok r rfl
    cases f with
    | next => exact wpAny_execs_nil r2
    | ret u => exact r2
    | brk => exact r2
    | cont => exact r2
end
end Tr

/-! # < and > of alike data; the order of triples and of lists of triples. -/
namespace Tr
open PySem PySem.Spec PyProof.Rows L2
def rCmpD (K : PySem.W.Frag) (f : PyData → PyData → Bool) : R2 := fun x y H Q => ∃ d e, Dp K H x d ∧ Dp K H y e ∧ PySem.W.alike d e = true ∧ d ≠ .none ∧ d.depth ≤ 64 ∧ Q (.bl (f d e)) H
section
variable {X : Cx}
theorem op_ltD (hu : X.A.units + 64 < cLine) : OpR X (compareOp .Lt) (rCmpD X.K fun d e => PySem.W.dataLt d e) := by
  intro pins s σ H x y v u Q I rx ry h
  obtain ⟨d, e, hd, he, al, nn, dp, q⟩ := h
  obtain ⟨as, r1⟩ := Dp.reads I d x v hd rx
  obtain ⟨bs, r2⟩ := Dp.reads I e y u he ry
  exact PySem.W.rcLt_alike d e X.A s v u as bs r1 r2 al nn (by omega) _ _ _ _ ⟨.bl _, H, I, rfl, q⟩
theorem op_gtD (hu : X.A.units + 64 < cLine) : OpR X (compareOp .Gt) (rCmpD X.K fun d e => PySem.W.dataLt e d) := by
  intro pins s σ H x y v u Q I rx ry h
  obtain ⟨d, e, hd, he, al, nn, dp, q⟩ := h
  obtain ⟨as, r1⟩ := Dp.reads I d x v hd rx
  obtain ⟨bs, r2⟩ := Dp.reads I e y u he ry
  exact PySem.W.rcGt_alike d e X.A s v u as bs r1 r2 al nn (by omega) _ _ _ _ ⟨.bl _, H, I, rfl, q⟩
end
theorem ix_tupK {X : Cx} (K : PySem.W.Frag) (h : X.K = K := by rfl) : IxR X (rIxT K) := by
  subst h
  exact ix_tup
theorem ix_listK {X : Cx} (K : PySem.W.Frag) (h : X.K = K := by rfl) : IxR X (rIxL K) := by
  subst h
  exact ix_list
abbrev T3 := Int × Int × Int
def t3D (t : T3) : PyData := .tuple [.int t.1, .int t.2.1, .int t.2.2]
/-- the order of triples -/
def lt3 (a b : T3) : Bool := if a.1 = b.1 then (if a.2.1 = b.2.1 then decide (a.2.2 < b.2.2) else decide (a.2.1 < b.2.1)) else decide (a.1 < b.1)
/-- the order of lists of triples -/
def lexT : List T3 → List T3 → Bool
  | [], [] => false
  | [], _ :: _ => true
  | _ :: _, [] => false
  | a :: as, b :: bs => if a = b then lexT as bs else lt3 a b
/-- by the length, then place by place -/
def ltR (a b : List T3) : Bool := if a.length = b.length then lexT a b else decide (a.length < b.length)
theorem lt3_asym {a b : T3} (h : lt3 a b = true) : lt3 b a = false := by
  unfold lt3 at *
  obtain ⟨a1, a2, a3⟩ := a
  obtain ⟨b1, b2, b3⟩ := b
  dsimp only at *
  repeat' split at h
  all_goals repeat' split
  all_goals simp at *
  all_goals omega
theorem lt3_total {a b : T3} (h : a ≠ b) : lt3 a b = true ∨ lt3 b a = true := by
  unfold lt3
  obtain ⟨a1, a2, a3⟩ := a
  obtain ⟨b1, b2, b3⟩ := b
  dsimp only
  have : ¬ (a1 = b1 ∧ a2 = b2 ∧ a3 = b3) := fun ⟨x, y, z⟩ => h (by rw [x, y, z])
  by_cases h1 : a1 = b1
  · by_cases h2 : a2 = b2
    · rw [if_pos h1, if_pos h2, if_pos h1.symm, if_pos h2.symm, decide_eq_true_eq, decide_eq_true_eq]
      omega
    · rw [if_pos h1, if_neg h2, if_pos h1.symm, if_neg fun e => h2 e.symm, decide_eq_true_eq, decide_eq_true_eq]
      omega
  · rw [if_neg h1, if_neg fun e => h1 e.symm, decide_eq_true_eq, decide_eq_true_eq]
    omega
theorem lexT_irr : ∀ a : List T3, lexT a a = false
  | [] => rfl
  | x :: a => by
    unfold lexT
    rw [if_pos rfl]
    exact lexT_irr a
theorem lexT_asym : ∀ {a b : List T3}, lexT a b = true → lexT b a = false
  | [], [], h => rfl
  | [], _ :: _, h => rfl
  | _ :: _, [], h => by cases h
  | x :: a, y :: b, h => by
    unfold lexT at h ⊢
    by_cases e : x = y
    · rw [if_pos e] at h
      rw [if_pos e.symm]
      exact lexT_asym h
    · rw [if_neg e] at h
      rw [if_neg fun z => e z.symm]
      exact lt3_asym h
theorem lexT_total : ∀ {a b : List T3}, a ≠ b → lexT a b = true ∨ lexT b a = true
  | [], [], h => (h rfl).elim
  | [], _ :: _, h => .inl rfl
  | _ :: _, [], h => .inr rfl
  | x :: a, y :: b, h => by
    unfold lexT
    by_cases e : x = y
    · rw [if_pos e, if_pos e.symm]
      exact lexT_total fun z => h (by rw [e, z])
    · rw [if_neg e, if_neg fun z => e z.symm]
      exact lt3_total e
theorem ltR_irr (a : List T3) : ltR a a = false := by
  unfold ltR
  rw [if_pos rfl]
  exact lexT_irr a
theorem ltR_asym {a b : List T3} (h : ltR a b = true) : ltR b a = false := by
  unfold ltR at *
  by_cases e : a.length = b.length
  · rw [if_pos e] at h
    rw [if_pos e.symm]
    exact lexT_asym h
  · rw [if_neg e, decide_eq_true_eq] at h
    rw [if_neg fun z => e z.symm, decide_eq_false_iff_not]
    omega
theorem ltR_total {a b : List T3} (h : a ≠ b) : ltR a b = true ∨ ltR b a = true := by
  unfold ltR
  by_cases e : a.length = b.length
  · rw [if_pos e, if_pos e.symm]
    exact lexT_total h
  · rw [if_neg e, if_neg fun z => e z.symm, decide_eq_true_eq, decide_eq_true_eq]
    omega
/-! ### what the model's comparison tells of such data -/
theorem eqv_t3 (a b : T3) : PyData.eqv (t3D a) (t3D b) = decide (a = b) := by
  obtain ⟨a1, a2, a3⟩ := a
  obtain ⟨b1, b2, b3⟩ := b
  show ((a1 == b1) && ((a2 == b2) && ((a3 == b3) && true))) = _
  rw [Bool.and_true, Bool.eq_iff_iff, Bool.and_eq_true, Bool.and_eq_true, decide_eq_true_eq, beq_iff_eq, beq_iff_eq, beq_iff_eq, Prod.mk.injEq, Prod.mk.injEq]
theorem alike_t3 (a b : T3) : PySem.W.alike (t3D a) (t3D b) = true := by
  unfold t3D
  simp [PySem.W.alike, PySem.W.alikeAll]
theorem alike_t3s : ∀ a b : List T3, PySem.W.alikeAll (a.map t3D) (b.map t3D) = true
  | [], _ => by simp [PySem.W.alikeAll]
  | _ :: _, [] => by simp [PySem.W.alikeAll]
  | x :: a, y :: b => by
    rw [List.map_cons, List.map_cons, PySem.W.alikeAll, alike_t3, alike_t3s a b]
    rfl
theorem lt_t3 (a b : T3) : PySem.W.dataLt (t3D a) (t3D b) = if a = b then false else lt3 a b := by
  obtain ⟨a1, a2, a3⟩ := a
  obtain ⟨b1, b2, b3⟩ := b
  have ei : ∀ x y : Int, PyData.eqv (.int x) (.int y) = decide (x = y) := fun x y => by
    show (x == y) = _
    rw [Bool.eq_iff_iff, beq_iff_eq, decide_eq_true_eq]
  have ai : ∀ x y : Int, PySem.W.alike (.int x) (.int y) = true := fun x y => by simp [PySem.W.alike]
  unfold t3D lt3
  rw [PySem.W.dataLt_tuple, PySem.W.dataLt_cons (ai _ _), PySem.W.dataLt_cons (ai _ _), PySem.W.dataLt_cons (ai _ _), ei, ei, ei, PySem.W.dataLt_int, PySem.W.dataLt_int, PySem.W.dataLt_int]
  dsimp only
  have e0 : PyProof.Rows.lexLt itemOrd (PySem.W.keyToksAll []) (PySem.W.keyToksAll []) = false := lex_irrefl _
  rw [e0]
  by_cases h1 : a1 = b1 <;> by_cases h2 : a2 = b2 <;> by_cases h3 : a3 = b3 <;> simp [h1, h2, h3]
theorem toks_t3 : ∀ a b : List T3, PyProof.Rows.lexLt itemOrd (PySem.W.keyToksAll (a.map t3D)) (PySem.W.keyToksAll (b.map t3D)) = lexT a b
  | [], [] => lex_irrefl _
  | [], y :: b => by
    simp [PySem.W.keyToksAll, lexT, PyProof.Rows.lexLt, itemOrd, itemLt]
  | x :: a, [] => by
    simp [PySem.W.keyToksAll, lexT, PyProof.Rows.lexLt, itemOrd, itemLt]
  | x :: a, y :: b => by
    rw [List.map_cons, List.map_cons, PySem.W.dataLt_cons (alike_t3 x y), eqv_t3, lt_t3, toks_t3 a b]
    rw [show lexT (x :: a) (y :: b) = if x = y then lexT a b else lt3 x y by rw [lexT]]
    by_cases h : x = y
    · rw [decide_eq_true h, if_pos rfl, if_pos h]
    · rw [decide_eq_false h, if_neg Bool.false_ne_true, if_neg h, if_neg h]
end Tr

/-! # o(e, ..), o an object of a class with __call__. -/
namespace Tr
open PySem PySem.Spec PyProof.Rows L2
/-- a method whose function stands in the written part -/
structure MetF (P : Program) (w : World) (K : PySem.W.Frag) (mg : Str → Option Value) (base : Heap) (k : Nat) (C : Addr) (m : Str) (sp : Sp) : Prop where
  ex : ∃ (f : Addr) (fd : FuncData) (ps : List Str), Meth K C m f ∧ PySem.W.fnIn K f = true ∧ FnOk P w K mg base (L2.CX P w) k f fd ps sp ∧ Binds K fd ps []
section
variable {P : Program} {w : World} {K : PySem.W.Frag} {mg : Str → Option Value} {base : Heap}
theorem metF {m qual : Str} {C : Addr} {st : Stmt} {N ps : List Str} {k : Nat} {sp : Sp} (D : Mth K C m qual st) (S : FnScope N ps (defScope st)) (len : ∀ vs H Q E, sp vs H Q E → vs.length = ps.length)
    (hb : ∀ (kV doc pm : Value) (an : Option Addr) (cdv ct : Value) (us : List Value), us.length = ps.length → bindArgs (PySem.W.fnOf m qual (defArgs st) (defBody st) (defScope st) .none kV doc pm an cdv ct) ⟨us, []⟩ = pure (ps.zip us))
    (hbody : ∀ (f : Addr) (cdv : Value) (A : Around) (outer : List Env) (s : Shared) (H : Hp) (vs : List V) (Q : VK) (E : XK), Room k (A.deeper (envOfC qual (defScope st) s.heap.objs.size f cdv)) → sp vs H Q E →
      ∃ t, PSs (cxOf (L2.CX P w) P w K mg base N qual (defScope st) f cdv A outer s H E).nox (defBody st) t ∧ t { nx := fun _ H' => Q .non H', rt := Q } (start N vs) H) : MetF P w K mg base (k + 1) C m sp := by
  obtain ⟨f, fd, M, F⟩ := D.ex
  refine ⟨f, fd, ps, M, ?_, okN F S len (hbody f), F.binds hb⟩
  obtain ⟨oc, od, kV, doc, pm, an, cdv, ct, osl, rfl, lk, hcd⟩ := F.ex
  unfold PySem.W.fnIn
  rw [lk]
end
def tCallO (C : Addr) (sp : Sp) (E : XK) (ta : TE) (t : TA) : TE := fun σ H Q => ta σ H fun x H1 => ∃ a, x = .ref a ∧ t σ H1 fun vs H2 => ∃ dx fs, H2 a = some (.ins C dx fs) ∧ sp (x :: vs) H2 Q E
theorem with_obj {M : Model} {A : Around} {E : Value → Shared → Prop} {s : Shared} {pos : Pos} {x : Addr} {Q : Value → Shared → Prop} {args : List (Bool × Sem Value)} (few : (args.any (·.1)) = false)
    (h : wpAny M A (evalArgs (.ref x) true args []) (fun a s1 => (∃ o, s1.heap.get? x = some o ∧ o.data = .plain) ∧ wpAny M A (call (.ref x) ([] ++ a.pos) a.kw) Q E s1) E s) : wpAny M A (callWith pos (.ref x) [] args []) Q E s := by
  have none_ : (args.any (·.1) || ([] : List (Option Str × Sem Value)).any (·.1.isNone)) = false := by rw [few]; rfl
  unfold callWith
  refine wpAny_bind (wpAny_holding (wpAny_mono h (fun a s1 r => wpAny_bind (wpAny_standAt ?_)) fun _ _ e => e))
  obtain ⟨⟨o, at_, plain⟩, run⟩ := r
  have keeps : PySem.W.Looks M s1.heap (keeperOf (.ref x)) .caller := by
    refine (PySem.W.Looks.ld (part := none) at_).andThen ?_
    simp only [plain]
    exact .now
  simp only [none_]
  refine wpAny_bind (keeps.here ?_)
  exact wpAny_bind (wpAny_mono (wpAny_operateT run) (fun r s2 q => wpAny_bind (wpAny_holding (wpAny_point (wpAny_pure q)))) fun _ _ e => e)
theorem pe_callO {X : Cx} {k j : Nat} {C : Addr} {x : Str} {sp : Sp} {p pos : Pos} {e : Expr} {es : List Expr} {ta : TE} {t : TA} {E : XK} (c : MetF X.prog X.w X.K X.mg X.base k C "__call__" sp) (hr : Room j X.A) (hk : k ≤ j) (hx : Passes (L2.CX X.prog X.w) X E) (he : PE X (.Name x p) ta) (ha : PA X (e :: es) t)
    (hst : starEach (e :: es) X.env = (false, eval e X.env) :: starEach es X.env := by rfl) (hpl : (backTo pos (starEach es X.env)).any (·.1) = false := by rfl) :
    PE X (.Call (.Name x p) (e :: es) [] pos) (tCallO C sp E ta t) := by
  obtain ⟨f, fd, ps, M, fin, F, b⟩ := c.ex
  refine ⟨fun pins s σ H Q I h => ?_⟩
  refine wpAny_Call_Name_kw (thn (he.run pins s σ H _ I h) fun u s1 ⟨v, H1, I1, r1, q1⟩ => ?_)
  obtain ⟨a, rfl, q1⟩ := q1
  cases r1
  have args := ha.run pos pins s1 σ H1 _ I1 q1
  rw [hst] at args ⊢
  refine with_obj (by show (false || (backTo pos (starEach es X.env)).any (·.1)) = false; rw [hpl]; rfl) (Calls.evalArgs_plain (thn args fun us s2 ⟨vs, H2, I2, r2, q2⟩ => ?_))
  obtain ⟨dx, fs, hi, q2⟩ := q2
  obtain ⟨mA, J, _⟩ := ins_get I2.hok hi
  obtain ⟨od, J, _⟩ := J.look
  refine ⟨⟨_, J.at_, rfl⟩, wpAny_call (PySem.W.kco_code I2.kIn J rfl M.at_ M.fn fin ?_)⟩
  have there := I2.env0
  have bound := b s2 (.ref a :: us) I2.kIn (by rw [List.append_nil]; have := F.len _ _ _ _ q2; have := r2.length; simp only [List.length_cons] at *; omega)
  rw [List.append_nil] at bound
  refine codeAny_mono (F.run X.A X.stack s2 H2 ⟨.ref a :: us, []⟩ (.ref a :: us) (.ref a :: vs) Q E (hr.mono hk) { there with frames := there.frames } bound (.cons rfl r2) q2) fun r s' done => ?_
  cases r with
  | error z => exact hx pins σ H2 s2 z s' I2 done
  | ok fl =>
    cases fl with
    | ret u => exact I2.after done
    | next => exact False.elim done
    | brk => exact False.elim done
    | cont => exact False.elim done
end Tr

/-! # A law that makes lambdas: its code object and the table are known; f(lambda: e). -/
namespace Tr
open PySem PySem.Spec PyProof.Rows L2
section
variable {P : Program} {w : World} {K : PySem.W.Frag} {mg : Str → Option Value} {base : Heap}
theorem okT {x qual : Str} {st : Stmt} {f c : Addr} {fd : FuncData} {N ps : List Str} {k : Nat} {sp : Sp} (F : Fun K x qual st f fd) (hc : fd.code = .ref c) (S : FnScope N ps (defScope st)) (len : ∀ vs H Q E, sp vs H Q E → vs.length = ps.length)
    (hbody : ∀ (A : Around) (outer : List Env) (s : Shared) (H : Hp) (vs : List V) (Q : VK) (E : XK), Room k (A.deeper (envOfC qual (defScope st) s.heap.objs.size f (.ref c))) → sp vs H Q E →
      ∃ t, PSs (cxOf (L2.CX P w) P w K mg base N qual (defScope st) f (.ref c) A outer s H E).nox (defBody st) t ∧ t { nx := fun _ H' => Q .non H', rt := Q } (start N vs) H) : FnOk P w K mg base (L2.CX P w) (k + 1) f fd ps sp := by
  obtain ⟨oc, od, kV, doc, pm, an, cdv, ct, osl, rfl, lk, hcd⟩ := F.ex
  obtain rfl : cdv = .ref c := hc
  exact fn_of lk hcd S len fun A outer s H vs Q E hr h =>
    let ⟨t, h1, h2⟩ := hbody A outer s H vs Q E hr h
    ⟨t, h1.nox, h2⟩
end
section
variable {X : Cx}
/-- f(lambda: e), f a def of the module of one parameter -/
theorem pe_lam {T : List (Addr × Str)} {TT : (XK → Hp → VK → Prop) → Hp → VK → Prop} {x a : Str} {st : Stmt} {c Pt : Addr} {k j : Nat} {Ng : List Str} {params : Arguments} {body : Expr} {scope : Scope} {t : XK → TE} {p lpos pos : Pos}
    (D : Dfn X.K X.mg x st) (Sg : FnScope Ng [a] (defScope st)) (hNg : Ng[0]? = some a) (hva : Vis (defScope st) a)
    (hb : ∀ (kV doc pm : Value) (an : Option Addr) (cdv ct : Value) (us : List Value), us.length = [a].length → bindArgs (PySem.W.fnOf x x (defArgs st) (defBody st) (defScope st) .none kV doc pm an cdv ct) ⟨us, []⟩ = pure ([a].zip us))
    (hG : ∀ g cdg, LamX.GivesTo X Ng x (defScope st) g cdg (defBody st) a (X.env.qual ++ "<lambda>") TT) (hg : Gl X x)
    (TB : LamX.TabB X.base X.mg c Pt) (hcode : X.env.code = .ref c) (hmT : (Pt, X.env.qual ++ "<lambda>") ∈ T) (hu : ∀ p ∈ T, p.1 = Pt → p.2 = X.env.qual ++ "<lambda>") (hr : Room j X.A) (hk : k + 2 ≤ j) (L : LamX.LamS X.env.scope scope) (hdef : defaultsOf params X.env = ([], []))
    (hbind : ∀ (q : Str) (cl : List (Str × Addr)) (pm cv ctv : Value), bindArgs (PySem.W.kla_fn "<lambda>" q params body scope cl pm cv ctv) ⟨[], []⟩ = pure [])
    (hbody : ∀ (A : Around) (outer : List Env) (s : Shared) (H : Hp) (E : XK) (f c' : Addr), Room k (A.deeper (LamX.lamEnv X scope s.heap.objs.size f c')) → PE (LamX.lamCx X A outer s H E scope f c') body (t E))
    (hdb : (x == ("__debug__" : Str)) = false := by decide) (hd : (a == ("__debug__" : Str)) = false := by decide) (hcd : (a == ("__classdict__" : Str)) = false := by decide) :
    PE X (.Call (.Name x p) [.Lambda params body scope lpos] [] pos) (LamX.tLam T TT t) := by
  obtain ⟨g, fd, F, hm⟩ := D
  have b := F.binds hb
  have kp := F.kp
  obtain ⟨oc, od, kV, doc, pm, an, cdv, ct, osl, rfl, lk, hcg⟩ := F.ex
  exact LamX.pe_lamcall hg hm kp lk hcg b Sg hNg hva (hG g cdv) TB hcode hmT hu (hr.mono hk) L hdef hbind hbody hdb hd hcd
/-- the same with one table -/
theorem pe_lam1 {TT : (XK → Hp → VK → Prop) → Hp → VK → Prop} {x a q : Str} {st : Stmt} {c Pt : Addr} {k j : Nat} {Ng : List Str} {params : Arguments} {body : Expr} {scope : Scope} {t : XK → TE} {p lpos pos : Pos} (hq : X.env.qual ++ "<lambda>" = q)
    (D : Dfn X.K X.mg x st) (Sg : FnScope Ng [a] (defScope st)) (hNg : Ng[0]? = some a) (hva : Vis (defScope st) a)
    (hb : ∀ (kV doc pm : Value) (an : Option Addr) (cdv ct : Value) (us : List Value), us.length = [a].length → bindArgs (PySem.W.fnOf x x (defArgs st) (defBody st) (defScope st) .none kV doc pm an cdv ct) ⟨us, []⟩ = pure ([a].zip us))
    (hG : ∀ g cdg, LamX.GivesTo X Ng x (defScope st) g cdg (defBody st) a (X.env.qual ++ "<lambda>") TT) (hg : Gl X x)
    (TB : LamX.TabB X.base X.mg c Pt) (hcode : X.env.code = .ref c) (hr : Room j X.A) (hk : k + 2 ≤ j) (L : LamX.LamS X.env.scope scope) (hdef : defaultsOf params X.env = ([], []))
    (hbind : ∀ (q : Str) (cl : List (Str × Addr)) (pm cv ctv : Value), bindArgs (PySem.W.kla_fn "<lambda>" q params body scope cl pm cv ctv) ⟨[], []⟩ = pure [])
    (hbody : ∀ (A : Around) (outer : List Env) (s : Shared) (H : Hp) (E : XK) (f c' : Addr), Room k (A.deeper (LamX.lamEnv X scope s.heap.objs.size f c')) → PE (LamX.lamCx X A outer s H E scope f c') body (t E))
    (hdb : (x == ("__debug__" : Str)) = false := by decide) (hd : (a == ("__debug__" : Str)) = false := by decide) (hcd : (a == ("__classdict__" : Str)) = false := by decide) :
    PE X (.Call (.Name x p) [.Lambda params body scope lpos] [] pos) (LamX.tLam [(Pt, q)] TT t) := by
  subst hq
  exact pe_lam D Sg hNg hva hb hG hg TB hcode List.mem_cons_self (fun p hp _ => by rw [List.mem_singleton.mp hp]) hr hk L hdef hbind hbody hdb hd hcd
/-- try: a() / except CS: return True, and False behind it: what it makes of the lambda's reading -/
def TRef (K : PySem.W.Frag) (CS : Addr) : (XK → Hp → VK → Prop) → Hp → VK → Prop := fun tl H Q =>
  tl (fun cls _ H' => ∃ b, PySem.W.exmOne K cls (.ref CS) = some b ∧ (b = true → Q (.bl true) H') ∧ (b = false → False)) H fun _ H' => Q (.bl false) H'
theorem refuses_gives {Ng : List Str} {x a e q : Str} {sg : Scope} {g CS : Addr} {cdg : Value} {j1 j2 : Nat} {p1 p2 p3 p4 p5 p6 p7 p8 p9 p0 : Pos} (ge : sg.names.lookup e = some .globalImplicit) (me : X.mg e = some (.ref CS)) (de : (e == ("__debug__" : Str)) = false) (h0 : ∀ f : Addr, (L2.start Ng [V.ref f])[0]? = some (some (V.ref f))) :
    LamX.GivesTo X Ng x sg g cdg [.Try [.Expr (.Call (.Name a p1) [] [] p2) p3] [.ExceptHandler (some (.Name e p4)) none [.Return (some (.Constant (.bool true) j1 p5)) p6] p7] [] [] p8, .Return (some (.Constant (.bool false) j2 p9)) p0] a q (TRef X.K CS) := by
  intro f c' s H Q tl act hc h
  refine ⟨_, pss_cons (ps_try_only (X := (cxOf C8.CX0 X.prog X.w X.K X.mg X.base Ng x sg g cdg X.A X.stack s H C8.E0).nox) (c := .ref CS)
      (tb := fun W D σ H => ∃ Ew : XK, (∀ cls d σ' H', Ew cls d H' → W cls d σ' H') ∧ σ[0]? = some (some (.ref f)) ∧ H c' = some (LamX.CodeO c' q) ∧ tl Ew H fun _ H' => D.nx σ H')
      rfl rfl ⟨ge, de, .inl me⟩ LamX.takes0 (fun W pn xe tk _ => ⟨fun pins s' σ H' D I ⟨Ew, wish, h1, h2, h3⟩ => ?_⟩) (fun a oe cls d pn _ _ => pss_one (ps_ret pe_bl))) (pss_one (ps_ret pe_bl)), ?_⟩
  · exact (pss_one (ps_expr (pos := p3) (act W pn xe Ew p1 p2 tk wish))).run pins s' σ H' D I ⟨h1, h2, h3⟩
  · exact ⟨fun cls _ H' => ∃ b, PySem.W.exmOne X.K cls (.ref CS) = some b ∧ (b = true → Q (.bl true) H') ∧ (b = false → False), fun cls d σ' H' ⟨b, e1, e2, e3⟩ => ⟨b, e1, fun hb a _ => e2 hb, fun hb => e3 hb⟩, h0 f, hc, h⟩
end
end Tr

/-! # A class method called in a try; in, not in. -/
namespace Tr
open PySem L2 TL
def tCMethS (C : Addr) (sp : Sp) (E : L2.St → XK) (ta : TE) (t : TA) : TE := fun σ H Q => ta σ H fun x H1 => x = .ref C ∧ t σ H1 fun vs H2 => sp (.ref C :: vs) H2 Q (E σ)
theorem run_fnRS {X : Cx} {pins : List (Addr × Obj)} {σ : L2.St} {H : Hp} {s : Shared} {CX : CXT} {k : Nat} {f : Addr} {sp : Sp} {E : L2.St → XK} {Q : VK} {us : List Value} {vs : List V} (F : FnR X.prog X.w X.K X.mg X.base CX k f sp) (hr : Room k X.A) (hx : PassesAt CX X σ (E σ)) (I : Inv X pins σ H s) (r : Vals vs us) (h : sp vs H Q (E σ)) :
    codeAny (model X.prog X.w) X.A (.call (.ref f) ⟨us, []⟩) (fun r s' => match r with | .ok (.ret v) => EP X pins σ Q v s' | .ok _ => False | .error e => X.xe e s') s := by
  refine codeAny_mono (F X.A X.stack s H us vs Q (E σ) hr I.env0 r h) fun r s' hq => ?_
  cases r with
  | error e => exact hx pins H s e s' I hq
  | ok fl =>
    cases fl with
    | ret u => exact I.after hq
    | next => exact False.elim hq
    | brk => exact False.elim hq
    | cont => exact False.elim hq
theorem run_cmS {X : Cx} {pins : List (Addr × Obj)} {σ : L2.St} {H : Hp} {s : Shared} {CX : CXT} {k : Nat} {C g q : Addr} {sp : Sp} {E : L2.St → XK} {Q : VK} {us : List Value} {vs : List V} (F : FnR X.prog X.w X.K X.mg X.base CX k g sp) (hr : Room k X.A) (hx : PassesAt CX X σ (E σ)) (I : Inv X ((q, PySem.W.methodObj (.ref g) (.ref C)) :: pins) σ H s)
    (r : Vals vs us) (h : sp (.ref C :: vs) H Q (E σ)) : wpAny (model X.prog X.w) X.A (call (.ref q) us) (EP X pins σ Q) X.xe s := by
  have z : wpAny (model X.prog X.w) X.A (call (.ref q) us) (EP X ((q, PySem.W.methodObj (.ref g) (.ref C)) :: pins) σ Q) X.xe s :=
    wpAny_call (PySem.W.method_call (ClX.pin_at I) (run_fnRS (us := .ref C :: us) (vs := .ref C :: vs) F hr hx I (.cons rfl r) h))
  exact thn z fun _ _ y => ClX.unpinE y
/-- C.m(e, ..), m a class method, in a try -/
theorem pe_cmeS {X : Cx} {k j : Nat} {C : Addr} {m : Str} {sp : Sp} {pos apos : Pos} {e o : Expr} {es : List Expr} {ta : TE} {t : TA} {E : L2.St → XK} {pl : Sem Bool} (c : Cme X.prog X.w X.K X.mg X.base k C m sp) (hr : Room j X.A) (hk : k ≤ j) (hx : ∀ σ, PassesAt (L2.CX X.prog X.w) X σ (E σ)) (he : PE X o ta) (ha : PA X (e :: es) t)
    (hst : starEach (e :: es) X.env = (false, eval e X.env) :: starEach es X.env := by rfl) (hpl : (backTo pos (starEach es X.env)).any (·.1) = false := by rfl)
    (ht : eval (.Call (.Attribute o m apos) (e :: es) [] pos) X.env = (do
      let ov ← eval o X.env
      standAt apos.atName
      let (f, first) ← holding [ov] (getMethod ov m pl)
      callWith pos f first (backTo pos (starEach (e :: es) X.env)) (backToKw pos (keywordEach [] X.env))) := by rfl) :
    PE X (.Call (.Attribute o m apos) (e :: es) [] pos) (tCMethS C sp E ta t) := by
  obtain ⟨p, g, r, c, F⟩ := c.ex
  refine ⟨fun pins s σ H Q I h => ?_⟩
  refine PySem.W.methodCall_KW (pl := pl) (thn (he.run pins s σ H _ I h) fun u s1 ⟨x, H1, I1, rx, ex, q⟩ => ?_) ht
  subst ex
  obtain rfl : u = Value.ref C := rx
  refine ClX.getmethcm_ok I1 r c fun s2 I2 => ?_
  refine ClX.callwith_cm I2 (ClX.base_none I1 (Nat.le_refl _)) c.fi (thn (ha.run pos _ s2 σ H1 _ I2 q) fun us s3 ⟨vs, H2, I3, rv, q2⟩ => ⟨⟨ClX.pin_at I3, I3.kIn⟩, ?_⟩) hst hpl
  exact run_cmS F (hr.mono hk) (hx σ) I3 rv q2
theorem units65 {A : Around} {k : Nat} (hr : Room k A) : A.units + 65 < cLine := by
  have := hr.un
  omega
theorem op_notIn_seqK {X : Cx} (K : PySem.W.Frag) (hk : X.K = K := by rfl) : OpR X (compareOp .NotIn) (rIn K true) := by
  subst hk
  exact op_notIn_seq
end Tr

/-! # A binary operator of two own classes; a method with a default, called with keywords. -/
namespace Tr
open PySem PySem.Spec PyProof.Rows L2
/-- what x op y leans on, x of the class C, y of the class D -/
structure TwoOp (K : PySem.W.Frag) (C D : Addr) (nm : String) : Prop where
  hc : PySem.W.selfFirst K C = true
  hd : PySem.W.selfFirst K D = true
  ne : C ≠ D
  rc : ∃ rc, PySem.W.findIn K (.ref C) (dunderR nm) = some rc ∧ (rc = none ∨ ∃ g : Addr, rc = some (.ref g))
  rd : ∃ rc, PySem.W.findIn K (.ref D) (dunderR nm) = some rc ∧ (rc = none ∨ ∃ g : Addr, rc = some (.ref g))
  sub : PySem.W.subIn K (.ref D) (.ref C) = some false
def refB (o : Option (Option Value)) : Bool := match o with
  | some none => true
  | some (some (.ref _)) => true
  | _ => false
theorem refB_ok {o : Option (Option Value)} (h : refB o = true) : ∃ rc, o = some rc ∧ (rc = none ∨ ∃ g : Addr, rc = some (.ref g)) := by
  unfold refB at h
  split at h
  · exact ⟨none, rfl, .inl rfl⟩
  · rename_i g
    exact ⟨_, rfl, .inr ⟨g, rfl⟩⟩
  · cases h
def twoB (c d : Str) (nm : String) (K : PySem.W.Frag) : Bool :=
  PySem.W.selfFirst K (He.ga K c) && (PySem.W.selfFirst K (He.ga K d) && (decide (He.ga K c ≠ He.ga K d) && (refB (PySem.W.findIn K (.ref (He.ga K c)) (dunderR nm)) && (refB (PySem.W.findIn K (.ref (He.ga K d)) (dunderR nm)) &&
    decide (PySem.W.subIn K (.ref (He.ga K d)) (.ref (He.ga K c)) = some false)))))
theorem twoB_ok {c d : Str} {nm : String} {K : PySem.W.Frag} (h : twoB c d nm K = true) : TwoOp K (He.ga K c) (He.ga K d) nm := by
  obtain ⟨h1, h⟩ := He.ba h
  obtain ⟨h2, h⟩ := He.ba h
  obtain ⟨h3, h⟩ := He.ba h
  obtain ⟨h4, h⟩ := He.ba h
  obtain ⟨h5, h6⟩ := He.ba h
  exact ⟨h1, h2, of_decide_eq_true h3, refB_ok h4, refB_ok h5, of_decide_eq_true h6⟩
section
variable {prog : Program} {w : World} {A : Around} {E : Value → Shared → Prop} {s : Shared} {K : PySem.W.Frag} {x y C D L f g f2 : Addr} {h₀ : Heap} {m : Str → Option Value} {ox oy : Obj} {od od' : Option Obj}
theorem binop_two {op : Operator} {Q : Value → Shared → Prop} {R : Shared → Prop} (F : Fr h₀ L s.heap m) (X₀ : K.In h₀) (I : PySem.W.InstAt s.heap x ox C od) (J : PySem.W.InstAt s.heap y oy D od') (t : TwoOp K C D op.info.2)
    (hs : PySem.W.findIn K (.ref C) (PySem.dunder op.info.2) = some (some (.ref f))) (hd : PySem.W.findIn K (.ref D) (PySem.dunder op.info.2) = some (some (.ref g)))
    (h : wpAny (model prog w) A (tryMethod (.ref x) (PySem.dunder op.info.2) (.ref y)) (fun r s' => (∃ v, r = some v ∧ Q v s') ∨ (r = none ∧ R s')) E s)
    (h2 : ∀ s', R s' → PySem.W.Looks (model prog w) s'.heap (typeOf (.ref x)) (.ref C) ∧ PySem.W.Looks (model prog w) s'.heap (typeOf (.ref y)) (.ref D) ∧
      wpAny (model prog w) A (tryMethod (.ref y) (dunderR op.info.2) (.ref x)) (fun r s'' => ∃ v, r = some v ∧ Q v s'') E s') : wpAny (model prog w) A (binaryOp op (.ref x) (.ref y)) Q E s := by
  have X := X₀.keeps F.keep
  obtain ⟨cd, rest, hcd, hm⟩ := PySem.W.ksp_first t.hc
  obtain ⟨cd2, rest2, hcd2, hm2⟩ := PySem.W.ksp_first t.hd
  rcases hi : op.info with ⟨sym, nm'⟩
  have t' := t
  rw [hi] at hs hd h h2 t'
  dsimp only at hs hd h h2 t'
  obtain ⟨rc, rc1, rc2⟩ := t'.rc
  obtain ⟨rd, rd1, rd2⟩ := t'.rd
  have L1 : PySem.W.Looks (model prog w) s.heap (typeOf (.ref x)) (.ref C) := I.type
  have L2 : PySem.W.Looks (model prog w) s.heap (typeOf (.ref y)) (.ref D) := J.type
  have L3 : PySem.W.Looks (model prog w) s.heap (fillsNumberSlot (.ref C) nm') true := PySem.W.fills_K X hcd hm hs
  have L4 : PySem.W.Looks (model prog w) s.heap (fillsNumberSlot (.ref D) nm') true := PySem.W.fills_K X hcd2 hm2 hd
  have L5 : PySem.W.Looks (model prog w) s.heap (isSubtype (.ref D) (.ref C)) false := PySem.W.looks_subIn X t'.sub
  have L6 : PySem.W.Looks (model prog w) s.heap (numberSlotInPython (.ref C) nm') true := PySem.W.ksp_inPy X hs rc1 rc2
  have L7 : PySem.W.Looks (model prog w) s.heap (numberSlotInPython (.ref D) nm') true := PySem.W.ksp_inPy X hd rd1 rd2
  have hne : (Value.ref C == Value.ref D) = false := Bool.eq_false_iff.mpr fun q => t.ne (by cases beq_iff_eq.mp q; rfl)
  simp only [binaryOp, hi]
  refine wpAny_holding (wpAny_bind ?_)
  unfold binaryOp1
  refine wpAny_bind (L1.here (wpAny_bind (L2.here (wpAny_bind (L3.here ?_)))))
  simp only [hne, Bool.false_eq_true, if_false]
  refine wpAny_bind (L4.here ?_)
  simp only [Bool.and_self, if_true]
  refine wpAny_bind (L5.here ?_)
  simp only [Bool.false_eq_true, if_false, Bool.not_false, Bool.and_self, if_true]
  refine wpAny_bind (L6.here ?_)
  simp only [Bool.false_eq_true, if_false, Bool.not_false, Bool.and_self, if_true]
  refine wpAny_bind (L7.here ?_)
  simp only [Bool.false_eq_true, if_false, Bool.not_true, Bool.not_false, Bool.and_self, if_true]
  refine wpAny_bind (wpAny_mono h (fun r s' q => ?_) fun _ _ z => z)
  rcases q with ⟨v, rfl, q⟩ | ⟨rfl, q⟩
  · exact wpAny_pure (wpAny_pure q)
  · obtain ⟨M1, M2, h2⟩ := h2 s' q
    refine wpAny_bind (M1.here (wpAny_bind (M2.here ?_)))
    simp only [hne, Bool.false_eq_true, if_false, Bool.not_false, Bool.and_self, if_true]
    refine wpAny_bind (wpAny_mono h2 (fun r s'' q => ?_) fun _ _ z => z)
    obtain ⟨v, rfl, q⟩ := q
    exact wpAny_bind (wpAny_rule (wpAny_pure (wpAny_pure q)))
end
section
variable {X : Cx} {k k2 k3 : Nat} {C D : Addr} {m m2 : Str} {sp sp2 sp3 : Sp} {E : XK}
/-- x op y by the method of x -/
def rBinD (C D : Addr) (sp : Sp) (E : XK) : R2 := fun x y H Q => ∃ a dx fs b dy gs, x = .ref a ∧ y = .ref b ∧ H a = some (.ins C dx fs) ∧ H b = some (.ins D dy gs) ∧ sp [x, y] H (fun v H' => ∃ z, v = .ref z ∧ Q (.ref z) H') E
theorem or_binD {op : Operator} (c : Met X.prog X.w X.K X.mg X.base k C m sp []) (c2 : Met X.prog X.w X.K X.mg X.base k2 D m sp2 []) (hm : PySem.dunder op.info.2 = m) (t : TwoOp X.K C D op.info.2) {j : Nat} (hr : Room j X.A) (hk : k ≤ j) (hx : Passes (L2.CX X.prog X.w) X E) : OpR X (binaryOp op) (rBinD C D sp E) := by
  subst hm
  obtain ⟨f, fd, ps, ds, hc, hm, F, b, d⟩ := c.ex
  obtain ⟨f2, _, _, _, _, hm2, _, _, _⟩ := c2.ex
  cases d
  intro pins s σ H x y v u Q I rx ry h
  obtain ⟨a, dx, fs, c, dy, gs, rfl, rfl, ha, hc', h⟩ := h
  cases rx
  cases ry
  obtain ⟨mA, J, _⟩ := ins_get I.hok ha
  obtain ⟨mB, J', _⟩ := ins_get I.hok hc'
  obtain ⟨od, J, _⟩ := J.look
  obtain ⟨od', J', _⟩ := J'.look
  obtain ⟨m, hF⟩ := I.fr
  refine binop_two (R := fun _ => False) hF I.ok.mod.kin J J' t hm.at_ hm2.at_ ?_ (fun _ z => z.elim)
  refine wpAny_mono (PySem.W.ksp_try I.kIn J hm.at_ hm.fn (Q := EP X pins σ fun v H' => Q v H') ?_) (fun r s' q => .inl q) fun _ _ z => z
  refine wpAny_mono (run_at F (hr.mono hk) rfl b hx I (us := [.ref a, .ref c]) (vs := [.ref a, .ref c]) (.cons rfl (.cons rfl .nil)) h) (fun r s' q => ?_) fun _ _ z => z
  obtain ⟨z, H', I', rz, b', rfl, q⟩ := q
  cases rz
  exact ⟨.ref b', H', I', rfl, q⟩
/-- x op y by the reflected method of y, the method of x declines -/
def rBinN (C D : Addr) (spN : List V → Hp → Prop) (sp : Sp) (E : XK) : R2 := fun x y H Q => ∃ a dx fs b dy gs, x = .ref a ∧ y = .ref b ∧ H a = some (.ins C dx fs) ∧ H b = some (.ins D dy gs) ∧ spN [x, y] H ∧ sp [y, x] H (fun v H' => ∃ z, v = .ref z ∧ Q (.ref z) H') E
theorem or_binN {op : Operator} {spN : List V → Hp → Prop} (c : NiMet X.prog X.w X.K X.mg X.base k C m spN) (c2 : Met X.prog X.w X.K X.mg X.base k2 D m sp2 []) (c3 : Met X.prog X.w X.K X.mg X.base k3 D m2 sp []) (hm : PySem.dunder op.info.2 = m) (hm2 : dunderR op.info.2 = m2) (t : TwoOp X.K C D op.info.2) {j : Nat} (hr : Room j X.A) (hk : k ≤ j) (hk3 : k3 ≤ j)
    (hx : Passes (L2.CX X.prog X.w) X E) : OpR X (binaryOp op) (rBinN C D spN sp E) := by
  subst hm hm2
  obtain ⟨f, fd, ps, hc, hm, F1, b1⟩ := c.ex
  obtain ⟨f2, _, _, _, _, hm2, _, _, _⟩ := c2.ex
  obtain ⟨f3, fd3, ps3, ds3, hc3, hm3, F, b, d⟩ := c3.ex
  cases d
  intro pins s σ H x y v u Q I rx ry h
  obtain ⟨a, dx, fs, c, dy, gs, rfl, rfl, ha, hc', hn, h⟩ := h
  cases rx
  cases ry
  obtain ⟨mA, J0, _⟩ := ins_get I.hok ha
  obtain ⟨mB, J0', _⟩ := ins_get I.hok hc'
  obtain ⟨od, J, _⟩ := J0.look
  obtain ⟨od', J', _⟩ := J0'.look
  obtain ⟨m, hF⟩ := I.fr
  refine binop_two (R := fun s' => Inv X pins σ H s') hF I.ok.mod.kin J J' t hm.at_ hm2.at_ ?_ (fun s' I' => ?_)
  · unfold tryMethod
    refine wpAny_bind (PySem.W.special_fn I.kIn J hm.at_ (beq_iff_eq.mp hm.fn) (wpAny_mono (run_ni F1 (hr.mono hk) rfl b1 I (us := [.ref a, .ref c]) (vs := [.ref a, .ref c]) (.cons rfl (.cons rfl .nil)) hn) (fun v s' hv => ?_) fun _ _ e => e))
    obtain ⟨rfl, I'⟩ := hv
    exact wpAny_pure (.inr ⟨rfl, I'⟩)
  · obtain ⟨mA', K0, _⟩ := ins_get I'.hok ha
    obtain ⟨mB', K0', _⟩ := ins_get I'.hok hc'
    obtain ⟨od2, K1, _⟩ := K0.look
    obtain ⟨od2', K1', _⟩ := K0'.look
    refine ⟨K1.type, K1'.type, ?_⟩
    refine PySem.W.ksp_try I'.kIn K1' hm3.at_ hm3.fn ?_
    refine wpAny_mono (run_at F (hr.mono hk3) rfl b hx I' (us := [.ref c, .ref a]) (vs := [.ref c, .ref a]) (.cons rfl (.cons rfl .nil)) h) (fun r s' q => ?_) fun _ _ z => z
    obtain ⟨z, H', I'', rz, b', rfl, q⟩ := q
    cases rz
    exact ⟨.ref b', H', I'', rfl, q⟩
end
/-! ### a method with defaults -/
structure MthD (K : PySem.W.Frag) (C : Addr) (m qual : Str) (st : Stmt) (dvs : List V) : Prop where
  cls : Cls K C
  ex : ∃ f fd, Meth K C m f ∧ FunD K m qual (defArgs st) (defBody st) (defScope st) dvs [] f fd
/-- a method that is called with keywords ks behind n positional values (self among them) -/
structure MetK (P : Program) (w : World) (K : PySem.W.Frag) (mg : Str → Option Value) (base : Heap) (k : Nat) (C : Addr) (m : Str) (sp : Sp) (n : Nat) (ks : List Str) (gV : List V → List V → List V) : Prop where
  ex : ∃ (f : Addr) (fd : FuncData) (ps : List Str) (g : List Value → List Value → List Value), Cls K C ∧ Meth K C m f ∧ FnOk P w K mg base (L2.CX P w) k f fd ps sp ∧ KBn K fd ps n ks g gV
/-- o.m(k = v, ..) -/
def tMethK (C : Addr) (m : Str) (nk : Nat) (sp : Sp) (gV : List V → List V → List V) (E : XK) (ta : TE) (tk : TA) : TE := fun σ H Q => ta σ H fun x H1 => ∃ a dx fs, x = .ref a ∧ H1 a = some (.ins C dx fs) ∧ fs.lookup m = none ∧ tk σ H1 fun zs H2 => zs.length = nk ∧ sp (gV [x] zs) H2 Q E
theorem pe_mtk {X : Cx} {k j : Nat} {C : Addr} {m : Str} {sp : Sp} {ks : List Str} {gV : List V → List V → List V} {E : XK} {o : Expr} {ta : TE} {tk : TA} {kws : List Keyword} {apos pos : Pos} {pl : Sem Bool} (c : MetK X.prog X.w X.K X.mg X.base k C m sp 1 ks gV) (hr : Room j X.A) (hk : k ≤ j) (hx : Passes (L2.CX X.prog X.w) X E) (he : PE X o ta) (hkw : PK X kws tk)
    (hall : (backToKw pos (keywordEach kws X.env)).all (·.1.isSome) = true := by rfl) (hks : (backToKw pos (keywordEach kws X.env)).filterMap (·.1) = ks := by rfl) (hpl : ((backTo pos (starEach [] X.env)).any (·.1) || (backToKw pos (keywordEach kws X.env)).any (·.1.isNone)) = false := by rfl)
    (ht : eval (.Call (.Attribute o m apos) [] kws pos) X.env = (do
      let ov ← eval o X.env
      standAt apos.atName
      let (f, first) ← holding [ov] (getMethod ov m pl)
      callWith pos f first (backTo pos (starEach [] X.env)) (backToKw pos (keywordEach kws X.env))) := by rfl) :
    PE X (.Call (.Attribute o m apos) [] kws pos) (tMethK C m ks.length sp gV E ta tk) := by
  obtain ⟨f, fd, ps, g, hc, hm, F, hb⟩ := c.ex
  refine ⟨fun pins s σ H Q I h => ?_⟩
  refine PySem.W.methodCall_KW (pl := pl) (thn (he.run pins s σ H _ I h) fun u s1 ⟨x, H1, I1, rx, a, dx, fs, ex, ea, l, q⟩ => ?_) ht
  subst ex
  obtain rfl : u = Value.ref a := rx
  refine getmeth_ok I1 ea hc hm l ?_
  refine PySem.W.callWith_KW0 (first := [.ref a]) (h₀ := X.base) I.ok.mod.kin hm.kp hall (thn (hkw.run pos pins s1 σ H1 _ I1 q) fun ws s2 ⟨zs, H2, I2, rz, l2, q2⟩ => ⟨I2.kIn, ?_⟩) hpl
  rw [hks]
  exact run_fnN (us := [.ref a]) (vs := [.ref a]) F (hr.mono hk) hb hx I2 (.cons rfl .nil) rz rfl l2 q2
section
variable {P : Program} {w : World} {K : PySem.W.Frag} {mg : Str → Option Value} {base : Heap}
theorem metDN {m qual : Str} {C : Addr} {st : Stmt} {dvs : List V} {N ps : List Str} {k : Nat} {sp : Sp} (D : MthD K C m qual st dvs) (S : FnScope N ps (defScope st)) (len : ∀ vs H Q E, sp vs H Q E → vs.length = ps.length)
    (hbody : ∀ (f : Addr) (cdv : Value) (A : Around) (outer : List Env) (s : Shared) (H : Hp) (vs : List V) (Q : VK) (E : XK), Room k (A.deeper (envOfC qual (defScope st) s.heap.objs.size f cdv)) → sp vs H Q E →
      ∃ t, PSs (cxOf (L2.CX P w) P w K mg base N qual (defScope st) f cdv A outer s H E).nox (defBody st) t ∧ t { nx := fun _ H' => Q .non H', rt := Q } (start N vs) H) :
    ∃ f fd, Cls K C ∧ Meth K C m f ∧ FunD K m qual (defArgs st) (defBody st) (defScope st) dvs [] f fd ∧ FnOk P w K mg base (L2.CX P w) (k + 1) f fd ps sp :=
  let ⟨f, fd, M, F⟩ := D.ex
  ⟨f, fd, D.cls, M, F, F.ok S len fun cdv A outer s H vs Q E hr h =>
    let ⟨t, h1, h2⟩ := hbody f cdv A outer s H vs Q E hr h
    ⟨t, h1.nox, h2⟩⟩
end
end Tr

/-! # Keyword-only parameters; isinstance of a caught error that has fields. -/
namespace Tr
open PySem PySem.Spec PyProof.Rows L2
/-- a def of the module with keyword-only parameters that have constant defaults -/
def DfnK (K : PySem.W.Frag) (mg : Str → Option Value) (x : Str) (st : Stmt) (kws : List (Str × V)) : Prop := ∃ f fd, FunD K x x (defArgs st) (defBody st) (defScope st) [] kws f fd ∧ mg x = some (.ref f)
/-- such a def, called with all its keyword-only parameters written, or without them -/
structure CalK (P : Program) (w : World) (K : PySem.W.Frag) (mg : Str → Option Value) (base : Heap) (k : Nat) (x : Str) (sp : Sp) (dvs : List V) (n : Nat) (ks : List Str) : Prop where
  cal : Cal P w K mg base k x sp dvs
  kw : ∃ (f : Addr) (fd : FuncData) (ps : List Str) (g : List Value → List Value → List Value), FnOk P w K mg base (L2.CX P w) k f fd ps sp ∧ mg x = some (.ref f) ∧ PySem.W.keepIn K (.ref f) = true ∧ KBn K fd ps n ks g (fun vs zs => vs ++ zs)
theorem CalK.mono {P : Program} {w : World} {K : PySem.W.Frag} {mg : Str → Option Value} {base : Heap} {j k n : Nat} {x : Str} {sp : Sp} {dvs : List V} {ks : List Str} (c : CalK P w K mg base j x sp dvs n ks) (h : j ≤ k) : CalK P w K mg base k x sp dvs n ks :=
  ⟨c.cal.mono h, let ⟨f, fd, ps, g, F, r⟩ := c.kw; ⟨f, fd, ps, g, F.mono h, r⟩⟩
section
variable {P : Program} {w : World} {K : PySem.W.Frag} {mg : Str → Option Value} {base : Heap}
theorem calKX {x : Str} {st : Stmt} {kws : List (Str × V)} {N ps ks : List Str} {k n : Nat} {sp : Sp} (D : DfnK K mg x st kws) (S : FnScope N ps (defScope st)) (len : ∀ vs H Q E, sp vs H Q E → vs.length = ps.length) (hk : kws ≠ []) (hn : n + kws.length = ps.length)
    (h0 : ∀ (D : Addr) (doc pm : Value) (an : Option Addr) (cdv ct : Value) (us vs : List Value), us.length = n → vs.length = kws.length → KwChain D ((kws.map (·.1)).zip vs) (bindArgs (PySem.W.fnOf x x (defArgs st) (defBody st) (defScope st) .none (.ref D) doc pm an cdv ct) ⟨us, []⟩) (ps.zip (us ++ vs)))
    (h1 : ∀ (D : Addr) (doc pm : Value) (an : Option Addr) (cdv ct : Value) (us ws : List Value), us.length = n → ws.length = ks.length → bindArgs (PySem.W.fnOf x x (defArgs st) (defBody st) (defScope st) .none (.ref D) doc pm an cdv ct) ⟨us, ks.zip ws⟩ = pure (ps.zip (us ++ ws)))
    (hbody : ∀ (f : Addr) (cdv : Value) (A : Around) (outer : List Env) (s : Shared) (H : Hp) (vs : List V) (Q : VK) (E : XK), Room k (A.deeper (envOfC x (defScope st) s.heap.objs.size f cdv)) → sp vs H Q E →
      ∃ t, PSs (cxOf (L2.CX P w) P w K mg base N x (defScope st) f cdv A outer s H E) (defBody st) t ∧ t { nx := fun _ H' => Q .non H', rt := Q } (start N vs) H) : CalK P w K mg base (k + 1) x sp (kws.map (·.2)) n ks := by
  obtain ⟨f, fd, F, hm⟩ := D
  have ok : FnOk P w K mg base (L2.CX P w) (k + 1) f fd ps sp := F.ok S len (hbody f)
  obtain ⟨ds, hv, hb⟩ := F.binds0 n hk hn h0
  obtain ⟨mv, kb⟩ := F.kbinds0 n ks [] (fun us _ ws => us ++ ws) hk (fun q hq => nomatch hq) (fun a _ b => a.append b) (fun D doc pm an cdv ct us mv ws l1 _ l3 => h1 D doc pm an cdv ct us ws l1 l3)
  exact ⟨⟨f, fd, ps, ds, ok, hm, F.kp, hb, hv⟩, f, fd, ps, _, ok, hm, F.kp, kb⟩
end
/-- f(e, .., k = v, ..) within a try -/
def tKwS (n m : Nat) (sp : Sp) (E : L2.St → XK) (t tk : TA) : TE := fun σ H Q => t σ H fun vs H1 => tk σ H1 fun zs H2 => vs.length = n ∧ zs.length = m ∧ sp (vs ++ zs) H2 Q (E σ)
section
variable {X : Cx} {k j n : Nat} {ks : List Str} {sp : Sp} {dvs : List V} {E : L2.St → XK} {x : Str} {p pos : Pos} {e : Expr} {es : List Expr} {kws : List Keyword} {t tk : TA}
theorem pe_kwS (c : CalK X.prog X.w X.K X.mg X.base k x sp dvs n ks) (hr : Room j X.A) (hle : k ≤ j) (hg : Gl X x) (hx : ∀ σ, PassesAt (L2.CX X.prog X.w) X σ (E σ)) (ha : PA X (e :: es) t) (hkw : PK X kws tk)
    (hall : (backToKw pos (keywordEach kws X.env)).all (·.1.isSome) = true := by rfl) (hks : (backToKw pos (keywordEach kws X.env)).filterMap (·.1) = ks := by rfl)
    (hdb : (x == ("__debug__" : Str)) = false := by decide) (he : starEach (e :: es) X.env = (false, eval e X.env) :: starEach es X.env := by rfl)
    (hpl : ((backTo pos (starEach (e :: es) X.env)).any (·.1) || (backToKw pos (keywordEach kws X.env)).any (·.1.isNone)) = false := by rfl) :
    PE X (.Call (.Name x p) (e :: es) kws pos) (tKwS n ks.length sp E t tk) := by
  obtain ⟨f, fd, ps, g, F, hm, kp, hb⟩ := c.kw
  have F := F.mono hle
  refine ⟨fun pins s σ H Q I h => wpAny_Call_Name_kw (ld_glob I hg hm ?_ hdb)⟩
  refine PySem.W.callWith_KW (h₀ := X.base) I.ok.mod.kin kp hall (thn (ha.run pos pins s σ H _ I h) fun us s1 ⟨vs, H1, I1, r, q⟩ => thn (hkw.run pos pins s1 σ H1 _ I1 q) fun ws s2 ⟨zs, H2, I2, rz, l1, l2, q2⟩ => ⟨I2.kIn, ?_⟩) hpl he
  rw [hks]
  refine wpAny_call (codeAny_mono (F.run X.A X.stack s2 H2 ⟨us, ks.zip ws⟩ (g us ws) (vs ++ zs) Q (E σ) hr I2.env0 (hb.to s2 us ws I2.kIn (r.length.symm.trans l1) (rz.length.symm.trans l2)) (hb.rel r rz) q2) fun z s' hq => ?_)
  match z, hq with
  | .error e, hq => exact hx σ pins H2 s2 e s' I2 hq
  | .ok (.ret u), hq => exact I2.after hq
  | .ok .next, hq => exact hq.elim
  | .ok .brk, hq => exact hq.elim
  | .ok .cont, hq => exact hq.elim
end
/-! ### isinstance(e, C), e a caught error with fields -/
section
variable {prog : Program} {w : World} {A : Around} {E : Value → Shared → Prop} {s : Shared} {F : PySem.W.Frag} {a D : Addr} {o : Obj} {dd : Option Obj}
open PySem.W PySem.Calls in
theorem exc_class {Q : Option Value → Shared → Prop} (T : ExcC F D) (X : F.In s.heap) (I : PySem.W.InstAt s.heap a o D dd) (h : Q (some (.ref D)) { s with toks := s.toks + 1 }) : wpAny (model prog w) A (getAttr? (.ref a) "__class__") Q E s := by
  have hf : PySem.W.findObj F D dd "__class__" = some (.bind (.builtin "getset_descriptor.__get__") (.builtin "object.__class__")) := by
    obtain ⟨cd, hc, _⟩ := any_some T.hd
    unfold PySem.W.findObj
    rw [show PySem.W.clsIn F D = some cd from hc, Option.bind_some, T.ha, Option.bind_some]
    show ((PySem.W.specialIn F (.builtin "object.__class__") "__get__").bind _) = _
    rw [T.hn, Option.bind_some]
    show ((PySem.W.takesIn F (.builtin "object.__class__")).bind _) = _
    rw [T.ht]
    rfl
  obtain ⟨hp, g, d, t, os⟩ := s
  have L0 := I.type (M := model prog w)
  have La := looks_findIn (M := model prog w) X T.hg
  have Lb := looks_findIn (M := model prog w) X T.hk
  have Lc := looks_find (M := model prog w) X I hf
  have own : Looks (model prog w) hp (isInstance (.ref a) (.type "BaseException")) true := L0.andThen (looks_subIn X T.hs)
  have ne : (onTheHeap (Value.ref D) && Value.builtin "BaseException.__getattribute__" == Value.builtin "object.__getattribute__") = false := by
    rw [show (Value.builtin "BaseException.__getattribute__" == Value.builtin "object.__getattribute__") = false by decide +kernel] <;> rfl
  unfold getAttr? getAttrBy? getAttrBy
  refine wpAny_bind (wpAny_mkText (wpAny_bind (wpAny_attempt (wpAny_holding (wpAny_bind (L0.at (wpAny_bind (La.at ?_))))))))
  show wpAny _ _ (ite ((onTheHeap (Value.ref D) && Value.builtin "BaseException.__getattribute__" == Value.builtin "object.__getattribute__") = true) _ _) _ _ _
  rw [ne, if_neg (by decide)]
  unfold getAttrByItsOwn hookBefore
  refine wpAny_bind (by
    rw [if_pos (show onTheHeap (Value.ref D) = true from rfl)]
    refine Lb.at (wpAny_bind (wpAny_attempt (wpAny_holding ?_)))
    unfold callGetattribute
    rw [show (false && onTheHeap (Value.builtin "BaseException.__getattribute__")) = false from rfl, if_neg (by decide)]
    unfold boundAndCalled
    rw [PySem.F.excAttr_ValueError.ga.bind (.ref a)]
    refine wpAny_bind (wpAny_pure (wpAny_call (codeAny_call_builtin PySem.F.excAttr_ValueError.ga.plain PySem.F.entry_bexc_ga ?_)))
    refine @check_slot (model prog w) _ _ ⟨hp, g, d, t + 1, os⟩ "BaseException.__getattribute__" "BaseException" "__getattribute__" (.ref a) [.str "__class__" t] [] _ (by decide +kernel) (by decide +kernel) own (PySem.F.args_bexc_ga (.ref a) (.str "__class__" t)) ?_
    unfold Builtin.«object.__getattribute__»
    refine wpAny_bind (wpAny_of_eq (a := ((Value.ref a : Value), [Value.str "__class__" t])) (by first | rfl | (simp only [slotArgs]; rfl)) (wpAny_bind (wpAny_pure (wpAny_bind (L0.at (wpAny_bind (Lc.at ?_)))))))
    show wpAny _ _ (holding [Value.builtin "object.__class__"] (call (.builtin "getset_descriptor.__get__") [.builtin "object.__class__", .ref a, .ref D]) >>= ret) _ _ _
    refine wpAny_bind (wpAny_holding (wpAny_call (class_get (s := ⟨hp, g, d, t + 1, os⟩) (ox := o) (od := dd) X I T.hm (wpAny_pure ?_))))
    show wpAny _ _ (handedOut (.ref D)) _ _ _
    rw [handedOut_of (v := .ref D) rfl]
    first
      | exact wpAny_pure (wpAny_pure h)
      | exact wpAny_pure h
      | exact wpAny_pure (wpAny_bind (wpAny_pure (wpAny_pure h))))
open PySem.W in
theorem exc_kit (T : ExcC F D) : PySem.W.KitX F (.ref a) (.ref D) (fun h => PySem.W.InstAt h a o D dd) := by
  obtain ⟨cd, hc, _⟩ := any_some T.hd
  obtain ⟨c', d', sl', ho⟩ : ∃ c' d' sl', F.lookup D = some ⟨c', d', .cls cd, sl'⟩ := by
    unfold PySem.W.clsIn at hc
    split at hc
    · rename_i c' d' cd' sl' ho
      cases hc
      exact ⟨_, _, _, ho⟩
    · cases hc
  exact {
    ty := fun _ _ _ I => I.type
    it := fun _ _ X _ A' Q' E' s' k q => by
      unfold isType loadHead
      exact wpAny_bind (wpAny_loadPart (k _ _ (X _ _ ho)) (wpAny_pure q))
    ne := fun h tp dd its n sl X htp => Bool.eq_false_iff.mpr fun q => by
      cases Value.ref.inj (beq_iff_eq.mp q)
      cases (X _ _ ho).symm.trans htp
    ca := fun X I k => exc_class T X I k }
end
theorem excC_of {K : PySem.W.Frag} {C : Addr} (x : XfC K C) (o : IsO K C) : ExcC K C := ⟨x.ga, x.gg, x.exC, x.hdC, o.ha, o.hn, o.ht, o.hm⟩
def rIsX (K : PySem.W.Frag) (a : Addr) (cls : Value) (d : Option Addr) (C : Addr) : List V → Hp → VK → Prop := fun xs H Q => ∃ (c : V) (cv : Value) (b : Bool) (dd : Addr) (fs : List (Str × V)), xs = [.ref a, c] ∧ cls = .ref C ∧ d = some dd ∧ H dd = some (.xd fs) ∧ (∀ u, RelV c u → u = cv) ∧ PySem.W.kitOne K (.ref C) cv = some b ∧ Q (.bl b) H
theorem call_isX {X : Cx} {a C : Addr} {oe : Obj} {cls : Value} {d : Option Addr} {pn : List (Addr × Obj)} (T : ExcC X.K C) (hz : Zc cls d oe) (hf : ∃ vs, oe.data = .fields vs) : CallR (X.suite a ((a, oe) :: pn)) (.builtin "isinstance") (rIsX X.K a cls d C) := by
  intro pins s σ H xs us Q I r ⟨c, cv, b, dd, fs, ex, ec, ed, hx, hcv, e, q⟩
  subst ex ec ed
  match us, r with
  | [_, _], .cons rx (.cons rt .nil) =>
    cases rx
    cases hcv _ rt
    obtain ⟨ha, _⟩ := I.pin (a, oe) (List.mem_append_left _ List.mem_cons_self)
    obtain ⟨vs, hd⟩ := hf
    obtain ⟨mA, hns, _⟩ := (show ObjOk X.prog X.w H s.heap dd (.xd fs) from I.hok dd _ hx)
    obtain ⟨od, ho, _⟩ := lookIn_ns hns
    have J : PySem.W.InstAt s.heap a oe C (some od) := ⟨ha, hz.1, by unfold PySem.W.notCls; rw [hd] <;> rfl, by rw [hz.2]; exact ho⟩
    exact PySem.W.kia_one (exc_kit T) I.kIn J e (fun z => nomatch z) fun tk => ⟨.bl b, H, I.kept (t' := tk) fun _ _ z => z, rfl, q⟩
end Tr

/-! # Dicts whose keys are ints, None and tuples of any depth, mixed. -/
namespace DG
open PySem PySem.Spec PyProof.Rows SeqAt
open Sem (wp)
/-- an entry: the key as data, its value, what is kept -/
abbrev GE := NestedKey × Value × Value
def gEnt (w : World) (x : GE) : DictEntry := ⟨x.1.hash w, x.2.1, x.2.2⟩
/-- a value that may be asked: no text by itself -/
structure KeyV (h : Heap) (k : NestedKey) (v : Value) : Prop where
  is : NestedIs h k v
  dep : k.depth ≤ 8
  ns : ∀ x t, v ≠ .str x t
structure GKeys (h : Heap) (xs : List GE) : Prop where
  is : ∀ x ∈ xs, KeyV h x.1 x.2.1
  nd : (xs.map (·.1)).Nodup
def gPos {β : Type} (xs : List (NestedKey × β)) (k : NestedKey) : Option Nat := xs.findIdx? fun x => decide (x.1 = k)
section
variable {β : Type} {xs : List (NestedKey × β)} {k : NestedKey} {j : Nat} {x : NestedKey × β}
theorem gPos_none (h : ∀ (j : Nat) (x : NestedKey × β), xs[j]? = some x → x.1 ≠ k) : gPos xs k = none := by
  unfold gPos
  rw [List.findIdx?_eq_none_iff]
  intro x hx
  obtain ⟨j, hj, e⟩ := List.getElem_of_mem hx
  exact decide_eq_false (h j x (by rw [List.getElem?_eq_getElem hj, e]))
theorem nd_ix (nd : (xs.map (·.1)).Nodup) {i : Nat} {y : NestedKey × β} (hi : xs[i]? = some x) (hj : xs[j]? = some y) (e : x.1 = y.1) : i = j := by
  have li := (List.getElem?_eq_some_iff.mp hi).1
  have lj := (List.getElem?_eq_some_iff.mp hj).1
  have nd' := List.pairwise_iff_getElem.mp nd
  rcases Nat.lt_trichotomy i j with h | h | h
  · have := nd' i j (by rw [List.length_map]; exact li) (by rw [List.length_map]; exact lj) h
    rw [List.getElem_map, List.getElem_map, (List.getElem?_eq_some_iff.mp hi).2, (List.getElem?_eq_some_iff.mp hj).2] at this
    exact (this e).elim
  · exact h
  · have := nd' j i (by rw [List.length_map]; exact lj) (by rw [List.length_map]; exact li) h
    rw [List.getElem_map, List.getElem_map, (List.getElem?_eq_some_iff.mp hi).2, (List.getElem?_eq_some_iff.mp hj).2] at this
    exact (this e.symm).elim
theorem gPos_some (nd : (xs.map (·.1)).Nodup) (hj : xs[j]? = some x) (e : x.1 = k) : gPos xs k = some j := by
  unfold gPos
  rw [List.findIdx?_eq_some_iff_getElem]
  have lj := (List.getElem?_eq_some_iff.mp hj).1
  refine ⟨lj, by rw [(List.getElem?_eq_some_iff.mp hj).2]; exact decide_eq_true e, fun i hi => ?_⟩
  rw [Bool.not_eq_true, decide_eq_false_iff_not]
  intro e2
  have := nd_ix nd (List.getElem?_eq_getElem (Nat.lt_trans hi lj)) hj (e2.trans e.symm)
  omega
end
section
variable {prog : Program} {w : World} {A : Around} {E : Value → Shared → Prop} {s : Shared} {d : Addr} {o : Obj} {es : Array DictEntry} {ep : Nat} {xs : List GE} {k : NestedKey} {v : Value}
theorem ent_at (he : es.toList = xs.map (gEnt w)) (j : Nat) : es[j]? = (xs[j]?).map (gEnt w) := by
  rw [← Array.getElem?_toList, he, List.getElem?_map]
theorem ent_sz (he : es.toList = xs.map (gEnt w)) : es.size = xs.length := by
  rw [← Array.length_toList, he, List.length_map]
/-- the places that have the key's hash -/
def plc (es : Array DictEntry) (h : Int) : List Nat := placesWithHash es.size (fun i => es[i]?.map (·.hash)) h
theorem mem_plc {h : Int} {i : Nat} : i ∈ plc es h ↔ ∃ e, es[i]? = some e ∧ e.hash = h := by
  unfold plc placesWithHash
  rw [List.mem_filter, List.mem_range]
  constructor
  · rintro ⟨hi, q⟩
    have q : (es[i]?.map (·.hash) == some h) = true := q
    rw [Array.getElem?_eq_getElem hi] at q
    exact ⟨_, Array.getElem?_eq_getElem hi, by simpa using q⟩
  · rintro ⟨e, he, q⟩
    have hi : i < es.size := (Array.getElem?_eq_some_iff.mp he).1
    refine ⟨hi, ?_⟩
    show (es[i]?.map (·.hash) == some h) = true
    rw [he]
    simpa using q
theorem nd_plc {h : Int} : (plc es h).Nodup := List.nodup_range.filter _
theorem eq_g {x : NestedKey} {u : Value} {Q : Bool → Shared → Prop} (hu : A.units + 8 < cLine) (hx : KeyV s.heap x u) (hk : KeyV s.heap k v) (h : Q (decide (x = k)) s) : wpAny (model prog w) A (eqBool u v) Q E s :=
  eqAt_key x k A s _ _ hx.is hk.is (by have := hx.dep; omega) _ _ _ _ (by rw [← NestedKey.decide_eq]; exact h)
/-- the walk over values carried by themselves -/
theorem walk_g {Q : Option Nat → Shared → Prop} (hu : A.units + 8 < cLine) (hk : KeyV s.heap k v) (ho : s.heap.get? d = some o) (hd : o.data = .dict es ep) (he : es.toList = xs.map (gEnt w)) (hx : GKeys s.heap xs) (h : Q (gPos xs k) s) :
    wpAny (model prog w) A (dictWalkPlain d v (k.hash w) es (plc es (k.hash w))) Q E s := by
  have none_of : (∀ i ∈ plc es (k.hash w), ∀ x, xs[i]? = some x → x.1 ≠ k) → Q none s := fun hn => by
    rw [gPos_none (fun j x hj e => hn j (mem_plc.mpr ⟨gEnt w x, by rw [ent_at he, hj]; rfl, by rw [← e]; rfl⟩) x hj e)] at h
    exact h
  unfold dictWalkPlain
  refine wpAny_bind ?_
  refine wpAny_forIn_list _ (fun rest r s' => s' = s ∧ r = (none, ()) ∧ (∀ i ∈ rest, i ∈ plc es (k.hash w)) ∧ ∀ i ∈ plc es (k.hash w), i ∉ rest → ∀ x, xs[i]? = some x → x.1 ≠ k) _ ?_ ?_ _ _ ⟨rfl, rfl, fun i hi => hi, fun i hi n => (n hi).elim⟩
  · rintro i rest b s' ⟨rfl, rfl, hr, hn⟩
    obtain ⟨e, hi, eh⟩ := mem_plc.mp (hr i List.mem_cons_self)
    obtain ⟨x, hxi, ex⟩ : ∃ x, xs[i]? = some x ∧ gEnt w x = e := by
      rw [ent_at he] at hi
      cases q : xs[i]? with
      | none => rw [q] at hi; cases hi
      | some x => rw [q] at hi; exact ⟨x, rfl, Option.some.inj hi⟩
    subst ex
    rw [hi]
    dsimp only
    rw [if_pos (by rw [eh]; exact beq_self_eq_true _)]
    have kx := hx.is x (List.mem_of_getElem? hxi)
    refine wpAny_bind (wpAny_dictEpoch ho hd (wpAny_bind (eq_g hu kx hk (wpAny_bind (wpAny_dictEpoch ho hd ?_)))))
    rw [if_neg (by simp)]
    by_cases e1 : x.1 = k
    · rw [if_pos (decide_eq_true e1)]
      refine wpAny_bind (wpAny_rule (wpAny_pure ?_))
      rw [gPos_some hx.nd hxi e1] at h
      exact wpAny_pure h
    · rw [if_neg (by rw [decide_eq_false e1]; exact Bool.false_ne_true)]
      refine wpAny_bind (wpAny_rule (wpAny_pure ⟨rfl, rfl, fun j hj => hr j (List.mem_cons_of_mem _ hj), fun j hj hnj y hy => ?_⟩))
      by_cases ji : j = i
      · subst ji
        rw [hxi] at hy
        cases hy
        exact e1
      · exact hn j hj (fun z => (List.mem_cons.mp z).elim ji hnj) y hy
  · rintro b s' ⟨rfl, rfl, _, hn⟩
    exact wpAny_pure (none_of fun i hi => hn i hi (fun z => nomatch z))
/-- asking tells nothing -/
theorem quiet_g {Q : Bool → Shared → Prop} {v : Value} {k : NestedKey} (hk : KeyV s.heap k v) (h : Q true s) : wpAny (model prog w) A (eqIsQuiet 8 v) Q E s := quiet_key k _ 8 s hk.is hk.dep A E Q h
theorem tells_g {st : List Value} {Q : Bool → Shared → Prop} (hk : KeyV s.heap k v) (hst : ∀ u ∈ st, ∃ x, KeyV s.heap x u) (h : Q false s) : wpAny (model prog w) A (tableMayTell v st) Q E s := by
  unfold tableMayTell
  split
  · exact wpAny_pure h
  refine wpAny_bind (quiet_g hk ?_)
  rw [if_neg (by decide)]
  refine wpAny_bind (wpAny_forIn_list _ (fun rest r s' => s' = s ∧ r = (none, ()) ∧ ∀ u ∈ rest, u ∈ st) _ ?_ ?_ _ _ ⟨rfl, rfl, fun _ q => q⟩)
  · rintro u rest r s' ⟨rfl, rfl, hr⟩
    obtain ⟨x, hx⟩ := hst u (hr u List.mem_cons_self)
    refine wpAny_bind (quiet_g hx ?_)
    rw [if_neg (by decide)]
    exact wpAny_pure ⟨rfl, rfl, fun u' q => hr u' (List.mem_cons_of_mem _ q)⟩
  · rintro r s' ⟨rfl, rfl, _⟩
    exact wpAny_pure h
theorem find_g {Q : Option Nat → Shared → Prop} (hu : A.units + 8 < cLine) (hk : KeyV s.heap k v) (ho : s.heap.get? d = some o) (hd : o.data = .dict es ep) (he : es.toList = xs.map (gEnt w)) (hx : GKeys s.heap xs) (h : Q (gPos xs k) s) :
    wpAny (model prog w) A (dictFind d v (k.hash w)) Q E s := by
  have stored : ∀ u ∈ (plc es (k.hash w)).filterMap (fun i => es[i]?.map (·.key)), ∃ x, KeyV s.heap x u := fun u hu => by
    obtain ⟨i, _, hi⟩ := List.mem_filterMap.mp hu
    rw [ent_at he] at hi
    cases q : xs[i]? with
    | none => rw [q] at hi; cases hi
    | some x =>
      rw [q] at hi
      cases hi
      exact ⟨x.1, hx.is x (List.mem_of_getElem? q)⟩
  unfold dictFind
  refine wpAny_holding (wpAny_bind (wpAny_dictEntries ho hd ?_))
  have hany : ¬ (es.any fun e => e.key == v && e.hash != k.hash w) = true := by
    rw [← Array.any_toList, he, List.any_map, List.any_eq_true]
    rintro ⟨x, hxm, q⟩
    have q : (x.2.1 == v && x.1.hash w != k.hash w) = true := q
    rw [Bool.and_eq_true, beq_iff_eq, bne_iff_ne] at q
    have e := NestedIs.inj x.1 k v (q.1 ▸ (hx.is x hxm).is) hk.is
    exact q.2 (by rw [e])
  have rest : ∀ tells : Bool, tells = false → ∀ st : List Value, wpAny (model prog w) A (do
      let mut hit : Option Nat := none
      for i in placesWithHash es.size (fun i => es[i]?.map (·.hash)) (k.hash w) do
        if let some e := es[i]? then
          if e.hash == k.hash w then
            let before ← dictEpoch d (keyPart v)
            let same ← eqBool e.key v
            if (← dictEpoch d (keyPart v)) != before then unsupported "dict.changed-during-lookup"
            if same then
              if hit.isSome then unsupported "dict.find:order-among-keys-of-one-hash"
              rule "dict.find.hit"
              if st.length < 2 then return some i
              hit := some i
            else
              rule "dict.find.same-hash-other-key"
              if tells && !(0 ≤ k.hash w && k.hash w < 32) then unsupported "dict.find:asked-again-or-not-hangs-on-the-table"
      return hit) Q E s := by
    rintro tells rfl st
    have at_ : ∀ i ∈ plc es (k.hash w), ∃ x, xs[i]? = some x ∧ es[i]? = some (gEnt w x) ∧ x.1.hash w = k.hash w := fun i hi => by
      obtain ⟨e, h1, h2⟩ := mem_plc.mp hi
      have h3 := h1
      rw [ent_at he] at h3
      cases q : xs[i]? with
      | none => rw [q] at h3; cases h3
      | some x =>
        rw [q] at h3
        cases h3
        exact ⟨x, rfl, h1, h2⟩
    dsimp only
    refine wpAny_bind ?_
    refine wpAny_forIn_list _ (fun rest r s' => s' = s ∧ r.1 = none ∧ rest.Nodup ∧ (∀ i ∈ rest, i ∈ plc es (k.hash w)) ∧
      ((r.2 = none ∧ ∀ i ∈ plc es (k.hash w), i ∉ rest → ∀ x, xs[i]? = some x → x.1 ≠ k) ∨ ∃ j x, r.2 = some j ∧ j ∉ rest ∧ xs[j]? = some x ∧ x.1 = k)) _ ?_ ?_ _ _ ⟨rfl, rfl, nd_plc, fun i hi => hi, .inl ⟨rfl, fun i hi n => (n hi).elim⟩⟩
    · rintro i rest ⟨r1, hit⟩ s' ⟨rfl, e0, hnd, hr, hh⟩
      obtain rfl : r1 = none := e0
      obtain ⟨x, hxi, hei, hxh⟩ := at_ i (hr i List.mem_cons_self)
      have hnd2 := List.nodup_cons.mp hnd
      have hr2 : ∀ j ∈ rest, j ∈ plc es (k.hash w) := fun j hj => hr j (List.mem_cons_of_mem _ hj)
      rw [hei]
      dsimp only
      rw [if_pos (by rw [show (gEnt w x).hash = k.hash w from hxh]; exact beq_self_eq_true _)]
      have kx := hx.is x (List.mem_of_getElem? hxi)
      refine wpAny_bind (wpAny_dictEpoch ho hd (wpAny_bind (eq_g hu kx hk (wpAny_bind (wpAny_dictEpoch ho hd ?_)))))
      rw [if_neg (by simp)]
      by_cases e1 : x.1 = k
      · rw [if_pos (decide_eq_true e1)]
        rcases hh with ⟨e2, hn⟩ | ⟨j, y, e2, hj, hy, ey⟩
        · obtain rfl : hit = none := e2
          rw [if_neg (by simp)]
          refine wpAny_bind (wpAny_rule ?_)
          rw [gPos_some hx.nd hxi e1] at h
          split
          · exact wpAny_pure (wpAny_pure h)
          · exact wpAny_pure ⟨rfl, rfl, hnd2.2, hr2, .inr ⟨i, x, rfl, hnd2.1, hxi, e1⟩⟩
        · have := nd_ix hx.nd hxi hy (e1.trans ey.symm)
          subst this
          exact (hj List.mem_cons_self).elim
      · rw [if_neg (by rw [decide_eq_false e1]; exact Bool.false_ne_true)]
        refine wpAny_bind (wpAny_rule ?_)
        rw [if_neg (by rw [Bool.false_and]; exact Bool.false_ne_true)]
        refine wpAny_pure ⟨rfl, rfl, hnd2.2, hr2, ?_⟩
        rcases hh with ⟨e2, hn⟩ | ⟨j, y, e2, hj, hy, ey⟩
        · refine .inl ⟨e2, fun j hj hnj y hy => ?_⟩
          by_cases ji : j = i
          · subst ji
            rw [hxi] at hy
            cases hy
            exact e1
          · exact hn j hj (fun z => (List.mem_cons.mp z).elim ji hnj) y hy
        · exact .inr ⟨j, y, e2, fun z => hj (List.mem_cons_of_mem _ z), hy, ey⟩
    · rintro ⟨r1, hit⟩ s' ⟨rfl, e0, _, _, hh⟩
      obtain rfl : r1 = none := e0
      rcases hh with ⟨e2, hn⟩ | ⟨j, y, e2, hj, hy, ey⟩
      · obtain rfl : hit = none := e2
        rw [gPos_none (fun j x hj e => hn j (mem_plc.mpr ⟨gEnt w x, by rw [ent_at he, hj]; rfl, by rw [← e]; rfl⟩) (fun z => nomatch z) x hj e)] at h
        exact wpAny_pure h
      · obtain rfl : hit = some j := e2
        rw [gPos_some hx.nd hy ey] at h
        exact wpAny_pure h
  obtain ⟨hi, hdp, hns⟩ := id hk
  cases hi with
  | none =>
    dsimp only
    by_cases hall : (Value.none :: List.filterMap (fun i => es[i]?.map (·.key)) (placesWithHash es.size (fun i => es[i]?.map (·.hash)) (NestedKey.hash w NestedKey.none))).all carriedByValue = true
    · rw [if_pos hall]
      exact walk_g hu hk ho hd he hx h
    rw [if_neg hall]
    by_cases hst : (List.filterMap (fun i => es[i]?.map (·.key)) (placesWithHash es.size (fun i => es[i]?.map (·.hash)) (NestedKey.hash w NestedKey.none)) == [Value.none]) = true
    · rw [if_pos hst]
      refine wpAny_bind (wpAny_pure ?_)
      rw [if_neg (by rw [Bool.false_and]; exact Bool.false_ne_true)]
      exact rest false rfl _
    · rw [if_neg hst]
      refine wpAny_bind (tells_g hk stored ?_)
      rw [if_neg (by rw [Bool.false_and]; exact Bool.false_ne_true)]
      exact rest false rfl _
  | @bool b i hb =>
    dsimp only
    by_cases hall : (Value.bool b :: List.filterMap (fun i => es[i]?.map (·.key)) (placesWithHash es.size (fun i => es[i]?.map (·.hash)) (NestedKey.hash w (NestedKey.num i)))).all carriedByValue = true
    · rw [if_pos hall]
      exact walk_g hu hk ho hd he hx h
    rw [if_neg hall]
    by_cases hst : (List.filterMap (fun i => es[i]?.map (·.key)) (placesWithHash es.size (fun i => es[i]?.map (·.hash)) (NestedKey.hash w (NestedKey.num i))) == [Value.bool b]) = true
    · rw [if_pos hst]
      refine wpAny_bind (wpAny_pure ?_)
      rw [if_neg (by rw [Bool.false_and]; exact Bool.false_ne_true)]
      exact rest false rfl _
    · rw [if_neg hst]
      refine wpAny_bind (tells_g hk stored ?_)
      rw [if_neg (by rw [Bool.false_and]; exact Bool.false_ne_true)]
      exact rest false rfl _
  | int i t =>
    dsimp only
    by_cases hall : (Value.int i t :: List.filterMap (fun i => es[i]?.map (·.key)) (placesWithHash es.size (fun i => es[i]?.map (·.hash)) (NestedKey.hash w (NestedKey.num i)))).all carriedByValue = true
    · rw [if_pos hall]
      exact walk_g hu hk ho hd he hx h
    rw [if_neg hall]
    by_cases hst : (List.filterMap (fun i => es[i]?.map (·.key)) (placesWithHash es.size (fun i => es[i]?.map (·.hash)) (NestedKey.hash w (NestedKey.num i))) == [Value.int i t]) = true
    · rw [if_pos hst]
      refine wpAny_bind (wpAny_pure ?_)
      rw [if_neg (by rw [Bool.false_and]; exact Bool.false_ne_true)]
      exact rest false rfl _
    · rw [if_neg hst]
      refine wpAny_bind (tells_g hk stored ?_)
      rw [if_neg (by rw [Bool.false_and]; exact Bool.false_ne_true)]
      exact rest false rfl _
  | text x t => exact (hns _ _ rfl).elim
  | @tup a ob vs n ks h1 h2 h3 h4 =>
    dsimp only
    by_cases hall : (Value.ref a :: List.filterMap (fun i => es[i]?.map (·.key)) (placesWithHash es.size (fun i => es[i]?.map (·.hash)) (NestedKey.hash w (NestedKey.tup ks)))).all carriedByValue = true
    · rw [if_pos hall]
      exact walk_g hu hk ho hd he hx h
    rw [if_neg hall]
    rw [if_neg hany]
    by_cases hst : (List.filterMap (fun i => es[i]?.map (·.key)) (placesWithHash es.size (fun i => es[i]?.map (·.hash)) (NestedKey.hash w (NestedKey.tup ks))) == [Value.ref a]) = true
    · rw [if_pos hst]
      refine wpAny_bind (wpAny_pure ?_)
      rw [if_neg (by rw [Bool.false_and]; exact Bool.false_ne_true)]
      exact rest false rfl _
    · rw [if_neg hst]
      refine wpAny_bind (tells_g hk stored ?_)
      rw [if_neg (by rw [Bool.false_and]; exact Bool.false_ne_true)]
      exact rest false rfl _
end
/-- at d stands the dict with the entries xs; ep: how often its keys changed -/
def GAt (w : World) (h : Heap) (d : Addr) (xs : List GE) (ep : Nat) : Prop := ∃ o es, h.get? d = some o ∧ o.ExactDict ∧ o.data = .dict es ep ∧ es.toList = xs.map (gEnt w)
def gVal {κ υ : Type} (xs : List (NestedKey × κ × υ)) (k : NestedKey) : Option υ := (gPos xs k).bind fun j => xs[j]?.map fun x => x.2.2
def gPut {κ υ : Type} (xs : List (NestedKey × κ × υ)) (k : NestedKey) (v : κ) (u : υ) : List (NestedKey × κ × υ) := match gPos xs k with
  | none => xs ++ [(k, v, u)]
  | some j => xs.modify j fun x => (x.1, x.2.1, u)
def gEp {β : Type} (xs : List (NestedKey × β)) (k : NestedKey) (ep : Nat) : Nat := match gPos xs k with
  | none => ep + 1
  | some _ => ep
theorem gPos_lt {β : Type} {xs : List (NestedKey × β)} {k : NestedKey} {j : Nat} (h : gPos xs k = some j) : ∃ x, xs[j]? = some x ∧ x.1 = k := by
  unfold gPos at h
  rw [List.findIdx?_eq_some_iff_getElem] at h
  obtain ⟨hj, e, _⟩ := h
  exact ⟨xs[j], List.getElem?_eq_getElem hj, of_decide_eq_true e⟩
theorem gPos_no {β : Type} {xs : List (NestedKey × β)} {k : NestedKey} (h : gPos xs k = none) : k ∉ xs.map (·.1) := fun hm => by
  unfold gPos at h
  rw [List.findIdx?_eq_none_iff] at h
  obtain ⟨x, hx, e⟩ := List.mem_map.mp hm
  have := h x hx
  rw [decide_eq_true e] at this
  cases this
theorem map_modify {α β : Type} (f : α → β) (g : α → α) (g' : β → β) (hg : ∀ a, f (g a) = g' (f a)) : ∀ (l : List α) (j : Nat), (l.modify j g).map f = (l.map f).modify j g'
  | [], j => by simp
  | a :: l, 0 => by simp [hg]
  | a :: l, j + 1 => by simp [map_modify f g g' hg l j]
section
variable {prog : Program} {w : World} {A : Around} {E : Value → Shared → Prop} {s : Shared} {d : Addr} {o : Obj} {ep : Nat} {xs : List GE} {k : NestedKey} {v : Value} {h h' : Heap}
theorem GAt.typeIs (x : GAt w s.heap d xs ep) : s.TypeIs (.ref d) "dict" := let ⟨o, _, ho, hc, _⟩ := x; ⟨o, ho, hc.1⟩
theorem GAt.at (x : GAt w h d xs ep) (e : ∀ o, h.get? d = some o → h'.get? d = some o) : GAt w h' d xs ep := let ⟨o, es, ho, r⟩ := x; ⟨o, es, e o ho, r⟩
theorem GAt.new : GAt w (h.push { cls := .type "dict", data := .dict #[] }) h.objs.size [] 0 := ⟨_, #[], Heap.get?_push_size _ rfl, ⟨rfl, rfl, rfl⟩, rfl, rfl⟩
theorem KeyV.at (x : KeyV h k v) (hk : ∀ a o vs n, h.get? a = some o → o.data = .seq vs n → h'.get? a = some o) : KeyV h' k v := ⟨x.is.at hk, x.dep, x.ns⟩
theorem GKeys.at (x : GKeys h xs) (hk : ∀ a o vs n, h.get? a = some o → o.data = .seq vs n → h'.get? a = some o) : GKeys h' xs := ⟨fun y hy => (x.is y hy).at hk, x.nd⟩
theorem same_seq (x : GAt w h d xs ep) (sb : Heap.SameBut d h h') : ∀ a o vs n, h.get? a = some o → o.data = .seq vs n → h'.get? a = some o := fun a o vs n ha hd => (sb.2 a fun e => by
  obtain ⟨o', es, ho, _, hdat, _⟩ := x
  rw [e, ho] at ha
  cases ha
  rw [hdat] at hd
  cases hd).trans ha
theorem GKeys.put (x : GKeys h xs) (hk : KeyV h k v) (u : Value) : GKeys h (gPut xs k v u) := by
  unfold gPut
  cases e : gPos xs k with
  | none =>
    refine ⟨fun y hy => ?_, ?_⟩
    · rcases List.mem_append.mp hy with hy | hy
      · exact x.is y hy
      · rw [List.mem_singleton.mp hy]; exact hk
    · rw [List.map_append, List.nodup_append]
      refine ⟨x.nd, by simp, fun a ha b hb e2 => ?_⟩
      rw [List.map_cons, List.map_nil, List.mem_singleton] at hb
      have hb : b = k := hb
      exact gPos_no e (by rw [← hb, ← e2]; exact ha)
  | some j =>
    have ek : ((xs.modify j fun x => (x.1, x.2.1, u)).map fun y : GE => (y.1, y.2.1)) = xs.map fun y => (y.1, y.2.1) := by
      rw [map_modify (fun y : GE => (y.1, y.2.1)) (fun x : GE => (x.1, x.2.1, u)) id (fun _ => rfl)]
      simp
    refine ⟨fun y hy => ?_, ?_⟩
    · have : (y.1, y.2.1) ∈ xs.map fun y : GE => (y.1, y.2.1) := by rw [← ek]; exact List.mem_map.mpr ⟨y, hy, rfl⟩
      obtain ⟨z, hz, e2⟩ := List.mem_map.mp this
      have h1 : z.1 = y.1 := congrArg (fun p : NestedKey × Value => p.1) e2
      have h2 : z.2.1 = y.2.1 := congrArg (fun p : NestedKey × Value => p.2) e2
      rw [← h1, ← h2]
      exact x.is z hz
    · have := congrArg (List.map fun p : NestedKey × Value => p.1) ek
      rw [List.map_map, List.map_map] at this
      have e3 : ((xs.modify j fun x => (x.1, x.2.1, u)).map (·.1)) = xs.map (·.1) := this
      rw [e3]
      exact x.nd
theorem get_g {Q : Option Value → Shared → Prop} (hu : A.units + 8 < cLine) (hk : KeyV s.heap k v) (hm : GAt w s.heap d xs ep) (hx : GKeys s.heap xs) (h : Q (gVal xs k) { s with toks := s.toks + k.draws }) : wpAny (model prog w) A (dictGet d v) Q E s := by
  obtain ⟨o, es, ho, hc, hd, he⟩ := hm
  unfold dictGet
  refine wpAny_holding (wpAny_bind (pyHash_key _ _ _ _ _ hk.is (by have := hk.dep; omega) (wpAny_bind (find_g (s := { s with toks := s.toks + k.draws }) hu hk ho hd he hx ?_))))
  unfold gVal at h
  cases e : gPos xs k with
  | none => rw [e] at h; exact wpAny_pure h
  | some j =>
    rw [e] at h
    obtain ⟨x, hx, _⟩ := gPos_lt e
    refine wpAny_bind (wpAny_dictEntries (s := { s with toks := s.toks + k.draws }) ho hd (wpAny_pure ?_))
    rw [ent_at he, hx]
    have h : Q (xs[j]?.map fun x => x.2.2) { s with toks := s.toks + k.draws } := h
    rw [hx] at h
    exact h
theorem set_g {u : Value} {Q : Unit → Shared → Prop} (hu : A.units + 8 < cLine) (hk : KeyV s.heap k v) (hm : GAt w s.heap d xs ep) (hx : GKeys s.heap xs) (hsz : xs.length ≤ sizeLine)
    (hQ : ∀ h', GAt w h' d (gPut xs k v u) (gEp xs k ep) → Heap.SameBut d s.heap h' → Q () { s with heap := h', toks := s.toks + k.draws }) : wpAny (model prog w) A (dictSet d v u) Q E s := by
  obtain ⟨o, es, ho, hc, hd, he⟩ := hm
  unfold dictSet
  refine wpAny_holding (wpAny_bind (pyHash_key _ _ _ _ _ hk.is (by have := hk.dep; omega) ?_))
  unfold dictSetHashed
  refine wpAny_holding (wpAny_bind (find_g (s := { s with toks := s.toks + k.draws }) hu hk ho hd he hx ?_))
  unfold gPut gEp at hQ
  have sz := ent_sz he
  cases e : gPos xs k with
  | none =>
    rw [e] at hQ
    refine wpAny_bind (wpAny_rule (wpAny_updateDictKeys (s := { s with toks := s.toks + k.draws }) ho hd (hQ _ ⟨_, _, Heap.get?_update_self _ ho (Obj.isFreed_of_dict (Obj.data_mapDictKeys hd _)), hc.mapDictKeys _, Obj.data_mapDictKeys hd _, ?_⟩ (Heap.SameBut.update ..)) (hz := by omega)))
    rw [List.map_append, ← he]
    simp [gEnt]
  | some j =>
    rw [e] at hQ
    refine wpAny_bind (wpAny_rule (wpAny_bind (wpAny_updateDict (s := { s with toks := s.toks + k.draws }) ho hd (wpAny_point (hQ _ ⟨_, _, Heap.get?_update_self _ ho (Obj.isFreed_of_dict (Obj.data_mapDict hd _)), hc.mapDict _, Obj.data_mapDict hd _, ?_⟩ (Heap.SameBut.update ..))))))
    rw [map_modify (gEnt w) _ (fun e : DictEntry => { e with val := u }) (fun _ => rfl), ← he]
    obtain ⟨l⟩ := es
    simp
theorem contains_g {Q : Bool → Shared → Prop} (hu : A.in1.units + 8 < cLine) (hk : KeyV s.heap k v) (hd : (d == sysModules) = false) (hm : GAt w s.heap d xs ep) (hx : GKeys s.heap xs) (h : ∀ tk, Q (gPos xs k).isSome { s with toks := tk }) : wpAny (model prog w) A (contains (.ref d) v) Q E s := by
  have ev : (gVal xs k).isSome = (gPos xs k).isSome := by
    unfold gVal
    cases e : gPos xs k with
    | none => rfl
    | some j =>
      obtain ⟨x, hx, _⟩ := gPos_lt e
      show (xs[j]?.map fun x => x.2.2).isSome = true
      rw [hx] <;> rfl
  unfold contains
  try with_reducible refine wpAny_holding ?_
  refine wpAny_bind (wpAny_specialOf hm.typeIs slot_dict_contains.lookup ?_)
  show wpAny _ _ (ite ((some (Value.builtin "dict.__contains__") == some Value.none) = true) _ _) _ E s
  rw [if_neg (by rw [beq_builtin_none]; decide)]
  refine wpAny_bind (wpAny_callSpecialUnlessNone?_slot (name := Str.ofString "__contains__") hm.typeIs slot_dict_contains (wpAny_call_entry slot_dict_contains hm.typeIs entry_dict_contains ?_ (args_dict_contains _ _)))
  show wpAny _ _ (bind (dictGet d v) _) _ _ s
  refine wpAny_bind (get_g hu hk hm hx ?_)
  rw [← ev] at h
  cases hf : gVal xs k with
  | some p =>
    rw [hf] at h
    show wpAny _ _ (ret (Value.bool true)) _ _ _
    exact wpAny_pure ⟨_, rfl, wpAny_truthy_bool (h _)⟩
  | none =>
    rw [hf] at h
    show wpAny _ _ (bind (Builtin.Dict.pendingKey? d v) _) _ _ _
    exact wpAny_bind (wpAny_pendingKey_other hd (wpAny_pure ⟨_, rfl, wpAny_truthy_bool (h _)⟩))
theorem getItem_g {u : Value} {Q : Value → Shared → Prop} (hu : A.in1.units + 8 < cLine) (hk : KeyV s.heap k v) (hm : GAt w s.heap d xs ep) (hx : GKeys s.heap xs) (hv : gVal xs k = some u) (h : ∀ tk, Q u { s with toks := tk }) : wpAny (model prog w) A (getItem (.ref d) v) Q E s := by
  unfold getItem
  try with_reducible refine wpAny_holding ?_
  refine wpAny_bind (wpAny_sequenceKey hm.typeIs (by decide) (wpAny_bind (wpAny_callSpecial?_slot (name := Str.ofString "__getitem__") hm.typeIs slot_dict_getitem (wpAny_call_entry slot_dict_getitem hm.typeIs entry_dict_getitem ?_ (args_dict_getitem _ _)))))
  show wpAny _ _ (bind (dictGet d v) _) _ _ s
  refine wpAny_bind (get_g hu hk hm hx ?_)
  rw [hv]
  exact wpAny_pure ⟨u, rfl, wpAny_pure (h _)⟩
theorem setItem_g {u : Value} {Q : Unit → Shared → Prop} (hu : A.in1.units + 8 < cLine) (hk : KeyV s.heap k v) (hm : GAt w s.heap d xs ep) (hx : GKeys s.heap xs) (hsz : xs.length ≤ sizeLine)
    (hQ : ∀ h' tk, GAt w h' d (gPut xs k v u) (gEp xs k ep) → Heap.SameBut d s.heap h' → Q () { s with heap := h', toks := tk }) : wpAny (model prog w) A (setItem (.ref d) v u) Q E s := by
  unfold setItem
  try with_reducible refine wpAny_holding ?_
  refine wpAny_bind (wpAny_sequenceKey hm.typeIs (by decide) (wpAny_bind (wpAny_callSpecial?_slot (name := Str.ofString "__setitem__") hm.typeIs slot_dict_setitem (wpAny_call_entry slot_dict_setitem hm.typeIs entry_dict_setitem ?_ (args_dict_setitem _ _ _)))))
  show wpAny _ _ (bind (Builtin.Dict.notOrdered "__setitem__" ⟨[.ref d, v, u], []⟩) _) _ _ s
  refine wpAny_bind (wpAny_notOrdered_dict hm.typeIs ?_)
  show wpAny _ _ (bind (dictSet d v u) _) _ _ s
  exact wpAny_bind (set_g hu hk hm hx hsz fun h' hm' hs' => wpAny_pure ⟨.none, rfl, wpAny_pure (hQ h' _ hm' hs')⟩)
/-- many put one after the other -/
def gAll {κ υ : Type} (xs : List (NestedKey × κ × υ)) (ps : List (NestedKey × κ × υ)) : List (NestedKey × κ × υ) := ps.foldl (fun acc p => gPut acc p.1 p.2.1 p.2.2) xs
theorem gPut_len {κ υ : Type} (xs : List (NestedKey × κ × υ)) (k : NestedKey) (v : κ) (u : υ) : (gPut xs k v u).length ≤ xs.length + 1 := by
  unfold gPut
  split
  · rw [List.length_append]
    exact Nat.le_refl _
  · rw [List.length_modify]
    exact Nat.le_succ _
theorem gPut_new {κ υ : Type} {xs : List (NestedKey × κ × υ)} {k : NestedKey} (h : k ∉ xs.map (·.1)) (v : κ) (u : υ) : gPut xs k v u = xs ++ [(k, v, u)] := by
  unfold gPut
  rw [gPos_none fun j x hj e => h (List.mem_map.mpr ⟨x, List.mem_of_getElem? hj, e⟩)]
theorem gEp_new {β : Type} {xs : List (NestedKey × β)} {k : NestedKey} (h : k ∉ xs.map (·.1)) (ep : Nat) : gEp xs k ep = ep + 1 := by
  unfold gEp
  rw [gPos_none fun j x hj e => h (List.mem_map.mpr ⟨x, List.mem_of_getElem? hj, e⟩)]
/-- dict(pairs), the keys all different -/
theorem dict_g {T : String} {a : Addr} {fp : List Addr} {n : Nat} {Rel : Nat → Value → Value → Prop} {OK : Heap → Prop} {ps : List GE} {Q : Value → Shared → Prop} (P : PairArg prog w T a fp [] n Rel OK) (hh : A.handled = none) (hu : A.in1.in1.units + 8 < cLine) (ok : OK s.heap)
    (hc : ps.length = n ∧ ∀ i key v, Rel i key v → ∃ k, ps[i]? = some (k, key, v)) (hx : GKeys s.heap ps) (hsz : n ≤ sizeLine)
    (h : ∀ h' tk, GAt w h' s.heap.objs.size ps n → (∀ b o, s.heap.get? b = some o → h'.get? b = some o) → Q (.ref s.heap.objs.size) { s with heap := h', toks := tk }) : wpAny (model prog w) A (call (.type "dict") [.ref a]) Q E s := by
  refine call_dict_arg P ok fun s₁ hs₁ hdf ok₁ => ?_
  subst hs₁
  have k0 : ∀ b o, s.heap.get? b = some o → (s.heap.push { cls := .type "dict", data := .dict #[] }).get? b = some o := fun b o e => Heap.get?_push_of_some _ e
  refine updateFrom_arg (A := A.in1) (Tab := fun i h' => GAt w h' s.heap.objs.size (ps.take i) i ∧ ∀ b o, s.heap.get? b = some o → h'.get? b = some o) P .none hh ok₁ hdf ⟨GAt.new, k0⟩ (fun i h' x => let ⟨⟨o, _, ho, _⟩, _⟩ := x; Heap.lt_size ho) ?_ ?_ ?_
  · intro i h1 h2 wr' hd hw x hk
    refine ⟨x.1.at fun o e => hk _ o hd e, fun b o e => hk b o (fun hb => ?_) (x.2 b o e)⟩
    rcases hw b hb with q | q
    · cases q
    · have := k0 b o e
      have q : (s.heap.push { cls := .type "dict", data := .dict #[] }).get? b = none := q
      rw [q] at this
      cases this
  · intro i key v s2 Q2 E2 hi hr x _ q
    obtain ⟨k, hk⟩ := hc.2 i key v hr
    have hmem := List.mem_of_getElem? hk
    have sq : ∀ a o vs n, s.heap.get? a = some o → o.data = .seq vs n → s2.heap.get? a = some o := fun a o vs n e _ => x.2 a o e
    have hx2 : GKeys s2.heap (ps.take i) := ⟨fun y hy => (hx.is y (List.mem_of_mem_take hy)).at sq, by rw [List.map_take]; exact (List.take_sublist _ _).nodup hx.nd⟩
    have hk2 : KeyV s2.heap k key := (hx.is _ hmem).at sq
    have hnew : k ∉ (ps.take i).map (·.1) := fun hm => by
      obtain ⟨y, hy, e⟩ := List.mem_map.mp hm
      obtain ⟨j, hj, e2⟩ := List.getElem_of_mem hy
      have hj' : j < i := Nat.lt_of_lt_of_le hj (List.length_take_le _ _)
      have hy2 : ps[j]? = some y := by
        rw [← List.getElem?_take_of_lt hj', List.getElem?_eq_getElem hj, e2]
      have := nd_ix hx.nd hy2 hk e
      omega
    have hi' : i < ps.length := by omega
    refine set_g (u := v) hu hk2 x.1 hx2 (by rw [List.length_take]; omega) fun h' g sb => q h' _ ⟨?_, fun b o e => ?_⟩ sb
    · rw [gPut_new hnew, gEp_new hnew] at g
      rw [List.take_add_one, hk]
      exact g
    · exact (sb.2 b (Nat.ne_of_lt (Heap.lt_size e))).trans (x.2 b o e)
  · intro h' tk x hk
    refine ⟨rfl, h h' tk ?_ fun b o e => x.2 b o e⟩
    rw [← hc.1]
    have := x.1
    rw [← hc.1, List.take_length] at this
    exact this
end
end DG

/-! # Mixed dicts in the hand layer. -/
namespace Tr
open PySem PySem.Spec PyProof.Rows L2 DG
/-- entries: the key as data, the key's value, what is kept -/
abbrev GV := NestedKey × V × V
mutual
/-- the value is the key -/
inductive NkV (H : Hp) : V → NestedKey → Prop
  | non : NkV H .non .none
  | int (i : Int) : NkV H (.int i) (.num i)
  | str (z : Str) : NkV H (.str z) (.text z)
  | tup {a : Addr} {vs : List V} {ks : List NestedKey} (e : H a = some (.tup vs)) (h : NkAll H vs ks) : NkV H (.ref a) (.tup ks)
inductive NkAll (H : Hp) : List V → List NestedKey → Prop
  | nil : NkAll H [] []
  | cons {v : V} {k : NestedKey} {vs : List V} {ks : List NestedKey} (h : NkV H v k) (t : NkAll H vs ks) : NkAll H (v :: vs) (k :: ks)
end
mutual
theorem NkV.mono {H H' : Hp} (s : ∀ b xs, H b = some (.tup xs) → H' b = some (.tup xs)) {v : V} {k : NestedKey} : NkV H v k → NkV H' v k
  | .non => .non
  | .int i => .int i
  | .str z => .str z
  | .tup e h => .tup (s _ _ e) (NkAll.mono s h)
theorem NkAll.mono {H H' : Hp} (s : ∀ b xs, H b = some (.tup xs) → H' b = some (.tup xs)) {vs : List V} {ks : List NestedKey} : NkAll H vs ks → NkAll H' vs ks
  | .nil => .nil
  | .cons h t => .cons (NkV.mono s h) (NkAll.mono s t)
end
/-- a key that may stand by itself -/
structure KOkg (k : NestedKey) : Prop where
  dep : k.depth ≤ 8
  ns : ∀ z, k ≠ .text z
structure GKV (H : Hp) (xs : List GV) : Prop where
  is : ∀ x ∈ xs, NkV H x.2.1 x.1 ∧ KOkg x.1
  nd : (xs.map (·.1)).Nodup
theorem GKV.mono {H H' : Hp} {xs : List GV} (s : ∀ b xs, H b = some (.tup xs) → H' b = some (.tup xs)) (h : GKV H xs) : GKV H' xs := ⟨fun x hx => ⟨(h.is x hx).1.mono s, (h.is x hx).2⟩, h.nd⟩
theorem GKV.nil {H : Hp} : GKV H [] := ⟨(fun _ h => nomatch h), List.nodup_nil⟩
def GRel (p : GV) (q : GE) : Prop := p.1 = q.1 ∧ RelV p.2.1 q.2.1 ∧ RelV p.2.2 q.2.2
/-- the dict at d -/
def dGo (w : World) (d : Addr) (xs : List GV) (ep : Nat) : HO := .ext fun h => ∃ ys : List GE, Paired GRel xs ys ∧ GAt w h d ys ep ∧ (d == sysModules) = false
section
variable {X : Cx} {pins : List (Addr × Obj)} {σ : L2.St} {H : Hp} {s : Shared} {d : Addr} {xs : List GV} {ep : Nat} {k : NestedKey} {v u : V}
mutual
theorem NkV.is (I : Inv X pins σ H s) {v : V} {k : NestedKey} : NkV H v k → ∀ r : Value, RelV v r → NestedIs s.heap k r
  | .non, r, rr => by cases (show r = Value.none from rr); exact .none
  | .int i, r, rr => by obtain ⟨t, q⟩ := (show ∃ t, r = Value.int i t from rr); cases q; exact .int i t
  | .str z, r, rr => by obtain ⟨t, q⟩ := (show ∃ t, r = Value.str z t from rr); cases q; exact .text z t
  | .tup (a := a) (ks := ks) e h, r, rr => by
    cases (show r = Value.ref a from rr)
    obtain ⟨its, rv, ⟨o, ho, hc, n, hd⟩, _⟩ := I.tuple (SqT.of e)
    exact .tup ho hc hd (NkAll.is I h its rv)
theorem NkAll.is (I : Inv X pins σ H s) {vs : List V} {ks : List NestedKey} : NkAll H vs ks → ∀ rs : List Value, Vals vs rs → NestedAll s.heap ks rs
  | .nil, rs, rr => by cases rr; exact .nil
  | .cons h t, rs, rr => by
    cases rr with
    | cons r1 rt => exact .cons (NkV.is I h _ r1) (NkAll.is I t _ rt)
end
theorem NkV.key (I : Inv X pins σ H s) (h : NkV H v k) (o : KOkg k) {r : Value} (rr : RelV v r) : KeyV s.heap k r := ⟨h.is I r rr, o.dep, fun z t e => by
  subst e
  have := h.is I _ rr
  cases this
  exact o.ns z rfl⟩
theorem dGo_at (I : Inv X pins σ H s) (h : H d = some (dGo X.w d xs ep)) : ∃ ys : List GE, Paired GRel xs ys ∧ GAt X.w s.heap d ys ep ∧ (d == sysModules) = false := (show ObjOk X.prog X.w H s.heap d (dGo X.w d xs ep) from I.hok d _ h).1
theorem rel_keys {ys : List GE} (r : Paired GRel xs ys) : ys.map (·.1) = xs.map (·.1) := by
  induction r with
  | nil => rfl
  | cons h _ ih => rw [List.map_cons, List.map_cons, ih, h.1]
theorem rel_gkeys (I : Inv X pins σ H s) (g : GKV H xs) {ys : List GE} (r : Paired GRel xs ys) : GKeys s.heap ys := by
  refine ⟨fun y hy => ?_, by rw [rel_keys r]; exact g.nd⟩
  have : ∃ x ∈ xs, GRel x y := by
    clear g
    induction r with
    | nil => cases hy
    | cons h _ ih =>
      rcases List.mem_cons.mp hy with rfl | hy
      · exact ⟨_, List.mem_cons_self, h⟩
      · obtain ⟨x, hx, e⟩ := ih hy
        exact ⟨x, List.mem_cons_of_mem _ hx, e⟩
  obtain ⟨x, hx, e1, e2, e3⟩ := this
  have := g.is x hx
  rw [← e1]
  exact this.1.key I this.2 e2
theorem rel_pos {ys : List GE} (r : Paired GRel xs ys) : gPos ys k = gPos xs k := by
  unfold gPos
  induction r with
  | nil => rfl
  | cons h _ ih => rw [List.findIdx?_cons, List.findIdx?_cons, ih, h.1]
theorem rel_get {ys : List GE} (r : Paired GRel xs ys) {j : Nat} {x : GV} (h : xs[j]? = some x) : ∃ y, ys[j]? = some y ∧ GRel x y := paired_get r h
theorem rel_modify {ys : List GE} {r : Value} (h : Paired GRel xs ys) (ru : RelV u r) : ∀ j : Nat, Paired GRel (xs.modify j fun x => (x.1, x.2.1, u)) (ys.modify j fun x => (x.1, x.2.1, r)) := by
  induction h with
  | nil => intro j; rw [List.modify_nil, List.modify_nil]; exact .nil
  | cons h t ih =>
    intro j
    cases j with
    | zero => rw [List.modify_zero_cons, List.modify_zero_cons]; exact .cons ⟨h.1, h.2.1, ru⟩ t
    | succ j => rw [List.modify_succ_cons, List.modify_succ_cons]; exact .cons h (ih j)
theorem paired_snoc {α β : Type} {R : α → β → Prop} {l : List α} {m : List β} {a : α} {b : β} (h : Paired R l m) (r : R a b) : Paired R (l ++ [a]) (m ++ [b]) := by
  induction h with
  | nil => exact .cons r .nil
  | cons h _ ih => exact .cons h ih
theorem rel_put {ys : List GE} {rv ru : Value} (h : Paired GRel xs ys) (r1 : RelV v rv) (r2 : RelV u ru) : Paired GRel (gPut xs k v u) (gPut ys k rv ru) := by
  unfold gPut
  rw [rel_pos h]
  cases e : gPos xs k with
  | none => exact paired_snoc h ⟨rfl, r1, r2⟩
  | some j => exact rel_modify h r2 j
theorem dGo_new {h' : Heap} {H' : Hp} {ys : List GE} (r : Paired GRel xs ys) (g : GAt X.w h' d ys ep) (hd : (d == sysModules) = false) : ObjOk X.prog X.w H' h' d (dGo X.w d xs ep) :=
  ⟨⟨ys, r, g, hd⟩, let ⟨o, _, ho, _⟩ := g; ⟨o, ho⟩, fun h1 h2 ⟨zs, r', g', hd'⟩ k => ⟨zs, r', g'.at k, hd'⟩⟩
theorem gVal_of {κ υ : Type} {xs : List (NestedKey × κ × υ)} (nd : (xs.map (·.1)).Nodup) {x : NestedKey × κ × υ} (h : x ∈ xs) : gVal xs x.1 = some x.2.2 := by
  obtain ⟨j, hj, e⟩ := List.getElem_of_mem h
  have hx : xs[j]? = some x := by rw [List.getElem?_eq_getElem hj, e]
  unfold gVal
  rw [gPos_some nd hx rfl]
  show (xs[j]?.map fun x => x.2.2) = _
  rw [hx] <;> rfl
/-! ### the rules -/
def rIxG (w : World) : R2 := fun x y H Q => ∃ (d : Addr) (xs : List GV) (ep : Nat) (k : NestedKey) (v : V), x = .ref d ∧ H d = some (dGo w d xs ep) ∧ GKV H xs ∧ NkV H y k ∧ KOkg k ∧ gVal xs k = some v ∧ Q v H
theorem in1_u (hu : X.A.units + 64 < cLine) : X.A.in1.units + 8 < cLine := by
  have : X.A.in1.units = X.A.units + 1 := rfl
  omega
theorem ix_dG (w : World) (hu : X.A.units + 64 < cLine) (hw : X.w = w := by rfl) : IxR X (rIxG w) := by
  subst hw
  intro value slice pins s σ H x y v u Q I rx ry h hs
  obtain ⟨d, xs, ep, k, z, rfl, hd, g, hk, ko, hv, q⟩ := h
  cases rx
  obtain ⟨ys, r, ga, _⟩ := dGo_at I hd
  obtain ⟨uz, hz, rz⟩ : ∃ uz, gVal ys k = some uz ∧ RelV z uz := by
    unfold gVal at hv ⊢
    rw [rel_pos r]
    cases e : gPos xs k with
    | none => rw [e] at hv; cases hv
    | some j =>
      rw [e] at hv
      obtain ⟨x, hx, _⟩ := gPos_lt e
      have hv : (xs[j]?.map fun x => x.2.2) = some z := hv
      rw [hx] at hv
      cases hv
      obtain ⟨y, hy, e1, e2, e3⟩ := rel_get r hx
      refine ⟨y.2.2, ?_, e3⟩
      show (ys[j]?.map fun x => x.2.2) = _
      rw [hy] <;> rfl
  exact tail_any ga.typeIs PySem.F.slot_dict_getitem.lookup (getItem_g (in1_u hu) (hk.key I ko ry) ga (rel_gkeys I g r) hz fun tk => ⟨z, H, I.tok _, rz, q⟩) hs
def rInG (w : World) (f : Bool → Bool) : R2 := fun x y H Q => ∃ (d : Addr) (xs : List GV) (ep : Nat) (k : NestedKey), y = .ref d ∧ H d = some (dGo w d xs ep) ∧ GKV H xs ∧ NkV H x k ∧ KOkg k ∧ Q (.bl (f (gPos xs k).isSome)) H
theorem op_inG (w : World) (hu : X.A.units + 64 < cLine) (hw : X.w = w := by rfl) : OpR X (compareOp .In) (rInG w id) := by
  subst hw
  intro pins s σ H x y v u Q I rx ry h
  obtain ⟨d, xs, ep, k, rfl, hd, g, hk, ko, q⟩ := h
  cases ry
  obtain ⟨ys, r, ga, hs⟩ := dGo_at I hd
  show wpAny _ _ (bind (contains (.ref d) v) fun b => pure (Value.bool b)) _ _ s
  refine wpAny_bind (contains_g (in1_u hu) (hk.key I ko rx) hs ga (rel_gkeys I g r) fun tk => wpAny_pure ⟨.bl _, H, I.tok _, rfl, ?_⟩)
  rw [rel_pos r]
  exact q
theorem op_notInG (w : World) (hu : X.A.units + 64 < cLine) (hw : X.w = w := by rfl) : OpR X (compareOp .NotIn) (rInG w not) := by
  subst hw
  intro pins s σ H x y v u Q I rx ry h
  obtain ⟨d, xs, ep, k, rfl, hd, g, hk, ko, q⟩ := h
  cases ry
  obtain ⟨ys, r, ga, hs⟩ := dGo_at I hd
  show wpAny _ _ (bind (contains (.ref d) v) fun b => pure (Value.bool !b)) _ _ s
  refine wpAny_bind (contains_g (in1_u hu) (hk.key I ko rx) hs ga (rel_gkeys I g r) fun tk => wpAny_pure ⟨.bl _, H, I.tok _, rfl, ?_⟩)
  rw [rel_pos r]
  exact q
def rSetG (w : World) : V → V → V → Hp → (Hp → Prop) → Prop := fun o i v H Q => ∃ (d : Addr) (xs : List GV) (ep : Nat) (k : NestedKey), o = .ref d ∧ H d = some (dGo w d xs ep) ∧ GKV H xs ∧ NkV H i k ∧ KOkg k ∧ xs.length ≤ sizeLine ∧ Q (upd H d (dGo w d (gPut xs k i v) (gEp xs k ep)))
theorem set_dG (w : World) (hu : X.A.units + 64 < cLine) (hw : X.w = w := by rfl) : PSet X (rSetG w) := by
  subst hw
  intro pins s σ H o i v ov iv u Q I ro ri rv h
  obtain ⟨d, xs, ep, k, rfl, hd, g, hk, ko, hl, q⟩ := h
  cases ro
  obtain ⟨ys, r, ga, hs⟩ := dGo_at I hd
  refine setItem_g (in1_u hu) (hk.key I ko ri) ga (rel_gkeys I g r) (by rw [← Paired.length r]; exact hl) fun h' tk g' sb => ⟨_, ?_, q⟩
  have he : ∃ q, h'.get? d = some q := let ⟨q, _, hq, _⟩ := g'; ⟨q, hq⟩
  have ge : gEp ys k ep = gEp xs k ep := by unfold gEp; rw [rel_pos r]
  rw [ge] at g'
  exact d_write I (by rw [hd]; exact True.intro) sb he (dGo_new (rel_put r ri rv) g' hs)
/-- {} -/
def tDNewG (w : World) : TE := fun _ H Q => ∀ p, H p = none → Q (.ref p) (upd H p (dGo w p [] 0))
theorem pe_dnewG {pos : Pos} (w : World) (hw : X.w = w := by rfl) : PE X (.Dict [] [] pos) (tDNewG w) := by
  subst hw
  refine ⟨fun pins s σ H Q I h => wpAny_Dict_empty ⟨.ref s.heap.objs.size, _, I.laid (a := s.heap.objs.size) (o := dGo X.w s.heap.objs.size [] 0) (t' := s.toks) (fun _ _ q => Heap.get?_push_of_some _ q) (Nat.le_refl _) ?_, rfl, h _ (I.hok.fresh (Nat.le_refl _))⟩⟩
  exact dGo_new .nil GAt.new (beq_eq_false_iff_ne.mpr (Nat.ne_of_gt I.big))
/-- the keys, in their order -/
def Itg (w : World) (d : Addr) (xs : List GV) (ep : Nat) : It := ⟨fun i H => H d = some (dGo w d xs ep) ∧ i < xs.length, fun i H x H' => H' = H ∧ ∃ e, xs[i]? = some e ∧ x = e.2.1, fun i H => H d = some (dGo w d xs ep) ∧ xs.length ≤ i⟩
theorem walk_dG {w : World} {d : Addr} {xs : List GV} {ep : Nat} : Walk (Itg w d xs ep) xs.length (fun H => H d = some (dGo w d xs ep)) (fun i H x H' => H' = H ∧ ∃ e, xs[i]? = some e ∧ x = e.2.1) :=
  ⟨fun _ _ hi q => ⟨q, hi⟩, fun _ q => ⟨q, Nat.le_refl _⟩, fun _ _ _ _ _ _ y => y⟩
theorem turn_dG {P : Program} {w : World} {K : PySem.W.Frag} {tg : Expr} (it : Addr) : Turn P w K tg (Itg w d xs ep) [it] it (fun i h => h.IsKeyIter it d i xs.length ep) where
  mem := List.mem_singleton.mpr rfl
  obj := fun i h st b hb => by
    obtain rfl := List.mem_singleton.mp hb
    obtain ⟨oi, e, c, dd⟩ := st
    exact ⟨oi, e, fun v z => by rw [dd] at z; cases z⟩
  keep := fun i h h' st k => st.at fun oi e => k it (List.mem_singleton.mpr rfl) oi e
  item := by
    intro X hP hw hK hc i pins s σ H E I hf st hg
    subst hP hw hK
    obtain ⟨hd, hi⟩ := hg
    obtain ⟨f0, f1, f2, f3, f4, f5⟩ := hf it (List.mem_singleton.mpr rfl)
    obtain ⟨ys, r, ⟨od, es, hod, hx, hdt, he⟩, hs⟩ := dGo_at I hd
    obtain ⟨y, hy, e1, e2, e3⟩ := rel_get r (List.getElem?_eq_getElem hi)
    have hsz : es.size = xs.length := by rw [ent_sz he, ← Paired.length r]
    have hen : es[i]? = some (gEnt X.w y) := by rw [ent_at he, hy] <;> rfl
    refine next_key_item st hod hdt hsz hen fun h' st' sb => ?_
    have I1 : Inv X pins σ H { s with heap := h' } := I.turned (t' := s.toks) (fun b ob hb e => (sb.2 b hb).trans e) f0 f1 f3 f4 f5
    obtain ⟨oi, e, c, dd⟩ := id st'
    exact ⟨y.2.1, rfl, go_of (s := { s with heap := h' }) e c dd (by decide) ⟨xs[i].2.1, H, I1, e2, ⟨rfl, xs[i], List.getElem?_eq_getElem hi, rfl⟩, st', fun b hb => (hf b hb).1⟩⟩
  done := by
    intro X hP hw hK hc i pins s σ H E I hf st hg
    subst hP hw hK
    obtain ⟨hd, hi⟩ := hg
    obtain ⟨f0, f1, f2, f3, f4, f5⟩ := hf it (List.mem_singleton.mpr rfl)
    obtain ⟨ys, r, ⟨od, es, hod, hx, hdt, he⟩, hs⟩ := dGo_at I hd
    have hsz : es.size = xs.length := by rw [ent_sz he, ← Paired.length r]
    exact next_key_end (I.ok.hd hc) st hod hdt hsz hi fun h' eb => ⟨rfl, I.turned (t' := s.toks) (fun b ob hb e => eb b ob hb e) f0 f1 f3 f4 f5⟩
  self := fun A i s Q E st h => wpAny_pyIter_keyiter st h
def iKeyG (w : World) (td : TE) : TI := fun σ H R => td σ H fun x H1 => ∃ (d : Addr) (xs : List GV) (ep : Nat), x = .ref d ∧ H1 d = some (dGo w d xs ep) ∧ R (Itg w d xs ep) H1
theorem pi_keyG {tg e : Expr} {td : TE} (w : World) (he : PE X e td) (hw : X.w = w := by rfl) : PI X tg e (iKeyG w td) := by
  subst hw
  refine ⟨fun pins s σ H R I h => ?_⟩
  refine thn (he.run pins s σ H _ I h) fun u s1 ⟨x, H1, I1, rx, d, xs, ep, ex, hd, q⟩ => ?_
  subst ex
  obtain rfl : u = Value.ref d := rx
  obtain ⟨ys, r, ⟨od, es, hod, hx, hdt, he⟩, hs⟩ := dGo_at I1 hd
  refine iter_keys hs hod hx hdt (pi_one (tk := s1.toks) I1 _ (turn_dG _) ⟨_, Heap.get?_push_size _ rfl, rfl, ?_⟩ q)
  rw [ent_sz he, ← Paired.length r] <;> rfl
/-- dict(list of pairs), the keys all different -/
def rDictG (w : World) (K : PySem.W.Frag) : List V → Hp → VK → Prop := fun xs H Q => ∃ (l : Addr) (us : List Addr) (ps : List GV), xs = [.ref l] ∧ SqL K H l (us.map V.ref) ∧ P2 (fun (u : Addr) (p : GV) => H u = some (.tup [p.2.1, p.2.2])) us ps ∧ GKV H ps ∧ ∀ d, H d = none → Q (.ref d) (upd H d (dGo w d ps ps.length))
theorem p2_vals {us : List Addr} {ps : List GV} (I : Inv X pins σ H s) (h : P2 (fun (u : Addr) (p : GV) => H u = some (.tup [p.2.1, p.2.2])) us ps) : ∃ qs : List GE, Paired GRel ps qs ∧ P2 (fun (u : Addr) (q : GE) => s.heap.IsTuple u #[q.2.1, q.2.2]) us qs := by
  induction h with
  | nil => exact ⟨[], .nil, .nil⟩
  | @cons u p us ps h _ ih =>
    obtain ⟨qs, r, t⟩ := ih
    obtain ⟨its, rv, it, _⟩ := I.tuple (SqT.of (K := X.K) h)
    obtain ⟨a, b, e, ra, rb⟩ := vals2 rv
    subst e
    exact ⟨(p.1, a, b) :: qs, .cons ⟨rfl, ra, rb⟩ r, .cons it t⟩
theorem call_dictG (w : World) (hc : X.calm = true) (hu : X.A.units + 64 < cLine) (hw : X.w = w := by rfl) : CallR X (.type "dict") (rDictG w X.K) := by
  subst hw
  intro pins s σ H xs us0 Q I r h
  obtain ⟨l, us, ps, rfl, hl, hp, g, q⟩ := h
  rw [Vals.ref1 r]
  obtain ⟨its, rv, pl, hz⟩ := I.list hl
  have ei := refs_at rv
  subst ei
  obtain ⟨qs, rel, pt⟩ := p2_vals I hp
  obtain ⟨o, n, ho, hcl, hd, hdat⟩ := pl
  have lq : qs.length = us.length := pt.len.symm
  rw [List.length_map] at hz
  have hi2 : X.A.in1.in1.units + 8 < cLine := by
    have : X.A.in1.in1.units = X.A.units + 1 + 1 := rfl
    omega
  refine dict_g (ps := qs) (PairArg.list l (us.map Value.ref).toArray (fun j => us.getD j 0) (qs.map fun q => (q.2.1, q.2.2))) (I.ok.hd hc) hi2 ⟨⟨o, n, ho, hcl, hd, hdat⟩, by simp [lq], fun j k v e => ?_⟩ ⟨by simp, fun i k v e => ?_⟩ (rel_gkeys I g rel) (by rw [List.length_map, lq]; exact hz) fun h' tk ga k => ?_
  · rw [List.getElem?_map] at e
    cases e2 : qs[j]? with
    | none => rw [e2] at e; cases e
    | some y =>
      rw [e2] at e
      cases e
      obtain ⟨u, hu', ht⟩ := pt.get e2
      refine ⟨?_, .inl ?_⟩
      · simp [hu']
      · show s.heap.IsTuple (us.getD j 0) _
        rw [List.getD_eq_getElem?_getD, hu']
        exact ht
  · have e : (qs.map fun q => (q.2.1, q.2.2))[i]? = some (k, v) := e
    rw [List.getElem?_map] at e
    cases e2 : qs[i]? with
    | none => rw [e2] at e; cases e
    | some y =>
      rw [e2] at e
      cases e
      exact ⟨y.1, rfl⟩
  · have hm : (s.heap.objs.size == sysModules) = false := beq_eq_false_iff_ne.mpr (Nat.ne_of_gt I.big)
    rw [List.length_map, ← Paired.length rel] at ga
    exact ⟨.ref s.heap.objs.size, _, I.laid (t' := tk) k (Nat.le_refl _) (dGo_new rel ga hm), rfl, q _ (I.hok.fresh (Nat.le_refl _))⟩
end
end Tr

/-! # Texts: repeated, of letters and digits. -/
namespace Tr
open PySem L2 TL
section
variable {X : Cx}
theorem op_mulS : OpR X (binaryOp .Mult) (fun x y H Q => ∃ z n, x = .str z ∧ y = .int n ∧ MulOk z n ∧ Q (.str (Txt.mul z n)) H) := by
  intro pins s σ H x y v u Q I rx ry h
  obtain ⟨z, n, rfl, rfl, ok, q⟩ := h
  obtain ⟨t, rfl⟩ := rx
  obtain ⟨t', rfl⟩ := ry
  exact SB.mul ok fun _ k => ⟨.str _, H, I.tok _, ⟨_, rfl⟩, q⟩
end
theorem mulOk_small {z : Str} {n : Int} (hz : z.length = 1) (h0 : 0 < n) (h1 : n ≤ 100) : MulOk z n := by
  obtain ⟨k, rfl⟩ : ∃ k : Nat, n = (k : Int) := ⟨n.toNat, by omega⟩
  refine ⟨?_, fun _ _ => ?_, fun _ _ => ?_⟩
  · rw [decide_eq_false (by omega), decide_eq_false (by omega)]
    rfl
  · rw [hz]
    have : (1 : Int) ≤ (2 ^ 63 - 1) / (k : Int) := (Int.le_ediv_iff_mul_le (by omega)).mpr (by omega)
    omega
  · rw [hz]
    have hs : sizeLine = 16777216 := sizeLine_eq
    unfold Builtin.Str.tooLong
    simp
    omega
theorem tl_mul {z : Str} {n : Int} (hz : z.length = 1) (h0 : 0 < n) : tl (Txt.mul z n) = (List.replicate n.toNat (tl z)).flatten := by
  have e : ∀ (ls : List (Array Nat)) (a : Array Nat), (ls.foldl (· ++ ·) a).toList = a.toList ++ (ls.map Array.toList).flatten := by
    intro ls
    induction ls with
    | nil => intro a; simp
    | cons l ls ih => intro a; rw [List.foldl_cons, ih]; simp
  unfold Txt.mul
  rw [if_neg (by omega)]
  by_cases h1 : n = 1
  · subst h1
    rw [if_pos (by rw [hz]; decide)]
    show _ = (List.replicate 1 (tl z)).flatten
    simp
  · rw [if_neg (by rw [hz]; simp; exact h1)]
    show ((List.replicate n.toNat z.cps).foldl (· ++ ·) #[]).toList = _
    rw [e, List.map_replicate]
    rfl
def isL (c : Nat) : Prop := 97 ≤ c ∧ c ≤ 122
def isD (c : Nat) : Prop := 48 ≤ c ∧ c ≤ 57
/-- a name -/
def NmOk (z : Str) : Prop := ∃ c r, tl z = c :: r ∧ isL c ∧ r.length ≤ 11 ∧ ∀ d ∈ r, isL d ∨ isD d
/-- a name that ends with the sign of k -/
def Nm (k : Nat) (z : Str) : Prop := NmOk z ∧ ∃ r, tl z = r ++ [48 + k]
theorem Nm.inj {j k : Nat} {z : Str} (h : Nm j z) (h' : Nm k z) : j = k := by
  obtain ⟨r, e⟩ := h.2
  obtain ⟨r', e'⟩ := h'.2
  rw [e] at e'
  have := (List.append_inj' e' rfl).2
  simp at this
  exact this
def abc : Str := "abcdefghijklmnopqrstuvwxyz"
theorem tl_abc : tl abc = List.range' 97 26 := by
  unfold abc
  rw [tl_ofString]
  decide
theorem nm_mk {z : Str} {k : Nat} (hk : k < 10) (h : ∃ c r, tl z = c :: r ∧ isL c ∧ r.length ≤ 10 ∧ ∀ d ∈ r, isL d) : Nm k (z ++ Str.ofString (toString (k : Int))) := by
  obtain ⟨c, r, e, hc, hl, hr⟩ := h
  have e2 : tl (z ++ Str.ofString (toString (k : Int))) = c :: (r ++ [48 + k]) := by rw [tl_append, e, tl_num, numL_lt hk]; rfl
  refine ⟨⟨c, _, e2, hc, by rw [List.length_append]; exact Nat.succ_le_succ hl, fun d hd => ?_⟩, c :: r, e2⟩
  rcases List.mem_append.mp hd with hd | hd
  · exact .inl (hr d hd)
  · rw [List.mem_singleton.mp hd]
    exact .inr ⟨by omega, by omega⟩
theorem num_len {k : Nat} (hk : k < 10) : (Str.ofString (toString (k : Int))).length = 1 := by
  rw [len_tl, tl_num, numL_lt hk]
  rfl
theorem abc_at {j : Nat} (h : j < 26) : atI (abc.cps.toList) (j : Int) = some (97 + j) := by
  refine atI_nat ?_
  show (tl abc)[j]? = _
  rw [tl_abc, List.getElem?_range' h]
  simp
theorem abc_len : abc.length ≤ sizeLine := by
  rw [len_tl, tl_abc]
  decide
end Tr

/-! # Lists and tuples of (text, int) (printed by tools/mkT0b.py). -/
namespace Tr
open PySem L2 TL
abbrev SI := Str × Int
def SrT (H : Hp) (t : Addr) (c : Str × Int) : Prop := H t = some (.tup [.str c.1, .int c.2])
def SL (H : Hp) (p : Addr) (cs : List SI) : Prop := ∃ ts : List Addr, H p = some (.lst (ts.map V.ref)) ∧ P2 (SrT H) ts cs
def ST (H : Hp) (p : Addr) (cs : List SI) : Prop := ∃ ts : List Addr, H p = some (.tup (ts.map V.ref)) ∧ P2 (SrT H) ts cs
theorem SrT.ne {H : Hp} {t D : Addr} {c : SI} {o : HO} (h : SrT H t c) (hD : H D = some o) (no : ∀ xs, o ≠ .tup xs) : t ≠ D := fun e => by
  rw [e] at h
  exact no _ (Option.some.inj (hD.symm.trans h))
theorem P2.sameS {H H' : Hp} (s : Same H H') {ts : List Addr} {cs : List SI} (h : P2 (SrT H) ts cs) : P2 (SrT H') ts cs := h.mono fun _ _ e => s _ _ e
theorem P2.kpS {H H' : Hp} {p : Addr} {o : HO} (k : Kp p H H') (hp : H p = some o) (no : ∀ xs, o ≠ .tup xs) {ts : List Addr} {cs : List SI} (h : P2 (SrT H) ts cs) : P2 (SrT H') ts cs := h.mono fun _ _ e => k _ _ e (e.ne hp no)
theorem SL.same {H H' : Hp} {p : Addr} {cs : List SI} (s : Same H H') (h : SL H p cs) : SL H' p cs :=
  let ⟨ts, a, b⟩ := h
  ⟨ts, s _ _ a, b.sameS s⟩
theorem ST.same {H H' : Hp} {p : Addr} {cs : List SI} (s : Same H H') (h : ST H p cs) : ST H' p cs :=
  let ⟨ts, a, b⟩ := h
  ⟨ts, s _ _ a, b.sameS s⟩
theorem SL.kp {p l : Addr} {H H' : Hp} {o : HO} {cs : List SI} (k : Kp p H H') (hp : H p = some o) (no : ∀ xs, o ≠ .tup xs) (n : l ≠ p) (h : SL H l cs) : SL H' l cs :=
  let ⟨ts, a, b⟩ := h
  ⟨ts, k _ _ a n, b.kpS k hp no⟩
theorem ST.kp {p l : Addr} {H H' : Hp} {o : HO} {cs : List SI} (k : Kp p H H') (hp : H p = some o) (no : ∀ xs, o ≠ .tup xs) (h : ST H l cs) : ST H' l cs :=
  let ⟨ts, a, b⟩ := h
  ⟨ts, k _ _ a (fun e => by rw [e] at a; exact no _ (Option.some.inj (hp.symm.trans a))), b.kpS k hp no⟩
theorem SL.kpB {p l : Addr} {H H' : Hp} {kvs : List (Key × V)} {cs : List SI} (k : Kp p H H') (hp : H p = some (.dK kvs)) (h : SL H l cs) : SL H' l cs :=
  h.kp k hp (fun _ => by intro z; cases z) (let ⟨_, a, _⟩ := h; ne_of a hp (by intro z; cases z))
section
variable {K : PySem.W.Frag}
theorem for_sp {a : Addr} {i1 i2 : Nat} {tb : TS} {D : Ends} {σ : St} {H : Hp} {cs : List (Str × Int)} {ts : List Addr} (Pv : Nat → St → Hp → Prop) (h0 : Pv 0 σ H)
    (hl : ∀ i σ H, i ≤ cs.length → Pv i σ H → SqL K H a (ts.map V.ref) ∧ P2 (SrT H) ts cs)
    (hs : ∀ i c σ H, cs[i]? = some c → Pv i σ H → tb { D with nx := Pv (i + 1), ct := Pv (i + 1), bk := D.nx } ((σ.set i1 (some (.str c.1))).set i2 (some (.int c.2))) H)
    (hd : ∀ σ H, Pv cs.length σ H → D.nx σ H) :
    ∃ W : Nat → Nat → St → Hp → Prop, (∃ m, W 0 m σ H) ∧ ∀ i m σ H, W i m σ H →
      ((Itl K a).stop i H ∧ D.nx σ H) ∨ ((Itl K a).go i H ∧ ∃ N : St → Hp → Prop, (∀ σ' H', N σ' H' → ∃ m', m' < m ∧ W (i + 1) m' σ' H') ∧ ∀ x H', (Itl K a).yld i H x H' → gTup K 2 (gCons (gName i1) (gCons (gName i2) gNil)) x σ H' fun σ2 H2 => tb { D with nx := N, ct := N, bk := D.nx } σ2 H2) := by
  have hlen := (hl 0 σ H (Nat.zero_le _) h0).2.len
  have e : (ts.map V.ref).length = cs.length := by rw [List.length_map, hlen]
  refine for_list (K := K) (a := a) (xs := ts.map V.ref) Pv h0 (fun i σ H hi p => (hl i σ H (by omega) p).1) ?_ (fun σ H p => hd σ H (by rw [← e]; exact p))
  intro i x σ H hx p
  rw [List.getElem?_map] at hx
  cases ht : ts[i]? with
  | none => rw [ht] at hx; cases hx
  | some t =>
    rw [ht] at hx
    cases hx
    have hi : i < ts.length := (List.getElem?_eq_some_iff.mp ht).1
    obtain ⟨c, hc, r⟩ := (hl i σ H (by omega) p).2.getl ht
    exact ⟨t, _, rfl, SqT.of r, rfl, _, _, rfl, _, _, rfl, rfl, hs i c σ H hc p⟩

theorem for_spT {a : Addr} {i1 i2 : Nat} {tb : TS} {D : Ends} {σ : St} {H : Hp} {cs : List (Str × Int)} {ts : List Addr} (Pv : Nat → St → Hp → Prop) (h0 : Pv 0 σ H)
    (hl : ∀ i σ H, i ≤ cs.length → Pv i σ H → SqT K H a (ts.map V.ref) ∧ P2 (SrT H) ts cs)
    (hs : ∀ i c σ H, cs[i]? = some c → Pv i σ H → tb { D with nx := Pv (i + 1), ct := Pv (i + 1), bk := D.nx } ((σ.set i1 (some (.str c.1))).set i2 (some (.int c.2))) H)
    (hd : ∀ σ H, Pv cs.length σ H → D.nx σ H) :
    ∃ W : Nat → Nat → St → Hp → Prop, (∃ m, W 0 m σ H) ∧ ∀ i m σ H, W i m σ H →
      ((Itt K a).stop i H ∧ D.nx σ H) ∨ ((Itt K a).go i H ∧ ∃ N : St → Hp → Prop, (∀ σ' H', N σ' H' → ∃ m', m' < m ∧ W (i + 1) m' σ' H') ∧ ∀ x H', (Itt K a).yld i H x H' → gTup K 2 (gCons (gName i1) (gCons (gName i2) gNil)) x σ H' fun σ2 H2 => tb { D with nx := N, ct := N, bk := D.nx } σ2 H2) := by
  have hlen := (hl 0 σ H (Nat.zero_le _) h0).2.len
  have e : (ts.map V.ref).length = cs.length := by rw [List.length_map, hlen]
  refine for_tup (K := K) (a := a) (xs := ts.map V.ref) Pv h0 (fun i σ H hi p => (hl i σ H (by omega) p).1) ?_ (fun σ H p => hd σ H (by rw [← e]; exact p))
  intro i x σ H hx p
  rw [List.getElem?_map] at hx
  cases ht : ts[i]? with
  | none => rw [ht] at hx; cases hx
  | some t =>
    rw [ht] at hx
    cases hx
    have hi : i < ts.length := (List.getElem?_eq_some_iff.mp ht).1
    obtain ⟨c, hc, r⟩ := (hl i σ H (by omega) p).2.getl ht
    exact ⟨t, _, rfl, SqT.of r, rfl, _, _, rfl, _, _, rfl, rfl, hs i c σ H hc p⟩

theorem lc_sp {a : Addr} {ts : List Addr} {cs : List (Str × Int)} {i1 i2 : Nat} {tt : TT} {te : TE} {vs : List Nat} {σ : St} {H1 : Hp} {D : Addr} {Qd : Hp → Prop} (p : Str × Int → Bool) (R : V → Str × Int → Hp → Prop)
    (hR : ∀ y c H H' acc, H D = some (.lst acc) → Kp D H H' → R y c H → R y c H') (hD : H1 D = none) (hL : SqL K H1 a (ts.map V.ref)) (hP : P2 (SrT H1) ts cs) (hsz : cs.length ≤ 100000)
    (hw : ∀ x y, wipe (((wipe σ vs).set i1 x).set i2 y) vs = wipe σ vs)
    (ht : ∀ c ∈ cs, ∀ H Q, Same H1 H → (∀ H', Same H H' → Q (p c) H') → tt (((wipe σ vs).set i1 (some (.str c.1))).set i2 (some (.int c.2))) H Q)
    (he : ∀ c ∈ cs, p c = true → ∀ H Q, Same H1 H → (∀ y H', Same H H' → R y c H' → Q y H') → te (((wipe σ vs).set i1 (some (.str c.1))).set i2 (some (.int c.2))) H Q)
    (hd : ∀ ys H, Same H1 H → H D = some (.lst ys) → P2 (fun y c => R y c H) ys (cs.filter p) → Qd H) : LcG (Itl K a) (gTup K 2 (gCons (gName i1) (gCons (gName i2) gNil))) tt te vs σ H1 D Qd := by
  have hlen := hP.len
  refine lc_list (K := K) (a := a) (xs := ts.map V.ref) (fun i H => Same H1 H ∧ ∃ ys, H D = some (.lst ys) ∧ P2 (fun y c => R y c H) ys ((cs.take i).filter p)) ⟨same_upd hD, [], upd_same, .nil⟩ (fun i H _ ⟨s, _⟩ => s.seq hL) ?_ ?_
  · rintro i x H hx ⟨s, ys, hy, py⟩
    rw [List.getElem?_map] at hx
    cases ht' : ts[i]? with
    | none => rw [ht'] at hx; cases hx
    | some t =>
      rw [ht'] at hx
      cases hx
      obtain ⟨c, hc, r⟩ := hP.getl ht'
      have hi : i < cs.length := (List.getElem?_eq_some_iff.mp hc).1
      have ll : ys.length ≤ 100000 := by
        have h1 := py.len
        have h2 := List.length_filter_le p (cs.take i)
        rw [List.length_take] at h2
        omega
      refine ⟨t, _, rfl, SqT.of (s _ _ r), rfl, _, _, rfl, _, _, rfl, rfl, hw _ _, ht c (mem_of_at hc) H _ s fun H2 s2 => ?_⟩
      have py2 := py.mono fun v b rb => hR v b H H2 _ hy s2.kp rb
      have hy2 := s2 _ _ hy
      by_cases hp : p c = true
      · rw [if_pos hp]
        refine he c (mem_of_at hc) hp H2 _ (s.trans s2) fun y H' s' r => ⟨ys, s' _ _ hy2, small_app (Nat.le_refl _) ll, ((s.trans s2).trans s').wr hD, ys ++ [y], upd_same, ?_⟩
        rw [take_snoc hc, List.filter_append, List.filter_cons, if_pos hp, List.filter_nil]
        exact (py2.mono fun v b rb => hR v b H' _ _ (s' _ _ hy2) (kp_upd D H' _) (hR v b H2 H' _ hy2 s'.kp rb)).snoc (hR y c H' _ _ (s' _ _ hy2) (kp_upd D H' _) r)
      · rw [if_neg hp]
        refine ⟨s.trans s2, ys, hy2, ?_⟩
        rw [take_snoc hc, List.filter_append, List.filter_cons, if_neg hp, List.filter_nil, List.append_nil]
        exact py2
  · rintro H ⟨s, ys, hy, py⟩
    rw [List.length_map, hlen, List.take_length] at py
    exact hd ys H s hy py
theorem lc_spT {K : PySem.W.Frag} {a : Addr} {ts : List Addr} {cs : List (Str × Int)} {i1 i2 : Nat} {tt : TT} {te : TE} {vs : List Nat} {σ : L2.St} {H1 : Hp} {D : Addr} {Qd : Hp → Prop} (p : Str × Int → Bool) (R : V → Str × Int → Hp → Prop)
    (hR : ∀ y c H H' acc, H D = some (.lst acc) → Kp D H H' → R y c H → R y c H') (hD : H1 D = none) (hL : SqT K H1 a (ts.map V.ref)) (hP : P2 (SrT H1) ts cs) (hsz : cs.length ≤ 100000)
    (hw : ∀ x y, wipe (((wipe σ vs).set i1 x).set i2 y) vs = wipe σ vs)
    (ht : ∀ c ∈ cs, ∀ H Q, Same H1 H → (∀ H', Same H H' → Q (p c) H') → tt (((wipe σ vs).set i1 (some (.str c.1))).set i2 (some (.int c.2))) H Q)
    (he : ∀ c ∈ cs, p c = true → ∀ H Q, Same H1 H → (∀ y H', Same H H' → R y c H' → Q y H') → te (((wipe σ vs).set i1 (some (.str c.1))).set i2 (some (.int c.2))) H Q)
    (hd : ∀ ys H, Same H1 H → H D = some (.lst ys) → P2 (fun y c => R y c H) ys (cs.filter p) → Qd H) : LcG (Itt K a) (gTup K 2 (gCons (gName i1) (gCons (gName i2) gNil))) tt te vs σ H1 D Qd := by
  have hlen := hP.len
  refine lc_tup (K := K) (a := a) (xs := ts.map V.ref) (fun i H => Same H1 H ∧ ∃ ys, H D = some (.lst ys) ∧ P2 (fun y c => R y c H) ys ((cs.take i).filter p)) ⟨same_upd hD, [], upd_same, .nil⟩ (fun i H _ ⟨s, _⟩ => s.seqT hL) ?_ ?_
  · rintro i x H hx ⟨s, ys, hy, py⟩
    rw [List.getElem?_map] at hx
    cases ht' : ts[i]? with
    | none => rw [ht'] at hx; cases hx
    | some t =>
      rw [ht'] at hx
      cases hx
      obtain ⟨c, hc, r⟩ := hP.getl ht'
      have hi : i < cs.length := (List.getElem?_eq_some_iff.mp hc).1
      have ll : ys.length ≤ 100000 := by
        have h1 := py.len
        have h2 := List.length_filter_le p (cs.take i)
        rw [List.length_take] at h2
        omega
      refine ⟨t, _, rfl, SqT.of (s _ _ r), rfl, _, _, rfl, _, _, rfl, rfl, hw _ _, ht c (mem_of_at hc) H _ s fun H2 s2 => ?_⟩
      have py2 := py.mono fun v b rb => hR v b H H2 _ hy s2.kp rb
      have hy2 := s2 _ _ hy
      by_cases hp : p c = true
      · rw [if_pos hp]
        refine he c (mem_of_at hc) hp H2 _ (s.trans s2) fun y H' s' r => ⟨ys, s' _ _ hy2, small_app (Nat.le_refl _) ll, ((s.trans s2).trans s').wr hD, ys ++ [y], upd_same, ?_⟩
        rw [take_snoc hc, List.filter_append, List.filter_cons, if_pos hp, List.filter_nil]
        exact (py2.mono fun v b rb => hR v b H' _ _ (s' _ _ hy2) (kp_upd D H' _) (hR v b H2 H' _ hy2 s'.kp rb)).snoc (hR y c H' _ _ (s' _ _ hy2) (kp_upd D H' _) r)
      · rw [if_neg hp]
        refine ⟨s.trans s2, ys, hy2, ?_⟩
        rw [take_snoc hc, List.filter_append, List.filter_cons, if_neg hp, List.filter_nil, List.append_nil]
        exact py2
  · rintro H ⟨s, ys, hy, py⟩
    rw [List.length_map, hlen, List.take_length] at py
    exact hd ys H s hy py
end
end Tr

/-! # Plain: a dict made of pairs, steps made normal, (text, int) lists as data. -/
namespace Tr
open PySem L2 TL
theorem mergeK_new : ∀ (more kvs : List (Key × V)), (∀ m ∈ more, ∀ k ∈ kvs, k.1 ≠ m.1) → (more.map (·.1)).Nodup → mergeK kvs more = kvs ++ more
  | [], kvs, _, _ => by rw [List.append_nil]; rfl
  | m :: ms, kvs, h, nd => by
    rw [List.map_cons, List.nodup_cons] at nd
    have e : putK kvs m.1 m.2 = kvs ++ [m] := by
      unfold putK
      rw [if_neg]
      intro z
      obtain ⟨k, hk, e⟩ := List.any_eq_true.mp z
      exact h m List.mem_cons_self k hk (of_decide_eq_true e)
    show mergeK (putK kvs m.1 m.2) ms = _
    rw [e, mergeK_new ms (kvs ++ [m]) ?_ nd.2, List.append_assoc]
    · rfl
    · intro x hx k hk
      rcases List.mem_append.mp hk with hk | hk
      · exact h x (List.mem_cons_of_mem _ hx) k hk
      · rw [List.mem_singleton.mp hk]
        intro z
        exact nd.1 (List.mem_map.mpr ⟨x, hx, z.symm⟩)
/-- names and numbers as a dict's content -/
def kdic (ks : List SI) : List (Key × V) := ks.map fun c => ((.inr c.1 : Key), V.int c.2)
def Nds (ks : List SI) : Prop := (ks.map (·.1)).Nodup
theorem kdic_nodup {ks : List SI} (h : Nds ks) : ((kdic ks).map (·.1)).Nodup := by
  have e : (kdic ks).map (·.1) = (ks.map (·.1)).map (Sum.inr : Str → Key) := by
    unfold kdic
    rw [List.map_map, List.map_map]
    rfl
  rw [e]
  exact List.Pairwise.map _ (fun a b n z => n (Sum.inr.inj z)) h
theorem merge_kdic {ks : List SI} (h : Nds ks) : mergeK [] (kdic ks) = kdic ks := mergeK_new _ _ (fun _ _ _ hk => by cases hk) (kdic_nodup h)
def lookS (ks : List SI) (z : Str) : Option Int := (ks.find? fun c => decide (c.1 = z)).map (·.2)
def perOf (ks : List SI) (z : Str) : Int := (lookS ks z).getD 0
theorem valV_kdic (z : Str) : ∀ ks : List SI, valV (kdic ks) (.inr z) = (lookS ks z).map V.int
  | [] => rfl
  | c :: cs => by
    have ih := valV_kdic z cs
    unfold lookS at ih ⊢
    by_cases e : c.1 = z
    · rw [List.find?_cons_of_pos (by exact decide_eq_true e)]
      exact valV_pos (p := ((.inr c.1 : Key), V.int c.2)) (congrArg Sum.inr e)
    · rw [List.find?_cons_of_neg (by simp [e])]
      rw [← ih]
      exact valV_neg (p := ((.inr c.1 : Key), V.int c.2)) (fun w => e (Sum.inr.inj w))
theorem lookS_mem {z : Str} {ks : List SI} (h : ∃ k ∈ ks, k.1 = z) : ∃ c ∈ ks, c.1 = z ∧ lookS ks z = some c.2 := by
  obtain ⟨k, hk, e⟩ := h
  unfold lookS
  cases hf : ks.find? fun c => decide (c.1 = z) with
  | none => exact absurd (decide_eq_true e) (List.find?_eq_none.mp hf k hk)
  | some c => exact ⟨c, List.mem_of_find?_eq_some hf, of_decide_eq_true (List.find?_some (p := fun c : SI => decide (c.1 = z)) hf), rfl⟩
/-- what stays, and the exponent, when a step comes behind a row -/
def pickN (acc : List SI) (c : SI) : List SI × Int :=
  match acc.getLast? with
  | some d => if d.1 = c.1 then (acc.dropLast, c.2 + d.2) else (acc, c.2)
  | none => (acc, c.2)
def modN (per : Str → Int) (z : Str) (e : Int) : Int := if 0 < per z then e % per z else e
def putN (acc : List SI) (z : Str) (e : Int) : List SI := if e = 0 then acc else acc ++ [(z, e)]
/-- one more step behind a normal row -/
def stepN (per : Str → Int) (acc : List SI) (c : SI) : List SI := putN (pickN acc c).1 c.1 (modN per c.1 (pickN acc c).2)
def normL (per : Str → Int) (ss : List SI) : List SI := ss.foldl (stepN per) []
theorem normL_snoc {per : Str → Int} {ss : List SI} {c : SI} : normL per (ss ++ [c]) = stepN per (normL per ss) c := by
  unfold normL
  rw [List.foldl_append]
  rfl
theorem pickN_sub {acc : List SI} {c : SI} : (∀ d ∈ (pickN acc c).1, d ∈ acc) ∧ (pickN acc c).1.length ≤ acc.length := by
  unfold pickN
  split
  · split
    · exact ⟨fun d hd => (List.dropLast_subset acc) hd, by rw [List.length_dropLast]; omega⟩
    · exact ⟨fun d hd => hd, Nat.le_refl _⟩
  · exact ⟨fun d hd => hd, Nat.le_refl _⟩
theorem stepN_sub {per : Str → Int} {acc : List SI} {c : SI} : (∀ d ∈ stepN per acc c, d ∈ acc ∨ d.1 = c.1) ∧ (stepN per acc c).length ≤ acc.length + 1 := by
  unfold stepN putN
  have h := @pickN_sub acc c
  split
  · exact ⟨fun d hd => .inl (h.1 d hd), by omega⟩
  · refine ⟨fun d hd => ?_, by rw [List.length_append]; exact Nat.succ_le_succ h.2⟩
    rcases List.mem_append.mp hd with hd | hd
    · exact .inl (h.1 d hd)
    · rw [List.mem_singleton.mp hd]
      exact .inr rfl
theorem foldN_sub {per : Str → Int} : ∀ (ss acc : List SI), (∀ d ∈ ss.foldl (stepN per) acc, d ∈ acc ∨ ∃ c ∈ ss, c.1 = d.1) ∧ (ss.foldl (stepN per) acc).length ≤ acc.length + ss.length
  | [], acc => ⟨fun d hd => .inl hd, Nat.le_refl _⟩
  | c :: ss, acc => by
    have h := foldN_sub (per := per) ss (stepN per acc c)
    have h2 := @stepN_sub per acc c
    refine ⟨fun d hd => ?_, by have := h.2; rw [List.length_cons]; exact Nat.le_trans this (by omega)⟩
    rcases h.1 d hd with z | ⟨x, hx, e⟩
    · rcases h2.1 d z with z | z
      · exact .inl z
      · exact .inr ⟨c, List.mem_cons_self, z.symm⟩
    · exact .inr ⟨x, List.mem_cons_of_mem _ hx, e⟩
theorem normL_sub {per : Str → Int} {ss : List SI} : (∀ d ∈ normL per ss, ∃ c ∈ ss, c.1 = d.1) ∧ (normL per ss).length ≤ ss.length := by
  have h := foldN_sub (per := per) ss []
  refine ⟨fun d hd => ?_, by have := h.2; rw [List.length_nil, Nat.zero_add] at this; exact this⟩
  rcases h.1 d hd with z | z
  · cases z
  · exact z
def siD (c : SI) : PyData := .tuple [.str c.1, .int c.2]
theorem lay_si : ∀ cs : List SI, (∀ c ∈ cs, PyData.strOk c.1 = true) → PyData.canLayAll0 (cs.map siD) = true
  | [], _ => rfl
  | c :: cs, h => by
    show ((PyData.strOk c.1 && (true && true)) && PyData.canLayAll0 (cs.map siD)) = true
    rw [lay_si cs fun d hd => h d (List.mem_cons_of_mem _ hd), h c List.mem_cons_self]
    rfl
theorem depth_si : ∀ cs : List SI, PyData.depthAll (cs.map siD) ≤ 1
  | [] => Nat.zero_le _
  | c :: cs => by
    have h := depth_si cs
    show max 1 (PyData.depthAll (cs.map siD)) ≤ 1
    omega
theorem shaped_si {cs : List SI} (ok : ∀ c ∈ cs, PyData.strOk c.1 = true) : SeqAt.shaped (.list (cs.map siD)) = true := by
  unfold SeqAt.shaped
  rw [Bool.and_eq_true, decide_eq_true_eq]
  refine ⟨lay_si cs ok, ?_⟩
  have h := depth_si cs
  show PyData.depthAll (cs.map siD) + 1 ≤ 64
  omega
theorem dp_si {K : PySem.W.Frag} {H : Hp} {l : Addr} {cs : List SI} (h : SL H l cs) : Dp K H (.ref l) (.list (cs.map siD)) := by
  obtain ⟨ts, hl, pp⟩ := h
  refine .lst (SqL.of hl) ?_
  clear hl
  induction pp with
  | nil => exact .nil
  | cons r _ ih => exact .cons (.tup (SqT.of r) (.cons (.str _) (.cons (.int _) .nil))) ih
theorem eqv_nilS (cs : List SI) : (!PyData.eqv (.list (cs.map siD)) (.list (([] : List SI).map siD))) = !cs.isEmpty := by
  cases cs <;> rfl
theorem snocC {α : Type} : ∀ l : List α, l = [] ∨ ∃ a b, l = a ++ [b]
  | [] => .inl rfl
  | x :: l => by
    rcases snocC l with rfl | ⟨a, b, rfl⟩
    · exact .inr ⟨[], x, rfl⟩
    · exact .inr ⟨x :: a, b, rfl⟩
theorem P2.unsnoc {α β : Type} {R : α → β → Prop} {u : α} {d : β} : ∀ {vr : List α} {ac : List β}, P2 R (vr ++ [u]) (ac ++ [d]) → P2 R vr ac ∧ R u d
  | [], [], h => by
    cases h with
    | cons r _ => exact ⟨.nil, r⟩
  | [], _ :: _, h => by
    have := h.len
    simp at this
  | _ :: _, [], h => by
    have := h.len
    simp at this
  | x :: vr, y :: ac, h => by
    cases h with
    | cons r t =>
      obtain ⟨h1, h2⟩ := P2.unsnoc t
      exact ⟨.cons r h1, h2⟩
theorem pickN_nil {c : SI} : pickN [] c = ([], c.2) := rfl
theorem pickN_eq {ac : List SI} {d c : SI} (h : d.1 = c.1) : pickN (ac ++ [d]) c = (ac, c.2 + d.2) := by
  unfold pickN
  rw [List.getLast?_concat]
  dsimp only
  rw [if_pos h, List.dropLast_concat]
theorem pickN_ne {ac : List SI} {d c : SI} (h : d.1 ≠ c.1) : pickN (ac ++ [d]) c = (ac ++ [d], c.2) := by
  unfold pickN
  rw [List.getLast?_concat]
  dsimp only
  rw [if_neg h]
end Tr

/-! # Plain: the normal rows are a group. -/
namespace Tr
open PySem L2 TL
section
variable {per : Str → Int}
theorem modN_zero (z : Str) : modN per z 0 = 0 := by unfold modN; split <;> simp
theorem modN_l (z : Str) (d e : Int) : modN per z (modN per z d + e) = modN per z (d + e) := by
  unfold modN
  split
  · rw [Int.emod_add_emod]
  · rfl
theorem modN_r (z : Str) (d e : Int) : modN per z (d + modN per z e) = modN per z (d + e) := by
  rw [Int.add_comm, modN_l, Int.add_comm]
theorem modN_m (z : Str) (d : Int) : modN per z (modN per z d) = modN per z d := by
  have := modN_l (per := per) z d 0
  rwa [Int.add_zero, Int.add_zero] at this
def goodN (per : Str → Int) (c : SI) : Prop := modN per c.1 c.2 = c.2 ∧ c.2 ≠ 0
/-- a normal row -/
def Nf (per : Str → Int) : List SI → Prop
  | [] => True
  | [c] => goodN per c
  | c :: d :: r => goodN per c ∧ c.1 ≠ d.1 ∧ Nf per (d :: r)
def lastNe (l : List SI) (z : Str) : Prop := ∀ d, l.getLast? = some d → d.1 ≠ z
theorem nf_snoc : ∀ (l : List SI) (c : SI), Nf per (l ++ [c]) ↔ Nf per l ∧ goodN per c ∧ lastNe l c.1
  | [], c => ⟨fun h => ⟨trivial, h, fun d e => by cases e⟩, fun h => h.2.1⟩
  | [a], c => ⟨fun h => ⟨h.1, h.2.2, fun d e => by cases e; exact h.2.1⟩, fun h => ⟨h.1, h.2.2 a rfl, h.2.1⟩⟩
  | a :: b :: r, c => by
    have ih := nf_snoc (b :: r) c
    have e : ∀ z, lastNe (a :: b :: r) z ↔ lastNe (b :: r) z := fun z => by
      unfold lastNe
      rw [List.getLast?_cons_cons]
    rw [e]
    constructor
    · rintro ⟨h1, h2, h3⟩
      obtain ⟨k1, k2⟩ := ih.mp h3
      exact ⟨⟨h1, h2, k1⟩, k2⟩
    · rintro ⟨⟨h1, h2, h3⟩, k⟩
      exact ⟨h1, h2, ih.mpr ⟨h3, k⟩⟩
theorem nf_put {M : List SI} {z : Str} {m : Int} (h : Nf per M) (hl : lastNe M z) (hm : modN per z m = m) : Nf per (putN M z m) := by
  unfold putN
  split
  · exact h
  · rename_i n
    exact (nf_snoc M (z, m)).mpr ⟨h, ⟨hm, n⟩, hl⟩
theorem step_put {M : List SI} {z : Str} {f : Int} (e : Int) (hl : lastNe M z) : stepN per (putN M z f) (z, e) = putN M z (modN per z (e + f)) := by
  have key : pickN (putN M z f) (z, e) = (M, e + f) := by
    unfold putN
    split
    · rename_i f0
      subst f0
      rw [Int.add_zero]
      unfold pickN
      split
      · rename_i d hd
        rw [if_neg (hl d hd)]
      · rfl
    · exact pickN_eq rfl
  unfold stepN
  rw [key]
theorem nf_view {N : List SI} (h : Nf per N) (z : Str) : ∃ M f, Nf per M ∧ lastNe M z ∧ modN per z f = f ∧ N = putN M z f := by
  rcases snocC N with rfl | ⟨a, b, rfl⟩
  · exact ⟨[], 0, trivial, fun d e => (by cases e), modN_zero z, rfl⟩
  · by_cases e : b.1 = z
    · obtain ⟨h1, h2, h3⟩ := (nf_snoc a b).mp h
      subst e
      exact ⟨a, b.2, h1, h3, h2.1, by unfold putN; rw [if_neg h2.2]⟩
    · exact ⟨a ++ [b], 0, h, fun d hd => (by rw [List.getLast?_concat] at hd; cases hd; exact e), modN_zero z, by unfold putN; rw [if_pos rfl]⟩
theorem nf_step {N : List SI} (h : Nf per N) (c : SI) : Nf per (stepN per N c) := by
  obtain ⟨M, f, h1, h2, h3, rfl⟩ := nf_view h c.1
  obtain ⟨z, e⟩ := c
  rw [step_put e h2]
  exact nf_put h1 h2 (modN_m _ _)
theorem step_step {N : List SI} (h : Nf per N) (z : Str) (d e : Int) : stepN per (stepN per N (z, d)) (z, e) = stepN per N (z, d + e) := by
  obtain ⟨M, f, h1, h2, h3, rfl⟩ := nf_view h z
  rw [step_put d h2, step_put e h2, step_put (d + e) h2, modN_r]
  congr 2
  omega
theorem step_mod (N : List SI) (z : Str) (e : Int) (h : Nf per N) : stepN per N (z, modN per z e) = stepN per N (z, e) := by
  obtain ⟨M, f, h1, h2, h3, rfl⟩ := nf_view h z
  rw [step_put _ h2, step_put _ h2, modN_l]
theorem step_zero {N : List SI} (h : Nf per N) (z : Str) : stepN per N (z, 0) = N := by
  obtain ⟨M, f, h1, h2, h3, rfl⟩ := nf_view h z
  rw [step_put _ h2, Int.zero_add, h3]
/-- steps done behind a normal row -/
def actN (per : Str → Int) (N ss : List SI) : List SI := ss.foldl (stepN per) N
theorem actN_app (N a b : List SI) : actN per N (a ++ b) = actN per (actN per N a) b := List.foldl_append ..
theorem actN_snoc (N a : List SI) (c : SI) : actN per N (a ++ [c]) = stepN per (actN per N a) c := by rw [actN_app]; rfl
theorem nf_act {N : List SI} (h : Nf per N) : ∀ ss, Nf per (actN per N ss) := by
  intro ss
  induction ss generalizing N with
  | nil => exact h
  | cons c ss ih => exact ih (nf_step h c)
theorem nf_norm (ss : List SI) : Nf per (normL per ss) := nf_act (N := []) trivial ss
theorem act_put {N M : List SI} (h : Nf per N) (z : Str) (m : Int) : actN per N (putN M z m) = stepN per (actN per N M) (z, m) := by
  unfold putN
  split
  · rename_i e
    subst e
    exact (step_zero (nf_act h M) z).symm
  · exact actN_snoc N M (z, m)
theorem act_step {N p : List SI} (h : Nf per N) (hp : Nf per p) (c : SI) : actN per N (stepN per p c) = stepN per (actN per N p) c := by
  obtain ⟨z, e⟩ := c
  obtain ⟨M, f, h1, h2, h3, rfl⟩ := nf_view hp z
  rw [step_put e h2, act_put h, act_put h, step_mod _ _ _ (nf_act h M), step_step (nf_act h M), Int.add_comm]
theorem act_norm {N : List SI} (h : Nf per N) (ss : List SI) : actN per N (normL per ss) = actN per N ss := by
  have key : ∀ (ss p : List SI), Nf per p → actN per N (actN per p ss) = actN per (actN per N p) ss := by
    intro ss
    induction ss with
    | nil => intro p _; rfl
    | cons c ss ih =>
      intro p hp
      show actN per N (actN per (stepN per p c) ss) = actN per (stepN per (actN per N p) c) ss
      rw [ih _ (nf_step hp c), act_step h hp]
  exact key ss [] trivial
theorem norm_nf : ∀ {N : List SI}, Nf per N → normL per N = N := by
  intro N
  have key : ∀ n (N : List SI), N.length = n → Nf per N → normL per N = N := by
    intro n
    induction n with
    | zero => intro N e _; rw [List.eq_nil_of_length_eq_zero e]; rfl
    | succ n ih =>
      intro N e h
      rcases snocC N with rfl | ⟨a, b, rfl⟩
      · rfl
      · obtain ⟨h1, h2, h3⟩ := (nf_snoc a b).mp h
        rw [normL_snoc, ih a (by rw [List.length_append] at e; simp at e; exact e) h1]
        obtain ⟨z, m⟩ := b
        have := step_put (per := per) (M := a) (z := z) (f := 0) m h3
        unfold putN at this
        rw [if_pos rfl, Int.add_zero, h2.1, if_neg h2.2] at this
        exact this
  exact key _ N rfl
theorem norm_app (a b : List SI) : normL per (a ++ b) = actN per (normL per a) b := actN_app [] a b
theorem norm_l (a b : List SI) : normL per (normL per a ++ b) = normL per (a ++ b) := by
  rw [norm_app, norm_app, norm_nf (nf_norm a)]
theorem norm_r (a b : List SI) : normL per (a ++ normL per b) = normL per (a ++ b) := by
  rw [norm_app, norm_app, act_norm (nf_norm a)]
/-- steps taken back -/
def backL (ss : List SI) : List SI := ss.reverse.map fun c => (c.1, -c.2)
theorem backL_app (a b : List SI) : backL (a ++ b) = backL b ++ backL a := by
  unfold backL
  rw [List.reverse_append, List.map_append]
theorem backL_back (a : List SI) : backL (backL a) = a := by
  unfold backL
  rw [← List.map_reverse, List.reverse_reverse, List.map_map]
  have : ((fun c : SI => (c.1, -c.2)) ∘ fun c : SI => (c.1, -c.2)) = id := by
    funext c
    simp
  rw [this, List.map_id]
theorem act_back {N : List SI} (h : Nf per N) : ∀ a, actN per N (a ++ backL a) = N := by
  intro a
  induction a generalizing N with
  | nil => rfl
  | cons c a ih =>
    have e : backL (c :: a) = backL a ++ [(c.1, -c.2)] := by rw [show c :: a = [c] ++ a from rfl, backL_app]; rfl
    rw [e, ← List.append_assoc, actN_snoc, show c :: a ++ backL a = [c] ++ (a ++ backL a) from rfl, actN_app, ih (nf_act h [c])]
    show stepN per (stepN per N c) (c.1, -c.2) = N
    have := step_step h c.1 c.2 (-c.2)
    rw [Int.add_right_neg, step_zero h] at this
    exact this
theorem act_back' {N : List SI} (h : Nf per N) (a : List SI) : actN per N (backL a ++ a) = N := by
  have := act_back h (backL a)
  rwa [backL_back] at this
theorem act_cancel {N M : List SI} (h : Nf per N) (h' : Nf per M) {a : List SI} (e : actN per N a = actN per M a) : N = M := by
  have h1 := act_back h a
  have h2 := act_back h' a
  rw [actN_app, e, ← actN_app, h2] at h1
  exact h1.symm
theorem act_backnorm {N : List SI} (h : Nf per N) (b : List SI) : actN per N (backL (normL per b)) = actN per N (backL b) := by
  refine act_cancel (a := b) (nf_act h _) (nf_act h _) ?_
  rw [← act_norm (nf_act h (backL (normL per b))) b, ← actN_app, ← actN_app, act_back' h, act_back' h]
theorem norm_back (b : List SI) : normL per (backL (normL per b)) = normL per (backL b) := act_backnorm (N := []) trivial b
end
end Tr

/-! # Rewriting a list of steps at any places comes to its normal row. -/
namespace Tr
open PySem PySem.Spec PyProof.Rows L2
section
variable {per : Str → Int}
theorem norm_at (a b c : List SI) (h : ∀ N, Nf per N → actN per N b = actN per N c) (d : List SI) : normL per (a ++ b ++ d) = normL per (a ++ c ++ d) := by
  rw [norm_app, norm_app, norm_app, norm_app, h _ (nf_norm a)]
theorem norm_join (a d : List SI) (z : Str) (e f : Int) : normL per (a ++ [(z, e), (z, f)] ++ d) = normL per (a ++ [(z, e + f)] ++ d) :=
  norm_at a _ _ (fun N h => by
    show stepN per (stepN per N (z, e)) (z, f) = stepN per N (z, e + f)
    exact step_step h z e f) d
theorem norm_less (a d : List SI) (z : Str) (e : Int) : normL per (a ++ [(z, e)] ++ d) = normL per (a ++ [(z, modN per z e)] ++ d) :=
  norm_at a [(z, e)] [(z, modN per z e)] (fun N h => show stepN per N (z, e) = stepN per N (z, modN per z e) from (step_mod N z e h).symm) d
theorem norm_drop (a d : List SI) (z : Str) : normL per (a ++ [(z, 0)] ++ d) = normL per (a ++ d) := by
  have q := norm_at (per := per) a [(z, 0)] [] (fun N h => step_zero h z) d
  rw [List.append_nil] at q
  exact q
/-- how much there may still be to do -/
def badS (per : Str → Int) (c : SI) : Bool := decide (0 < per c.1) && !(decide (0 ≤ c.2) && decide (c.2 < per c.1))
def wS (per : Str → Int) (c : SI) : Nat := if badS per c then 3 else 2
def muS (per : Str → Int) (ss : List SI) : Nat := (ss.map (wS per)).sum
theorem wS_le (c : SI) : wS per c ≤ 3 ∧ 2 ≤ wS per c := by unfold wS; split <;> omega
theorem mu_app (a b : List SI) : muS per (a ++ b) = muS per a + muS per b := by unfold muS; rw [List.map_append, List.sum_append]
theorem mu_one (c : SI) : muS per [c] = wS per c := by simp [muS]
theorem mu_join (a d : List SI) (z : Str) (e f : Int) : muS per (a ++ [(z, e + f)] ++ d) < muS per (a ++ [(z, e), (z, f)] ++ d) := by
  have h1 := @wS_le per (z, e + f)
  have h2 := @wS_le per (z, e)
  have h3 := @wS_le per (z, f)
  have h4 : muS per [(z, e), (z, f)] = wS per (z, e) + wS per (z, f) := by simp [muS]
  rw [mu_app, mu_app, mu_app, mu_app, mu_one, h4]
  omega
theorem mu_less (a d : List SI) (z : Str) (e : Int) (h : badS per (z, e) = true) : muS per (a ++ [(z, modN per z e)] ++ d) < muS per (a ++ [(z, e)] ++ d) := by
  have hp : 0 < per z := by
    unfold badS at h
    simp only [Bool.and_eq_true, decide_eq_true_eq] at h
    exact h.1
  have h1 : wS per (z, e) = 3 := by unfold wS; rw [if_pos h]
  have h2 : badS per (z, modN per z e) = false := by
    unfold badS modN
    rw [if_pos hp]
    have a1 := Int.emod_nonneg e (by omega : per z ≠ 0)
    have a2 := Int.emod_lt_of_pos e hp
    simp [a1, a2]
  have h3 : wS per (z, modN per z e) = 2 := by unfold wS; rw [h2]; rfl
  rw [mu_app, mu_app, mu_app, mu_app, mu_one, mu_one, h1, h3]
  omega
theorem mu_drop (a d : List SI) (c : SI) : muS per (a ++ d) < muS per (a ++ [c] ++ d) := by
  have h1 := @wS_le per c
  rw [mu_app, mu_app, mu_app, mu_one]
  omega
/-- nothing more to do -/
def DoneS (per : Str → Int) (ss : List SI) : Prop := (∀ (i : Nat) (c : SI), ss[i]? = some c → badS per c = false ∧ c.2 ≠ 0) ∧ ∀ (i : Nat) (c d : SI), ss[i]? = some c → ss[i + 1]? = some d → d.1 ≠ c.1
theorem good_of {c : SI} (h : badS per c = false) (h0 : c.2 ≠ 0) : goodN per c := by
  refine ⟨?_, h0⟩
  unfold modN
  unfold badS at h
  by_cases hp : 0 < per c.1
  · rw [if_pos hp]
    simp [hp] at h
    exact Int.emod_eq_of_lt h.1 h.2
  · rw [if_neg hp]
theorem nf_doneN : ∀ (n : Nat) {ss l : List SI}, l.length = n → (∃ r, ss = l ++ r) → DoneS per ss → Nf per l
  | 0, ss, l, hn, _, _ => by
    obtain rfl := List.eq_nil_of_length_eq_zero hn
    exact trivial
  | n + 1, ss, l, hn, ⟨r, hr⟩, hd => by
    obtain ⟨l, c, rfl⟩ : ∃ l' c, l = l' ++ [c] := by
      rcases snocC l with rfl | h
      · cases hn
      · exact h
    subst hr
    rw [nf_snoc]
    have hc : (l ++ [c] ++ r)[l.length]? = some c := by simp
    obtain ⟨b, m⟩ := hd.1 _ _ hc
    refine ⟨nf_doneN n (by rw [List.length_append] at hn; simpa using hn) ⟨[c] ++ r, by simp⟩ hd, good_of b m, fun d hl => ?_⟩
    obtain ⟨l', rfl⟩ : ∃ l', l = l' ++ [d] := by
      rcases snocC l with rfl | ⟨l', d', rfl⟩
      · simp at hl
      · simp at hl
        exact ⟨l', by rw [hl]⟩
    have e1 : (l' ++ [d] ++ [c] ++ r)[l'.length]? = some d := by simp
    have e2 : (l' ++ [d] ++ [c] ++ r)[l'.length + 1]? = some c := by simp
    exact fun z => hd.2 _ _ _ e1 e2 z.symm
theorem norm_done {ss : List SI} (h : DoneS per ss) : normL per ss = ss := norm_nf (nf_doneN _ rfl ⟨[], by simp⟩ h)
end
end Tr

/-! # Texts: words of steps; str of an own object; a class held by a local name. -/
namespace Tr
open PySem PySem.Spec PyProof.Rows L2 TL
def tMakeV (i : Nat) (C : Addr) (sp : Sp) (dvs : List V) (E : XK) (t : TA) : TE := fun σ H Q => σ[i]? = some (some (.ref C)) ∧ tMake C sp dvs E t σ H Q
theorem pe_mkv {X : Cx} {k j i : Nat} {C : Addr} {x y : Str} {sp : Sp} {dvs : List V} {p pos : Pos} {e : Expr} {es : List Expr} {t : TA} {E : XK} (c : Mak X.prog X.w X.K X.mg X.base k y C sp dvs) (hr : Room j X.A) (hk : k + 1 ≤ j) (hN : X.N[i]? = some x) (hv : Vis X.env.scope x) (hx : Passes (L2.CX X.prog X.w) X E) (ha : PA X (e :: es) t)
    (hd : (x == ("__debug__" : Str)) = false := by decide) (hcd : (x == ("__classdict__" : Str)) = false := by decide) (he : starEach (e :: es) X.env = (false, eval e X.env) :: starEach es X.env := by rfl) (hpl : (backTo pos (starEach es X.env)).any (·.1) = false := by rfl) :
    PE X (.Call (.Name x p) (e :: es) [] pos) (tMakeV i C sp dvs E t) := by
  obtain ⟨f, fd, ps, ds, M, F, hm, b, d⟩ := c.ex
  refine ⟨fun pins s σ H Q I h => ?_⟩
  obtain ⟨hs, ht⟩ := h
  refine wpAny_Call_Name_kw (thn ((pe_var (pos := p) hN hv hd hcd).run pins s σ H (fun v H1 => v = .ref C ∧ H1 = H) I ⟨.ref C, hs, rfl, rfl⟩) fun u s1 ⟨v, H1, I1, r1, q1⟩ => ?_)
  obtain ⟨rfl, rfl⟩ := q1
  cases r1
  refine PySem.W.callWith_K (h₀ := X.base) I.ok.mod.kin M.kp (thn (ha.run pos pins s1 σ _ _ I1 ht) fun us s2 ⟨vs, H2, I2, r, q⟩ => ⟨I2.kIn, ?_⟩) he hpl
  exact run_make M F (hr.mono hk) b d hx I2 r q
/-- str of an own object -/
theorem cr_strO {X : Cx} {k j : Nat} {C : Addr} {sp : Sp} {E : XK} (c : Met X.prog X.w X.K X.mg X.base k C "__str__" sp []) (hr : Room j X.A) (hk : k + 2 ≤ j) (hx : Passes (L2.CX X.prog X.w) X E) :
    CallR X (.type "str") (fun xs H Q => ∃ a dx fs, xs = [.ref a] ∧ H a = some (.ins C dx fs) ∧ sp [.ref a] H (fun v H' => ∃ z, v = .str z ∧ Q (.str z) H') E) := by
  obtain ⟨f, fd, ps, ds, hc, hm, F, b, d⟩ := c.ex
  cases d
  intro pins s σ H xs us Q I r h
  obtain ⟨a, dx, fs, rfl, ha, h⟩ := h
  rw [Vals.ref1 r]
  obtain ⟨mA, J, _⟩ := ins_get I.hok ha
  obtain ⟨od, J, _⟩ := J.look
  refine PySem.W.kso_call (hr.mono hk).in1.in1.units0 I.kIn J hm.at_ hm.fn ?_
  refine wpAny_mono (run_at (A := X.A.in1.in1) F (hr.mono hk).in1.in1 rfl b hx I (us := [.ref a]) (vs := [.ref a]) (.cons rfl .nil) h) (fun r s' q => ?_) fun _ _ z => z
  obtain ⟨z, H', I', rz, y, rfl, q⟩ := q
  obtain ⟨t, rfl⟩ := rz
  exact ⟨.str y, H', I', ⟨_, rfl⟩, q⟩
/-! ### numbers as texts -/
def intS (e : Int) : Str := Str.ofString (toString e)
theorem tl_pos (n : Nat) : tl (intS (n : Int)) = numL n := tl_num n
theorem tl_neg (n : Nat) : tl (intS (Int.negSucc n)) = 45 :: numL (n + 1) := by
  unfold intS
  rw [tl_ofString]
  show (("-" ++ Nat.repr (n + 1) : String)).toList.map Char.toNat = _
  rw [String.toList_append, List.map_append, Nat.toList_repr]
  rfl
theorem numL_head : ∀ {n : Nat}, 0 < n → ∃ d r, numL n = d :: r ∧ d ≠ 48 := by
  intro n
  induction n using Nat.strongRecOn with
  | _ n ih =>
    intro h
    by_cases h1 : n < 10
    · rw [numL_lt h1]
      exact ⟨_, _, rfl, by omega⟩
    · obtain ⟨d, r, e, ne⟩ := ih (n / 10) (by omega) (by omega)
      rw [numL_step (by omega), e]
      exact ⟨d, _, rfl, ne⟩
theorem numL_short {n : Nat} (h : n < 2 ^ 1000) : (numL n).length ≤ 302 := numL_len (by decide) (Nat.lt_trans h (by decide +kernel))
theorem intS_len {e : Int} (h : Bd 1000 e) : (intS e).length ≤ 303 := by
  have h : e.natAbs < 2 ^ 1000 := h
  rw [len_tl]
  cases e with
  | ofNat n =>
    rw [show Int.ofNat n = (n : Int) from rfl, tl_pos]
    exact Nat.le_succ_of_le (numL_short h)
  | negSucc n =>
    rw [tl_neg, List.length_cons]
    exact Nat.succ_le_succ (numL_short h)
theorem intS_chars {e : Int} {c : Nat} (h : c ∈ tl (intS e)) : c = 45 ∨ isD c := by
  cases e with
  | ofNat n =>
    rw [show Int.ofNat n = (n : Int) from rfl, tl_pos] at h
    exact .inr (numL_digits n c h)
  | negSucc n =>
    rw [tl_neg] at h
    rcases List.mem_cons.mp h with h | h
    · exact .inl h
    · exact .inr (numL_digits _ c h)
theorem intS_int {e : Int} (h : Bd 1000 e) : intText? (intS e) = some e := by
  have h : e.natAbs < 2 ^ 1000 := h
  cases e with
  | ofNat n => exact int_num (Nat.le_trans (numL_short h) (by decide))
  | negSucc n =>
    have e := intText_neg (x := intS (Int.negSucc n)) (cs := numL (n + 1)) (tl_neg n) (numL_digits _) (numL_ne _) (by rw [len_tl, tl_neg, List.length_cons]; exact Nat.le_trans (Nat.succ_le_succ (numL_short h)) (by decide))
    rw [e, numL_val]
    rfl
def dashB : List Nat → Bool
  | [] => false
  | c :: _ => decide (c = 45)
theorem sw_dash (x : Str) : Txt.startswith x "-" = dashB (tl x) := by
  have h2 : tl ("-" : Str) = [45] := by rw [tl_ofString]; rfl
  have h3 : ("-" : Str).length = 1 := by rw [len_tl, h2]; rfl
  unfold Txt.startswith
  rw [h3, len_tl, PySem.StrLaws.subAt_eq, h3, show ("-" : Str).cps.toList = [45] from h2, List.drop_zero]
  show (decide (0 + 1 ≤ (tl x).length) && ((tl x).take 1 == [45])) = _
  cases tl x with
  | nil => rfl
  | cons c r =>
    have : decide (0 + 1 ≤ (c :: r).length) = true := decide_eq_true (by rw [List.length_cons]; omega)
    rw [this, Bool.true_and]
    show (([c] : List Nat) == [45]) = decide (c = 45)
    by_cases e : c = 45
    · rw [e]; rfl
    · rw [decide_eq_false e]
      simpa using e
theorem cut1 (x : Str) : tl (cutS x (some 1) none) = (tl x).drop 1 := by
  show ((tl x).drop (HT.sIx x.length 0 (some 1))).take (x.length - HT.sIx x.length 0 (some 1)) = _
  have e : HT.sIx x.length 0 (some ((1 : Nat) : Int)) = min 1 x.length := HT.sIx_nat _ _ _
  rw [show (some 1 : Option Int) = some ((1 : Nat) : Int) from rfl, e]
  have hl := len_tl x
  rw [List.take_of_length_le (by rw [List.length_drop, hl]; exact Nat.le_refl _)]
  cases ht : tl x with
  | nil => simp
  | cons c r =>
    rw [ht, List.length_cons] at hl
    rw [hl, show min 1 (r.length + 1) = 1 by omega]
/-! ### words of steps -/
theorem tl_hat : tl ("^" : Str) = [94] := by rw [tl_ofString]; rfl
theorem tl_sp : tl (" " : Str) = [32] := by rw [tl_ofString]; rfl
/-- the word w tells the step c -/
structure Wd (w : Str) (c : SI) : Prop where
  nm : NmOk c.1
  bd : Bd 1000 c.2
  eq : (w = c.1 ∧ c.2 = 1) ∨ w = c.1 ++ "^" ++ intS c.2
theorem NmOk.chars {z : Str} (h : NmOk z) {c : Nat} (hc : c ∈ tl z) : isL c ∨ isD c := by
  obtain ⟨a, r, e, h1, h2, h3⟩ := h
  rw [e] at hc
  rcases List.mem_cons.mp hc with rfl | hc
  · exact .inl h1
  · exact h3 c hc
theorem NmOk.no {z : Str} (h : NmOk z) {c : Nat} (h1 : ¬ isL c) (h2 : ¬ isD c) : c ∉ tl z := fun hc => (h.chars hc).elim h1 h2
theorem NmOk.len {z : Str} (h : NmOk z) : z.length ≤ 12 := by
  obtain ⟨c, r, e, _, h2, _⟩ := h
  rw [len_tl, e, List.length_cons]
  omega
theorem Wd.len {w : Str} {c : SI} (h : Wd w c) : w.length ≤ 320 := by
  have h1 := h.nm.len
  rcases h.eq with ⟨e, _⟩ | e
  · rw [e]; omega
  · have h2 := intS_len h.bd
    rw [e, len_tl, tl_append, tl_append, List.length_append, List.length_append, tl_hat, ← len_tl, ← len_tl]
    show c.1.length + 1 + (intS c.2).length ≤ 320
    omega
theorem Wd.free {w : Str} {c : SI} (h : Wd w c) : 32 ∉ tl w := by
  have n1 : 32 ∉ tl c.1 := h.nm.no (by unfold isL; omega) (by unfold isD; omega)
  rcases h.eq with ⟨e, _⟩ | e
  · rw [e]; exact n1
  · rw [e, tl_append, tl_append, tl_hat]
    intro hm
    rcases List.mem_append.mp hm with hm | hm
    · rcases List.mem_append.mp hm with hm | hm
      · exact n1 hm
      · rw [List.mem_singleton] at hm; omega
    · rcases intS_chars hm with k | k
      · omega
      · unfold isD at k; omega
/-- the text of words -/
theorem words_back {ws : List Str} {cs : List SI} (h : P2 Wd ws cs) (hne : ws ≠ []) : Txt.split (Txt.join " " ws) " " = ws :=
  split_join tl_sp (by decide +kernel) hne fun p hp => by
    obtain ⟨c, _, r⟩ := h.meml hp
    exact r.free
theorem words_dot {ws : List Str} {cs : List SI} (h : P2 Wd ws cs) (hne : ws ≠ []) : Txt.join " " ws ≠ "." := by
  intro e
  have hd : tl ("." : Str) = [46] := by rw [tl_ofString]; rfl
  have h2 := congrArg tl e
  rw [hd, join_eq, tl_join] at h2
  cases h with
  | nil => exact hne rfl
  | @cons w c ws cs r t =>
    obtain ⟨a, rr, ew, ha, _⟩ := r.nm
    have hw : ∃ x, tl w = a :: x := by
      rcases r.eq with ⟨e, _⟩ | e
      · rw [e]; exact ⟨_, ew⟩
      · rw [e, tl_append, tl_append, ew]; exact ⟨_, rfl⟩
    obtain ⟨x, hx⟩ := hw
    cases ws with
    | nil =>
      rw [List.map_cons, List.map_nil] at h2
      have h2 : tl w = [46] := h2
      rw [hx] at h2
      injection h2 with h3 _
      unfold isL at ha
      omega
    | cons w2 ws =>
      have h2 : tl w ++ _ = [46] := h2
      rw [hx] at h2
      injection h2 with h3 _
      unfold isL at ha
      omega
end Tr

/-! # Texts, continued: comprehensions over values; the lengths of joined texts. -/
namespace Tr
open PySem L2 TL
/-- [e for x in xs], xs values that tell cs -/
theorem lc_v2 {α : Type} {J : It} {G : Hp → Prop} {R0 : V → α → Prop} {us : List V} {cs : List α} {i1 : Nat} {te : TE} {vs : List Nat} {σ : L2.St} {H1 : Hp} {D : Addr} {Qd : Hp → Prop} (w : Walk J us.length G (YAt us)) (hP : P2 R0 us cs) (R : V → α → Hp → Prop)
    (hR : ∀ y c H H' acc, H D = some (.lst acc) → Kp D H H' → R y c H → R y c H') (hD : H1 D = none) (hsz : cs.length ≤ 100000)
    (hG : ∀ H, Same H1 H → G H) (hw : ∀ x, wipe ((wipe σ vs).set i1 x) vs = wipe σ vs)
    (he : ∀ u c, c ∈ cs → R0 u c → ∀ H Q, Same H1 H → (∀ y H', Same H H' → R y c H' → Q y H') → te ((wipe σ vs).set i1 (some u)) H Q)
    (hd : ∀ ys H, Same H1 H → H D = some (.lst ys) → P2 (fun y c => R y c H) ys cs → Qd H) : LcG J (gName i1) tYes te vs σ H1 D Qd := by
  have hlen := hP.len
  refine lc_it w (fun i H => Same H1 H ∧ ∃ ys, H D = some (.lst ys) ∧ P2 (fun y c => R y c H) ys (cs.take i)) ⟨same_upd hD, [], upd_same, .nil⟩ (fun i H _ ⟨s, _⟩ => hG H s) ?_ ?_
  · rintro i x H H0 hi ⟨s, ys, hy, py⟩ ⟨rfl, hx⟩
    obtain ⟨c, hc, r⟩ := hP.getl hx
    have ll : ys.length ≤ 100000 := by
      have h1 := py.len
      rw [List.length_take] at h1
      omega
    refine ⟨hw _, ?_⟩
    show te _ _ _
    refine he x c (mem_of_at hc) r H0 _ s fun y H' s' ry => ⟨ys, s' _ _ hy, small_app (Nat.le_refl _) ll, (s.trans s').wr hD, ys ++ [y], upd_same, ?_⟩
    rw [take_snoc hc]
    exact (py.mono fun v b rb => hR v b H' _ _ (s' _ _ hy) (kp_upd D H' _) (hR v b H0 H' _ hy s'.kp rb)).snoc (hR y c H' _ _ (s' _ _ hy) (kp_upd D H' _) ry)
  · rintro H ⟨s, ys, hy, py⟩
    rw [hlen, List.take_length] at py
    exact hd ys H s hy py
def wdS (c : SI) : Str := if c.2 = 1 then c.1 else c.1 ++ "^" ++ intS c.2
def rowTxt (ss : List SI) : Str := if ss = [] then "." else Txt.join " " (ss.map wdS)
theorem wdS_wd {c : SI} (h1 : NmOk c.1) (h2 : Bd 1000 c.2) : Wd (wdS c) c := by
  refine ⟨h1, h2, ?_⟩
  unfold wdS
  by_cases e : c.2 = 1
  · rw [if_pos e]; exact .inl ⟨rfl, e⟩
  · rw [if_neg e]; exact .inr rfl
theorem bd_log {e : Int} (h : Bd 1000 e) : e.natAbs.log2 < 1920 := by
  have h : e.natAbs < 2 ^ 1000 := h
  by_cases h0 : e.natAbs = 0
  · rw [h0]; decide
  · exact Nat.lt_trans ((Nat.log2_lt h0).mpr h) (by decide)
theorem empty_app (x : Str) : Str.empty ++ x = x := by
  refine ext_tl ?_
  rw [tl_append]
  rfl
theorem sum_le {α : Type} {f : α → Nat} {m : Nat} : ∀ {l : List α}, (∀ x ∈ l, f x ≤ m) → (l.map f).sum ≤ m * l.length
  | [], _ => Nat.zero_le _
  | x :: l, h => by
    have h1 := h x List.mem_cons_self
    have h2 := sum_le (f := f) (m := m) (l := l) fun y hy => h y (List.mem_cons_of_mem _ hy)
    rw [List.map_cons, List.sum_cons, List.length_cons, Nat.mul_succ]
    omega
theorem joinL_len (S : List Nat) : ∀ l : List (List Nat), (joinL S l).length ≤ (l.map List.length).sum + l.length * S.length
  | [] => Nat.zero_le _
  | [p] => by
    show p.length ≤ (p.length + 0) + 1 * S.length
    omega
  | p :: q :: r => by
    have ih := joinL_len S (q :: r)
    show (p ++ (S ++ joinL S (q :: r))).length ≤ _
    rw [List.length_append, List.length_append, List.map_cons, List.sum_cons, List.length_cons, Nat.succ_mul]
    omega
theorem words_len {ws : List Str} {cs : List SI} (h : P2 Wd ws cs) : (Txt.join " " ws).length ≤ 321 * ws.length := by
  rw [len_tl, join_eq, tl_join, tl_sp]
  have h1 := joinL_len [32] (ws.map tl)
  have h2 := sum_le (l := ws.map tl) (f := List.length) (m := 320) fun z hz => by
    obtain ⟨x, hx, rfl⟩ := List.mem_map.mp hz
    obtain ⟨c, _, r⟩ := h.meml hx
    have := r.len
    rw [len_tl] at this
    exact this
  rw [List.length_map] at h1 h2
  have e1 : ([32] : List Nat).length = 1 := rfl
  rw [e1] at h1
  omega
end Tr

/-! # The classes of errors, all at once. -/
namespace Tr
open PySem PySem.Spec PyProof.Rows L2
/-- classes of errors that are apart, all below one and below ValueError -/
structure ErrTab (K : PySem.W.Frag) (ns : List Str) (top : Str) : Prop where
  kit : ∀ i j, i < ns.length → j < ns.length → PySem.W.kitOne K (.ref (He.ga K (ns.getD i ""))) (.ref (He.ga K (ns.getD j ""))) = some (decide (i = j))
  exm : ∀ i j, i < ns.length → j < ns.length → PySem.W.exmOne K (.ref (He.ga K (ns.getD i ""))) (.ref (He.ga K (ns.getD j ""))) = some (decide (i = j))
  up : ∀ i, i < ns.length → PySem.W.exmOne K (.ref (He.ga K (ns.getD i ""))) (.ref (He.ga K top)) = some true
  ve : ∀ i, i < ns.length → PySem.W.kitOne K (.ref (He.ga K (ns.getD i ""))) (.type "ValueError") = some true
def errTabB (ns : List Str) (top : Str) (K : PySem.W.Frag) : Bool := (List.range ns.length).all fun i =>
  decide (PySem.W.exmOne K (.ref (He.ga K (ns.getD i ""))) (.ref (He.ga K top)) = some true) && (decide (PySem.W.kitOne K (.ref (He.ga K (ns.getD i ""))) (.type "ValueError") = some true) &&
    (List.range ns.length).all fun j => decide (PySem.W.kitOne K (.ref (He.ga K (ns.getD i ""))) (.ref (He.ga K (ns.getD j ""))) = some (Nat.beq i j)) && decide (PySem.W.exmOne K (.ref (He.ga K (ns.getD i ""))) (.ref (He.ga K (ns.getD j ""))) = some (Nat.beq i j)))
theorem errTabB_ok {ns : List Str} {top : Str} {K : PySem.W.Frag} (h : errTabB ns top K = true) : ErrTab K ns top := by
  have bq : ∀ i j : Nat, Nat.beq i j = decide (i = j) := fun i j => by
    rw [Bool.eq_iff_iff, Nat.beq_eq, decide_eq_true_eq]
  unfold errTabB at h
  rw [List.all_eq_true] at h
  have one : ∀ i, i < ns.length → _ := fun i hi => h i (List.mem_range.mpr hi)
  have two : ∀ i j, i < ns.length → j < ns.length → PySem.W.kitOne K (.ref (He.ga K (ns.getD i ""))) (.ref (He.ga K (ns.getD j ""))) = some (decide (i = j)) ∧ PySem.W.exmOne K (.ref (He.ga K (ns.getD i ""))) (.ref (He.ga K (ns.getD j ""))) = some (decide (i = j)) := fun i j hi hj => by
    have h1 := one i hi
    rw [Bool.and_eq_true, Bool.and_eq_true, List.all_eq_true] at h1
    have h2 := h1.2.2 j (List.mem_range.mpr hj)
    rw [Bool.and_eq_true, decide_eq_true_eq, decide_eq_true_eq, bq] at h2
    exact h2
  refine ⟨fun i j hi hj => (two i j hi hj).1, fun i j hi hj => (two i j hi hj).2, fun i hi => ?_, fun i hi => ?_⟩
  · have h1 := one i hi
    rw [Bool.and_eq_true, decide_eq_true_eq] at h1
    exact h1.1
  · have h1 := one i hi
    rw [Bool.and_eq_true, Bool.and_eq_true, decide_eq_true_eq, decide_eq_true_eq] at h1
    exact h1.2.1
/-! ### a caught error handed to a def -/
section
variable {X : Cx} {a : Addr} {oe : Obj} {cls : Value} {d : Option Addr}
/-- what is known of a caught error -/
def ExcAt (K : PySem.W.Frag) (H : Hp) (cls : Value) (d : Option Addr) (C : Addr) : Prop := cls = .ref C ∧ ExcC K C ∧ (d = none ∨ ∃ dd fs, d = some dd ∧ H dd = some (.xd fs))
def rIsA (K : PySem.W.Frag) (a : Addr) (cls : Value) (d : Option Addr) : List V → Hp → VK → Prop := fun xs H Q => ∃ (C : Addr) (c : V) (cv : Value) (b : Bool), xs = [.ref a, c] ∧ ExcAt K H cls d C ∧ (∀ u, RelV c u → u = cv) ∧ PySem.W.kitOne K (.ref C) cv = some b ∧ Q (.bl b) H
theorem call_isA (K : PySem.W.Frag) (hp : (a, oe) ∈ X.pn) (hz : Zc cls d oe) (hf : ∃ vs, oe.data = .fields vs) (hk : X.K = K := by rfl) : CallR X (.builtin "isinstance") (rIsA K a cls d) := by
  subst hk
  intro pins s σ H xs us Q I r ⟨C, c, cv, b, ex, ⟨ec, T, ed⟩, hcv, e, q⟩
  subst ex ec
  match us, r with
  | [_, _], .cons rx (.cons rt .nil) =>
    cases rx
    cases hcv _ rt
    obtain ⟨ha, _⟩ := I.pin (a, oe) (List.mem_append_left _ hp)
    obtain ⟨vs, hd⟩ := hf
    obtain ⟨od, J⟩ : ∃ od, PySem.W.InstAt s.heap a oe C od := by
      rcases ed with rfl | ⟨dd, fs, rfl, hx⟩
      · obtain ⟨oc, odd, oda, osl⟩ := oe
        obtain ⟨h1, h2⟩ := hz
        dsimp only at h1 h2 hd
        subst h1 h2 hd
        exact ⟨none, ha, rfl, rfl, trivial⟩
      · obtain ⟨mA, hns, _⟩ := (show ObjOk X.prog X.w H s.heap dd (.xd fs) from I.hok dd _ hx)
        obtain ⟨od, ho, _⟩ := lookIn_ns hns
        exact ⟨some od, ha, hz.1, by unfold PySem.W.notCls; rw [hd] <;> rfl, by rw [hz.2]; exact ho⟩
    exact PySem.W.kia_one (exc_kit T) I.kIn J e (fun z => nomatch z) fun tk => ⟨.bl b, H, I.kept (t' := tk) fun _ _ z => z, rfl, q⟩
end
/-- a def that is handed a caught error -/
structure FnE (P : Program) (w : World) (K : PySem.W.Frag) (mg : Str → Option Value) (base : Heap) (CX : CXT) (k : Nat) (f : Addr) (fd : FuncData) (ps : List Str) (sp : Addr → Value → Option Addr → Sp) : Prop where
  len : ∀ a cls d vs H Q E, sp a cls d vs H Q E → vs.length = ps.length
  run : ∀ (A : Around) (outer : List Env) (s : Shared) (H : Hp) (args : Args) (us : List Value) (vs : List V) (Q : VK) (E : XK) (a : Addr) (oe : Obj) (cls : Value) (d : Option Addr), Zc cls d oe → (∃ vs, oe.data = .fields vs) → L2H.RoomH k A → L2H.PinOk outer H s (a, oe) → Env0 P w K mg base A outer s H → BindsTo s fd args (ps.zip us) → Vals vs us → sp a cls d vs H Q E →
    codeAny (model P w) A (.call (.ref f) args) (CR CX outer P w H s Q E) s
structure CalE (P : Program) (w : World) (K : PySem.W.Frag) (mg : Str → Option Value) (base : Heap) (k : Nat) (x : Str) (sp : Addr → Value → Option Addr → Sp) : Prop where
  ex : ∃ (f : Addr) (fd : FuncData) (ps : List Str), FnE P w K mg base (L2.CX P w) k f fd ps sp ∧ mg x = some (.ref f) ∧ PySem.W.keepIn K (.ref f) = true ∧ Binds K fd ps []
section
variable {P : Program} {w : World} {K : PySem.W.Frag} {mg : Str → Option Value} {base : Heap}
theorem calE {x : Str} {st : Stmt} {N ps : List Str} {k : Nat} {sp : Addr → Value → Option Addr → Sp} (D : Dfn K mg x st) (S : FnScope N ps (defScope st)) (len : ∀ a cls d vs H Q E, sp a cls d vs H Q E → vs.length = ps.length)
    (hb : ∀ (kV doc pm : Value) (an : Option Addr) (cdv ct : Value) (us : List Value), us.length = ps.length → bindArgs (PySem.W.fnOf x x (defArgs st) (defBody st) (defScope st) .none kV doc pm an cdv ct) ⟨us, []⟩ = pure (ps.zip us))
    (hbody : ∀ (f : Addr) (cdv : Value) (A : Around) (outer : List Env) (s : Shared) (H : Hp) (vs : List V) (Q : VK) (E : XK) (a : Addr) (oe : Obj) (cls : Value) (d : Option Addr), Zc cls d oe → (∃ vs, oe.data = .fields vs) → sp a cls d vs H Q E →
      ∃ t, PSs (L2H.cxH (L2.CX P w) P w K mg base N x (defScope st) f cdv A outer s H E (a, oe)) (defBody st) t ∧ t { nx := fun _ H' => Q .non H', rt := Q } (L2.start N vs) H) : CalE P w K mg base (k + 1) x sp := by
  obtain ⟨f, fd, F, hm⟩ := D
  have F0 := F
  obtain ⟨oc, od, kV, doc, pm, an, cdv, ct, osl, rfl, lk, hcd⟩ := F.ex
  refine ⟨f, _, ps, ⟨len, fun A outer s H args us vs Q E a oe cls d hz hf hr hpin e0 hb r hsp => ?_⟩, hm, F0.kp, F0.binds hb⟩
  have hl := len _ _ _ _ _ _ _ hsp
  have KX : K.In s.heap := e0.mod.kin.keeps fun b o e => (e0.bs b o e).1
  have lim : s.heap.NoLimit := e0.mod.nolimit.keeps fun b o e => (e0.bs b o e).1
  have hkind : ∀ y ∈ ps.zip us, (defScope st).names.lookup y.1 = some .local ∨ ((defScope st).names.lookup y.1 = some .cell ∧ ((cellsFrom (s.heap.objs.size + 1) (defScope st).names []).lookup y.1).isSome = true) := fun ⟨n, v⟩ hy => by
    rcases S.par n (List.of_mem_zip hy).1 with q | q
    · exact .inl q
    · exact .inr ⟨q, PySem.W.cellsFrom_some _ _ _ (.inl q)⟩
  refine codeAny_call_function hr.depth (KX _ _ lk) rfl S.co S.gen rfl (PySem.W.codeRec_of KX hcd) (hb _ _ _ _ ?_)
  refine wpAny_newFunctionEnv_cells S.kind hkind fun env he s1 x => ?_
  subst he
  refine ⟨lim.keeps x.toInCall.keep, codeAny_func ?_⟩
  obtain ⟨t, ht, hq⟩ := hbody f cdv A outer s H vs Q E a oe cls d hz hf hsp
  have I := L2H.inv_startH (CX := L2.CX P w) (E := E) (f := f) (cd := cdv) S hpin e0 hl r x
  refine wpAny_mono (ht.run [] s1 (L2.start N vs) H _ I hq) (fun fl s' hs => ?_) fun e s' hs => hs
  cases fl with
  | ret u =>
    obtain ⟨v, σ', H', J, rv, q⟩ := hs
    exact ⟨v, H', J.os, J.bare, J.base, J.hok, rv, q⟩
  | next =>
    obtain ⟨σ', H', J, q⟩ := hs
    exact ⟨V.non, H', J.os, J.bare, J.base, J.hok, rfl, q⟩
  | brk =>
    obtain ⟨_, _, _, q⟩ := hs
    exact False.elim q
  | cont =>
    obtain ⟨_, _, _, q⟩ := hs
    exact False.elim q
end
section
theorem roomE {A : Around} {j k : Nat} {h : Option Value} (r : Room j A) (hk : k ≤ j) : L2H.RoomH k (A.mark h) := ⟨by have := r.dp; show A.depth + 3 * k + 5 < _; omega, by have := r.un; show A.units + 16 * k + 200 < _; omega⟩
variable {X : Cx} {k : Nat} {sp : Addr → Value → Option Addr → Sp} {x : Str} {q pos : Pos} {e : Expr} {es : List Expr} {t : TA} {a : Addr} {oe : Obj} {cls : Value} {d : Option Addr}
theorem pe_callE (c : CalE X.prog X.w X.K X.mg X.base k x sp) (hr : L2H.RoomH k X.A) (hp : (a, oe) ∈ X.pn) (hz : Zc cls d oe) (hf : ∃ vs, oe.data = .fields vs) (hg : Gl X x)
    (ha : PA X (e :: es) t) (hdb : (x == ("__debug__" : Str)) = false := by decide) (he : starEach (e :: es) X.env = (false, eval e X.env) :: starEach es X.env := by rfl) (hpl : (backTo pos (starEach es X.env)).any (·.1) = false := by rfl) :
    PE X (.Call (.Name x q) (e :: es) [] pos) (tCall (sp a cls d) [] E0 t) := by
  obtain ⟨f, fd, ps, F, hm, hk, hb⟩ := c.ex
  refine ⟨fun pins s σ H Q I h => ?_⟩
  refine wpAny_Call_Name_kw (ld_glob I hg hm ?_ hdb)
  refine PySem.W.callWith_K (h₀ := X.base) I.ok.mod.kin hk (thn (ha.run pos pins s σ H _ I h) fun us s1 ⟨vs, H1, I1, r, q⟩ => ⟨I1.kIn, ?_⟩) he hpl
  have q : sp a cls d (vs ++ []) H1 Q E0 := q
  rw [List.append_nil] at q
  have hl : us.length = ps.length := by rw [← r.length]; exact F.len _ _ _ _ _ _ _ q
  have b := hb s1 us I1.kIn (by rw [List.append_nil]; exact hl)
  rw [List.append_nil] at b
  have P1 := I1.pin (a, oe) (List.mem_append_left _ hp)
  have hpin : L2H.PinOk X.stack H1 s1 (a, oe) := ⟨P1.1, P1.2.1, fun hm => (List.mem_cons.mp (I1.stkSub a hm)).elim P1.2.2.1 P1.2.2.2.1, P1.2.2.2.2⟩
  refine wpAny_call (codeAny_mono (F.run X.A X.stack s1 H1 ⟨us, []⟩ us vs Q E0 a oe cls d hz hf hr hpin I1.env0 b r q) fun r s' hq => ?_)
  cases r with
  | error e => exact (passL pins (show L2.St from σ) H1 s1 e s' I1 hq)
  | ok fl =>
    cases fl with
    | ret u => exact I1.after hq
    | next => exact False.elim hq
    | brk => exact False.elim hq
    | cont => exact False.elim hq
end
end Tr

/-! # Lists of tuples of the same things; lists of other lengths; isinstance of a caught error with a tuple of classes. -/
namespace Tr
open PySem PySem.Spec PyProof.Rows L2
/-- a thing that is itself -/
def Slf (v : V) : Prop := flatB v = true ∨ ∃ a, v = .ref a
theorem eqAt_self {A : Around} {s : Shared} {v : V} {u u' : Value} (r : RelV v u) (r' : RelV v u') (f : Slf v) : SeqAt.EqAt A s u u' true := by
  rcases f with f | ⟨a, rfl⟩
  · exact eqAt_same r r' f
  · cases (show u = Value.ref a from r)
    cases (show u' = Value.ref a from r')
    exact SeqAt.EqAt.same _
theorem eqAt_selfs {A : Around} {s : Shared} : ∀ {xs : List V} {us ws : List Value}, Vals xs us → Vals xs ws → (∀ v ∈ xs, Slf v) → ∀ j (h1 : j < us.length) (h2 : j < ws.length), SeqAt.EqAt A s us[j] ws[j] true
  | [], _, _, r, _, _, j, h1, _ => by
    cases r
    exact absurd h1 (Nat.not_lt_zero j)
  | v :: xs, _, _, r, r2, f, j, h1, h2 => by
    cases r with
    | cons a1 b1 =>
      cases r2 with
      | cons a2 b2 =>
        cases j with
        | zero => exact eqAt_self a1 a2 (f v List.mem_cons_self)
        | succ j => exact eqAt_selfs b1 b2 (fun v hv => f v (List.mem_cons_of_mem _ hv)) j (Nat.lt_of_succ_lt_succ h1) (Nat.lt_of_succ_lt_succ h2)
/-- two tuples of the same things -/
def TupS (K : PySem.W.Frag) (H : Hp) (u w : Addr) : Prop := ∃ xs, SqT K H u xs ∧ SqT K H w xs ∧ ∀ v ∈ xs, Slf v
section
variable {X : Cx} {pins : List (Addr × Obj)} {σ : L2.St} {H : Hp} {s : Shared}
theorem eqAt_tup {A : Around} (I : Inv X pins σ H s) (hu : A.units < cLine) {u w : Addr} (h : TupS X.K H u w) : SeqAt.EqAt A s (.ref u) (.ref w) true := by
  by_cases e : u = w
  · rw [e]
    exact SeqAt.EqAt.same _
  · obtain ⟨xs, hU, hW, hf⟩ := h
    obtain ⟨its, r, e1, _⟩ := I.tuple hU
    obtain ⟨its2, r2, e2, _⟩ := I.tuple hW
    have hz : its.length = its2.length := by rw [← r.length, ← r2.length]
    refine SeqAt.EqAt.of_refs e ?_
    have key := SeqAt.RcAt.tuples (A := A) (s := s) (e := fun _ => true) (show s.heap.IsTuple u its.toArray from e1) (show s.heap.IsTuple w its2.toArray from e2) hu (fun j h1 h2 => eqAt_selfs (A := A.in1) (s := s) r r2 hf j h1 h2)
    have eb : ((List.range (min its.toArray.size its2.toArray.size)).all (fun _ => true) && its.toArray.size == its2.toArray.size) = true := by
      rw [List.size_toArray, List.size_toArray, hz]
      simp
    rw [eb] at key
    exact key
theorem eqAt_tups {A : Around} (I : Inv X pins σ H s) (hu : A.units < cLine) : ∀ {us ws : List Addr} {is js : List Value}, P2 (TupS X.K H) us ws → Vals (us.map V.ref) is → Vals (ws.map V.ref) js → ∀ j (h1 : j < is.length) (h2 : j < js.length), SeqAt.EqAt A s is[j] js[j] true
  | [], _, _, _, .nil, r, _, j, h1, _ => by
    cases r
    exact absurd h1 (Nat.not_lt_zero j)
  | u :: us, w :: ws, _, _, .cons h t, r, r2, j, h1, h2 => by
    cases r with
    | cons a1 b1 =>
      cases r2 with
      | cons a2 b2 =>
        cases j with
        | zero =>
          cases a1
          cases a2
          exact eqAt_tup I hu h
        | succ j => exact eqAt_tups I hu t b1 b2 j (Nat.lt_of_succ_lt_succ h1) (Nat.lt_of_succ_lt_succ h2)
end
def rNeLT (K : PySem.W.Frag) : R2 := fun x y H Q => ∃ a b us ws, x = .ref a ∧ y = .ref b ∧ SqL K H a (us.map V.ref) ∧ SqL K H b (ws.map V.ref) ∧ P2 (TupS K H) us ws ∧ Q (.bl false) H
theorem op_neLT {X : Cx} (hu : X.A.units + 64 < cLine) : OpR X (compareOp .NotEq) (rNeLT X.K) := by
  intro pins s σ H x y v u Q I rx ry h
  obtain ⟨a, b, us, ws, rfl, rfl, ha, hb, hp, q⟩ := h
  cases rx
  cases ry
  obtain ⟨its, r, e, _⟩ := I.list ha
  obtain ⟨its2, r2, e2, _⟩ := I.list hb
  have hz : its.length = its2.length := by rw [← r.length, ← r2.length, List.length_map, List.length_map, hp.len]
  have key := SeqAt.RcNeAt.lists (A := X.A) (s := s) (e := fun _ => true) e.isList e2.isList (by rw [List.size_toArray, List.size_toArray, hz]) (by omega) (fun j h1 h2 => eqAt_tups (A := X.A.in1) I (by show X.A.units + 1 < _; omega) hp r r2 j h1 h2)
  have eb : (!(List.range its.toArray.size).all (fun _ => true)) = false := by simp
  rw [eb] at key
  exact key X.prog X.w _ _ ⟨.bl false, H, I, rfl, q⟩
/-- x == y, lists of other lengths or both empty -/
def rEqE (K : PySem.W.Frag) (n : Bool) : R2 := fun x y H Q => ∃ a b xs ys, x = .ref a ∧ y = .ref b ∧ SqL K H a xs ∧ SqL K H b ys ∧ ((xs.length ≠ ys.length ∧ Q (.bl n) H) ∨ (xs = [] ∧ ys = [] ∧ Q (.bl !n) H))
theorem op_eqE {X : Cx} (hu : X.A.units + 64 < cLine) : OpR X (compareOp .Eq) (rEqE X.K false) := by
  intro pins s σ H x y v u Q I rx ry h
  obtain ⟨a, b, xs, ys, rfl, rfl, ha, hb, h⟩ := h
  cases rx
  cases ry
  obtain ⟨its, r, e, _⟩ := I.list ha
  obtain ⟨its2, r2, e2, _⟩ := I.list hb
  rcases h with ⟨ne, q⟩ | ⟨rfl, rfl, q⟩
  · exact SeqAt.RcAt.lists_lengths (A := X.A) (s := s) e.isList e2.isList (by rw [List.size_toArray, List.size_toArray, ← r.length, ← r2.length]; simpa using ne) (by omega) X.prog X.w _ _ ⟨.bl false, H, I, rfl, q⟩
  · cases r
    cases r2
    have key := SeqAt.RcAt.lists (A := X.A) (s := s) (e := fun _ => true) e.isList e2.isList rfl (by omega) (fun j h1 _ => absurd h1 (Nat.not_lt_zero j))
    exact key X.prog X.w _ _ ⟨.bl true, H, I, rfl, q⟩
theorem op_neE {X : Cx} (hu : X.A.units + 64 < cLine) : OpR X (compareOp .NotEq) (rEqE X.K true) := by
  intro pins s σ H x y v u Q I rx ry h
  obtain ⟨a, b, xs, ys, rfl, rfl, ha, hb, h⟩ := h
  cases rx
  cases ry
  obtain ⟨its, r, e, _⟩ := I.list ha
  obtain ⟨its2, r2, e2, _⟩ := I.list hb
  rcases h with ⟨ne, q⟩ | ⟨rfl, rfl, q⟩
  · exact SeqAt.RcNeAt.lists_lengths (A := X.A) (s := s) e.isList e2.isList (by rw [List.size_toArray, List.size_toArray, ← r.length, ← r2.length]; simpa using ne) (by omega) X.prog X.w _ _ ⟨.bl true, H, I, rfl, q⟩
  · cases r
    cases r2
    have key := SeqAt.RcNeAt.lists (A := X.A) (s := s) (e := fun _ => true) e.isList e2.isList rfl (by omega) (fun j h1 _ => absurd h1 (Nat.not_lt_zero j))
    exact key X.prog X.w _ _ ⟨.bl false, H, I, rfl, q⟩
section
variable {X : Cx} {a : Addr} {oe : Obj} {cls : Value} {d : Option Addr}
/-- isinstance of a caught error, the classes in a tuple just laid -/
def rIsAT (K : PySem.W.Frag) (a : Addr) (cls : Value) (d : Option Addr) : List V → Hp → VK → Prop := fun xs H Q => ∃ (C tp : Addr) (cs : List V) (us : List Value) (b : Bool), xs = [.ref a, .ref tp] ∧ H tp = some (.tup cs) ∧ Paired ClsV cs us ∧ ExcAt K H cls d C ∧ PySem.W.kitAny K (.ref C) us = some b ∧ Q (.bl b) H
theorem call_isAT (K : PySem.W.Frag) (hp : (a, oe) ∈ X.pn) (hz : Zc cls d oe) (hf : ∃ vs, oe.data = .fields vs) (hk : X.K = K := by rfl) : CallR X (.builtin "isinstance") (rIsAT K a cls d) := by
  subst hk
  intro pins s σ H xs us Q I r ⟨C, tp, cs, ws, b, ex, hT, k, ⟨ec, T, ed⟩, e, q⟩
  subst ex ec
  match us, r with
  | [_, _], .cons rx (.cons rt .nil) =>
    cases rx
    cases rt
    obtain ⟨_, its, rv, o, h1, h2, n, h3⟩ := (show ObjOk X.prog X.w H s.heap tp (.tup cs) from I.hok tp _ hT)
    have e3 := ClsV.all k rv
    subst e3
    obtain ⟨oc, od0, dt, sl⟩ := o
    simp only at h2 h3
    subst h2 h3
    obtain ⟨ha, _⟩ := I.pin (a, oe) (List.mem_append_left _ hp)
    obtain ⟨vs, hd⟩ := hf
    obtain ⟨od, J⟩ : ∃ od, PySem.W.InstAt s.heap a oe C od := by
      rcases ed with rfl | ⟨dd, fs, rfl, hx⟩
      · obtain ⟨oc, odd, oda, osl⟩ := oe
        obtain ⟨h1, h2⟩ := hz
        dsimp only at h1 h2 hd
        subst h1 h2 hd
        exact ⟨none, ha, rfl, rfl, trivial⟩
      · obtain ⟨mA, hns, _⟩ := (show ObjOk X.prog X.w H s.heap dd (.xd fs) from I.hok dd _ hx)
        obtain ⟨od, ho, _⟩ := lookIn_ns hns
        exact ⟨some od, ha, hz.1, by unfold PySem.W.notCls; rw [hd] <;> rfl, by rw [hz.2]; exact ho⟩
    exact PySem.W.kia_tup (exc_kit T) I.kIn J h1 e (fun z => nomatch z) fun tk => ⟨.bl b, H, I.kept (t' := tk) fun _ _ z => z, rfl, q⟩
end
/-- a field of a caught error, its class told by the promise -/
def tXfA (K : PySem.W.Frag) (a : Addr) (cls : Value) (d : Option Addr) (f : Str) (te : TE) : TE := fun σ H Q => te σ H fun x H1 => x = .ref a ∧ ∃ C : Addr, cls = .ref C ∧ XfC K C ∧ PySem.W.findIn K (.ref C) f = some none ∧ ∃ (dd : Addr) (fs : List (Str × V)) (v : V), d = some dd ∧ H1 dd = some (.xd fs) ∧ fs.lookup f = some v ∧ Q v H1
theorem pe_xfA {X : Cx} {a : Addr} {oe : Obj} {cls : Value} {d : Option Addr} {pn : List (Addr × Obj)} {e : Expr} {te : TE} {pos : Pos} {n : Str}
    (hz : Zc cls d oe) (hf : ∃ vs, oe.data = .fields vs) (he : PE (X.suite a ((a, oe) :: pn)) e te) (hb : attributeBase e n X.env (eval e X.env) = eval e X.env := by rfl) :
    PE (X.suite a ((a, oe) :: pn)) (.Attribute e n pos) (tXfA X.K a cls d n te) := by
  refine ⟨fun pins s σ H Q I h => ?_⟩
  refine attr_of hb (thn (he.run pins s σ H _ I h) fun u s1 hh => ?_)
  obtain ⟨x, H1, I1, rx, ex, C, ec, T, hno, dd, fs, v, ed, ea, l, q⟩ := hh
  subst ex
  obtain rfl : u = Value.ref a := rx
  subst ec
  subst ed
  obtain ⟨ha, _⟩ := I1.pin (a, oe) (List.mem_append_left _ List.mem_cons_self)
  obtain ⟨vs, hd⟩ := hf
  have hx : ObjOk X.prog X.w H1 s1.heap dd (.xd fs) := I1.hok dd _ ea
  obtain ⟨mA, hns, hr⟩ := hx
  obtain ⟨od, ho, hl⟩ := lookIn_ns hns
  obtain ⟨u, hu, ru⟩ := RelO.some_of (v := v) (o := mA n) (by rw [← l]; exact hr n)
  have J : PySem.W.InstAt s1.heap a oe C (some od) := ⟨ha, hz.1, by unfold PySem.W.notCls; rw [hd] <;> rfl, by rw [hz.2]; exact ho⟩
  exact HandSPX.exc_get I1.kIn J T.ga T.gg T.exC (PySem.W.findObj_own T.hdC hno rfl (by rw [hl, hu])) (handed_of ru) ⟨v, H1, I1.tok _, ru, q⟩
section
variable {X : Cx}
/-- f(lambda: e), two tables known -/
theorem pe_lam2 {TT : (XK → Hp → VK → Prop) → Hp → VK → Prop} {x a q q2 : Str} {st : Stmt} {c Pt Pt2 : Addr} {k j : Nat} {Ng : List Str} {params : Arguments} {body : Expr} {scope : Scope} {t : XK → TE} {p lpos pos : Pos} (hne : Pt2 ≠ Pt) (hq : X.env.qual ++ "<lambda>" = q)
    (D : Dfn X.K X.mg x st) (Sg : FnScope Ng [a] (defScope st)) (hNg : Ng[0]? = some a) (hva : Vis (defScope st) a)
    (hb : ∀ (kV doc pm : Value) (an : Option Addr) (cdv ct : Value) (us : List Value), us.length = [a].length → bindArgs (PySem.W.fnOf x x (defArgs st) (defBody st) (defScope st) .none kV doc pm an cdv ct) ⟨us, []⟩ = pure ([a].zip us))
    (hG : ∀ g cdg, LamX.GivesTo X Ng x (defScope st) g cdg (defBody st) a (X.env.qual ++ "<lambda>") TT) (hg : Gl X x)
    (TB : LamX.TabB X.base X.mg c Pt) (hcode : X.env.code = .ref c) (hr : Room j X.A) (hk : k + 2 ≤ j) (L : LamX.LamS X.env.scope scope) (hdef : defaultsOf params X.env = ([], []))
    (hbind : ∀ (q : Str) (cl : List (Str × Addr)) (pm cv ctv : Value), bindArgs (PySem.W.kla_fn "<lambda>" q params body scope cl pm cv ctv) ⟨[], []⟩ = pure [])
    (hbody : ∀ (A : Around) (outer : List Env) (s : Shared) (H : Hp) (E : XK) (f c' : Addr), Room k (A.deeper (LamX.lamEnv X scope s.heap.objs.size f c')) → PE (LamX.lamCx X A outer s H E scope f c') body (t E))
    (hdb : (x == ("__debug__" : Str)) = false := by decide) (hd : (a == ("__debug__" : Str)) = false := by decide) (hcd : (a == ("__classdict__" : Str)) = false := by decide) :
    PE X (.Call (.Name x p) [.Lambda params body scope lpos] [] pos) (LamX.tLam [(Pt, q), (Pt2, q2)] TT t) := by
  subst hq
  exact pe_lam D Sg hNg hva hb hG hg TB hcode List.mem_cons_self (fun p hp e => by
    rcases List.mem_cons.mp hp with rfl | hp
    · rfl
    · rw [List.mem_singleton.mp hp] at e
      exact (hne e).elim) hr hk L hdef hbind hbody hdb hd hcd
end
end Tr

/-! ### the text by places; what the top has left -/
namespace Tr
open PySem L2
def top (i : Nat) : Stmt := PySem.Challenge.pw_turnrings_k47_whole_turns_map_one_to_one.main.body.getD i (.Pass ⟨0, 0, 0, 0⟩)
abbrev s_TooMany___init__ : Stmt := inClass (top 7) 0
theorem ex_TooMany : ExS "TooMany.__init__" s_TooMany___init__ ["what", "many", "most"] ((defBody s_TooMany___init__).drop 1) := ⟨NdefX.nscope_by (by decide +kernel), ⟨_, _, _, _, _, _, _, _, rfl, fun _ _ _ _ => rfl, fun _ _ _ _ => ⟨_, rfl⟩⟩, ⟨_, rfl, rfl⟩, rfl, fun _ _ _ _ _ _ _ us hl => match us, hl with | [_, _, _, _], _ => rfl⟩
abbrev s__law_pen : Stmt := top 32
theorem sc__law_pen : FnScope ["_law_script", "_law_cell"] ["_law_script"] (defScope s__law_pen) := ⟨rfl, rfl, rfl, by decide +kernel, rfl, by decide +kernel, by decide +kernel⟩
abbrev s__law_draw : Stmt := top 33
theorem sc__law_draw : FnScope ["_law_pen_here", "_law_many", "_law_digit", "_law_at", "_law_cell", "_law_mixed_here"] ["_law_pen_here", "_law_many"] (defScope s__law_draw) := ⟨rfl, rfl, rfl, by decide +kernel, rfl, by decide +kernel, by decide +kernel⟩
abbrev s_is_whole : Stmt := top 24
theorem sc_is_whole : FnScope ["value"] ["value"] (defScope s_is_whole) := ⟨rfl, rfl, rfl, by decide +kernel, rfl, by decide +kernel, by decide +kernel⟩
abbrev s_is_name : Stmt := top 17
theorem sc_is_name : FnScope ["value", "sign"] ["value"] (defScope s_is_name) := ⟨rfl, rfl, rfl, by decide +kernel, rfl, by decide +kernel, by decide +kernel⟩
abbrev s_Turns___init__ : Stmt := inClass (top 26) 1
theorem sc_Turns___init__ : FnScope ["self", "pairs", "told", "periods", "ranks", "name", "period"] ["self", "pairs"] (defScope s_Turns___init__) := ⟨rfl, rfl, rfl, by decide +kernel, rfl, by decide +kernel, by decide +kernel⟩
abbrev s_Turns___contains__ : Stmt := inClass (top 26) 7
theorem sc_Turns___contains__ : FnScope ["self", "name"] ["self", "name"] (defScope s_Turns___contains__) := ⟨rfl, rfl, rfl, by decide +kernel, rfl, by decide +kernel, by decide +kernel⟩
abbrev s_Turns_period_of : Stmt := inClass (top 26) 2
theorem sc_Turns_period_of : FnScope ["self", "name"] ["self", "name"] (defScope s_Turns_period_of) := ⟨rfl, rfl, rfl, by decide +kernel, rfl, by decide +kernel, by decide +kernel⟩
abbrev s_Turns_rank : Stmt := inClass (top 26) 3
theorem sc_Turns_rank : FnScope ["self", "name"] ["self", "name"] (defScope s_Turns_rank) := ⟨rfl, rfl, rfl, by decide +kernel, rfl, by decide +kernel, by decide +kernel⟩
abbrev s_Turns___eq__ : Stmt := inClass (top 26) 9
theorem sc_Turns___eq__ : FnScope ["self", "other"] ["self", "other"] (defScope s_Turns___eq__) := ⟨rfl, rfl, rfl, by decide +kernel, rfl, by decide +kernel, by decide +kernel⟩
abbrev s_reduced : Stmt := top 18
theorem sc_reduced : FnScope ["turns", "name", "exponent", "period"] ["turns", "name", "exponent"] (defScope s_reduced) := ⟨rfl, rfl, rfl, by decide +kernel, rfl, by decide +kernel, by decide +kernel⟩
abbrev s_step_key : Stmt := top 20
theorem sc_step_key : FnScope ["turns", "step", "name", "exponent", "period", "clicks"] ["turns", "step"] (defScope s_step_key) := ⟨rfl, rfl, rfl, by decide +kernel, rfl, by decide +kernel, by decide +kernel⟩
abbrev s_normal_steps : Stmt := top 19
theorem sc_normal_steps : FnScope ["turns", "steps", "kept", "name", "exponent"] ["turns", "steps"] (defScope s_normal_steps) := ⟨rfl, rfl, rfl, by decide +kernel, rfl, by decide +kernel, by decide +kernel⟩
abbrev s_Row___init__ : Stmt := inClass (top 22) 1
theorem sc_Row___init__ : FnScope ["self", "turns", "steps", "name", "exponent", "keys", "step"] ["self", "turns", "steps"] (defScope s_Row___init__) := ⟨rfl, rfl, rfl, by decide +kernel, rfl, by decide +kernel, by decide +kernel⟩
abbrev s__law_pick : Stmt := top 34
theorem sc__law_pick : FnScope ["_law_pen_here", "_law_items"] ["_law_pen_here", "_law_items"] (defScope s__law_pick) := ⟨rfl, rfl, rfl, by decide +kernel, rfl, by decide +kernel, by decide +kernel⟩
abbrev s__law_mixed : Stmt := top 35
theorem sc__law_mixed : FnScope ["_law_pen_here", "_law_items", "_law_left", "_law_found", "_law_k"] ["_law_pen_here", "_law_items"] (defScope s__law_mixed) := ⟨rfl, rfl, rfl, by decide +kernel, rfl, by decide +kernel, by decide +kernel⟩
abbrev s__law_divisors : Stmt := top 40
theorem sc__law_divisors : FnScope ["_law_number", "_law_k"] ["_law_number"] (defScope s__law_divisors) := ⟨rfl, rfl, rfl, by decide +kernel, rfl, by decide +kernel, by decide +kernel⟩
abbrev s__law_size : Stmt := top 41
theorem sc__law_size : FnScope ["_law_pen_here", "_law_period", "_law_far", "_law_small"] ["_law_pen_here", "_law_period", "_law_far"] (defScope s__law_size) := ⟨rfl, rfl, rfl, by decide +kernel, rfl, by decide +kernel, by decide +kernel⟩
abbrev s__law_words : Stmt := top 36
theorem sc__law_words : FnScope ["_law_pen_here", "_law_many", "_law_small", "_law_signs", "_law_head", "_law_first", "_law_place", "_law_stem", "_law_found", "_law_k", "_law_sign", "_law_tail"] ["_law_pen_here", "_law_many"] (defScope s__law_words) := ⟨rfl, rfl, rfl, by decide +kernel, rfl, by decide +kernel, by decide +kernel⟩
abbrev s__law_turns : Stmt := top 37
theorem sc__law_turns : FnScope ["_law_pen_here", "_law_most", "_law_far", "_law_found", "_law_name"] ["_law_pen_here", "_law_most", "_law_far"] (defScope s__law_turns) := ⟨rfl, rfl, rfl, by decide +kernel, rfl, by decide +kernel, by decide +kernel⟩
abbrev s__law_round : Stmt := top 42
theorem sc__law_round : FnScope ["_law_pen_here", "_law_size_here", "_law_told", "_law_marks", "_law_taken", "_law_state", "_law_position", "_law_turn"] ["_law_pen_here", "_law_size_here", "_law_told"] (defScope s__law_round) := ⟨rfl, rfl, rfl, by decide +kernel, rfl, by decide +kernel, by decide +kernel⟩
abbrev s__law_rounds : Stmt := top 43
theorem sc__law_rounds : FnScope ["_law_pen_here", "_law_period", "_law_states", "_law_far", "_law_left", "_law_found", "_law_size_here", "_law_many"] ["_law_pen_here", "_law_period", "_law_states", "_law_far"] (defScope s__law_rounds) := ⟨rfl, rfl, rfl, by decide +kernel, rfl, by decide +kernel, by decide +kernel⟩
abbrev s__law_shape : Stmt := top 44
theorem sc__law_shape : FnScope ["_law_pen_here", "_law_turns_here", "_law_most", "_law_far", "_law_states", "_law_rounds_here", "_law_name", "_law_period"] ["_law_pen_here", "_law_turns_here", "_law_most", "_law_far"] (defScope s__law_shape) := ⟨rfl, rfl, rfl, by decide +kernel, rfl, by decide +kernel, by decide +kernel⟩
abbrev s_is_round : Stmt := top 29
theorem sc_is_round : FnScope ["period", "states", "size", "marks", "taken", "position", "state"] ["period", "states", "size", "marks"] (defScope s_is_round) := ⟨rfl, rfl, rfl, by decide +kernel, rfl, by decide +kernel, by decide +kernel⟩
abbrev s_Mechanism_take_round : Stmt := inClass (top 30) 1
theorem sc_Mechanism_take_round : FnScope ["self", "turn", "size", "marks", "at", "seats", "position", "state"] ["self", "turn", "size", "marks"] (defScope s_Mechanism_take_round) := ⟨rfl, rfl, rfl, by decide +kernel, rfl, by decide +kernel, by decide +kernel⟩
abbrev s_Mechanism_count_empty : Stmt := inClass (top 30) 2
theorem sc_Mechanism_count_empty : FnScope ["self", "turn", "size", "marks"] ["self", "turn"] (defScope s_Mechanism_count_empty) := ⟨rfl, rfl, rfl, by decide +kernel, rfl, by decide +kernel, by decide +kernel⟩
abbrev s_Mechanism___init__ : Stmt := inClass (top 30) 0
theorem sc_Mechanism___init__ : FnScope ["self", "turns", "states", "rounds", "name", "size", "marks"] ["self", "turns", "states", "rounds"] (defScope s_Mechanism___init__) := ⟨rfl, rfl, rfl, by decide +kernel, rfl, by decide +kernel, by decide +kernel⟩
abbrev s_Mechanism_listed : Stmt := inClass (top 30) 9
theorem sc_Mechanism_listed : FnScope ["self", "found", "name", "at", "size", "marks", "position"] ["self"] (defScope s_Mechanism_listed) := ⟨rfl, rfl, rfl, by decide +kernel, rfl, by decide +kernel, by decide +kernel⟩
abbrev s__law_listed : Stmt := top 45
theorem sc__law_listed : FnScope ["_law_shape_here", "_law_found", "_law_name", "_law_period", "_law_k", "_law_size_here", "_law_marks", "_law_taken", "_law_mark", "_law_position"] ["_law_shape_here"] (defScope s__law_listed) := ⟨rfl, rfl, rfl, by decide +kernel, rfl, by decide +kernel, by decide +kernel⟩
abbrev s_Mechanism_need_turns : Stmt := inClass (top 30) 5
theorem sc_Mechanism_need_turns : FnScope ["self", "turns"] ["self", "turns"] (defScope s_Mechanism_need_turns) := ⟨rfl, rfl, rfl, by decide +kernel, rfl, by decide +kernel, by decide +kernel⟩
abbrev s_Mechanism_stepped : Stmt := inClass (top 30) 6
theorem sc_Mechanism_stepped : FnScope ["self", "state", "turn", "exponent", "at", "position", "size", "marks"] ["self", "state", "turn", "exponent"] (defScope s_Mechanism_stepped) := ⟨rfl, rfl, rfl, by decide +kernel, rfl, by decide +kernel, by decide +kernel⟩
abbrev s_Mechanism_reached : Stmt := inClass (top 30) 7
theorem sc_Mechanism_reached : FnScope ["self", "state", "row", "turn", "exponent"] ["self", "state", "row"] (defScope s_Mechanism_reached) := ⟨rfl, rfl, rfl, by decide +kernel, rfl, by decide +kernel, by decide +kernel⟩
abbrev s_Mechanism_is_empty : Stmt := inClass (top 30) 3
theorem sc_Mechanism_is_empty : FnScope ["self", "value", "rounds", "size", "marks"] ["self", "value"] (defScope s_Mechanism_is_empty) := ⟨rfl, rfl, rfl, by decide +kernel, rfl, by decide +kernel, by decide +kernel⟩
abbrev s_Mechanism_need_state : Stmt := inClass (top 30) 4
theorem sc_Mechanism_need_state : FnScope ["self", "value"] ["self", "value"] (defScope s_Mechanism_need_state) := ⟨rfl, rfl, rfl, by decide +kernel, rfl, by decide +kernel, by decide +kernel⟩
abbrev s_Mechanism_led : Stmt := inClass (top 30) 8
theorem sc_Mechanism_led : FnScope ["self", "state", "row"] ["self", "state", "row"] (defScope s_Mechanism_led) := ⟨rfl, rfl, rfl, by decide +kernel, rfl, by decide +kernel, by decide +kernel⟩
abbrev s__law_exponent : Stmt := top 38
theorem sc__law_exponent : FnScope ["_law_pen_here", "_law_far", "_law_small"] ["_law_pen_here", "_law_far"] (defScope s__law_exponent) := ⟨rfl, rfl, rfl, by decide +kernel, rfl, by decide +kernel, by decide +kernel⟩
abbrev s__law_steps : Stmt := top 39
theorem sc__law_steps : FnScope ["_law_pen_here", "_law_turns_here", "_law_most", "_law_far", "_law_found", "_law_k"] ["_law_pen_here", "_law_turns_here", "_law_most", "_law_far"] (defScope s__law_steps) := ⟨rfl, rfl, rfl, by decide +kernel, rfl, by decide +kernel, by decide +kernel⟩
abbrev s__law_made : Stmt := top 46
theorem sc__law_made : FnScope ["_law_shape_here", "_law_turns_here", "_law_rounds_here", "_law_name", "_law_size_here", "_law_marks"] ["_law_shape_here", "_law_turns_here"] (defScope s__law_made) := ⟨rfl, rfl, rfl, by decide +kernel, rfl, by decide +kernel, by decide +kernel⟩
abbrev s_Turns___getitem__ : Stmt := inClass (top 26) 5
theorem sc_Turns___getitem__ : FnScope ["self", "name"] ["self", "name"] (defScope s_Turns___getitem__) := ⟨rfl, rfl, rfl, by decide +kernel, rfl, by decide +kernel, by decide +kernel⟩
abbrev s__law_clicks : Stmt := top 47
theorem sc__law_clicks : FnScope ["_law_moves", "_law_state", "_law_name", "_law_exponent_here", "_law_click", "_law_one"] ["_law_moves", "_law_state", "_law_name", "_law_exponent_here"] (defScope s__law_clicks) := ⟨rfl, rfl, rfl, by decide +kernel, rfl, by decide +kernel, by decide +kernel⟩
abbrev s_law : Stmt := top 48
theorem sc_law : FnScope ["_law_script", "_law_pen_here", "_law_shape_here", "_law_turns_here", "_law_moves", "_law_made_here", "_law_states", "_law_name", "_law_period", "_law_goals", "_law_turn", "_law_steps_here", "_law_state", "_law_due", "_law_exponent_here"] ["_law_script"] (defScope s_law) := ⟨rfl, rfl, rfl, by decide +kernel, rfl, by decide +kernel, by decide +kernel⟩
structure Txt (K : PySem.W.Frag) (mg : Str → Option Value) : Prop where
  a_Mechanism__own_rounds : NoAttr K (He.ga K "Mechanism") "own_rounds"
  a_Mechanism__own_seats : NoAttr K (He.ga K "Mechanism") "own_seats"
  a_Mechanism__size : NoAttr K (He.ga K "Mechanism") "size"
  a_Mechanism__states : NoAttr K (He.ga K "Mechanism") "states"
  a_Mechanism__turns : NoAttr K (He.ga K "Mechanism") "turns"
  a_Row__key : NoAttr K (He.ga K "Row") "key"
  a_Row__steps : NoAttr K (He.ga K "Row") "steps"
  a_Row__turns : NoAttr K (He.ga K "Row") "turns"
  a_Turns__names : NoAttr K (He.ga K "Turns") "names"
  a_Turns__pairs : NoAttr K (He.ga K "Turns") "pairs"
  a_Turns__periods : NoAttr K (He.ga K "Turns") "periods"
  a_Turns__ranks : NoAttr K (He.ga K "Turns") "ranks"
  b_abs : mg "abs" = none
  b_all : mg "all" = none
  b_bool : mg "bool" = none
  b_dict : mg "dict" = none
  b_enumerate : mg "enumerate" = none
  b_int : mg "int" = none
  b_isinstance : mg "isinstance" = none
  b_len : mg "len" = none
  b_list : mg "list" = none
  b_min : mg "min" = none
  b_range : mg "range" = none
  b_str : mg "str" = none
  b_sum : mg "sum" = none
  b_tuple : mg "tuple" = none
  c_DIGITS : GCon mg "DIGITS" (.str "0123456789")
  c_LETTERS : GCon mg "LETTERS" (.str "abcdefghijklmnopqrstuvwxyz")
  c_LONGEST_NAME : GCon mg "LONGEST_NAME" (.int 12)
  c_MOST_LISTED : GCon mg "MOST_LISTED" (.int 1000)
  d__law_clicks : Dfn K mg "_law_clicks" s__law_clicks
  d__law_divisors : Dfn K mg "_law_divisors" s__law_divisors
  d__law_draw : Dfn K mg "_law_draw" s__law_draw
  d__law_exponent : Dfn K mg "_law_exponent" s__law_exponent
  d__law_listed : Dfn K mg "_law_listed" s__law_listed
  d__law_made : Dfn K mg "_law_made" s__law_made
  d__law_mixed : Dfn K mg "_law_mixed" s__law_mixed
  d__law_pen : Dfn K mg "_law_pen" s__law_pen
  d__law_pick : Dfn K mg "_law_pick" s__law_pick
  d__law_round : Dfn K mg "_law_round" s__law_round
  d__law_rounds : Dfn K mg "_law_rounds" s__law_rounds
  d__law_shape : Dfn K mg "_law_shape" s__law_shape
  d__law_size : Dfn K mg "_law_size" s__law_size
  d__law_steps : Dfn K mg "_law_steps" s__law_steps
  d__law_turns : Dfn K mg "_law_turns" s__law_turns
  d__law_words : Dfn K mg "_law_words" s__law_words
  d_is_name : Dfn K mg "is_name" s_is_name
  d_is_round : Dfn K mg "is_round" s_is_round
  d_is_whole : Dfn K mg "is_whole" s_is_whole
  d_normal_steps : Dfn K mg "normal_steps" s_normal_steps
  d_reduced : Dfn K mg "reduced" s_reduced
  d_step_key : Dfn K mg "step_key" s_step_key
  e_Row : Ini0 K mg "Row" "Row.__init__" (He.ga K "Row") s_Row___init__
  g_Turns : GetO K (He.ga K "Turns")
  i_Mechanism : Ini K mg "Mechanism" "Mechanism.__init__" (He.ga K "Mechanism") s_Mechanism___init__ 0
  i_Row : Ini K mg "Row" "Row.__init__" (He.ga K "Row") s_Row___init__ 1
  i_Turns : Ini K mg "Turns" "Turns.__init__" (He.ga K "Turns") s_Turns___init__ 0
  k_Mechanism : Cls K (He.ga K "Mechanism")
  k_Row : Cls K (He.ga K "Row")
  k_Turns : Cls K (He.ga K "Turns")
  m_Mechanism__count_empty : Mth K (He.ga K "Mechanism") "count_empty" "Mechanism.count_empty" s_Mechanism_count_empty
  m_Mechanism__is_empty : Mth K (He.ga K "Mechanism") "is_empty" "Mechanism.is_empty" s_Mechanism_is_empty
  m_Mechanism__led : Mth K (He.ga K "Mechanism") "led" "Mechanism.led" s_Mechanism_led
  m_Mechanism__listed : Mth K (He.ga K "Mechanism") "listed" "Mechanism.listed" s_Mechanism_listed
  m_Mechanism__need_state : Mth K (He.ga K "Mechanism") "need_state" "Mechanism.need_state" s_Mechanism_need_state
  m_Mechanism__need_turns : Mth K (He.ga K "Mechanism") "need_turns" "Mechanism.need_turns" s_Mechanism_need_turns
  m_Mechanism__reached : Mth K (He.ga K "Mechanism") "reached" "Mechanism.reached" s_Mechanism_reached
  m_Mechanism__stepped : Mth K (He.ga K "Mechanism") "stepped" "Mechanism.stepped" s_Mechanism_stepped
  m_Mechanism__take_round : Mth K (He.ga K "Mechanism") "take_round" "Mechanism.take_round" s_Mechanism_take_round
  m_Turns____contains__ : Mth K (He.ga K "Turns") "__contains__" "Turns.__contains__" s_Turns___contains__
  m_Turns____eq__ : Mth K (He.ga K "Turns") "__eq__" "Turns.__eq__" s_Turns___eq__
  m_Turns____getitem__ : Mth K (He.ga K "Turns") "__getitem__" "Turns.__getitem__" s_Turns___getitem__
  m_Turns__period_of : Mth K (He.ga K "Turns") "period_of" "Turns.period_of" s_Turns_period_of
  m_Turns__rank : Mth K (He.ga K "Turns") "rank" "Turns.rank" s_Turns_rank
  n_Turns : NeOf K (He.ga K "Turns")
  o_Turns : IsO K (He.ga K "Turns")
  q_Turns__MOST : CCon K (He.ga K "Turns") "MOST" (.int 8)
  v_Turns : mg "Turns" = some (.ref (He.ga K "Turns"))
  x_TooMany : Exn K mg "TooMany" (He.ga K "TooMany") "TooMany.__init__" s_TooMany___init__ ["what", "many", "most"]
end Tr


/-! # The pen of the laws on mechanisms (in the place of the bag). -/
namespace Tr
open PySem L2
/-- steps of a reading that are plain -/
local macro_rules | `(tactic| walk_at "x") => `(tactic| (refine' ⟨_, _, _, _, rfl, rfl, ?k1, ?k2, ?_⟩; (case k1 => exact SqT.of (by assumption)); (case k2 => exact rfl)))
local macro_rules | `(tactic| walk_at "g") => `(tactic| repeat (first | (refine ⟨_, rfl, ?_⟩) | (refine ⟨_, _, rfl, rfl, ?_⟩) | (refine ⟨_, _, rfl, ?_⟩) | (refine ⟨rfl, ?_⟩) | walk_at "x"))


def penK (q : Addr) (a : Nat) (r : Int) : List (Key × V) := [(.inr "cells", .ref q), (.inr "at", .int a), (.inr "rest", .int r)]
/-- a pen at p, at most N numbers drawn -/
structure Bag (H : Hp) (p q : Addr) (N : Nat) : Prop where
  ex : ∃ (ns : List Int) (a : Nat) (r : Int), H p = some (.dK (penK q a r)) ∧ H q = some (.lst (ns.map V.int)) ∧ ns.length ≤ 63 ∧ a ≤ N ∧ 0 ≤ r
section
variable {q : Addr} {a a' : Nat} {r x : Int} {H : Hp} {p : Addr}
theorem pg_cells (h : H p = some (.dK (penK q a r))) : DGet H p (.str "cells") (some (.ref q)) := DGet.k (k := Sum.inr "cells") h
theorem pg_at (h : H p = some (.dK (penK q a r))) : DGet H p (.str "at") (some (.int a)) := DGet.k (k := Sum.inr "at") h
theorem pg_rest (h : H p = some (.dK (penK q a r))) : DGet H p (.str "rest") (some (.int r)) := DGet.k (k := Sum.inr "rest") h
theorem pp_at (h : H p = some (.dK (penK q a r))) : DPut H p (.str "at") (.int ((a : Int) + 1)) (upd H p (.dK (penK q (a + 1) r))) := DPut.k (k := Sum.inr "at") h (by show 3 < sizeLine; decide)
theorem pp_rest (h : H p = some (.dK (penK q a r))) : DPut H p (.str "rest") (.int x) (upd H p (.dK (penK q a x))) := DPut.k (k := Sum.inr "rest") h (by show 3 < sizeLine; decide)
end
theorem Kp.wr {p l : Addr} {H H' : Hp} {o : HO} (k : Kp p H H') (h : H l = none) : Kp p H (upd H' l o) := fun b u e n => by
  rw [upd_ne (ne_of_none e h)]
  exact k b u e n
theorem Bag.at_ {H : Hp} {p q : Addr} {N : Nat} (h : Bag H p q N) : ∃ kvs xs, H p = some (.dK kvs) ∧ H q = some (.lst xs) :=
  let ⟨_, _, _, a, b, _⟩ := h.ex
  ⟨_, _, a, b⟩
theorem Bag.mono {H : Hp} {p q : Addr} {N M : Nat} (h : Bag H p q N) (l : N ≤ M) : Bag H p q M :=
  let ⟨ns, a, r, h1, h2, h3, h4, h5⟩ := h.ex
  ⟨ns, a, r, h1, h2, h3, by omega, h5⟩
theorem Bag.keep {H H' : Hp} {p q : Addr} {N : Nat} (h : Bag H p q N) (hp : H' p = H p) (hq : H' q = H q) : Bag H' p q N :=
  let ⟨ns, a, r, h1, h2, z⟩ := h.ex
  ⟨ns, a, r, hp.trans h1, hq.trans h2, z⟩
theorem Bag.same {H H' : Hp} {p q : Addr} {N : Nat} (s : Same H H') (h : Bag H p q N) : Bag H' p q N :=
  let ⟨ns, a, r, h1, h2, z⟩ := h.ex
  ⟨ns, a, r, s _ _ h1, s _ _ h2, z⟩
theorem Bag.wr {H : Hp} {p q l : Addr} {N : Nat} {o : HO} (h : Bag H p q N) (h1 : l ≠ p) (h2 : l ≠ q) : Bag (upd H l o) p q N := h.keep (upd_ne h1.symm) (upd_ne h2.symm)
theorem lay_ints : ∀ ns : List Int, PyData.canLayAll0 (ns.map PyData.int) = true
  | [] => rfl
  | _ :: ns => lay_ints ns
theorem dep_ints : ∀ ns : List Int, PyData.depthAll (ns.map PyData.int) = 0
  | [] => rfl
  | _ :: ns => by
    show max 0 (PyData.depthAll (ns.map PyData.int)) = 0
    rw [dep_ints ns] <;> rfl
theorem sh_ints (ns : List Int) : SeqAt.shaped (.list (ns.map PyData.int)) = true := by
  unfold SeqAt.shaped
  rw [Bool.and_eq_true, decide_eq_true_eq]
  refine ⟨lay_ints ns, ?_⟩
  show PyData.depthAll (ns.map PyData.int) + 1 ≤ 64
  rw [dep_ints] <;> decide
theorem dpa_ints {K : PySem.W.Frag} {H : Hp} : ∀ ns : List Int, DpAll K H (ns.map V.int) (ns.map PyData.int)
  | [] => .nil
  | n :: ns => .cons (.int n) (dpa_ints ns)
theorem eqv_ints : ∀ a b : List Int, PyData.eqvAll (a.map PyData.int) (b.map PyData.int) = decide (a = b)
  | [], [] => rfl
  | [], _ :: _ => rfl
  | _ :: _, [] => rfl
  | x :: a, y :: b => by
    show (PyData.eqv (.int x) (.int y) && PyData.eqvAll (a.map PyData.int) (b.map PyData.int)) = _
    rw [eqv_ints a b, show PyData.eqv (.int x) (.int y) = (x == y) from rfl, Bool.eq_iff_iff]
    simp
section
variable {P : Program} {w : World} {K : PySem.W.Frag} {mg : Str → Option Value} {base : Heap}
def spBag (K : PySem.W.Frag) : Sp := fun vs H Q _ => ∃ (a : Addr) (ns : List Int), vs = [.ref a] ∧ SqL K H a (ns.map V.int) ∧ ∀ p q H', Same H H' → H p = none → Bag H' p q 0 → Q (.ref p) H'
theorem c__law_pen (T : Txt K mg) : Cal P w K mg base 1 "_law_pen" (spBag K) [] := by
  refine calN T.d__law_pen sc__law_pen (fun vs H Q E h => ?_) (fun _ _ _ _ _ _ us hl => match us, hl with | [_], _ => rfl) (fun f cdv A outer s H vs Q E hr h => ?_)
  · obtain ⟨a, ns, rfl, _⟩ := h
    rfl
  · obtain ⟨a, ns, rfl, hS, k⟩ := h
    refine ⟨_, (pss_one (ps_ret (pe_disp (pps_cons pe_str (pe_lc (own := [("_law_cell", 1)]) (g := gName 1) rfl sc__law_pen.nd (pi_listK K (pe_slice sl_list (pv 0) po_none (po_some pe_int))) (blkOk_by (own := [("_law_cell", 1)]) (N := ["_law_script", "_law_cell"]) (sc := defScope s__law_pen) (by decide +kernel)) (fun _ _ _ _ _ => (pg_name (i := 1) sc__law_pen.nd rfl (Or.inl rfl))) (fun _ _ _ _ _ => pts_nil) (fun _ _ _ _ _ => (pe_callTy call_int1 (by rfl) T.b_int (by decide +kernel) (pa_cons (pv 1) pa_nil)))) (pps_cons pe_str pe_int (pps_cons pe_str pe_int pps_nil))) rfl rfl (List.cons_ne_nil _ _) (by decide)))), ?_⟩
    walk_at "g"
    intro p np
    walk_at "g"
    have s1 := same_upd (o := .dK []) np
    obtain ⟨ms, em, m63⟩ : ∃ ms : List Int, cutV (ns.map V.int) none (some 63) = ms.map V.int ∧ ms.length ≤ 63 := by
      refine ⟨(ns.drop (HT.sIx ns.length 0 none)).take (HT.sIx ns.length ns.length (some 63) - HT.sIx ns.length 0 none), ?_, ?_⟩
      · unfold cutV
        rw [List.length_map, List.map_take, List.map_drop]
      · rw [List.length_take]
        have : HT.sIx ns.length ns.length (some 63) ≤ 63 := by
          have := HT.sIx_nat ns.length ns.length 63
          rw [show (some 63 : Option Int) = some ((63 : Nat) : Int) from rfl, this]
          exact Nat.min_le_left _ _
        omega
    refine ⟨a, _, rfl, s1.seq hS, fun sl nsl => ?_⟩
    rw [em]
    have s2 := same_upd (o := .lst (ms.map V.int)) nsl
    refine ⟨sl, rfl, ⟨_, SqL.of upd_same⟩, fun D nD => ?_⟩
    refine lc_vals (xs := []) (cs := ms) (fun _ => true) V.int (fun y c H => y = .int c) (fun y c H H' acc _ _ e => e) nD (SqL.of upd_same) (by omega) (fun _ => rfl) (fun c _ H Q _ q => q H (Same.refl H)) ?_ ?_
    · intro c _ _ H3 Q3 s3 q
      walk_at "g"
      refine .inl ⟨_, rfl, ?_⟩
      exact q _ _ (Same.refl _) rfl
    · intro ys H3 s3 hD3 py
      rw [filter_all] at py
      obtain rfl := P2.eq_map (g := V.int) py
      have hp3 := s3 _ _ (s2 _ _ (upd_same (H := H) (a := p) (o := .dK [])))
      have np3 : p ≠ D := ne_of hp3 hD3 (by intro z; cases z)
      walk_at "g"
      refine ⟨hp3, penK D 0 0, rfl, by show 3 ≤ 15; decide, ?_⟩
      refine k p D _ (((s1.trans s2).trans s3).wr np) np ⟨ms, 0, 0, upd_same, ?_, m63, Nat.le_refl _, Int.le_refl _⟩
      rw [upd_ne np3.symm]
      exact hD3
def spDraw : Sp := fun vs H Q _ => ∃ (p q : Addr) (lim : Int) (N : Nat), vs = [.ref p, .int lim] ∧ Bag H p q N ∧ N < 1000000 ∧ 0 < lim ∧ Bd 8000 lim ∧ ∀ v H', Kp p H H' → Bag H' p q (N + 1) → 0 ≤ v → v < lim → Q (.int v) H'
theorem c__law_draw (T : Txt K mg) : Cal P w K mg base 1 "_law_draw" spDraw [] := by
  refine calN T.d__law_draw sc__law_draw (fun vs H Q E h => ?_) (fun _ _ _ _ _ _ us hl => match us, hl with | [_, _], _ => rfl) (fun f cdv A outer s H vs Q E hr h => ?_)
  · obtain ⟨p, q, lim, N, rfl, _⟩ := h
    rfl
  · obtain ⟨p, q, lim, N, rfl, ⟨ns, a, r, hp, hq, n63, hN1, r0⟩, hN, l0, lB, k⟩ := h
    have nqp : q ≠ p := ne_of hq hp (by intro z; cases z)
    refine ⟨_, (pss_cons (ps_if (pt_cmpR op_gt (pe_dget (hu_of hr) (pv 0) pe_str (fun _ _ => rfl)) pe_int (nomark _)) (pss_cons (ps_set (i := 2) sc__law_draw.nd rfl (Or.inl rfl) (pe_op op_mod (pe_callTy call_int1 (by rfl) T.b_int (by decide +kernel) (pa_cons (pe_dget (hu_of hr) (pv 0) pe_str (fun _ _ => rfl)) pa_nil)) (pv 1)))
      (pss_cons (ps_dput (hu_of hr) (pv 0) pe_str (pe_op op_fdivW (pe_dget (hu_of hr) (pv 0) pe_str (fun _ _ => rfl)) (pv 1)) rfl)
      (pss_one (ps_ret (pv 2))))) pss_nil)
      (pss_cons (ps_set (i := 3) sc__law_draw.nd rfl (Or.inl rfl) (pe_dget (hu_of hr) (pv 0) pe_str (fun _ _ => rfl)))
      (pss_cons (ps_dput (hu_of hr) (pv 0) pe_str (pe_op op_add (pv 3) pe_int) rfl)
      (pss_cons (ps_set (i := 4) sc__law_draw.nd rfl (Or.inl rfl) (pe_op op_add (pe_op op_mul pe_int (pv 3)) pe_int))
      (C8.pss_cut (ps_if (pt_cmpR (op_neD (units_of hr)) (pe_dget (hu_of hr) (pv 0) pe_str (fun _ _ => rfl)) (pe_lst pa_nil) (nomark _)) (pss_one (ps_set (i := 4) sc__law_draw.nd rfl (Or.inl rfl) (pe_ix ix_list (pe_dget (hu_of hr) (pv 0) pe_str (fun _ _ => rfl)) (pe_op op_mod (pe_callTy call_int1 (by rfl) T.b_int (by decide +kernel) (pa_cons (pv 3) pa_nil)) (pe_callB call_len (by rfl) T.b_len (by decide +kernel) (pa_cons (pe_dget (hu_of hr) (pv 0) pe_str (fun _ _ => rfl)) pa_nil))) (fun _ _ => rfl)))) pss_nil)
      (C8.pss_cut (ps_if (PW.pt (pw_and (pt_cmpR op_lt (pv 3) (pe_callB call_len (by rfl) T.b_len (by decide +kernel) (pa_cons (pe_dget (hu_of hr) (pv 0) pe_str (fun _ _ => rfl)) pa_nil)) (nomark _)) (pw_and1 (pt_cmpR op_ge (pv 4) (pe_op op_pow pe_int pe_int) (nomark _))))) (pss_cons (ps_dput (hu_of hr) (pv 0) pe_str (pe_op op_fdivW (pe_op op_sub (pv 4) (pe_op op_pow pe_int pe_int)) (pv 1)) rfl)
      (pss_one (ps_ret (pe_op op_mod (pe_callTy call_int1 (by rfl) T.b_int (by decide +kernel) (pa_cons (pe_op op_sub (pv 4) (pe_op op_pow pe_int pe_int)) pa_nil)) (pv 1))))) pss_nil)
      (pss_cons (ps_set (i := 5) sc__law_draw.nd rfl (Or.inl rfl) (pe_op op_add (pe_op op_add (pe_op op_add (pe_op op_mul (pe_op op_mod (pe_callTy call_int1 (by rfl) T.b_int (by decide +kernel) (pa_cons (pv 4) pa_nil)) pe_int) pe_int) (pe_op op_mul (pe_op op_mul pe_int (pv 3)) (pv 3))) (pe_op op_mul pe_int (pv 3))) pe_int))
      (pss_cons (ps_set (i := 5) sc__law_draw.nd rfl (Or.inl rfl) (pe_op op_mod (pe_callTy call_int1 (by rfl) T.b_int (by decide +kernel) (pa_cons (pv 5) pa_nil)) pe_int))
      (pss_cons (ps_set (i := 5) sc__law_draw.nd rfl (Or.inl rfl) (pe_op op_mod (pe_callTy call_int1 (by rfl) T.b_int (by decide +kernel) (pa_cons (pe_op op_mul (pv 5) (pe_op op_add (pv 5) pe_int)) pa_nil)) pe_int))
      (pss_one (ps_ret (pe_op op_mod (pe_callTy call_int1 (by rfl) T.b_int (by decide +kernel) (pa_cons (pe_op op_fdivW (pe_op op_mod (pe_callTy call_int1 (by rfl) T.b_int (by decide +kernel) (pa_cons (pe_op op_mul (pv 5) (pv 5)) pa_nil)) pe_int) pe_int) pa_nil)) (pv 1))))))))))))), ?_⟩
    walk_at "g"
    refine ⟨p, _, rfl, pg_rest hp, ?_⟩
    walk_at "g"
    refine iteB (fun c1 => ?_) (fun c1 => ?_)
    · walk_at "g"
      refine ⟨p, _, rfl, pg_rest hp, ?_⟩
      refine .inl ⟨_, rfl, ?_⟩
      walk_at "g"
      refine ⟨l0, ?_⟩
      walk_at "g"
      refine ⟨p, _, rfl, pg_rest hp, ?_⟩
      walk_at "g"
      refine ⟨cdivw l0 lB (by omega), ?_⟩
      walk_at "g"
      refine ⟨p, _, rfl, pp_rest hp, ?_⟩
      walk_at "g"
      exact k _ _ (kp_upd p H _) ⟨ns, a, _, upd_same, by rw [upd_ne nqp]; exact hq, n63, by omega, Int.ediv_nonneg r0 (Int.le_of_lt l0)⟩ (Int.emod_nonneg _ (by omega)) (Int.emod_lt_of_pos _ l0)
    · walk_at "g"
      refine ⟨p, _, rfl, pg_at hp, ?_⟩
      walk_at "g"
      refine ⟨p, _, rfl, pp_at hp, ?_⟩
      have kp1 := kp_upd p H (.dK (penK q (a + 1) r))
      have hp1 : upd H p (.dK (penK q (a + 1) r)) p = some (.dK (penK q (a + 1) r)) := upd_same
      have hq1 := kp1 _ _ hq nqp
      generalize upd H p (.dK (penK q (a + 1) r)) = H1 at *
      walk_at "g"
      refine ⟨.inl ⟨by decide, by decide⟩, ?_⟩
      walk_at "g"
      refine ⟨fun σ' H2 => ∃ (ce : Int) (v2 : Option V), σ' = [some (.ref p), some (.int lim), v2, some (.int a), some (.int ce), none] ∧ Kp p H H2 ∧ H2 p = some (.dK (penK q (a + 1) r)) ∧ H2 q = some (.lst (ns.map V.int)), ?_, ?_⟩
      · walk_at "g"
        refine ⟨p, _, rfl, pg_cells hp1, ?_⟩
        walk_at "g"
        refine ⟨by show 0 ≤ sizeLine; decide, fun e ne => ?_⟩
        have s2 := same_upd (o := .lst []) ne
        refine ⟨.list (ns.map PyData.int), .list [], .lst (SqL.of (s2 _ _ hq1)) (dpa_ints ns), .lst (SqL.of upd_same) .nil, sh_ints ns, sh_ints [], ?_⟩
        rw [show PyData.eqv (.list (ns.map PyData.int)) (.list []) = decide (ns = []) from eqv_ints ns []]
        walk_at "g"
        cases hns : ns with
        | nil =>
          first | refine iteF ?_ | skip
          exact ⟨_, _, rfl, kp1.trans s2.kp, s2 _ _ hp1, by rw [← hns]; exact s2 _ _ hq1⟩
        | cons n0 ms =>
          rw [← hns]
          have np : 0 < ns.length := by rw [hns]; simp
          have ne0 : (!decide (ns = [])) = true := by rw [hns]; rfl
          clear hns
          rw [ne0]
          first | refine iteT ?_ | skip
          walk_at "g"
          refine ⟨p, _, rfl, pg_cells (s2 _ _ hp1), ?_⟩
          walk_at "g"
          refine .inl ⟨_, rfl, ?_⟩
          walk_at "g"
          refine ⟨p, _, rfl, pg_cells (s2 _ _ hp1), ?_⟩
          refine ⟨_, _, rfl, .inl ⟨_, SqL.of (s2 _ _ hq1), rfl⟩, ?_⟩
          rw [List.length_map]
          walk_at "g"
          refine ⟨by omega, ?_⟩
          have hj : ∃ j : Nat, (a : Int) % (ns.length : Nat) = (j : Int) ∧ j < ns.length := ⟨a % ns.length, by omega, Nat.mod_lt _ np⟩
          obtain ⟨j, ej, hj⟩ := hj
          refine ⟨q, _, (j : Int), .int ns[j], rfl, by rw [← ej], SqL.of (s2 _ _ hq1), atI_nat (j := j) (by rw [List.getElem?_map, List.getElem?_eq_getElem hj] <;> rfl), ?_⟩
          exact ⟨_, _, rfl, kp1.trans s2.kp, s2 _ _ hp1, s2 _ _ hq1⟩
      · rintro σ' H2 ⟨ce, v2, rfl, kp2, hp2, hq2⟩
        have hN2 : a < 1000000 := by omega
        refine ⟨fun σ' H3 => H3 = H2 ∧ σ' = [some (.ref p), some (.int lim), v2, some (.int a), some (.int ce), none], ?_, ?_⟩
        · walk_at "g"
          refine ⟨p, _, rfl, pg_cells hp2, ?_⟩
          refine ⟨_, _, rfl, .inl ⟨_, SqL.of hq2, rfl⟩, ?_⟩
          walk_at "g"
          rw [List.length_map]
          refine iteB (fun c2 => ?_) (fun c2 => ?_)
          · walk_at "g"
            refine ⟨⟨by decide, by decide, by decide⟩, ?_⟩
            walk_at "g"
            refine iteB (fun c3 => ?_) (fun c3 => ?_)
            · have h3 := of_decide_eq_true c3
              walk_at "g"
              refine ⟨⟨by decide, by decide, by decide⟩, ?_⟩
              walk_at "g"
              refine ⟨cdivw l0 lB (by omega), ?_⟩
              walk_at "g"
              refine ⟨p, _, rfl, pp_rest hp2, ?_⟩
              walk_at "g"
              refine ⟨⟨by decide, by decide, by decide⟩, ?_⟩
              walk_at "g"
              refine .inl ⟨_, rfl, ?_⟩
              walk_at "g"
              refine ⟨l0, ?_⟩
              exact k _ _ (kp2.trans (kp_upd p H2 _)) ⟨ns, a + 1, _, upd_same, by rw [upd_ne nqp]; exact hq2, n63, by omega, Int.ediv_nonneg (by omega) (Int.le_of_lt l0)⟩ (Int.emod_nonneg _ (by omega)) (Int.emod_lt_of_pos _ l0)
            · exact ⟨rfl, rfl⟩
          · exact ⟨rfl, rfl⟩
        · rintro σ' H3 ⟨rfl, rfl⟩
          walk_at "g"
          refine .inl ⟨_, rfl, ?_⟩
          walk_at "g"
          refine ⟨by show (0 : Int) < 2147483587; decide, ?_⟩
          walk_at "g"
          refine ⟨.inr ⟨by decide, by decide⟩, ?_⟩
          walk_at "g"
          refine ⟨.inl ⟨by decide, by decide⟩, ?_⟩
          walk_at "g"
          refine ⟨.inl ⟨by omega, by omega⟩, ?_⟩
          walk_at "g"
          refine ⟨.inl ⟨by decide, by decide⟩, ?_⟩
          walk_at "g"
          refine .inl ⟨_, rfl, ?_⟩
          walk_at "g"
          refine ⟨by show (0 : Int) < 2147483629; decide, ?_⟩
          walk_at "g"
          refine ⟨.inl ⟨by omega, by omega⟩, ?_⟩
          walk_at "g"
          refine .inl ⟨_, rfl, ?_⟩
          walk_at "g"
          refine ⟨by show (0 : Int) < 2147483549; decide, ?_⟩
          walk_at "g"
          refine ⟨.inl ⟨by omega, by omega⟩, ?_⟩
          walk_at "g"
          refine .inl ⟨_, rfl, ?_⟩
          walk_at "g"
          refine ⟨by show (0 : Int) < 2147483579; decide, ?_⟩
          walk_at "g"
          refine ⟨⟨by decide, by decide⟩, ?_⟩
          walk_at "g"
          refine .inl ⟨_, rfl, ?_⟩
          walk_at "g"
          refine ⟨l0, ?_⟩
          exact k _ H3 kp2 ⟨ns, a + 1, r, hp2, hq2, n63, by omega, r0⟩ (Int.emod_nonneg _ (by omega)) (Int.emod_lt_of_pos _ l0)
end
end Tr

/-! # What the law's turns are (T2 without the law's own defs). -/
namespace Tr
open PySem L2 TL
/-- steps of a reading that are plain -/
local macro_rules | `(tactic| walk_at "x") => `(tactic| (refine' ⟨_, _, _, _, rfl, rfl, ?k1, ?k2, ?_⟩; (case k1 => exact SqT.of (by assumption)); (case k2 => exact rfl)))
local macro_rules | `(tactic| walk_at "g") => `(tactic| repeat (first | (refine ⟨_, rfl, ?_⟩) | (refine ⟨_, _, rfl, rfl, ?_⟩) | (refine ⟨_, _, rfl, ?_⟩) | (refine ⟨rfl, ?_⟩) | walk_at "x"))


/-! ### the law's turns, exponents, steps -/
def KOk (ks : List SI) : Prop := (∀ (i : Nat) c, ks[i]? = some c → Nm i c.1) ∧ ∀ c ∈ ks, (c.2 = 0 ∨ 2 ≤ c.2) ∧ Bd 140 c.2
theorem KOk.nil : KOk [] := ⟨fun i c h => by simp at h, fun c h => by cases h⟩
theorem KOk.snoc {ks : List SI} {c : SI} (h : KOk ks) (h1 : Nm ks.length c.1) (h2 : (c.2 = 0 ∨ 2 ≤ c.2) ∧ Bd 140 c.2) : KOk (ks ++ [c]) := by
  refine ⟨fun i d hd => ?_, fun d hd => ?_⟩
  · by_cases hi : i < ks.length
    · rw [List.getElem?_append_left hi] at hd
      exact h.1 i d hd
    · rw [List.getElem?_append_right (by omega)] at hd
      have : i - ks.length = 0 := by
        have := (List.getElem?_eq_some_iff.mp hd).1
        simp at this
        omega
      rw [this] at hd
      cases hd
      rw [show i = ks.length by omega]
      exact h1
  · rcases List.mem_append.mp hd with hd | hd
    · exact h.2 d hd
    · rw [List.mem_singleton.mp hd]
      exact h2
theorem sl_snoc {H : Hp} {l u : Addr} {kts : List Addr} {ds : List SI} {c : SI} {xs : List V} {ys : List V} (hl : H l = some (.lst xs)) (pk : P2 (SrT H) kts ds) (hu : SrT H u c) :
    P2 (SrT (upd H l (.lst ys))) (kts ++ [u]) (ds ++ [c]) := by
  have tup : ∀ {u : Addr} {c : SI}, SrT H u c → SrT (upd H l (.lst ys)) u c := fun {u c} e => by
    have n : u ≠ l := ne_of e hl (by intro z; cases z)
    show upd _ _ _ u = _
    rw [upd_ne n]
    exact e
  exact (pk.mono fun _ _ e => tup e).snoc (tup hu)
def StOk (ks ss : List SI) : Prop := ∀ c ∈ ss, (∃ k ∈ ks, k.1 = c.1) ∧ Bd 140 c.2
end Tr

namespace Tr
open PySem L2
/-- steps of a reading that are plain -/
local macro_rules | `(tactic| walk_at "x") => `(tactic| (refine' ⟨_, _, _, _, rfl, rfl, ?k1, ?k2, ?_⟩; (case k1 => exact SqT.of (by assumption)); (case k2 => exact rfl)))
local macro_rules | `(tactic| walk_at "g") => `(tactic| repeat (first | (refine ⟨_, rfl, ?_⟩) | (refine ⟨_, _, rfl, rfl, ?_⟩) | (refine ⟨_, _, rfl, ?_⟩) | (refine ⟨rfl, ?_⟩) | walk_at "x"))


/-! ### is_whole, is_part, Numbers.__init__ -/
section
variable {P : Program} {w : World} {K : PySem.W.Frag} {mg : Str → Option Value} {base : Heap}
def spWhole (K : PySem.W.Frag) : Sp := fun vs H Q _ => ∃ x b, vs = [x] ∧ IsW K H x b ∧ Q (.bl b) H
theorem c_is_whole (T : Txt K mg) : Cal P w K mg base 1 "is_whole" (spWhole K) [] := by
  refine calN T.d_is_whole sc_is_whole (fun vs H Q E h => ?_) (fun _ _ _ _ _ _ us hl => match us, hl with | [_], _ => rfl) (fun f cdv A outer s H vs Q E hr h => ?_)
  · obtain ⟨x, b, rfl, _⟩ := h
    rfl
  · obtain ⟨x, b, rfl, ⟨t, b1, b2, ty, k1, k2, rfl⟩, k⟩ := h
    refine ⟨_, (pss_one (ps_ret (pe_and (pe_callB call_isi (by rfl) T.b_isinstance (by decide +kernel) (pa_cons (pv 0) (pa_cons (pe_bltn (v := .ty "int") rfl T.b_int (by decide +kernel) rfl) pa_nil))) (pe_one (pe_not (pe_callB call_isi (by rfl) T.b_isinstance (by decide +kernel) (pa_cons (pv 0) (pa_cons (pe_bltn (v := .ty "bool") rfl T.b_bool (by decide +kernel) rfl) pa_nil)))))))), ?_⟩
    refine ⟨x, rfl, x, .ty "int", t, _, b1, rfl, .ty "int", ty, k1, b1, rfl, ?_⟩
    cases b1 with
    | false => exact k
    | true =>
      refine ⟨x, rfl, x, .ty "bool", t, _, b2, rfl, .ty "bool", ty, k2, b2, rfl, ?_⟩
      rw [Bool.true_and] at k
      exact k
end
end Tr

namespace Tr
open PySem L2 TL
/-- steps of a reading that are plain -/
local macro_rules | `(tactic| walk_at "x") => `(tactic| (refine' ⟨_, _, _, _, rfl, rfl, ?k1, ?k2, ?_⟩; (case k1 => exact SqT.of (by assumption)); (case k2 => exact rfl)))
local macro_rules | `(tactic| walk_at "g") => `(tactic| repeat (first | (refine ⟨_, rfl, ?_⟩) | (refine ⟨_, _, rfl, rfl, ?_⟩) | (refine ⟨_, _, rfl, ?_⟩) | (refine ⟨rfl, ?_⟩) | walk_at "x"))


/-! ### names -/
instance (c : Nat) : Decidable (isL c) := inferInstanceAs (Decidable (97 ≤ c ∧ c ≤ 122))
instance (c : Nat) : Decidable (isD c) := inferInstanceAs (Decidable (48 ≤ c ∧ c ≤ 57))
def ldB (c : Nat) : Bool := decide (isL c) || decide (isD c)
/-- is this the form of names -/
def nameB (z : Str) : Bool := match tl z with
  | [] => false
  | c :: r => decide (r.length ≤ 11) && (decide (isL c) && (c :: r).all ldB)
theorem nameB_of {z : Str} (h : NmOk z) : nameB z = true := by
  obtain ⟨c, r, e, h1, h2, h3⟩ := h
  unfold nameB
  rw [e]
  show (decide (r.length ≤ 11) && (decide (isL c) && (c :: r).all ldB)) = true
  rw [decide_eq_true h2, decide_eq_true h1, Bool.true_and, Bool.true_and]
  refine List.all_eq_true.mpr fun d hd => ?_
  unfold ldB
  rcases List.mem_cons.mp hd with rfl | hd
  · rw [decide_eq_true h1]; rfl
  · rcases h3 d hd with k | k
    · rw [decide_eq_true k]; rfl
    · rw [decide_eq_true k, Bool.or_true]
theorem tl_digits : tl ("0123456789" : Str) = List.range' 48 10 := by
  rw [tl_ofString]
  decide
theorem in_abc (c : Nat) : decide (c ∈ ("abcdefghijklmnopqrstuvwxyz" : Str).cps.toList) = decide (isL c) := by
  have e : ("abcdefghijklmnopqrstuvwxyz" : Str).cps.toList = List.range' 97 26 := tl_abc
  rw [e]
  refine decide_eq_decide.mpr ?_
  rw [List.mem_range'_1]
  unfold isL
  omega
theorem in_dig (c : Nat) : decide (c ∈ ("0123456789" : Str).cps.toList) = decide (isD c) := by
  have e : ("0123456789" : Str).cps.toList = List.range' 48 10 := tl_digits
  rw [e]
  refine decide_eq_decide.mpr ?_
  rw [List.mem_range'_1]
  unfold isD
  omega
section
variable {P : Program} {w : World} {K : PySem.W.Frag} {mg : Str → Option Value} {base : Heap}
def spName (K : PySem.W.Frag) : Sp := fun vs H Q _ => ∃ x, vs = [x] ∧ ((∃ z, x = .str z ∧ z.length ≤ 100000 ∧ ∀ H', Same H H' → Q (.bl (nameB z)) H') ∨ (∃ t, TyX K H x t ∧ PySem.W.kitOne K t (.type "str") = some false ∧ Q (.bl false) H))
theorem c_is_name (T : Txt K mg) : Cal P w K mg base 1 "is_name" (spName K) [] := by
  refine calN T.d_is_name sc_is_name (fun vs H Q E h => ?_) (fun _ _ _ _ _ _ us hl => match us, hl with | [_], _ => rfl) (fun f cdv A outer s H vs Q E hr h => ?_)
  · obtain ⟨x, rfl, _⟩ := h
    rfl
  · obtain ⟨x, rfl, h⟩ := h
    refine ⟨_, (pss_cons (ps_if (PW.pt (pw_or (pt_not (pt_val (pe_callB call_isi (by rfl) T.b_isinstance (by decide +kernel) (pa_cons (pv 0) (pa_cons (pe_bltn (v := .ty "str") rfl T.b_str (by decide +kernel) rfl) pa_nil))))) (pw_or (pt_not (pt_chain op_le op_le pe_int (pe_callB call_len (by rfl) T.b_len (by decide +kernel) (pa_cons (pv 0) pa_nil)) (pe_gcon T.c_LONGEST_NAME (by rfl)))) (pw_or1 (pt_cmpR op_notIn_sign (pe_ix ix_str (pv 0) pe_int (fun _ _ => rfl)) (pe_gcon T.c_LETTERS (by rfl)) (by rfl)))))) (pss_one (ps_ret pe_bl)) pss_nil)
      (pss_one (ps_ret (pe_callB (cr_all rfl) (by rfl) T.b_all (by decide +kernel) (pa_cons (pe_lc (own := [("sign", 1)]) (g := gName 1) rfl sc_is_name.nd (pi_str (pv 0)) (blkOk_by (own := [("sign", 1)]) (N := ["value", "sign"]) (sc := defScope s_is_name) (by decide +kernel)) (fun _ _ _ _ _ => (pg_name (i := 1) sc_is_name.nd rfl (Or.inl rfl))) (fun _ _ _ _ _ => pts_nil) (fun _ _ _ _ _ => (pe_or (pe_cmpR op_in_sign (pv 1) (pe_gcon T.c_LETTERS (by rfl)) (by rfl)) (pe_one (pe_cmpR op_in_sign (pv 1) (pe_gcon T.c_DIGITS (by rfl)) (by rfl)))))) pa_nil))))), ?_⟩
    rcases h with ⟨z, rfl, hz, k⟩ | ⟨t, ty, kt, k⟩
    · have hz2 : z.length ≤ sizeLine := Nat.le_trans hz (by decide)
      have hl : z.length = (tl z).length := len_tl z
      refine ⟨.str z, rfl, .str z, .ty "str", .type "str", _, true, rfl, .ty "str", .base (.str z), kit_ty (by decide +kernel), true, rfl, ?_⟩
      refine iteF ?_
      walk_at "g"
      refine ⟨_, z.length, rfl, ⟨hz2, rfl⟩, ?_⟩
      walk_at "g"
      have nf : (∀ c r, tl z = c :: r → (decide (r.length ≤ 11) && (decide (isL c) && (c :: r).all ldB)) = false) → nameB z = false := fun h => by
        unfold nameB
        cases e : tl z with
        | nil => rfl
        | cons c r => exact h c r e
      have kf : nameB z = false → Q (.bl false) H := fun e => by
        have := k H (Same.refl H)
        rwa [e] at this
      refine iteB (fun c1 => ?_) (fun c1 => ?_)
      · walk_at "g"
        refine iteB (fun c2 => ?_) (fun c2 => ?_)
        · refine iteT ?_
          refine kf (nf fun c r e => ?_)
          have hl2 : ¬ r.length ≤ 11 := by
            rw [e, List.length_cons] at hl
            simp at c2
            omega
          rw [decide_eq_false hl2]
          rfl
        · have hl2 : z.length ≤ 12 := by
            simp at c2
            omega
          cases e : tl z with
          | nil =>
            rw [e] at hl
            simp at c1
            simp at hl
            omega
          | cons c r =>
            have hr2 : r.length ≤ 11 := by
              rw [e, List.length_cons] at hl
              omega
            have nv : nameB z = (decide (isL c) && (c :: r).all ldB) := by
              unfold nameB
              rw [e]
              show (decide (r.length ≤ 11) && _) = _
              rw [decide_eq_true hr2, Bool.true_and]
            walk_at "g"
            refine ⟨z, 0, c, rfl, rfl, hz2, (by show atI (tl z) ((0 : Nat) : Int) = _; rw [e]; exact atI_nat (j := 0) rfl), ?_⟩
            walk_at "g"
            rw [in_abc]
            refine iteB (fun c3 => ?_) (fun c3 => ?_)
            · refine kf ?_
              have : decide (isL c) = false := by simpa using c3
              rw [nv, this, Bool.false_and]
            · have c4 : decide (isL c) = true := by simpa using c3
              walk_at "g"
              refine fun D nD => ?_
              refine lc_gen walk_txt (cs := tl z) (fun c => [some (.str z), some (.str ⟨#[c]⟩)]) (fun _ => true) (fun y c _ => y = .bl (ldB c)) (fun _ _ _ _ _ _ _ e => e) nD (by omega) (fun _ _ => trivial) ?_ (fun _ _ => rfl) (fun c _ H Q _ q => q H (Same.refl H)) ?_ ?_
              · rintro i H2 x H3 c hc s2 ⟨rfl, d, hd, rfl⟩
                rw [hc] at hd
                cases hd
                exact ⟨Same.refl _, fun Q q => q⟩
              · intro d hd _ H2 Q2 s2 q
                walk_at "g"
                rw [in_abc]
                refine iteB (fun c5 => ?_) (fun c5 => ?_)
                · refine q _ _ (Same.refl _) ?_
                  unfold ldB
                  rw [c5, Bool.true_or]
                · walk_at "g"
                  rw [in_dig]
                  refine q _ _ (Same.refl _) ?_
                  unfold ldB
                  rw [c5, Bool.false_or]
              · intro ys H2 s2 hD2 py
                rw [filter_all] at py
                have ey := py.eq_map
                walk_at "g"
                refine ⟨D, (tl z).map ldB, rfl, SqL.of (by rw [hD2, ey, List.map_map]; rfl), ?_⟩
                have := k H2 s2
                rw [nv, c4, Bool.true_and, ← e] at this
                have e2 : ((tl z).map ldB).all id = (tl z).all ldB := by rw [List.all_map]; rfl
                rw [e2]
                exact this
      · walk_at "g"
        refine iteT ?_
        refine kf (nf fun c r e => ?_)
        rw [e, List.length_cons] at hl
        simp at c1
        omega
    · refine ⟨x, rfl, x, .ty "str", t, _, false, rfl, .ty "str", ty, kt, false, rfl, ?_⟩
      refine iteT ?_
      exact k
end
end Tr

namespace Tr
open PySem L2 TL
/-- steps of a reading that are plain -/
local macro_rules | `(tactic| walk_at "x") => `(tactic| (refine' ⟨_, _, _, _, rfl, rfl, ?k1, ?k2, ?_⟩; (case k1 => exact SqT.of (by assumption)); (case k2 => exact rfl)))
local macro_rules | `(tactic| walk_at "g") => `(tactic| repeat (first | (refine ⟨_, rfl, ?_⟩) | (refine ⟨_, _, rfl, rfl, ?_⟩) | (refine ⟨_, _, rfl, ?_⟩) | (refine ⟨rfl, ?_⟩) | walk_at "x"))


/-! ### Turns -/
def rdic : Nat → List SI → List (Key × V)
  | _, [] => []
  | i, c :: cs => (.inr c.1, .int (i : Nat)) :: rdic (i + 1) cs
theorem rdic_snoc : ∀ (i : Nat) (ks : List SI) (c : SI), rdic i (ks ++ [c]) = rdic i ks ++ [(.inr c.1, .int ((i + ks.length : Nat) : Int))]
  | i, [], c => by rw [List.length_nil, Nat.add_zero]; rfl
  | i, d :: ds, c => by
    show _ :: rdic (i + 1) (ds ++ [c]) = _ :: (rdic (i + 1) ds ++ _)
    rw [rdic_snoc (i + 1) ds c, List.length_cons, show i + 1 + ds.length = i + (ds.length + 1) by omega]
theorem rdic_len : ∀ (i : Nat) (ks : List SI), (rdic i ks).length = ks.length
  | _, [] => rfl
  | i, c :: cs => by show (rdic (i + 1) cs).length + 1 = _; rw [rdic_len (i + 1) cs]; rfl
/-- the place of a name -/
def rankS (ks : List SI) (z : Str) : Nat := ks.findIdx fun c => decide (c.1 = z)
theorem valV_rdic (z : Str) : ∀ (i : Nat) (ks : List SI), (∃ k ∈ ks, k.1 = z) → valV (rdic i ks) (.inr z) = some (.int ((i + rankS ks z : Nat) : Int))
  | i, [], h => by obtain ⟨k, hk, _⟩ := h; cases hk
  | i, c :: cs, h => by
    by_cases e : c.1 = z
    · have e2 : rankS (c :: cs) z = 0 := by
        unfold rankS
        rw [List.findIdx_cons, decide_eq_true e]
        rfl
      rw [e2]
      exact valV_pos (p := ((.inr c.1 : Key), V.int (i : Nat))) (congrArg Sum.inr e)
    · have e2 : rankS (c :: cs) z = rankS cs z + 1 := by
        unfold rankS
        rw [List.findIdx_cons, decide_eq_false e]
        rfl
      have h2 : ∃ k ∈ cs, k.1 = z := by
        obtain ⟨k, hk, ek⟩ := h
        rcases List.mem_cons.mp hk with rfl | hk
        · exact (e ek).elim
        · exact ⟨k, hk, ek⟩
      have ih := valV_rdic z (i + 1) cs h2
      rw [e2, show i + (rankS cs z + 1) = i + 1 + rankS cs z by omega, ← ih]
      exact valV_neg (p := ((.inr c.1 : Key), V.int (i : Nat))) (fun w => e (Sum.inr.inj w))
theorem lookS_none {ks : List SI} {z : Str} (h : ∀ k ∈ ks, k.1 ≠ z) : lookS ks z = none := by
  unfold lookS
  rw [List.find?_eq_none.mpr fun k hk => by simpa using h k hk]
  rfl
theorem putK_new {kvs : List (Key × V)} {k : Key} {v : V} (h : ∀ q ∈ kvs, q.1 ≠ k) : putK kvs k v = kvs ++ [(k, v)] := by
  unfold putK
  rw [if_neg]
  intro z
  obtain ⟨q, hq, e⟩ := List.any_eq_true.mp z
  exact h q hq (of_decide_eq_true e)
theorem kdic_put {ks : List SI} {c : SI} (h : ∀ k ∈ ks, k.1 ≠ c.1) : putK (kdic ks) (.inr c.1) (.int c.2) = kdic (ks ++ [c]) := by
  rw [putK_new]
  · unfold kdic
    rw [List.map_append]
    rfl
  · intro q hq
    obtain ⟨d, hd, rfl⟩ := List.mem_map.mp hq
    exact fun e => h d hd (Sum.inr.inj e)
theorem rdic_mem : ∀ (i : Nat) (ks : List SI), ∀ q ∈ rdic i ks, ∃ d ∈ ks, q.1 = .inr d.1
  | _, [], q, h => by cases h
  | i, c :: cs, q, h => by
    rcases List.mem_cons.mp h with rfl | h
    · exact ⟨c, List.mem_cons_self, rfl⟩
    · obtain ⟨d, hd, e⟩ := rdic_mem (i + 1) cs q h
      exact ⟨d, List.mem_cons_of_mem _ hd, e⟩
theorem rdic_put {ks : List SI} {c : SI} (h : ∀ k ∈ ks, k.1 ≠ c.1) : putK (rdic 0 ks) (.inr c.1) (.int (ks.length : Nat)) = rdic 0 (ks ++ [c]) := by
  rw [putK_new, rdic_snoc, Nat.zero_add]
  intro q hq
  obtain ⟨d, hd, e⟩ := rdic_mem 0 ks q hq
  rw [e]
  exact fun e2 => h d hd (Sum.inr.inj e2)
/-- turns that may be declared -/
structure KsOk (ks : List SI) : Prop where
  n0 : 0 < ks.length
  n8 : ks.length ≤ 8
  nd : Nds ks
  ok : ∀ c ∈ ks, NmOk c.1 ∧ (c.2 = 0 ∨ 2 ≤ c.2)
theorem KOk.ks {ks : List SI} (h : KOk ks) (n0 : 0 < ks.length) (n8 : ks.length ≤ 8) : KsOk ks := by
  refine ⟨n0, n8, ?_, fun c hc => ?_⟩
  · unfold Nds
    rw [List.nodup_iff_pairwise_ne, List.pairwise_map, List.pairwise_iff_getElem]
    intro i j hi hj hij e
    have h1 := h.1 i _ (List.getElem?_eq_getElem hi)
    have h2 := h.1 j _ (List.getElem?_eq_getElem hj)
    rw [e] at h1
    have := h1.inj h2
    omega
  · obtain ⟨i, hi, e⟩ := List.getElem_of_mem hc
    have h1 := h.1 i c (by rw [← e]; exact List.getElem?_eq_getElem hi)
    exact ⟨h1.1, (h.2 c hc).1⟩
theorem NmOk.strOk {z : Str} (h : NmOk z) : PyData.strOk z = true := by
  obtain ⟨c, r, e, h1, h2, h3⟩ := h
  unfold PyData.strOk
  rw [Array.all_eq_true_iff_forall_mem]
  intro d hd
  have hd2 : d ∈ tl z := by simpa [tl] using hd
  rw [e] at hd2
  rw [decide_eq_true_eq]
  unfold isL at h1
  rcases List.mem_cons.mp hd2 with rfl | hd2
  · omega
  · rcases h3 d hd2 with k | k
    · unfold isL at k; omega
    · unfold isD at k; omega
def tflds (p1 p2 p3 p4 : Addr) : List (Str × V) := [("pairs", .ref p1), ("names", .ref p2), ("periods", .ref p3), ("ranks", .ref p4)]
/-- turns stand at a -/
structure TuAt (C : Addr) (H : Hp) (a : Addr) (ks : List SI) : Prop where
  ex : ∃ dx p1 p2 p3 p4, H a = some (.ins C dx (tflds p1 p2 p3 p4)) ∧ ST H p1 ks ∧ H p2 = some (.tup (ks.map fun c => V.str c.1)) ∧ H p3 = some (.dK (kdic ks)) ∧ H p4 = some (.dK (rdic 0 ks))
theorem TuAt.same {C : Addr} {H H' : Hp} {a : Addr} {ks : List SI} (s : Same H H') (h : TuAt C H a ks) : TuAt C H' a ks :=
  let ⟨dx, p1, p2, p3, p4, e0, e1, e2, e3, e4⟩ := h.ex
  ⟨dx, p1, p2, p3, p4, s _ _ e0, e1.same s, s _ _ e2, s _ _ e3, s _ _ e4⟩
/-- the turns' own dicts are not at p -/
def TuNe (H : Hp) (a p : Addr) : Prop := ∀ C dx p1 p2 p3 p4, H a = some (.ins C dx (tflds p1 p2 p3 p4)) → p3 ≠ p ∧ p4 ≠ p
theorem TuNe.to {C : Addr} {H H' : Hp} {a p : Addr} {ks : List SI} (h : TuNe H a p) (hT : TuAt C H a ks) (k : ∀ o, H a = some o → H' a = some o) : TuNe H' a p := by
  obtain ⟨dx, p1, p2, p3, p4, e0, _⟩ := hT.ex
  intro C' dx' q1 q2 q3 q4 e
  rw [k _ e0] at e
  cases e
  exact h _ _ _ _ _ _ e0
theorem TuAt.kpB {C p a : Addr} {H H' : Hp} {kvs : List (Key × V)} {ks : List SI} (h : TuAt C H a ks) (ne : TuNe H a p) (kp : Kp p H H') (hp : H p = some (.dK kvs)) : TuAt C H' a ks := by
  obtain ⟨dt, p1, p2, p3, p4, e0, ⟨ts, a1, b1⟩, e2, e3, e4⟩ := h.ex
  obtain ⟨n3, n4⟩ := ne _ _ _ _ _ _ e0
  exact ⟨dt, p1, p2, p3, p4, kp _ _ e0 (ne_of e0 hp (by intro z; cases z)), ⟨ts, kp _ _ a1 (ne_of a1 hp (by intro z; cases z)), b1.mono fun _ _ e => kp _ _ e (ne_of e hp (by intro z; cases z))⟩,
    kp _ _ e2 (ne_of e2 hp (by intro z; cases z)), kp _ _ e3 n3, kp _ _ e4 n4⟩
theorem TuNe.kpB {C p a : Addr} {H H' : Hp} {kvs : List (Key × V)} {ks : List SI} (h : TuNe H a p) (hT : TuAt C H a ks) (kp : Kp p H H') (hp : H p = some (.dK kvs)) : TuNe H' a p :=
  h.to hT fun o e => kp _ _ e (by
    obtain ⟨dx, p1, p2, p3, p4, e0, _⟩ := hT.ex
    exact ne_of e0 hp (by intro z; cases z))
section
variable {P : Program} {w : World} {K : PySem.W.Frag} {mg : Str → Option Value} {base : Heap}
def spTurns (C : Addr) : Sp := fun vs H Q _ => ∃ (x dx p : Addr) (ks : List SI), vs = [.ref x, .ref p] ∧ H x = some (.ins C dx []) ∧ SL H p ks ∧ KsOk ks ∧
  ∀ (H' : Hp), Kp x H H' → TuAt C H' x ks → (∀ b o, H b = some o → TuNe H' x b) → Q .non H'
theorem m_Turns (T : Txt K mg) : Mak P w K mg base 2 "Turns" (He.ga K "Turns") (spTurns (He.ga K "Turns")) [] := by
  have c_is_name := @c_is_name P w K mg base T
  have c_is_whole := @c_is_whole P w K mg base T
  refine makN T.i_Turns sc_Turns___init__ (fun vs H Q E h => ?_) (fun dvs f fd hl F => by
    cases dvs with
    | nil => exact (funD0 F).binds fun _ _ _ _ _ _ us hl => match us, hl with | [_, _], _ => rfl
    | cons _ _ => cases hl) (fun f cdv A outer s H vs Q E hr h => ?_)
  · obtain ⟨x, dx, p, ks, rfl, _⟩ := h
    rfl
  · obtain ⟨x, dx, p, ks, rfl, hx, hP, hk, k⟩ := h
    refine ⟨_, (pss_cons (ps_setLc (i := 2) (own := [("name", 5), ("period", 6)]) (g := gTup K 2 (gCons (gName 5) (gCons (gName 6) gNil))) rfl sc_Turns___init__.nd rfl rfl (sw_true rfl rfl rfl (by decide +kernel)) (pi_listK K (pv 1)) (blkOk_by (own := [("name", 5), ("period", 6)]) (N := ["self", "pairs", "told", "periods", "ranks", "name", "period"]) (sc := defScope s_Turns___init__) (by decide +kernel)) (fun _ _ _ _ _ => (pg_tup rfl (pgs_cons (pg_name (i := 5) sc_Turns___init__.nd rfl (Or.inl rfl)) (pgs_cons (pg_name (i := 6) sc_Turns___init__.nd rfl (Or.inl rfl)) pgs_nil)))) (fun _ _ _ _ _ => pts_nil) (fun _ _ _ _ _ => (pe_tup (pa_cons (pv 5) (pa_cons (pv 6) pa_nil)))))
      (pss_cons (ps_if (pt_cmpR op_eq (pe_callB call_len (by rfl) T.b_len (by decide +kernel) (pa_cons (pv 2) pa_nil)) pe_int (nomark _)) (pss_one ps_never) pss_nil)
      (pss_cons (ps_if (pt_cmpR op_gt (pe_callB call_len (by rfl) T.b_len (by decide +kernel) (pa_cons (pv 2) pa_nil)) (pe_ccon T.q_Turns__MOST (pe_glob (v := .ref (He.ga K "Turns")) (by rfl) T.v_Turns rfl)) (nomark _)) (pss_one ps_never) pss_nil)
      (pss_cons (ps_par (i := 3) (j := 4) (by rfl) sc_Turns___init__.nd rfl rfl (by decide) rfl rfl (pa_cons pe_dnewK (pa_cons pe_dnewK pa_nil)) (by rfl))
      (pss_cons (ps_for PassesOwn.never rfl (pi_list (pv 2)) (pg_tup rfl (pgs_cons (pg_name (i := 5) sc_Turns___init__.nd rfl (Or.inl rfl)) (pgs_cons (pg_name (i := 6) sc_Turns___init__.nd rfl (Or.inl rfl)) pgs_nil))) (pss_cons (ps_if (pt_not (pt_val (pe_cx c_is_name hr (by first | decide | omega) rfl passL (pa_cons (pv 5) pa_nil)))) (pss_one ps_never) pss_nil)
      (pss_cons (ps_if (pt_cmp (pc_din (hu_of hr) (pv 5) (pv 3))) (pss_one ps_never) pss_nil)
      (pss_cons (ps_if (PW.pt (pw_or (pt_not (pt_val (pe_cx c_is_whole hr (by first | decide | omega) rfl passL (pa_cons (pv 6) pa_nil)))) (pw_or (pt_cmpR op_lt (pv 6) pe_int (nomark _)) (pw_or1 (pt_cmpR op_eq (pv 6) pe_int (nomark _)))))) (pss_one ps_never) pss_nil)
      (pss_cons (ps_dput (hu_of hr) (pv 4) (pv 5) (pe_callB call_lenD (by rfl) T.b_len (by decide +kernel) (pa_cons (pv 4) pa_nil)) rfl)
      (pss_one (ps_dput (hu_of hr) (pv 3) (pv 5) (pv 6) rfl)))))))
      (pss_cons (ps_fld (pv 0) (pe_callTy call_tuple_of (by rfl) T.b_tuple (by decide +kernel) (pa_cons (pv 2) pa_nil)) rfl)
      (pss_cons (ps_fld (pv 0) (pe_callTy call_tuple_of (by rfl) T.b_tuple (by decide +kernel) (pa_cons (pe_lc (own := [("name", 5), ("period", 6)]) (g := gTup K 2 (gCons (gName 5) (gCons (gName 6) gNil))) rfl sc_Turns___init__.nd (pi_listK K (pv 2)) (blkOk_by (own := [("name", 5), ("period", 6)]) (N := ["self", "pairs", "told", "periods", "ranks", "name", "period"]) (sc := defScope s_Turns___init__) (by decide +kernel)) (fun _ _ _ _ _ => (pg_tup rfl (pgs_cons (pg_name (i := 5) sc_Turns___init__.nd rfl (Or.inl rfl)) (pgs_cons (pg_name (i := 6) sc_Turns___init__.nd rfl (Or.inl rfl)) pgs_nil)))) (fun _ _ _ _ _ => pts_nil) (fun _ _ _ _ _ => (pv 5))) pa_nil)) rfl)
      (pss_cons (ps_fld (pv 0) (pv 3) rfl)
      (pss_one (ps_fld (pv 0) (pv 4) rfl)))))))))), ?_⟩
    walk_at "g"
    obtain ⟨ts, hp, pp⟩ := hP
    have hlen := pp.len
    have hn8 := hk.n8
    have hn0 := hk.n0
    refine ⟨⟨_, SqL.of hp⟩, fun D nD => ?_⟩
    refine lc_sp (fun _ => true) (fun y c H => ∃ t, y = .ref t ∧ SrT H t c) ?_ nD (SqL.of hp) pp (by omega) (fun _ _ => rfl) (fun c _ H Q _ q => q H (Same.refl H)) ?_ ?_
    · rintro y c H H' acc hD kp ⟨t, rfl, ht⟩
      exact ⟨t, rfl, kp _ _ ht (ht.ne hD (fun _ => by intro z; cases z))⟩
    · intro c hcm _ H2 Q2 s2 q
      walk_at "g"
      refine ⟨by show 2 ≤ sizeLine; decide, fun t nt => ?_⟩
      exact q _ _ (same_upd nt) ⟨t, rfl, upd_same⟩
    · intro ys H2 s2 hD2 py
      rw [filter_all] at py
      obtain ⟨as, rfl⟩ := py.ref (f := V.ref) (fun v b ⟨t, e, _⟩ => ⟨t, e⟩)
      have pa : P2 (SrT H2) as ks := (P2.map_l.mp py).mono fun t c ⟨t', e, r⟩ => by cases e; exact r
      have la := pa.len
      clear py hp pp ts hlen nD
      walk_at "g"
      refine ⟨_, _, rfl, .inl ⟨_, SqL.of hD2, rfl⟩, ?_⟩
      walk_at "g"
      refine iteB (fun c1 => ?_) (fun c1 => ?_)
      · exfalso
        have := of_dI c1
        rw [List.length_map, la] at this
        omega
      walk_at "g"
      refine ⟨_, _, rfl, .inl ⟨_, SqL.of hD2, rfl⟩, ?_⟩
      walk_at "g"
      refine iteB (fun c2 => ?_) (fun c2 => ?_)
      · exfalso
        rw [List.length_map, la] at c2
        simp at c2
        omega
      clear c1 c2
      walk_at "g"
      refine fun d3 nd3 => ?_
      walk_at "g"
      refine fun d4 nd4 => ?_
      walk_at "g"
      obtain ⟨H4, e4⟩ : ∃ H4, H4 = upd (upd H2 d3 (.dK [])) d4 (.dK []) := ⟨_, rfl⟩
      have n34 : d3 ≠ d4 := fun e => by
        rw [e, upd_same] at nd4
        cases nd4
      have hd3 : H4 d3 = some (.dK []) := by rw [e4]; exact (same_upd nd4) _ _ upd_same
      have hd4 : H4 d4 = some (.dK []) := by rw [e4]; exact upd_same
      have s24 : Same H2 H4 := by rw [e4]; exact (same_upd nd3).trans (same_upd nd4)
      rw [← e4]
      have n4 : H2 d4 = none := by
        cases e : H2 d4 with
        | none => rfl
        | some o => rw [(same_upd nd3) _ _ e] at nd4; cases nd4
      clear e4 nd4
      refine ⟨⟨_, SqL.of (s24 _ _ hD2)⟩, ?_⟩
      refine for_sp (ts := as) (cs := ks) (fun i σ H' => ∃ (a5 a6 : Option V), σ = [some (.ref x), some (.ref p), some (.ref D), some (.ref d3), some (.ref d4), a5, a6] ∧ Same H2 H' ∧ H' d3 = some (.dK (kdic (ks.take i))) ∧ H' d4 = some (.dK (rdic 0 (ks.take i)))) ⟨_, _, rfl, s24, hd3, hd4⟩ ?_ ?_ ?_
      · rintro i σ H' _ ⟨a5, a6, rfl, s', _⟩
        exact ⟨SqL.of (s' _ _ hD2), pa.sameS s'⟩
      · rintro i c σ H5 hc ⟨a5, a6, rfl, s5, h3, h4⟩
        obtain ⟨nm, pr⟩ := hk.ok c (mem_of_at hc)
        have new : ∀ d ∈ ks.take i, d.1 ≠ c.1 := by
          intro d hd e
          have nd := hk.nd
          unfold Nds at nd
          obtain ⟨j, hj, ej⟩ := List.getElem_of_mem hd
          have hi : i < ks.length := (List.getElem?_eq_some_iff.mp hc).1
          rw [List.length_take] at hj
          have e1 : (ks.map (·.1))[j]? = some c.1 := by
            rw [List.getElem?_map, List.getElem?_eq_getElem (by omega)]
            rw [List.getElem_take] at ej
            rw [ej, ← e]
            rfl
          have e2 : (ks.map (·.1))[i]? = some c.1 := by rw [List.getElem?_map, hc]; rfl
          have := (List.getElem?_inj (by rw [List.length_map]; omega) nd).mp (e1.trans e2.symm)
          omega
        walk_at "g"
        refine .inl ⟨_, rfl, Nat.le_trans nm.len (by decide), fun H6 s6 => ?_⟩
        rw [nameB_of nm]
        walk_at "g"
        have dg : DGet H6 d3 (.str c.1) none := by
          have := DGet.k (k := (.inr c.1 : Key)) (s6 _ _ h3)
          rw [valV_kdic, lookS_none new] at this
          exact this
        refine ⟨d3, _, rfl, dg, ?_⟩
        walk_at "g"
        refine ⟨_, _, rfl, isW_int _, ?_⟩
        walk_at "g"
        refine iteB (fun c1 => ?_) (fun c1 => ?_)
        · exfalso
          rw [decide_eq_true_eq] at c1
          omega
        walk_at "g"
        refine iteB (fun c2 => ?_) (fun c2 => ?_)
        · exfalso
          have := of_dI c2
          omega
        clear c1 c2
        have hi : i < ks.length := (List.getElem?_eq_some_iff.mp hc).1
        have lt : (ks.take i).length = i := by rw [List.length_take]; omega
        walk_at "g"
        refine ⟨d4, _, rfl, s6 _ _ h4, ?_⟩
        walk_at "g"
        refine ⟨d4, _, rfl, DPut.k (k := (.inr c.1 : Key)) (s6 _ _ h4) (by rw [rdic_len, lt]; exact Nat.lt_of_lt_of_le hi (Nat.le_trans hn8 (by decide))), ?_⟩
        rw [rdic_len, rdic_put new, ← take_snoc hc]
        obtain ⟨H7, e7⟩ : ∃ H7, H7 = upd H6 d4 (.dK (rdic 0 (ks.take (i + 1)))) := ⟨_, rfl⟩
        have s27 : Same H2 H7 := by rw [e7]; exact (s5.trans s6).wr n4
        have h47 : H7 d4 = some (.dK (rdic 0 (ks.take (i + 1)))) := by rw [e7]; exact upd_same
        have h37 : H7 d3 = some (.dK (kdic (ks.take i))) := by rw [e7, upd_ne n34]; exact s6 _ _ h3
        walk_at "g"
        refine ⟨d3, _, rfl, DPut.k (k := (.inr c.1 : Key)) (by rw [← e7]; exact h37) (by unfold kdic; rw [List.length_map, lt]; exact Nat.lt_of_lt_of_le hi (Nat.le_trans hn8 (by decide))), ?_⟩
        rw [← e7, kdic_put new, ← take_snoc hc]
        refine ⟨_, _, rfl, s27.wr nd3, upd_same, ?_⟩
        rw [upd_ne n34.symm]
        exact h47
      · rintro σ H5 ⟨a5, a6, rfl, s5, h3, h4⟩
        rw [List.take_length] at h3 h4
        have hx5 := (s2.trans s5) _ _ hx
        walk_at "g"
        refine ⟨D, _, rfl, .inl ⟨SqL.of (s5 _ _ hD2), fun p1 np1 => ?_⟩⟩
        have s6 := same_upd (o := .tup (as.map V.ref)) np1
        obtain ⟨H6, e6⟩ : ∃ H6, H6 = upd H5 p1 (.tup (as.map V.ref)) := ⟨_, rfl⟩
        have hp1 : H6 p1 = some (.tup (as.map V.ref)) := by rw [e6]; exact upd_same
        rw [← e6] at s6 ⊢
        clear e6
        have s26 := s5.trans s6
        walk_at "g"
        refine ⟨x, _, dx, _, rfl, s6 _ _ hx5, T.k_Turns, T.a_Turns__pairs, by show 0 < 1000; decide, ?_⟩
        obtain ⟨H7, e7⟩ : ∃ H7, H7 = upd H6 x (.ins (He.ga K "Turns") dx (putF "pairs" (.ref p1) [])) := ⟨_, rfl⟩
        have kp7 : Kp x H6 H7 := by rw [e7]; exact kp_upd x H6 _
        have hx7 : H7 x = some (.ins (He.ga K "Turns") dx [("pairs", .ref p1)]) := by rw [e7]; exact upd_same
        rw [← e7]
        clear e7
        have hx6 := s6 _ _ hx5
        have nx : ∀ {a : Addr} {o : HO}, H6 a = some o → (∀ C dx fs, o ≠ .ins C dx fs) → a ≠ x := fun h n => ne_of h hx6 (n _ _ _)
        have hD7 := kp7 _ _ (s26 _ _ hD2) (nx (s26 _ _ hD2) (fun _ _ _ => by intro z; cases z))
        have pa6 := pa.sameS s26
        have pa7 : P2 (SrT H7) as ks := pa6.mono fun t c e => kp7 _ _ e (nx e (fun _ _ _ => by intro z; cases z))
        walk_at "g"
        refine ⟨⟨_, SqL.of hD7⟩, fun D2 nD2 => ?_⟩
        refine lc_sp (fun _ => true) (fun y c H => y = .str c.1) (fun _ _ _ _ _ _ _ e => e) nD2 (SqL.of hD7) pa7 (by omega) (fun _ _ => rfl) (fun c _ H Q _ q => q H (Same.refl H)) ?_ ?_
        · intro c hcm _ H8 Q8 s8 q
          walk_at "g"
          exact q _ _ (Same.refl _) rfl
        · intro ys H8 s8 hD8 py
          rw [filter_all] at py
          have ey := py.eq_map
          walk_at "g"
          refine ⟨D2, _, rfl, .inl ⟨SqL.of hD8, fun p2 np2 => ?_⟩⟩
          have s9 := same_upd (o := .tup ys) np2
          obtain ⟨H9, e9⟩ : ∃ H9, H9 = upd H8 p2 (.tup ys) := ⟨_, rfl⟩
          have hp2 : H9 p2 = some (.tup ys) := by rw [e9]; exact upd_same
          rw [← e9] at s9 ⊢
          clear e9
          have s79 := s8.trans s9
          walk_at "g"
          refine ⟨x, _, dx, _, rfl, s79 _ _ hx7, T.k_Turns, T.a_Turns__names, by show 1 < 1000; decide, ?_⟩
          walk_at "g"
          refine ⟨x, _, dx, _, rfl, upd_same, T.k_Turns, T.a_Turns__periods, by show 2 < 1000; decide, ?_⟩
          walk_at "g"
          refine ⟨x, _, dx, _, rfl, upd_same, T.k_Turns, T.a_Turns__ranks, by show 3 < 1000; decide, ?_⟩
          have fin : ∀ {a : Addr} {o : HO}, H9 a = some o → (∀ C dx fs, o ≠ .ins C dx fs) → a ≠ x := fun h n => ne_of h (s79 _ _ hx7) (n _ _ _)
          have k9 : Kp x H H9 := ((s2.trans s26).kp.trans kp7).trans s79.kp
          have kf : ∀ o1 o2 o3, Kp x H9 (upd (upd (upd H9 x o1) x o2) x o3) := fun o1 o2 o3 => ((kp_upd x H9 o1).trans (kp_upd x _ o2)).trans (kp_upd x _ o3)
          have get : ∀ {a : Addr} {o : HO} o1 o2 o3, H9 a = some o → (∀ C dx fs, o ≠ .ins C dx fs) → upd (upd (upd H9 x o1) x o2) x o3 a = some o := fun o1 o2 o3 h n => kf o1 o2 o3 _ _ h (fin h n)
          have hxF : ∀ o1 o2 o3, upd (upd (upd H9 x o1) x o2) x o3 x = some o3 := fun _ _ _ => upd_same
          refine k _ (k9.trans (kf _ _ _)) ⟨dx, p1, p2, d3, d4, hxF _ _ _, ⟨as, get _ _ _ (s79 _ _ (kp7 _ _ hp1 (nx hp1 (fun _ _ _ => by intro z; cases z)))) (fun _ _ _ => by intro z; cases z), (pa7.sameS s79).mono fun t c e => get _ _ _ e (fun _ _ _ => by intro z; cases z)⟩, ?_, ?_, ?_⟩ ?_
          · rw [ey] at hp2
            exact get _ _ _ hp2 (fun _ _ _ => by intro z; cases z)
          · exact get _ _ _ (s79 _ _ (kp7 _ _ (s6 _ _ h3) (nx (s6 _ _ h3) (fun _ _ _ => by intro z; cases z)))) (fun _ _ _ => by intro z; cases z)
          · exact get _ _ _ (s79 _ _ (kp7 _ _ (s6 _ _ h4) (nx (s6 _ _ h4) (fun _ _ _ => by intro z; cases z)))) (fun _ _ _ => by intro z; cases z)
          · intro b o hb C' dx' q1 q2 q3 q4 e
            rw [upd_same] at e
            cases e
            have hb2 := s2 _ _ hb
            exact ⟨(ne_of_none hb2 nd3).symm, (ne_of_none hb2 n4).symm⟩
end
end Tr

namespace Tr
open PySem L2 TL
/-- steps of a reading that are plain -/
local macro_rules | `(tactic| walk_at "x") => `(tactic| (refine' ⟨_, _, _, _, rfl, rfl, ?k1, ?k2, ?_⟩; (case k1 => exact SqT.of (by assumption)); (case k2 => exact rfl)))
local macro_rules | `(tactic| walk_at "g") => `(tactic| repeat (first | (refine ⟨_, rfl, ?_⟩) | (refine ⟨_, _, rfl, rfl, ?_⟩) | (refine ⟨_, _, rfl, ?_⟩) | (refine ⟨rfl, ?_⟩) | walk_at "x"))


/-! ### a list or a tuple walked; what turns tell -/
def iSeq (K : PySem.W.Frag) (te : TE) : TI := fun σ H R => iList K te σ H R ∨ iTup K te σ H R
theorem pi_seqK {X : Cx} (K : PySem.W.Frag) {tg l : Expr} {tl : TE} (hl : PE X l tl) (hk : X.K = K := by rfl) : PI X tg l (iSeq K tl) := by
  subst hk
  exact pi_or (pi_list hl) (pi_tup hl)
/-- a step: a tuple or a list of a text and an int -/
def SrE (K : PySem.W.Frag) (H : Hp) (t : Addr) (c : SI) : Prop := SqE K H t [.str c.1, .int c.2]
theorem SrE.of {K : PySem.W.Frag} {H : Hp} {t : Addr} {c : SI} (h : SrT H t c) : SrE K H t c := .inl (SqT.of h)
theorem SrE.ofs {K : PySem.W.Frag} {H : Hp} {ts : List Addr} {cs : List SI} (h : P2 (SrT H) ts cs) : P2 (SrE K H) ts cs := h.mono fun _ _ e => .of e
theorem SrE.same {K : PySem.W.Frag} {H H' : Hp} (s : Same H H') {t : Addr} {c : SI} (h : SrE K H t c) : SrE K H' t c := h.elim (fun h => .inl (s.seqT h)) (fun h => .inr (s.seq h))
theorem P2.sameE {K : PySem.W.Frag} {H H' : Hp} (s : Same H H') {ts : List Addr} {cs : List SI} (h : P2 (SrE K H) ts cs) : P2 (SrE K H') ts cs := h.mono fun _ _ e => e.same s
/-- (text, int) pairs in a list or a tuple -/
def SQ (K : PySem.W.Frag) (H : Hp) (p : Addr) (ts : List Addr) (cs : List SI) : Prop := (SqL K H p (ts.map V.ref) ∨ SqT K H p (ts.map V.ref)) ∧ P2 (SrE K H) ts cs
theorem SL.sq {K : PySem.W.Frag} {H : Hp} {p : Addr} {cs : List SI} (h : SL H p cs) : ∃ ts, SQ K H p ts cs :=
  let ⟨ts, a, b⟩ := h
  ⟨ts, .inl (SqL.of a), SrE.ofs b⟩
theorem ST.sq {K : PySem.W.Frag} {H : Hp} {p : Addr} {cs : List SI} (h : ST H p cs) : ∃ ts, SQ K H p ts cs :=
  let ⟨ts, a, b⟩ := h
  ⟨ts, .inr (SqT.of a), SrE.ofs b⟩
theorem SQ.nil {K : PySem.W.Frag} {H : Hp} {p : Addr} (h : SqT K H p []) : SQ K H p [] [] := ⟨.inr h, .nil⟩
theorem SQ.same {K : PySem.W.Frag} {H H' : Hp} {p : Addr} {ts : List Addr} {cs : List SI} (s : Same H H') (h : SQ K H p ts cs) : SQ K H' p ts cs :=
  ⟨h.1.elim (fun h => .inl (s.seq h)) (fun h => .inr (s.seqT h)), P2.sameE s h.2⟩
theorem iSeq_of {K : PySem.W.Frag} {te : TE} {σ : L2.St} {H0 H : Hp} {R : It → Hp → Prop} {a : Addr} {ts : List Addr} {cs : List SI} (hte : ∀ Q : V → Hp → Prop, Q (.ref a) H → te σ H Q) (h : SQ K H0 a ts cs) (s01 : Same H0 H)
    (hR : ∀ (J : It) (G : Hp → Prop), (∀ H', Same H0 H' → G H') → Walk J (ts.map V.ref).length G (YAt (ts.map V.ref)) → R J H) : iSeq K te σ H R := by
  rcases h.1 with h | h
  · exact .inl (hte _ ⟨a, rfl, ⟨_, s01.seq h⟩, hR _ _ (fun H' s => s.seq h) walk_list⟩)
  · exact .inr (hte _ ⟨a, rfl, ⟨_, s01.seqT h⟩, hR _ _ (fun H' s => s.seqT h) walk_tup⟩)
theorem for_spW {K : PySem.W.Frag} {J : It} {G : Hp → Prop} {ts : List Addr} {cs : List SI} (w : Walk J (ts.map V.ref).length G (YAt (ts.map V.ref))) {i1 i2 : Nat} {tb : TS} {D : Ends} {σ : L2.St} {H : Hp} (hlen : ts.length = cs.length) (Pv : Nat → L2.St → Hp → Prop) (h0 : Pv 0 σ H)
    (hl : ∀ i σ H, i ≤ cs.length → Pv i σ H → G H ∧ P2 (SrE K H) ts cs)
    (hs : ∀ i c σ H, cs[i]? = some c → Pv i σ H → tb { D with nx := Pv (i + 1), ct := Pv (i + 1), bk := D.nx } ((σ.set i1 (some (.str c.1))).set i2 (some (.int c.2))) H)
    (hd : ∀ σ H, Pv cs.length σ H → D.nx σ H) :
    ∃ W : Nat → Nat → L2.St → Hp → Prop, (∃ m, W 0 m σ H) ∧ ∀ i m σ H, W i m σ H →
      (J.stop i H ∧ D.nx σ H) ∨ (J.go i H ∧ ∃ N : L2.St → Hp → Prop, (∀ σ' H', N σ' H' → ∃ m', m' < m ∧ W (i + 1) m' σ' H') ∧ ∀ x H', J.yld i H x H' → gSeq K 2 (gCons (gName i1) (gCons (gName i2) gNil)) x σ H' fun σ2 H2 => tb { D with nx := N, ct := N, bk := D.nx } σ2 H2) := by
  have e : (ts.map V.ref).length = cs.length := by rw [List.length_map, hlen]
  refine for_it w Pv h0 (fun i σ H hi p => (hl i σ H (by omega) p).1) ?_ (fun σ H p => hd σ H (by rw [← e]; exact p))
  intro i x σ H H' hi p hy
  obtain ⟨rfl, hx⟩ := hy
  rw [List.getElem?_map] at hx
  cases ht : ts[i]? with
  | none => rw [ht] at hx; cases hx
  | some t =>
    rw [ht] at hx
    cases hx
    have hi : i < ts.length := (List.getElem?_eq_some_iff.mp ht).1
    obtain ⟨c, hc, r⟩ := (hl i σ H' (by omega) p).2.getl ht
    exact ⟨t, _, rfl, r, rfl, _, _, rfl, _, _, rfl, rfl, hs i c σ H' hc p⟩
/-- [e for x in xs], xs the objects us, which tell cs -/
theorem lc_ref {α : Type} {J : It} {G : Hp → Prop} {R0 : Addr → α → Prop} {us : List Addr} {cs : List α} {i1 : Nat} {te : TE} {vs : List Nat} {σ : L2.St} {H1 : Hp} {D : Addr} {Qd : Hp → Prop} (w : Walk J (us.map V.ref).length G (YAt (us.map V.ref))) (hP : P2 R0 us cs) (R : V → α → Hp → Prop)
    (hR : ∀ y c H H' acc, H D = some (.lst acc) → Kp D H H' → R y c H → R y c H') (hD : H1 D = none) (hsz : cs.length ≤ 100000)
    (hG : ∀ H, Same H1 H → G H) (hw : ∀ x, wipe ((wipe σ vs).set i1 x) vs = wipe σ vs)
    (he : ∀ u c, c ∈ cs → R0 u c → ∀ H Q, Same H1 H → (∀ y H', Same H H' → R y c H' → Q y H') → te ((wipe σ vs).set i1 (some (.ref u))) H Q)
    (hd : ∀ ys H, Same H1 H → H D = some (.lst ys) → P2 (fun y c => R y c H) ys cs → Qd H) : LcG J (gName i1) tYes te vs σ H1 D Qd := by
  have hlen := hP.len
  refine lc_it w (fun i H => Same H1 H ∧ ∃ ys, H D = some (.lst ys) ∧ P2 (fun y c => R y c H) ys (cs.take i)) ⟨same_upd hD, [], upd_same, .nil⟩ (fun i H _ ⟨s, _⟩ => hG H s) ?_ ?_
  · rintro i x H H0 hi ⟨s, ys, hy, py⟩ ⟨rfl, hx⟩
    rw [List.getElem?_map] at hx
    cases ht : us[i]? with
    | none => rw [ht] at hx; cases hx
    | some u =>
      rw [ht] at hx
      cases hx
      obtain ⟨c, hc, r⟩ := hP.getl ht
      have ll : ys.length ≤ 100000 := by
        have h1 := py.len
        rw [List.length_take] at h1
        omega
      refine ⟨hw _, ?_⟩
      show te _ _ _
      refine he u c (mem_of_at hc) r H0 _ s fun y H' s' ry => ⟨ys, s' _ _ hy, small_app (Nat.le_refl _) ll, (s.trans s').wr hD, ys ++ [y], upd_same, ?_⟩
      rw [take_snoc hc]
      exact (py.mono fun v b rb => hR v b H' _ _ (s' _ _ hy) (kp_upd D H' _) (hR v b H0 H' _ hy s'.kp rb)).snoc (hR y c H' _ _ (s' _ _ hy) (kp_upd D H' _) ry)
  · rintro H ⟨s, ys, hy, py⟩
    rw [List.length_map, hlen, List.take_length] at py
    exact hd ys H s hy py
theorem canl_si : ∀ cs : List SI, (∀ c ∈ cs, PyData.strOk c.1 = true) → SeqAt.shaped (.tuple (cs.map siD)) = true := fun cs ok => by
  unfold SeqAt.shaped
  rw [Bool.and_eq_true, decide_eq_true_eq]
  refine ⟨lay_si cs ok, ?_⟩
  have h := depth_si cs
  show PyData.depthAll (cs.map siD) + 1 ≤ 64
  omega
theorem dpa_si {K : PySem.W.Frag} {H : Hp} {ts : List Addr} {cs : List SI} (h : P2 (SrT H) ts cs) : DpAll K H (ts.map V.ref) (cs.map siD) := by
  induction h with
  | nil => exact .nil
  | cons r _ ih => exact .cons (.tup (SqT.of r) (.cons (.str _) (.cons (.int _) .nil))) ih
theorem dp_st {K : PySem.W.Frag} {H : Hp} {l : Addr} {cs : List SI} (h : ST H l cs) : Dp K H (.ref l) (.tuple (cs.map siD)) :=
  let ⟨_, a, b⟩ := h
  .tup (SqT.of a) (dpa_si b)
section
variable {P : Program} {w : World} {K : PySem.W.Frag} {mg : Str → Option Value} {base : Heap}
def hasS (ks : List SI) (z : Str) : Bool := (lookS ks z).isSome
theorem hasS_of {ks : List SI} {z : Str} (h : ∃ k ∈ ks, k.1 = z) : hasS ks z = true := by
  obtain ⟨c, _, _, e⟩ := lookS_mem h
  unfold hasS
  rw [e]
  rfl
def spTin (K : PySem.W.Frag) (C : Addr) : Sp := fun vs H Q _ => ∃ (a : Addr) (x : V) (ks : List SI), vs = [.ref a, x] ∧ TuAt C H a ks ∧ ((∃ z, x = .str z ∧ Q (.bl (hasS ks z)) H) ∨ (∃ t, TyX K H x t ∧ PySem.W.kitOne K t (.type "str") = some false ∧ Q (.bl false) H))
theorem c_tin (T : Txt K mg) : Met P w K mg base 1 (He.ga K "Turns") "__contains__" (spTin K (He.ga K "Turns")) [] := by
  refine metN T.m_Turns____contains__ sc_Turns___contains__ (fun vs H Q E h => ?_) (fun _ _ _ _ _ _ us hl => match us, hl with | [_, _], _ => rfl) (fun f cdv A outer s H vs Q E hr h => ?_)
  · obtain ⟨a, x, ks, rfl, _⟩ := h
    rfl
  · obtain ⟨a, x, ks, rfl, hT, h⟩ := h
    obtain ⟨dx, p1, p2, p3, p4, ha, e1, e2, e3, e4⟩ := hT.ex
    refine ⟨_, (pss_one (ps_ret (pe_and (pe_callB call_isi (by rfl) T.b_isinstance (by decide +kernel) (pa_cons (pv 1) (pa_cons (pe_bltn (v := .ty "str") rfl T.b_str (by decide +kernel) rfl) pa_nil))) (pe_one (pe_cmp (pc_din (hu_of hr) (pv 1) (pe_fldK K (pv 0) (by rfl))) rfl))))), ?_⟩
    rcases h with ⟨z, rfl, k⟩ | ⟨t, ty, kt, k⟩
    · refine ⟨.str z, rfl, .str z, .ty "str", .type "str", _, true, rfl, .ty "str", .base (.str z), kit_ty (by decide +kernel), true, rfl, ?_⟩
      refine iteT ?_
      walk_at "g"
      refine ⟨a, _, dx, _, _, rfl, ha, T.k_Turns, T.a_Turns__periods, rfl, ?_⟩
      refine ⟨p3, _, rfl, DGet.k (k := (.inr z : Key)) e3, ?_⟩
      rw [valV_kdic, Option.isSome_map]
      exact k
    · refine ⟨x, rfl, x, .ty "str", t, _, false, rfl, .ty "str", ty, kt, false, rfl, ?_⟩
      refine iteF ?_
      exact k
def spPer (C : Addr) : Sp := fun vs H Q _ => ∃ (a : Addr) (z : Str) (ks : List SI), vs = [.ref a, .str z] ∧ TuAt C H a ks ∧ (∃ k ∈ ks, k.1 = z) ∧ Q (.int (perOf ks z)) H
theorem c_period_of (T : Txt K mg) : Met P w K mg base 2 (He.ga K "Turns") "period_of" (spPer (He.ga K "Turns")) [] := by
  have c_tin := @c_tin P w K mg base T
  refine metN T.m_Turns__period_of sc_Turns_period_of (fun vs H Q E h => ?_) (fun _ _ _ _ _ _ us hl => match us, hl with | [_, _], _ => rfl) (fun f cdv A outer s H vs Q E hr h => ?_)
  · obtain ⟨a, x, ks, rfl, _⟩ := h
    rfl
  · obtain ⟨a, z, ks, rfl, hT, hz, k⟩ := h
    obtain ⟨dx, p1, p2, p3, p4, ha, e1, e2, e3, e4⟩ := hT.ex
    refine ⟨_, (pss_cons (ps_if (pt_cmpR (or_notInO c_tin hr (by first | decide | omega) passL) (pv 1) (pv 0) (by rfl)) (pss_one ps_never) pss_nil)
      (pss_one (ps_ret (pe_dget (hu_of hr) (pe_fldK K (pv 0) (by rfl)) (pv 1) (fun _ _ => rfl))))), ?_⟩
    walk_at "g"
    refine ⟨a, dx, _, rfl, ha, a, _, ks, rfl, hT, .inl ⟨z, rfl, ?_⟩⟩
    rw [hasS_of hz]
    walk_at "g"
    refine ⟨a, _, dx, _, _, rfl, ha, T.k_Turns, T.a_Turns__periods, rfl, ?_⟩
    walk_at "g"
    obtain ⟨c, _, _, lk⟩ := lookS_mem hz
    have dg : DGet H p3 (.str z) (some (.int (perOf ks z))) := by
      have := DGet.k (k := (.inr z : Key)) e3
      rw [valV_kdic, lk] at this
      unfold perOf
      rw [lk]
      exact this
    exact ⟨p3, _, rfl, dg, k⟩
def spRank (C : Addr) : Sp := fun vs H Q _ => ∃ (a : Addr) (z : Str) (ks : List SI), vs = [.ref a, .str z] ∧ TuAt C H a ks ∧ (∃ k ∈ ks, k.1 = z) ∧ Q (.int (rankS ks z : Nat)) H
theorem c_rank (T : Txt K mg) : Met P w K mg base 2 (He.ga K "Turns") "rank" (spRank (He.ga K "Turns")) [] := by
  have c_tin := @c_tin P w K mg base T
  refine metN T.m_Turns__rank sc_Turns_rank (fun vs H Q E h => ?_) (fun _ _ _ _ _ _ us hl => match us, hl with | [_, _], _ => rfl) (fun f cdv A outer s H vs Q E hr h => ?_)
  · obtain ⟨a, x, ks, rfl, _⟩ := h
    rfl
  · obtain ⟨a, z, ks, rfl, hT, hz, k⟩ := h
    obtain ⟨dx, p1, p2, p3, p4, ha, e1, e2, e3, e4⟩ := hT.ex
    refine ⟨_, (pss_cons (ps_if (pt_cmpR (or_notInO c_tin hr (by first | decide | omega) passL) (pv 1) (pv 0) (by rfl)) (pss_one ps_never) pss_nil)
      (pss_one (ps_ret (pe_dget (hu_of hr) (pe_fldK K (pv 0) (by rfl)) (pv 1) (fun _ _ => rfl))))), ?_⟩
    walk_at "g"
    refine ⟨a, dx, _, rfl, ha, a, _, ks, rfl, hT, .inl ⟨z, rfl, ?_⟩⟩
    rw [hasS_of hz]
    walk_at "g"
    refine ⟨a, _, dx, _, _, rfl, ha, T.k_Turns, T.a_Turns__ranks, rfl, ?_⟩
    walk_at "g"
    have dg : DGet H p4 (.str z) (some (.int (rankS ks z : Nat))) := by
      have := DGet.k (k := (.inr z : Key)) e4
      rw [valV_rdic z 0 ks hz, Nat.zero_add] at this
      exact this
    exact ⟨p4, _, rfl, dg, k⟩
theorem eqv_si1 (c d : SI) : PyData.eqv (siD c) (siD d) = decide (c = d) := by
  obtain ⟨z, e⟩ := c
  obtain ⟨y, f⟩ := d
  show ((z == y) && ((e == f) && true)) = _
  rw [Bool.and_true, Bool.eq_iff_iff, Bool.and_eq_true, decide_eq_true_eq, beq_iff_eq, beq_iff_eq, Prod.mk.injEq]
theorem eqv_siA : ∀ a b : List SI, PyData.eqvAll (a.map siD) (b.map siD) = decide (a = b)
  | [], [] => rfl
  | [], _ :: _ => rfl
  | _ :: _, [] => rfl
  | c :: cs, d :: ds => by
    show (PyData.eqv (siD c) (siD d) && PyData.eqvAll (cs.map siD) (ds.map siD)) = _
    rw [eqv_si1, eqv_siA cs ds, Bool.eq_iff_iff, Bool.and_eq_true, decide_eq_true_eq, decide_eq_true_eq, decide_eq_true_eq, List.cons.injEq]
theorem eqv_siT (a b : List SI) : PyData.eqv (.tuple (a.map siD)) (.tuple (b.map siD)) = decide (a = b) := eqv_siA a b
theorem eqv_siL (a b : List SI) : PyData.eqv (.list (a.map siD)) (.list (b.map siD)) = decide (a = b) := eqv_siA a b
def spTeq (C : Addr) : Sp := fun vs H Q _ => ∃ (a b : Addr) (ks ls : List SI), vs = [.ref a, .ref b] ∧ TuAt C H a ks ∧ TuAt C H b ls ∧ KsOk ks ∧ KsOk ls ∧ Q (.bl (decide (ks = ls))) H
theorem c_teq (T : Txt K mg) : Met P w K mg base 1 (He.ga K "Turns") "__eq__" (spTeq (He.ga K "Turns")) [] := by
  refine metN T.m_Turns____eq__ sc_Turns___eq__ (fun vs H Q E h => ?_) (fun _ _ _ _ _ _ us hl => match us, hl with | [_, _], _ => rfl) (fun f cdv A outer s H vs Q E hr h => ?_)
  · obtain ⟨a, b, ks, ls, rfl, _⟩ := h
    rfl
  · obtain ⟨a, b, ks, ls, rfl, hA, hB, ok1, ok2, k⟩ := h
    obtain ⟨dx, p1, p2, p3, p4, ha, e1, e2, e3, e4⟩ := hA.ex
    obtain ⟨dy, q1, q2, q3, q4, hb, f1, f2, f3, f4⟩ := hB.ex
    refine ⟨_, (pss_one (ps_ret (pe_and (pe_callB call_isi (by rfl) T.b_isinstance (by decide +kernel) (pa_cons (pv 1) (pa_cons (pe_glob (v := .ref (He.ga K "Turns")) (by rfl) T.v_Turns rfl) pa_nil))) (pe_one (pe_cmpR (op_eqD (units_of hr)) (pe_fldK K (pv 0) (by rfl)) (pe_fldK K (pv 1) (by rfl)) (nomark _)))))), ?_⟩
    refine ⟨.ref b, rfl, .ref b, .ref (He.ga K "Turns"), .ref (He.ga K "Turns"), _, true, rfl, .own _, T.o_Turns.ty T.k_Turns hb, kit_self, true, rfl, ?_⟩
    refine iteT ?_
    walk_at "g"
    refine ⟨a, _, dx, _, _, rfl, ha, T.k_Turns, T.a_Turns__pairs, rfl, ?_⟩
    walk_at "g"
    refine ⟨b, _, dy, _, _, rfl, hb, T.k_Turns, T.a_Turns__pairs, rfl, ?_⟩
    refine ⟨_, _, dp_st e1, dp_st f1, canl_si ks (fun c hc => (ok1.ok c hc).1.strOk), canl_si ls (fun c hc => (ok2.ok c hc).1.strOk), ?_⟩
    rw [eqv_siT]
    exact k
def spRed (C : Addr) : Sp := fun vs H Q _ => ∃ (a : Addr) (z : Str) (e : Int) (ks : List SI), vs = [.ref a, .str z, .int e] ∧ TuAt C H a ks ∧ (∃ k ∈ ks, k.1 = z) ∧ Q (.int (modN (perOf ks) z e)) H
theorem c_reduced (T : Txt K mg) : Cal P w K mg base 3 "reduced" (spRed (He.ga K "Turns")) [] := by
  have c_period_of := @c_period_of P w K mg base T
  refine calN T.d_reduced sc_reduced (fun vs H Q E h => ?_) (fun _ _ _ _ _ _ us hl => match us, hl with | [_, _, _], _ => rfl) (fun f cdv A outer s H vs Q E hr h => ?_)
  · obtain ⟨a, x, e, ks, rfl, _⟩ := h
    rfl
  · obtain ⟨a, z, e, ks, rfl, hT, hz, k⟩ := h
    obtain ⟨dx, p1, p2, p3, p4, ha, e1, e2, e3, e4⟩ := hT.ex
    refine ⟨_, (pss_cons (ps_set (i := 3) sc_reduced.nd rfl (Or.inl rfl) (pe_mtx c_period_of hr (by first | decide | omega) passL (pv 0) (pa_cons (pv 1) pa_nil)))
      (pss_one (ps_ret (pe_ifExp (pt_cmpR op_gt (pv 3) pe_int (nomark _)) (pe_op op_mod (pv 2) (pv 3)) (pv 2))))), ?_⟩
    walk_at "g"
    refine ⟨a, dx, _, rfl, ha, rfl, ?_⟩
    walk_at "g"
    refine ⟨a, z, ks, rfl, hT, hz, ?_⟩
    walk_at "g"
    refine iteB (fun c1 => ?_) (fun c1 => ?_)
    · have p0 : 0 < perOf ks z := of_decide_eq_true c1
      walk_at "g"
      refine ⟨p0, ?_⟩
      unfold modN at k
      rw [if_pos p0] at k
      exact k
    · have p0 : ¬ 0 < perOf ks z := of_decide_eq_false c1
      walk_at "g"
      unfold modN at k
      rw [if_neg p0] at k
      exact k
end
end Tr

namespace Tr
open PySem L2 TL
/-- steps of a reading that are plain -/
local macro_rules | `(tactic| walk_at "x") => `(tactic| (refine' ⟨_, _, _, _, rfl, rfl, ?k1, ?k2, ?_⟩; (case k1 => exact SqT.of (by assumption)); (case k2 => exact rfl)))
local macro_rules | `(tactic| walk_at "g") => `(tactic| repeat (first | (refine ⟨_, rfl, ?_⟩) | (refine ⟨_, _, rfl, rfl, ?_⟩) | (refine ⟨_, _, rfl, ?_⟩) | (refine ⟨rfl, ?_⟩) | walk_at "x"))


/-! ### a step's key; normal steps -/
def clkN (per : Str → Int) (z : Str) (e : Int) : Int := if 0 < per z then (if per z - e < e then per z - e else e) else (if e < 0 then -e else e)
def flgN (per : Str → Int) (z : Str) (e : Int) : Int := if 0 < per z then (if e = clkN per z e then 0 else 1) else (if e < 0 then 1 else 0)
def KyT (ks : List SI) (H : Hp) (y : Addr) (c : SI) : Prop := H y = some (.tup [.int (rankS ks c.1 : Nat), .int (clkN (perOf ks) c.1 c.2), .int (flgN (perOf ks) c.1 c.2)])
section
variable {P : Program} {w : World} {K : PySem.W.Frag} {mg : Str → Option Value} {base : Heap}
def spKey (C : Addr) : Sp := fun vs H Q _ => ∃ (a u : Addr) (c : SI) (ks : List SI), vs = [.ref a, .ref u] ∧ TuAt C H a ks ∧ SrT H u c ∧ (∃ k ∈ ks, k.1 = c.1) ∧ ∀ y H', Same H H' → H y = none → KyT ks H' y c → Q (.ref y) H'
theorem c_step_key (T : Txt K mg) : Cal P w K mg base 3 "step_key" (spKey (He.ga K "Turns")) [] := by
  have c_period_of := @c_period_of P w K mg base T
  have c_rank := @c_rank P w K mg base T
  refine calN T.d_step_key sc_step_key (fun vs H Q E h => ?_) (fun _ _ _ _ _ _ us hl => match us, hl with | [_, _], _ => rfl) (fun f cdv A outer s H vs Q E hr h => ?_)
  · obtain ⟨a, u, c, ks, rfl, _⟩ := h
    rfl
  · obtain ⟨a, u, c, ks, rfl, hT, hu, hz, k⟩ := h
    obtain ⟨dx, p1, p2, p3, p4, ha, _⟩ := hT.ex
    refine ⟨_, (pss_cons (ps_asg (pv 1) (pg_tup rfl (pgs_cons (pg_name (i := 2) sc_step_key.nd rfl (Or.inl rfl)) (pgs_cons (pg_name (i := 3) sc_step_key.nd rfl (Or.inl rfl)) pgs_nil))))
      (pss_cons (ps_set (i := 4) sc_step_key.nd rfl (Or.inl rfl) (pe_mtx c_period_of hr (by first | decide | omega) passL (pv 0) (pa_cons (pv 2) pa_nil)))
      (pss_cons (ps_if (pt_cmpR op_gt (pv 4) pe_int (nomark _)) (pss_cons (ps_set (i := 5) sc_step_key.nd rfl (Or.inl rfl) (pe_callB (call_min2 rfl) (by rfl) T.b_min (by decide +kernel) (pa_cons (pe_callTy call_int1 (by rfl) T.b_int (by decide +kernel) (pa_cons (pv 3) pa_nil)) (pa_cons (pe_op op_sub (pv 4) (pv 3)) pa_nil))))
      (pss_one (ps_ret (pe_tup (pa_cons (pe_mtx c_rank hr (by first | decide | omega) passL (pv 0) (pa_cons (pv 2) pa_nil)) (pa_cons (pv 5) (pa_cons (pe_callTy call_int1 (by rfl) T.b_int (by decide +kernel) (pa_cons (pe_cmpR op_ne (pv 3) (pv 5) (nomark _)) pa_nil)) pa_nil))))))) pss_nil)
      (pss_one (ps_ret (pe_tup (pa_cons (pe_mtx c_rank hr (by first | decide | omega) passL (pv 0) (pa_cons (pv 2) pa_nil)) (pa_cons (pe_callB call_abs (by rfl) T.b_abs (by decide +kernel) (pa_cons (pv 3) pa_nil)) (pa_cons (pe_callTy call_int1 (by rfl) T.b_int (by decide +kernel) (pa_cons (pe_cmpR op_lt (pv 3) pe_int (nomark _)) pa_nil)) pa_nil))))))))), ?_⟩
    refine ⟨_, rfl, u, _, rfl, SqT.of hu, rfl, _, _, rfl, _, _, rfl, rfl, ?_⟩
    walk_at "g"
    refine ⟨a, dx, _, rfl, ha, rfl, ?_⟩
    walk_at "g"
    refine ⟨a, c.1, ks, rfl, hT, hz, ?_⟩
    walk_at "g"
    refine iteB (fun c1 => ?_) (fun c1 => ?_)
    · have p0 : 0 < perOf ks c.1 := of_decide_eq_true c1
      have e1 : clkN (perOf ks) c.1 c.2 = if perOf ks c.1 - c.2 < c.2 then perOf ks c.1 - c.2 else c.2 := by unfold clkN; rw [if_pos p0]
      have e2 : flgN (perOf ks) c.1 c.2 = if c.2 = clkN (perOf ks) c.1 c.2 then 0 else 1 := by unfold flgN; rw [if_pos p0]
      walk_at "g"
      refine .inl ⟨_, rfl, ?_⟩
      walk_at "g"
      refine ⟨a, dx, _, rfl, ha, rfl, ?_⟩
      walk_at "g"
      refine ⟨a, c.1, ks, rfl, hT, hz, ?_⟩
      rw [← e1]
      walk_at "g"
      refine .inr ⟨_, rfl, ?_⟩
      walk_at "g"
      refine ⟨by show 3 ≤ sizeLine; decide, fun y ny => ?_⟩
      refine k y _ (same_upd ny) ny ?_
      unfold KyT
      rw [upd_same, e2, dI]
      by_cases e : c.2 = clkN (perOf ks) c.1 c.2
      · rw [if_pos e, decide_eq_true e]
        rfl
      · rw [if_neg e, decide_eq_false e]
        rfl
    · have p0 : ¬ 0 < perOf ks c.1 := of_decide_eq_false c1
      have e1 : clkN (perOf ks) c.1 c.2 = if c.2 < 0 then -c.2 else c.2 := by unfold clkN; rw [if_neg p0]
      have e2 : flgN (perOf ks) c.1 c.2 = if c.2 < 0 then 1 else 0 := by unfold flgN; rw [if_neg p0]
      walk_at "g"
      refine ⟨a, dx, _, rfl, ha, rfl, ?_⟩
      walk_at "g"
      refine ⟨a, c.1, ks, rfl, hT, hz, ?_⟩
      walk_at "g"
      rw [← e1]
      refine .inr ⟨_, rfl, ?_⟩
      walk_at "g"
      refine ⟨by show 3 ≤ sizeLine; decide, fun y ny => ?_⟩
      refine k y _ (same_upd ny) ny ?_
      unfold KyT
      rw [upd_same, e2]
      by_cases e : c.2 < 0
      · rw [if_pos e, decide_eq_true e]
        rfl
      · rw [if_neg e, decide_eq_false e]
        rfl
def spNSteps (K : PySem.W.Frag) (C : Addr) : Sp := fun vs H Q _ => ∃ (a p : Addr) (ks ss : List SI) (ts : List Addr), vs = [.ref a, .ref p] ∧ TuAt C H a ks ∧ SQ K H p ts ss ∧ ss.length ≤ 10000 ∧ (∀ c ∈ ss, ∃ k ∈ ks, k.1 = c.1) ∧
  ∀ (l : Addr) H', Same H H' → H l = none → SL H' l (normL (perOf ks) ss) → Q (.ref l) H'
theorem c_normal_steps (T : Txt K mg) : Cal P w K mg base 4 "normal_steps" (spNSteps K (He.ga K "Turns")) [] := by
  have c_reduced := @c_reduced P w K mg base T
  refine calN T.d_normal_steps sc_normal_steps (fun vs H Q E h => ?_) (fun _ _ _ _ _ _ us hl => match us, hl with | [_, _], _ => rfl) (fun f cdv A outer s H vs Q E hr h => ?_)
  · obtain ⟨a, p, ks, ss, ts, rfl, _⟩ := h
    rfl
  · obtain ⟨a, p, ks, ss, ts, rfl, hT, hS, s100, hs, k⟩ := h
    refine ⟨_, (pss_cons (ps_set (i := 2) sc_normal_steps.nd rfl (Or.inl rfl) (pe_lst pa_nil))
      (pss_cons (ps_for PassesOwn.never rfl (pi_seqK K (pv 1)) (pg_seq rfl (pgs_cons (pg_name (i := 3) sc_normal_steps.nd rfl (Or.inl rfl)) (pgs_cons (pg_name (i := 4) sc_normal_steps.nd rfl (Or.inl rfl)) pgs_nil))) (C8.pss_cut (ps_if (PW.pt (pw_and (pt_truth (pv 2) (by intro _; rfl)) (pw_and1 (pt_cmpR op_eq (pe_ix ix_tup (pe_ix ix_list (pv 2) (pe_un un_neg pe_int) (fun _ _ => rfl)) pe_int (fun _ _ => rfl)) (pv 3) (nomark _))))) (pss_one (ps_set (i := 4) sc_normal_steps.nd rfl (Or.inl rfl) (pe_op op_add (pv 4) (pe_ix ix_tup (pe_bm0 PySem.F.plainAttrs_list PySem.F.slot_list_pop PySem.F.type_list_pop mt_pop (pv 2)) pe_int (fun _ _ => rfl))))) pss_nil)
      (pss_cons (ps_set (i := 4) sc_normal_steps.nd rfl (Or.inl rfl) (pe_cx c_reduced hr (by first | decide | omega) rfl passL (pa_cons (pv 0) (pa_cons (pv 3) (pa_cons (pv 4) pa_nil)))))
      (pss_one (ps_if (pt_cmpR op_ne (pv 4) pe_int (nomark _)) (pss_one (ps_expr (pe_bm PySem.F.plainAttrs_list PySem.F.slot_list_append PySem.F.type_list_append mt_append (pv 2) (pa_cons (pe_tup (pa_cons (pv 3) (pa_cons (pv 4) pa_nil))) pa_nil)))) pss_nil)))))
      (pss_one (ps_ret (pv 2))))), ?_⟩
    have hlen := hS.2.len
    walk_at "g"
    refine ⟨by show 0 ≤ sizeLine; decide, fun D nD => ?_⟩
    have s1 : Same H (upd H D (.lst [])) := same_upd nD
    walk_at "g"
    refine iSeq_of (fun Q q => ⟨_, rfl, q⟩) hS s1 fun J G hG wJ => ?_
    refine for_spW wJ hlen (fun i σ H' => ∃ (a3 a4 : Option V) (vs : List Addr), σ = [some (.ref a), some (.ref p), some (.ref D), a3, a4] ∧ Same H H' ∧ H' D = some (.lst (vs.map V.ref)) ∧ P2 (SrT H') vs (normL (perOf ks) (ss.take i))) ⟨_, _, [], rfl, s1, upd_same, .nil⟩ ?_ ?_ ?_
    · rintro i σ H' _ ⟨a3, a4, vs, rfl, s', _⟩
      exact ⟨hG _ s', P2.sameE s' hS.2⟩
    · rintro i c σ H3 hc ⟨a3, a4, vs, rfl, s3, hD3, pv⟩
      obtain ⟨acc, eacc⟩ : ∃ acc, acc = normL (perOf ks) (ss.take i) := ⟨_, rfl⟩
      have e1 : normL (perOf ks) (ss.take (i + 1)) = stepN (perOf ks) acc c := by rw [take_snoc hc, normL_snoc, eacc]
      have sb := @normL_sub (perOf ks) (ss.take i)
      have al : acc.length ≤ 10000 := by
        have := sb.2
        rw [List.length_take, ← eacc] at this
        omega
      have hcm := hs c (mem_of_at hc)
      rw [← eacc] at pv
      clear sb eacc
      have vl := pv.len
      refine ⟨fun σ' H4 => ∃ (vs' : List Addr), σ' = [some (.ref a), some (.ref p), some (.ref D), some (.str c.1), some (.int (pickN acc c).2)] ∧ Same H H4 ∧ H4 D = some (.lst (vs'.map V.ref)) ∧ P2 (SrT H4) vs' (pickN acc c).1, ?_, ?_⟩
      · walk_at "g"
        refine ⟨_, .inl ⟨_, SqL.of hD3, rfl⟩, ?_⟩
        rcases snocC acc with rfl | ⟨ac, d, rfl⟩
        · have v0 : vs = [] := List.eq_nil_of_length_eq_zero vl
          subst v0
          refine iteF ?_
          exact ⟨[], rfl, s3, hD3, pv⟩
        · rcases snocC vs with rfl | ⟨vr, u, rfl⟩
          · simp at vl
          rw [show (!((vr ++ [u]).map V.ref).isEmpty) = true by simp]
          refine iteT ?_
          obtain ⟨pr, ru⟩ := P2.unsnoc pv
          walk_at "g"
          refine ⟨D, _, (-1 : Int), .ref u, rfl, rfl, SqL.of hD3, by rw [List.map_append]; exact atI_last _ _, ?_⟩
          walk_at "g"
          refine iteB (fun c1 => ?_) (fun c1 => ?_)
          · have e1 : d.1 = c.1 := by simpa using c1
            rw [pickN_eq e1]
            walk_at "g"
            refine ⟨.inl ⟨rfl, _, SqL.of hD3⟩, D, _, .ref u, rfl, rfl, hD3, by rw [List.map_append, List.length_append]; simp, ?_⟩
            rw [List.map_append, show (vr.map V.ref ++ [u].map V.ref).dropLast = vr.map V.ref by simp]
            have nu : u ≠ D := ru.ne hD3 (fun _ => by intro z; cases z)
            have ru5 : SrT (upd H3 D (.lst (vr.map V.ref))) u d := by
              show upd _ _ _ u = _
              rw [upd_ne nu]
              exact ru
            have kp5 : Kp D H3 (upd H3 D (.lst (vr.map V.ref))) := kp_upd D H3 _
            walk_at "g"
            exact ⟨vr, rfl, s3.wr nD, upd_same, pr.kpS kp5 hD3 (fun _ => by intro z; cases z)⟩
          · have e1 : d.1 ≠ c.1 := by simpa using c1
            rw [pickN_ne e1]
            exact ⟨vr ++ [u], rfl, s3, hD3, pv⟩
      · rintro σ' H4 ⟨vs', rfl, s4, hD4, pv4⟩
        have pl := @pickN_sub acc c
        have vl4 := pv4.len
        rw [e1]
        have est : stepN (perOf ks) acc c = putN (pickN acc c).1 c.1 (modN (perOf ks) c.1 (pickN acc c).2) := rfl
        rw [est]
        walk_at "g"
        refine ⟨a, c.1, _, ks, rfl, hT.same s4, hcm, ?_⟩
        generalize modN (perOf ks) c.1 (pickN acc c).2 = e at *
        generalize (pickN acc c).1 = ac at *
        walk_at "g"
        refine iteB (fun c1 => ?_) (fun c1 => ?_)
        · have e0 : e ≠ 0 := by simpa using c1
          rw [show putN ac c.1 e = ac ++ [(c.1, e)] from if_neg e0]
          walk_at "g"
          refine ⟨.inl ⟨rfl, _, SqL.of hD4⟩, ?_⟩
          walk_at "g"
          refine ⟨by show 2 ≤ sizeLine; decide, fun u nu => ?_⟩
          have s5 := same_upd (o := .tup [.str c.1, .int e]) nu
          have hD5 := s5 _ _ hD4
          walk_at "g"
          refine ⟨D, vs'.map V.ref, _, rfl, rfl, hD5, small_app (m := 100000) (by rw [List.length_map]; omega) (Nat.le_refl _), ?_⟩
          exact ⟨_, _, vs' ++ [u], rfl, (s4.trans s5).wr nD, by rw [List.map_append]; exact upd_same, sl_snoc hD5 (pv4.sameS s5) upd_same⟩
        · have e0 : e = 0 := by simpa using c1
          rw [show putN ac c.1 e = ac from if_pos e0]
          exact ⟨_, _, vs', rfl, s4, hD4, pv4⟩
    · rintro σ H3 ⟨a3, a4, vs, rfl, s3, hD3, pv⟩
      walk_at "g"
      rw [List.take_length] at pv
      exact k D H3 s3 nD ⟨vs, hD3, pv⟩
end
end Tr

namespace Tr
open PySem L2 TL
/-- steps of a reading that are plain -/
local macro_rules | `(tactic| walk_at "x") => `(tactic| (refine' ⟨_, _, _, _, rfl, rfl, ?k1, ?k2, ?_⟩; (case k1 => exact SqT.of (by assumption)); (case k2 => exact rfl)))
local macro_rules | `(tactic| walk_at "g") => `(tactic| repeat (first | (refine ⟨_, rfl, ?_⟩) | (refine ⟨_, _, rfl, rfl, ?_⟩) | (refine ⟨_, _, rfl, ?_⟩) | (refine ⟨rfl, ?_⟩) | walk_at "x"))


/-! ### Row.__init__ -/
def rflds (t st ky : Addr) : List (Str × V) := [("turns", .ref t), ("steps", .ref st), ("key", .ref ky)]
def InK (ks ss : List SI) : Prop := ∀ c ∈ ss, ∃ k ∈ ks, k.1 = c.1
/-- a row stands at a -/
structure RwAt (CR CT : Addr) (H : Hp) (a t : Addr) (ks ss : List SI) : Prop where
  ex : ∃ dx st ky kk pp ys, H a = some (.ins CR dx (rflds t st ky)) ∧ ST H st ss ∧ H ky = some (.tup [.int (ss.length : Nat), .ref kk, .ref pp]) ∧ H kk = some (.tup (ys.map V.ref)) ∧ P2 (KyT ks H) ys ss ∧ ST H pp ks
  tu : TuAt CT H t ks
  ok : KsOk ks
  nf : Nf (perOf ks) ss
  nm : InK ks ss
  le : ss.length ≤ 10000
theorem RwAt.same {CR CT : Addr} {H H' : Hp} {a t : Addr} {ks ss : List SI} (s : Same H H') (h : RwAt CR CT H a t ks ss) : RwAt CR CT H' a t ks ss :=
  let ⟨dx, st, ky, kk, pp, ys, e0, e1, e2, e3, e4, e5⟩ := h.ex
  ⟨⟨dx, st, ky, kk, pp, ys, s _ _ e0, e1.same s, s _ _ e2, s _ _ e3, e4.mono fun _ _ e => s _ _ e, e5.same s⟩, h.tu.same s, h.ok, h.nf, h.nm, h.le⟩
theorem RwAt.kpB {CR CT p a t : Addr} {H H' : Hp} {kvs : List (Key × V)} {ks ss : List SI} (h : RwAt CR CT H a t ks ss) (ne : TuNe H t p) (kp : Kp p H H') (hp : H p = some (.dK kvs)) : RwAt CR CT H' a t ks ss := by
  obtain ⟨dx, st, ky, kk, pp, ys, e0, ⟨ts, a1, b1⟩, e2, e3, e4, ⟨us, a5, b5⟩⟩ := h.ex
  have no : ∀ {a : Addr} {xs : List V}, H a = some (.tup xs) → H' a = some (.tup xs) := fun h => kp _ _ h (ne_of h hp (by intro z; cases z))
  exact ⟨⟨dx, st, ky, kk, pp, ys, kp _ _ e0 (ne_of e0 hp (by intro z; cases z)), ⟨ts, no a1, b1.mono fun _ _ e => no e⟩, no e2, no e3, e4.mono fun _ _ e => no e, ⟨us, no a5, b5.mono fun _ _ e => no e⟩⟩, h.tu.kpB ne kp hp, h.ok, h.nf, h.nm, h.le⟩
theorem RwAt.sok {CR CT a t : Addr} {H : Hp} {ks ss : List SI} (h : RwAt CR CT H a t ks ss) : ∀ c ∈ ss, PyData.strOk c.1 = true := fun c hc => by
  obtain ⟨k, hk, e⟩ := h.nm c hc
  rw [← e]
  exact (h.ok.ok k hk).1.strOk
theorem norm_in {ks ss : List SI} (h : InK ks ss) : InK ks (normL (perOf ks) ss) := fun c hc => by
  obtain ⟨x, hx, e⟩ := normL_sub.1 c hc
  rw [← e]
  exact h x hx
theorem InK.app {ks a b : List SI} (h : InK ks a) (h' : InK ks b) : InK ks (a ++ b) := fun c hc => (List.mem_append.mp hc).elim (h c) (h' c)
theorem InK.back {ks a : List SI} (h : InK ks a) : InK ks (backL a) := fun c hc => by
  unfold backL at hc
  obtain ⟨d, hd, rfl⟩ := List.mem_map.mp hc
  exact h d (List.mem_reverse.mp hd)
theorem norm_len {per : Str → Int} {ss : List SI} : (normL per ss).length ≤ ss.length := normL_sub.2
theorem TuAt.kpi {C C' x dx a : Addr} {H H' : Hp} {fs : List (Str × V)} {ks : List SI} (h : TuAt C H a ks) (kp : Kp x H H') (hx : H x = some (.ins C' dx fs)) (nf : ∀ p1 p2 p3 p4, fs ≠ tflds p1 p2 p3 p4 := by intro _ _ _ _ z; cases z) : TuAt C H' a ks := by
  obtain ⟨dt, p1, p2, p3, p4, e0, ⟨ts, a1, b1⟩, e2, e3, e4⟩ := h.ex
  exact ⟨dt, p1, p2, p3, p4, kp _ _ e0 (ne_of e0 hx (by intro z; cases z; exact nf _ _ _ _ rfl)), ⟨ts, kp _ _ a1 (ne_of a1 hx (by intro z; cases z)), b1.mono fun _ _ e => kp _ _ e (ne_of e hx (by intro z; cases z))⟩,
    kp _ _ e2 (ne_of e2 hx (by intro z; cases z)), kp _ _ e3 (ne_of e3 hx (by intro z; cases z)), kp _ _ e4 (ne_of e4 hx (by intro z; cases z))⟩
theorem SqL.kpi {K : PySem.W.Frag} {C' x dx a : Addr} {H H' : Hp} {fs : List (Str × V)} {xs : List V} (h : SqL K H a xs) (kp : Kp x H H') (hx : H x = some (.ins C' dx fs)) : SqL K H' a xs := by
  refine h.elim (fun h => .inl (h.elim (fun h => .inl ?_) (fun ⟨o, h⟩ => .inr ⟨o, ?_⟩))) (fun h => .inr h)
  · exact kp _ _ h (ne_of h hx (by intro z; cases z))
  · exact kp _ _ h (ne_of h hx (by intro z; cases z))
theorem SqT.kpi {K : PySem.W.Frag} {C' x dx a : Addr} {H H' : Hp} {fs : List (Str × V)} {xs : List V} (h : SqT K H a xs) (kp : Kp x H H') (hx : H x = some (.ins C' dx fs)) : SqT K H' a xs := by
  refine h.elim (fun h => .inl (h.elim (fun h => .inl ?_) (fun ⟨o, h⟩ => .inr ⟨o, ?_⟩))) (fun h => .inr h)
  · exact kp _ _ h (ne_of h hx (by intro z; cases z))
  · exact kp _ _ h (ne_of h hx (by intro z; cases z))
theorem SrE.kpi {K : PySem.W.Frag} {C' x dx a : Addr} {H H' : Hp} {fs : List (Str × V)} {c : SI} (h : SrE K H a c) (kp : Kp x H H') (hx : H x = some (.ins C' dx fs)) : SrE K H' a c := h.elim (fun h => .inl (SqT.kpi h kp hx)) (fun h => .inr (SqL.kpi h kp hx))
theorem SQ.kpi {K : PySem.W.Frag} {C' x dx a : Addr} {H H' : Hp} {fs : List (Str × V)} {ts : List Addr} {cs : List SI} (h : SQ K H a ts cs) (kp : Kp x H H') (hx : H x = some (.ins C' dx fs)) : SQ K H' a ts cs :=
  ⟨h.1.elim (fun h => .inl (SqL.kpi h kp hx)) (fun h => .inr (SqT.kpi h kp hx)), h.2.mono fun _ _ e => SrE.kpi e kp hx⟩
section
variable {P : Program} {w : World} {K : PySem.W.Frag} {mg : Str → Option Value} {base : Heap}
def spRow (K : PySem.W.Frag) (CR CT : Addr) : Sp := fun vs H Q _ => ∃ (x dx t p : Addr) (ks ss : List SI) (ts : List Addr), vs = [.ref x, .ref t, .ref p] ∧ H x = some (.ins CR dx []) ∧ TuAt CT H t ks ∧ KsOk ks ∧ SQ K H p ts ss ∧ ss.length ≤ 10000 ∧ InK ks ss ∧
  ∀ (H' : Hp), Kp x H H' → RwAt CR CT H' x t ks (normL (perOf ks) ss) → Q .non H'
theorem walk_Row (T : Txt K mg) (f : Addr) (cdv : Value) (A : Around) (outer : List Env) (s : Shared) (H : Hp) (vs : List V) (Q : VK) (E : XK) (hr : Room 4 (A.deeper (PyProof.Rows.envOfC "Row.__init__" (defScope s_Row___init__) s.heap.objs.size f cdv))) (h : spRow K (He.ga K "Row") (He.ga K "Turns") vs H Q E) :
    ∃ t, PSs (cxOf (L2.CX P w) P w K mg base ["self", "turns", "steps", "name", "exponent", "keys", "step"] "Row.__init__" (defScope s_Row___init__) f cdv A outer s H E).nox (defBody s_Row___init__) t ∧ t { nx := fun _ H' => Q .non H', rt := Q } (start ["self", "turns", "steps", "name", "exponent", "keys", "step"] vs) H := by
  have c_tin := @c_tin P w K mg base T
  have c_normal_steps := @c_normal_steps P w K mg base T
  have c_step_key := @c_step_key P w K mg base T
  obtain ⟨x, dx, t, p, ks, ss, ts, rfl, hx, hT, ok, hS, hle, hin, k⟩ := h
  have hlen := hS.2.len
  refine ⟨_, (pss_cons (ps_for PassesOwn.never rfl (pi_seqK K (pv 2)) (pg_seq rfl (pgs_cons (pg_name (i := 3) sc_Row___init__.nd rfl (Or.inl rfl)) (pgs_cons (pg_name (i := 4) sc_Row___init__.nd rfl (Or.inl rfl)) pgs_nil))) (pss_one (ps_if (pt_cmpR (or_notInO c_tin hr (by first | decide | omega) passL) (pv 3) (pv 1) (by rfl)) (pss_one ps_never) pss_nil)))
      (pss_cons (ps_fld (pv 0) (pv 1) rfl)
      (pss_cons (ps_fld (pv 0) (pe_callTy call_tuple_of (by rfl) T.b_tuple (by decide +kernel) (pa_cons (pe_cx c_normal_steps hr (by first | decide | omega) rfl passL (pa_cons (pv 1) (pa_cons (pv 2) pa_nil))) pa_nil)) rfl)
      (pss_cons (ps_set (i := 5) sc_Row___init__.nd rfl (Or.inl rfl) (pe_callTy call_tuple_of (by rfl) T.b_tuple (by decide +kernel) (pa_cons (pe_lc (own := [("step", 6)]) (g := gName 6) rfl sc_Row___init__.nd (pi_tupK K (pe_fldK K (pv 0) (by rfl))) (blkOk_by (own := [("step", 6)]) (N := ["self", "turns", "steps", "name", "exponent", "keys", "step"]) (sc := defScope s_Row___init__) (by decide +kernel)) (fun _ _ _ _ _ => (pg_name (i := 6) sc_Row___init__.nd rfl (Or.inl rfl))) (fun _ _ _ _ _ => pts_nil) (fun _ _ _ _ _ => (pe_cx c_step_key hr (by first | decide | omega) rfl passL (pa_cons (pv 1) (pa_cons (pv 6) pa_nil))))) pa_nil)))
      (pss_one (ps_fld (pv 0) (pe_tup (pa_cons (pe_callB call_len (by rfl) T.b_len (by decide +kernel) (pa_cons (pe_fldK K (pv 0) (by rfl)) pa_nil)) (pa_cons (pv 5) (pa_cons (pe_fldK K (pv 1) (by rfl)) pa_nil)))) rfl)))))), ?_⟩
  refine iSeq_of (fun Q q => ⟨_, rfl, q⟩) hS (Same.refl H) fun J G hG wJ => ?_
  refine for_spW wJ hlen (fun i σ H' => ∃ (a3 a4 : Option V), σ = [some (.ref x), some (.ref t), some (.ref p), a3, a4, none, none] ∧ H' = H) ⟨_, _, rfl, rfl⟩ ?_ ?_ ?_
  · rintro i σ H' _ ⟨a3, a4, rfl, rfl⟩
    exact ⟨hG _ (Same.refl _), hS.2⟩
  · rintro i c σ H3 hc ⟨a3, a4, rfl, rfl⟩
    obtain ⟨dt, p1, p2, p3, p4, ht, _⟩ := id hT.ex
    walk_at "g"
    refine ⟨t, dt, _, rfl, ht, t, _, ks, rfl, hT, .inl ⟨c.1, rfl, ?_⟩⟩
    rw [hasS_of (hin c (mem_of_at hc))]
    walk_at "g"
    rfl
  · rintro σ H3 ⟨a3, a4, rfl, rfl⟩
    walk_at "g"
    refine ⟨x, _, dx, _, rfl, hx, T.k_Row, T.a_Row__turns, by show 0 < 1000; decide, ?_⟩
    obtain ⟨H4, e4⟩ : ∃ H4, H4 = upd H3 x (.ins (He.ga K "Row") dx (putF "turns" (.ref t) [])) := ⟨_, rfl⟩
    have kp4 : Kp x H3 H4 := by rw [e4]; exact kp_upd x H3 _
    have hx4 : H4 x = some (.ins (He.ga K "Row") dx [("turns", .ref t)]) := by rw [e4]; exact upd_same
    rw [← e4]
    clear e4
    have tk := TuAt.kpi hT kp4 hx
    have sk := SQ.kpi hS kp4 hx
    walk_at "g"
    refine ⟨t, p, ks, ss, ts, rfl, tk, sk, hle, hin, fun l H5 s5 nl hl => ?_⟩
    obtain ⟨us, hl1, pl⟩ := hl
    refine ⟨l, _, rfl, .inl ⟨SqL.of hl1, fun st nst => ?_⟩⟩
    have s6 := same_upd (o := .tup (us.map V.ref)) nst
    obtain ⟨H6, e6⟩ : ∃ H6, H6 = upd H5 st (.tup (us.map V.ref)) := ⟨_, rfl⟩
    have hst : H6 st = some (.tup (us.map V.ref)) := by rw [e6]; exact upd_same
    rw [← e6] at s6 ⊢
    clear e6
    have s46 := s5.trans s6
    have pl6 := pl.sameS s6
    walk_at "g"
    refine ⟨x, _, dx, _, rfl, s46 _ _ hx4, T.k_Row, T.a_Row__steps, by show 1 < 1000; decide, ?_⟩
    obtain ⟨H7, e7⟩ : ∃ H7, H7 = upd H6 x (.ins (He.ga K "Row") dx (putF "steps" (.ref st) [("turns", .ref t)])) := ⟨_, rfl⟩
    have hx6 := s46 _ _ hx4
    have kp7 : Kp x H6 H7 := by rw [e7]; exact kp_upd x H6 _
    have hx7 : H7 x = some (.ins (He.ga K "Row") dx [("turns", .ref t), ("steps", .ref st)]) := by rw [e7]; exact upd_same
    rw [← e7]
    clear e7
    have no : ∀ {a : Addr} {xs : List V}, H6 a = some (.tup xs) → a ≠ x := fun h => ne_of h hx6 (by intro z; cases z)
    have hst7 := kp7 _ _ hst (no hst)
    have pl7 : P2 (SrT H7) us (normL (perOf ks) ss) := pl6.mono fun _ _ e => kp7 _ _ e (no e)
    have tk7 := TuAt.kpi (tk.same s46) kp7 hx6
    have ll := pl7.len
    have nle := @norm_len (perOf ks) ss
    have nin := norm_in hin
    have nnf := nf_norm (per := perOf ks) ss
    generalize normL (perOf ks) ss = ns at *
    walk_at "g"
    refine ⟨x, _, dx, _, _, rfl, hx7, T.k_Row, T.a_Row__steps, rfl, ?_⟩
    walk_at "g"
    refine ⟨⟨_, SqT.of hst7⟩, fun D nD => ?_⟩
    refine lc_ref walk_tup pl7 (fun y c H => ∃ q, y = .ref q ∧ KyT ks H q c) ?_ nD (by omega) (fun H s => s.seqT (SqT.of hst7)) (fun _ => rfl) ?_ ?_
    · rintro y c H H' acc hD kp ⟨q, rfl, hq⟩
      exact ⟨q, rfl, kp _ _ hq (ne_of hq hD (by intro z; cases z))⟩
    · intro u c hcm r H8 Q8 s8 q
      walk_at "g"
      exact ⟨t, u, c, ks, rfl, tk7.same s8, s8 _ _ r, nin c hcm, fun y H9 s9 ny hy => q _ _ s9 ⟨y, rfl, hy⟩⟩
    · intro ys H8 s8 hD8 py
      obtain ⟨as, rfl⟩ := py.ref (f := V.ref) (fun v b ⟨t, e, _⟩ => ⟨t, e⟩)
      have pa : P2 (KyT ks H8) as ns := (P2.map_l.mp py).mono fun t c ⟨t', e, r⟩ => by cases e; exact r
      walk_at "g"
      refine ⟨D, _, rfl, .inl ⟨SqL.of hD8, fun kk nkk => ?_⟩⟩
      have s9 := same_upd (o := .tup (as.map V.ref)) nkk
      obtain ⟨H9, e9⟩ : ∃ H9, H9 = upd H8 kk (.tup (as.map V.ref)) := ⟨_, rfl⟩
      have hkk : H9 kk = some (.tup (as.map V.ref)) := by rw [e9]; exact upd_same
      rw [← e9] at s9 ⊢
      clear e9
      have s79 := s8.trans s9
      have pa9 : P2 (KyT ks H9) as ns := pa.mono fun _ _ e => s9 _ _ e
      walk_at "g"
      refine ⟨x, _, dx, _, _, rfl, s79 _ _ hx7, T.k_Row, T.a_Row__steps, rfl, ?_⟩
      walk_at "g"
      refine ⟨_, _, rfl, .inr ⟨_, SqT.of (s79 _ _ hst7), rfl⟩, ?_⟩
      rw [List.length_map, ll]
      obtain ⟨dt, p1, p2, p3, p4, ht9, hp19, _⟩ := (tk7.same s79).ex
      walk_at "g"
      refine ⟨t, _, dt, _, _, rfl, ht9, T.k_Turns, T.a_Turns__pairs, rfl, ?_⟩
      walk_at "g"
      refine ⟨by show 3 ≤ sizeLine; decide, fun ky nky => ?_⟩
      have s10 := same_upd (o := .tup [.int (ns.length : Nat), .ref kk, .ref p1]) nky
      obtain ⟨H10, e10⟩ : ∃ H10, H10 = upd H9 ky (.tup [.int (ns.length : Nat), .ref kk, .ref p1]) := ⟨_, rfl⟩
      have hky : H10 ky = some (.tup [.int (ns.length : Nat), .ref kk, .ref p1]) := by rw [e10]; exact upd_same
      rw [← e10] at s10 ⊢
      clear e10
      have s710 := s79.trans s10
      have hx10 := s710 _ _ hx7
      walk_at "g"
      refine ⟨x, _, dx, _, rfl, hx10, T.k_Row, T.a_Row__key, by show 2 < 1000; decide, ?_⟩
      obtain ⟨H11, e11⟩ : ∃ H11, H11 = upd H10 x (.ins (He.ga K "Row") dx (rflds t st ky)) := ⟨_, rfl⟩
      show Q .non (upd H10 x (.ins (He.ga K "Row") dx (rflds t st ky)))
      have kp11 : Kp x H10 H11 := by rw [e11]; exact kp_upd x H10 _
      have hx11 : H11 x = some (.ins (He.ga K "Row") dx (rflds t st ky)) := by rw [e11]; exact upd_same
      rw [← e11]
      clear e11
      have no10 : ∀ {a : Addr} {xs : List V}, H10 a = some (.tup xs) → a ≠ x := fun h => ne_of h hx10 (by intro z; cases z)
      have k10 : ∀ {a : Addr} {xs : List V}, H10 a = some (.tup xs) → H11 a = some (.tup xs) := fun h => kp11 _ _ h (no10 h)
      refine k H11 ((kp4.trans s46.kp).trans (kp7.trans (s710.kp.trans kp11))) ⟨⟨dx, st, ky, kk, p1, as, hx11, ⟨us, k10 (s710 _ _ hst7), pl7.mono fun _ _ e => k10 (s710 _ _ e)⟩, k10 hky, k10 (s10 _ _ hkk), pa9.mono fun _ _ e => k10 (s10 _ _ e), ?_⟩, TuAt.kpi (tk7.same s710) kp11 hx10, ok, nnf, nin, by omega⟩
      obtain ⟨tp, a1, b1⟩ := hp19
      exact ⟨tp, k10 (s10 _ _ a1), b1.mono fun _ _ e => k10 (s10 _ _ e)⟩
theorem m_Row (T : Txt K mg) : Mak P w K mg base 5 "Row" (He.ga K "Row") (spRow K (He.ga K "Row") (He.ga K "Turns")) [] := by
  refine makN T.i_Row sc_Row___init__ (fun vs H Q E h => ?_) (fun dvs f fd hl F => binds_all F 3 rfl (fun _ _ _ _ _ _ _ us its h1 h2 => match us, its, h1, h2.trans hl with | [_, _, _], [_], _, _ => ⟨_, rfl, rfl⟩) (by intro e; rw [e] at hl; cases hl)) (walk_Row T)
  obtain ⟨x, dx, t, p, ks, ss, ts, rfl, _⟩ := h
  rfl
/-- Row(turns): the default is kept at an empty tuple -/
def spRow0 (CR CT d : Addr) : Sp := fun vs H Q _ => ∃ (x dx t : Addr) (ks : List SI), vs = [.ref x, .ref t, .ref d] ∧ H x = some (.ins CR dx []) ∧ TuAt CT H t ks ∧ KsOk ks ∧ ∀ (H' : Hp), Kp x H H' → RwAt CR CT H' x t ks [] → Q .non H'
theorem m_Row0 (T : Txt K mg) : ∃ d, Mak P w K mg base 5 "Row" (He.ga K "Row") (spRow0 (He.ga K "Row") (He.ga K "Turns") d) [.ref d] := by
  obtain ⟨f, fd, d, M, hm, F, he⟩ := T.e_Row.ex
  obtain ⟨ds, r, b⟩ := F.binds1 (ps := ["self", "turns", "steps"]) 2 0 (List.cons_ne_nil _ _) rfl (fun _ _ _ _ _ _ _ us its h1 h2 => match us, its, h1, h2 with | [_, _], [_], _, _ => ⟨_, rfl, rfl⟩)
  refine ⟨d, f, fd, ["self", "turns", "steps"], ds, M, F.ok sc_Row___init__ (fun vs H Q E h => ?_) (fun cdv A outer s H vs Q E hr h => ?_), hm, b, r⟩
  · obtain ⟨x, dx, t, ks, rfl, _⟩ := h
    rfl
  · obtain ⟨x, dx, t, ks, rfl, hx, hT, ok, k⟩ := h
    obtain ⟨t, h1, h2⟩ := @walk_Row P w K mg base T f cdv A outer s H _ Q E hr ⟨x, dx, t, d, ks, [], [], rfl, hx, hT, ok, SQ.nil (he H), Nat.zero_le _, (fun c hc => by cases hc), k⟩
    exact ⟨t, h1.nox, h2⟩
end
theorem mk_row {K : PySem.W.Frag} {CR CT : Addr} {H : Hp} {t p : Addr} {ks ss : List SI} {ts : List Addr} {Q : VK} (hT : TuAt CT H t ks) (ok : KsOk ks) (hS : SQ K H p ts ss) (hle : ss.length ≤ 10000) (hin : InK ks ss)
    (k : ∀ y H', Same H H' → RwAt CR CT H' y t ks (normL (perOf ks) ss) → Q (.ref y) H') :
    ∀ (x dx : Addr), H x = none → H dx = none → dx ≠ x → spRow K CR CT [.ref x, .ref t, .ref p] (upd (upd H dx (.own x)) x (.ins CR dx [])) (fun v H2 => v = .non ∧ Q (.ref x) H2) E0 := by
  intro x dx nx ndx ne
  have s := same_made (o := .ins CR dx []) (o2 := .own x) nx ndx
  exact ⟨x, dx, t, p, ks, ss, ts, rfl, upd_same, hT.same s, ok, hS.same s, hle, hin, fun H' kp hR => ⟨rfl, k x H' (mk_same kp nx ndx) hR⟩⟩
theorem mk_row0 {CR CT d : Addr} {H : Hp} {t : Addr} {ks : List SI} {Q : VK} (hT : TuAt CT H t ks) (ok : KsOk ks)
    (k : ∀ y H', Same H H' → RwAt CR CT H' y t ks [] → Q (.ref y) H') :
    ∀ (x dx : Addr), H x = none → H dx = none → dx ≠ x → spRow0 CR CT d [.ref x, .ref t, .ref d] (upd (upd H dx (.own x)) x (.ins CR dx [])) (fun v H2 => v = .non ∧ Q (.ref x) H2) E0 := by
  intro x dx nx ndx ne
  have s := same_made (o := .ins CR dx []) (o2 := .own x) nx ndx
  exact ⟨x, dx, t, ks, rfl, upd_same, hT.same s, ok, fun H' kp hR => ⟨rfl, k x H' (mk_same kp nx ndx) hR⟩⟩
end Tr

/-! # Picks, mixtures, sizes of rounds. -/
namespace Tr
open PySem L2
/-- steps of a reading that are plain -/
local macro_rules | `(tactic| walk_at "x") => `(tactic| (refine' ⟨_, _, _, _, rfl, rfl, ?k1, ?k2, ?_⟩; (case k1 => exact SqT.of (by assumption)); (case k2 => exact rfl)))
local macro_rules | `(tactic| walk_at "g") => `(tactic| repeat (first | (refine ⟨_, rfl, ?_⟩) | (refine ⟨_, _, rfl, rfl, ?_⟩) | (refine ⟨_, _, rfl, ?_⟩) | (refine ⟨rfl, ?_⟩) | walk_at "x"))


theorem d8k {x : Int} (h0 : 0 ≤ x) (h1 : x ≤ 5000) : Bd 8000 x := Bd.mono (n := 13) (by show x.natAbs < 2 ^ 13; omega) (by decide)
theorem seqIx {j n : Nat} (h : j < n) : seqIndex? (j : Int) n = some j := by
  unfold seqIndex?
  simp
  omega
theorem perm_erase {α : Type} {zs : List α} {j : Nat} {y : α} (h : zs[j]? = some y) : ([y] ++ zs.eraseIdx j).Perm zs := by
  obtain ⟨hj, e⟩ := List.getElem?_eq_some_iff.mp h
  rw [List.eraseIdx_eq_take_drop_succ]
  have e2 : zs = zs.take j ++ (y :: zs.drop (j + 1)) := by
    rw [← e, ← List.drop_eq_getElem_cons hj, List.take_append_drop]
  refine List.Perm.trans ?_ (List.Perm.of_eq e2.symm)
  exact (List.perm_middle (a := y) (l₁ := zs.take j) (l₂ := zs.drop (j + 1))).symm
theorem one_mul_le {a b : Int} (ha : 1 ≤ a) (hb : 1 ≤ b) : 1 ≤ a * b := Int.le_trans hb (by
  have := Int.mul_le_mul_of_nonneg_right ha (show 0 ≤ b by omega)
  rw [Int.one_mul] at this
  exact this)
section
variable {P : Program} {w : World} {K : PySem.W.Frag} {mg : Str → Option Value} {base : Heap}
def spPick : Sp := fun vs H Q _ => ∃ (p q l : Addr) (xs : List V) (N : Nat), vs = [.ref p, .ref l] ∧ Bag H p q N ∧ N < 900000 ∧ H l = some (.lst xs) ∧ 0 < xs.length ∧ xs.length ≤ 1000 ∧ ∀ v ∈ xs, ∀ H', Kp p H H' → Bag H' p q (N + 1) → Q v H'
theorem c__law_pick (T : Txt K mg) : Cal P w K mg base 2 "_law_pick" spPick [] := by
  have c__law_draw := @c__law_draw P w K mg base T
  refine calN T.d__law_pick sc__law_pick (fun vs H Q E h => ?_) (fun _ _ _ _ _ _ us hl => match us, hl with | [_, _], _ => rfl) (fun f cdv A outer s H vs Q E hr h => ?_)
  · obtain ⟨p, q, l, xs, N, rfl, _⟩ := h
    rfl
  · obtain ⟨p, q, l, xs, N, rfl, hB, hN, hl, x0, x1, k⟩ := h
    refine ⟨_, (pss_one (ps_ret (pe_ix ix_list (pv 1) (pe_cx c__law_draw hr (by first | decide | omega) rfl passL (pa_cons (pv 0) (pa_cons (pe_callB call_len (by rfl) T.b_len (by decide +kernel) (pa_cons (pv 1) pa_nil)) pa_nil))) (fun _ _ => rfl)))), ?_⟩
    walk_at "g"
    refine ⟨_, _, rfl, .inl ⟨_, SqL.of hl, rfl⟩, ?_⟩
    walk_at "g"
    refine ⟨p, q, _, N, rfl, hB, by omega, by omega, d8k (by omega) (by omega), fun v H1 kp1 hB1 v0 v1 => ?_⟩
    obtain ⟨j, rfl⟩ : ∃ j : Nat, v = (j : Int) := ⟨v.toNat, by omega⟩
    obtain ⟨_, _, hp, _⟩ := hB.at_
    have hj : j < xs.length := by omega
    refine ⟨l, _, (j : Int), xs[j], rfl, rfl, SqL.of (kp1 _ _ hl (ne_of hl hp (by intro z; cases z))), atI_nat (j := j) (List.getElem?_eq_getElem hj), ?_⟩
    exact k _ (List.getElem_mem hj) _ kp1 hB1
def spMixed : Sp := fun vs H Q _ => ∃ (p q l : Addr) (xs : List V) (N : Nat), vs = [.ref p, .ref l] ∧ Bag H p q N ∧ N < 900000 ∧ H l = some (.lst xs) ∧ xs.length ≤ 60 ∧ ∀ l2 ys H', Kp p H H' → Bag H' p q (N + 60) → H l2 = none → H' l2 = some (.lst ys) → ys.Perm xs → Q (.ref l2) H'
theorem c__law_mixed (T : Txt K mg) : Cal P w K mg base 2 "_law_mixed" spMixed [] := by
  have c__law_draw := @c__law_draw P w K mg base T
  refine calN T.d__law_mixed sc__law_mixed (fun vs H Q E h => ?_) (fun _ _ _ _ _ _ us hl => match us, hl with | [_, _], _ => rfl) (fun f cdv A outer s H vs Q E hr h => ?_)
  · obtain ⟨p, q, l, xs, N, rfl, _⟩ := h
    rfl
  · obtain ⟨p, q, l, xs, N, rfl, hB, hN, hl, x1, k⟩ := h
    refine ⟨_, (pss_cons (ps_par (i := 2) (j := 3) (by rfl) sc__law_mixed.nd rfl rfl (by decide) rfl rfl (pa_cons (pe_callTy call_list_of (by rfl) T.b_list (by decide +kernel) (pa_cons (pv 1) pa_nil)) (pa_cons (pe_lst pa_nil) pa_nil)) (by rfl))
      (pss_cons (ps_for PassesOwn.never rfl (pi_range1 (by rfl) T.b_range (pa_cons (pe_callB call_len (by rfl) T.b_len (by decide +kernel) (pa_cons (pv 1) pa_nil)) pa_nil)) (pg_name (i := 4) sc__law_mixed.nd rfl (Or.inl rfl)) (pss_one (ps_expr (pe_bm PySem.F.plainAttrs_list PySem.F.slot_list_append PySem.F.type_list_append mt_append (pv 3) (pa_cons (pe_bm PySem.F.plainAttrs_list PySem.F.slot_list_pop PySem.F.type_list_pop mt_popAt (pv 2) (pa_cons (pe_cx c__law_draw hr (by first | decide | omega) rfl passL (pa_cons (pv 0) (pa_cons (pe_callB call_len (by rfl) T.b_len (by decide +kernel) (pa_cons (pv 2) pa_nil)) pa_nil))) pa_nil)) pa_nil)))))
      (pss_one (ps_ret (pv 3))))), ?_⟩
    obtain ⟨_, _, hp, hq⟩ := hB.at_
    walk_at "g"
    refine ⟨l, _, rfl, .inl (SqL.of hl), fun lL nL => ?_⟩
    have s1 := same_upd (o := .lst xs) nL
    walk_at "g"
    refine ⟨by show 0 ≤ sizeLine; decide, fun lF nF => ?_⟩
    have s2 := same_upd (o := .lst []) nF
    have hL2 := s2 _ _ (upd_same (H := H) (a := lL) (o := .lst xs))
    have hF2 : upd (upd H lL (.lst xs)) lF (.lst []) lF = some (.lst []) := upd_same
    have s12 := s1.trans s2
    have nF0 : H lF = none := by
      cases e : H lF with
      | none => rfl
      | some o => rw [s1 _ _ e] at nF; cases nF
    have nLF : lL ≠ lF := fun e => by rw [← e, upd_same] at nF; cases nF
    have pL : lL ≠ p := (ne_of_none hp nL).symm
    have pF : lF ≠ p := (ne_of_none hp nF0).symm
    have qL : lL ≠ q := (ne_of_none hq nL).symm
    have qF : lF ≠ q := (ne_of_none hq nF0).symm
    generalize upd (upd H lL (.lst xs)) lF (.lst []) = H2 at *
    walk_at "g"
    refine ⟨_, _, rfl, .inl ⟨_, SqL.of (s12 _ _ hl), rfl⟩, ?_⟩
    walk_at "g"
    refine ⟨by omega, by omega, ?_⟩
    refine for_range (lo := 0) (n := xs.length) (fun i σ H' => ∃ (v4 : Option V) (ws zs : List V), σ = [some (.ref p), some (.ref l), some (.ref lL), some (.ref lF), v4] ∧ Kp p H H' ∧ Bag H' p q (N + i) ∧ H' lL = some (.lst zs) ∧ H' lF = some (.lst ws) ∧ (ws ++ zs).Perm xs ∧ ws.length = i) ⟨_, [], xs, rfl, s12.kp, hB.same s12, hL2, hF2, .refl _, rfl⟩ ?_ ?_
    · rintro i σ H3 hi ⟨v4, ws, zs, rfl, kp3, hB3, hL3, hF3, pm, wl⟩
      have zl : zs.length = xs.length - i := by
        have := pm.length_eq
        rw [List.length_append] at this
        omega
      walk_at "g"
      refine ⟨.inl ⟨rfl, _, SqL.of hF3⟩, ?_⟩
      walk_at "g"
      refine ⟨.inl ⟨rfl, _, SqL.of hL3⟩, ?_⟩
      walk_at "g"
      refine ⟨_, _, rfl, .inl ⟨_, SqL.of hL3, rfl⟩, ?_⟩
      walk_at "g"
      refine ⟨p, q, _, _, rfl, hB3, by omega, by omega, d8k (by omega) (by omega), fun v H4 kp4 hB4 v0 v1 => ?_⟩
      obtain ⟨j, rfl⟩ : ∃ j : Nat, v = (j : Int) := ⟨v.toNat, by omega⟩
      have hj : j < zs.length := by omega
      obtain ⟨_, _, hp3, hq3⟩ := hB3.at_
      have hL4 := kp4 _ _ hL3 pL
      have hF4 := kp4 _ _ hF3 pF
      have hy : zs[j]? = some zs[j] := List.getElem?_eq_getElem hj
      generalize zs[j] = y at hy
      refine ⟨lL, zs, (j : Int), j, y, rfl, rfl, hL4, by omega, by omega, seqIx hj, hy, ?_⟩
      have kp5 : Kp lL H4 (upd H4 lL (.lst (zs.eraseIdx j))) := kp_upd lL H4 _
      have hF5 := kp5 _ _ hF4 nLF.symm
      have hL5 : upd H4 lL (.lst (zs.eraseIdx j)) lL = some (.lst (zs.eraseIdx j)) := upd_same
      have hB5 := hB4.wr (o := .lst (zs.eraseIdx j)) pL qL
      have kq5 : Kp p H (upd H4 lL (.lst (zs.eraseIdx j))) := (kp3.trans kp4).wr nL
      generalize upd H4 lL (.lst (zs.eraseIdx j)) = H5 at *
      walk_at "g"
      refine ⟨lF, ws, _, rfl, rfl, hF5, small_app (m := 100000) (by omega) (Nat.le_refl _), ?_⟩
      refine ⟨_, ws ++ [y], zs.eraseIdx j, rfl, kq5.wr nF0, (hB5.wr pF qF).mono (by omega), by rw [upd_ne nLF]; exact hL5, upd_same, ?_, by rw [List.length_append, wl]; rfl⟩
      refine List.Perm.trans ?_ pm
      rw [List.append_assoc]
      refine List.Perm.append_left ws ?_
      exact perm_erase hy
    · rintro σ H3 ⟨v4, ws, zs, rfl, kp3, hB3, hL3, hF3, pm, wl⟩
      have hz : zs = [] := by
        have := pm.length_eq
        rw [List.length_append] at this
        exact List.eq_nil_of_length_eq_zero (by omega)
      subst hz
      rw [List.append_nil] at pm
      walk_at "g"
      exact k _ _ _ kp3 (hB3.mono (by omega)) nF0 hF3 pm
def spDivs : Sp := fun vs H Q _ => ∃ (n : Nat), vs = [.int (n : Int)] ∧ 1 ≤ n ∧ n ≤ 1000 ∧ ∀ l (ds : List Int) H', Same H H' → H' l = some (.lst (ds.map V.int)) → ds ≠ [] → ds.length ≤ n → (∀ d ∈ ds, 1 ≤ d ∧ d ≤ n ∧ (n : Int) % d = 0) → Q (.ref l) H'
theorem c__law_divisors (T : Txt K mg) : Cal P w K mg base 1 "_law_divisors" spDivs [] := by
  refine calN T.d__law_divisors sc__law_divisors (fun vs H Q E h => ?_) (fun _ _ _ _ _ _ us hl => match us, hl with | [_], _ => rfl) (fun f cdv A outer s H vs Q E hr h => ?_)
  · obtain ⟨n, rfl, _⟩ := h
    rfl
  · obtain ⟨n, rfl, n1, n2, k⟩ := h
    refine ⟨_, (pss_one (ps_ret (pe_lc (own := [("_law_k", 1)]) (g := gName 1) rfl sc__law_divisors.nd (pi_range2 (by rfl) T.b_range (pa_cons pe_int (pa_cons (pe_op op_add (pv 0) pe_int) pa_nil))) (blkOk_by (own := [("_law_k", 1)]) (N := ["_law_number", "_law_k"]) (sc := defScope s__law_divisors) (by decide +kernel)) (fun _ _ _ _ _ => (pg_name (i := 1) sc__law_divisors.nd rfl (Or.inl rfl))) (fun _ _ _ _ _ => (pts_one (pt_cmpR op_eq (pe_op op_mod (pv 0) (pv 1)) pe_int (nomark _)))) (fun _ _ _ _ _ => (pv 1))))), ?_⟩
    walk_at "g"
    refine ⟨⟨by decide, by decide, by omega, by omega⟩, fun D nD => ?_⟩
    rw [show ((n : Int) + 1 - 1).toNat = n by omega]
    refine lc_rng (fun i : Nat => decide ((n : Int) % (1 + (i : Int)) = 0)) (fun y i H => y = .int (1 + (i : Int))) (fun y c H H' acc _ _ e => e) nD (by omega) (fun _ => rfl) ?_ ?_ ?_
    · intro i hi H3 Q3 s3 q
      walk_at "g"
      refine ⟨by omega, ?_⟩
      walk_at "g"
      rw [dI]
      exact q _ (Same.refl _)
    · intro i hi _ H3 Q3 s3 q
      walk_at "g"
      exact q _ _ (Same.refl _) rfl
    · intro ys H3 s3 hD3 py
      obtain ⟨ds, hds⟩ : ∃ ds, ds = ((List.range n).filter fun i : Nat => decide ((n : Int) % (1 + (i : Int)) = 0)).map fun i : Nat => 1 + (i : Int) := ⟨_, rfl⟩
      have ey : ys = ds.map V.int := by
        rw [hds, List.map_map]
        exact P2.eq_map (g := fun i : Nat => V.int (1 + (i : Int))) py
      rw [ey] at hD3
      refine k D ds H3 s3 hD3 ?_ ?_ ?_
      · have : (1 : Int) ∈ ds := by
          rw [hds]
          refine List.mem_map.mpr ⟨0, List.mem_filter.mpr ⟨List.mem_range.mpr (by omega), decide_eq_true (by show (n : Int) % (1 + ((0 : Nat) : Int)) = 0; omega)⟩, rfl⟩
        intro e
        rw [e] at this
        cases this
      · rw [hds, List.length_map]
        have := List.length_filter_le (fun i : Nat => decide ((n : Int) % (1 + (i : Int)) = 0)) (List.range n)
        rw [List.length_range] at this
        exact this
      · intro d hd
        rw [hds] at hd
        obtain ⟨i, hi, rfl⟩ := List.mem_map.mp hd
        obtain ⟨h1, h2⟩ := List.mem_filter.mp hi
        have := List.mem_range.mp h1
        exact ⟨by omega, by omega, of_decide_eq_true h2⟩
def spSize : Sp := fun vs H Q _ => ∃ (p q : Addr) (per far : Int) (N : Nat), vs = [.ref p, .int per, .int far] ∧ Bag H p q N ∧ N < 800000 ∧ 1 ≤ far ∧ Bd 140 far ∧ (per = 0 ∨ ∃ b, 2 ≤ b ∧ b ≤ 12 ∧ per = b * far) ∧ ∀ sz H', Kp p H H' → Bag H' p q (N + 2) → 1 ≤ sz → per % sz = 0 → sz ≤ 12 * far → Q (.int sz) H'
theorem c__law_size (T : Txt K mg) : Cal P w K mg base 3 "_law_size" spSize [] := by
  have c__law_draw := @c__law_draw P w K mg base T
  have c__law_pick := @c__law_pick P w K mg base T
  have c__law_divisors := @c__law_divisors P w K mg base T
  refine calN T.d__law_size sc__law_size (fun vs H Q E h => ?_) (fun _ _ _ _ _ _ us hl => match us, hl with | [_, _, _], _ => rfl) (fun f cdv A outer s H vs Q E hr h => ?_)
  · obtain ⟨p, q, per, far, N, rfl, _⟩ := h
    rfl
  · obtain ⟨p, q, per, far, N, rfl, hB, hN, f1, fB, hper, k⟩ := h
    refine ⟨_, (pss_cons (ps_if (pt_cmpR op_eq (pv 1) pe_int (nomark _)) (pss_one (ps_ret (pe_op op_mul (pe_cx c__law_pick hr (by first | decide | omega) rfl passL (pa_cons (pv 0) (pa_cons (pe_lst (pa_cons pe_int (pa_cons pe_int (pa_cons pe_int (pa_cons pe_int (pa_cons pe_int (pa_cons pe_int (pa_cons pe_int pa_nil)))))))) pa_nil))) (pe_ifExp (pt_cmpR op_eq (pe_cx c__law_draw hr (by first | decide | omega) rfl passL (pa_cons (pv 0) (pa_cons pe_int pa_nil))) pe_int (nomark _)) (pv 2) pe_int)))) pss_nil)
      (pss_cons (ps_set (i := 3) sc__law_size.nd rfl (Or.inl rfl) (pe_cx c__law_pick hr (by first | decide | omega) rfl passL (pa_cons (pv 0) (pa_cons (pe_cx c__law_divisors hr (by first | decide | omega) rfl passL (pa_cons (pe_op op_fdivW (pv 1) (pv 2)) pa_nil)) pa_nil))))
      (pss_one (ps_ret (pe_op op_mul (pv 3) (pe_ifExp (pt_cmpR op_eq (pe_cx c__law_draw hr (by first | decide | omega) rfl passL (pa_cons (pv 0) (pa_cons pe_int pa_nil))) pe_int (nomark _)) (pv 2) pe_int)))))), ?_⟩
    obtain ⟨_, _, hp, hq⟩ := hB.at_
    walk_at "g"
    refine iteB (fun c1 => ?_) (fun c1 => ?_)
    · have c1 := of_dI c1
      subst c1
      walk_at "g"
      refine ⟨by show 7 ≤ sizeLine; decide, fun ql nql => ?_⟩
      have s1 := same_upd (o := .lst [.int 1, .int 2, .int 3, .int 4, .int 5, .int 7, .int 6]) nql
      refine ⟨p, q, ql, _, N, rfl, hB.same s1, by omega, upd_same, by show 0 < 7; decide, by show 7 ≤ 1000; decide, fun v hv H2 kp2 hB2 => ?_⟩
      obtain ⟨m, rfl, m1, m7⟩ : ∃ m : Int, v = .int m ∧ 1 ≤ m ∧ m ≤ 7 := by
        simp only [List.mem_cons, List.not_mem_nil, or_false] at hv
        rcases hv with rfl | rfl | rfl | rfl | rfl | rfl | rfl <;> exact ⟨_, rfl, by decide, by decide⟩
      walk_at "g"
      refine ⟨p, q, 2, _, rfl, hB2, by omega, by decide, d8k (by decide) (by decide), fun v3 H3 kp3 hB3 v30 v31 => ?_⟩
      have kp13 := s1.kp.trans (kp2.trans kp3)
      walk_at "g"
      refine iteB (fun c2 => ?_) (fun c2 => ?_)
      · walk_at "g"
        refine ⟨.inl ⟨by omega, by omega⟩, ?_⟩
        exact k _ _ kp13 hB3 (one_mul_le (by omega) f1) (by rw [Int.zero_emod]) (Int.mul_le_mul_of_nonneg_right (by omega) (by omega))
      · walk_at "g"
        refine ⟨.inl ⟨by omega, by omega⟩, ?_⟩
        exact k _ _ kp13 hB3 (by omega) (by rw [Int.zero_emod]) (by omega)
    · have c1 := of_dI' c1
      obtain ⟨b, b2, b12, rfl⟩ : ∃ b, 2 ≤ b ∧ b ≤ 12 ∧ per = b * far := hper.resolve_left c1
      walk_at "g"
      refine ⟨cdivw (by omega) fB (by decide), ?_⟩
      have eb : b * far / far = b := Int.mul_ediv_cancel b (by omega)
      refine ⟨b.toNat, by show [V.int (b * far / far)] = [V.int (b.toNat : Int)]; rw [eb, Int.toNat_of_nonneg (by omega)], by omega, by omega, fun l ds H1 s1 hl dne dl hd => ?_⟩
      walk_at "g"
      refine ⟨p, q, l, _, N, rfl, hB.same s1, by omega, hl, by rw [List.length_map]; exact List.length_pos_iff.mpr dne, by rw [List.length_map]; omega, fun v hv H2 kp2 hB2 => ?_⟩
      obtain ⟨m, hm, rfl⟩ := List.mem_map.mp hv
      obtain ⟨m1, m2, m3⟩ := hd m hm
      rw [Int.toNat_of_nonneg (by omega)] at m2 m3
      have dv : m ∣ b := Int.dvd_of_emod_eq_zero m3
      walk_at "g"
      refine ⟨p, q, 2, _, rfl, hB2, by omega, by decide, d8k (by decide) (by decide), fun v3 H3 kp3 hB3 v30 v31 => ?_⟩
      have kp13 := s1.kp.trans (kp2.trans kp3)
      walk_at "g"
      refine iteB (fun c2 => ?_) (fun c2 => ?_)
      · walk_at "g"
        refine ⟨.inl ⟨by omega, by omega⟩, ?_⟩
        exact k _ _ kp13 hB3 (one_mul_le (by omega) f1) (Int.emod_eq_zero_of_dvd (Int.mul_dvd_mul dv (Int.dvd_refl far))) (Int.mul_le_mul_of_nonneg_right (by omega) (by omega))
      · walk_at "g"
        refine ⟨.inl ⟨by omega, by omega⟩, ?_⟩
        exact k _ _ kp13 hB3 (by omega) (by rw [Int.mul_one]; exact Int.emod_eq_zero_of_dvd (Int.dvd_trans dv (Int.dvd_mul_right b far))) (by omega)
end
end Tr

/-! # The laws' words. -/
namespace Tr
open PySem L2 TL
/-- steps of a reading that are plain -/
local macro_rules | `(tactic| walk_at "x") => `(tactic| (refine' ⟨_, _, _, _, rfl, rfl, ?k1, ?k2, ?_⟩; (case k1 => exact SqT.of (by assumption)); (case k2 => exact rfl)))
local macro_rules | `(tactic| walk_at "g") => `(tactic| repeat (first | (refine ⟨_, rfl, ?_⟩) | (refine ⟨_, _, rfl, rfl, ?_⟩) | (refine ⟨_, _, rfl, ?_⟩) | (refine ⟨rfl, ?_⟩) | walk_at "x"))


theorem mulOk0 {z : Str} {n : Int} (hz : z.length = 1) (h0 : 0 ≤ n) (h1 : n ≤ 100) : MulOk z n := by
  rcases Int.lt_or_eq_of_le h0 with h | rfl
  · exact mulOk_small hz h h1
  · exact ⟨by rw [decide_eq_false (by omega), decide_eq_false (by omega)]; rfl, fun h => (h (by omega)).elim, fun h => (h (by omega)).elim⟩
theorem tl_mul0 {z : Str} {n : Int} (hz : z.length = 1) (h0 : 0 ≤ n) : tl (Txt.mul z n) = (List.replicate n.toNat (tl z)).flatten := by
  rcases Int.lt_or_eq_of_le h0 with h | rfl
  · exact tl_mul hz h
  · unfold Txt.mul
    rw [if_pos (by omega)]
    rfl
def LD (c : Nat) : Prop := isL c ∨ isD c
def sgn : Str := "abcdefghijklmnopqrstuvwxyz0123456789"
theorem tl_sgn : tl sgn = List.range' 97 26 ++ List.range' 48 10 := by
  unfold sgn
  rw [tl_ofString]
  decide
theorem sgn_len : sgn.length ≤ sizeLine := by
  rw [len_tl, tl_sgn]
  decide
theorem sgn_at {j : Nat} (h : j < 36) : ∃ c, atI (sgn.cps.toList) (j : Int) = some c ∧ LD c := by
  by_cases hj : j < 26
  · refine ⟨97 + j, atI_nat ?_, .inl ⟨by omega, by omega⟩⟩
    show (tl sgn)[j]? = _
    rw [tl_sgn, List.getElem?_append_left (by rw [List.length_range']; exact hj), List.getElem?_range' hj]
    simp
  · refine ⟨48 + (j - 26), atI_nat ?_, .inr ⟨by omega, by omega⟩⟩
    show (tl sgn)[j]? = _
    rw [tl_sgn, List.getElem?_append_right (by rw [List.length_range']; omega), List.length_range', List.getElem?_range' (by omega)]
    simp
/-- n times one sign -/
def Rep (z : Str) (n : Nat) : Prop := (tl z).length ≤ n ∧ ∀ c ∈ tl z, LD c
theorem rep_mul {c : Nat} (hc : LD c) {n : Int} {m : Nat} (h0 : 0 ≤ n) (h1 : n ≤ m) : Rep (Txt.mul ⟨#[c]⟩ n) m := by
  have e : tl (Txt.mul ⟨#[c]⟩ n) = List.replicate n.toNat c := by
    rw [tl_mul0 rfl h0]
    show (List.replicate _ [c]).flatten = _
    rw [List.flatten_replicate_singleton]
  refine ⟨by rw [e, List.length_replicate]; omega, fun d hd => ?_⟩
  rw [e] at hd
  rw [List.eq_of_mem_replicate hd]
  exact hc
theorem Rep.app {y z : Str} {n m : Nat} (h : Rep y n) (h' : Rep z m) : Rep (y ++ z) (n + m) := by
  refine ⟨by rw [tl_append, List.length_append]; have := h.1; have := h'.1; omega, fun c hc => ?_⟩
  rw [tl_append] at hc
  exact (List.mem_append.mp hc).elim (h.2 c) (h'.2 c)
theorem Rep.len {z : Str} {n : Nat} (h : Rep z n) (hn : n ≤ 1000) : z.length ≤ sizeLine := by
  rw [len_tl]
  exact Nat.le_trans h.1 (Nat.le_trans hn (by decide))
/-- the k-th word of a kind begins so -/
def wordL (h f pl : Nat) (st : List Nat) (k : Nat) : List Nat :=
  if pl = 0 then (97 + (f + 5 * k) % 26) :: st else if pl = 1 then h :: (97 + (f + 5 * k) % 26) :: st else h :: (st ++ [97 + (f + 5 * k) % 26])
theorem wordL_len (h f pl : Nat) (st : List Nat) (j k : Nat) : (wordL h f pl st j).length = (wordL h f pl st k).length := by
  unfold wordL
  split
  · rfl
  · split
    · rfl
    · simp
theorem wordL_inj {h f pl : Nat} {st : List Nat} {j k : Nat} (hj : j < 26) (hk : k < 26) {s t : List Nat} (e : wordL h f pl st j ++ s = wordL h f pl st k ++ t) : j = k := by
  have e2 := (List.append_inj e (wordL_len h f pl st j k)).1
  have e3 : (f + 5 * j) % 26 = (f + 5 * k) % 26 := by
    unfold wordL at e2
    split at e2
    · have := (List.cons.inj e2).1
      omega
    · split at e2
      · have := (List.cons.inj (List.cons.inj e2).2).1
        omega
      · have := List.append_inj_right' (List.cons.inj e2).2 rfl
        have := (List.cons.inj this).1
        omega
  omega
theorem app_len (a b : Str) : (a ++ b).length = a.length + b.length := by rw [len_tl, len_tl, len_tl, tl_append, List.length_append]
section
variable {P : Program} {w : World} {K : PySem.W.Frag} {mg : Str → Option Value} {base : Heap}
def spWords : Sp := fun vs H Q _ => ∃ (p q : Addr) (m : Nat) (N : Nat), vs = [.ref p, .int (m : Int)] ∧ Bag H p q N ∧ N < 800000 ∧ m ≤ 10 ∧ ∀ l (ns : List Str) H', Kp p H H' → Bag H' p q (N + 50) → H l = none → H' l = some (.lst (ns.map V.str)) → ns.length = m → ns.Nodup → (∀ z ∈ ns, NmOk z ∧ (tl z).length ≤ 11) → Q (.ref l) H'
theorem c__law_words (T : Txt K mg) : Cal P w K mg base 2 "_law_words" spWords [] := by
  have c__law_draw := @c__law_draw P w K mg base T
  refine calN T.d__law_words sc__law_words (fun vs H Q E h => ?_) (fun _ _ _ _ _ _ us hl => match us, hl with | [_, _], _ => rfl) (fun f cdv A outer s H vs Q E hr h => ?_)
  · obtain ⟨p, q, m, N, rfl, _⟩ := h
    rfl
  · obtain ⟨p, q, m, N, rfl, hB, hN, hm, k⟩ := h
    refine ⟨_, (pss_cons (ps_asg (pe_tup (pa_cons pe_str (pa_cons pe_str pa_nil))) (pg_tup rfl (pgs_cons (pg_name (i := 2) sc__law_words.nd rfl (Or.inl rfl)) (pgs_cons (pg_name (i := 3) sc__law_words.nd rfl (Or.inl rfl)) pgs_nil))))
      (pss_cons (ps_par3 (i := 4) (j := 5) (l := 6) (by rfl) sc__law_words.nd rfl rfl rfl (by decide) (by decide) (by decide) rfl rfl rfl (pa_cons (pe_ix ix_str (pv 2) (pe_cx c__law_draw hr (by first | decide | omega) rfl passL (pa_cons (pv 0) (pa_cons pe_int pa_nil))) (fun _ _ => rfl)) (pa_cons (pe_cx c__law_draw hr (by first | decide | omega) rfl passL (pa_cons (pv 0) (pa_cons pe_int pa_nil))) (pa_cons (pe_cx c__law_draw hr (by first | decide | omega) rfl passL (pa_cons (pv 0) (pa_cons pe_int pa_nil))) pa_nil))) (by rfl))
      (pss_cons (ps_set (i := 7) sc__law_words.nd rfl (Or.inl rfl) (pe_op op_add_str (pe_op op_mulS (pe_ix ix_str (pv 3) (pe_cx c__law_draw hr (by first | decide | omega) rfl passL (pa_cons (pv 0) (pa_cons pe_int pa_nil))) (fun _ _ => rfl)) (pe_cx c__law_draw hr (by first | decide | omega) rfl passL (pa_cons (pv 0) (pa_cons pe_int pa_nil)))) (pe_op op_mulS (pe_ix ix_str (pv 3) (pe_cx c__law_draw hr (by first | decide | omega) rfl passL (pa_cons (pv 0) (pa_cons pe_int pa_nil))) (fun _ _ => rfl)) (pe_cx c__law_draw hr (by first | decide | omega) rfl passL (pa_cons (pv 0) (pa_cons pe_int pa_nil))))))
      (pss_cons (ps_set (i := 8) sc__law_words.nd rfl (Or.inl rfl) (pe_lst pa_nil))
      (pss_cons (ps_for PassesOwn.never rfl (pi_range1 (by rfl) T.b_range (pa_cons (pv 1) pa_nil)) (pg_name (i := 9) sc__law_words.nd rfl (Or.inl rfl)) (pss_cons (ps_set (i := 10) sc__law_words.nd rfl (Or.inl rfl) (pe_ix ix_str (pv 2) (pe_op op_mod (pe_callTy call_int1 (by rfl) T.b_int (by decide +kernel) (pa_cons (pe_op op_add (pv 5) (pe_op op_mul pe_int (pv 9))) pa_nil)) pe_int) (fun _ _ => rfl)))
      (pss_cons (ps_set (i := 11) sc__law_words.nd rfl (Or.inl rfl) (pe_op op_mulS (pe_ix ix_str (pv 3) (pe_cx c__law_draw hr (by first | decide | omega) rfl passL (pa_cons (pv 0) (pa_cons pe_int pa_nil))) (fun _ _ => rfl)) (pe_cx c__law_draw hr (by first | decide | omega) rfl passL (pa_cons (pv 0) (pa_cons pe_int pa_nil)))))
      (pss_one (ps_expr (pe_bm PySem.F.plainAttrs_list PySem.F.slot_list_append PySem.F.type_list_append mt_append (pv 8) (pa_cons (pe_op op_add_str (pe_ix ix_list (pe_lst (pa_cons (pe_op op_add_str (pv 10) (pv 7)) (pa_cons (pe_op op_add_str (pe_op op_add_str (pv 4) (pv 10)) (pv 7)) (pa_cons (pe_op op_add_str (pe_op op_add_str (pv 4) (pv 7)) (pv 10)) pa_nil)))) (pv 6) (fun _ _ => rfl)) (pv 11)) pa_nil)))))))
      (pss_one (ps_ret (pv 8)))))))), ?_⟩
    walk_at "g"
    refine ⟨(by decide : 2 ≤ sizeLine), fun tp ntp => ?_⟩
    have s0 := same_upd (o := .tup [.str "abcdefghijklmnopqrstuvwxyz", .str "abcdefghijklmnopqrstuvwxyz0123456789"]) ntp
    refine ⟨tp, _, rfl, SqT.of upd_same, rfl, ?_⟩
    have hB := hB.same s0
    generalize upd H tp (.tup [.str "abcdefghijklmnopqrstuvwxyz", .str "abcdefghijklmnopqrstuvwxyz0123456789"]) = H0 at *
    walk_at "g"
    refine ⟨p, q, 26, N, rfl, hB, by omega, by decide, d8k (by decide) (by decide), fun v1 H1 kp1 hB1 v10 v11 => ?_⟩
    obtain ⟨h1, rfl⟩ : ∃ j : Nat, v1 = (j : Int) := ⟨v1.toNat, by omega⟩
    refine ⟨_, (h1 : Int), _, rfl, rfl, abc_len, abc_at (by omega), ?_⟩
    walk_at "g"
    refine ⟨p, q, 26, _, rfl, hB1, by omega, by decide, d8k (by decide) (by decide), fun v2 H2 kp2 hB2 v20 v21 => ?_⟩
    obtain ⟨fi, rfl⟩ : ∃ j : Nat, v2 = (j : Int) := ⟨v2.toNat, by omega⟩
    walk_at "g"
    refine ⟨p, q, 3, _, rfl, hB2, by omega, by decide, d8k (by decide) (by decide), fun v3 H3 kp3 hB3 v30 v31 => ?_⟩
    obtain ⟨pl, rfl⟩ : ∃ j : Nat, v3 = (j : Int) := ⟨v3.toNat, by omega⟩
    refine ⟨_, _, _, rfl, ?_⟩
    walk_at "g"
    refine ⟨p, q, 36, _, rfl, hB3, by omega, by decide, d8k (by decide) (by decide), fun v4 H4 kp4 hB4 v40 v41 => ?_⟩
    obtain ⟨j4, rfl⟩ : ∃ j : Nat, v4 = (j : Int) := ⟨v4.toNat, by omega⟩
    obtain ⟨c4, hc4, lc4⟩ := sgn_at (j := j4) (by omega)
    refine ⟨_, (j4 : Int), _, rfl, rfl, sgn_len, hc4, ?_⟩
    walk_at "g"
    refine ⟨p, q, 4, _, rfl, hB4, by omega, by decide, d8k (by decide) (by decide), fun v5 H5 kp5 hB5 v50 v51 => ?_⟩
    have r5 : Rep (Txt.mul ⟨#[c4]⟩ v5) 3 := rep_mul lc4 v50 (by omega)
    refine ⟨_, _, rfl, rfl, mulOk0 rfl v50 (by omega), ?_⟩
    generalize Txt.mul (⟨#[c4]⟩ : Str) v5 = z5 at *
    walk_at "g"
    refine ⟨p, q, 36, _, rfl, hB5, by omega, by decide, d8k (by decide) (by decide), fun v6 H6 kp6 hB6 v60 v61 => ?_⟩
    obtain ⟨j6, rfl⟩ : ∃ j : Nat, v6 = (j : Int) := ⟨v6.toNat, by omega⟩
    obtain ⟨c6, hc6, lc6⟩ := sgn_at (j := j6) (by omega)
    refine ⟨_, (j6 : Int), _, rfl, rfl, sgn_len, hc6, ?_⟩
    walk_at "g"
    refine ⟨p, q, 4, _, rfl, hB6, by omega, by decide, d8k (by decide) (by decide), fun v7 H7 kp7 hB7 v70 v71 => ?_⟩
    have r7 : Rep (Txt.mul ⟨#[c6]⟩ v7) 3 := rep_mul lc6 v70 (by omega)
    refine ⟨_, _, rfl, rfl, mulOk0 rfl v70 (by omega), ?_⟩
    generalize Txt.mul (⟨#[c6]⟩ : Str) v7 = z7 at *
    walk_at "g"
    have l5 : z5.length ≤ 3 := by rw [len_tl]; exact r5.1
    have l7 : z7.length ≤ 3 := by rw [len_tl]; exact r7.1
    refine ⟨Nat.le_trans (show _ ≤ 6 by omega) (by decide), ?_⟩
    have r57 := r5.app r7
    obtain ⟨st, est⟩ : ∃ st, st = tl (z5 ++ z7) := ⟨_, rfl⟩
    have rst : st.length ≤ 6 ∧ ∀ c ∈ st, LD c := by rw [est]; exact r57
    generalize z5 ++ z7 = zs at *
    clear r5 r7 l5 l7
    have kp07 : Kp p H H7 := s0.kp.trans (kp1.trans (kp2.trans (kp3.trans (kp4.trans (kp5.trans (kp6.trans kp7))))))
    walk_at "g"
    refine ⟨by show 0 ≤ sizeLine; decide, fun D nD => ?_⟩
    have s8 := same_upd (o := .lst []) nD
    have hB8 := hB7.same s8
    have hD8 : upd H7 D (.lst []) D = some (.lst []) := upd_same
    obtain ⟨_, _, hp7, hq7⟩ := hB7.at_
    have Dp : D ≠ p := (ne_of_none hp7 nD).symm
    have Dq : D ≠ q := (ne_of_none hq7 nD).symm
    have nD0 : H D = none := by
      cases e : H D with
      | none => rfl
      | some o => rw [kp07 _ _ e Dp] at nD; cases nD
    have kp08 := kp07.trans s8.kp
    have stl : zs.length ≤ 6 := by rw [len_tl, ← est]; exact rst.1
    generalize upd H7 D (.lst []) = H8 at *
    clear kp1 kp2 kp3 kp4 kp5 kp6 kp7 hB1 hB2 hB3 hB4 hB5 hB6 s0 s8
    walk_at "g"
    refine ⟨by omega, by omega, ?_⟩
    refine for_range (lo := 0) (n := m) (fun i σ H' => ∃ (v9 v10 v11 : Option V) (ns : List Str), σ = [some (.ref p), some (.int (m : Int)), some (.str abc), some (.str sgn), some (.str ⟨#[97 + h1]⟩), some (.int (fi : Int)), some (.int (pl : Int)), some (.str zs), some (.ref D), v9, v10, v11] ∧ Kp p H H' ∧ Bag H' p q (N + 10 + 2 * i) ∧ H' D = some (.lst (ns.map V.str)) ∧
      ns.length = i ∧ (∀ j z, ns[j]? = some z → ∃ r, tl z = wordL (97 + h1) fi pl st j ++ r ∧ r.length ≤ 2 ∧ ∀ c ∈ r, LD c)) ⟨_, _, _, [], rfl, kp08, hB8.mono (by omega), hD8, rfl, fun j z h => by simp at h⟩ ?_ ?_
    · rintro i σ H9 hi ⟨v9, v10, v11, ns, rfl, kp9, hB9, hD9, nl, hw⟩
      walk_at "g"
      refine ⟨.inl ⟨by decide, by decide⟩, ?_⟩
      walk_at "g"
      refine .inl ⟨_, rfl, ?_⟩
      walk_at "g"
      refine ⟨by show (0 : Int) < 26; decide, ?_⟩
      refine ⟨_, (((fi + 5 * i) % 26 : Nat) : Int), _, rfl, ?_, abc_len, abc_at (Nat.mod_lt _ (by decide)), ?_⟩
      · show V.int (((fi : Int) + 5 * (0 + (i : Int))) % 26) = _
        congr 1
        omega
      walk_at "g"
      refine ⟨p, q, 36, _, rfl, hB9, by omega, by decide, d8k (by decide) (by decide), fun w1 HA kpA hBA w10 w11 => ?_⟩
      obtain ⟨j1, rfl⟩ : ∃ j : Nat, w1 = (j : Int) := ⟨w1.toNat, by omega⟩
      obtain ⟨c1, hc1, lc1⟩ := sgn_at (j := j1) (by omega)
      refine ⟨_, (j1 : Int), _, rfl, rfl, sgn_len, hc1, ?_⟩
      walk_at "g"
      refine ⟨p, q, 3, _, rfl, hBA, by omega, by decide, d8k (by decide) (by decide), fun w2 HB kpB hBB w20 w21 => ?_⟩
      have rt : Rep (Txt.mul ⟨#[c1]⟩ w2) 2 := rep_mul lc1 w20 (by omega)
      refine ⟨_, _, rfl, rfl, mulOk0 rfl w20 (by omega), ?_⟩
      generalize Txt.mul (⟨#[c1]⟩ : Str) w2 = tt at *
      have ltt : tt.length ≤ 2 := by rw [len_tl]; exact rt.1
      have hDB := (kpA.trans kpB) _ _ hD9 Dp
      walk_at "g"
      refine ⟨.inl ⟨rfl, _, SqL.of hDB⟩, ?_⟩
      walk_at "g"
      obtain ⟨sg, esg⟩ : ∃ sg : Str, sg = ⟨#[97 + (fi + 5 * i) % 26]⟩ := ⟨_, rfl⟩
      obtain ⟨hd, ehd⟩ : ∃ hd : Str, hd = ⟨#[97 + h1]⟩ := ⟨_, rfl⟩
      have lsg : sg.length = 1 := by rw [esg]; rfl
      have lhd : hd.length = 1 := by rw [ehd]; rfl
      have tsg : tl sg = [97 + (fi + 5 * i) % 26] := by rw [esg]
      have thd : tl hd = [97 + h1] := by rw [ehd]
      rw [← ehd, ← esg]
      have small : ∀ {n : Nat}, n ≤ 20 → n ≤ sizeLine := fun h => Nat.le_trans h (by decide)
      refine ⟨small (by omega), ?_⟩
      walk_at "g"
      refine ⟨small (by omega), ?_⟩
      walk_at "g"
      refine ⟨small (by rw [app_len]; omega), ?_⟩
      walk_at "g"
      refine ⟨small (by omega), ?_⟩
      walk_at "g"
      refine ⟨small (by rw [app_len]; omega), ?_⟩
      walk_at "g"
      refine ⟨(by show 3 ≤ sizeLine; decide), fun l3 nl3 => ?_⟩
      have sC := same_upd (o := .lst [.str (sg ++ zs), .str (hd ++ sg ++ zs), .str (hd ++ zs ++ sg)]) nl3
      obtain ⟨wd, hwd, twd⟩ : ∃ wd : Str, ([.str (sg ++ zs), .str (hd ++ sg ++ zs), .str (hd ++ zs ++ sg)] : List V)[pl]? = some (.str wd) ∧ tl wd = wordL (97 + h1) fi pl st i := by
        have hpl : pl = 0 ∨ pl = 1 ∨ pl = 2 := by omega
        rcases hpl with rfl | rfl | rfl
        · exact ⟨_, rfl, by rw [tl_append, tsg, ← est]; rfl⟩
        · exact ⟨_, rfl, by rw [tl_append, tl_append, tsg, thd, ← est]; rfl⟩
        · exact ⟨_, rfl, by rw [tl_append, tl_append, tsg, thd, ← est]; rfl⟩
      walk_at "g"
      refine ⟨l3, _, (pl : Int), .str wd, rfl, rfl, SqL.of upd_same, atI_nat (j := pl) hwd, ?_⟩
      have lwd : wd.length ≤ 8 := by
        rw [len_tl, twd]
        unfold wordL
        split
        · rw [List.length_cons]; omega
        · split
          · rw [List.length_cons, List.length_cons]; omega
          · rw [List.length_cons, List.length_append, List.length_singleton]; omega
      walk_at "g"
      refine ⟨small (by omega), ?_⟩
      walk_at "g"
      have hBC := hBB.same sC
      have hDC := sC _ _ hDB
      generalize upd HB l3 _ = HC at *
      refine ⟨D, _, _, rfl, rfl, hDC, small_app (m := 100000) (by rw [List.length_map]; omega) (Nat.le_refl _), ?_⟩
      refine ⟨_, _, _, ns ++ [wd ++ tt], rfl, (((kp9.trans kpA).trans kpB).trans sC.kp).wr nD0, (hBC.wr Dp Dq).mono (by omega), by rw [List.map_append]; exact upd_same, by rw [List.length_append, nl]; rfl, fun j z hz => ?_⟩
      by_cases hj : j < ns.length
      · rw [List.getElem?_append_left hj] at hz
        exact hw j z hz
      · rw [List.getElem?_append_right (by omega)] at hz
        have hj0 : j - ns.length = 0 := by
          have := (List.getElem?_eq_some_iff.mp hz).1
          simp at this
          omega
        rw [hj0] at hz
        cases hz
        rw [show j = i by omega]
        exact ⟨tl tt, by rw [tl_append, twd], rt.1, rt.2⟩
    · rintro σ H9 ⟨v9, v10, v11, ns, rfl, kp9, hB9, hD9, nl, hw⟩
      walk_at "g"
      refine k D ns H9 kp9 (hB9.mono (by omega)) nD0 hD9 nl ?_ ?_
      · rw [List.nodup_iff_pairwise_ne, List.pairwise_iff_getElem]
        intro a b ha hb hab e
        obtain ⟨r1, e1, _⟩ := hw a _ (List.getElem?_eq_getElem ha)
        obtain ⟨r2, e2, _⟩ := hw b _ (List.getElem?_eq_getElem hb)
        rw [e, e2] at e1
        have := wordL_inj (by omega) (by omega) e1
        omega
      · intro z hz
        obtain ⟨j, hj, ej⟩ := List.getElem_of_mem hz
        obtain ⟨r, e1, rl, rc⟩ := hw j z (by rw [← ej]; exact List.getElem?_eq_getElem hj)
        have lh : isL (97 + h1) := ⟨by omega, by omega⟩
        have ls : isL (97 + (fi + 5 * j) % 26) := ⟨by omega, by omega⟩
        unfold wordL at e1
        split at e1
        · refine ⟨⟨_, st ++ r, e1, ls, by rw [List.length_append]; omega, fun d hd => (List.mem_append.mp hd).elim (rst.2 d) (rc d)⟩, ?_⟩
          rw [e1, List.length_append, List.length_cons]
          omega
        · split at e1
          · refine ⟨⟨_, ((97 + (fi + 5 * j) % 26) :: st) ++ r, e1, lh, by rw [List.length_append, List.length_cons]; omega, fun d hd => ?_⟩, ?_⟩
            · rcases List.mem_append.mp hd with hd | hd
              · rcases List.mem_cons.mp hd with rfl | hd
                · exact .inl ls
                · exact rst.2 d hd
              · exact rc d hd
            · rw [e1, List.length_append, List.length_cons, List.length_cons]
              omega
          · refine ⟨⟨_, (st ++ [97 + (fi + 5 * j) % 26]) ++ r, e1, lh, by rw [List.length_append, List.length_append, List.length_singleton]; omega, fun d hd => ?_⟩, ?_⟩
            · rcases List.mem_append.mp hd with hd | hd
              · rcases List.mem_append.mp hd with hd | hd
                · exact rst.2 d hd
                · rw [List.mem_singleton.mp hd]
                  exact .inl ls
              · exact rc d hd
            · rw [e1, List.length_append, List.length_cons, List.length_append, List.length_singleton]
              omega
end
end Tr

/-! # The laws' turns and rounds. -/
namespace Tr
open PySem L2 TL
/-- steps of a reading that are plain -/
local macro_rules | `(tactic| walk_at "x") => `(tactic| (refine' ⟨_, _, _, _, rfl, rfl, ?k1, ?k2, ?_⟩; (case k1 => exact SqT.of (by assumption)); (case k2 => exact rfl)))
local macro_rules | `(tactic| walk_at "g") => `(tactic| repeat (first | (refine ⟨_, rfl, ?_⟩) | (refine ⟨_, _, rfl, rfl, ?_⟩) | (refine ⟨_, _, rfl, ?_⟩) | (refine ⟨rfl, ?_⟩) | walk_at "x"))


theorem inV_intM (n : Int) (ns : List Int) : inV (.int n) (ns.map V.int) = decide (n ∈ ns) := by
  unfold inV
  rw [List.any_map, Bool.eq_iff_iff, List.any_eq_true, decide_eq_true_eq]
  exact ⟨fun ⟨m, hm, e⟩ => (show m = n by simpa [eqV] using e) ▸ hm, fun h => ⟨n, h, by simp [eqV]⟩⟩
theorem flat_intsM (ns : List Int) : (ns.map V.int).all flatV = true := by
  rw [List.all_map]
  exact List.all_eq_true.mpr fun _ _ => rfl
theorem nds_snoc {ks : List SI} {c : SI} (h : Nds ks) (hn : ∀ k ∈ ks, k.1 ≠ c.1) : Nds (ks ++ [c]) := by
  unfold Nds at *
  rw [List.map_append, List.nodup_append]
  refine ⟨h, List.nodup_cons.mpr ⟨List.not_mem_nil, List.nodup_nil⟩, fun a ha b hb => ?_⟩
  obtain ⟨k, hk, rfl⟩ := List.mem_map.mp ha
  rw [List.map_singleton, List.mem_singleton] at hb
  rw [hb]
  exact hn k hk
/-- a turn of the laws: its period is small, far times -/
def FarT (far : Int) (c : SI) : Prop := NmOk c.1 ∧ (c.2 = 0 ∨ ∃ b, 2 ≤ b ∧ b ≤ 12 ∧ c.2 = b * far)
theorem FarT.ok {far : Int} {c : SI} (h : FarT far c) (f1 : 1 ≤ far) : c.2 = 0 ∨ 2 ≤ c.2 := h.2.imp id fun ⟨b, b2, _, e⟩ => by
  rw [e]
  exact Int.le_trans b2 (by have := Int.mul_le_mul_of_nonneg_left f1 (show 0 ≤ b by omega); rw [Int.mul_one] at this; exact this)
section
variable {P : Program} {w : World} {K : PySem.W.Frag} {mg : Str → Option Value} {base : Heap}
def spLTurns : Sp := fun vs H Q _ => ∃ (p q : Addr) (most far : Int) (N : Nat), vs = [.ref p, .int most, .int far] ∧ Bag H p q N ∧ N < 700000 ∧ 1 ≤ most ∧ most ≤ 8 ∧ 1 ≤ far ∧ Bd 140 far ∧
  ∀ l ks H', Kp p H H' → Bag H' p q (N + 100) → H l = none → SL H' l ks → KsOk ks → (ks.length : Int) ≤ most → (∀ c ∈ ks, FarT far c) → Q (.ref l) H'
theorem c__law_turns (T : Txt K mg) : Cal P w K mg base 3 "_law_turns" spLTurns [] := by
  have c__law_draw := @c__law_draw P w K mg base T
  have c__law_words := @c__law_words P w K mg base T
  have c__law_pick := @c__law_pick P w K mg base T
  refine calN T.d__law_turns sc__law_turns (fun vs H Q E h => ?_) (fun _ _ _ _ _ _ us hl => match us, hl with | [_, _, _], _ => rfl) (fun f cdv A outer s H vs Q E hr h => ?_)
  · obtain ⟨p, q, most, far, N, rfl, _⟩ := h
    rfl
  · obtain ⟨p, q, most, far, N, rfl, hB, hN, m1, m8, f1, fB, k⟩ := h
    refine ⟨_, (pss_cons (ps_set (i := 3) sc__law_turns.nd rfl (Or.inl rfl) (pe_lst pa_nil))
      (pss_cons (ps_for PassesOwn.never rfl (pi_list (pe_cx c__law_words hr (by first | decide | omega) rfl passL (pa_cons (pv 0) (pa_cons (pe_op op_add pe_int (pe_cx c__law_draw hr (by first | decide | omega) rfl passL (pa_cons (pv 0) (pa_cons (pv 1) pa_nil)))) pa_nil)))) (pg_name (i := 4) sc__law_turns.nd rfl (Or.inl rfl)) (pss_one (ps_expr (pe_bm PySem.F.plainAttrs_list PySem.F.slot_list_append PySem.F.type_list_append mt_append (pv 3) (pa_cons (pe_tup (pa_cons (pv 4) (pa_cons (pe_op op_mulW (pe_cx c__law_pick hr (by first | decide | omega) rfl passL (pa_cons (pv 0) (pa_cons (pe_lst (pa_cons pe_int (pa_cons pe_int (pa_cons pe_int (pa_cons pe_int (pa_cons pe_int (pa_cons pe_int (pa_cons pe_int (pa_cons pe_int pa_nil))))))))) pa_nil))) (pv 2)) pa_nil))) pa_nil)))))
      (pss_one (ps_ret (pv 3))))), ?_⟩
    obtain ⟨_, _, hp, hq⟩ := hB.at_
    walk_at "g"
    refine ⟨by show 0 ≤ sizeLine; decide, fun D nD => ?_⟩
    have s1 := same_upd (o := .lst []) nD
    have hD1 : upd H D (.lst []) D = some (.lst []) := upd_same
    have Dp : D ≠ p := (ne_of_none hp nD).symm
    have Dq : D ≠ q := (ne_of_none hq nD).symm
    have hB1 := hB.same s1
    generalize upd H D (.lst []) = H1 at *
    walk_at "g"
    refine ⟨p, q, most, N, rfl, hB1, by omega, by omega, d8k (by omega) (by omega), fun v H2 kp2 hB2 v0 v1 => ?_⟩
    walk_at "g"
    refine ⟨p, q, (1 + v).toNat, _, by show [V.ref p, V.int (1 + v)] = _; rw [Int.toNat_of_nonneg (by omega)], hB2, by omega, by omega, fun l ns H3 kp3 hB3 nl hl nlen nnd nok => ?_⟩
    have kp13 := kp2.trans kp3
    have hD3 := kp13 _ _ hD1 Dp
    have nlD : l ≠ D := fun e => by rw [e, kp2 _ _ hD1 Dp] at nl; cases nl
    walk_at "g"
    refine ⟨⟨_, SqL.of hl⟩, ?_⟩
    refine for_list (xs := ns.map V.str) (fun i σ H' => ∃ (v4 : Option V) (ks : List SI) (ts : List Addr), σ = [some (.ref p), some (.int most), some (.int far), some (.ref D), v4] ∧ Kp p H H' ∧ Bag H' p q (N + 51 + i) ∧ H' l = some (.lst (ns.map V.str)) ∧ H' D = some (.lst (ts.map V.ref)) ∧ P2 (SrT H') ts ks ∧ ks.map (·.1) = ns.take i ∧ ∀ c ∈ ks, FarT far c) ⟨_, [], [], rfl, s1.kp.trans kp13, hB3.mono (by omega), hl, hD3, .nil, rfl, fun c hc => (nomatch hc)⟩ ?_ ?_ ?_
    · rintro i σ H' _ ⟨_, _, _, _, _, _, h, _⟩
      exact SqL.of h
    · rintro i y σ H4 hy ⟨v4, ks, ts, rfl, kp4, hB4, hl4, hD4, pp, hks, hf⟩
      rw [List.getElem?_map] at hy
      obtain ⟨z, hz, rfl⟩ := Option.map_eq_some_iff.mp hy
      have hi := (List.getElem?_eq_some_iff.mp hz).1
      have kl : ks.length = i := by
        have := congrArg List.length hks
        rw [List.length_map, List.length_take] at this
        omega
      obtain ⟨_, _, hp4, hq4⟩ := hB4.at_
      walk_at "g"
      refine ⟨.inl ⟨rfl, _, SqL.of hD4⟩, ?_⟩
      walk_at "g"
      refine ⟨by show 8 ≤ sizeLine; decide, fun ql nql => ?_⟩
      have s5 := same_upd (o := .lst [.int 0, .int 0, .int 2, .int 3, .int 4, .int 6, .int 12, .int 0]) nql
      refine ⟨p, q, ql, _, _, rfl, hB4.same s5, by omega, upd_same, by show 0 < 8; decide, by show 8 ≤ 1000; decide, fun v hv H6 kp6 hB6 => ?_⟩
      obtain ⟨b, rfl, hb⟩ : ∃ b : Int, v = .int b ∧ (b = 0 ∨ 2 ≤ b ∧ b ≤ 12) := by
        simp only [List.mem_cons, List.not_mem_nil, or_false] at hv
        rcases hv with rfl | rfl | rfl | rfl | rfl | rfl | rfl | rfl <;> exact ⟨_, rfl, by decide⟩
      have kp46 := s5.kp.trans kp6
      walk_at "g"
      refine ⟨cmulw (show Bd 10 b by show b.natAbs < 2 ^ 10; omega) fB (by decide), ?_⟩
      walk_at "g"
      refine ⟨by show 2 ≤ sizeLine; decide, fun u nu => ?_⟩
      have s7 := same_upd (o := .tup [.str z, .int (b * far)]) nu
      have hD6 := kp46 _ _ hD4 Dp
      have hl6 := kp46 _ _ hl4 (ne_of hl4 hp4 (by intro z; cases z))
      have hD7 := s7 _ _ hD6
      have hl7 := s7 _ _ hl6
      have pp7 := ((pp.kpS kp46 hp4 (fun _ => by intro z; cases z))).sameS s7
      have hB7 := hB6.same s7
      have tu : SrT (upd H6 u (.tup [.str z, .int (b * far)])) u (z, b * far) := upd_same
      generalize upd H6 u (.tup [.str z, .int (b * far)]) = H7 at *
      walk_at "g"
      refine ⟨D, ts.map V.ref, _, rfl, rfl, hD7, small_app (m := 100000) (by rw [List.length_map, pp.len]; omega) (Nat.le_refl _), ?_⟩
      refine ⟨_, ks ++ [(z, b * far)], ts ++ [u], rfl, ?_, (hB7.wr Dp Dq).mono (by omega), by rw [upd_ne nlD]; exact hl7, by rw [List.map_append]; exact upd_same, ?_, by rw [List.map_append, hks, take_snoc hz]; rfl, fun c hc => ?_⟩
      · exact ((kp4.trans kp46).trans s7.kp).wr nD
      · have kpD := kp_upd D H7 (.lst (ts.map V.ref ++ [.ref u]))
        exact (pp7.kpS kpD hD7 (fun _ => by intro z; cases z)).snoc (kpD _ _ tu (ne_of tu hD7 (by intro z; cases z)))
      · rcases List.mem_append.mp hc with hc | hc
        · exact hf c hc
        · rw [List.mem_singleton.mp hc]
          exact ⟨(nok z (mem_of_at hz)).1, hb.imp (fun e => by show b * far = 0; rw [e, Int.zero_mul]) fun ⟨h1, h2⟩ => ⟨b, h1, h2, rfl⟩⟩
    · rintro σ H4 ⟨v4, ks, ts, rfl, kp4, hB4, hl4, hD4, pp, hks, hf⟩
      rw [List.length_map, List.take_length] at hks
      have kl : ks.length = ns.length := by rw [← hks, List.length_map]
      walk_at "g"
      refine k D ks H4 kp4 (hB4.mono (by rw [List.length_map]; omega)) nD ⟨ts, hD4, pp⟩ ⟨by omega, by omega, by unfold Nds; rw [hks]; exact nnd, fun c hc => ⟨(hf c hc).1, (hf c hc).ok f1⟩⟩ (by omega) hf
end
end Tr

/-! # A round of the laws. -/
namespace Tr
open PySem L2 TL
/-- steps of a reading that are plain -/
local macro_rules | `(tactic| walk_at "x") => `(tactic| (refine' ⟨_, _, _, _, rfl, rfl, ?k1, ?k2, ?_⟩; (case k1 => exact SqT.of (by assumption)); (case k2 => exact rfl)))
local macro_rules | `(tactic| walk_at "g") => `(tactic| repeat (first | (refine ⟨_, rfl, ?_⟩) | (refine ⟨_, _, rfl, rfl, ?_⟩) | (refine ⟨_, _, rfl, ?_⟩) | (refine ⟨rfl, ?_⟩) | walk_at "x"))


theorem PrT.kpB {p t : Addr} {H H' : Hp} {kvs : List (Key × V)} {c : Int × Int} (k : Kp p H H') (hp : H p = some (.dK kvs)) (h : PrT H t c) : PrT H' t c := k _ _ h (ne_of h hp (by intro z; cases z))
theorem PrT.kpl {D t : Addr} {H H' : Hp} {xs : List V} {c : Int × Int} (k : Kp D H H') (hD : H D = some (.lst xs)) (h : PrT H t c) : PrT H' t c := k _ _ h (ne_of h hD (by intro z; cases z))
/-- going on from p0 while the place is taken -/
theorem free_end {sz p0 : Int} {tk : List Int} {T : Nat} (s0 : 0 < sz) (hT : (T : Int) ≤ sz) (hl : tk.length < T) (h : ∀ j : Nat, j < T → (p0 + j) % sz ∈ tk) : False := by
  have nd : ((List.range T).map fun j : Nat => (p0 + (j : Int)) % sz).Nodup := by
    rw [List.nodup_iff_pairwise_ne, List.pairwise_map, List.pairwise_iff_getElem]
    intro i j hi hj hij e
    rw [List.length_range] at hi hj
    rw [List.getElem_range, List.getElem_range] at e
    have h2 := Int.emod_emod_of_dvd (p0 + (j : Int) - (p0 + (i : Int))) (Int.dvd_refl sz)
    have h3 : (p0 + (j : Int) - (p0 + (i : Int))) % sz = 0 := by
      rw [Int.sub_emod, e, Int.sub_self, Int.zero_emod]
    have h4 : (p0 + (j : Int) - (p0 + (i : Int))) = ((j - i : Nat) : Int) := by omega
    rw [h4, Int.emod_eq_of_lt (by omega) (by omega)] at h3
    omega
  have := nodup_len _ tk nd fun x hx => by
    obtain ⟨j, hj, rfl⟩ := List.mem_map.mp hx
    exact h j (List.mem_range.mp hj)
  rw [List.length_map, List.length_range] at this
  omega
/-- a round: its size, its marks -/
abbrev Rd : Type := Int × List (Int × Int)
structure RdOk (states : Int) (r : Rd) : Prop where
  s1 : 1 ≤ r.1
  ps : ∀ c ∈ r.2, 0 ≤ c.1 ∧ c.1 < r.1 ∧ 0 ≤ c.2 ∧ c.2 < states
  nd : (r.2.map (·.1)).Nodup
section
variable {P : Program} {w : World} {K : PySem.W.Frag} {mg : Str → Option Value} {base : Heap}
def spRound : Sp := fun vs H Q _ => ∃ (p q l : Addr) (sz : Int) (sts : List Int) (N : Nat), vs = [.ref p, .int sz, .ref l] ∧ Bag H p q N ∧ N < 700000 ∧ H l = some (.lst (sts.map V.int)) ∧ sts.length ≤ 10 ∧ 1 ≤ sz ∧ (sts.length : Int) ≤ sz ∧ Bd 150 sz ∧
  ∀ y m (ms : List (Int × Int)) H', Kp p H H' → Bag H' p q (N + 20) → H y = none → H m = none → H' y = some (.tup [.int sz, .ref m]) → PL H' m ms → ms.map (·.2) = sts → (ms.map (·.1)).Nodup → (∀ c ∈ ms, 0 ≤ c.1 ∧ c.1 < sz) → Q (.ref y) H'
theorem c__law_round (T : Txt K mg) : Cal P w K mg base 2 "_law_round" spRound [] := by
  have c__law_draw := @c__law_draw P w K mg base T
  refine calN T.d__law_round sc__law_round (fun vs H Q E h => ?_) (fun _ _ _ _ _ _ us hl => match us, hl with | [_, _, _], _ => rfl) (fun f cdv A outer s H vs Q E hr h => ?_)
  · obtain ⟨p, q, l, sz, sts, N, rfl, _⟩ := h
    rfl
  · obtain ⟨p, q, l, sz, sts, N, rfl, hB, hN, hl, st10, z1, z2, zB, k⟩ := h
    refine ⟨_, (pss_cons (ps_par (i := 3) (j := 4) (by rfl) sc__law_round.nd rfl rfl (by decide) rfl rfl (pa_cons (pe_lst pa_nil) (pa_cons (pe_lst pa_nil) pa_nil)) (by rfl))
      (pss_cons (ps_for PassesOwn.never rfl (pi_list (pv 2)) (pg_name (i := 5) sc__law_round.nd rfl (Or.inl rfl)) (pss_cons (ps_set (i := 6) sc__law_round.nd rfl (Or.inl rfl) (pe_op op_mod (pe_callTy call_int1 (by rfl) T.b_int (by decide +kernel) (pa_cons (pe_op op_add (pe_op op_mul (pe_cx c__law_draw hr (by first | decide | omega) rfl passL (pa_cons (pv 0) (pa_cons pe_int pa_nil))) (pe_op op_add (pe_op op_fdivW (pv 1) pe_int) pe_int)) (pe_cx c__law_draw hr (by first | decide | omega) rfl passL (pa_cons (pv 0) (pa_cons pe_int pa_nil)))) pa_nil)) (pv 1)))
      (pss_cons (ps_for PassesOwn.never rfl (pi_range1 (by rfl) T.b_range (pa_cons (pe_callB call_len (by rfl) T.b_len (by decide +kernel) (pa_cons (pv 2) pa_nil)) pa_nil)) (pg_name (i := 7) sc__law_round.nd rfl (Or.inl rfl)) (pss_one (ps_if (pt_cmpR op_in_seq (pv 6) (pv 4) (by rfl)) (pss_one (ps_set (i := 6) sc__law_round.nd rfl (Or.inl rfl) (pe_op op_mod (pe_callTy call_int1 (by rfl) T.b_int (by decide +kernel) (pa_cons (pe_op op_add (pv 6) pe_int) pa_nil)) (pv 1)))) pss_nil)))
      (pss_cons (ps_expr (pe_bm PySem.F.plainAttrs_list PySem.F.slot_list_append PySem.F.type_list_append mt_append (pv 4) (pa_cons (pv 6) pa_nil)))
      (pss_one (ps_expr (pe_bm PySem.F.plainAttrs_list PySem.F.slot_list_append PySem.F.type_list_append mt_append (pv 3) (pa_cons (pe_tup (pa_cons (pv 6) (pa_cons (pv 5) pa_nil))) pa_nil))))))))
      (pss_one (ps_ret (pe_tup (pa_cons (pv 1) (pa_cons (pv 3) pa_nil))))))), ?_⟩
    obtain ⟨_, _, hp, hq⟩ := hB.at_
    walk_at "g"
    refine ⟨by show 0 ≤ sizeLine; decide, fun M nM => ?_⟩
    have s1 := same_upd (o := .lst []) nM
    have hM1 : upd H M (.lst []) M = some (.lst []) := upd_same
    generalize eH1 : upd H M (.lst []) = H1 at *
    walk_at "g"
    refine ⟨by show 0 ≤ sizeLine; decide, fun D nD => ?_⟩
    have s2 := same_upd (o := .lst []) nD
    have hM2 := s2 _ _ hM1
    have hD2 : upd H1 D (.lst []) D = some (.lst []) := upd_same
    have nD0 : H D = none := by
      cases e : H D with
      | none => rfl
      | some o => rw [s1 _ _ e] at nD; cases nD
    have MD : M ≠ D := fun e => by rw [← e, hM1] at nD; cases nD
    have Mp : M ≠ p := (ne_of_none hp nM).symm
    have Mq : M ≠ q := (ne_of_none hq nM).symm
    have Dp : D ≠ p := (ne_of_none hp nD0).symm
    have Dq : D ≠ q := (ne_of_none hq nD0).symm
    have lp : l ≠ p := ne_of hl hp (by intro z; cases z)
    have lM : l ≠ M := ne_of_none hl nM
    have lD : l ≠ D := ne_of_none hl nD0
    have s12 := s1.trans s2
    have hB2 := hB.same s12
    have hl2 := s12 _ _ hl
    generalize upd H1 D (.lst []) = H2 at *
    clear eH1
    walk_at "g"
    refine ⟨⟨_, SqL.of hl2⟩, ?_⟩
    refine for_list (xs := sts.map V.int) (fun i σ H' => ∃ (v5 v6 v7 : Option V) (ms : List (Int × Int)) (ts : List Addr), σ = [some (.ref p), some (.int sz), some (.ref l), some (.ref M), some (.ref D), v5, v6, v7] ∧ Kp p H H' ∧ Bag H' p q (N + 2 * i) ∧ H' l = some (.lst (sts.map V.int)) ∧
      H' M = some (.lst (ts.map V.ref)) ∧ P2 (PrT H') ts ms ∧ H' D = some (.lst ((ms.map (·.1)).map V.int)) ∧ ms.map (·.2) = sts.take i ∧ (ms.map (·.1)).Nodup ∧ ∀ c ∈ ms, 0 ≤ c.1 ∧ c.1 < sz) ⟨_, _, _, [], [], rfl, s12.kp, hB2, hl2, hM2, .nil, hD2, rfl, List.nodup_nil, fun c hc => (nomatch hc)⟩ ?_ ?_ ?_
    · rintro i σ H' _ ⟨_, _, _, _, _, _, _, _, h, _⟩
      exact SqL.of h
    · rintro i y σ H3 hy ⟨v5, v6, v7, ms, ts, rfl, kp3, hB3, hl3, hM3, pp3, hD3, hst, hnd, hps⟩
      rw [List.getElem?_map] at hy
      obtain ⟨s0, hs0, rfl⟩ := Option.map_eq_some_iff.mp hy
      have hi := (List.getElem?_eq_some_iff.mp hs0).1
      have ml : ms.length = i := by
        have := congrArg List.length hst
        rw [List.length_map, List.length_take] at this
        omega
      obtain ⟨_, _, hp3, hq3⟩ := hB3.at_
      walk_at "g"
      refine ⟨p, q, 12, _, rfl, hB3, by omega, by decide, d8k (by decide) (by decide), fun v1 H4 kp4 hB4 v10 v11 => ?_⟩
      walk_at "g"
      refine ⟨⟨by decide, by decide⟩, ?_⟩
      walk_at "g"
      refine ⟨.inl ⟨by omega, by omega⟩, ?_⟩
      walk_at "g"
      refine ⟨p, q, 12, _, rfl, hB4, by omega, by decide, d8k (by decide) (by decide), fun v2 H5 kp5 hB5 v20 v21 => ?_⟩
      walk_at "g"
      refine .inl ⟨_, rfl, ?_⟩
      walk_at "g"
      refine ⟨by omega, ?_⟩
      have kp35 := kp4.trans kp5
      have hl5 := kp35 _ _ hl3 lp
      have hM5 := kp35 _ _ hM3 Mp
      have hD5 := kp35 _ _ hD3 Dp
      have pp5 : P2 (PrT H5) ts ms := pp3.mono fun _ _ e => PrT.kpB kp35 hp3 e
      have kpH5 := kp3.trans kp35
      obtain ⟨p0, ep0⟩ : ∃ p0 : Int, p0 = v1 * (sz / 7 + 1) + v2 := ⟨_, rfl⟩
      walk_at "g"
      refine ⟨_, _, rfl, .inl ⟨_, SqL.of hl5, rfl⟩, ?_⟩
      walk_at "g"
      refine ⟨by rw [List.length_map]; omega, by rw [List.length_map]; omega, ?_⟩
      rw [List.length_map]
      refine for_range (lo := 0) (n := sts.length) (fun j σ H' => ∃ (v7 : Option V) (pos : Int), σ = [some (.ref p), some (.int sz), some (.ref l), some (.ref M), some (.ref D), some (.int s0), some (.int pos), v7] ∧ H' = H5 ∧ 0 ≤ pos ∧ pos < sz ∧ (pos ∉ ms.map (·.1) ∨ (pos = (p0 + j) % sz ∧ ∀ j' : Nat, j' < j → (p0 + j') % sz ∈ ms.map (·.1)))) ⟨_, _, rfl, rfl, Int.emod_nonneg _ (by omega), Int.emod_lt_of_pos _ (by omega), .inr ⟨by rw [ep0]; show _ = (_ + ((0 : Nat) : Int)) % sz; rw [Int.natCast_zero, Int.add_zero], fun j' h => by omega⟩⟩ ?_ ?_
      · rintro j σ H' hj ⟨v7, pos, rfl, rfl, q0, q1, hfree⟩
        walk_at "g"
        refine ⟨D, _, rfl, .inl (SqL.of hD5), rfl, flat_intsM _, ?_⟩
        rw [inV_intM]
        walk_at "g"
        refine iteB (fun c1 => ?_) (fun c1 => ?_)
        · have hin := of_decide_eq_true c1
          walk_at "g"
          refine .inl ⟨_, rfl, ?_⟩
          walk_at "g"
          refine ⟨by omega, ?_⟩
          obtain ⟨e1, e2⟩ := hfree.resolve_left fun h => h hin
          refine ⟨_, _, rfl, rfl, Int.emod_nonneg _ (by omega), Int.emod_lt_of_pos _ (by omega), .inr ⟨?_, fun j' hj' => ?_⟩⟩
          · rw [e1, Int.emod_add_emod]
            congr 1
            omega
          · by_cases h : j' < j
            · exact e2 j' h
            · obtain rfl : j' = j := by omega
              rw [← e1]
              exact hin
        · exact ⟨_, _, rfl, rfl, q0, q1, .inl (of_decide_eq_false c1)⟩
      · rintro σ H' ⟨v7, pos, rfl, rfl, q0, q1, hfree⟩
        have hnew : pos ∉ ms.map (·.1) := hfree.elim id fun ⟨e1, e2⟩ => (free_end (T := sts.length) (by omega) z2 (by rw [List.length_map]; omega) e2).elim
        walk_at "g"
        refine ⟨.inl ⟨rfl, _, SqL.of hD5⟩, ?_⟩
        walk_at "g"
        refine ⟨D, _, _, rfl, rfl, hD5, small_app (m := 100000) (by rw [List.length_map, List.length_map]; omega) (Nat.le_refl _), ?_⟩
        have kp6 := kp_upd D H' (.lst ((ms.map (·.1)).map V.int ++ [.int pos]))
        have hD6 : upd H' D (.lst ((ms.map (·.1)).map V.int ++ [.int pos])) D = some (.lst ((ms.map (·.1)).map V.int ++ [.int pos])) := upd_same
        have hM6 := kp6 _ _ hM5 MD
        have hl6 := kp6 _ _ hl5 lD
        have pp6 : P2 (PrT _) ts ms := pp5.mono fun _ _ e => PrT.kpl kp6 hD5 e
        have hB6 := hB5.wr (o := .lst ((ms.map (·.1)).map V.int ++ [.int pos])) Dp Dq
        have kpH6 := kpH5.wr (o := .lst ((ms.map (·.1)).map V.int ++ [.int pos])) nD0
        generalize upd H' D (.lst ((ms.map (·.1)).map V.int ++ [.int pos])) = H6 at *
        walk_at "g"
        refine ⟨.inl ⟨rfl, _, SqL.of hM6⟩, ?_⟩
        walk_at "g"
        refine ⟨by show 2 ≤ sizeLine; decide, fun u nu => ?_⟩
        have s7 := same_upd (o := .tup [.int pos, .int s0]) nu
        have tu : PrT (upd H6 u (.tup [.int pos, .int s0])) u (pos, s0) := upd_same
        have hM7 := s7 _ _ hM6
        have hD7 := s7 _ _ hD6
        have hl7 := s7 _ _ hl6
        have hB7 := hB6.same s7
        have pp7 : P2 (PrT _) ts ms := pp6.same s7
        have kpH7 := kpH6.trans s7.kp
        generalize upd H6 u (.tup [.int pos, .int s0]) = H7 at *
        walk_at "g"
        refine ⟨M, _, _, rfl, rfl, hM7, small_app (m := 100000) (by rw [List.length_map, pp7.len]; omega) (Nat.le_refl _), ?_⟩
        have kp8 := kp_upd M H7 (.lst (ts.map V.ref ++ [.ref u]))
        refine ⟨_, _, _, ms ++ [(pos, s0)], ts ++ [u], rfl, kpH7.wr nM, (hB7.wr Mp Mq).mono (by omega), kp8 _ _ hl7 lM, by rw [List.map_append]; exact upd_same, (pp7.mono fun _ _ e => PrT.kpl kp8 hM7 e).snoc (PrT.kpl kp8 hM7 tu), ?_, ?_, ?_, ?_⟩
        · rw [kp8 _ _ hD7 MD.symm, List.map_append, List.map_append]
          rfl
        · rw [List.map_append, hst, take_snoc hs0]
          rfl
        · rw [List.map_append, List.nodup_append]
          refine ⟨hnd, List.nodup_cons.mpr ⟨List.not_mem_nil, List.nodup_nil⟩, fun a ha b hb e => ?_⟩
          rw [List.map_singleton, List.mem_singleton] at hb
          rw [e, hb] at ha
          exact hnew ha
        · intro c hc
          rcases List.mem_append.mp hc with hc | hc
          · exact hps c hc
          · rw [List.mem_singleton.mp hc]
            exact ⟨q0, q1⟩
    · rintro σ H3 ⟨v5, v6, v7, ms, ts, rfl, kp3, hB3, hl3, hM3, pp3, hD3, hst, hnd, hps⟩
      rw [List.length_map] at hB3 hst
      rw [List.take_length] at hst
      walk_at "g"
      refine ⟨by show 2 ≤ sizeLine; decide, fun y ny => ?_⟩
      have s4 := same_upd (o := .tup [.int sz, .ref M]) ny
      have ny0 : H y = none := by
        cases e : H y with
        | none => rfl
        | some o =>
          by_cases h : y = p
          · obtain ⟨_, _, hp3, _⟩ := hB3.at_
            rw [h, hp3] at ny
            cases ny
          · rw [kp3 _ _ e h] at ny
            cases ny
      exact k y M ms _ (kp3.trans s4.kp) ((hB3.same s4).mono (by omega)) ny0 nM upd_same ⟨ts, s4 _ _ hM3, pp3.same s4⟩ hst hnd hps
end
end Tr

/-! # The rounds of a turn, as the laws draw them. -/
namespace Tr
open PySem L2 TL
/-- steps of a reading that are plain -/
local macro_rules | `(tactic| walk_at "x") => `(tactic| (refine' ⟨_, _, _, _, rfl, rfl, ?k1, ?k2, ?_⟩; (case k1 => exact SqT.of (by assumption)); (case k2 => exact rfl)))
local macro_rules | `(tactic| walk_at "g") => `(tactic| repeat (first | (refine ⟨_, rfl, ?_⟩) | (refine ⟨_, _, rfl, rfl, ?_⟩) | (refine ⟨_, _, rfl, ?_⟩) | (refine ⟨rfl, ?_⟩) | walk_at "x"))


/-- a round stands at t; its marks are where A says -/
def RdT (A : Addr → Prop) (H : Hp) (t : Addr) (r : Rd) : Prop := ∃ m, A m ∧ H t = some (.tup [.int r.1, .ref m]) ∧ PL H m r.2
def RL (A : Addr → Prop) (H : Hp) (f : Addr) (rs : List Rd) : Prop := ∃ ts : List Addr, H f = some (.lst (ts.map V.ref)) ∧ P2 (RdT A H) ts rs
theorem new_of {p x : Addr} {H H' : Hp} {o : HO} (k : Kp p H H') (hp : H' p = some o) (h : H' x = none) : H x = none := by
  cases e : H x with
  | none => rfl
  | some u =>
    by_cases n : x = p
    · rw [n, hp] at h
      cases h
    · rw [k _ _ e n] at h
      cases h
theorem PL.kpD {p m : Addr} {H H' : Hp} {kvs : List (Key × V)} {cs : List (Int × Int)} (k : Kp p H H') (hp : H p = some (.dK kvs)) (h : PL H m cs) : PL H' m cs :=
  let ⟨ts, a, b⟩ := h
  ⟨ts, k _ _ a (ne_of a hp (by intro z; cases z)), b.mono fun _ _ e => PrT.kpB k hp e⟩
theorem PL.kpL {D m : Addr} {H H' : Hp} {xs : List V} {cs : List (Int × Int)} (k : Kp D H H') (hD : H D = some (.lst xs)) (n : m ≠ D) (h : PL H m cs) : PL H' m cs :=
  let ⟨ts, a, b⟩ := h
  ⟨ts, k _ _ a n, b.mono fun _ _ e => PrT.kpl k hD e⟩
theorem RdT.same {A : Addr → Prop} {t : Addr} {H H' : Hp} {r : Rd} (s : Same H H') (h : RdT A H t r) : RdT A H' t r :=
  let ⟨m, n, a, b⟩ := h
  ⟨m, n, s _ _ a, b.same s⟩
theorem RdT.kpD {A : Addr → Prop} {p t : Addr} {H H' : Hp} {kvs : List (Key × V)} {r : Rd} (k : Kp p H H') (hp : H p = some (.dK kvs)) (h : RdT A H t r) : RdT A H' t r :=
  let ⟨m, n, a, b⟩ := h
  ⟨m, n, k _ _ a (ne_of a hp (by intro z; cases z)), b.kpD k hp⟩
theorem RdT.kpf {A : Addr → Prop} {f t : Addr} {H H' : Hp} {xs : List V} {r : Rd} (hA : ∀ m, A m → m ≠ f) (k : Kp f H H') (hf : H f = some (.lst xs)) (h : RdT A H t r) : RdT A H' t r :=
  let ⟨m, n, a, b⟩ := h
  ⟨m, n, k _ _ a (ne_of a hf (by intro z; cases z)), b.kpL k hf (hA m n)⟩
theorem RdT.mono {A B : Addr → Prop} {t : Addr} {H : Hp} {r : Rd} (h : RdT A H t r) (f : ∀ m, A m → B m) : RdT B H t r :=
  let ⟨m, n, a, b⟩ := h
  ⟨m, f m n, a, b⟩
theorem RL.mono {A B : Addr → Prop} {f : Addr} {H : Hp} {rs : List Rd} (h : RL A H f rs) (g : ∀ m, A m → B m) : RL B H f rs :=
  let ⟨ts, a, b⟩ := h
  ⟨ts, a, b.mono fun _ _ e => e.mono g⟩
theorem RL.kpL {A : Addr → Prop} {f D : Addr} {H H' : Hp} {xs : List V} {rs : List Rd} (hA : ∀ m, A m → m ≠ D) (k : Kp D H H') (hD : H D = some (.lst xs)) (n : f ≠ D) (h : RL A H f rs) : RL A H' f rs :=
  let ⟨ts, a, b⟩ := h
  ⟨ts, k _ _ a n, b.mono fun _ _ e => RdT.kpf hA k hD e⟩
theorem RL.same {A : Addr → Prop} {f : Addr} {H H' : Hp} {rs : List Rd} (s : Same H H') (h : RL A H f rs) : RL A H' f rs :=
  let ⟨ts, a, b⟩ := h
  ⟨ts, s _ _ a, b.mono fun _ _ e => e.same s⟩
theorem RL.kpD {A : Addr → Prop} {f p : Addr} {H H' : Hp} {kvs : List (Key × V)} {rs : List Rd} (k : Kp p H H') (hp : H p = some (.dK kvs)) (h : RL A H f rs) : RL A H' f rs :=
  let ⟨ts, a, b⟩ := h
  ⟨ts, k _ _ a (ne_of a hp (by intro z; cases z)), b.mono fun _ _ e => e.kpD k hp⟩
theorem min3_ints (a b c : Int) : ∃ m, nuMin3 (.int a) (.int b) (.int c) = some (.int m) ∧ m ≤ a ∧ m ≤ b ∧ m ≤ c ∧ (m = a ∨ m = b ∨ m = c) := by
  have h2 : ∀ x y : Int, nuMin2 (.int x) (.int y) = some (.int (if y < x then y else x)) := fun x y => by
    show some (if decide (y < x) = true then V.int y else V.int x) = _
    by_cases h : y < x
    · rw [if_pos h, if_pos (decide_eq_true h)]
    · rw [if_neg h, if_neg (by rw [decide_eq_false h]; exact Bool.false_ne_true)]
  refine ⟨if c < (if b < a then b else a) then c else (if b < a then b else a), ?_, ?_⟩
  · unfold nuMin3
    rw [h2, Option.bind_some, h2]
  · split <;> split <;> omega
def unI : V → Int
  | .int i => i
  | _ => 0
theorem perm_ints {ys : List V} {all : List Int} (pm : ys.Perm (all.map V.int)) : ∃ sts : List Int, ys = sts.map V.int ∧ sts.Perm all := by
  refine ⟨ys.map unI, ?_, ?_⟩
  · rw [List.map_map]
    refine ((List.map_congr_left fun y hy => ?_).trans (List.map_id ys)).symm
    obtain ⟨i, _, rfl⟩ := List.mem_map.mp (pm.mem_iff.mp hy)
    rfl
  · have h := pm.map unI
    rw [List.map_map] at h
    rw [show all.map (unI ∘ V.int) = all from (List.map_congr_left fun _ _ => rfl).trans (List.map_id all)] at h
    exact h
theorem cut_to (xs : List V) (m : Nat) : cutV xs none (some (m : Int)) = xs.take m := by
  unfold cutV
  rw [HT.sIx_nat]
  show (xs.drop 0).take (min m xs.length - 0) = _
  rw [List.drop_zero, Nat.sub_zero]
  rcases Nat.le_total m xs.length with h | h
  · rw [Nat.min_eq_left h]
  · rw [Nat.min_eq_right h, List.take_length, List.take_of_length_le h]
theorem cut_from (xs : List V) (m : Nat) : cutV xs (some (m : Int)) none = xs.drop m := by
  unfold cutV
  rw [HT.sIx_nat]
  show (xs.drop (min m xs.length)).take (xs.length - min m xs.length) = _
  rcases Nat.le_total m xs.length with h | h
  · rw [Nat.min_eq_left h, List.take_of_length_le (by rw [List.length_drop]; exact Nat.le_refl _)]
  · rw [Nat.min_eq_right h, List.drop_length, List.drop_of_length_le h, List.take_nil]
/-- what a drawn list of rounds is -/
structure RdsOk (per far : Int) (n : Nat) (rs : List Rd) : Prop where
  ok : ∀ r ∈ rs, RdOk n r ∧ per % r.1 = 0 ∧ r.1 ≤ 12 * far ∧ r.2.length ≤ 10
theorem RL.snoc {A : Addr → Prop} {f y mm : Addr} {H : Hp} {rs : List Rd} {ts : List Addr} {r : Rd} (hA : ∀ m, A m → m ≠ f) (hf : H f = some (.lst (ts.map V.ref))) (pp : P2 (RdT A H) ts rs) (nm : A mm) (hy : H y = some (.tup [.int r.1, .ref mm])) (hm : PL H mm r.2) :
    RL A (upd H f (.lst (ts.map V.ref ++ [.ref y]))) f (rs ++ [r]) := by
  have k := kp_upd f H (.lst (ts.map V.ref ++ [.ref y]))
  exact ⟨ts ++ [y], by rw [List.map_append]; exact upd_same, (pp.mono fun _ _ e => RdT.kpf hA k hf e).snoc (RdT.kpf hA k hf ⟨mm, nm, hy, hm⟩)⟩
section
variable {P : Program} {w : World} {K : PySem.W.Frag} {mg : Str → Option Value} {base : Heap}
def spRounds : Sp := fun vs H Q _ => ∃ (p q : Addr) (per far : Int) (n N : Nat), vs = [.ref p, .int per, .int (n : Int), .int far] ∧ Bag H p q N ∧ N < 600000 ∧ 1 ≤ n ∧ n ≤ 10 ∧ 1 ≤ far ∧ Bd 140 far ∧ (per = 0 ∨ ∃ b, 2 ≤ b ∧ b ≤ 12 ∧ per = b * far) ∧
  ∀ f (rs : List Rd) H', Kp p H H' → Bag H' p q (N + 500) → H f = none → RL (fun m => m ≠ f ∧ H m = none) H' f rs → RdsOk per far n rs → ((rs.map (·.2)).flatten.map (·.2)).Perm ((List.range n).map fun i : Nat => (i : Int)) → rs.length ≤ n + 1 → Q (.ref f) H'
theorem c__law_rounds (T : Txt K mg) : Cal P w K mg base 4 "_law_rounds" spRounds [] := by
  have c__law_draw := @c__law_draw P w K mg base T
  have c__law_mixed := @c__law_mixed P w K mg base T
  have c__law_size := @c__law_size P w K mg base T
  have c__law_round := @c__law_round P w K mg base T
  refine calN T.d__law_rounds sc__law_rounds (fun vs H Q E h => ?_) (fun _ _ _ _ _ _ us hl => match us, hl with | [_, _, _, _], _ => rfl) (fun f cdv A outer s H vs Q E hr h => ?_)
  · obtain ⟨p, q, per, far, n, N, rfl, _⟩ := h
    rfl
  · obtain ⟨p, q, per, far, n, N, rfl, hB, hN, n1, n10, f1, fB, hper, k⟩ := h
    refine ⟨_, (pss_cons (ps_par (i := 4) (j := 5) (by rfl) sc__law_rounds.nd rfl rfl (by decide) rfl rfl (pa_cons (pe_cx c__law_mixed hr (by first | decide | omega) rfl passL (pa_cons (pv 0) (pa_cons (pe_listRg rfl (by rfl) T.b_list (prg_1 (by rfl) T.b_range (pv 2))) pa_nil))) (pa_cons (pe_lst pa_nil) pa_nil)) (by rfl))
      (pss_cons (ps_while PassesOwn.never (pt_cmpR (op_neD (units_of hr)) (pv 4) (pe_lst pa_nil) (nomark _)) (pss_cons (ps_set (i := 6) sc__law_rounds.nd rfl (Or.inl rfl) (pe_cx c__law_size hr (by first | decide | omega) rfl passL (pa_cons (pv 0) (pa_cons (pv 1) (pa_cons (pv 3) pa_nil)))))
      (pss_cons (ps_set (i := 7) sc__law_rounds.nd rfl (Or.inl rfl) (pe_callB (call_min3Nu rfl) (by rfl) T.b_min (by decide +kernel) (pa_cons (pe_callB call_len (by rfl) T.b_len (by decide +kernel) (pa_cons (pv 4) pa_nil)) (pa_cons (pe_callTy call_int1 (by rfl) T.b_int (by decide +kernel) (pa_cons (pv 6) pa_nil)) (pa_cons (pe_callTy call_int1 (by rfl) T.b_int (by decide +kernel) (pa_cons (pe_op op_add pe_int (pe_cx c__law_draw hr (by first | decide | omega) rfl passL (pa_cons (pv 0) (pa_cons pe_int pa_nil)))) pa_nil)) pa_nil)))))
      (pss_cons (ps_expr (pe_bm PySem.F.plainAttrs_list PySem.F.slot_list_append PySem.F.type_list_append mt_append (pv 5) (pa_cons (pe_cx c__law_round hr (by first | decide | omega) rfl passL (pa_cons (pv 0) (pa_cons (pv 6) (pa_cons (pe_slice sl_list (pv 4) po_none (po_some (pv 7))) pa_nil)))) pa_nil)))
      (pss_one (ps_set (i := 4) sc__law_rounds.nd rfl (Or.inl rfl) (pe_slice sl_list (pv 4) (po_some (pv 7)) po_none)))))))
      (C8.pss_cut (ps_if (pt_cmpR op_eq (pe_cx c__law_draw hr (by first | decide | omega) rfl passL (pa_cons (pv 0) (pa_cons pe_int pa_nil))) pe_int (nomark _)) (pss_one (ps_expr (pe_bm PySem.F.plainAttrs_list PySem.F.slot_list_insert PySem.F.type_list_insert mt_insert (pv 5) (pa_cons (pe_cx c__law_draw hr (by first | decide | omega) rfl passL (pa_cons (pv 0) (pa_cons (pe_op op_add (pe_callB call_len (by rfl) T.b_len (by decide +kernel) (pa_cons (pv 5) pa_nil)) pe_int) pa_nil))) (pa_cons (pe_tup (pa_cons (pe_cx c__law_size hr (by first | decide | omega) rfl passL (pa_cons (pv 0) (pa_cons (pv 1) (pa_cons (pv 3) pa_nil)))) (pa_cons (pe_lst pa_nil) pa_nil))) pa_nil))))) pss_nil)
      (pss_one (ps_ret (pv 5)))))), ?_⟩
    obtain ⟨_, _, hp, hq⟩ := hB.at_
    walk_at "g"
    refine ⟨.of_le (by decide) (by omega) (by decide) (by omega), fun rg nrg => ?_⟩
    obtain ⟨all, eall⟩ : ∃ all : List Int, all = (List.range n).map fun i : Nat => (i : Int) := ⟨_, rfl⟩
    have erg : rgV 0 (n : Int) = all.map V.int := by
      unfold rgV
      rw [eall, List.map_map, show ((n : Int) - 0).toNat = n by omega]
      refine List.map_congr_left fun i _ => ?_
      show V.int (0 + (i : Int)) = V.int i
      rw [Int.zero_add]
    have lall : all.length = n := by rw [eall, List.length_map, List.length_range]
    rw [erg]
    have s1 := same_upd (o := .lst (all.map V.int)) nrg
    walk_at "g"
    refine ⟨p, q, rg, _, N, rfl, hB.same s1, by omega, upd_same, by rw [List.length_map]; omega, fun l ys H2 kp2 hB2 nl hl pm => ?_⟩
    obtain ⟨sts, rfl, pms⟩ : ∃ sts : List Int, ys = sts.map V.int ∧ sts.Perm all := by
      exact perm_ints pm
    have lst : sts.length = n := by rw [pms.length_eq, lall]
    walk_at "g"
    refine ⟨by show 0 ≤ sizeLine; decide, fun f nf => ?_⟩
    have s3 := same_upd (o := .lst []) nf
    have kp03 : Kp p H (upd H2 f (.lst [])) := (s1.kp.trans kp2).trans s3.kp
    have hl3 := s3 _ _ hl
    have hf3 : upd H2 f (.lst []) f = some (.lst []) := upd_same
    have hB3 := hB2.same s3
    have nf0 : H f = none := by
      obtain ⟨_, _, hp2, _⟩ := hB2.at_
      cases e : H f with
      | none => rfl
      | some o =>
        by_cases h : f = p
        · rw [h, hp2] at nf
          cases nf
        · rw [(s1.kp.trans kp2) _ _ e h] at nf
          cases nf
    have fp : f ≠ p := (ne_of_none hp nf0).symm
    obtain ⟨AA, eA⟩ : ∃ AA : Addr → Prop, AA = fun m => m ≠ f ∧ H m = none := ⟨_, rfl⟩
    have hA : ∀ m, AA m → m ≠ f := by rw [eA]; exact fun m h => h.1
    have fq : f ≠ q := (ne_of_none hq nf0).symm
    generalize upd H2 f (.lst []) = H3 at *
    walk_at "g"
    refine ⟨fun μ σ' H' => ∃ (l' : Addr) (st' : List Int) (rs : List Rd) (v6 v7 : Option V), σ' = [some (.ref p), some (.int per), some (.int (n : Int)), some (.int far), some (.ref l'), some (.ref f), v6, v7] ∧ Kp p H H' ∧ Bag H' p q (N + 60 + 23 * rs.length) ∧ H' l' = some (.lst (st'.map V.int)) ∧ l' ≠ f ∧ RL AA H' f rs ∧ RdsOk per far n rs ∧
      ((rs.map (·.2)).flatten.map (·.2) ++ st').Perm all ∧ rs.length + st'.length ≤ n ∧ μ = st'.length, ⟨_, l, sts, [], _, _, rfl, kp03, hB3.mono (by simp), hl3, (fun e => by rw [e] at hl; rw [hl] at nf; cases nf), ⟨[], hf3, .nil⟩, ⟨fun r hr => (nomatch hr)⟩, pms, by rw [lst]; exact Nat.le_of_eq (Nat.zero_add n), rfl⟩, ?_⟩
    rintro μ σ' H4 ⟨l', st', rs, v6, v7, rfl, kp4, hB4, hl4, nlf, hrl4, hok, pm4, ln4, rfl⟩
    walk_at "g"
    refine ⟨by show 0 ≤ sizeLine; decide, fun e ne => ?_⟩
    have s5 := same_upd (o := .lst []) ne
    have hl5 := s5 _ _ hl4
    have hrl5 := hrl4.same s5
    have hB5 := hB4.same s5
    have kp5 := kp4.trans s5.kp
    refine ⟨.list (st'.map PyData.int), .list [], .lst (SqL.of hl5) (dpa_ints st'), .lst (SqL.of upd_same) .nil, sh_ints st', sh_ints [], ?_⟩
    rw [show PyData.eqv (.list (st'.map PyData.int)) (.list []) = decide (st' = []) from eqv_ints st' []]
    generalize upd H4 e (.lst []) = H5 at *
    walk_at "g"
    by_cases hst : st' = []
    · subst hst
      first | refine iteF ?_ | skip
      rw [List.append_nil] at pm4
      have rl10 : rs.length ≤ 10 := by omega
      refine ⟨fun σ' H' => ∃ (rs2 : List Rd) (w6 w7 : Option V), σ' = [some (.ref p), some (.int per), some (.int (n : Int)), some (.int far), some (.ref l'), some (.ref f), w6, w7] ∧ Kp p H H' ∧ Bag H' p q (N + 400) ∧ RL AA H' f rs2 ∧ RdsOk per far n rs2 ∧ ((rs2.map (·.2)).flatten.map (·.2)).Perm all ∧ rs2.length ≤ n + 1, ?_, ?_⟩
      · walk_at "g"
        obtain ⟨_, _, hp5, hq5⟩ := hB5.at_
        refine ⟨p, q, 4, _, rfl, hB5, by omega, by decide, d8k (by decide) (by decide), fun w1 H6 kp6 hB6 w10 w11 => ?_⟩
        have hrl6 := hrl5.kpD kp6 hp5
        walk_at "g"
        refine iteB (fun c2 => ?_) (fun c2 => ?_)
        · obtain ⟨ts6, hf6, pp6⟩ := id hrl6
          obtain ⟨_, _, hp6, hq6⟩ := hB6.at_
          have tl6 := pp6.len
          walk_at "g"
          refine ⟨.inl ⟨rfl, _, SqL.of hf6⟩, ?_⟩
          walk_at "g"
          refine ⟨_, _, rfl, .inl ⟨_, SqL.of hf6, rfl⟩, ?_⟩
          rw [List.length_map, tl6]
          walk_at "g"
          refine ⟨p, q, _, _, rfl, hB6, by omega, by omega, d8k (by omega) (by omega), fun w2 H7 kp7 hB7 w20 w21 => ?_⟩
          obtain ⟨_, _, hp7, hq7⟩ := hB7.at_
          walk_at "g"
          refine ⟨p, q, per, far, _, rfl, hB7, by omega, f1, fB, hper, fun sz H8 kp8 hB8 z1 zd zle => ?_⟩
          have hrl8 := (hrl6.kpD kp7 hp6).kpD kp8 hp7
          walk_at "g"
          refine ⟨by show 0 ≤ sizeLine; decide, fun e2 ne2 => ?_⟩
          have s9 := same_upd (o := .lst []) ne2
          have he9 : upd H8 e2 (.lst []) e2 = some (.lst []) := upd_same
          have hrl9 := hrl8.same s9
          have hB9 := hB8.same s9
          have nef : e2 ≠ f := fun e => by
            obtain ⟨_, hf8, _⟩ := hrl8
            rw [e, hf8] at ne2
            cases ne2
          generalize upd H8 e2 (.lst []) = H9 at *
          walk_at "g"
          refine ⟨by show 2 ≤ sizeLine; decide, fun y ny => ?_⟩
          have sA := same_upd (o := .tup [.int sz, .ref e2]) ny
          have hy : upd H9 y (.tup [.int sz, .ref e2]) y = some (.tup [.int sz, .ref e2]) := upd_same
          have heA := sA _ _ he9
          have hBA := hB9.same sA
          obtain ⟨tsA, hfA, ppA⟩ := hrl9.same sA
          have tlA := ppA.len
          have kpHA : Kp p H (upd H9 y (.tup [.int sz, .ref e2])) := kp5.trans (kp6.trans (kp7.trans (kp8.trans (s9.kp.trans sA.kp))))
          generalize upd H9 y (.tup [.int sz, .ref e2]) = HA at *
          walk_at "g"
          refine ⟨f, _, w2, .ref y, rfl, rfl, hfA, small_app (m := 100000) (by rw [List.length_map, tlA]; omega) (Nat.le_refl _), w20, by omega, ?_⟩
          have kpB := kp_upd f HA (.lst ((tsA.map V.ref).take w2.toNat ++ [.ref y] ++ (tsA.map V.ref).drop w2.toNat))
          have neA : AA e2 := by
            obtain ⟨_, _, hp8, _⟩ := hB8.at_
            rw [eA]
            exact ⟨nef, new_of (kp5.trans (kp6.trans (kp7.trans kp8))) hp8 ne2⟩
          have rr : RdT AA HA y (sz, []) := ⟨e2, neA, hy, [], heA, .nil⟩
          refine ⟨rs.take w2.toNat ++ [(sz, [])] ++ rs.drop w2.toNat, _, _, rfl, kpHA.wr nf0, (hBA.wr fp fq).mono (by omega), ⟨tsA.take w2.toNat ++ [y] ++ tsA.drop w2.toNat, ?_, ?_⟩, ⟨fun r hr => ?_⟩, ?_, ?_⟩
          · rw [List.map_append, List.map_append, List.map_take, List.map_drop]
            exact upd_same
          · exact (((ppA.take _).snoc rr).app (ppA.drop _)).mono fun _ _ e => RdT.kpf hA kpB hfA e
          · rcases List.mem_append.mp hr with hr | hr
            · rcases List.mem_append.mp hr with hr | hr
              · exact hok.ok r (List.mem_of_mem_take hr)
              · rw [List.mem_singleton.mp hr]
                exact ⟨⟨z1, fun c hc => (nomatch hc), List.nodup_nil⟩, zd, zle, Nat.zero_le _⟩
            · exact hok.ok r (List.mem_of_mem_drop hr)
          · have e3 : ((rs.take w2.toNat ++ [(sz, ([] : List (Int × Int)))] ++ rs.drop w2.toNat).map (·.2)).flatten = (rs.map (·.2)).flatten := by
              rw [List.map_append, List.map_append, List.flatten_append, List.flatten_append]
              show (_ ++ ([] : List (Int × Int))) ++ _ = _
              rw [List.append_nil, ← List.flatten_append, ← List.map_append, List.take_append_drop]
            rw [e3]
            exact pm4
          · rw [List.length_append, List.length_append, List.length_singleton, List.length_take, List.length_drop]
            omega
        · exact ⟨rs, _, _, rfl, kp5.trans kp6, hB6.mono (by omega), hrl6, hok, pm4, by omega⟩
      · rintro σ' H6 ⟨rs2, w6, w7, rfl, kp6, hB6, hrl6, hok6, pm6, ln6⟩
        walk_at "g"
        rw [eall] at pm6
        rw [eA] at hrl6
        exact k f rs2 H6 kp6 (hB6.mono (by omega)) nf0 hrl6 hok6 pm6 ln6
    · have hpos : 0 < st'.length := List.length_pos_iff.mpr hst
      rw [show (!decide (st' = [])) = true by rw [decide_eq_false hst]; rfl]
      first | refine iteT ?_ | skip
      refine ⟨fun σ' H' => ∃ (l' : Addr) (st2 : List Int) (rs : List Rd) (v6 v7 : Option V), σ' = [some (.ref p), some (.int per), some (.int (n : Int)), some (.int far), some (.ref l'), some (.ref f), v6, v7] ∧ Kp p H H' ∧ Bag H' p q (N + 60 + 23 * rs.length) ∧ H' l' = some (.lst (st2.map V.int)) ∧ l' ≠ f ∧ RL AA H' f rs ∧ RdsOk per far n rs ∧
        ((rs.map (·.2)).flatten.map (·.2) ++ st2).Perm all ∧ rs.length + st2.length ≤ n ∧ st2.length < st'.length, ?_, ?_⟩
      · rintro σ' H' ⟨l2, st2, rs2, a1, a2, h1, h2, h3, h4, h5, h6, h7, h8, h9, h10⟩
        exact ⟨_, h10, l2, st2, rs2, a1, a2, h1, h2, h3, h4, h5, h6, h7, h8, h9, rfl⟩
      · have rl10 : rs.length ≤ 10 := by omega
        obtain ⟨ts5, hf5, pp5⟩ := id hrl5
        obtain ⟨_, _, hp5, hq5⟩ := hB5.at_
        walk_at "g"
        refine ⟨p, q, per, far, _, rfl, hB5, by omega, f1, fB, hper, fun sz H6 kp6 hB6 z1 zd zle => ?_⟩
        have hl6 := kp6 _ _ hl5 (ne_of hl5 hp5 (by intro z; cases z))
        walk_at "g"
        refine ⟨_, _, rfl, .inl ⟨_, SqL.of hl6, rfl⟩, ?_⟩
        rw [List.length_map]
        walk_at "g"
        refine .inl ⟨_, rfl, ?_⟩
        walk_at "g"
        refine ⟨p, q, 4, _, rfl, hB6, by omega, by decide, d8k (by decide) (by decide), fun v7' H7 kp7 hB7 v70 v71 => ?_⟩
        walk_at "g"
        refine .inl ⟨_, rfl, ?_⟩
        obtain ⟨mi, emi, mi1, mi2, mi3, mi4⟩ := min3_ints (st'.length : Nat) sz (1 + v7')
        obtain ⟨m, rfl⟩ : ∃ m : Nat, mi = (m : Int) := ⟨mi.toNat, by omega⟩
        have m1 : 1 ≤ m := by omega
        have kp67 := kp6.trans kp7
        have hl7 := kp67 _ _ hl5 (ne_of hl5 hp5 (by intro z; cases z))
        have hrl7 := hrl5.kpD kp67 hp5
        obtain ⟨ts7, hf7, pp7⟩ := id hrl7
        walk_at "g"
        refine ⟨_, _, _, _, rfl, emi, ?_⟩
        walk_at "g"
        refine ⟨.inl ⟨rfl, _, SqL.of hf7⟩, ?_⟩
        walk_at "g"
        refine ⟨l', _, rfl, SqL.of hl7, fun sl nsl => ?_⟩
        rw [cut_to, ← List.map_take]
        have s8 := same_upd (o := .lst ((st'.take m).map V.int)) nsl
        have hsl : upd H7 sl (.lst ((st'.take m).map V.int)) sl = some (.lst ((st'.take m).map V.int)) := upd_same
        have hB8 := hB7.same s8
        have hl8 := s8 _ _ hl7
        have hf8 := s8 _ _ hf7
        have hrl8 := hrl7.same s8
        generalize upd H7 sl (.lst ((st'.take m).map V.int)) = H8 at *
        have zB : Bd 150 sz := by
          have h1 : far.natAbs < 2 ^ 140 := fB
          have h2 : (2 : Nat) ^ 150 = 2 ^ 140 * 1024 := by decide
          show sz.natAbs < 2 ^ 150
          omega
        have ltk : (st'.take m).length = m := by rw [List.length_take]; omega
        walk_at "g"
        refine ⟨p, q, sl, sz, st'.take m, _, rfl, hB8, by omega, hsl, by omega, z1, by omega, zB, fun y mm ms H9 kp9 hB9 ny nm hy hms em2 en ep => ?_⟩
        obtain ⟨_, _, hp8, hq8⟩ := hB8.at_
        have hrl9 := hrl8.kpD kp9 hp8
        obtain ⟨ts9, hf9, pp9⟩ := id hrl9
        have nmf : mm ≠ f := fun e => by rw [e, hf8] at nm; cases nm
        have hl9 := kp9 _ _ hl8 (ne_of hl8 hp8 (by intro z; cases z))
        walk_at "g"
        refine ⟨f, _, _, rfl, rfl, hf9, small_app (m := 100000) (by rw [List.length_map, pp9.len]; omega) (Nat.le_refl _), ?_⟩
        have nmA : AA mm := by rw [eA]; exact ⟨nmf, new_of (kp5.trans (kp67.trans s8.kp)) hp8 nm⟩
        have hrlA := RL.snoc (r := (sz, ms)) hA hf9 pp9 nmA hy hms
        have kpA := kp_upd f H9 (.lst (ts9.map V.ref ++ [.ref y]))
        have hlA := kpA _ _ hl9 nlf
        have hBA := hB9.wr (o := .lst (ts9.map V.ref ++ [.ref y])) fp fq
        have kpHA : Kp p H (upd H9 f (.lst (ts9.map V.ref ++ [.ref y]))) := (kp5.trans (kp67.trans (s8.kp.trans kp9))).wr nf0
        obtain ⟨tsA, hfA, _⟩ := id hrlA
        generalize upd H9 f (.lst (ts9.map V.ref ++ [.ref y])) = HA at *
        walk_at "g"
        refine ⟨l', _, rfl, SqL.of hlA, fun s2 ns2 => ?_⟩
        rw [cut_from, ← List.map_drop]
        have sB := same_upd (o := .lst ((st'.drop m).map V.int)) ns2
        refine ⟨s2, st'.drop m, rs ++ [(sz, ms)], _, _, rfl, kpHA.trans sB.kp, ?_, upd_same, (fun e => by rw [e, hfA] at ns2; cases ns2), hrlA.same sB, ⟨fun r hr => ?_⟩, ?_, ?_, ?_⟩
        · rw [List.length_append, List.length_singleton]
          exact (hBA.same sB).mono (by omega)
        · rcases List.mem_append.mp hr with hr | hr
          · exact hok.ok r hr
          · rw [List.mem_singleton.mp hr]
            refine ⟨⟨z1, fun c hc => ?_, en⟩, zd, zle, by rw [← List.length_map (·.2), em2]; omega⟩
            obtain ⟨q0, q1⟩ := ep c hc
            have hin : c.2 ∈ all := by
              refine pm4.mem_iff.mp (List.mem_append_right _ (List.mem_of_mem_take (i := m) ?_))
              rw [← em2]
              exact List.mem_map.mpr ⟨c, hc, rfl⟩
            rw [eall] at hin
            obtain ⟨i, hi, e⟩ := List.mem_map.mp hin
            have := List.mem_range.mp hi
            exact ⟨q0, q1, by omega, by omega⟩
        · rw [List.map_append, List.flatten_append, List.map_append, List.append_assoc]
          have e3 : ([(sz, ms)].map (·.2)).flatten.map (·.2) = st'.take m := by
            rw [← em2]
            show (ms ++ []).map _ = _
            rw [List.append_nil]
          rw [e3, List.take_append_drop]
          exact pm4
        · rw [List.length_append, List.length_singleton, List.length_drop]
          omega
        · rw [List.length_drop]
          omega
end
end Tr

/-! # The shape of a mechanism, as the laws draw it. -/
namespace Tr
open PySem L2 TL
/-- steps of a reading that are plain -/
local macro_rules | `(tactic| walk_at "x") => `(tactic| (refine' ⟨_, _, _, _, rfl, rfl, ?k1, ?k2, ?_⟩; (case k1 => exact SqT.of (by assumption)); (case k2 => exact rfl)))
local macro_rules | `(tactic| walk_at "g") => `(tactic| repeat (first | (refine ⟨_, rfl, ?_⟩) | (refine ⟨_, _, rfl, rfl, ?_⟩) | (refine ⟨_, _, rfl, ?_⟩) | (refine ⟨rfl, ?_⟩) | walk_at "x"))


/-- [e for a, b in steps], e draws d numbers and makes objects -/
theorem lc_spB {K : PySem.W.Frag} {a : Addr} {ts : List Addr} {cs : List SI} {i1 i2 : Nat} {te : TE} {vs : List Nat} {σ : L2.St} {H1 : Hp} {D p q : Addr} {N d : Nat} {Qd : Hp → Prop} (R : V → SI → Hp → Prop)
    (hR1 : ∀ y c H H' kvs, H p = some (.dK kvs) → Kp p H H' → R y c H → R y c H') (hR2 : ∀ y c H H' acc, H D = some (.lst acc) → Kp D H H' → R y c H → R y c H') (hD : H1 D = none) (hB : Bag H1 p q N) (ha : H1 a = some (.lst (ts.map V.ref))) (hP : P2 (SrT H1) ts cs) (hsz : cs.length ≤ 100000)
    (hw : ∀ x y, wipe (((wipe σ vs).set i1 x).set i2 y) vs = wipe σ vs)
    (he : ∀ c, c ∈ cs → ∀ H Q M, Kp p H1 H → Bag H p q M → M ≤ N + d * cs.length → (∃ acc, H D = some (.lst acc)) → (∀ y H', Kp p H H' → Bag H' p q (M + d) → R y c H' → Q y H') → te (((wipe σ vs).set i1 (some (.str c.1))).set i2 (some (.int c.2))) H Q)
    (hd : ∀ ys H, Kp p H1 H → Bag H p q (N + d * cs.length) → H D = some (.lst ys) → P2 (fun y c => R y c H) ys cs → Qd H) : LcG (Itl K a) (gTup K 2 (gCons (gName i1) (gCons (gName i2) gNil))) tYes te vs σ H1 D Qd := by
  obtain ⟨kvs, cells, hp, hq⟩ := hB.at_
  have npD : p ≠ D := ne_of_none hp hD
  have nqD : q ≠ D := ne_of_none hq hD
  have nap : a ≠ p := ne_of ha hp (by intro z; cases z)
  have naD : a ≠ D := ne_of_none ha hD
  have hlen := hP.len
  refine lc_list (K := K) (a := a) (xs := ts.map V.ref) (fun i H => Kp p H1 H ∧ Bag H p q (N + d * i) ∧ ∃ ys, H D = some (.lst ys) ∧ P2 (fun y c => R y c H) ys (cs.take i)) ⟨(same_upd hD).kp, hB.wr npD.symm nqD.symm, [], upd_same, .nil⟩ (fun i H _ ⟨s, _⟩ => SqL.of (s _ _ ha nap)) ?_ ?_
  · rintro i x H hx ⟨s, hBi, ys, hy, py⟩
    rw [List.getElem?_map] at hx
    obtain ⟨t, ht, rfl⟩ := Option.map_eq_some_iff.mp hx
    obtain ⟨c, hc, r⟩ := hP.getl ht
    have hi := (List.getElem?_eq_some_iff.mp hc).1
    have ll : ys.length ≤ 100000 := by
      have h1 := py.len
      rw [List.length_take] at h1
      omega
    have r1 := s _ _ r (ne_of r hp (by intro z; cases z))
    refine ⟨t, _, rfl, SqT.of r1, rfl, _, _, rfl, _, _, rfl, rfl, hw _ _, ?_⟩
    simp only [tYes, if_true]
    obtain ⟨kvs2, cells2, hp2, hq2⟩ := hBi.at_
    have : N + d * i ≤ N + d * cs.length := Nat.add_le_add_left (Nat.mul_le_mul_left d (Nat.le_of_lt hi)) N
    refine he c (mem_of_at hc) H _ _ s hBi this ⟨_, hy⟩ fun y H' s' hB' r' => ⟨ys, s' _ _ hy npD.symm, small_app (Nat.le_refl _) ll, (s.trans s').wr hD, ?_, ys ++ [y], upd_same, ?_⟩
    · rw [Nat.mul_succ, ← Nat.add_assoc]
      exact hB'.wr npD.symm nqD.symm
    · rw [take_snoc hc]
      have hy' := s' _ _ hy npD.symm
      exact (py.mono fun v b rb => hR2 v b H' _ _ hy' (kp_upd D H' _) (hR1 v b H H' _ hp2 s' rb)).snoc (hR2 y c H' _ _ hy' (kp_upd D H' _) r')
  · rintro H ⟨s, hBi, ys, hy, py⟩
    rw [List.length_map, hlen] at hBi py
    rw [List.take_length] at py
    exact hd ys H s hBi hy py
/-- four lists, item by item -/
inductive P4 (S : Addr → Addr → List Rd → SI → Prop) : List Addr → List Addr → List (List Rd) → List SI → Prop where
  | nil : P4 S [] [] [] []
  | cons {u f : Addr} {rs : List Rd} {c : SI} {us fs : List Addr} {R : List (List Rd)} {ks : List SI} : S u f rs c → P4 S us fs R ks → P4 S (u :: us) (f :: fs) (rs :: R) (c :: ks)
theorem P4.of {S : Addr → Addr → List Rd → SI → Prop} {ys : List V} {ks : List SI} (h : P2 (fun y c => ∃ t f rs, y = .ref t ∧ S t f rs c) ys ks) : ∃ us fs R, ys = us.map V.ref ∧ P4 S us fs R ks := by
  induction h with
  | nil => exact ⟨[], [], [], rfl, .nil⟩
  | cons r _ ih =>
    obtain ⟨t, f, rs, rfl, hS⟩ := r
    obtain ⟨us, fs, R, rfl, h4⟩ := ih
    exact ⟨t :: us, f :: fs, rs :: R, rfl, .cons hS h4⟩
theorem P4.lens {S : Addr → Addr → List Rd → SI → Prop} {us fs : List Addr} {R : List (List Rd)} {ks : List SI} (h : P4 S us fs R ks) : us.length = ks.length ∧ fs.length = ks.length ∧ R.length = ks.length := by
  induction h with
  | nil => exact ⟨rfl, rfl, rfl⟩
  | cons _ _ ih => simp only [List.length_cons, ih, and_self]
theorem P4.at {S : Addr → Addr → List Rd → SI → Prop} {us fs : List Addr} {R : List (List Rd)} {ks : List SI} (h : P4 S us fs R ks) {i : Nat} {c : SI} (hc : ks[i]? = some c) : ∃ u f rs, us[i]? = some u ∧ fs[i]? = some f ∧ R[i]? = some rs ∧ S u f rs c := by
  induction h generalizing i with
  | nil => simp at hc
  | cons s _ ih =>
    cases i with
    | zero =>
      cases hc
      exact ⟨_, _, _, rfl, rfl, rfl, s⟩
    | succ i => exact ih hc
def rdK (ks : List SI) (fs : List Addr) : List (Key × V) := (ks.zip fs).map fun z => ((.inr z.1.1 : Key), V.ref z.2)
theorem rdK_keys {ks : List SI} {fs : List Addr} (h : fs.length = ks.length) : (rdK ks fs).map (·.1) = ks.map fun c => (.inr c.1 : Key) := by
  unfold rdK
  rw [List.map_map]
  show (ks.zip fs).map ((fun c : SI => (.inr c.1 : Key)) ∘ Prod.fst) = _
  rw [← List.map_map, List.map_fst_zip (by omega)]
theorem rdK_merge {ks : List SI} {fs : List Addr} (nd : Nds ks) (h : fs.length = ks.length) : mergeK [] (rdK ks fs) = rdK ks fs := by
  refine (mergeK_new _ [] (fun _ _ _ hk => nomatch hk) ?_).trans (List.nil_append _)
  rw [rdK_keys h]
  have := kdic_nodup nd
  unfold kdic at this
  rw [List.map_map] at this
  exact this
theorem rdK_at {ks : List SI} {fs : List Addr} (nd : Nds ks) {i : Nat} {c : SI} {f : Addr} (hc : ks[i]? = some c) (hf : fs[i]? = some f) : valV (rdK ks fs) (.inr c.1) = some (.ref f) := by
  induction ks generalizing fs i with
  | nil => simp at hc
  | cons k ks ih =>
    cases fs with
    | nil => simp at hf
    | cons g fs =>
      have nd2 : Nds ks := (List.nodup_cons.mp nd).2
      have nd1 := (List.nodup_cons.mp nd).1
      show valV (((.inr k.1 : Key), V.ref g) :: rdK ks fs) _ = _
      cases i with
      | zero =>
        cases hc
        cases hf
        exact valV_pos rfl
      | succ i =>
        have hc' : ks[i]? = some c := hc
        rw [valV_neg]
        · exact ih nd2 hc' hf
        · intro e
          have e2 : k.1 = c.1 := Sum.inr.inj e
          exact nd1 (List.mem_map.mpr ⟨c, mem_of_at hc', e2.symm⟩)
theorem P4.paired {K : PySem.W.Frag} {H : Hp} {S : Addr → Addr → List Rd → SI → Prop} {us fs : List Addr} {R : List (List Rd)} {ks : List SI} (h : P4 S us fs R ks) (hS : ∀ u f rs c, S u f rs c → H u = some (.tup [.str c.1, .ref f])) :
    Paired (fun (p : Addr) (kv : Key × V) => SqT K H p [kV kv.1, kv.2]) us (rdK ks fs) := by
  induction h with
  | nil => exact .nil
  | cons s _ ih => exact .cons (SqT.of (hS _ _ _ _ s)) ih
theorem P4.rl {A : Addr → Prop} {H : Hp} {S : Addr → Addr → List Rd → SI → Prop} {us fs : List Addr} {R : List (List Rd)} {ks : List SI} (h : P4 S us fs R ks) (hS : ∀ u f rs c, S u f rs c → RL A H f rs) : P2 (fun f rs => RL A H f rs) fs R := by
  induction h with
  | nil => exact .nil
  | cons s _ ih => exact .cons (hS _ _ _ _ s) ih
theorem P4.all {S : Addr → Addr → List Rd → SI → Prop} {us fs : List Addr} {R : List (List Rd)} {ks : List SI} {B : Addr → Prop} (h : P4 S us fs R ks) (hS : ∀ u f rs c, S u f rs c → B f) : ∀ f ∈ fs, B f := by
  induction h with
  | nil => exact fun f hf => nomatch hf
  | cons s _ ih =>
    intro f hf
    rcases List.mem_cons.mp hf with rfl | hf
    · exact hS _ _ _ _ s
    · exact ih f hf
def shK (l rd : Addr) (n : Nat) : List (Key × V) := [(.inr "turns", .ref l), (.inr "states", .int (n : Int)), (.inr "rounds", .ref rd)]
/-- a shape stands at sh -/
structure ShAt (A : Addr → Prop) (H : Hp) (sh l rd : Addr) (ks : List SI) (n : Nat) (fs : List Addr) (R : List (List Rd)) : Prop where
  sh : H sh = some (.dK (shK l rd n))
  tu : SL H l ks
  rd : H rd = some (.dK (rdK ks fs))
  fl : fs.length = ks.length
  rs : P2 (fun f rs => RL A H f rs) fs R
theorem ShAt.same {A : Addr → Prop} {H H' : Hp} {sh l rd : Addr} {ks : List SI} {n : Nat} {fs : List Addr} {R : List (List Rd)} (s : Same H H') (h : ShAt A H sh l rd ks n fs R) : ShAt A H' sh l rd ks n fs R :=
  ⟨s _ _ h.sh, h.tu.same s, s _ _ h.rd, h.fl, h.rs.mono fun _ _ e => e.same s⟩
theorem ShAt.kpD {A : Addr → Prop} {p : Addr} {H H' : Hp} {kvs : List (Key × V)} {sh l rd : Addr} {ks : List SI} {n : Nat} {fs : List Addr} {R : List (List Rd)} (k : Kp p H H') (hp : H p = some (.dK kvs)) (n1 : sh ≠ p) (n2 : rd ≠ p) (h : ShAt A H sh l rd ks n fs R) : ShAt A H' sh l rd ks n fs R :=
  ⟨k _ _ h.sh n1, h.tu.kpB k hp, k _ _ h.rd n2, h.fl, h.rs.mono fun _ _ e => e.kpD k hp⟩
/-- what is drawn: each turn's rounds are right, each state stands once -/
structure ShOk (far : Int) (ks : List SI) (n : Nat) (R : List (List Rd)) : Prop where
  len : R.length = ks.length
  ok : ∀ (i : Nat) (c : SI) (rs : List Rd), ks[i]? = some c → R[i]? = some rs → RdsOk c.2 far n rs ∧ ((rs.map (·.2)).flatten.map (·.2)).Perm ((List.range n).map fun i : Nat => (i : Int)) ∧ rs.length ≤ n + 1
section
variable {P : Program} {w : World} {K : PySem.W.Frag} {mg : Str → Option Value} {base : Heap}
def spShape : Sp := fun vs H Q _ => ∃ (p q l : Addr) (most far : Int) (ks : List SI) (N : Nat), vs = [.ref p, .ref l, .int most, .int far] ∧ Bag H p q N ∧ N < 500000 ∧ SL H l ks ∧ KsOk ks ∧ 1 ≤ most ∧ most ≤ 8 ∧ 1 ≤ far ∧ Bd 140 far ∧ (∀ c ∈ ks, FarT far c) ∧
  ∀ sh rd (n : Nat) fs R H', Kp p H H' → Bag H' p q (N + 5000) → H sh = none → H rd = none → 1 ≤ n → (n : Int) ≤ most → ShAt (fun m => H m = none) H' sh l rd ks n fs R → (∀ f ∈ fs, H f = none) → ShOk far ks n R → Q (.ref sh) H'
theorem c__law_shape (T : Txt K mg) : Cal P w K mg base 5 "_law_shape" spShape [] := by
  have c__law_draw := @c__law_draw P w K mg base T
  have c__law_rounds := @c__law_rounds P w K mg base T
  refine calN T.d__law_shape sc__law_shape (fun vs H Q E h => ?_) (fun _ _ _ _ _ _ us hl => match us, hl with | [_, _, _, _], _ => rfl) (fun f cdv A outer s H vs Q E hr h => ?_)
  · obtain ⟨p, q, l, most, far, ks, N, rfl, _⟩ := h
    rfl
  · obtain ⟨p, q, l, most, far, ks, N, rfl, hB, hN, hK, ok, m1, m8, f1, fB, hfar, k⟩ := h
    refine ⟨_, (pss_cons (ps_set (i := 4) sc__law_shape.nd rfl (Or.inr rfl) (pe_op op_add pe_int (pe_cx c__law_draw hr (by first | decide | omega) rfl passL (pa_cons (pv 0) (pa_cons (pv 2) pa_nil)))))
      (pss_cons (ps_set (i := 5) sc__law_shape.nd rfl (Or.inl rfl) (pe_callTy (call_dictP rfl) (by rfl) T.b_dict (by decide +kernel) (pa_cons (pe_lc (own := [("_law_name", 6), ("_law_period", 7)]) (g := gTup K 2 (gCons (gName 6) (gCons (gName 7) gNil))) rfl sc__law_shape.nd (pi_listK K (pv 1)) (blkOk_by (own := [("_law_name", 6), ("_law_period", 7)]) (N := ["_law_pen_here", "_law_turns_here", "_law_most", "_law_far", "_law_states", "_law_rounds_here", "_law_name", "_law_period"]) (sc := defScope s__law_shape) (by decide +kernel)) (fun _ _ _ _ _ => (pg_tup rfl (pgs_cons (pg_name (i := 6) sc__law_shape.nd rfl (Or.inl rfl)) (pgs_cons (pg_name (i := 7) sc__law_shape.nd rfl (Or.inl rfl)) pgs_nil)))) (fun _ _ _ _ _ => pts_nil) (fun _ _ _ _ _ => (pe_tup (pa_cons (pv 6) (pa_cons (pe_cx c__law_rounds hr (by first | decide | omega) rfl passL (pa_cons (pv 0) (pa_cons (pv 7) (pa_cons (pv 4) (pa_cons (pv 3) pa_nil))))) pa_nil))))) pa_nil)))
      (pss_one (ps_ret (pe_disp (pps_cons pe_str (pv 1) (pps_cons pe_str (pv 4) (pps_cons pe_str (pv 5) pps_nil))) rfl rfl (List.cons_ne_nil _ _) (by decide)))))), ?_⟩
    obtain ⟨_, _, hp, hq⟩ := hB.at_
    walk_at "g"
    refine ⟨p, q, most, N, rfl, hB, by omega, by omega, d8k (by omega) (by omega), fun v H1 kp1 hB1 v0 v1 => ?_⟩
    obtain ⟨n, en⟩ : ∃ n : Nat, 1 + v = (n : Int) := ⟨(1 + v).toNat, by omega⟩
    have hK1 := hK.kpB kp1 hp
    obtain ⟨ts, hl, pp⟩ := id hK1
    obtain ⟨_, _, hp1, hq1⟩ := hB1.at_
    have n8 := ok.n8
    walk_at "g"
    refine ⟨⟨_, SqL.of hl⟩, fun D nD => ?_⟩
    obtain ⟨RR, eRR⟩ : ∃ RR : V → SI → Hp → Prop, RR = fun y c H' => ∃ t f rs, y = .ref t ∧ f ≠ D ∧ H f = none ∧ H' t = some (.tup [.str c.1, .ref f]) ∧ RL (fun m => m ≠ D ∧ H m = none) H' f rs ∧ RdsOk c.2 far n rs ∧ ((rs.map (·.2)).flatten.map (·.2)).Perm ((List.range n).map fun i : Nat => (i : Int)) ∧ rs.length ≤ n + 1 := ⟨_, rfl⟩
    refine lc_spB (d := 500) RR ?_ ?_ nD hB1 hl pp (by omega) (fun _ _ => rfl) ?_ ?_
    · rw [eRR]
      rintro y c H' H'' kvs hp' kp' ⟨t, f, rs, e1, e2, e3, e4, e5, r⟩
      exact ⟨t, f, rs, e1, e2, e3, kp' _ _ e4 (ne_of e4 hp' (by intro z; cases z)), e5.kpD kp' hp', r⟩
    · rw [eRR]
      rintro y c H' H'' acc hD' kp' ⟨t, f, rs, e1, e2, e3, e4, e5, r⟩
      exact ⟨t, f, rs, e1, e2, e3, kp' _ _ e4 (ne_of e4 hD' (by intro z; cases z)), e5.kpL (fun m hm => hm.1) kp' hD' e2, r⟩
    · intro c hc H2 Q2 M kp2 hB2 hM ⟨acc, hD2⟩ qq
      walk_at "g"
      refine ⟨p, q, c.2, far, n, M, by rw [← en]; rfl, hB2, by omega, by omega, by omega, f1, fB, (hfar c hc).2, fun f rs H3 kp3 hB3 nf hrl hok pm ln => ?_⟩
      walk_at "g"
      refine ⟨by show 2 ≤ sizeLine; decide, fun u nu => ?_⟩
      obtain ⟨_, _, hp2, _⟩ := hB2.at_
      have s4 := same_upd (o := .tup [.str c.1, .ref f]) nu
      refine qq _ _ (kp3.trans s4.kp) (hB3.same s4) ?_
      rw [eRR]
      have fD : f ≠ D := fun e => by rw [e, hD2] at nf; cases nf
      exact ⟨u, f, rs, rfl, fD, new_of (kp1.trans kp2) hp2 nf, upd_same, (hrl.mono fun m hm => ⟨(fun e => by rw [e, hD2] at hm; exact nomatch hm.2), new_of (kp1.trans kp2) hp2 hm.2⟩).same s4, hok, pm, ln⟩
    · intro ys H2 kp2 hB2 hD2 py
      rw [eRR] at py
      obtain ⟨us, fs, R, rfl, h4⟩ := P4.of py
      obtain ⟨ul, fl, rl⟩ := h4.lens
      walk_at "g"
      refine ⟨D, us, rdK ks fs, rfl, SqL.of hD2, ?_, fun dp ndp => ?_⟩
      · exact h4.paired fun u f rs c hS => hS.2.2.1
      rw [rdK_merge ok.nd fl]
      have s3 := same_upd (o := .dK (rdK ks fs)) ndp
      have hdp3 : upd H2 dp (.dK (rdK ks fs)) dp = some (.dK (rdK ks fs)) := upd_same
      obtain ⟨_, _, hp2, _⟩ := hB2.at_
      have ndp0 : H dp = none := new_of (kp1.trans kp2) hp2 ndp
      have hB3 := hB2.same s3
      obtain ⟨_, _, hp3, _⟩ := hB3.at_
      have kp3 : Kp p H (upd H2 dp (.dK (rdK ks fs))) := (kp1.trans kp2).trans s3.kp
      generalize upd H2 dp (.dK (rdK ks fs)) = H3 at *
      walk_at "g"
      intro sh nsh
      have s4 := same_upd (o := .dK []) nsh
      walk_at "g"
      refine ⟨upd_same, [(.inr "turns", .ref l), (.inr "states", .int (1 + v)), (.inr "rounds", .ref dp)], rfl, by show 3 ≤ 15; decide, ?_⟩
      have s5 := s4.wr (o := .dK (mergeK [] [(.inr "turns", .ref l), (.inr "states", .int (1 + v)), (.inr "rounds", .ref dp)])) nsh
      have hsh : upd (upd H3 sh (.dK [])) sh (.dK (mergeK [] [(.inr "turns", .ref l), (.inr "states", .int (1 + v)), (.inr "rounds", .ref dp)])) sh = some (.dK (shK l dp n)) := by
        rw [en]
        exact upd_same
      generalize upd (upd H3 sh (.dK [])) sh (.dK (mergeK [] [(.inr "turns", .ref l), (.inr "states", .int (1 + v)), (.inr "rounds", .ref dp)])) = H5 at *
      refine k sh dp n fs R H5 (kp3.trans s5.kp) ((hB3.same s5).mono (by omega)) (new_of kp3 hp3 nsh) ndp0 (by omega) (by omega) ⟨hsh, ((hK1.kpB kp2 hp1).same s3).same s5, s5 _ _ hdp3, fl, ?_⟩ ?_ ⟨rl, fun i c rs hc hrs => ?_⟩
      · exact h4.rl fun u f rs c hS => ((hS.2.2.2.1.mono fun m hm => hm.2).same s3).same s5
      · exact h4.all fun u f rs c hS => hS.2.1
      · obtain ⟨u, f, rs', _, _, h3, hS⟩ := h4.at hc
        rw [hrs] at h3
        cases h3
        exact hS.2.2.2.2
end
end Tr

/-! # is_round. -/
namespace Tr
open PySem L2 TL
/-- steps of a reading that are plain -/
local macro_rules | `(tactic| walk_at "x") => `(tactic| (refine' ⟨_, _, _, _, rfl, rfl, ?k1, ?k2, ?_⟩; (case k1 => exact SqT.of (by assumption)); (case k2 => exact rfl)))
local macro_rules | `(tactic| walk_at "g") => `(tactic| repeat (first | (refine ⟨_, rfl, ?_⟩) | (refine ⟨_, _, rfl, rfl, ?_⟩) | (refine ⟨_, _, rfl, ?_⟩) | (refine ⟨rfl, ?_⟩) | walk_at "x"))


def mkD (ms : List (Int × Int)) : List (Key × V) := ms.map fun c => ((.inl c.1 : Key), V.int c.2)
theorem mkD_none {ms : List (Int × Int)} {x : Int} (h : x ∉ ms.map (·.1)) : valV (mkD ms) (.inl x) = none := by
  induction ms with
  | nil => rfl
  | cons c ms ih =>
    rw [List.map_cons, List.mem_cons, not_or] at h
    show valV (((.inl c.1 : Key), V.int c.2) :: mkD ms) _ = _
    rw [valV_neg (fun e => h.1 (Sum.inl.inj e).symm)]
    exact ih h.2
theorem mkD_put {ms : List (Int × Int)} {c : Int × Int} (h : c.1 ∉ ms.map (·.1)) : putK (mkD ms) (.inl c.1) (.int c.2) = mkD (ms ++ [c]) := by
  rw [L2.putK_new _ (mkD_none h)]
  unfold mkD
  rw [List.map_append]
  rfl
theorem mkD_len (ms : List (Int × Int)) : (mkD ms).length = ms.length := List.length_map ..
theorem nodup_at {ms : List (Int × Int)} {f : Int × Int → Int} (nd : (ms.map f).Nodup) {i : Nat} {c : Int × Int} (h : ms[i]? = some c) : f c ∉ (ms.take i).map f := by
  intro hm
  obtain ⟨d, hd, e⟩ := List.mem_map.mp hm
  obtain ⟨j, hj, ej⟩ := List.getElem_of_mem hd
  rw [List.length_take] at hj
  rw [List.getElem_take] at ej
  obtain ⟨hi, ei⟩ := List.getElem?_eq_some_iff.mp h
  have := List.nodup_iff_pairwise_ne.mp nd
  rw [List.pairwise_map, List.pairwise_iff_getElem] at this
  exact this j i (by omega) hi (by omega) (by rw [ej, ei, e])
section
variable {P : Program} {w : World} {K : PySem.W.Frag} {mg : Str → Option Value} {base : Heap}
def spIsRd : Sp := fun vs H Q _ => ∃ (m : Addr) (per : Int) (n : Nat) (r : Rd), vs = [.int per, .int (n : Int), .int r.1, .ref m] ∧ PL H m r.2 ∧ RdOk n r ∧ per % r.1 = 0 ∧ r.2.length ≤ 100 ∧ ∀ H', Same H H' → Q (.bl true) H'
theorem c_is_round (T : Txt K mg) : Cal P w K mg base 2 "is_round" spIsRd [] := by
  have c_is_whole := @c_is_whole P w K mg base T
  refine calN T.d_is_round sc_is_round (fun vs H Q E h => ?_) (fun _ _ _ _ _ _ us hl => match us, hl with | [_, _, _, _], _ => rfl) (fun f cdv A outer s H vs Q E hr h => ?_)
  · obtain ⟨m, per, n, r, rfl, _⟩ := h
    rfl
  · obtain ⟨m, per, n, r, rfl, hm, ok, hper, hlen, k⟩ := h
    refine ⟨_, (pss_cons (ps_if (PW.pt (pw_or (pt_not (pt_val (pe_cx c_is_whole hr (by first | decide | omega) rfl passL (pa_cons (pv 2) pa_nil)))) (pw_or (pt_cmpR op_lt (pv 2) pe_int (nomark _)) (pw_or1 (pt_cmpR op_ne (pe_op op_mod (pv 0) (pv 2)) pe_int (nomark _)))))) (pss_one (ps_ret pe_bl)) pss_nil)
      (pss_cons (ps_set (i := 4) sc_is_round.nd rfl (Or.inl rfl) pe_dnewK)
      (pss_cons (ps_for PassesOwn.never rfl (pi_list (pv 3)) (pg_tup rfl (pgs_cons (pg_name (i := 5) sc_is_round.nd rfl (Or.inl rfl)) (pgs_cons (pg_name (i := 6) sc_is_round.nd rfl (Or.inl rfl)) pgs_nil))) (pss_cons (ps_if (PW.pt (pw_or (pt_not (pt_val (pe_cx c_is_whole hr (by first | decide | omega) rfl passL (pa_cons (pv 5) pa_nil)))) (pw_or (pt_not (pt_chain op_le op_lt pe_int (pv 5) (pv 2))) (pw_or1 (pt_cmp (pc_din (hu_of hr) (pv 5) (pv 4))))))) (pss_one (ps_ret pe_bl)) pss_nil)
      (pss_cons (ps_if (PW.pt (pw_or (pt_not (pt_val (pe_cx c_is_whole hr (by first | decide | omega) rfl passL (pa_cons (pv 6) pa_nil)))) (pw_or1 (pt_not (pt_chain op_le op_lt pe_int (pv 6) (pv 1)))))) (pss_one (ps_ret pe_bl)) pss_nil)
      (pss_one (ps_dput (hu_of hr) (pv 4) (pv 5) (pv 6) rfl)))))
      (pss_one (ps_ret pe_bl))))), ?_⟩
    have s1 := ok.s1
    walk_at "g"
    refine ⟨_, _, rfl, isW_int _, ?_⟩
    walk_at "g"
    refine iteB (fun c1 => absurd (of_decide_eq_true c1) (by omega)) (fun c1 => ?_)
    walk_at "g"
    refine ⟨by omega, ?_⟩
    walk_at "g"
    refine iteNe (by show V.int (per % r.1) = V.int 0; rw [hper]) ?_
    walk_at "g"
    intro d nd
    have s2 := same_upd (o := .dK []) nd
    have hd2 : upd H d (.dK []) d = some (.dK []) := upd_same
    obtain ⟨ts, h1, pp⟩ := hm.same s2
    generalize upd H d (.dK []) = H2 at *
    walk_at "g"
    refine ⟨⟨_, SqL.of h1⟩, ?_⟩
    refine for_pairs (ts := ts) (cs := r.2) (fun i σ H' => ∃ (v5 v6 : Option V), σ = [some (.int per), some (.int (n : Int)), some (.int r.1), some (.ref m), some (.ref d), v5, v6] ∧ Same H H' ∧ H' m = some (.lst (ts.map V.ref)) ∧ P2 (PrT H') ts r.2 ∧ H' d = some (.dK (mkD (r.2.take i)))) ⟨_, _, rfl, s2, h1, pp, hd2⟩ ?_ ?_ ?_
    · rintro i σ H' _ ⟨v5, v6, _, _, h3, h4, _⟩
      exact ⟨SqL.of h3, h4⟩
    · rintro i c σ H3 hc ⟨v5, v6, rfl, s3, hm3, pp3, hd3⟩
      obtain ⟨q0, q1, q2, q3⟩ := ok.ps c (mem_of_at hc)
      have hnew := nodup_at (f := (·.1)) ok.nd hc
      walk_at "g"
      refine ⟨_, _, rfl, isW_int _, ?_⟩
      walk_at "g"
      refine iteB (fun _ => ?_) (fun h => absurd q0 (of_decide_eq_false h))
      walk_at "g"
      refine iteB (fun h => absurd h (by rw [decide_eq_true q1]; decide)) (fun _ => ?_)
      walk_at "g"
      refine ⟨d, _, rfl, DGet.k (k := (.inl c.1 : Key)) hd3, ?_⟩
      rw [mkD_none hnew]
      walk_at "g"
      refine ⟨_, _, rfl, isW_int _, ?_⟩
      walk_at "g"
      refine iteB (fun _ => ?_) (fun h => absurd q2 (of_decide_eq_false h))
      walk_at "g"
      refine iteB (fun h => absurd h (by rw [decide_eq_true q3]; decide)) (fun _ => ?_)
      walk_at "g"
      refine ⟨d, _, rfl, DPut.k (k := (.inl c.1 : Key)) hd3 (by rw [mkD_len, List.length_take]; exact Nat.lt_of_le_of_lt (Nat.le_trans (Nat.min_le_right _ _) hlen) (by decide)), ?_⟩
      have kp4 := kp_upd d H3 (.dK (putK (mkD (r.2.take i)) (.inl c.1) (.int c.2)))
      refine ⟨_, _, rfl, s3.wr nd, kp4 _ _ hm3 (ne_of hm3 hd3 (by intro z; cases z)), pp3.mono fun _ _ e => PrT.kpB kp4 hd3 e, ?_⟩
      rw [mkD_put hnew, ← take_snoc hc]
      exact upd_same
    · rintro σ H3 ⟨v5, v6, rfl, s3, hm3, pp3, hd3⟩
      walk_at "g"
      exact k H3 s3
end
end Tr

/-! # Mechanism.take_round. -/
namespace Tr
open PySem L2 TL
/-- steps of a reading that are plain -/
local macro_rules | `(tactic| walk_at "x") => `(tactic| (refine' ⟨_, _, _, _, rfl, rfl, ?k1, ?k2, ?_⟩; (case k1 => exact SqT.of (by assumption)); (case k2 => exact rfl)))
local macro_rules | `(tactic| walk_at "g") => `(tactic| repeat (first | (refine ⟨_, rfl, ?_⟩) | (refine ⟨_, _, rfl, rfl, ?_⟩) | (refine ⟨_, _, rfl, ?_⟩) | (refine ⟨rfl, ?_⟩) | walk_at "x"))


/-- {k: v for .. in an iteration} -/
theorem dc_it {J : It} {n : Nat} {G : Hp → Prop} {Y : Nat → Hp → V → Hp → Prop} (w : Walk J n G Y) {g : TG} {tt : TT} {tk tv : TE} {vs : List Nat} {σ : L2.St} {H1 : Hp} {D : Addr} {Qd : Hp → Prop} (Pv : Nat → Hp → Prop) (h0 : Pv 0 (upd H1 D (.dK []))) (hG : ∀ i H, i ≤ n → Pv i H → G H)
    (hs : ∀ i x H H', i < n → Pv i H → Y i H x H' → g x (wipe σ vs) H' fun σ2 H2 => wipe σ2 vs = wipe σ vs ∧ tt σ2 H2 fun b H3 =>
      if b = true then tk σ2 H3 fun y H4 => tv σ2 H4 fun z H5 => ∃ kvs k, y = kV k ∧ H5 D = some (.dK kvs) ∧ kvs.length < sizeLine ∧ Pv (i + 1) (upd H5 D (.dK (putK kvs k z))) else Pv (i + 1) H3) (hd : ∀ H, Pv n H → Qd H) :
    ∃ W : Nat → Nat → Hp → Prop, (∃ m, W 0 m (upd H1 D (.dK []))) ∧ ∀ i m H, W i m H →
      (J.stop i H ∧ Qd H) ∨ (J.go i H ∧ ∃ Nx : Hp → Prop, (∀ H', Nx H' → ∃ m', m' < m ∧ W (i + 1) m' H') ∧ ∀ x H', J.yld i H x H' → g x (wipe σ vs) H' fun σ2 H2 => wipe σ2 vs = wipe σ vs ∧ tt σ2 H2 fun b H3 =>
        if b = true then tk σ2 H3 fun y H4 => tv σ2 H4 fun z H5 => ∃ kvs k, y = kV k ∧ H5 D = some (.dK kvs) ∧ kvs.length < sizeLine ∧ Nx (upd H5 D (.dK (putK kvs k z))) else Nx H3) := by
  refine ⟨fun i m H => m = n - i ∧ i ≤ n ∧ Pv i H, ⟨n, (Nat.sub_zero n).symm, Nat.zero_le _, h0⟩, ?_⟩
  rintro i m H ⟨rfl, hi, p⟩
  rcases Nat.lt_or_ge i n with hlt | hge
  · exact .inr ⟨w.goes i H hlt (hG i H hi p), Pv (i + 1), fun H' p' => ⟨n - (i + 1), by omega, rfl, hlt, p'⟩, fun x H' y => hs i x H H' hlt p (w.yields i H x H' hlt (hG i H hi p) y)⟩
  · obtain rfl : i = n := by omega
    exact .inl ⟨w.stops H (hG _ H hi p), hd H p⟩
/-- all but what stands at two places is as it was -/
def Kp2 (l s : Addr) (H H' : Hp) : Prop := ∀ b o, H b = some o → b ≠ l → b ≠ s → H' b = some o
theorem Kp2.trans {l s : Addr} {H H1 H2 : Hp} (a : Kp2 l s H H1) (b : Kp2 l s H1 H2) : Kp2 l s H H2 := fun c o e n1 n2 => b c o (a c o e n1 n2) n1 n2
theorem _root_.L2.Same.kp2 {l s : Addr} {H H' : Hp} (h : Same H H') : Kp2 l s H H' := fun b o e _ _ => h b o e
theorem kp2_l (l s : Addr) (H : Hp) (o : HO) : Kp2 l s H (L2.upd H l o) := fun b u e n _ => by rw [upd_ne n]; exact e
theorem kp2_s (l s : Addr) (H : Hp) (o : HO) : Kp2 l s H (L2.upd H s o) := fun b u e _ n => by rw [upd_ne n]; exact e
/-- a round as a mechanism keeps it -/
def MrT (B : Addr → Prop) (H : Hp) (u : Addr) (r : Rd) : Prop := ∃ d, B d ∧ H u = some (.tup [.int r.1, .ref d]) ∧ H d = some (.dK (mkD r.2))
def MrL (B : Addr → Prop) (H : Hp) (l : Addr) (rs : List Rd) : Prop := ∃ us : List Addr, H l = some (.lst (us.map V.ref)) ∧ P2 (MrT B H) us rs
/-- a seat: state, round, position -/
abbrev Seat : Type := Int × Int × Int
def StT (H : Hp) (u : Addr) (e : Seat) : Prop := H u = some (.tup [.int e.2.1, .int e.2.2])
def seK (es : List Seat) (us : List Addr) : List (Key × V) := (es.zip us).map fun z => ((.inl z.1.1 : Key), V.ref z.2)
def SeD (H : Hp) (s : Addr) (es : List Seat) : Prop := ∃ us : List Addr, H s = some (.dK (seK es us)) ∧ P2 (StT H) us es
theorem seK_none : ∀ {es : List Seat} {us : List Addr} {x : Int}, x ∉ es.map (·.1) → valV (seK es us) (.inl x) = none
  | [], _, _, _ => rfl
  | _ :: _, [], _, _ => rfl
  | e :: es, u :: us, x, h => by
    rw [List.map_cons, List.mem_cons, not_or] at h
    show valV (((.inl e.1 : Key), V.ref u) :: seK es us) _ = _
    rw [valV_neg (fun q => h.1 (Sum.inl.inj q).symm)]
    exact seK_none h.2
theorem seK_put {es : List Seat} {us : List Addr} {e : Seat} {u : Addr} (hl : us.length = es.length) (h : e.1 ∉ es.map (·.1)) : putK (seK es us) (.inl e.1) (.ref u) = seK (es ++ [e]) (us ++ [u]) := by
  rw [L2.putK_new _ (seK_none h)]
  unfold seK
  rw [List.zip_append hl.symm, List.map_append]
  rfl
theorem MrL.kp2 {B : Addr → Prop} {l s l' : Addr} {H H' : Hp} {xs : List V} {kvs : List (Key × V)} {rs : List Rd} (hB : ∀ d, B d → d ≠ s) (k : Kp2 l s H H') (hl : H l = some (.lst xs)) (hs : H s = some (.dK kvs)) (n : l' ≠ l) (h : MrL B H l' rs) : MrL B H' l' rs := by
  obtain ⟨us, a, b⟩ := h
  refine ⟨us, k _ _ a n (ne_of a hs (by intro z; cases z)), b.mono fun u r ⟨d, h1, h2, h3⟩ => ⟨d, h1, ?_, ?_⟩⟩
  · exact k _ _ h2 (ne_of h2 hl (by intro z; cases z)) (ne_of h2 hs (by intro z; cases z))
  · exact k _ _ h3 (ne_of h3 hl (by intro z; cases z)) (hB d h1)
theorem SeD.kp2 {l s s' : Addr} {H H' : Hp} {xs : List V} {kvs : List (Key × V)} {es : List Seat} (k : Kp2 l s H H') (hl : H l = some (.lst xs)) (hs : H s = some (.dK kvs)) (n : s' ≠ s) (h : SeD H s' es) : SeD H' s' es := by
  obtain ⟨us, a, b⟩ := h
  exact ⟨us, k _ _ a (ne_of a hl (by intro z; cases z)) n, b.mono fun u e (h2 : H u = _) => k _ _ h2 (ne_of h2 hl (by intro z; cases z)) (ne_of h2 hs (by intro z; cases z))⟩
theorem PL.kp2 {l s m : Addr} {H H' : Hp} {xs : List V} {kvs : List (Key × V)} {cs : List (Int × Int)} (k : Kp2 l s H H') (hl : H l = some (.lst xs)) (hs : H s = some (.dK kvs)) (n : m ≠ l) (h : PL H m cs) : PL H' m cs := by
  obtain ⟨us, a, b⟩ := h
  exact ⟨us, k _ _ a n (ne_of a hs (by intro z; cases z)), b.mono fun u e (h2 : H u = _) => k _ _ h2 (ne_of h2 hl (by intro z; cases z)) (ne_of h2 hs (by intro z; cases z))⟩
theorem perOf_of {ks : List SI} (nd : Nds ks) {c : SI} (hc : c ∈ ks) : perOf ks c.1 = c.2 := by
  obtain ⟨d, hd, e, lk⟩ := lookS_mem ⟨c, hc, rfl⟩
  unfold perOf
  rw [lk]
  obtain ⟨i, hi, ei⟩ := List.getElem_of_mem hc
  obtain ⟨j, hj, ej⟩ := List.getElem_of_mem hd
  have := List.nodup_iff_pairwise_ne.mp nd
  rw [List.pairwise_map, List.pairwise_iff_getElem] at this
  rcases Nat.lt_trichotomy i j with h | h | h
  · exact (this i j hi hj h (by rw [ei, ej, e])).elim
  · subst h
    rw [← ei, ← ej]
    rfl
  · exact (this j i hj hi h (by rw [ei, ej, e])).elim
def mfl4 (t dr ds : Addr) (n : Nat) : List (Str × V) := [("turns", .ref t), ("states", .int (n : Int)), ("own_rounds", .ref dr), ("own_seats", .ref ds)]
def seatsOf (at_ : Nat) (r : Rd) : List Seat := r.2.map fun c => (c.2, (at_ : Int), c.1)
section
variable {P : Program} {w : World} {K : PySem.W.Frag} {mg : Str → Option Value} {base : Heap}
def spTake (C CT : Addr) : Sp := fun vs H Q _ => ∃ (B : Addr → Prop) (x dx t dr ds m l s : Addr) (n i : Nat) (ks : List SI) (c : SI) (ls ss : List Addr) (r : Rd) (rs : List Rd) (es : List Seat), vs = [.ref x, .str c.1, .int r.1, .ref m] ∧ H x = some (.ins C dx (mfl4 t dr ds n)) ∧ TuAt CT H t ks ∧ KsOk ks ∧ ks[i]? = some c ∧ ls[i]? = some l ∧ ss[i]? = some s ∧
  H dr = some (.dK (rdK ks ls)) ∧ H ds = some (.dK (rdK ks ss)) ∧ MrL B H l rs ∧ SeD H s es ∧ PL H m r.2 ∧ m ≠ l ∧ dr ≠ s ∧ RdOk n r ∧ c.2 % r.1 = 0 ∧ r.2.length ≤ 20 ∧ rs.length ≤ 100 ∧ es.length ≤ 100 ∧
  (r.2.map (·.2)).Nodup ∧ (∀ c ∈ r.2, c.2 ∉ es.map (·.1)) ∧ (∀ d, B d → d ≠ s) ∧ (∀ d, H d = none → B d) ∧ ∀ H', Kp2 l s H H' → MrL B H' l (rs ++ [r]) → SeD H' s (es ++ seatsOf rs.length r) → Q .non H'
theorem c_take_round (T : Txt K mg) : Met P w K mg base 4 (He.ga K "Mechanism") "take_round" (spTake (He.ga K "Mechanism") (He.ga K "Turns")) [] := by
  have c_is_round := @c_is_round P w K mg base T
  have c_period_of := @c_period_of P w K mg base T
  refine metN T.m_Mechanism__take_round sc_Mechanism_take_round (fun vs H Q E h => ?_) (fun _ _ _ _ _ _ us hl => match us, hl with | [_, _, _, _], _ => rfl) (fun f cdv A outer s' H vs Q E hr h => ?_)
  · obtain ⟨B, x, dx, t, dr, ds, m, l, s, n, i, ks, c, ls, ss, r, rs, es, rfl, _⟩ := h
    rfl
  · obtain ⟨B, x, dx, t, dr, ds, m, l, s, n, i, ks, c, ls, ss, r, rs, es, rfl, hx, hT, ok, hc, hli, hsi, hdr, hds, hL, hS, hm, nml, ndr, rok, hper, r20, rs100, es100, nd, hnew, hBs, hBn, k⟩ := h
    refine ⟨_, (pss_cons (ps_set (i := 4) sc_Mechanism_take_round.nd rfl (Or.inl rfl) (pe_callB call_len (by rfl) T.b_len (by decide +kernel) (pa_cons (pe_dget (hu_of hr) (pe_fldK K (pv 0) (by rfl)) (pv 1) (fun _ _ => rfl)) pa_nil)))
      (pss_cons (ps_if (pt_not (pt_val (pe_cx c_is_round hr (by first | decide | omega) rfl passL (pa_cons (pe_mtx c_period_of hr (by first | decide | omega) passL (pe_fldK K (pv 0) (by rfl)) (pa_cons (pv 1) pa_nil)) (pa_cons (pe_fldK K (pv 0) (by rfl)) (pa_cons (pv 2) (pa_cons (pv 3) pa_nil))))))) (pss_one ps_never) pss_nil)
      (pss_cons (ps_set (i := 5) sc_Mechanism_take_round.nd rfl (Or.inl rfl) (pe_dget (hu_of hr) (pe_fldK K (pv 0) (by rfl)) (pv 1) (fun _ _ => rfl)))
      (pss_cons (ps_for PassesOwn.never rfl (pi_list (pv 3)) (pg_tup rfl (pgs_cons (pg_name (i := 6) sc_Mechanism_take_round.nd rfl (Or.inl rfl)) (pgs_cons (pg_name (i := 7) sc_Mechanism_take_round.nd rfl (Or.inl rfl)) pgs_nil))) (pss_cons (ps_if (pt_cmp (pc_din (hu_of hr) (pv 7) (pv 5))) (pss_one ps_never) pss_nil)
      (pss_one (ps_dput (hu_of hr) (pv 5) (pv 7) (pe_tup (pa_cons (pv 4) (pa_cons (pv 6) pa_nil))) rfl))))
      (pss_one (ps_expr (pe_bm PySem.F.plainAttrs_list PySem.F.slot_list_append PySem.F.type_list_append mt_append (pe_dget (hu_of hr) (pe_fldK K (pv 0) (by rfl)) (pv 1) (fun _ _ => rfl)) (pa_cons (pe_tup (pa_cons (pv 2) (pa_cons (pe_dc (own := [("position", 6), ("state", 7)]) (g := gTup K 2 (gCons (gName 6) (gCons (gName 7) gNil))) rfl sc_Mechanism_take_round.nd (pi_list (pv 3)) (blkOk_by (own := [("position", 6), ("state", 7)]) (N := ["self", "turn", "size", "marks", "at", "seats", "position", "state"]) (sc := defScope s_Mechanism_take_round) (by decide +kernel)) (fun _ _ _ _ _ => (pg_tup rfl (pgs_cons (pg_name (i := 6) sc_Mechanism_take_round.nd rfl (Or.inl rfl)) (pgs_cons (pg_name (i := 7) sc_Mechanism_take_round.nd rfl (Or.inl rfl)) pgs_nil)))) (fun _ _ _ _ _ => pts_nil) (fun _ _ _ _ _ => (pv 6)) (fun _ _ _ _ _ => (pv 7))) pa_nil))) pa_nil)))))))), ?_⟩
    obtain ⟨us, hl, pL⟩ := id hL
    obtain ⟨vs, hs, pS⟩ := id hS
    have lus := pL.len
    walk_at "g"
    refine ⟨x, _, dx, _, _, rfl, hx, T.k_Mechanism, T.a_Mechanism__own_rounds, rfl, ?_⟩
    walk_at "g"
    refine ⟨dr, .ref l, rfl, by
      have := DGet.k (k := (.inr c.1 : Key)) hdr
      rw [rdK_at ok.nd hc hli] at this
      exact this, ?_⟩
    walk_at "g"
    refine ⟨_, _, rfl, .inl ⟨_, SqL.of hl, rfl⟩, ?_⟩
    rw [List.length_map, lus]
    walk_at "g"
    obtain ⟨dt, p1, p2, p3, p4, ht, _⟩ := id hT.ex
    refine ⟨x, _, dx, _, _, rfl, hx, T.k_Mechanism, T.a_Mechanism__turns, rfl, ?_⟩
    walk_at "g"
    refine ⟨t, dt, _, rfl, ht, rfl, ?_⟩
    walk_at "g"
    refine ⟨t, c.1, ks, rfl, hT, ⟨c, mem_of_at hc, rfl⟩, ?_⟩
    rw [perOf_of ok.nd (mem_of_at hc)]
    walk_at "g"
    refine ⟨x, _, dx, _, _, rfl, hx, T.k_Mechanism, T.a_Mechanism__states, rfl, ?_⟩
    walk_at "g"
    refine ⟨m, c.2, n, r, rfl, hm, rok, hper, by omega, fun H1 s1 => ?_⟩
    walk_at "g"
    refine ⟨x, _, dx, _, _, rfl, s1 _ _ hx, T.k_Mechanism, T.a_Mechanism__own_seats, rfl, ?_⟩
    walk_at "g"
    refine ⟨ds, .ref s, rfl, by
      have := DGet.k (k := (.inr c.1 : Key)) (s1 _ _ hds)
      rw [rdK_at ok.nd hc hsi] at this
      exact this, ?_⟩
    obtain ⟨ts, hm1, pm1⟩ := hm.same s1
    have hs1 := s1 _ _ hs
    have hl1 := s1 _ _ hl
    have pS1 : P2 (StT H1) vs es := pS.mono fun _ _ e => s1 _ _ e
    walk_at "g"
    refine ⟨⟨_, SqL.of hm1⟩, ?_⟩
    refine for_pairs (ts := ts) (cs := r.2) (fun j σ H' => ∃ (v6 v7 : Option V) (vs' : List Addr) (kvs' : List (Key × V)), σ = [some (.ref x), some (.str c.1), some (.int r.1), some (.ref m), some (.int (rs.length : Nat)), some (.ref s), v6, v7] ∧ Kp2 l s H H' ∧ H' m = some (.lst (ts.map V.ref)) ∧ P2 (PrT H') ts r.2 ∧ H' l = some (.lst (us.map V.ref)) ∧ H' s = some (.dK (seK (es ++ seatsOf rs.length (r.1, r.2.take j)) vs')) ∧ P2 (StT H') vs' (es ++ seatsOf rs.length (r.1, r.2.take j))) ⟨_, _, vs, [], rfl, s1.kp2, hm1, pm1, hl1, by rw [show seatsOf rs.length (r.1, r.2.take 0) = [] from rfl, List.append_nil]; exact hs1, by rw [show seatsOf rs.length (r.1, r.2.take 0) = [] from rfl, List.append_nil]; exact pS1⟩ ?_ ?_ ?_
    · rintro j σ H' _ ⟨_, _, _, _, _, _, h1, h2, _⟩
      exact ⟨SqL.of h1, h2⟩
    · rintro j e σ H2 he ⟨v6, v7, vs', _, rfl, k2, hm2, pm2, hl2, hs2, pS2⟩
      have hno : e.2 ∉ (es ++ seatsOf rs.length (r.1, r.2.take j)).map (·.1) := by
        rw [List.map_append, List.mem_append, not_or]
        refine ⟨hnew e (mem_of_at he), ?_⟩
        unfold seatsOf
        rw [List.map_map]
        exact nodup_at (f := (·.2)) nd he
      walk_at "g"
      refine ⟨s, _, rfl, DGet.k (k := (.inl e.2 : Key)) hs2, ?_⟩
      rw [seK_none hno]
      walk_at "g"
      refine ⟨by show 2 ≤ sizeLine; decide, fun u nu => ?_⟩
      have s3 := same_upd (o := .tup [.int (rs.length : Nat), .int e.1]) nu
      have hs3 := s3 _ _ hs2
      have hu : StT (upd H2 u (.tup [.int (rs.length : Nat), .int e.1])) u (e.2, (rs.length : Nat), e.1) := upd_same
      have pS3 : P2 (StT _) vs' _ := pS2.mono fun _ _ e => s3 _ _ e
      have hm3 := s3 _ _ hm2
      have hl3 := s3 _ _ hl2
      have pm3 := pm2.same s3
      have k3 := k2.trans s3.kp2
      generalize upd H2 u (.tup [.int (rs.length : Nat), .int e.1]) = H3 at *
      have vl := pS3.len
      have el : (es ++ seatsOf rs.length (r.1, r.2.take j)).length ≤ 200 := by
        unfold seatsOf
        rw [List.length_append, List.length_map, List.length_take]
        omega
      walk_at "g"
      refine ⟨s, _, rfl, DPut.k (k := (.inl e.2 : Key)) hs3 ?_, ?_⟩
      · unfold seK
        rw [List.length_map, List.length_zip]
        exact Nat.lt_of_le_of_lt (Nat.le_trans (Nat.min_le_left _ _) el) (by decide)
      have put := seK_put (e := ((e.2, ((rs.length : Nat) : Int), e.1) : Seat)) (u := u) vl hno
      have enext : es ++ seatsOf rs.length (r.1, r.2.take (j + 1)) = (es ++ seatsOf rs.length (r.1, r.2.take j)) ++ [((e.2, ((rs.length : Nat) : Int), e.1) : Seat)] := by
        unfold seatsOf
        rw [take_snoc he, List.map_append, List.append_assoc]
        rfl
      have k4 := kp2_s l s H3 (.dK (putK (seK (es ++ seatsOf rs.length (r.1, r.2.take j)) vs') (.inl e.2) (.ref u)))
      have ks4 := kp_upd s H3 (.dK (putK (seK (es ++ seatsOf rs.length (r.1, r.2.take j)) vs') (.inl e.2) (.ref u)))
      refine ⟨_, _, vs' ++ [u], [], rfl, k3.trans k4, ks4 _ _ hm3 (ne_of hm3 hs3 (by intro z; cases z)), pm3.mono fun _ _ e => PrT.kpB ks4 hs3 e, ks4 _ _ hl3 (ne_of hl3 hs3 (by intro z; cases z)), ?_, ?_⟩
      · rw [enext, ← put]
        exact upd_same
      · rw [enext]
        exact (pS3.mono fun _ _ (h : H3 _ = _) => ks4 _ _ h (ne_of h hs3 (by intro z; cases z))).snoc (ks4 _ _ hu (ne_of hu hs3 (by intro z; cases z)))
    · rintro σ H2 ⟨v6, v7, vs', _, rfl, k2, hm2, pm2, hl2, hs2, pS2⟩
      rw [List.take_length] at hs2 pS2
      have nxl : x ≠ l := ne_of hx hl (by intro z; cases z)
      have nxs : x ≠ s := ne_of hx hs (by intro z; cases z)
      have hx2 := k2 _ _ hx nxl nxs
      have hdr2 := k2 _ _ hdr (ne_of hdr hl (by intro z; cases z)) ndr
      walk_at "g"
      refine ⟨x, _, dx, _, _, rfl, hx2, T.k_Mechanism, T.a_Mechanism__own_rounds, rfl, ?_⟩
      walk_at "g"
      refine ⟨dr, .ref l, rfl, by
        have := DGet.k (k := (.inr c.1 : Key)) hdr2
        rw [rdK_at ok.nd hc hli] at this
        exact this, ?_⟩
      walk_at "g"
      refine ⟨.inl ⟨rfl, _, SqL.of hl2⟩, ?_⟩
      walk_at "g"
      refine ⟨⟨_, SqL.of hm2⟩, fun D nD => ?_⟩
      refine dc_it (walk_list (K := K) (xs := ts.map V.ref)) (fun j H' => Same H2 H' ∧ H' D = some (.dK (mkD (r.2.take j)))) ⟨same_upd nD, upd_same⟩ (fun j H' _ ⟨h, _⟩ => SqL.of (h _ _ hm2)) ?_ ?_
      · rintro j y H3 H3' hj ⟨s3, hD3⟩ ⟨rfl, hy⟩
        rw [List.getElem?_map] at hy
        obtain ⟨w0, hw0, rfl⟩ := Option.map_eq_some_iff.mp hy
        obtain ⟨e, he, hwe⟩ := pm2.getl hw0
        have hw3 : H3' w0 = some (.tup [.int e.1, .int e.2]) := s3 _ _ hwe
        have hno := nodup_at (f := (·.1)) rok.nd he
        refine ⟨w0, _, rfl, SqT.of hw3, rfl, _, _, rfl, _, _, rfl, rfl, rfl, ?_⟩
        simp only [tYes, if_true]
        walk_at "g"
        refine ⟨mkD (r.2.take j), .inl e.1, rfl, hD3, by rw [mkD_len, List.length_take]; exact Nat.lt_of_le_of_lt (Nat.le_trans (Nat.min_le_right _ _) r20) (by decide), s3.wr nD, ?_⟩
        rw [mkD_put hno, ← take_snoc he]
        exact upd_same
      · rintro H3 ⟨s3, hD3⟩
        rw [List.length_map, pm2.len, List.take_length] at hD3
        have hl3 := s3 _ _ hl2
        have hs3 := s3 _ _ hs2
        walk_at "g"
        refine ⟨by show 2 ≤ sizeLine; decide, fun u nu => ?_⟩
        have s4 := same_upd (o := .tup [.int r.1, .ref D]) nu
        have hu4 : upd H3 u (.tup [.int r.1, .ref D]) u = some (.tup [.int r.1, .ref D]) := upd_same
        have hD4 := s4 _ _ hD3
        have hl4 := s4 _ _ hl3
        have hs4 := s4 _ _ hs3
        have s24 := s3.trans s4
        generalize upd H3 u (.tup [.int r.1, .ref D]) = H4 at *
        walk_at "g"
        refine ⟨l, _, _, rfl, rfl, hl4, small_app (m := 100000) (by rw [List.length_map, lus]; omega) (Nat.le_refl _), ?_⟩
        have k5 := kp2_l l s H4 (.lst (us.map V.ref ++ [.ref u]))
        have kl5 := kp_upd l H4 (.lst (us.map V.ref ++ [.ref u]))
        have kall : Kp2 l s H (upd H4 l (.lst (us.map V.ref ++ [.ref u]))) := (k2.trans s24.kp2).trans k5
        have nD0 : H D = none := by
          cases e : H D with
          | none => rfl
          | some o =>
            by_cases h1 : D = l
            · rw [h1, hl2] at nD; cases nD
            · by_cases h2 : D = s
              · rw [h2, hs2] at nD; cases nD
              · rw [k2 _ _ e h1 h2] at nD; cases nD
        have hMr : ∀ u' r', MrT B H u' r' → MrT B (upd H4 l (.lst (us.map V.ref ++ [.ref u]))) u' r' := fun u' r' ⟨d, h1, h2, h3⟩ => ⟨d, h1, kall _ _ h2 (ne_of h2 hl (by intro z; cases z)) (ne_of h2 hs (by intro z; cases z)), kall _ _ h3 (ne_of h3 hl (by intro z; cases z)) (hBs d h1)⟩
        refine k _ kall ⟨us ++ [u], by rw [List.map_append]; exact upd_same, (pL.mono hMr).snoc ⟨D, hBn D nD0, kl5 _ _ hu4 (ne_of hu4 hl4 (by intro z; cases z)), kl5 _ _ hD4 (ne_of hD4 hl4 (by intro z; cases z))⟩⟩ ⟨vs', kl5 _ _ hs4 (ne_of hs4 hl4 (by intro z; cases z)), pS2.mono fun _ _ (h : H2 _ = _) => kl5 _ _ (s24 _ _ h) (ne_of (s24 _ _ h) hl4 (by intro z; cases z))⟩
end
end Tr

/-! # Mechanism.count_empty; what a mechanism is. -/
namespace Tr
open PySem L2 TL
/-- steps of a reading that are plain -/
local macro_rules | `(tactic| walk_at "x") => `(tactic| (refine' ⟨_, _, _, _, rfl, rfl, ?k1, ?k2, ?_⟩; (case k1 => exact SqT.of (by assumption)); (case k2 => exact rfl)))
local macro_rules | `(tactic| walk_at "g") => `(tactic| repeat (first | (refine ⟨_, rfl, ?_⟩) | (refine ⟨_, _, rfl, rfl, ?_⟩) | (refine ⟨_, _, rfl, ?_⟩) | (refine ⟨rfl, ?_⟩) | walk_at "x"))


def seatsFrom : Nat → List Rd → List Seat
  | _, [] => []
  | k, r :: rs => seatsOf k r ++ seatsFrom (k + 1) rs
theorem seatsFrom_snoc : ∀ (k : Nat) (rs : List Rd) (r : Rd), seatsFrom k (rs ++ [r]) = seatsFrom k rs ++ seatsOf (k + rs.length) r
  | k, [], r => by
    show seatsOf k r ++ [] = [] ++ seatsOf (k + 0) r
    rw [List.append_nil, List.nil_append, Nat.add_zero]
  | k, q :: rs, r => by
    show seatsOf k q ++ seatsFrom (k + 1) (rs ++ [r]) = _
    rw [seatsFrom_snoc (k + 1) rs r, ← List.append_assoc]
    show _ = (seatsOf k q ++ seatsFrom (k + 1) rs) ++ seatsOf (k + (rs.length + 1)) r
    rw [show k + 1 + rs.length = k + (rs.length + 1) by omega]
theorem seatsFrom_states : ∀ (k : Nat) (rs : List Rd), (seatsFrom k rs).map (·.1) = (rs.map (·.2)).flatten.map (·.2)
  | _, [] => rfl
  | k, r :: rs => by
    show (seatsOf k r ++ seatsFrom (k + 1) rs).map _ = ((r.2 :: rs.map (·.2)).flatten).map _
    rw [List.map_append, seatsFrom_states (k + 1) rs, List.flatten_cons, List.map_append]
    unfold seatsOf
    rw [List.map_map]
    rfl
def emptyN (rs : List Rd) : Int := (rs.map fun r => r.1 - (r.2.length : Int)).sum
def mfl5 (t dr ds : Addr) (n : Nat) (z : Int) : List (Str × V) := mfl4 t dr ds n ++ [(("size" : Str), V.int z)]
/-- the own rounds stand at dr; other fields as they come -/
structure OwnAt (C : Addr) (H : Hp) (x dr : Addr) (ks : List SI) (ls : List Addr) : Prop where
  x : ∃ dx fs, H x = some (.ins C dx fs) ∧ List.lookup ("own_rounds" : Str) fs = some (.ref dr) ∧ List.lookup ("count_empty" : Str) fs = none
  dr : H dr = some (.dK (rdK ks ls))
section
variable {P : Program} {w : World} {K : PySem.W.Frag} {mg : Str → Option Value} {base : Heap}
def spCount (C : Addr) : Sp := fun vs H Q _ => ∃ (B : Addr → Prop) (x dr l : Addr) (i : Nat) (ks : List SI) (c : SI) (ls : List Addr) (rs : List Rd), vs = [.ref x, .str c.1] ∧ OwnAt C H x dr ks ls ∧ Nds ks ∧ ks[i]? = some c ∧ ls[i]? = some l ∧ MrL B H l rs ∧ rs.length ≤ 1000 ∧ ∀ H', Same H H' → Q (.int (emptyN rs)) H'
theorem c_count_empty (T : Txt K mg) : Met P w K mg base 1 (He.ga K "Mechanism") "count_empty" (spCount (He.ga K "Mechanism")) [] := by
  refine metN T.m_Mechanism__count_empty sc_Mechanism_count_empty (fun vs H Q E h => ?_) (fun _ _ _ _ _ _ us hl => match us, hl with | [_, _], _ => rfl) (fun f cdv A outer s H vs Q E hr h => ?_)
  · obtain ⟨B, x, dr, l, i, ks, c, ls, rs, rfl, _⟩ := h
    rfl
  · obtain ⟨B, x, dr, l, i, ks, c, ls, rs, rfl, hO, nd, hc, hl, hL, hlen, k⟩ := h
    obtain ⟨dx, fs, hx, hf, _⟩ := hO.x
    obtain ⟨us, hus, pp⟩ := id hL
    have ul := pp.len
    refine ⟨_, (pss_one (ps_ret (pe_callB (cr_sum rfl) (by rfl) T.b_sum (by decide +kernel) (pa_cons (pe_lc (own := [("size", 2), ("marks", 3)]) (g := gTup K 2 (gCons (gName 2) (gCons (gName 3) gNil))) rfl sc_Mechanism_count_empty.nd (pi_listK K (pe_dget (hu_of hr) (pe_fldK K (pv 0) (by rfl)) (pv 1) (fun _ _ => rfl))) (blkOk_by (own := [("size", 2), ("marks", 3)]) (N := ["self", "turn", "size", "marks"]) (sc := defScope s_Mechanism_count_empty) (by decide +kernel)) (fun _ _ _ _ _ => (pg_tup rfl (pgs_cons (pg_name (i := 2) sc_Mechanism_count_empty.nd rfl (Or.inl rfl)) (pgs_cons (pg_name (i := 3) sc_Mechanism_count_empty.nd rfl (Or.inl rfl)) pgs_nil)))) (fun _ _ _ _ _ => pts_nil) (fun _ _ _ _ _ => (pe_op op_sub (pv 2) (pe_callB call_lenD (by rfl) T.b_len (by decide +kernel) (pa_cons (pv 3) pa_nil))))) pa_nil)))), ?_⟩
    walk_at "g"
    refine ⟨x, _, dx, _, _, rfl, hx, T.k_Mechanism, T.a_Mechanism__own_rounds, hf, ?_⟩
    walk_at "g"
    refine ⟨dr, .ref l, rfl, by
      have := DGet.k (k := (.inr c.1 : Key)) hO.dr
      rw [rdK_at nd hc hl] at this
      exact this, ?_⟩
    walk_at "g"
    refine ⟨⟨_, SqL.of hus⟩, fun D nD => ?_⟩
    refine lc_it (walk_list (K := K) (xs := us.map V.ref)) (fun i H' => Same H H' ∧ ∃ ys, H' D = some (.lst ys) ∧ P2 (fun y (r : Rd) => y = V.int (r.1 - (r.2.length : Int))) ys (rs.take i)) ⟨same_upd nD, [], upd_same, .nil⟩ (fun i H' _ ⟨s', _⟩ => SqL.of (s' _ _ hus)) ?_ ?_
    · rintro j y H3 H3' hj ⟨s3, ys, hD3, py⟩ ⟨rfl, hy⟩
      rw [List.getElem?_map] at hy
      obtain ⟨u, hu, rfl⟩ := Option.map_eq_some_iff.mp hy
      obtain ⟨r, hr', d, _, hu2, hd2⟩ := pp.getl hu
      refine ⟨u, _, rfl, SqT.of (s3 _ _ hu2), rfl, _, _, rfl, _, _, rfl, rfl, rfl, ?_⟩
      simp only [tYes, if_true]
      walk_at "g"
      refine ⟨d, mkD r.2, rfl, s3 _ _ hd2, ?_⟩
      rw [mkD_len]
      walk_at "g"
      have yl := py.len
      rw [List.length_take] at yl
      refine ⟨ys, hD3, small_app (m := 100000) (by omega) (Nat.le_refl _), s3.wr nD, _, upd_same, ?_⟩
      rw [take_snoc hr']
      exact py.snoc rfl
    · rintro H3 ⟨s3, ys, hD3, py⟩
      rw [List.length_map, ul, List.take_length] at py
      have e : ys = (rs.map fun r => r.1 - (r.2.length : Int)).map V.int := by
        rw [List.map_map]
        exact P2.eq_map (g := fun r : Rd => V.int (r.1 - (r.2.length : Int))) py
      subst e
      walk_at "g"
      exact ⟨D, _, rfl, SqL.of hD3, k H3 s3⟩
end
end Tr

/-! # Mechanism.__init__. -/
namespace Tr
open PySem L2 TL
/-- steps of a reading that are plain -/
local macro_rules | `(tactic| walk_at "x") => `(tactic| (refine' ⟨_, _, _, _, rfl, rfl, ?k1, ?k2, ?_⟩; (case k1 => exact SqT.of (by assumption)); (case k2 => exact rfl)))
local macro_rules | `(tactic| walk_at "g") => `(tactic| repeat (first | (refine ⟨_, rfl, ?_⟩) | (refine ⟨_, _, rfl, rfl, ?_⟩) | (refine ⟨_, _, rfl, ?_⟩) | (refine ⟨rfl, ?_⟩) | walk_at "x"))


theorem room1 {n : Nat} (h : n + 64 < cLine) : n + 1 < cLine := Nat.lt_of_le_of_lt (Nat.add_le_add_left (by decide) n) h
theorem rdK_none : ∀ {ks : List SI} {fs : List Addr} {z : Str}, (∀ k ∈ ks, k.1 ≠ z) → valV (rdK ks fs) (.inr z) = none
  | [], _, _, _ => rfl
  | _ :: _, [], _, _ => rfl
  | k :: ks, f :: fs, z, h => by
    show valV (((.inr k.1 : Key), V.ref f) :: rdK ks fs) _ = _
    rw [valV_neg (fun q => h k List.mem_cons_self (Sum.inr.inj q))]
    exact rdK_none fun k' hk => h k' (List.mem_cons_of_mem _ hk)
theorem rdK_put {ks : List SI} {fs : List Addr} {c : SI} {f : Addr} (hl : fs.length = ks.length) (h : ∀ k ∈ ks, k.1 ≠ c.1) : putK (rdK ks fs) (.inr c.1) (.ref f) = rdK (ks ++ [c]) (fs ++ [f]) := by
  rw [L2.putK_new _ (rdK_none h)]
  unfold rdK
  rw [List.zip_append hl.symm, List.map_append]
  rfl
theorem nds_ne2 {ks : List SI} (nd : Nds ks) {i : Nat} {c : SI} (h : ks[i]? = some c) : ∀ k ∈ ks.take i, k.1 ≠ c.1 := by
  intro k hk e
  obtain ⟨j, hj, ej⟩ := List.getElem_of_mem hk
  rw [List.length_take] at hj
  rw [List.getElem_take] at ej
  obtain ⟨hi, ei⟩ := List.getElem?_eq_some_iff.mp h
  have := List.nodup_iff_pairwise_ne.mp nd
  rw [List.pairwise_map, List.pairwise_iff_getElem] at this
  exact this j i (by omega) hi (by omega) (by rw [ej, ei, e])
/-- {name: a new thing for name in names} -/
theorem dc_new {K : PySem.W.Frag} {a : Addr} {ks : List SI} {i1 : Nat} {tv : TE} {vs : List Nat} {σ : L2.St} {H1 : Hp} {D : Addr} {o : HO} {Qd : Hp → Prop} (nd : Nds ks) (k8 : ks.length ≤ 8) (ha : H1 a = some (.tup (ks.map fun c => V.str c.1))) (hD : H1 D = none) (no : ∀ u, o ≠ .own u) (hw : ∀ x, wipe ((wipe σ vs).set i1 x) vs = wipe σ vs)
    (hg : ∀ v, ((wipe σ vs).set i1 (some v))[i1]? = some (some v)) (he : ∀ σ H Q, (∀ y, H y = none → Q (.ref y) (upd H y o)) → tv σ H Q)
    (hd : ∀ ls H, Same H1 H → H D = some (.dK (rdK ks ls)) → ls.length = ks.length → ls.Nodup → (∀ l ∈ ls, H1 l = none ∧ H l = some o ∧ l ≠ D) → Qd H) :
    ∃ W : Nat → Nat → Hp → Prop, (∃ m, W 0 m (upd H1 D (.dK []))) ∧ ∀ i m H, W i m H →
      ((Itt K a).stop i H ∧ Qd H) ∨ ((Itt K a).go i H ∧ ∃ Nx : Hp → Prop, (∀ H', Nx H' → ∃ m', m' < m ∧ W (i + 1) m' H') ∧ ∀ x H', (Itt K a).yld i H x H' → gName i1 x (wipe σ vs) H' fun σ2 H2 => wipe σ2 vs = wipe σ vs ∧ tYes σ2 H2 fun b H3 =>
        if b = true then tVar i1 σ2 H3 fun y H4 => tv σ2 H4 fun z H5 => ∃ kvs k, y = kV k ∧ H5 D = some (.dK kvs) ∧ kvs.length < sizeLine ∧ Nx (upd H5 D (.dK (putK kvs k z))) else Nx H3) := by
  refine dc_it (walk_tup (K := K) (xs := ks.map fun c => V.str c.1)) (fun i H => Same H1 H ∧ ∃ ls : List Addr, H D = some (.dK (rdK (ks.take i) ls)) ∧ ls.length = (ks.take i).length ∧ ls.Nodup ∧ ∀ l ∈ ls, H1 l = none ∧ H l = some o ∧ l ≠ D) ⟨same_upd hD, [], upd_same, rfl, List.nodup_nil, fun l hl => nomatch hl⟩ (fun i H _ ⟨s, _⟩ => SqT.of (s _ _ ha)) ?_ ?_
  · rintro i y H H' hi ⟨s, ls, h1, h2, h3, h4⟩ ⟨rfl, hy⟩
    rw [List.getElem?_map] at hy
    obtain ⟨c, hc, rfl⟩ := Option.map_eq_some_iff.mp hy
    refine ⟨hw _, ?_⟩
    simp only [tYes, if_true]
    refine ⟨_, hg _, he _ _ _ fun l nl => ?_⟩
    have s2 := same_upd (o := o) nl
    have hD2 := s2 _ _ h1
    have lD : l ≠ D := fun e => by rw [e, h1] at nl; cases nl
    refine ⟨rdK (ks.take i) ls, .inr c.1, rfl, hD2, ?_, (s.trans s2).wr hD, ls ++ [l], ?_, ?_, ?_, ?_⟩
    · unfold rdK
      rw [List.length_map, List.length_zip, List.length_take]
      exact Nat.lt_of_le_of_lt (show _ ≤ 8 by omega) (by decide)
    · rw [take_snoc hc, rdK_put h2 (nds_ne2 nd hc)]
      exact upd_same
    · rw [take_snoc hc, List.length_append, List.length_append, h2]
      rfl
    · rw [List.nodup_append]
      refine ⟨h3, List.nodup_cons.mpr ⟨List.not_mem_nil, List.nodup_nil⟩, fun x hx z hz e => ?_⟩
      rw [List.mem_singleton.mp hz] at e
      rw [e] at hx
      rw [(h4 _ hx).2.1] at nl
      cases nl
    · intro x hx
      rcases List.mem_append.mp hx with hx | hx
      · obtain ⟨g1, g2, g3⟩ := h4 x hx
        exact ⟨g1, by rw [upd_ne g3]; exact s2 _ _ g2, g3⟩
      · rw [List.mem_singleton.mp hx]
        refine ⟨?_, by rw [upd_ne lD]; exact upd_same, lD⟩
        cases e : H1 l with
        | none => rfl
        | some u => rw [s _ _ e] at nl; cases nl
  · rintro H ⟨s, ls, h1, h2, h3, h4⟩
    rw [List.length_map, List.take_length] at h1 h2
    exact hd ls H s h1 h2 h3 h4
theorem states_split {rs : List Rd} (nd : ((rs.map (·.2)).flatten.map (·.2)).Nodup) {m : Nat} {r : Rd} (h : rs[m]? = some r) : (r.2.map (·.2)).Nodup ∧ ∀ c ∈ r.2, c.2 ∉ (seatsFrom 0 (rs.take m)).map (·.1) := by
  have e : rs = (rs.take m ++ [r]) ++ rs.drop (m + 1) := by rw [← take_snoc h, List.take_append_drop]
  rw [e, List.map_append, List.flatten_append, List.map_append, List.nodup_append, List.map_append, List.flatten_append, List.map_append, List.nodup_append] at nd
  obtain ⟨⟨_, n2, n3⟩, _⟩ := nd
  have e2 : ([r].map (·.2)).flatten.map (·.2) = r.2.map (·.2) := by
    show (r.2 ++ []).map _ = _
    rw [List.append_nil]
  rw [e2] at n2 n3
  refine ⟨n2, fun c hc hm => ?_⟩
  rw [seatsFrom_states] at hm
  exact n3 _ hm _ (List.mem_map.mpr ⟨c, hc, rfl⟩) rfl
theorem seatsM_len {rs : List Rd} : (seatsFrom 0 rs).length = ((rs.map (·.2)).flatten.map (·.2)).length := by rw [← seatsFrom_states 0 rs, List.length_map]
theorem PL.kpi {C' x dx m : Addr} {H H' : Hp} {fs : List (Str × V)} {cs : List (Int × Int)} (k : Kp x H H') (hx : H x = some (.ins C' dx fs)) (h : PL H m cs) : PL H' m cs :=
  let ⟨ts, a, b⟩ := h
  ⟨ts, k _ _ a (ne_of a hx (by intro z; cases z)), b.mono fun _ _ (e : H _ = _) => k _ _ e (ne_of e hx (by intro z; cases z))⟩
/-- what stands while the rounds are taken -/
structure Mk (B : Addr → Prop) (C : Addr) (H : Hp) (x dx t dr ds : Addr) (n : Nat) (ks : List SI) (ls ss : List Addr) (cur : Nat → List Rd) : Prop where
  x : H x = some (.ins C dx (mfl4 t dr ds n))
  dr : H dr = some (.dK (rdK ks ls))
  ds : H ds = some (.dK (rdK ks ss))
  at_ : ∀ (j : Nat) (l s : Addr), ls[j]? = some l → ss[j]? = some s → MrL B H l (cur j) ∧ SeD H s (seatsFrom 0 (cur j))
theorem TuAt.kpx {C C' x dx a : Addr} {H H' : Hp} {fs : List (Str × V)} {ks : List SI} (h : TuAt C H a ks) (kp : Kp x H H') (hx : H x = some (.ins C' dx fs)) (nf : ∀ p1 p2 p3 p4, fs ≠ tflds p1 p2 p3 p4 := by intro _ _ _ _ z; cases z) : TuAt C H' a ks := by
  obtain ⟨dt, p1, p2, p3, p4, e0, ⟨ts, a1, b1⟩, e2, e3, e4⟩ := h.ex
  exact ⟨dt, p1, p2, p3, p4, kp _ _ e0 (ne_of e0 hx (by intro z; cases z; exact nf _ _ _ _ rfl)), ⟨ts, kp _ _ a1 (ne_of a1 hx (by intro z; cases z)), b1.mono fun _ _ e => kp _ _ e (ne_of e hx (by intro z; cases z))⟩,
    kp _ _ e2 (ne_of e2 hx (by intro z; cases z)), kp _ _ e3 (ne_of e3 hx (by intro z; cases z)), kp _ _ e4 (ne_of e4 hx (by intro z; cases z))⟩
theorem Mk.same {B : Addr → Prop} {C : Addr} {H H' : Hp} {x dx t dr ds : Addr} {n : Nat} {ks : List SI} {ls ss : List Addr} {cur : Nat → List Rd} (s' : Same H H') (h : Mk B C H x dx t dr ds n ks ls ss cur) : Mk B C H' x dx t dr ds n ks ls ss cur :=
  ⟨s' _ _ h.x, s' _ _ h.dr, s' _ _ h.ds, fun j l s hl hs => by
    obtain ⟨⟨us, a, b⟩, ⟨vs, c, d⟩⟩ := h.at_ j l s hl hs
    exact ⟨⟨us, s' _ _ a, b.mono fun _ _ ⟨z, z1, z2, z3⟩ => ⟨z, z1, s' _ _ z2, s' _ _ z3⟩⟩, ⟨vs, s' _ _ c, d.mono fun _ _ (e : H _ = _) => s' _ _ e⟩⟩⟩
theorem Mk.congr {B : Addr → Prop} {C : Addr} {H : Hp} {x dx t dr ds : Addr} {n : Nat} {ks : List SI} {ls ss : List Addr} {cur cur' : Nat → List Rd} (h : Mk B C H x dx t dr ds n ks ls ss cur) (e : ∀ j, cur j = cur' j) : Mk B C H x dx t dr ds n ks ls ss cur' := by
  have : cur = cur' := funext e
  rw [← this]
  exact h
def totalN (R : List (List Rd)) : Int := (R.map emptyN).sum
/-- a mechanism stands at x -/
structure MeAt (B : Addr → Prop) (C : Addr) (H : Hp) (x t dr ds : Addr) (n : Nat) (ks : List SI) (ls ss : List Addr) (R : List (List Rd)) : Prop where
  x : ∃ dx, H x = some (.ins C dx (mfl5 t dr ds n ((n : Int) + totalN R)))
  dr : H dr = some (.dK (rdK ks ls))
  ds : H ds = some (.dK (rdK ks ss))
  ll : ls.length = ks.length
  sl : ss.length = ks.length
  at_ : ∀ (j : Nat) (l s : Addr), ls[j]? = some l → ss[j]? = some s → MrL B H l ((R[j]?).getD []) ∧ SeD H s (seatsFrom 0 ((R[j]?).getD []))
section
variable {P : Program} {w : World} {K : PySem.W.Frag} {mg : Str → Option Value} {base : Heap}
def spMech (C CT : Addr) : Sp := fun vs H Q _ => ∃ (x dx t rd : Addr) (n : Nat) (far : Int) (ks : List SI) (kvs : List (Key × V)) (R : List (List Rd)), vs = [.ref x, .ref t, .int (n : Int), .ref rd] ∧ H x = some (.ins C dx []) ∧ TuAt CT H t ks ∧ KsOk ks ∧ H rd = some (.dK kvs) ∧ R.length = ks.length ∧ 1 ≤ n ∧ n ≤ 10 ∧ (∀ (i : Nat) (c : SI) (rs : List Rd), ks[i]? = some c → R[i]? = some rs → ∃ (f : Addr) (A : Addr → Prop), valV kvs (.inr c.1) = some (.ref f) ∧ RL A H f rs) ∧ ShOk far ks n R ∧
  ∀ H' dr ds ls ss, Kp x H H' → MeAt (fun d => H d = none) C H' x t dr ds n ks ls ss R → H dr = none → H ds = none → (∀ l ∈ ls, H l = none) → (∀ s ∈ ss, H s = none) → Q .non H'
theorem m_Mechanism (T : Txt K mg) : Mak P w K mg base 6 "Mechanism" (He.ga K "Mechanism") (spMech (He.ga K "Mechanism") (He.ga K "Turns")) [] := by
  have c_take_round := @c_take_round P w K mg base T
  have c_count_empty := @c_count_empty P w K mg base T
  refine makN T.i_Mechanism sc_Mechanism___init__ (fun vs H Q E h => ?_) (fun dvs f fd hl F => by
    cases dvs with
    | nil => exact (funD0 F).binds fun _ _ _ _ _ _ us hl => match us, hl with | [_, _, _, _], _ => rfl
    | cons _ _ => cases hl) (fun f cdv A outer s H vs Q E hr h => ?_)
  · obtain ⟨x, dx, t, rd, n, far, ks, kvs, R, rfl, _⟩ := h
    rfl
  · obtain ⟨x, dx, t, rd, n, far, ks, kvs, R, rfl, hx, hT, ok, hrd, hRl, n1, n10, hRL, hsh, k⟩ := h
    refine ⟨_, (pss_cons (ps_fld (pv 0) (pv 1) rfl)
      (pss_cons (ps_fld (pv 0) (pv 2) rfl)
      (pss_cons (ps_fld (pv 0) (pe_dc (own := [("name", 4)]) (g := gName 4) rfl sc_Mechanism___init__.nd (pi_tup (pe_fld (pv 1) rfl)) (blkOk_by (own := [("name", 4)]) (N := ["self", "turns", "states", "rounds", "name", "size", "marks"]) (sc := defScope s_Mechanism___init__) (by decide +kernel)) (fun _ _ _ _ _ => (pg_name (i := 4) sc_Mechanism___init__.nd rfl (Or.inl rfl))) (fun _ _ _ _ _ => pts_nil) (fun _ _ _ _ _ => (pv 4)) (fun _ _ _ _ _ => (pe_lst pa_nil))) rfl)
      (pss_cons (ps_fld (pv 0) (pe_dc (own := [("name", 4)]) (g := gName 4) rfl sc_Mechanism___init__.nd (pi_tup (pe_fld (pv 1) rfl)) (blkOk_by (own := [("name", 4)]) (N := ["self", "turns", "states", "rounds", "name", "size", "marks"]) (sc := defScope s_Mechanism___init__) (by decide +kernel)) (fun _ _ _ _ _ => (pg_name (i := 4) sc_Mechanism___init__.nd rfl (Or.inl rfl))) (fun _ _ _ _ _ => pts_nil) (fun _ _ _ _ _ => (pv 4)) (fun _ _ _ _ _ => pe_dnewK)) rfl)
      (pss_cons (ps_for PassesOwn.never rfl (pi_tup (pe_fld (pv 1) rfl)) (pg_name (i := 4) sc_Mechanism___init__.nd rfl (Or.inl rfl)) (pss_one (ps_for PassesOwn.never rfl (pi_list (pe_dget2 (room1 (units_of hr)) (pv 3) (pv 4) (pe_tup pa_nil) ⟨rfl, rfl, rfl, rfl⟩)) (pg_tup rfl (pgs_cons (pg_name (i := 5) sc_Mechanism___init__.nd rfl (Or.inl rfl)) (pgs_cons (pg_name (i := 6) sc_Mechanism___init__.nd rfl (Or.inl rfl)) pgs_nil))) (pss_one (ps_expr (pe_mtx c_take_round hr (by first | decide | omega) passL (pv 0) (pa_cons (pv 4) (pa_cons (pv 5) (pa_cons (pv 6) pa_nil)))))))))
      (pss_cons (ps_for PassesOwn.never rfl (pi_tup (pe_fld (pv 1) rfl)) (pg_name (i := 4) sc_Mechanism___init__.nd rfl (Or.inl rfl)) (pss_one (ps_if (pt_cmpR op_lt (pe_callB call_lenD (by rfl) T.b_len (by decide +kernel) (pa_cons (pe_dget (hu_of hr) (pe_fldK K (pv 0) (by rfl)) (pv 4) (fun _ _ => rfl)) pa_nil)) (pv 2) (nomark _)) (pss_one ps_never) pss_nil)))
      (pss_one (ps_fld (pv 0) (pe_op op_add (pv 2) (pe_callB (cr_sum rfl) (by rfl) T.b_sum (by decide +kernel) (pa_cons (pe_lc (own := [("name", 4)]) (g := gName 4) rfl sc_Mechanism___init__.nd (pi_tup (pe_fld (pv 1) rfl)) (blkOk_by (own := [("name", 4)]) (N := ["self", "turns", "states", "rounds", "name", "size", "marks"]) (sc := defScope s_Mechanism___init__) (by decide +kernel)) (fun _ _ _ _ _ => (pg_name (i := 4) sc_Mechanism___init__.nd rfl (Or.inl rfl))) (fun _ _ _ _ _ => pts_nil) (fun _ _ _ _ _ => (pe_mtx c_count_empty hr (by first | decide | omega) passL (pv 0) (pa_cons (pv 4) pa_nil)))) pa_nil))) rfl)))))))), ?_⟩
    obtain ⟨dt, p1, p2, p3, p4, ht, _, hnm, _⟩ := id hT.ex
    have n2x : p2 ≠ x := ne_of hnm hx (by intro z; cases z)
    have ntx : t ≠ x := fun e => by
      rw [e, hx] at ht
      injection (Option.some.inj ht) with _ _ h3
      exact nomatch h3
    have kpx : ∀ fs, Kp x H (upd H x (.ins (He.ga K "Mechanism") dx fs)) := fun fs => kp_upd x H _
    walk_at "g"
    refine ⟨x, _, dx, _, rfl, hx, T.k_Mechanism, T.a_Mechanism__turns, by show 0 < 1000; decide, ?_⟩
    walk_at "g"
    refine ⟨x, _, dx, _, rfl, upd_same, T.k_Mechanism, T.a_Mechanism__states, by show 1 < 1000; decide, ?_⟩
    have kp1 : Kp x H (upd (upd H x (.ins (He.ga K "Mechanism") dx (putF "turns" (.ref t) []))) x (.ins (He.ga K "Mechanism") dx (putF "states" (.int (n : Int)) (putF "turns" (.ref t) [])))) := (kp_upd x H _).trans (kp_upd x _ _)
    have hx1 : upd (upd H x (.ins (He.ga K "Mechanism") dx (putF "turns" (.ref t) []))) x (.ins (He.ga K "Mechanism") dx (putF "states" (.int (n : Int)) (putF "turns" (.ref t) []))) x = some (.ins (He.ga K "Mechanism") dx [("turns", .ref t), ("states", .int (n : Int))]) := upd_same
    generalize upd (upd H x (.ins (He.ga K "Mechanism") dx (putF "turns" (.ref t) []))) x (.ins (He.ga K "Mechanism") dx (putF "states" (.int (n : Int)) (putF "turns" (.ref t) []))) = H1 at *
    walk_at "g"
    refine ⟨t, _, dt, _, _, rfl, kp1 _ _ ht ntx, T.k_Turns, T.a_Turns__names, rfl, ?_⟩
    walk_at "g"
    refine ⟨⟨_, SqT.of (kp1 _ _ hnm n2x)⟩, fun dr ndr => ?_⟩
    refine dc_new ok.nd ok.n8 (kp1 _ _ hnm n2x) ndr (fun _ => by intro z; cases z) (fun _ => rfl) (fun _ => rfl) (fun σ H Q q => ⟨by show 0 ≤ sizeLine; decide, q⟩) fun ls H2 s2 hdr2 lsl lnd lall => ?_
    have hx2 := s2 _ _ hx1
    walk_at "g"
    refine ⟨x, _, dx, _, rfl, hx2, T.k_Mechanism, T.a_Mechanism__own_rounds, by show 2 < 1000; decide, ?_⟩
    have kp3 := kp_upd x H2 (.ins (He.ga K "Mechanism") dx (putF "own_rounds" (.ref dr) [("turns", .ref t), ("states", .int (n : Int))]))
    have hx3 : upd H2 x (.ins (He.ga K "Mechanism") dx (putF "own_rounds" (.ref dr) [("turns", .ref t), ("states", .int (n : Int))])) x = some (.ins (He.ga K "Mechanism") dx [("turns", .ref t), ("states", .int (n : Int)), ("own_rounds", .ref dr)]) := upd_same
    have ndx : dr ≠ x := ne_of hdr2 hx2 (by intro z; cases z)
    have hdr3 := kp3 _ _ hdr2 ndx
    have lall3 : ∀ l ∈ ls, upd H2 x (.ins (He.ga K "Mechanism") dx (putF "own_rounds" (.ref dr) [("turns", .ref t), ("states", .int (n : Int))])) l = some (.lst []) := fun l hl => kp3 _ _ (lall l hl).2.1 (ne_of (lall l hl).2.1 hx2 (by intro z; cases z))
    have kp03 : Kp x H (upd H2 x (.ins (He.ga K "Mechanism") dx (putF "own_rounds" (.ref dr) [("turns", .ref t), ("states", .int (n : Int))]))) := (kp1.trans s2.kp).trans kp3
    generalize upd H2 x (.ins (He.ga K "Mechanism") dx (putF "own_rounds" (.ref dr) [("turns", .ref t), ("states", .int (n : Int))])) = H3 at *
    walk_at "g"
    refine ⟨t, _, dt, _, _, rfl, kp03 _ _ ht ntx, T.k_Turns, T.a_Turns__names, rfl, ?_⟩
    walk_at "g"
    refine ⟨⟨_, SqT.of (kp03 _ _ hnm n2x)⟩, fun ds nds => ?_⟩
    refine dc_new ok.nd ok.n8 (kp03 _ _ hnm n2x) nds (fun _ => by intro z; cases z) (fun _ => rfl) (fun _ => rfl) (fun σ H Q q => q) fun ss H4 s4 hds4 ssl snd_ sall => ?_
    have hx4 := s4 _ _ hx3
    walk_at "g"
    refine ⟨x, _, dx, _, rfl, hx4, T.k_Mechanism, T.a_Mechanism__own_seats, by show 3 < 1000; decide, ?_⟩
    have kp5 := kp_upd x H4 (.ins (He.ga K "Mechanism") dx (putF "own_seats" (.ref ds) [("turns", .ref t), ("states", .int (n : Int)), ("own_rounds", .ref dr)]))
    have hx5 : upd H4 x (.ins (He.ga K "Mechanism") dx (putF "own_seats" (.ref ds) [("turns", .ref t), ("states", .int (n : Int)), ("own_rounds", .ref dr)])) x = some (.ins (He.ga K "Mechanism") dx (mfl4 t dr ds n)) := upd_same
    have kp05 : Kp x H (upd H4 x (.ins (He.ga K "Mechanism") dx (putF "own_seats" (.ref ds) [("turns", .ref t), ("states", .int (n : Int)), ("own_rounds", .ref dr)]))) := (kp03.trans s4.kp).trans kp5
    have hl0 : ∀ l ∈ ls, H l = none := fun l hl => by
      cases e : H l with
      | none => rfl
      | some o =>
        by_cases h : l = x
        · have := (lall l hl).1
          rw [h, hx1] at this
          cases this
        · have := (lall l hl).1
          rw [kp1 _ _ e h] at this
          cases this
    have hs0 : ∀ s ∈ ss, H s = none ∧ s ≠ dr ∧ s ≠ ds := fun s hs => by
      refine ⟨?_, fun e => ?_, (sall s hs).2.2⟩
      · cases e : H s with
        | none => rfl
        | some o =>
          have := (sall s hs).1
          by_cases h : s = x
          · rw [h, hx3] at this
            cases this
          · rw [kp03 _ _ e h] at this
            cases this
      · have := (sall s hs).1
        rw [e, hdr3] at this
        cases this
    have M0 : Mk (fun d => H d = none ∧ d ∉ ss) (He.ga K "Mechanism") (upd H4 x (.ins (He.ga K "Mechanism") dx (putF "own_seats" (.ref ds) [("turns", .ref t), ("states", .int (n : Int)), ("own_rounds", .ref dr)]))) x dx t dr ds n ks ls ss (fun _ => []) := by
      refine ⟨hx5, kp5 _ _ (s4 _ _ hdr3) ndx, kp5 _ _ hds4 (ne_of hds4 hx4 (by intro z; cases z)), fun j l s hl hs => ⟨⟨[], ?_, .nil⟩, ⟨[], ?_, .nil⟩⟩⟩
      · have h := s4 _ _ (lall3 l (mem_of_at hl))
        exact kp5 _ _ h (ne_of h hx4 (by intro z; cases z))
      · have h := (sall s (mem_of_at hs)).2.1
        exact kp5 _ _ h (ne_of h hx4 (by intro z; cases z))
    generalize upd H4 x (.ins (He.ga K "Mechanism") dx (putF "own_seats" (.ref ds) [("turns", .ref t), ("states", .int (n : Int)), ("own_rounds", .ref dr)])) = H5 at *
    have hdrn : H dr = none := by
      cases e : H dr with
      | none => rfl
      | some o =>
        rw [kp1 _ _ e ndx] at ndr
        cases ndr
    have hdsn : H ds = none := by
      cases e : H ds with
      | none => rfl
      | some o =>
        rw [kp03 _ _ e (ne_of hds4 hx4 (by intro z; cases z))] at nds
        cases nds
    clear kp1 hx1 ndr s2 hdr2 lall hx2 kp3 hx3 hdr3 lall3 kp03 nds s4 hds4 sall hx4 kp5 hx5 kpx
    walk_at "g"
    refine ⟨t, _, dt, _, _, rfl, kp05 _ _ ht ntx, T.k_Turns, T.a_Turns__names, rfl, ?_⟩
    walk_at "g"
    refine ⟨⟨_, SqT.of (kp05 _ _ hnm n2x)⟩, ?_⟩
    refine for_tup (xs := ks.map fun c => V.str c.1) (fun i σ H' => ∃ (v4 v5 v6 : Option V), σ = [some (.ref x), some (.ref t), some (.int (n : Int)), some (.ref rd), v4, v5, v6] ∧ Kp x H H' ∧ Mk (fun d => H d = none ∧ d ∉ ss) (He.ga K "Mechanism") H' x dx t dr ds n ks ls ss (fun j => if j < i then (R[j]?).getD [] else [])) ⟨_, _, _, rfl, kp05, M0⟩ ?_ ?_ ?_
    · rintro i σ H' _ ⟨_, _, _, _, kp, _⟩
      exact SqT.of (kp _ _ hnm n2x)
    · rintro i y σ H6 hy ⟨v4, v5, v6, rfl, kp6, M6⟩
      rw [List.getElem?_map] at hy
      obtain ⟨c, hc, rfl⟩ := Option.map_eq_some_iff.mp hy
      have hi : i < ks.length := (List.getElem?_eq_some_iff.mp hc).1
      obtain ⟨rs, hrs⟩ : ∃ rs, R[i]? = some rs := ⟨_, List.getElem?_eq_getElem (by omega)⟩
      obtain ⟨l, hl⟩ : ∃ l, ls[i]? = some l := ⟨_, List.getElem?_eq_getElem (by omega)⟩
      obtain ⟨s, hs⟩ : ∃ s, ss[i]? = some s := ⟨_, List.getElem?_eq_getElem (by omega)⟩
      obtain ⟨f, A', hf, us, hus, pus⟩ := hRL i c rs hc hrs
      obtain ⟨rok, rpm, rln⟩ := hsh.ok i c rs hc hrs
      have hnd : ((rs.map (·.2)).flatten.map (·.2)).Nodup := rpm.nodup_iff.mpr (by
        rw [List.nodup_iff_pairwise_ne, List.pairwise_map, List.pairwise_iff_getElem]
        intro a b ha hb hab e
        rw [List.getElem_range, List.getElem_range] at e
        omega)
      have hcnt : ((rs.map (·.2)).flatten.map (·.2)).length = n := by rw [rpm.length_eq, List.length_map, List.length_range]
      have ul := pus.len
      have nrx : rd ≠ x := ne_of hrd hx (by intro z; cases z)
      have nlm : l ∈ ls := mem_of_at hl
      have nsm : s ∈ ss := mem_of_at hs
      walk_at "g"
      refine ⟨.inl ⟨_, .inl (kp6 _ _ hrd nrx)⟩, ?_⟩
      walk_at "g"
      refine ⟨by show 0 ≤ sizeLine; decide, fun tu ntu => ?_⟩
      have s7 := same_upd (o := .tup []) ntu
      refine ⟨_, DGet.k (k := (.inr c.1 : Key)) (s7 _ _ (kp6 _ _ hrd nrx)), ?_⟩
      rw [hf]
      have kp7 := kp6.trans s7.kp
      have M7 : Mk (fun d => H d = none ∧ d ∉ ss) (He.ga K "Mechanism") (upd H6 tu (.tup [])) x dx t dr ds n ks ls ss (fun j => if j < i then (R[j]?).getD [] else []) := M6.same s7
      generalize upd H6 tu (.tup []) = H7 at *
      have husx : ∀ {H'}, Kp x H H' → H' f = some (.lst (us.map V.ref)) := fun k => k _ _ hus (ne_of hus hx (by intro z; cases z))
      refine ⟨f, rfl, ⟨_, SqL.of (husx kp7)⟩, ?_⟩
      refine for_list (xs := us.map V.ref) (fun m σ H' => ∃ (v5 v6 : Option V), σ = [some (.ref x), some (.ref t), some (.int (n : Int)), some (.ref rd), some (.str c.1), v5, v6] ∧ Kp x H H' ∧ Mk (fun d => H d = none ∧ d ∉ ss) (He.ga K "Mechanism") H' x dx t dr ds n ks ls ss (fun j => if j < i then (R[j]?).getD [] else if j = i then rs.take m else [])) ⟨_, _, rfl, kp7, M7.congr fun j => by
        by_cases h1 : j < i
        · rw [if_pos h1, if_pos h1]
        · rw [if_neg h1, if_neg h1]
          by_cases h2 : j = i
          · rw [if_pos h2] <;> rfl
          · rw [if_neg h2]⟩ ?_ ?_ ?_
      · rintro m σ H' _ ⟨_, _, _, kp, _⟩
        exact SqL.of (husx kp)
      · rintro m y σ H8 hy ⟨v5, v6, rfl, kp8, M8⟩
        rw [List.getElem?_map] at hy
        obtain ⟨u, hu, rfl⟩ := Option.map_eq_some_iff.mp hy
        obtain ⟨r, hr', mk, _, hum, hmk⟩ := pus.getl hu
        have hm : m < rs.length := (List.getElem?_eq_some_iff.mp hr').1
        obtain ⟨q1, q2, q3, q4⟩ := rok.ok r (mem_of_at hr')
        obtain ⟨nd1, dis⟩ := states_split hnd hr'
        obtain ⟨ML, MS⟩ := M8.at_ i l s hl hs
        have hum8 := kp8 _ _ hum (ne_of hum hx (by intro z; cases z))
        refine ⟨u, _, rfl, SqT.of hum8, rfl, _, _, rfl, _, _, rfl, rfl, ?_⟩
        rw [if_neg (Nat.lt_irrefl i), if_pos rfl] at ML MS
        have hT8 : TuAt (He.ga K "Turns") H8 t ks := hT.kpx kp8 hx
        have hmk8 := hmk.kpi kp8 hx
        have nmkl : mk ≠ l := fun e => by
          obtain ⟨_, h, _⟩ := hmk
          rw [e, hl0 l nlm] at h
          cases h
        have esl : (seatsFrom 0 (rs.take m)).length ≤ 10 := by
          have h1 : rs.take (m + 1) = rs.take m ++ [r] := take_snoc hr'
          have h2 : rs = rs.take m ++ rs.drop m := (List.take_append_drop m rs).symm
          have h3 := congrArg (fun z : List Rd => ((z.map (·.2)).flatten.map (·.2)).length) h2
          rw [List.map_append, List.flatten_append, List.map_append, List.length_append, hcnt] at h3
          rw [seatsM_len]
          omega
        have nx8 : ∀ {d}, H8 d = none → H d = none := fun {d} h => by
          cases e : H d with
          | none => rfl
          | some o =>
            by_cases hd : d = x
            · rw [hd, M8.x] at h
              cases h
            · rw [kp8 _ _ e hd] at h
              cases h
        walk_at "g"
        refine ⟨x, dx, _, rfl, M8.x, rfl, ?_⟩
        walk_at "g"
        refine ⟨fun d => H d = none ∧ d ∉ ss, x, dx, t, dr, ds, mk, l, s, n, i, ks, c, ls, ss, r, rs.take m, seatsFrom 0 (rs.take m), rfl, M8.x, hT8, ok, hc, hl, hs, M8.dr, M8.ds, ML, MS, hmk8, nmkl, (hs0 s nsm).2.1.symm, q1, q2, by omega, by rw [List.length_take]; omega, by omega, nd1, dis, fun d hd e => hd.2 (by rw [e]; exact nsm), fun d hd => ⟨nx8 hd, fun h => ?_⟩, fun H9 k9 ML9 MS9 => ?_⟩
        · obtain ⟨j, hj, ej⟩ := List.getElem_of_mem h
          obtain ⟨_, ⟨vs, hvs, _⟩⟩ := M8.at_ j (ls[j]'(by omega)) d (List.getElem?_eq_getElem (by omega)) (by rw [← ej]; exact List.getElem?_eq_getElem hj)
          rw [hvs] at hd
          cases hd
        · obtain ⟨usl, hlL, _⟩ := id ML
          obtain ⟨vss, hsS, _⟩ := id MS
          have kx9 : Kp x H H9 := fun b o e nb => k9 _ _ (kp8 _ _ e nb) (fun e2 => by rw [e2, hl0 l nlm] at e; cases e) (fun e2 => by rw [e2, (hs0 s nsm).1] at e; cases e)
          refine ⟨_, _, rfl, kx9, ⟨k9 _ _ M8.x (ne_of M8.x hlL (by intro z; cases z)) (ne_of M8.x hsS (by intro z; cases z)), k9 _ _ M8.dr (ne_of M8.dr hlL (by intro z; cases z)) (hs0 s nsm).2.1.symm, k9 _ _ M8.ds (ne_of M8.ds hlL (by intro z; cases z)) (hs0 s nsm).2.2.symm, fun j l' s' hl' hs' => ?_⟩⟩
          · obtain ⟨ML', MS'⟩ := M8.at_ j l' s' hl' hs'
            by_cases hji : j = i
            · subst hji
              rw [hl] at hl'
              rw [hs] at hs'
              cases hl'
              cases hs'
              rw [if_neg (Nat.lt_irrefl j), if_pos rfl, take_snoc hr', seatsFrom_snoc, Nat.zero_add, List.length_take, Nat.min_eq_left (Nat.le_of_lt hm)]
              rw [List.length_take, Nat.min_eq_left (Nat.le_of_lt hm)] at MS9
              exact ⟨ML9, MS9⟩
            · have nl : l' ≠ l := fun e => hji (by
                obtain ⟨h1, e1⟩ := List.getElem?_eq_some_iff.mp hl'
                obtain ⟨h2, e2⟩ := List.getElem?_eq_some_iff.mp hl
                exact (List.getElem_inj lnd).mp (by rw [e1, e2, e]))
              have ns : s' ≠ s := fun e => hji (by
                obtain ⟨h1, e1⟩ := List.getElem?_eq_some_iff.mp hs'
                obtain ⟨h2, e2⟩ := List.getElem?_eq_some_iff.mp hs
                exact (List.getElem_inj snd_).mp (by rw [e1, e2, e]))
              have ec : ∀ m', (if j < i then (R[j]?).getD [] else if j = i then rs.take m' else []) = (if j < i then (R[j]?).getD [] else []) := fun m' => by
                by_cases h1 : j < i
                · rw [if_pos h1, if_pos h1]
                · rw [if_neg h1, if_neg h1, if_neg hji]
              rw [ec] at ML' MS' ⊢
              exact ⟨ML'.kp2 (fun d hd e => hd.2 (by rw [e]; exact nsm)) k9 hlL hsS nl, MS'.kp2 k9 hlL hsS ns⟩
      · rintro σ H8 ⟨v5, v6, rfl, kp8, M8⟩
        rw [List.length_map, ul, List.take_length] at M8
        refine ⟨_, _, _, rfl, kp8, M8.congr fun j => ?_⟩
        by_cases h1 : j < i
        · rw [if_pos h1, if_pos (by omega)]
        · rw [if_neg h1]
          by_cases h2 : j = i
          · rw [if_pos h2, if_pos (by omega), h2, hrs]
            rfl
          · rw [if_neg h2, if_neg (by omega)]
    · rintro σ H6 ⟨v4, v5, v6, rfl, kp6, M6⟩
      rw [List.length_map] at M6
      have M6 := M6.congr (cur' := fun j => (R[j]?).getD []) fun j => by
        by_cases h1 : j < ks.length
        · rw [if_pos h1]
        · rw [if_neg h1, List.getElem?_eq_none (by omega)] <;> rfl
      walk_at "g"
      refine ⟨t, _, dt, _, _, rfl, kp6 _ _ ht ntx, T.k_Turns, T.a_Turns__names, rfl, ?_⟩
      walk_at "g"
      refine ⟨⟨_, SqT.of (kp6 _ _ hnm n2x)⟩, ?_⟩
      refine for_tup (xs := ks.map fun c => V.str c.1) (fun i σ H' => ∃ (v4 v5 v6 : Option V), σ = [some (.ref x), some (.ref t), some (.int (n : Int)), some (.ref rd), v4, v5, v6] ∧ H' = H6) ⟨_, _, _, rfl, rfl⟩ ?_ ?_ ?_
      · rintro i σ H' _ ⟨_, _, _, _, rfl⟩
        exact SqT.of (kp6 _ _ hnm n2x)
      · rintro i y σ H' hy ⟨v4, v5, v6, rfl, rfl⟩
        rw [List.getElem?_map] at hy
        obtain ⟨c, hc, rfl⟩ := Option.map_eq_some_iff.mp hy
        have hi : i < ks.length := (List.getElem?_eq_some_iff.mp hc).1
        obtain ⟨rs, hrs⟩ : ∃ rs, R[i]? = some rs := ⟨_, List.getElem?_eq_getElem (by omega)⟩
        obtain ⟨l, hl⟩ : ∃ l, ls[i]? = some l := ⟨_, List.getElem?_eq_getElem (by omega)⟩
        obtain ⟨s, hs⟩ : ∃ s, ss[i]? = some s := ⟨_, List.getElem?_eq_getElem (by omega)⟩
        obtain ⟨_, rpm, _⟩ := hsh.ok i c rs hc hrs
        obtain ⟨_, ⟨vs, hvs, pvs⟩⟩ := M6.at_ i l s hl hs
        rw [hrs] at hvs pvs
        have elen : (seK (seatsFrom 0 ((some rs).getD [])) vs).length = n := by
          have h1 := pvs.len
          have h2 : (seatsFrom 0 rs).length = n := by rw [seatsM_len, rpm.length_eq, List.length_map, List.length_range]
          unfold seK
          rw [List.length_map, List.length_zip, h1]
          show min (seatsFrom 0 rs).length (seatsFrom 0 rs).length = n
          rw [Nat.min_self, h2]
        walk_at "g"
        refine ⟨x, _, dx, _, _, rfl, M6.x, T.k_Mechanism, T.a_Mechanism__own_seats, rfl, ?_⟩
        walk_at "g"
        refine ⟨ds, .ref s, rfl, by
          have := DGet.k (k := (.inr c.1 : Key)) M6.ds
          rw [rdK_at ok.nd hc hs] at this
          exact this, ?_⟩
        walk_at "g"
        refine ⟨s, _, rfl, hvs, ?_⟩
        rw [elen]
        walk_at "g"
        refine iteB (fun h => absurd (of_decide_eq_true h) (Int.lt_irrefl _)) (fun _ => ?_)
        exact ⟨_, _, _, rfl, rfl⟩
      · rintro σ H' ⟨v4, v5, v6, rfl, rfl⟩
        walk_at "g"
        refine ⟨t, _, dt, _, _, rfl, kp6 _ _ ht ntx, T.k_Turns, T.a_Turns__names, rfl, ?_⟩
        walk_at "g"
        refine ⟨⟨_, SqT.of (kp6 _ _ hnm n2x)⟩, fun D nD => ?_⟩
        have nDx : x ≠ D := fun e => by rw [← e, M6.x] at nD; cases nD
        refine lc_it (walk_tup (K := K) (xs := ks.map fun c => V.str c.1)) (fun i H2 => Same H' H2 ∧ ∃ ys, H2 D = some (.lst ys) ∧ P2 (fun y rs => y = V.int (emptyN rs)) ys (R.take i)) ⟨same_upd nD, [], upd_same, .nil⟩ (fun i H2 _ ⟨s2, _⟩ => SqT.of (s2 _ _ (kp6 _ _ hnm n2x))) ?_ ?_
        · rintro i y H2 H2' hi ⟨s2, ys, hD, py⟩ ⟨rfl, hy⟩
          rw [List.getElem?_map] at hy
          obtain ⟨c, hc, rfl⟩ := Option.map_eq_some_iff.mp hy
          have hi : i < ks.length := (List.getElem?_eq_some_iff.mp hc).1
          obtain ⟨rs, hrs⟩ : ∃ rs, R[i]? = some rs := ⟨_, List.getElem?_eq_getElem (by omega)⟩
          obtain ⟨l, hl⟩ : ∃ l, ls[i]? = some l := ⟨_, List.getElem?_eq_getElem (by omega)⟩
          obtain ⟨s, hs⟩ : ∃ s, ss[i]? = some s := ⟨_, List.getElem?_eq_getElem (by omega)⟩
          obtain ⟨_, rpm, rln⟩ := hsh.ok i c rs hc hrs
          have MM := M6.same s2
          obtain ⟨mm, _⟩ := MM.at_ i l s hl hs
          rw [hrs] at mm
          refine ⟨rfl, ?_⟩
          simp only [tYes, if_true]
          walk_at "g"
          refine ⟨x, dx, _, rfl, MM.x, rfl, ?_⟩
          walk_at "g"
          refine ⟨fun d => H d = none ∧ d ∉ ss, x, dr, l, i, ks, c, ls, rs, rfl, ⟨⟨dx, _, MM.x, rfl, rfl⟩, MM.dr⟩, ok.nd, hc, hl, mm, by omega, fun H3 s3 => ?_⟩
          walk_at "g"
          have yl := py.len
          rw [List.length_take] at yl
          have n8 := ok.n8
          refine ⟨ys, s3 _ _ hD, small_app (m := 100000) (by omega) (Nat.le_refl _), (s2.trans s3).wr nD, _, upd_same, ?_⟩
          rw [take_snoc hrs]
          exact py.snoc rfl
        · rintro H2 ⟨s2, ys, hD, py⟩
          rw [List.length_map, ← hRl, List.take_length] at py
          have e : ys = (R.map emptyN).map V.int := by
            rw [List.map_map]
            exact P2.eq_map (g := fun r : List Rd => V.int (emptyN r)) py
          subst e
          walk_at "g"
          refine ⟨D, _, rfl, SqL.of hD, ?_⟩
          walk_at "g"
          have MM := M6.same s2
          refine ⟨x, _, dx, _, rfl, MM.x, T.k_Mechanism, T.a_Mechanism__size, by show 4 < 1000; decide, ?_⟩
          have k9 := kp_upd x H2 (.ins (He.ga K "Mechanism") dx (putF "size" (.int ((n : Int) + (R.map emptyN).sum)) (mfl4 t dr ds n)))
          refine k _ dr ds ls ss ((kp6.trans s2.kp).trans k9) ⟨⟨dx, upd_same⟩, k9 _ _ MM.dr (ne_of MM.dr MM.x (by intro z; cases z)), k9 _ _ MM.ds (ne_of MM.ds MM.x (by intro z; cases z)), lsl, ssl, fun j l s hl hs => ?_⟩ hdrn hdsn hl0 fun s hs => (hs0 s hs).1
          obtain ⟨⟨us, a, b⟩, ⟨vs, c, d⟩⟩ := MM.at_ j l s hl hs
          exact ⟨⟨us, k9 _ _ a (ne_of a MM.x (by intro z; cases z)), b.mono fun _ _ ⟨z, z1, z2, z3⟩ => ⟨z, z1.1, k9 _ _ z2 (ne_of z2 MM.x (by intro z; cases z)), k9 _ _ z3 (ne_of z3 MM.x (by intro z; cases z))⟩⟩, ⟨vs, k9 _ _ c (ne_of c MM.x (by intro z; cases z)), d.mono fun _ _ (e : H2 _ = _) => k9 _ _ e (ne_of e MM.x (by intro z; cases z))⟩⟩
end
end Tr

/-! # States of a mechanism, listed (plain). -/
namespace Tr
open PySem L2 TL
/-- steps of a reading that are plain -/
local macro_rules | `(tactic| walk_at "x") => `(tactic| (refine' ⟨_, _, _, _, rfl, rfl, ?k1, ?k2, ?_⟩; (case k1 => exact SqT.of (by assumption)); (case k2 => exact rfl)))
local macro_rules | `(tactic| walk_at "g") => `(tactic| repeat (first | (refine ⟨_, rfl, ?_⟩) | (refine ⟨_, _, rfl, rfl, ?_⟩) | (refine ⟨_, _, rfl, ?_⟩) | (refine ⟨rfl, ?_⟩) | walk_at "x"))


/-- a state: told, or empty (turn, round, position) -/
abbrev MSt : Type := Int ⊕ (Str × Int × Int)
def SvV (H : Hp) (v : V) : MSt → Prop
  | .inl i => v = .int i
  | .inr e => ∃ u, v = .ref u ∧ H u = some (.tup [.str e.1, .int e.2.1, .int e.2.2])
theorem SvV.same {H H' : Hp} {v : V} {s : MSt} (q : Same H H') (h : SvV H v s) : SvV H' v s := by
  match s, h with
  | .inl _, h => exact h
  | .inr _, ⟨u, a, b⟩ => exact ⟨u, a, q _ _ b⟩
theorem SvV.kpl {D : Addr} {H H' : Hp} {v : V} {xs : List V} {s : MSt} (k : Kp D H H') (hD : H D = some (.lst xs)) (h : SvV H v s) : SvV H' v s := by
  match s, h with
  | .inl _, h => exact h
  | .inr _, ⟨u, a, b⟩ => exact ⟨u, a, k _ _ b (ne_of b hD (by intro z; cases z))⟩
def empOf (c : Str) (k : Int) (r : Rd) : List MSt := ((List.range r.1.toNat).filter fun p : Nat => decide ((p : Int) ∉ r.2.map (·.1))).map fun p : Nat => .inr (c, k, (p : Int))
def empFrom (c : Str) : Int → List Rd → List MSt
  | _, [] => []
  | k, r :: rs => empOf c k r ++ empFrom c (k + 1) rs
theorem empFrom_snoc (c : Str) : ∀ (k : Int) (rs : List Rd) (r : Rd), empFrom c k (rs ++ [r]) = empFrom c k rs ++ empOf c (k + rs.length) r
  | k, [], r => by
    show empOf c k r ++ [] = [] ++ empOf c (k + (0 : Nat)) r
    rw [List.append_nil, List.nil_append]
    congr 1
    omega
  | k, q :: rs, r => by
    show empOf c k q ++ empFrom c (k + 1) (rs ++ [r]) = _
    rw [empFrom_snoc c (k + 1) rs r, ← List.append_assoc]
    show _ = (empOf c k q ++ empFrom c (k + 1) rs) ++ empOf c (k + (rs.length + 1 : Nat)) r
    congr 2
    omega
def empAll (ks : List SI) (R : List (List Rd)) : List MSt := ((ks.zip R).map fun z => empFrom z.1.1 0 z.2).flatten
theorem empAll_snoc {ks : List SI} {R : List (List Rd)} {i : Nat} {c : SI} {rs : List Rd} (hc : ks[i]? = some c) (hr : R[i]? = some rs) : empAll (ks.take (i + 1)) (R.take (i + 1)) = empAll (ks.take i) (R.take i) ++ empFrom c.1 0 rs := by
  unfold empAll
  have h1 := (List.getElem?_eq_some_iff.mp hc).1
  have h2 := (List.getElem?_eq_some_iff.mp hr).1
  rw [take_snoc hc, take_snoc hr, List.zip_append (by rw [List.length_take, List.length_take]; omega), List.map_append, List.flatten_append]
  show _ ++ (empFrom c.1 0 rs ++ []) = _
  rw [List.append_nil]
def listedN (n : Nat) (ks : List SI) (R : List (List Rd)) : List MSt := (List.range n).map (fun i : Nat => .inl (i : Int)) ++ empAll ks R
theorem filter_out : ∀ (ps : List Int) (N : Nat), ps.Nodup → (∀ p ∈ ps, 0 ≤ p ∧ p < N) → ((List.range N).filter fun p : Nat => decide ((p : Int) ∉ ps)).length + ps.length = N
  | [], N, _, _ => by
    have : ((List.range N).filter fun p : Nat => decide ((p : Int) ∉ ([] : List Int))) = List.range N := List.filter_eq_self.mpr fun a _ => decide_eq_true (List.not_mem_nil)
    rw [this, List.length_range]
    rfl
  | p :: ps, N, nd, h => by
    obtain ⟨n1, n2⟩ := List.nodup_cons.mp nd
    have ih := filter_out ps N n2 fun q hq => h q (List.mem_cons_of_mem _ hq)
    obtain ⟨p0, pN⟩ := h p List.mem_cons_self
    have hm : p.toNat ∈ (List.range N).filter fun q : Nat => decide ((q : Int) ∉ ps) := List.mem_filter.mpr ⟨List.mem_range.mpr (by omega), decide_eq_true (by rw [Int.toNat_of_nonneg p0]; exact n1)⟩
    have e : ((List.range N).filter fun q : Nat => decide ((q : Int) ∉ p :: ps)) = ((List.range N).filter fun q : Nat => decide ((q : Int) ∉ ps)).erase p.toNat := by
      rw [List.Nodup.erase_eq_filter (List.Pairwise.filter _ List.nodup_range), List.filter_filter]
      refine List.filter_congr fun q hq => ?_
      rw [Bool.eq_iff_iff, Bool.and_eq_true, decide_eq_true_eq, decide_eq_true_eq, List.mem_cons, not_or, bne_iff_ne]
      refine ⟨fun ⟨a, b⟩ => ⟨fun e => a (by omega), b⟩, fun ⟨a, b⟩ => ⟨fun e => a (by omega), b⟩⟩
    rw [e, List.length_erase_of_mem hm, List.length_cons]
    have : 0 < ((List.range N).filter fun q : Nat => decide ((q : Int) ∉ ps)).length := List.length_pos_of_mem hm
    omega
theorem empOf_len {n : Int} {c : Str} {k : Int} {r : Rd} (h : RdOk n r) : ((empOf c k r).length : Int) = r.1 - (r.2.length : Int) := by
  have := filter_out (r.2.map (·.1)) r.1.toNat h.nd fun p hp => by
    obtain ⟨d, hd, rfl⟩ := List.mem_map.mp hp
    have := h.ps d hd
    omega
  unfold empOf
  rw [List.length_map]
  rw [List.length_map] at this
  have := h.s1
  omega
theorem empFrom_len {n : Int} {c : Str} : ∀ {k : Int} {rs : List Rd}, (∀ r ∈ rs, RdOk n r) → ((empFrom c k rs).length : Int) = emptyN rs
  | _, [], _ => rfl
  | k, r :: rs, h => by
    show ((empOf c k r ++ empFrom c (k + 1) rs).length : Int) = (r.1 - (r.2.length : Int)) + emptyN rs
    rw [List.length_append, Int.natCast_add, empOf_len (h r List.mem_cons_self), empFrom_len fun q hq => h q (List.mem_cons_of_mem _ hq)]
theorem empAll_len {n : Int} : ∀ {ks : List SI} {R : List (List Rd)}, R.length = ks.length → (∀ rs ∈ R, ∀ r ∈ rs, RdOk n r) → ((empAll ks R).length : Int) = totalN R
  | [], [], _, _ => rfl
  | c :: ks, rs :: R, hl, h => by
    show ((empFrom c.1 0 rs ++ empAll ks R).length : Int) = emptyN rs + totalN R
    rw [List.length_append, Int.natCast_add, empFrom_len (h rs List.mem_cons_self), empAll_len (by simpa using hl) fun q hq => h q (List.mem_cons_of_mem _ hq)]
theorem ShOk.all {far : Int} {ks : List SI} {n : Nat} {R : List (List Rd)} (h : ShOk far ks n R) : ∀ rs ∈ R, ∀ r ∈ rs, RdOk n r := by
  intro rs hr r h2
  obtain ⟨i, hi, e⟩ := List.getElem_of_mem hr
  have hl := h.len
  obtain ⟨ok, _⟩ := h.ok i (ks[i]'(by omega)) rs (List.getElem?_eq_getElem (by omega)) (by rw [← e]; exact List.getElem?_eq_getElem hi)
  exact (ok.ok r h2).1
theorem listedN_len {far : Int} {ks : List SI} {n : Nat} {R : List (List Rd)} (h : ShOk far ks n R) : ((listedN n ks R).length : Int) = (n : Int) + totalN R := by
  unfold listedN
  rw [List.length_append, List.length_map, List.length_range, Int.natCast_add, empAll_len h.len h.all]
/-- what is within stays below the whole -/
theorem empFrom_at {c : Str} : ∀ {k : Int} {rs : List Rd} {m : Nat} {r : Rd}, rs[m]? = some r → (empFrom c k (rs.take m)).length + (empOf c (k + m) r).length ≤ (empFrom c k rs).length
  | _, [], _, _, h => by simp at h
  | k, q :: rs, 0, r, h => by
    cases h
    show 0 + (empOf c (k + (0 : Nat)) q).length ≤ (empOf c k q ++ empFrom c (k + 1) rs).length
    rw [List.length_append, show k + ((0 : Nat) : Int) = k by omega]
    omega
  | k, q :: rs, m + 1, r, h => by
    have := empFrom_at (c := c) (k := k + 1) (rs := rs) (m := m) (r := r) (by simpa using h)
    show (empOf c k q ++ empFrom c (k + 1) (rs.take m)).length + _ ≤ (empOf c k q ++ empFrom c (k + 1) rs).length
    rw [List.length_append, List.length_append]
    rw [show k + ((m + 1 : Nat) : Int) = k + 1 + (m : Int) by omega]
    omega
theorem empAll_at : ∀ {ks : List SI} {R : List (List Rd)} {i : Nat} {c : SI} {rs : List Rd}, ks[i]? = some c → R[i]? = some rs → (empAll (ks.take i) (R.take i)).length + (empFrom c.1 0 rs).length ≤ (empAll ks R).length
  | [], _, _, _, _, h, _ => by simp at h
  | _ :: _, [], _, _, _, _, h => by simp at h
  | d :: ks, q :: R, 0, c, rs, h, h2 => by
    cases h
    cases h2
    show 0 + _ ≤ (empFrom d.1 0 q ++ empAll ks R).length
    rw [List.length_append]
    omega
  | d :: ks, q :: R, i + 1, c, rs, h, h2 => by
    have := empAll_at (ks := ks) (R := R) (i := i) (c := c) (rs := rs) (by simpa using h) (by simpa using h2)
    show (empFrom d.1 0 q ++ empAll (ks.take i) (R.take i)).length + _ ≤ (empFrom d.1 0 q ++ empAll ks R).length
    rw [List.length_append, List.length_append]
    omega
theorem valV_mkD {ms : List (Int × Int)} {x : Int} : (valV (mkD ms) (.inl x)).isSome = decide (x ∈ ms.map (·.1)) := by
  induction ms with
  | nil => rfl
  | cons c ms ih =>
    show (valV (((.inl c.1 : Key), V.int c.2) :: mkD ms) (.inl x)).isSome = _
    by_cases h : c.1 = x
    · rw [h, valV_pos rfl, List.map_cons, h]
      exact (decide_eq_true List.mem_cons_self).symm
    · rw [valV_neg (fun q => h (Sum.inl.inj q)), ih, Bool.eq_iff_iff, decide_eq_true_eq, decide_eq_true_eq, List.map_cons, List.mem_cons]
      exact ⟨.inr, fun q => q.elim (fun e => (h e.symm).elim) id⟩
end Tr

/-! # Mechanism.listed. -/
namespace Tr
open PySem L2 TL
/-- steps of a reading that are plain -/
local macro_rules | `(tactic| walk_at "x") => `(tactic| (refine' ⟨_, _, _, _, rfl, rfl, ?k1, ?k2, ?_⟩; (case k1 => exact SqT.of (by assumption)); (case k2 => exact rfl)))
local macro_rules | `(tactic| walk_at "g") => `(tactic| repeat (first | (refine ⟨_, rfl, ?_⟩) | (refine ⟨_, _, rfl, rfl, ?_⟩) | (refine ⟨_, _, rfl, ?_⟩) | (refine ⟨rfl, ?_⟩) | walk_at "x"))


section
variable {P : Program} [PM : PMain P] {w : World} {K : PySem.W.Frag} {mg : Str → Option Value} {base : Heap}
theorem x_TooMany (T : Txt K mg) : Exm P w K mg base 1 "TooMany" (He.ga K "TooMany") (spE (He.ga K "TooMany") ["what", "many", "most"]) := exn3 T.x_TooMany ex_TooMany
def spListed (C CT CE : Addr) : Sp := fun vs H Q E => ∃ (B : Addr → Prop) (x t dr ds : Addr) (n : Nat) (far : Int) (ks : List SI) (ls ss : List Addr) (R : List (List Rd)), vs = [.ref x] ∧ MeAt B C H x t dr ds n ks ls ss R ∧ TuAt CT H t ks ∧ KsOk ks ∧ ShOk far ks n R ∧ n ≤ 10 ∧
  ((1000 < (n : Int) + totalN R ∧ ∀ H' d, Same H H' → H' d = none → E (.ref CE) (some d) (upd H' d (.xd [("most", .int 1000), ("many", .int ((n : Int) + totalN R)), ("what", .str "states")]))) ∨
    ((n : Int) + totalN R ≤ 1000 ∧ ∀ D vs H', Same H H' → H D = none → H' D = some (.lst vs) → P2 (SvV H') vs (listedN n ks R) → Q (.ref D) H'))
theorem c_listed (T : Txt K mg) : Met P w K mg base 3 (He.ga K "Mechanism") "listed" (spListed (He.ga K "Mechanism") (He.ga K "Turns") (He.ga K "TooMany")) [] := by
  have x_TooMany := @x_TooMany P PM w K mg base T
  refine metX T.m_Mechanism__listed sc_Mechanism_listed (fun vs H Q E h => ?_) (fun _ _ _ _ _ _ us hl => match us, hl with | [_], _ => rfl) (fun f cdv A outer s H vs Q E hr h => ?_)
  · obtain ⟨B, x, t, dr, ds, n, far, ks, ls, ss, R, rfl, _⟩ := h
    rfl
  · obtain ⟨B, x, t, dr, ds, n, far, ks, ls, ss, R, rfl, hM, hT, ok, hsh, n10, k⟩ := h
    refine ⟨_, (pss_cons (ps_if (pt_cmpR op_gt (pe_fldK K (pv 0) (by rfl)) (pe_gcon T.c_MOST_LISTED (by rfl)) (nomark _)) (pss_one (ps_raise rfl (takes_of rfl rfl rfl rfl) (pmk_exn x_TooMany hr (by first | decide | omega) rfl (pa_cons pe_str (pa_cons (pe_fldK K (pv 0) (by rfl)) (pa_cons (pe_gcon T.c_MOST_LISTED (by rfl)) pa_nil))) (by simp)))) pss_nil)
      (pss_cons (ps_set (i := 1) sc_Mechanism_listed.nd rfl (Or.inl rfl) (pe_listRg rfl (by rfl) T.b_list (prg_1 (by rfl) T.b_range (pe_fldK K (pv 0) (by rfl)))))
      (pss_cons (ps_for PassesOwn.leaving rfl (pi_tup (pe_fld (pe_fld (pv 0) rfl) rfl)) (pg_name (i := 2) sc_Mechanism_listed.nd rfl (Or.inr rfl)) (pss_one (ps_for PassesOwn.leaving rfl (pi_enum (by rfl) T.b_enumerate (pa_cons (pe_dget (hu_of hr) (pe_fldK K (pv 0) (by rfl)) (pv 2) (fun _ _ => rfl)) pa_nil)) (pg_tup rfl (pgs_cons (pg_name (i := 3) sc_Mechanism_listed.nd rfl (Or.inr rfl)) (pgs_cons (pg_tup rfl (pgs_cons (pg_name (i := 4) sc_Mechanism_listed.nd rfl (Or.inl rfl)) (pgs_cons (pg_name (i := 5) sc_Mechanism_listed.nd rfl (Or.inr rfl)) pgs_nil))) pgs_nil))) (pss_one (ps_expr (pe_bm PySem.F.plainAttrs_list PySem.F.slot_list_extend PySem.F.type_list_extend mt_extend (pv 1) (pa_cons (pe_lc (own := [("position", 6)]) (g := gName 6) rfl sc_Mechanism_listed.nd (pi_range1 (by rfl) T.b_range (pa_cons (pv 4) pa_nil)) (blkOk_by (own := [("position", 6)]) (N := ["self", "found", "name", "at", "size", "marks", "position"]) (sc := defScope s_Mechanism_listed) (by decide +kernel)) (fun _ _ _ _ _ => (pg_name (i := 6) sc_Mechanism_listed.nd rfl (Or.inl rfl))) (fun _ _ _ _ _ => (pts_one (pt_cmp (pc_dnotin (hu_of hr) (pv 6) (pv 5))))) (fun _ _ _ _ _ => (pe_tup (pa_cons (pv 2) (pa_cons (pv 3) (pa_cons (pv 6) pa_nil)))))) pa_nil)))))))
      (pss_one (ps_ret (pv 1)))))), ?_⟩
    obtain ⟨dx, hx⟩ := hM.x
    obtain ⟨dt, p1, p2, p3, p4, ht, _, hnm, _⟩ := id hT.ex
    walk_at "g"
    refine ⟨x, _, dx, _, _, rfl, hx, T.k_Mechanism, T.a_Mechanism__size, rfl, ?_⟩
    walk_at "g"
    rcases k with ⟨h10, k⟩ | ⟨h10, k⟩
    · rw [show decide ((1000 : Int) < (n : Int) + totalN R) = true from decide_eq_true h10]
      refine iteT ?_
      walk_at "g"
      refine ⟨x, _, dx, _, _, rfl, hx, T.k_Mechanism, T.a_Mechanism__size, rfl, ?_⟩
      walk_at "g"
      first
        | exact ⟨rfl, fun d hd => k _ d (fun _ _ e => e) hd⟩
        | exact fun d hd => k _ d (fun _ _ e => e) hd
    · rw [show decide ((1000 : Int) < (n : Int) + totalN R) = false from decide_eq_false (by omega)]
      refine iteF ?_
      walk_at "g"
      refine ⟨x, _, dx, _, _, rfl, hx, T.k_Mechanism, T.a_Mechanism__states, rfl, ?_⟩
      walk_at "g"
      refine ⟨RgOk.of_le (Int.le_refl _) (by omega) (by omega) (by omega), fun L nL => ?_⟩
      have s1 := same_upd (o := .lst (rgV 0 (n : Int))) nL
      have h1 : ∃ vs, upd H L (.lst (rgV 0 (n : Int))) L = some (.lst vs) ∧ P2 (SvV (upd H L (.lst (rgV 0 (n : Int))))) vs ((List.range n).map (fun i : Nat => (.inl (i : Int) : MSt)) ++ empAll (ks.take 0) (R.take 0)) := by
        refine ⟨_, upd_same, ?_⟩
        have e : rgV 0 (n : Int) = (List.range n).map fun i : Nat => V.int (i : Int) := by
          unfold rgV
          rw [show ((n : Int) - 0).toNat = n by omega]
          exact List.map_congr_left fun i _ => by rw [Int.zero_add]
        have e2 : empAll (ks.take 0) (R.take 0) = [] := rfl
        rw [e, e2, List.append_nil]
        exact P2.mapr (P2.of_map (g := fun i : Nat => V.int (i : Int)) (List.range n) fun i _ => rfl)
      generalize upd H L (.lst (rgV 0 (n : Int))) = H1 at *
      have lens := listedN_len hsh
      unfold listedN at lens
      rw [List.length_append, List.length_map, List.length_range] at lens
      walk_at "g"
      refine ⟨x, _, dx, _, _, rfl, s1 _ _ hx, T.k_Mechanism, T.a_Mechanism__turns, rfl, ?_⟩
      walk_at "g"
      refine ⟨t, _, dt, _, _, rfl, s1 _ _ ht, T.k_Turns, T.a_Turns__names, rfl, ?_⟩
      walk_at "g"
      refine ⟨⟨_, SqT.of (s1 _ _ hnm)⟩, ?_⟩
      refine for_it (walk_tup (K := K) (xs := ks.map fun c => V.str c.1)) (fun i σ H' => ∃ (v2 v3 v4 v5 v6 : Option V), σ = [some (.ref x), some (.ref L), v2, v3, v4, v5, v6] ∧ Same H H' ∧ ∃ vs, H' L = some (.lst vs) ∧ P2 (SvV H') vs ((List.range n).map (fun i : Nat => (.inl (i : Int) : MSt)) ++ empAll (ks.take i) (R.take i))) ⟨_, _, _, _, _, rfl, s1, h1⟩ ?_ ?_ ?_
      · rintro i σ H' _ ⟨_, _, _, _, _, _, s', _⟩
        exact SqT.of (s' _ _ hnm)
      · rintro i y σ H2 H2' hi ⟨v2, v3, v4, v5, v6, rfl, s2, h2⟩ ⟨rfl, hy⟩
        rw [List.getElem?_map] at hy
        obtain ⟨c, hc, rfl⟩ := Option.map_eq_some_iff.mp hy
        have hi : i < ks.length := (List.getElem?_eq_some_iff.mp hc).1
        have rl := hsh.len
        have ll := hM.ll
        have sl := hM.sl
        obtain ⟨rs, hrs⟩ : ∃ rs, R[i]? = some rs := ⟨_, List.getElem?_eq_getElem (by omega)⟩
        obtain ⟨l, hl⟩ : ∃ l, ls[i]? = some l := ⟨_, List.getElem?_eq_getElem (by omega)⟩
        obtain ⟨s', hs⟩ : ∃ s, ss[i]? = some s := ⟨_, List.getElem?_eq_getElem (by omega)⟩
        obtain ⟨⟨us, hus, pus⟩, _⟩ := hM.at_ i l s' hl hs
        rw [hrs] at pus
        have pus : P2 (MrT B H) us rs := pus
        have ul := pus.len
        have bd1 := empAll_at hc hrs
        walk_at "g"
        refine ⟨x, _, dx, _, _, rfl, s2 _ _ hx, T.k_Mechanism, T.a_Mechanism__own_rounds, rfl, ?_⟩
        walk_at "g"
        refine ⟨dr, .ref l, rfl, by
          have := DGet.k (k := (.inr c.1 : Key)) (s2 _ _ hM.dr)
          rw [rdK_at ok.nd hc hl] at this
          exact this, ?_⟩
        walk_at "g"
        refine ⟨l, _, rfl, SqL.of (s2 _ _ hus), ?_⟩
        refine for_it (walk_enum (K := K) (xs := us.map V.ref)) (fun m σ H' => ∃ (v3 v4 v5 v6 : Option V), σ = [some (.ref x), some (.ref L), some (.str c.1), v3, v4, v5, v6] ∧ Same H H' ∧ ∃ vs, H' L = some (.lst vs) ∧ P2 (SvV H') vs ((List.range n).map (fun i : Nat => (.inl (i : Int) : MSt)) ++ (empAll (ks.take i) (R.take i) ++ empFrom c.1 0 (rs.take m)))) ⟨_, _, _, _, rfl, s2, by
          obtain ⟨vs, a, b⟩ := h2
          refine ⟨vs, a, ?_⟩
          have e2 : empFrom c.1 0 (rs.take 0) = [] := rfl
          rw [e2, List.append_nil]
          exact b⟩ ?_ ?_ ?_
        · rintro m σ H' _ ⟨_, _, _, _, _, s', _⟩
          exact SqL.of (s' _ _ hus)
        · rintro m y σ H3 H4 hm ⟨v3, v4, v5, v6, rfl, s3, ⟨vs, hL3, pv3⟩⟩ ⟨tu, y1, y2, rfl, ntu, rfl, e1, e2⟩
          cases e1
          have e2 : (us.map V.ref)[m]? = some y2 := e2
          rw [List.getElem?_map] at e2
          obtain ⟨u, hu, rfl⟩ := Option.map_eq_some_iff.mp e2
          obtain ⟨r, hr', d, _, hu2, hd2⟩ := pus.getl hu
          have hm : m < rs.length := (List.getElem?_eq_some_iff.mp hr').1
          have s4 := s3.trans (same_upd (o := .tup [.int (m : Nat), .ref u]) ntu)
          have bd2 := empFrom_at (c := c.1) (k := 0) hr'
          have rok := hsh.all rs (mem_of_at hrs) r (mem_of_at hr')
          have el := empOf_len (c := c.1) (k := 0 + (m : Int)) rok
          have r10 : r.2.length ≤ 10 := ((hsh.ok i c rs hc hrs).1.ok r (mem_of_at hr')).2.2.2
          have hL4 := (same_upd (o := .tup [.int (m : Nat), .ref u]) ntu) _ _ hL3
          have pv4 := pv3.mono fun _ _ e => SvV.same (same_upd (o := .tup [.int (m : Nat), .ref u]) ntu) e
          have htu : upd H3 tu (.tup [.int (m : Nat), .ref u]) tu = some (.tup [.int (m : Nat), .ref u]) := upd_same
          generalize upd H3 tu (.tup [.int (m : Nat), .ref u]) = H4 at *
          refine ⟨tu, _, rfl, SqT.of htu, rfl, _, _, rfl, _, _, rfl, u, _, rfl, SqT.of (s4 _ _ hu2), rfl, _, _, rfl, _, _, rfl, rfl, rfl, ?_⟩
          walk_at "g"
          refine ⟨.inl ⟨rfl, _, SqL.of hL4⟩, ?_⟩
          walk_at "g"
          refine ⟨by omega, by omega, fun D nD => ?_⟩
          have nDL : L ≠ D := fun e => by rw [e, nD] at hL4; cases hL4
          refine lc_rng (fun p : Nat => decide ((p : Int) ∉ r.2.map (·.1))) (fun y p H' => ∃ q, y = .ref q ∧ H' q = some (.tup [.str c.1, .int (m : Nat), .int (p : Int)])) ?_ nD (by omega) (fun _ => rfl) ?_ ?_ ?_
          · rintro y p H5 H6 acc hD5 kp ⟨q, rfl, hq⟩
            exact ⟨q, rfl, kp _ _ hq (ne_of hq hD5 (by intro z; cases z))⟩
          · intro p hp H5 Q5 s5 q
            rw [Int.zero_add]
            walk_at "g"
            refine ⟨d, _, rfl, DGet.k (k := (.inl (p : Int) : Key)) (s5 _ _ (s4 _ _ hd2)), ?_⟩
            rw [valV_mkD]
            have e : (!decide ((p : Int) ∈ r.2.map (·.1))) = decide ((p : Int) ∉ r.2.map (·.1)) := by rw [decide_not]
            refine ⟨_, rfl, ?_⟩
            rw [e]
            exact q _ (Same.refl _)
          · intro p hp _ H5 Q5 s5 q
            rw [Int.zero_add]
            walk_at "g"
            refine ⟨by show 3 ≤ sizeLine; decide, fun z nz => ?_⟩
            exact q _ _ (same_upd nz) ⟨z, rfl, upd_same⟩
          · intro ys H5 s5 hD5 py
            have pe : P2 (SvV H5) ys (empOf c.1 (0 + (m : Int)) r) := by
              unfold empOf
              rw [Int.zero_add]
              exact P2.mapr (py.mono fun y p h => h)
            have yl := pe.len
            have vl := pv4.len
            rw [List.length_append, List.length_map, List.length_range, List.length_append] at vl
            have hL5 := s5 _ _ hL4
            walk_at "g"
            refine ⟨L, D, vs, ys, rfl, rfl, hL5, hD5, Nat.le_trans (m := 1100) (by omega) (by decide), ?_⟩
            have kL := kp_upd L H5 (.lst (vs ++ ys))
            have s6 : Same H (upd H5 L (.lst (vs ++ ys))) := (s4.trans s5).wr nL
            refine ⟨_, _, _, _, rfl, s6, _, upd_same, ?_⟩
            rw [take_snoc hr', empFrom_snoc, List.length_take, Nat.min_eq_left (Nat.le_of_lt hm), ← List.append_assoc, ← List.append_assoc]
            refine P2.app (P2.mono (S := SvV (upd H5 L (.lst (vs ++ ys)))) ?_ fun _ _ e => SvV.kpl kL hL5 e) (pe.mono fun _ _ e => SvV.kpl kL hL5 e)
            rw [List.append_assoc]
            exact pv4.mono fun _ _ e => SvV.same s5 e
        · rintro σ H' ⟨v3, v4, v5, v6, rfl, s', h'⟩
          rw [List.length_map, ul, List.take_length, ← empAll_snoc hc hrs] at h'
          exact ⟨_, _, _, _, _, rfl, s', h'⟩
      · rintro σ H' ⟨v2, v3, v4, v5, v6, rfl, s', vs, a, b⟩
        have rl := hsh.len
        rw [List.length_map, List.take_length, ← rl, List.take_length] at b
        walk_at "g"
        exact k L vs H' s' nL a b
end
end Tr

/-! # k49: what the law tells of a shape. -/
namespace Tr
open PySem L2 TL
/-- steps of a reading that are plain -/
local macro_rules | `(tactic| walk_at "x") => `(tactic| (refine' ⟨_, _, _, _, rfl, rfl, ?k1, ?k2, ?_⟩; (case k1 => exact SqT.of (by assumption)); (case k2 => exact rfl)))
local macro_rules | `(tactic| walk_at "g") => `(tactic| repeat (first | (refine ⟨_, rfl, ?_⟩) | (refine ⟨_, _, rfl, rfl, ?_⟩) | (refine ⟨_, _, rfl, ?_⟩) | (refine ⟨rfl, ?_⟩) | walk_at "x"))


theorem call_lenK_ {X : Cx} (K : PySem.W.Frag) (hk : X.K = K := by rfl) : CallR X (.builtin "len") (fun xs H Q => ∃ x n, xs = [x] ∧ LenV K x H n ∧ Q (.int n) H) := by
  subst hk
  exact call_len
theorem ShAt.ne {A : Addr → Prop} {H : Hp} {sh l rd : Addr} {ks : List SI} {n : Nat} {fs : List Addr} {R : List (List Rd)} (h : ShAt A H sh l rd ks n fs R) : sh ≠ rd := fun e => by
  have h1 := h.sh
  rw [e, h.rd] at h1
  have h2 := HO.dK.inj (Option.some.inj h1)
  have h3 : ((.inr "states" : Key), V.int (n : Int)) ∈ rdK ks fs := by
    rw [h2]
    exact List.mem_cons_of_mem _ List.mem_cons_self
  obtain ⟨z, _, ez⟩ := List.mem_map.mp h3
  have := congrArg Prod.snd ez
  cases this
theorem rdK_get {ks : List SI} {fs : List Addr} {i : Nat} {k : Key} {v : V} (h : (rdK ks fs)[i]? = some (k, v)) : ∃ c f, ks[i]? = some c ∧ fs[i]? = some f ∧ k = .inr c.1 ∧ v = .ref f := by
  unfold rdK at h
  rw [List.getElem?_map] at h
  obtain ⟨z, hz, ez⟩ := Option.map_eq_some_iff.mp h
  rw [List.getElem?_zip_eq_some] at hz
  cases ez
  exact ⟨_, _, hz.1, hz.2, rfl, rfl⟩
theorem rdK_len {ks : List SI} {fs : List Addr} (h : fs.length = ks.length) : (rdK ks fs).length = ks.length := by
  unfold rdK
  rw [List.length_map, List.length_zip, h, Nat.min_self]
/-- unlocked again -/
theorem unlock_same {d : Addr} {u : HO} {H H' : Hp} (h : H d = some u) (k : Kp d H H') : Same H (upd H' d u) := fun b o e => by
  by_cases q : b = d
  · rw [q] at e ⊢
    rw [upd_same, ← e, h]
  · rw [upd_ne q]
    exact k _ _ e q
section
variable {P : Program} [PM : PMain P] {w : World} {K : PySem.W.Frag} {mg : Str → Option Value} {base : Heap}
def spLListed : Sp := fun vs H Q _ => ∃ (A : Addr → Prop) (sh l rd : Addr) (n : Nat) (far : Int) (ks : List SI) (fs : List Addr) (R : List (List Rd)), vs = [.ref sh] ∧ ShAt A H sh l rd ks n fs R ∧ KsOk ks ∧ ShOk far ks n R ∧ n ≤ 10 ∧ (n : Int) + totalN R ≤ 1000 ∧ ∀ D vs H', Same H H' → H D = none → H' D = some (.lst vs) → P2 (SvV H') vs (listedN n ks R) → Q (.ref D) H'
theorem c__law_listed (T : Txt K mg) : Cal P w K mg base 1 "_law_listed" spLListed [] := by
  refine calN T.d__law_listed sc__law_listed (fun vs H Q E h => ?_) (fun _ _ _ _ _ _ us hl => match us, hl with | [_], _ => rfl) (fun f cdv A outer s H vs Q E hr h => ?_)
  · obtain ⟨B, sh, l, rd, n, far, ks, fs, R, rfl, _⟩ := h
    rfl
  · obtain ⟨B, sh, l, rd, n, far, ks, fs, R, rfl, hS, ok, hsh, n10, h10, k⟩ := h
    refine ⟨_, (pss_cons (ps_set (i := 1) sc__law_listed.nd rfl (Or.inl rfl) (pe_listRg rfl (by rfl) T.b_list (prg_1 (by rfl) T.b_range (pe_dget (hu_of hr) (pv 0) pe_str (fun _ _ => rfl)))))
      (pss_cons (ps_for PassesOwn.never rfl (pi_list (pe_dget (hu_of hr) (pv 0) pe_str (fun _ _ => rfl))) (pg_tup rfl (pgs_cons (pg_name (i := 2) sc__law_listed.nd rfl (Or.inr rfl)) (pgs_cons (pg_name (i := 3) sc__law_listed.nd rfl (Or.inl rfl)) pgs_nil))) (pss_one (ps_for PassesOwn.never rfl (pi_range1 (by rfl) T.b_range (pa_cons (pe_callB call_len (by rfl) T.b_len (by decide +kernel) (pa_cons (pe_dget (hu_of hr) (pe_dget (hu_of hr) (pv 0) pe_str (fun _ _ => rfl)) (pv 2) (fun _ _ => rfl)) pa_nil)) pa_nil)) (pg_name (i := 4) sc__law_listed.nd rfl (Or.inr rfl)) (pss_cons (ps_asg (pe_ix ix_list (pe_dget (hu_of hr) (pe_dget (hu_of hr) (pv 0) pe_str (fun _ _ => rfl)) (pv 2) (fun _ _ => rfl)) (pv 4) (fun _ _ => rfl)) (pg_tup rfl (pgs_cons (pg_name (i := 5) sc__law_listed.nd rfl (Or.inl rfl)) (pgs_cons (pg_name (i := 6) sc__law_listed.nd rfl (Or.inl rfl)) pgs_nil))))
      (pss_cons (ps_set (i := 7) sc__law_listed.nd rfl (Or.inr rfl) (pe_lc (own := [("_law_mark", 8)]) (g := gName 8) rfl sc__law_listed.nd (pi_listK K (pv 6)) (blkOk_by (own := [("_law_mark", 8)]) (N := ["_law_shape_here", "_law_found", "_law_name", "_law_period", "_law_k", "_law_size_here", "_law_marks", "_law_taken", "_law_mark", "_law_position"]) (sc := defScope s__law_listed) (by decide +kernel)) (fun _ _ _ _ _ => (pg_name (i := 8) sc__law_listed.nd rfl (Or.inl rfl))) (fun _ _ _ _ _ => pts_nil) (fun _ _ _ _ _ => (pe_ix (ix_tupK K) (pv 8) pe_int (fun _ _ => rfl)))))
      (pss_one (ps_set (i := 1) sc__law_listed.nd rfl (Or.inl rfl) (pe_op op_cat (pv 1) (pe_lc (own := [("_law_position", 9)]) (g := gName 9) rfl sc__law_listed.nd (pi_range1 (by rfl) T.b_range (pa_cons (pv 5) pa_nil)) (blkOk_by (own := [("_law_position", 9)]) (N := ["_law_shape_here", "_law_found", "_law_name", "_law_period", "_law_k", "_law_size_here", "_law_marks", "_law_taken", "_law_mark", "_law_position"]) (sc := defScope s__law_listed) (by decide +kernel)) (fun _ _ _ _ _ => (pg_name (i := 9) sc__law_listed.nd rfl (Or.inl rfl))) (fun _ _ _ _ _ => (pts_one (pt_cmpR (op_notIn_seqK K) (pv 9) (pv 7) (by rfl)))) (fun _ _ _ _ _ => (pe_tup (pa_cons (pv 2) (pa_cons (pv 4) (pa_cons (pv 9) pa_nil))))))))))))))
      (pss_one (ps_ret (pv 1))))), ?_⟩
    walk_at "g"
    refine ⟨sh, _, rfl, DGet.k (k := (.inr "states" : Key)) hS.sh, ?_⟩
    have lens := listedN_len hsh
    unfold listedN at lens
    rw [List.length_append, List.length_map, List.length_range] at lens
    walk_at "g"
    refine ⟨RgOk.of_le (Int.le_refl _) (by omega) (by omega) (by omega), fun L nL => ?_⟩
    have s1 := same_upd (o := .lst (rgV 0 (n : Int))) nL
    have h1 : ∃ vs, upd H L (.lst (rgV 0 (n : Int))) L = some (.lst vs) ∧ P2 (SvV (upd H L (.lst (rgV 0 (n : Int))))) vs ((List.range n).map (fun i : Nat => (.inl (i : Int) : MSt)) ++ empAll (ks.take 0) (R.take 0)) := by
      refine ⟨_, upd_same, ?_⟩
      have e : rgV 0 (n : Int) = (List.range n).map fun i : Nat => V.int (i : Int) := by
        unfold rgV
        rw [show ((n : Int) - 0).toNat = n by omega]
        exact List.map_congr_left fun i _ => by rw [Int.zero_add]
      have e2 : empAll (ks.take 0) (R.take 0) = [] := rfl
      rw [e, e2, List.append_nil]
      exact P2.mapr (P2.of_map (g := fun i : Nat => V.int (i : Int)) (List.range n) fun i _ => rfl)
    generalize upd H L (.lst (rgV 0 (n : Int))) = H1 at *
    obtain ⟨ts, hl, pp⟩ := id hS.tu
    have tl := pp.len
    have fl := hS.fl
    have rl := hsh.len
    walk_at "g"
    refine ⟨sh, _, rfl, DGet.k (k := (.inr "turns" : Key)) (s1 _ _ hS.sh), ?_⟩
    walk_at "g"
    refine ⟨⟨_, SqL.of (s1 _ _ hl)⟩, ?_⟩
    refine for_it (walk_list (K := K) (xs := ts.map V.ref)) (fun i σ H' => ∃ (F : Addr) (v2 v3 v4 v5 v6 v7 v8 v9 : Option V), σ = [some (.ref sh), some (.ref F), v2, v3, v4, v5, v6, v7, v8, v9] ∧ Same H H' ∧ H F = none ∧ ∃ vs, H' F = some (.lst vs) ∧ P2 (SvV H') vs ((List.range n).map (fun i : Nat => (.inl (i : Int) : MSt)) ++ empAll (ks.take i) (R.take i))) ⟨_, _, _, _, _, _, _, _, _, rfl, s1, nL, h1⟩ ?_ ?_ ?_
    · rintro i σ H' _ ⟨_, _, _, _, _, _, _, _, _, _, s', _⟩
      exact SqL.of (s' _ _ hl)
    · rintro i y σ H2 H2' hi ⟨F, v2, v3, v4, v5, v6, v7, v8, v9, rfl, s2, nF, h2⟩ ⟨rfl, hy⟩
      rw [List.getElem?_map] at hy
      obtain ⟨tt, htt, rfl⟩ := Option.map_eq_some_iff.mp hy
      obtain ⟨c, hc, htu⟩ := pp.getl htt
      have hi : i < ks.length := (List.getElem?_eq_some_iff.mp hc).1
      obtain ⟨rs, hrs⟩ : ∃ rs, R[i]? = some rs := ⟨_, List.getElem?_eq_getElem (by omega)⟩
      obtain ⟨f, hf⟩ : ∃ f, fs[i]? = some f := ⟨_, List.getElem?_eq_getElem (by omega)⟩
      obtain ⟨rs', hrs', us, hus, pus⟩ := hS.rs.getl hf
      rw [hrs] at hrs'
      cases hrs'
      have ul := pus.len
      have bd1 := empAll_at hc hrs
      have rln := (hsh.ok i c rs hc hrs).2.2
      refine ⟨tt, _, rfl, SqT.of (s2 _ _ htu), rfl, _, _, rfl, _, _, rfl, rfl, ?_⟩
      walk_at "g"
      refine ⟨sh, _, rfl, DGet.k (k := (.inr "rounds" : Key)) (s2 _ _ hS.sh), ?_⟩
      walk_at "g"
      refine ⟨rd, .ref f, rfl, by
        have := DGet.k (k := (.inr c.1 : Key)) (s2 _ _ hS.rd)
        rw [rdK_at ok.nd hc hf] at this
        exact this, ?_⟩
      walk_at "g"
      refine ⟨_, _, rfl, .inl ⟨_, SqL.of (s2 _ _ hus), rfl⟩, ?_⟩
      rw [List.length_map, ul]
      walk_at "g"
      refine ⟨by omega, by omega, ?_⟩
      refine for_it (walk_range (lo := 0) (n := ((rs.length : Int)).toNat)) (fun m σ H' => ∃ (F : Addr) (v4 v5 v6 v7 v8 v9 : Option V), σ = [some (.ref sh), some (.ref F), some (.str c.1), some (.int c.2), v4, v5, v6, v7, v8, v9] ∧ Same H H' ∧ H F = none ∧ ∃ vs, H' F = some (.lst vs) ∧ P2 (SvV H') vs ((List.range n).map (fun i : Nat => (.inl (i : Int) : MSt)) ++ (empAll (ks.take i) (R.take i) ++ empFrom c.1 0 (rs.take m)))) ⟨_, _, _, _, _, _, _, rfl, s2, nF, by
        obtain ⟨vs, a, b⟩ := h2
        refine ⟨vs, a, ?_⟩
        have e2 : empFrom c.1 0 (rs.take 0) = [] := rfl
        rw [e2, List.append_nil]
        exact b⟩ ?_ ?_ ?_
      · rintro m σ H' _ _
        trivial
      · rintro m y σ H3 H3' hm ⟨F, v4, v5, v6, v7, v8, v9, rfl, s3, nF, vs, hF3, pv3⟩ ⟨rfl, rfl⟩
        have hm : m < rs.length := by omega
        obtain ⟨r, hr'⟩ : ∃ r, rs[m]? = some r := ⟨_, List.getElem?_eq_getElem (by omega)⟩
        obtain ⟨u, hu, mk, _, hu2, ms, hms, pms⟩ := pus.get hr'
        have bd2 := empFrom_at (c := c.1) (k := 0) hr'
        have rok := hsh.all rs (mem_of_at hrs) r (mem_of_at hr')
        have el := empOf_len (c := c.1) (k := 0 + (m : Int)) rok
        have r10 : r.2.length ≤ 10 := ((hsh.ok i c rs hc hrs).1.ok r (mem_of_at hr')).2.2.2
        have ml := pms.len
        show gName _ (V.int (0 + ((m : Nat) : Int))) _ _ _
        rw [Int.zero_add]
        walk_at "g"
        refine ⟨sh, _, rfl, DGet.k (k := (.inr "rounds" : Key)) (s3 _ _ hS.sh), ?_⟩
        walk_at "g"
        refine ⟨rd, .ref f, rfl, by
          have := DGet.k (k := (.inr c.1 : Key)) (s3 _ _ hS.rd)
          rw [rdK_at ok.nd hc hf] at this
          exact this, ?_⟩
        walk_at "g"
        refine ⟨f, _, (m : Int), .ref u, rfl, rfl, SqL.of (s3 _ _ hus), atI_nat (by rw [List.getElem?_map, hu]; rfl), ?_⟩
        refine ⟨u, _, rfl, SqT.of (s3 _ _ hu2), rfl, _, _, rfl, _, _, rfl, rfl, ?_⟩
        walk_at "g"
        refine ⟨⟨_, SqL.of (s3 _ _ hms)⟩, fun E nE => ?_⟩
        refine lc_it (walk_list (K := K) (xs := ms.map V.ref)) (fun j H' => Same H3' H' ∧ ∃ ys, H' E = some (.lst ys) ∧ ys = ((r.2.take j).map (·.1)).map V.int) ⟨same_upd nE, _, upd_same, rfl⟩ (fun i H' _ ⟨s', _⟩ => SqL.of (s' _ _ (s3 _ _ hms))) ?_ ?_
        · rintro j y H4 H4' hj ⟨s4, ys, hE4, ey⟩ ⟨rfl, hy⟩
          rw [List.getElem?_map] at hy
          obtain ⟨t, ht, rfl⟩ := Option.map_eq_some_iff.mp hy
          obtain ⟨d, hd, htd⟩ := pms.getl ht
          have hj2 : j < r.2.length := (List.getElem?_eq_some_iff.mp hd).1
          refine ⟨rfl, ?_⟩
          simp only [tYes, if_true]
          walk_at "g"
          refine ⟨t, _, 0, .int d.1, rfl, rfl, SqT.of (s4 _ _ (s3 _ _ htd)), rfl, ?_⟩
          refine ⟨ys, hE4, ?_, s4.wr nE, _, upd_same, ?_⟩
          · rw [ey, List.length_map, List.length_map, List.length_take]
            exact small_app (m := 100000) (by omega) (Nat.le_refl _)
          · rw [take_snoc hd, ey, List.map_append, List.map_append]
            rfl
        · rintro H4 ⟨s4, ys, hE4, ey⟩
          rw [List.length_map, ml, List.take_length] at ey
          subst ey
          have hF4 := s4 _ _ hF3
          have s34 := s3.trans s4
          walk_at "g"
          refine ⟨by omega, by omega, fun D nD => ?_⟩
          refine lc_rng (fun p : Nat => decide ((p : Int) ∉ r.2.map (·.1))) (fun y p H' => ∃ q, y = .ref q ∧ H' q = some (.tup [.str c.1, .int (m : Nat), .int (p : Int)])) ?_ nD (by omega) (fun _ => rfl) ?_ ?_ ?_
          · rintro y p H5 H6 acc hD5 kp ⟨q, rfl, hq⟩
            exact ⟨q, rfl, kp _ _ hq (ne_of hq hD5 (by intro z; cases z))⟩
          · intro p hp H5 Q5 s5 q
            rw [Int.zero_add]
            walk_at "g"
            refine ⟨E, _, rfl, .inl (SqL.of (s5 _ _ hE4)), rfl, flat_intsM _, ?_⟩
            rw [inV_intM]
            have e : (if true = true then !decide ((p : Int) ∈ r.2.map (·.1)) else decide ((p : Int) ∈ r.2.map (·.1))) = decide ((p : Int) ∉ r.2.map (·.1)) := by rw [decide_not]; rfl
            rw [e]
            exact ⟨_, rfl, q _ (Same.refl _)⟩
          · intro p hp _ H5 Q5 s5 q
            rw [Int.zero_add]
            walk_at "g"
            refine ⟨by show 3 ≤ sizeLine; decide, fun z nz => ?_⟩
            exact q _ _ (same_upd nz) ⟨z, rfl, upd_same⟩
          · intro ys H5 s5 hD5 py
            have pe : P2 (SvV H5) ys (empOf c.1 (0 + (m : Int)) r) := by
              unfold empOf
              rw [Int.zero_add]
              exact P2.mapr (py.mono fun y p h => h)
            have yl := pe.len
            have vl := pv3.len
            rw [List.length_append, List.length_map, List.length_range, List.length_append] at vl
            walk_at "g"
            refine ⟨F, D, vs, ys, rfl, rfl, s5 _ _ hF4, hD5, Nat.le_trans (m := 1100) (by omega) (by decide), fun G nG => ?_⟩
            walk_at "g"
            have s6 := same_upd (o := .lst (vs ++ ys)) nG
            have sH : Same H H5 := s34.trans s5
            refine ⟨G, _, _, _, _, _, _, rfl, sH.trans s6, ?_, _, upd_same, ?_⟩
            · cases e : H G with
              | none => rfl
              | some o => rw [sH _ _ e] at nG; cases nG
            rw [take_snoc hr', empFrom_snoc, List.length_take, Nat.min_eq_left (Nat.le_of_lt hm), ← List.append_assoc, ← List.append_assoc]
            refine P2.app (P2.mono (S := SvV (upd H5 G (.lst (vs ++ ys)))) ?_ fun _ _ e => SvV.same s6 e) (pe.mono fun _ _ e => SvV.same s6 e)
            rw [List.append_assoc]
            exact pv3.mono fun _ _ e => SvV.same (s4.trans s5) e
      · rintro σ H' ⟨F, v4, v5, v6, v7, v8, v9, rfl, s', nF, h'⟩
        rw [show ((rs.length : Int)).toNat = rs.length by omega, List.take_length, ← empAll_snoc hc hrs] at h'
        exact ⟨_, _, _, _, _, _, _, _, _, rfl, s', nF, h'⟩
    · rintro σ H' ⟨F, v2, v3, v4, v5, v6, v7, v8, v9, rfl, s', nF, vs, a, b⟩
      rw [List.length_map, tl, List.take_length, ← rl, List.take_length] at b
      walk_at "g"
      exact k F vs H' s' nF a b
end
end Tr

/-! # A mechanism that stands: kept (plain). -/
namespace Tr
open PySem L2 TL
/-- steps of a reading that are plain -/
local macro_rules | `(tactic| walk_at "x") => `(tactic| (refine' ⟨_, _, _, _, rfl, rfl, ?k1, ?k2, ?_⟩; (case k1 => exact SqT.of (by assumption)); (case k2 => exact rfl)))
local macro_rules | `(tactic| walk_at "g") => `(tactic| repeat (first | (refine ⟨_, rfl, ?_⟩) | (refine ⟨_, _, rfl, rfl, ?_⟩) | (refine ⟨_, _, rfl, ?_⟩) | (refine ⟨rfl, ?_⟩) | walk_at "x"))


theorem call_list_ofK {X : Cx} (K : PySem.W.Frag) (hk : X.K = K := by rfl) : CallR X (.type "list") (fun xs H Q => ∃ p ys, xs = [.ref p] ∧ (SqL K H p ys ∨ SqT K H p ys) ∧ ∀ l, H l = none → Q (.ref l) (upd H l (.lst ys))) := by
  subst hk
  exact call_list_of
theorem call_lenK {X : Cx} (K : PySem.W.Frag) (hk : X.K = K := by rfl) : CallR X (.builtin "len") (fun xs H Q => ∃ x n, xs = [x] ∧ LenV K x H n ∧ Q (.int n) H) := by
  subst hk
  exact call_len
theorem MeAt.triv {B : Addr → Prop} {C : Addr} {H : Hp} {x t dr ds : Addr} {n : Nat} {ks : List SI} {ls ss : List Addr} {R : List (List Rd)} (h : MeAt B C H x t dr ds n ks ls ss R) : MeAt (fun _ => True) C H x t dr ds n ks ls ss R :=
  ⟨h.x, h.dr, h.ds, h.ll, h.sl, fun j l s hl hs => by
    obtain ⟨⟨us, a, b⟩, c⟩ := h.at_ j l s hl hs
    exact ⟨⟨us, a, b.mono fun _ _ ⟨z, _, z2, z3⟩ => ⟨z, trivial, z2, z3⟩⟩, c⟩⟩
theorem MeAt.same {B : Addr → Prop} {C : Addr} {H H' : Hp} {x t dr ds : Addr} {n : Nat} {ks : List SI} {ls ss : List Addr} {R : List (List Rd)} (s' : Same H H') (h : MeAt B C H x t dr ds n ks ls ss R) : MeAt B C H' x t dr ds n ks ls ss R := by
  obtain ⟨dx, hx⟩ := h.x
  refine ⟨⟨dx, s' _ _ hx⟩, s' _ _ h.dr, s' _ _ h.ds, h.ll, h.sl, fun j l s hl hs => ?_⟩
  obtain ⟨⟨us, a, b⟩, ⟨vs, c, d⟩⟩ := h.at_ j l s hl hs
  exact ⟨⟨us, s' _ _ a, b.mono fun _ _ ⟨z, z1, z2, z3⟩ => ⟨z, z1, s' _ _ z2, s' _ _ z3⟩⟩, ⟨vs, s' _ _ c, d.mono fun _ _ (e : H _ = _) => s' _ _ e⟩⟩
/-- a list that is none of its own is changed -/
theorem MeAt.kpl {B : Addr → Prop} {C D : Addr} {H H' : Hp} {xs : List V} {x t dr ds : Addr} {n : Nat} {ks : List SI} {ls ss : List Addr} {R : List (List Rd)} (k : Kp D H H') (hD : H D = some (.lst xs)) (nl : D ∉ ls) (h : MeAt B C H x t dr ds n ks ls ss R) : MeAt B C H' x t dr ds n ks ls ss R := by
  obtain ⟨dx, hx⟩ := h.x
  refine ⟨⟨dx, k _ _ hx (ne_of hx hD (by intro z; cases z))⟩, k _ _ h.dr (ne_of h.dr hD (by intro z; cases z)), k _ _ h.ds (ne_of h.ds hD (by intro z; cases z)), h.ll, h.sl, fun j l s hl hs => ?_⟩
  obtain ⟨⟨us, a, b⟩, ⟨vs, c, d⟩⟩ := h.at_ j l s hl hs
  exact ⟨⟨us, k _ _ a (fun e => nl (by rw [← e]; exact mem_of_at hl)), b.mono fun _ _ ⟨z, z1, z2, z3⟩ => ⟨z, z1, k _ _ z2 (ne_of z2 hD (by intro z; cases z)), k _ _ z3 (ne_of z3 hD (by intro z; cases z))⟩⟩, ⟨vs, k _ _ c (ne_of c hD (by intro z; cases z)), d.mono fun _ _ (e : H _ = _) => k _ _ e (ne_of e hD (by intro z; cases z))⟩⟩
theorem MeAt.mono {B B' : Addr → Prop} {C : Addr} {H : Hp} {x t dr ds : Addr} {n : Nat} {ks : List SI} {ls ss : List Addr} {R : List (List Rd)} (f : ∀ d, B d → B' d) (h : MeAt B C H x t dr ds n ks ls ss R) : MeAt B' C H x t dr ds n ks ls ss R :=
  ⟨h.x, h.dr, h.ds, h.ll, h.sl, fun j l s hl hs => by
    obtain ⟨⟨us, a, b⟩, c⟩ := h.at_ j l s hl hs
    exact ⟨⟨us, a, b.mono fun _ _ ⟨z, z1, z2, z3⟩ => ⟨z, f _ z1, z2, z3⟩⟩, c⟩⟩
/-- a dict that is none of its own is changed -/
theorem MeAt.kpB {B : Addr → Prop} {C p : Addr} {H H' : Hp} {kvs : List (Key × V)} {x t dr ds : Addr} {n : Nat} {ks : List SI} {ls ss : List Addr} {R : List (List Rd)} (k : Kp p H H') (hp : H p = some (.dK kvs)) (hB : ∀ d, B d → d ≠ p) (hn : ∀ d ∈ dr :: ds :: ss, d ≠ p) (h : MeAt B C H x t dr ds n ks ls ss R) : MeAt B C H' x t dr ds n ks ls ss R := by
  obtain ⟨dx, hx⟩ := h.x
  refine ⟨⟨dx, k _ _ hx (ne_of hx hp (by intro z; cases z))⟩, k _ _ h.dr (hn _ List.mem_cons_self), k _ _ h.ds (hn _ (List.mem_cons_of_mem _ List.mem_cons_self)), h.ll, h.sl, fun j l s hl hs => ?_⟩
  obtain ⟨⟨us, a, b⟩, ⟨vs, c, d⟩⟩ := h.at_ j l s hl hs
  exact ⟨⟨us, k _ _ a (ne_of a hp (by intro z; cases z)), b.mono fun _ _ ⟨z, z1, z2, z3⟩ => ⟨z, z1, k _ _ z2 (ne_of z2 hp (by intro z; cases z)), k _ _ z3 (hB _ z1)⟩⟩, ⟨vs, k _ _ c (hn _ (List.mem_cons_of_mem _ (List.mem_cons_of_mem _ (mem_of_at hs)))), d.mono fun _ _ (e : H _ = _) => k _ _ e (ne_of e hp (by intro z; cases z))⟩⟩
theorem rdK_keysV {ks : List SI} {fs : List Addr} (h : fs.length = ks.length) : (rdK ks fs).map (fun kv => kV kv.1) = ks.map fun c => V.str c.1 := by
  have : (rdK ks fs).map (fun kv => kV kv.1) = ((rdK ks fs).map (·.1)).map kV := by rw [List.map_map]; rfl
  rw [this, rdK_keys h, List.map_map]
  rfl
theorem nds_rev {ks : List SI} (nd : Nds ks) : Nds ks.reverse := by
  have : (ks.reverse.map (·.1)).Nodup := ((List.reverse_perm ks).map _).nodup_iff.mpr nd
  exact this
end Tr

/-! # Mechanism: states needed, steps, rows led (valid case). -/
namespace Tr
open PySem L2 TL
/-- steps of a reading that are plain -/
local macro_rules | `(tactic| walk_at "x") => `(tactic| (refine' ⟨_, _, _, _, rfl, rfl, ?k1, ?k2, ?_⟩; (case k1 => exact SqT.of (by assumption)); (case k2 => exact rfl)))
local macro_rules | `(tactic| walk_at "g") => `(tactic| repeat (first | (refine ⟨_, rfl, ?_⟩) | (refine ⟨_, _, rfl, rfl, ?_⟩) | (refine ⟨_, _, rfl, ?_⟩) | (refine ⟨rfl, ?_⟩) | walk_at "x"))


/-- where a state stands in a round -/
def goAt (c : Str) (k : Int) (r : Rd) (p : Int) : MSt := match r.2.find? (fun m => decide (m.1 = p)) with
  | some m => .inl m.2
  | none => .inr (c, k, p)
def seatOf (rs : List Rd) (i : Int) : Option (Int × Int) := ((seatsFrom 0 rs).find? fun e => decide (e.1 = i)).map (·.2)
def goFrom (c : Str) (rs : List Rd) (k p e : Int) (s : MSt) : MSt := match rs[k.toNat]? with
  | some r => goAt c k r ((p + e) % r.1)
  | none => s
/-- a step of the turn c, whose rounds are rs -/
def stepM (c : Str) (rs : List Rd) (e : Int) (s : MSt) : MSt := match s with
  | .inl i => match seatOf rs i with
    | some q => goFrom c rs q.1 q.2 e s
    | none => s
  | .inr z => if z.1 = c then goFrom c rs z.2.1 z.2.2 e s else s
/-- what is a state -/
def SOk (n : Nat) (ks : List SI) (R : List (List Rd)) : MSt → Prop
  | .inl i => 0 ≤ i ∧ i < (n : Int)
  | .inr z => ∃ (j : Nat) (c : SI) (rs : List Rd) (k : Nat) (r : Rd), ks[j]? = some c ∧ R[j]? = some rs ∧ c.1 = z.1 ∧ z.2.1 = (k : Int) ∧ rs[k]? = some r ∧ 0 ≤ z.2.2 ∧ z.2.2 < r.1 ∧ z.2.2 ∉ r.2.map (·.1)
theorem seK_find {H : Hp} {i : Int} : ∀ {es : List Seat} {us : List Addr}, P2 (StT H) us es → i ∈ es.map (·.1) → ∃ u k p, valV (seK es us) (.inl i) = some (.ref u) ∧ (es.find? fun e => decide (e.1 = i)).map (·.2) = some (k, p) ∧ H u = some (.tup [.int k, .int p])
  | [], _, _, h => by cases h
  | e :: es, [], pp, _ => by cases pp
  | e :: es, u :: us, pp, h => by
    cases pp with
    | cons r pp =>
      by_cases q : e.1 = i
      · refine ⟨u, e.2.1, e.2.2, ?_, ?_, r⟩
        · show valV (((.inl e.1 : Key), V.ref u) :: seK es us) _ = _
          rw [q, valV_pos rfl]
        · rw [List.find?_cons, decide_eq_true q]
          rfl
      · obtain ⟨u', k, p, h1, h2, h3⟩ := seK_find pp ((List.mem_cons.mp h).resolve_left fun z => q z.symm)
        refine ⟨u', k, p, ?_, ?_, h3⟩
        · show valV (((.inl e.1 : Key), V.ref u) :: seK es us) _ = _
          rw [valV_neg (fun z => q (Sum.inl.inj z))]
          exact h1
        · rw [List.find?_cons, decide_eq_false q]
          exact h2
theorem mkD_find {q : Int} : ∀ {ms : List (Int × Int)}, valV (mkD ms) (.inl q) = (ms.find? fun m => decide (m.1 = q)).map fun m => V.int m.2
  | [] => rfl
  | c :: ms => by
    show valV (((.inl c.1 : Key), V.int c.2) :: mkD ms) _ = _
    by_cases h : c.1 = q
    · rw [h, valV_pos rfl, List.find?_cons, decide_eq_true h]
      rfl
    · rw [valV_neg (fun z => h (Sum.inl.inj z)), List.find?_cons, decide_eq_false h]
      exact mkD_find
theorem goAt_sv {H : Hp} {c : Str} {k q : Int} {r : Rd} {tu : Addr} (h : H tu = some (.tup [.str c, .int k, .int q])) : SvV H ((valV (mkD r.2) (.inl q)).getD (.ref tu)) (goAt c k r q) := by
  rw [mkD_find]
  unfold goAt
  cases r.2.find? fun m => decide (m.1 = q) with
  | none => exact ⟨tu, rfl, h⟩
  | some m => exact (rfl : V.int m.2 = V.int m.2)
theorem seats_at {i k p : Int} : ∀ {b : Nat} {rs : List Rd}, (i, k, p) ∈ seatsFrom b rs → ∃ (m : Nat) (r : Rd), rs[m]? = some r ∧ k = ((b + m : Nat) : Int) ∧ (p, i) ∈ r.2
  | _, [], h => by cases h
  | b, r :: rs, h => by
    rcases List.mem_append.mp h with h | h
    · obtain ⟨c, hc, e⟩ := List.mem_map.mp h
      cases e
      exact ⟨0, r, rfl, rfl, hc⟩
    · obtain ⟨m, r', h1, h2, h3⟩ := seats_at h
      exact ⟨m + 1, r', h1, by rw [h2]; omega, h3⟩
section
variable {P : Program} [PM : PMain P] {w : World} {K : PySem.W.Frag} {mg : Str → Option Value} {base : Heap}
def spNeedT (C CT : Addr) : Sp := fun vs H Q _ => ∃ (x dx t t2 : Addr) (fs : List (Str × V)) (ks : List SI), vs = [.ref x, .ref t2] ∧ H x = some (.ins C dx fs) ∧ List.lookup ("turns" : Str) fs = some (.ref t) ∧ List.lookup ("need_turns" : Str) fs = none ∧ TuAt CT H t ks ∧ TuAt CT H t2 ks ∧ KsOk ks ∧ Q .non H
theorem c_need_turns (T : Txt K mg) : Met P w K mg base 3 (He.ga K "Mechanism") "need_turns" (spNeedT (He.ga K "Mechanism") (He.ga K "Turns")) [] := by
  have c_teq := @c_teq P w K mg base T
  refine metN T.m_Mechanism__need_turns sc_Mechanism_need_turns (fun vs H Q E h => ?_) (fun _ _ _ _ _ _ us hl => match us, hl with | [_, _], _ => rfl) (fun f cdv A outer s H vs Q E hr h => ?_)
  · obtain ⟨x, dx, t, t2, fs, ks, rfl, _⟩ := h
    rfl
  · obtain ⟨x, dx, t, t2, fs, ks, rfl, hx, hf, _, hT, hT2, ok, k⟩ := h
    refine ⟨_, (pss_one (ps_if (pt_cmpR (or_neO c_teq T.n_Turns hr (by first | decide | omega) passL) (pv 1) (pe_fldK K (pv 0) (by rfl)) (nomark _)) (pss_one ps_never) pss_nil)), ?_⟩
    obtain ⟨dta, _, _, _, _, hta, _⟩ := id hT.ex
    obtain ⟨dtb, _, _, _, _, htb, _⟩ := id hT2.ex
    walk_at "g"
    refine ⟨x, _, dx, _, _, rfl, hx, T.k_Mechanism, T.a_Mechanism__turns, hf, ?_⟩
    walk_at "g"
    refine ⟨t2, dtb, _, t, dta, _, rfl, rfl, htb, hta, t2, t, ks, ks, rfl, hT2, hT, ok, ok, ?_⟩
    rw [decide_eq_true rfl]
    refine ⟨true, rfl, false, rfl, ?_⟩
    refine iteF ?_
    walk_at "g"
    exact k
def spStepped (C CT : Addr) : Sp := fun vs H Q _ => ∃ (B : Addr → Prop) (x t dr ds : Addr) (n : Nat) (far : Int) (ks : List SI) (ls ss : List Addr) (R : List (List Rd)) (v : V) (s : MSt) (j : Nat) (c : SI) (rs : List Rd) (e : Int), vs = [.ref x, v, .str c.1, .int e] ∧ MeAt B C H x t dr ds n ks ls ss R ∧ KsOk ks ∧ ShOk far ks n R ∧ n ≤ 10 ∧ ks[j]? = some c ∧ R[j]? = some rs ∧ SvV H v s ∧ SOk n ks R s ∧
  ∀ v' H', Same H H' → SvV H' v' (stepM c.1 rs e s) → Q v' H'
theorem c_stepped (T : Txt K mg) : Met P w K mg base 2 (He.ga K "Mechanism") "stepped" (spStepped (He.ga K "Mechanism") (He.ga K "Turns")) [] := by
  refine metN T.m_Mechanism__stepped sc_Mechanism_stepped (fun vs H Q E h => ?_) (fun _ _ _ _ _ _ us hl => match us, hl with | [_, _, _, _], _ => rfl) (fun f cdv A outer s H vs Q E hr h => ?_)
  · obtain ⟨B, x, t, dr, ds, n, far, ks, ls, ss, R, v, s', j, c, rs, e, rfl, _⟩ := h
    rfl
  · obtain ⟨B, x, t, dr, ds, n, far, ks, ls, ss, R, v, s', j, c, rs, e, rfl, hM, ok, hsh, n10, hc, hrs, hv, hs, k⟩ := h
    refine ⟨_, (pss_cons (ps_if (pt_val (pe_callB call_isi (by rfl) T.b_isinstance (by decide +kernel) (pa_cons (pv 1) (pa_cons (pe_bltn (v := .ty "int") rfl T.b_int (by decide +kernel) rfl) pa_nil)))) (pss_one (ps_asg (pe_dget (hu_of hr) (pe_dget (hu_of hr) (pe_fldK K (pv 0) (by rfl)) (pv 2) (fun _ _ => rfl)) (pv 1) (fun _ _ => rfl)) (pg_tup rfl (pgs_cons (pg_name (i := 4) sc_Mechanism_stepped.nd rfl (Or.inl rfl)) (pgs_cons (pg_name (i := 5) sc_Mechanism_stepped.nd rfl (Or.inl rfl)) pgs_nil))))) (pss_one (ps_if (pt_cmpR op_eq (pe_ix ix_tup (pv 1) pe_int (fun _ _ => rfl)) (pv 2) (nomark _)) (pss_one (ps_asg (pe_slice sl_tupA (pv 1) (po_some pe_int) po_none) (pg_tup rfl (pgs_cons (pg_name (i := 4) sc_Mechanism_stepped.nd rfl (Or.inl rfl)) (pgs_cons (pg_name (i := 5) sc_Mechanism_stepped.nd rfl (Or.inl rfl)) pgs_nil))))) (pss_one (ps_ret (pv 1))))))
      (pss_cons (ps_asg (pe_ix ix_list (pe_dget (hu_of hr) (pe_fldK K (pv 0) (by rfl)) (pv 2) (fun _ _ => rfl)) (pv 4) (fun _ _ => rfl)) (pg_tup rfl (pgs_cons (pg_name (i := 6) sc_Mechanism_stepped.nd rfl (Or.inl rfl)) (pgs_cons (pg_name (i := 7) sc_Mechanism_stepped.nd rfl (Or.inl rfl)) pgs_nil))))
      (pss_cons (ps_set (i := 5) sc_Mechanism_stepped.nd rfl (Or.inl rfl) (pe_op op_mod (pe_op op_add (pv 5) (pv 3)) (pv 6)))
      (pss_one (ps_ret (pe_dget2 (hu_of hr) (pv 7) (pv 5) (pe_tup (pa_cons (pv 2) (pa_cons (pv 4) (pa_cons (pv 5) pa_nil)))) ⟨rfl, rfl, rfl, rfl⟩)))))), ?_⟩
    walk_at "g"
    match s', hv, hs, k with
    | .inl i, hv, hs, k =>
      obtain rfl : v = .int i := hv
      refine ⟨.int i, .ty "int", _, _, true, rfl, .ty "int", .base (.int i), kit_ty (by decide +kernel), true, rfl, ?_⟩
      refine iteT ?_
      obtain ⟨dx, hx⟩ := hM.x
      have rl := hsh.len
      have ll := hM.ll
      have sl := hM.sl
      have hj : j < ks.length := (List.getElem?_eq_some_iff.mp hc).1
      obtain ⟨l, hl⟩ : ∃ l, ls[j]? = some l := ⟨_, List.getElem?_eq_getElem (by omega)⟩
      obtain ⟨s0, hs0⟩ : ∃ s, ss[j]? = some s := ⟨_, List.getElem?_eq_getElem (by omega)⟩
      obtain ⟨⟨us, hus, pus⟩, ⟨vs, hvs, pvs⟩⟩ := hM.at_ j l s0 hl hs0
      rw [hrs] at pus hvs pvs
      have pus : P2 (MrT B H) us rs := pus
      have pvs : P2 (StT H) vs (seatsFrom 0 rs) := pvs
      walk_at "g"
      refine ⟨x, _, dx, _, _, rfl, hx, T.k_Mechanism, T.a_Mechanism__own_seats, rfl, ?_⟩
      walk_at "g"
      refine ⟨ds, .ref s0, rfl, by
        have := DGet.k (k := (.inr c.1 : Key)) hM.ds
        rw [rdK_at ok.nd hc hs0] at this
        exact this, ?_⟩
      walk_at "g"
      obtain ⟨_, rpm, _⟩ := hsh.ok j c rs hc hrs
      have him : i ∈ (seatsFrom 0 rs).map (·.1) := by
        rw [seatsFrom_states]
        refine rpm.mem_iff.mpr (List.mem_map.mpr ⟨i.toNat, List.mem_range.mpr ?_, ?_⟩)
        · have := hs.1
          have := hs.2
          omega
        · exact Int.toNat_of_nonneg hs.1
      obtain ⟨u, k', p', hu1, hu2, hu3⟩ := seK_find pvs him
      obtain ⟨m, r, hr, ek, hmem⟩ : ∃ (m : Nat) (r : Rd), rs[m]? = some r ∧ k' = (m : Int) ∧ (p', i) ∈ r.2 := by
        obtain ⟨e0, he0, ee⟩ := Option.map_eq_some_iff.mp hu2
        have h1 := List.mem_of_find?_eq_some he0
        have h2 := of_decide_eq_true (List.find?_some (p := fun e : Seat => decide (e.1 = i)) he0)
        obtain ⟨a, b⟩ := e0
        have ea : a = i := h2
        rw [ea, show b = (k', p') from ee] at h1
        obtain ⟨m, r, a1, a2, a3⟩ := seats_at h1
        exact ⟨m, r, a1, by rw [a2]; omega, a3⟩
      have est : stepM c.1 rs e (.inl i) = goAt c.1 k' r ((p' + e) % r.1) := by
        show (match seatOf rs i with | some q => goFrom c.1 rs q.1 q.2 e (.inl i) | none => _) = _
        rw [show seatOf rs i = some (k', p') from hu2]
        show goFrom c.1 rs k' p' e (.inl i) = _
        unfold goFrom
        rw [ek, show ((m : Int)).toNat = m by omega, hr]
      rw [est] at k
      refine ⟨s0, .ref u, rfl, by
        have := DGet.k (k := (.inl i : Key)) hvs
        have hu1' : valV (seK (seatsFrom 0 ((some rs).getD [])) vs) (.inl i) = some (.ref u) := hu1
        rw [hu1'] at this
        exact this, ?_⟩
      refine ⟨u, _, rfl, SqT.of hu3, rfl, _, _, rfl, _, _, rfl, rfl, ?_⟩
      walk_at "g"
      subst ek
      obtain ⟨u2, hu2', d, _, hu4, hd⟩ := pus.get hr
      have rok := hsh.all rs (mem_of_at hrs) r (mem_of_at hr)
      have r1 := rok.s1
      refine ⟨x, _, dx, _, _, rfl, hx, T.k_Mechanism, T.a_Mechanism__own_rounds, rfl, ?_⟩
      walk_at "g"
      refine ⟨dr, .ref l, rfl, by
        have := DGet.k (k := (.inr c.1 : Key)) hM.dr
        rw [rdK_at ok.nd hc hl] at this
        exact this, ?_⟩
      walk_at "g"
      refine ⟨l, _, (m : Int), .ref u2, rfl, rfl, SqL.of hus, atI_nat (by rw [List.getElem?_map, hu2']; rfl), ?_⟩
      refine ⟨u2, _, rfl, SqT.of hu4, rfl, _, _, rfl, _, _, rfl, rfl, ?_⟩
      walk_at "g"
      refine ⟨by omega, ?_⟩
      walk_at "g"
      refine ⟨.inl ⟨_, .inl hd⟩, ?_⟩
      walk_at "g"
      refine ⟨by show 3 ≤ sizeLine; decide, fun tu ntu => ?_⟩
      have s2 := same_upd (o := .tup [.str c.1, .int (m : Int), .int ((p' + e) % r.1)]) ntu
      refine ⟨_, DGet.k (k := (.inl ((p' + e) % r.1) : Key)) (s2 _ _ hd), ?_⟩
      exact k _ _ s2 (goAt_sv upd_same)
    | .inr z, hv, hs, k =>
      obtain ⟨u, rfl, hu⟩ := hv
      refine ⟨.ref u, .ty "int", _, _, false, rfl, .ty "int", .base (.tup hu), kit_ty (by decide +kernel), false, rfl, ?_⟩
      refine iteF ?_
      walk_at "g"
      by_cases hz : z.1 = c.1
      · rw [decide_eq_true (congrArg V.str hz)]
        refine iteT ?_
        walk_at "g"
        obtain ⟨j', c', rs', kk, r, hc', hrs', ec, ek, hr, p0, p1, _⟩ := hs
        have ej : j' = j := by
          obtain ⟨a1, b1⟩ := List.getElem?_eq_some_iff.mp hc'
          obtain ⟨a2, b2⟩ := List.getElem?_eq_some_iff.mp hc
          have nd := List.nodup_iff_pairwise_ne.mp ok.nd
          rw [List.pairwise_map, List.pairwise_iff_getElem] at nd
          rcases Nat.lt_trichotomy j' j with h | h | h
          · exact (nd j' j a1 a2 h (by rw [b1, b2, ec, hz])).elim
          · exact h
          · exact (nd j j' a2 a1 h (by rw [b1, b2, ec, hz])).elim
        subst ej
        rw [hrs] at hrs'
        cases hrs'
        have est : stepM c.1 rs e (.inr z) = goAt c.1 z.2.1 r ((z.2.2 + e) % r.1) := by
          show (if z.1 = c.1 then goFrom c.1 rs z.2.1 z.2.2 e (.inr z) else _) = _
          rw [if_pos hz]
          unfold goFrom
          rw [ek, show ((kk : Int)).toNat = kk by omega, hr]
        rw [est] at k
        obtain ⟨dx, hx⟩ := hM.x
        have rl := hsh.len
        have ll := hM.ll
        have sl := hM.sl
        have hj : j' < ks.length := (List.getElem?_eq_some_iff.mp hc).1
        obtain ⟨l, hl⟩ : ∃ l, ls[j']? = some l := ⟨_, List.getElem?_eq_getElem (by omega)⟩
        obtain ⟨s0, hs0⟩ : ∃ s, ss[j']? = some s := ⟨_, List.getElem?_eq_getElem (by omega)⟩
        obtain ⟨⟨us, hus, pus⟩, _⟩ := hM.at_ j' l s0 hl hs0
        rw [hrs] at pus
        have pus : P2 (MrT B H) us rs := pus
        obtain ⟨u2, hu2', d, _, hu4, hd⟩ := pus.get hr
        have rok := hsh.all rs (mem_of_at hrs) r (mem_of_at hr)
        have r1 := rok.s1
        walk_at "g"
        refine ⟨u, _, rfl, SqT.of hu, fun q => absurd q.1 (by show ¬ ((1 : Nat) = 0); decide), fun _ sv nsv => ?_⟩
        have e2 : cutV [V.str z.1, .int z.2.1, .int z.2.2] (some 1) none = [.int z.2.1, .int z.2.2] := rfl
        rw [e2]
        have s2 := same_upd (o := .tup [V.int z.2.1, .int z.2.2]) nsv
        refine ⟨sv, _, rfl, SqT.of upd_same, rfl, _, _, rfl, _, _, rfl, rfl, ?_⟩
        generalize upd H sv (.tup [V.int z.2.1, .int z.2.2]) = H2 at *
        walk_at "g"
        refine ⟨x, _, dx, _, _, rfl, s2 _ _ hx, T.k_Mechanism, T.a_Mechanism__own_rounds, rfl, ?_⟩
        walk_at "g"
        refine ⟨dr, .ref l, rfl, by
          have := DGet.k (k := (.inr c.1 : Key)) (s2 _ _ hM.dr)
          rw [rdK_at ok.nd hc hl] at this
          exact this, ?_⟩
        walk_at "g"
        refine ⟨l, _, z.2.1, .ref u2, rfl, rfl, SqL.of (s2 _ _ hus), by rw [ek]; exact atI_nat (by rw [List.getElem?_map, hu2']; rfl), ?_⟩
        refine ⟨u2, _, rfl, SqT.of (s2 _ _ hu4), rfl, _, _, rfl, _, _, rfl, rfl, ?_⟩
        walk_at "g"
        refine ⟨by omega, ?_⟩
        walk_at "g"
        refine ⟨.inl ⟨_, .inl (s2 _ _ hd)⟩, ?_⟩
        walk_at "g"
        refine ⟨by show 3 ≤ sizeLine; decide, fun tu ntu => ?_⟩
        have s3 := same_upd (o := .tup [.str c.1, .int z.2.1, .int ((z.2.2 + e) % r.1)]) ntu
        refine ⟨_, DGet.k (k := (.inl ((z.2.2 + e) % r.1) : Key)) (s3 _ _ (s2 _ _ hd)), ?_⟩
        exact k _ _ (s2.trans s3) (goAt_sv upd_same)
      · rw [decide_eq_false (fun q => hz (V.str.inj q))]
        refine iteF ?_
        have est : stepM c.1 rs e (.inr z) = .inr z := by
          show (if z.1 = c.1 then _ else _) = _
          rw [if_neg hz]
        rw [est] at k
        walk_at "g"
        exact k _ _ (Same.refl _) ⟨u, rfl, hu⟩
end
end Tr

/-! # Steps keep states (plain). -/
namespace Tr
open PySem L2 TL
/-- steps of a reading that are plain -/
local macro_rules | `(tactic| walk_at "x") => `(tactic| (refine' ⟨_, _, _, _, rfl, rfl, ?k1, ?k2, ?_⟩; (case k1 => exact SqT.of (by assumption)); (case k2 => exact rfl)))
local macro_rules | `(tactic| walk_at "g") => `(tactic| repeat (first | (refine ⟨_, rfl, ?_⟩) | (refine ⟨_, _, rfl, rfl, ?_⟩) | (refine ⟨_, _, rfl, ?_⟩) | (refine ⟨rfl, ?_⟩) | walk_at "x"))


theorem goAt_ok {far : Int} {ks : List SI} {n : Nat} {R : List (List Rd)} {j kk : Nat} {c : SI} {rs : List Rd} {r : Rd} {q : Int} (hsh : ShOk far ks n R) (hc : ks[j]? = some c) (hrs : R[j]? = some rs) (hr : rs[kk]? = some r) : SOk n ks R (goAt c.1 (kk : Int) r (q % r.1)) := by
  have rok := hsh.all rs (mem_of_at hrs) r (mem_of_at hr)
  have r1 := rok.s1
  unfold goAt
  cases h : r.2.find? fun m => decide (m.1 = q % r.1) with
  | some m =>
    have := rok.ps m (List.mem_of_find?_eq_some h)
    exact ⟨this.2.2.1, this.2.2.2⟩
  | none =>
    refine ⟨j, c, rs, kk, r, hc, hrs, rfl, rfl, hr, Int.emod_nonneg _ (by omega), Int.emod_lt_of_pos _ (by omega), fun hm => ?_⟩
    obtain ⟨m, hm, e⟩ := List.mem_map.mp hm
    have := List.find?_eq_none.mp h m hm
    exact this (decide_eq_true e)
theorem stepM_ok {far : Int} {ks : List SI} {n : Nat} {R : List (List Rd)} {j : Nat} {c : SI} {rs : List Rd} {e : Int} {s : MSt} (hsh : ShOk far ks n R) (hc : ks[j]? = some c) (hrs : R[j]? = some rs) (hs : SOk n ks R s) : SOk n ks R (stepM c.1 rs e s) := by
  have go : ∀ (k p : Int), 0 ≤ k → SOk n ks R (goFrom c.1 rs k p e s) := fun k p k0 => by
    unfold goFrom
    cases h : rs[k.toNat]? with
    | none => exact hs
    | some r =>
      have := goAt_ok (q := p + e) hsh hc hrs h
      rw [Int.toNat_of_nonneg k0] at this
      exact this
  match s, hs, go with
  | .inl i, hs, go =>
    show SOk n ks R (match seatOf rs i with | some q => goFrom c.1 rs q.1 q.2 e (.inl i) | none => .inl i)
    cases h : seatOf rs i with
    | none => exact hs
    | some q =>
      refine go q.1 q.2 ?_
      obtain ⟨e0, he0, ee⟩ := Option.map_eq_some_iff.mp h
      obtain ⟨a, k, p⟩ := e0
      obtain ⟨m, r, _, a2, _⟩ := seats_at (List.mem_of_find?_eq_some he0)
      rw [← ee]
      show 0 ≤ k
      omega
  | .inr z, hs, go =>
    show SOk n ks R (if z.1 = c.1 then goFrom c.1 rs z.2.1 z.2.2 e (.inr z) else .inr z)
    by_cases hz : z.1 = c.1
    · rw [if_pos hz]
      obtain ⟨_, _, _, kk, _, _, _, _, ek, _⟩ := id hs
      exact go _ _ (by omega)
    · rw [if_neg hz]
      exact hs
end Tr

/-! # Rows in a mechanism (plain). -/
namespace Tr
open PySem L2 TL
/-- steps of a reading that are plain -/
local macro_rules | `(tactic| walk_at "x") => `(tactic| (refine' ⟨_, _, _, _, rfl, rfl, ?k1, ?k2, ?_⟩; (case k1 => exact SqT.of (by assumption)); (case k2 => exact rfl)))
local macro_rules | `(tactic| walk_at "g") => `(tactic| repeat (first | (refine ⟨_, rfl, ?_⟩) | (refine ⟨_, _, rfl, rfl, ?_⟩) | (refine ⟨_, _, rfl, ?_⟩) | (refine ⟨rfl, ?_⟩) | walk_at "x"))


theorem find_nd {α : Type} (f : α → Int) : ∀ {l : List α} {a : α}, (l.map f).Nodup → a ∈ l → l.find? (fun e => decide (f e = f a)) = some a
  | [], _, _, h => by cases h
  | b :: l, a, nd, h => by
    obtain ⟨n1, n2⟩ := List.nodup_cons.mp nd
    rcases List.mem_cons.mp h with rfl | h
    · rw [List.find?_cons, decide_eq_true rfl]
    · have : f b ≠ f a := fun e => n1 (by
        show f b ∈ l.map f
        rw [e]
        exact List.mem_map.mpr ⟨a, h, rfl⟩)
      rw [List.find?_cons, decide_eq_false this]
      exact find_nd f n2 h
theorem nodup_ints (n : Nat) : ((List.range n).map fun i : Nat => (i : Int)).Nodup := by
  rw [List.nodup_iff_pairwise_ne, List.pairwise_map]
  exact (List.nodup_iff_pairwise_ne.mp List.nodup_range).imp fun h e => h (by omega)
theorem seats_mem {i p : Int} : ∀ {b m : Nat} {rs : List Rd} {r : Rd}, rs[m]? = some r → (p, i) ∈ r.2 → (i, ((b + m : Nat) : Int), p) ∈ seatsFrom b rs
  | _, _, [], _, h, _ => by simp at h
  | b, 0, q :: rs, r, h, hm => by
    cases h
    exact List.mem_append.mpr (.inl (List.mem_map.mpr ⟨(p, i), hm, rfl⟩))
  | b, m + 1, q :: rs, r, h, hm => by
    have := seats_mem (b := b + 1) (m := m) (rs := rs) (r := r) (by simpa using h) hm
    rw [show b + 1 + m = b + (m + 1) by omega] at this
    exact List.mem_append.mpr (.inr this)
/-- where a state sits for the turn c -/
def posM (c : Str) (rs : List Rd) : MSt → Option (Int × Int)
  | .inl i => seatOf rs i
  | .inr z => if z.1 = c then some z.2 else none
theorem stepM_pos (c : Str) (rs : List Rd) (e : Int) (s : MSt) : stepM c rs e s = match posM c rs s with | some q => goFrom c rs q.1 q.2 e s | none => s := by
  match s with
  | .inl i => rfl
  | .inr z =>
    show (if z.1 = c then _ else _) = match (if z.1 = c then some z.2 else none) with | some q => goFrom c rs q.1 q.2 e (.inr z) | none => .inr z
    by_cases h : z.1 = c
    · rw [if_pos h, if_pos h]
    · rw [if_neg h, if_neg h]
theorem stepM_at {c : Str} {rs : List Rd} {e : Int} {s : MSt} {kk : Nat} {p : Int} {r : Rd} (h : posM c rs s = some ((kk : Int), p)) (hr : rs[kk]? = some r) : stepM c rs e s = goAt c (kk : Int) r ((p + e) % r.1) := by
  rw [stepM_pos, h]
  show goFrom c rs (kk : Int) p e s = _
  unfold goFrom
  rw [show ((kk : Int)).toNat = kk by omega, hr]
theorem stepM_none {c : Str} {rs : List Rd} {e : Int} {s : MSt} (h : posM c rs s = none) : stepM c rs e s = s := by rw [stepM_pos, h]
theorem nd_at {ks : List SI} (nd : Nds ks) {i j : Nat} {c d : SI} (hc : ks[i]? = some c) (hd : ks[j]? = some d) (e : c.1 = d.1) : i = j := by
  obtain ⟨a1, b1⟩ := List.getElem?_eq_some_iff.mp hc
  obtain ⟨a2, b2⟩ := List.getElem?_eq_some_iff.mp hd
  have nd := List.nodup_iff_pairwise_ne.mp nd
  rw [List.pairwise_map, List.pairwise_iff_getElem] at nd
  rcases Nat.lt_trichotomy i j with h | h | h
  · exact (nd i j a1 a2 h (by rw [b1, b2, e])).elim
  · exact h
  · exact (nd j i a2 a1 h (by rw [b1, b2, e])).elim
section
variable {far : Int} {ks : List SI} {n : Nat} {R : List (List Rd)} {j : Nat} {c : SI} {rs : List Rd} {s : MSt}
theorem seats_nd (hsh : ShOk far ks n R) (hc : ks[j]? = some c) (hrs : R[j]? = some rs) : ((seatsFrom 0 rs).map (·.1)).Nodup := by
  rw [seatsFrom_states]
  exact (hsh.ok j c rs hc hrs).2.1.nodup_iff.mpr (nodup_ints n)
theorem seat_of (hsh : ShOk far ks n R) (hc : ks[j]? = some c) (hrs : R[j]? = some rs) {kk : Nat} {r : Rd} {p i : Int} (hr : rs[kk]? = some r) (hm : (p, i) ∈ r.2) : seatOf rs i = some ((kk : Int), p) := by
  unfold seatOf
  have h1 := seats_mem (b := 0) hr hm
  have h2 := find_nd (fun e : Seat => e.1) (seats_nd hsh hc hrs) h1
  dsimp only at h2
  rw [h2]
  show some (((0 + kk : Nat) : Int), p) = _
  rw [Nat.zero_add]
theorem pos_goAt (hsh : ShOk far ks n R) (hc : ks[j]? = some c) (hrs : R[j]? = some rs) {kk : Nat} {r : Rd} {p : Int} (hr : rs[kk]? = some r) : posM c.1 rs (goAt c.1 (kk : Int) r p) = some ((kk : Int), p) := by
  unfold goAt
  cases h : r.2.find? fun m => decide (m.1 = p) with
  | some m =>
    have h1 := List.mem_of_find?_eq_some h
    have h2 := of_decide_eq_true (List.find?_some (p := fun m : Int × Int => decide (m.1 = p)) h)
    obtain ⟨a, b⟩ := m
    obtain rfl : a = p := h2
    exact seat_of hsh hc hrs hr h1
  | none =>
    show (if c.1 = c.1 then some ((kk : Int), p) else none) = _
    rw [if_pos rfl]
theorem pos_ok (ok : Nds ks) (hsh : ShOk far ks n R) (hc : ks[j]? = some c) (hrs : R[j]? = some rs) (hs : SOk n ks R s) {q : Int × Int} (h : posM c.1 rs s = some q) : ∃ (kk : Nat) (r : Rd), q.1 = (kk : Int) ∧ rs[kk]? = some r ∧ 0 ≤ q.2 ∧ q.2 < r.1 ∧ goAt c.1 (kk : Int) r q.2 = s := by
  match s, hs, h with
  | .inl i, hs, h =>
    obtain ⟨e0, he0, ee⟩ := Option.map_eq_some_iff.mp (show ((seatsFrom 0 rs).find? fun e => decide (e.1 = i)).map (·.2) = some q from h)
    have h1 := List.mem_of_find?_eq_some he0
    have h2 := of_decide_eq_true (List.find?_some (p := fun e : Seat => decide (e.1 = i)) he0)
    obtain ⟨a, b, d⟩ := e0
    obtain rfl : a = i := h2
    cases ee
    obtain ⟨m, r, a1, a2, a3⟩ := seats_at h1
    have rok := hsh.all rs (mem_of_at hrs) r (mem_of_at a1)
    have := rok.ps _ a3
    refine ⟨m, r, by show b = _; rw [a2]; omega, a1, this.1, this.2.1, ?_⟩
    unfold goAt
    have h3 := find_nd (fun e : Int × Int => e.1) rok.nd a3
    dsimp only at h3 ⊢
    rw [h3]
  | .inr z, hs, h =>
    have h : (if z.1 = c.1 then some z.2 else none) = some q := h
    by_cases hz : z.1 = c.1
    · rw [if_pos hz] at h
      cases h
      obtain ⟨j', c', rs', kk, r, hc', hrs', ec, ek, hr, p0, p1, hn⟩ := hs
      obtain rfl := nd_at ok hc' hc (ec.trans hz)
      rw [hrs] at hrs'
      cases hrs'
      refine ⟨kk, r, ek, hr, p0, p1, ?_⟩
      unfold goAt
      have : r.2.find? (fun m => decide (m.1 = z.2.2)) = none := List.find?_eq_none.mpr fun m hm h => hn (by
        rw [← of_decide_eq_true h]
        exact List.mem_map.mpr ⟨m, hm, rfl⟩)
      rw [this]
      show (.inr (c.1, (kk : Int), z.2.2) : MSt) = _
      rw [← hz, ← ek]
    · rw [if_neg hz] at h
      cases h
theorem stepM_zero (ok : Nds ks) (hsh : ShOk far ks n R) (hc : ks[j]? = some c) (hrs : R[j]? = some rs) (hs : SOk n ks R s) : stepM c.1 rs 0 s = s := by
  cases h : posM c.1 rs s with
  | none => exact stepM_none h
  | some q =>
    obtain ⟨kk, r, e1, hr, p0, p1, e2⟩ := pos_ok ok hsh hc hrs hs h
    obtain ⟨a, b⟩ := q
    obtain rfl : a = (kk : Int) := e1
    rw [stepM_at h hr, Int.add_zero, Int.emod_eq_of_lt p0 p1]
    exact e2
theorem stepM_add (ok : Nds ks) (hsh : ShOk far ks n R) (hc : ks[j]? = some c) (hrs : R[j]? = some rs) (hs : SOk n ks R s) (d e : Int) : stepM c.1 rs e (stepM c.1 rs d s) = stepM c.1 rs (d + e) s := by
  cases h : posM c.1 rs s with
  | none => rw [stepM_none h, stepM_none h, stepM_none h]
  | some q =>
    obtain ⟨kk, r, e1, hr, p0, p1, e2⟩ := pos_ok ok hsh hc hrs hs h
    obtain ⟨a, b⟩ := q
    obtain rfl : a = (kk : Int) := e1
    rw [stepM_at (e := d) h hr, stepM_at (e := d + e) h hr, stepM_at (pos_goAt hsh hc hrs hr) hr, Int.emod_add_emod, Int.add_assoc]
theorem stepM_mod (ok : Nds ks) (hsh : ShOk far ks n R) (hc : ks[j]? = some c) (hrs : R[j]? = some rs) (hs : SOk n ks R s) (e : Int) : stepM c.1 rs (modN (perOf ks) c.1 e) s = stepM c.1 rs e s := by
  have hp := perOf_of ok (mem_of_at hc)
  unfold modN
  rw [hp]
  split
  · cases h : posM c.1 rs s with
    | none => rw [stepM_none h, stepM_none h]
    | some q =>
      obtain ⟨kk, r, e1, hr, p0, p1, e2⟩ := pos_ok ok hsh hc hrs hs h
      obtain ⟨a, b⟩ := q
      obtain rfl : a = (kk : Int) := e1
      have hd := ((hsh.ok j c rs hc hrs).1.ok r (mem_of_at hr)).2.1
      rw [stepM_at h hr, stepM_at h hr]
      congr 1
      rw [← Int.add_emod_emod, Int.emod_emod_of_dvd e (Int.dvd_of_emod_eq_zero hd), Int.add_emod_emod]
  · rfl
end
/-- the rounds of a turn -/
def rsOf (ks : List SI) (R : List (List Rd)) (z : Str) : List Rd := (((ks.zip R).find? fun e => decide (e.1.1 = z)).map (·.2)).getD []
theorem rsOf_at : ∀ {ks : List SI} {R : List (List Rd)} {j : Nat} {c : SI} {rs : List Rd}, Nds ks → ks[j]? = some c → R[j]? = some rs → rsOf ks R c.1 = rs
  | [], _, _, _, _, _, h, _ => by simp at h
  | _ :: _, [], _, _, _, _, _, h => by simp at h
  | d :: ks, q :: R, 0, c, rs, _, h, h2 => by
    cases h
    cases h2
    unfold rsOf
    rw [List.zip_cons_cons, List.find?_cons, decide_eq_true rfl]
    rfl
  | d :: ks, q :: R, j + 1, c, rs, nd, h, h2 => by
    have h : ks[j]? = some c := by simpa using h
    have nd' : (d.1 :: ks.map (·.1)).Nodup := nd
    obtain ⟨n1, n2⟩ := List.nodup_cons.mp nd'
    have ne : d.1 ≠ c.1 := fun e => n1 (by rw [e]; exact List.mem_map.mpr ⟨c, mem_of_at h, rfl⟩)
    have ih := rsOf_at (ks := ks) (R := R) (j := j) n2 h (by simpa using h2)
    unfold rsOf at ih ⊢
    rw [List.zip_cons_cons, List.find?_cons, decide_eq_false ne]
    exact ih
def stM (ks : List SI) (R : List (List Rd)) (s : MSt) (c : SI) : MSt := stepM c.1 (rsOf ks R c.1) c.2 s
/-- where a row leads -/
def ledM (ks : List SI) (R : List (List Rd)) (s : MSt) (x : List SI) : MSt := x.foldl (stM ks R) s
theorem ledM_app (ks : List SI) (R : List (List Rd)) (s : MSt) (x y : List SI) : ledM ks R s (x ++ y) = ledM ks R (ledM ks R s x) y := List.foldl_append ..
section
variable {far : Int} {ks : List SI} {n : Nat} {R : List (List Rd)} {s : MSt}
theorem in_at (hsh : ShOk far ks n R) (nd : Nds ks) {z : Str} (h : ∃ k ∈ ks, k.1 = z) : ∃ (j : Nat) (c : SI) (rs : List Rd), ks[j]? = some c ∧ R[j]? = some rs ∧ c.1 = z ∧ rsOf ks R z = rs := by
  obtain ⟨c, hc, rfl⟩ := h
  obtain ⟨j, hj, e⟩ := List.getElem_of_mem hc
  have rl := hsh.len
  have h1 : ks[j]? = some c := by rw [← e]; exact List.getElem?_eq_getElem hj
  have h2 : R[j]? = some (R[j]'(by omega)) := List.getElem?_eq_getElem (by omega)
  exact ⟨j, c, _, h1, h2, rfl, rsOf_at nd h1 h2⟩
theorem stM_ok (hsh : ShOk far ks n R) (nd : Nds ks) {c : SI} (h : ∃ k ∈ ks, k.1 = c.1) (hs : SOk n ks R s) : SOk n ks R (stM ks R s c) := by
  obtain ⟨j, d, rs, h1, h2, e, e2⟩ := in_at hsh nd h
  unfold stM
  rw [e2, ← e]
  exact stepM_ok hsh h1 h2 hs
theorem ledM_ok (hsh : ShOk far ks n R) (nd : Nds ks) : ∀ {x : List SI} {s : MSt}, InK ks x → SOk n ks R s → SOk n ks R (ledM ks R s x)
  | [], _, _, hs => hs
  | c :: x, s, h, hs => ledM_ok hsh nd (x := x) (fun d hd => h d (List.mem_cons_of_mem _ hd)) (stM_ok hsh nd (h c List.mem_cons_self) hs)
theorem led_put (hsh : ShOk far ks n R) (nd : Nds ks) {x : List SI} {z : Str} {m : Int} (hx : InK ks x) (hz : ∃ k ∈ ks, k.1 = z) (hs : SOk n ks R s) : ledM ks R s (putN x z m) = stM ks R (ledM ks R s x) (z, m) := by
  unfold putN
  split
  · rename_i e
    subst e
    obtain ⟨j, d, rs, h1, h2, rfl, e2⟩ := in_at hsh nd hz
    unfold stM
    dsimp only
    rw [e2]
    exact (stepM_zero nd hsh h1 h2 (ledM_ok hsh nd hx hs)).symm
  · rw [ledM_app]
    rfl
theorem in_put {x : List SI} {z : Str} {m : Int} (hx : InK ks x) (hz : ∃ k ∈ ks, k.1 = z) : InK ks (putN x z m) := by
  unfold putN
  split
  · exact hx
  · intro c hc
    rcases List.mem_append.mp hc with h | h
    · exact hx c h
    · rw [List.mem_singleton.mp h]
      exact hz
theorem in_of_put {x : List SI} {z : Str} {m : Int} (h : InK ks (putN x z m)) : InK ks x := by
  unfold putN at h
  split at h
  · exact h
  · exact fun c hc => h c (List.mem_append.mpr (.inl hc))
theorem led_step (hsh : ShOk far ks n R) (nd : Nds ks) {N : List SI} (hN : Nf (perOf ks) N) (hi : InK ks N) {c : SI} (hc : ∃ k ∈ ks, k.1 = c.1) (hs : SOk n ks R s) : InK ks (stepN (perOf ks) N c) ∧ ledM ks R s (stepN (perOf ks) N c) = stM ks R (ledM ks R s N) c := by
  obtain ⟨M, f, h1, h2, h3, rfl⟩ := nf_view hN c.1
  obtain ⟨z, e⟩ := c
  have hM := in_of_put hi
  rw [step_put e h2]
  refine ⟨in_put hM hc, ?_⟩
  rw [led_put hsh nd hM hc hs, led_put hsh nd hM hc hs]
  obtain ⟨j, d, rs, a1, a2, rfl, e2⟩ := in_at hsh nd hc
  have hs2 := ledM_ok hsh nd hM hs
  unfold stM
  dsimp only
  rw [e2, stepM_mod nd hsh a1 a2 hs2, stepM_add nd hsh a1 a2 hs2, Int.add_comm]
theorem led_act (hsh : ShOk far ks n R) (nd : Nds ks) (hs : SOk n ks R s) : ∀ {x N : List SI}, Nf (perOf ks) N → InK ks N → InK ks x → ledM ks R s (actN (perOf ks) N x) = ledM ks R (ledM ks R s N) x
  | [], _, _, _, _ => rfl
  | c :: x, N, hN, hi, hx => by
    have hc := hx c List.mem_cons_self
    obtain ⟨a, b⟩ := led_step hsh nd hN hi hc hs
    show ledM ks R s (actN (perOf ks) (stepN (perOf ks) N c) x) = ledM ks R (stM ks R (ledM ks R s N) c) x
    rw [led_act hsh nd hs (nf_step hN c) a (fun d hd => hx d (List.mem_cons_of_mem _ hd)), b]
theorem led_norm (hsh : ShOk far ks n R) (nd : Nds ks) (hs : SOk n ks R s) {x : List SI} (hx : InK ks x) : ledM ks R s (normL (perOf ks) x) = ledM ks R s x := led_act hsh nd hs (N := []) trivial (fun c hc => nomatch hc) hx
theorem led_back (hsh : ShOk far ks n R) (nd : Nds ks) : ∀ {x : List SI} {s : MSt}, InK ks x → SOk n ks R s → ledM ks R (ledM ks R s x) (backL x) = s
  | [], _, _, _ => rfl
  | c :: x, s, hx, hs => by
    have hc := hx c List.mem_cons_self
    have hx' : InK ks x := fun d hd => hx d (List.mem_cons_of_mem _ hd)
    have e : backL (c :: x) = backL x ++ [(c.1, -c.2)] := by rw [show c :: x = [c] ++ x from rfl, backL_app]; rfl
    rw [e, ledM_app]
    show stM ks R (ledM ks R (ledM ks R (stM ks R s c) x) (backL x)) (c.1, -c.2) = s
    rw [led_back hsh nd hx' (stM_ok hsh nd hc hs)]
    obtain ⟨j, d, rs, a1, a2, ec, e2⟩ := in_at hsh nd hc
    unfold stM
    dsimp only
    rw [e2, ← ec, stepM_add nd hsh a1 a2 hs, Int.add_right_neg, stepM_zero nd hsh a1 a2 hs]
end
end Tr

/-! # Mechanism.reached, is_empty, need_state, led (valid case). -/
namespace Tr
open PySem L2 TL
/-- steps of a reading that are plain -/
local macro_rules | `(tactic| walk_at "x") => `(tactic| (refine' ⟨_, _, _, _, rfl, rfl, ?k1, ?k2, ?_⟩; (case k1 => exact SqT.of (by assumption)); (case k2 => exact rfl)))
local macro_rules | `(tactic| walk_at "g") => `(tactic| repeat (first | (refine ⟨_, rfl, ?_⟩) | (refine ⟨_, _, rfl, rfl, ?_⟩) | (refine ⟨_, _, rfl, ?_⟩) | (refine ⟨rfl, ?_⟩) | walk_at "x"))


theorem isW_tup {K : PySem.W.Frag} {H : Hp} {u : Addr} {xs : List V} (h : H u = some (.tup xs)) : IsW K H (.ref u) false := ⟨_, false, false, .base (.tup h), kit_ty (by decide +kernel), kit_ty (by decide +kernel), rfl⟩
section
variable {P : Program} [PM : PMain P] {w : World} {K : PySem.W.Frag} {mg : Str → Option Value} {base : Heap}
def spReached (CR C CT : Addr) : Sp := fun vs H Q _ => ∃ (B : Addr → Prop) (x t dr ds a t2 : Addr) (n : Nat) (far : Int) (ks rw : List SI) (ls ss : List Addr) (R : List (List Rd)) (v : V) (s : MSt), vs = [.ref x, v, .ref a] ∧ MeAt B C H x t dr ds n ks ls ss R ∧ KsOk ks ∧ ShOk far ks n R ∧ n ≤ 10 ∧ RwAt CR CT H a t2 ks rw ∧ SvV H v s ∧ SOk n ks R s ∧
  ∀ v' H', Same H H' → SvV H' v' (ledM ks R s rw) → SOk n ks R (ledM ks R s rw) → Q v' H'
theorem c_reached (T : Txt K mg) : Met P w K mg base 3 (He.ga K "Mechanism") "reached" (spReached (He.ga K "Row") (He.ga K "Mechanism") (He.ga K "Turns")) [] := by
  have c_stepped := @c_stepped P PM w K mg base T
  refine metN T.m_Mechanism__reached sc_Mechanism_reached (fun vs H Q E h => ?_) (fun _ _ _ _ _ _ us hl => match us, hl with | [_, _, _], _ => rfl) (fun f cdv A outer s H vs Q E hr h => ?_)
  · obtain ⟨B, x, t, dr, ds, a, t2, n, far, ks, rw, ls, ss, R, v, s, rfl, _⟩ := h
    rfl
  · obtain ⟨B, x, t, dr, ds, a, t2, n, far, ks, rw, ls, ss, R, v, s0, rfl, hM, ok, hsh, n10, hR, hv, hs, k⟩ := h
    refine ⟨_, (pss_cons (ps_for PassesOwn.never rfl (pi_tup (pe_fld (pv 2) rfl)) (pg_tup rfl (pgs_cons (pg_name (i := 3) sc_Mechanism_reached.nd rfl (Or.inl rfl)) (pgs_cons (pg_name (i := 4) sc_Mechanism_reached.nd rfl (Or.inl rfl)) pgs_nil))) (pss_one (ps_set (i := 1) sc_Mechanism_reached.nd rfl (Or.inl rfl) (pe_mtx c_stepped hr (by first | decide | omega) passL (pv 0) (pa_cons (pv 1) (pa_cons (pv 3) (pa_cons (pv 4) pa_nil)))))))
      (pss_one (ps_ret (pv 1)))), ?_⟩
    obtain ⟨dx, st, ky, kk, pp, ys, ha, ⟨ts, hst, pst⟩, _⟩ := id hR.ex
    obtain ⟨dm, hx⟩ := hM.x
    have tl := pst.len
    walk_at "g"
    refine ⟨a, _, dx, _, _, rfl, ha, T.k_Row, T.a_Row__steps, rfl, ?_⟩
    walk_at "g"
    refine ⟨⟨_, SqT.of hst⟩, ?_⟩
    refine for_it (walk_tup (K := K) (xs := ts.map V.ref)) (fun i σ H' => ∃ (v' : V) (v3 v4 : Option V), σ = [some (.ref x), some v', some (.ref a), v3, v4] ∧ Same H H' ∧ SvV H' v' (ledM ks R s0 (rw.take i)) ∧ SOk n ks R (ledM ks R s0 (rw.take i))) ⟨_, _, _, rfl, Same.refl _, hv, hs⟩ ?_ ?_ ?_
    · rintro i σ H' _ ⟨_, _, _, _, s', _⟩
      exact SqT.of (s' _ _ hst)
    · rintro i y σ H2 H2' hi ⟨v', v3, v4, rfl, s2, hv2, hs2⟩ ⟨rfl, hy⟩
      rw [List.getElem?_map] at hy
      obtain ⟨u, hu, rfl⟩ := Option.map_eq_some_iff.mp hy
      obtain ⟨c, hc, hut⟩ := pst.getl hu
      obtain ⟨j, d, rs, h1, h2, ed, er⟩ := in_at hsh ok.nd (hR.nm c (mem_of_at hc))
      refine ⟨u, _, rfl, SqT.of (s2 _ _ hut), rfl, _, _, rfl, _, _, rfl, rfl, ?_⟩
      walk_at "g"
      refine ⟨x, dm, _, rfl, s2 _ _ hx, rfl, ?_⟩
      walk_at "g"
      refine ⟨B, x, t, dr, ds, n, far, ks, ls, ss, R, _, _, j, d, rs, c.2, by rw [ed]; rfl, hM.same s2, ok, hsh, n10, h1, h2, hv2, hs2, fun v3 H3 s3 hv3 => ?_⟩
      have ok3 := stM_ok hsh ok.nd (hR.nm c (mem_of_at hc)) hs2
      have e3 : stepM d.1 rs c.2 (ledM ks R s0 (rw.take i)) = ledM ks R s0 (rw.take (i + 1)) := by
        rw [take_snoc hc, ledM_app]
        show _ = stM ks R _ c
        unfold stM
        rw [er, ed]
      have e4 : stM ks R (ledM ks R s0 (rw.take i)) c = ledM ks R s0 (rw.take (i + 1)) := by
        rw [take_snoc hc, ledM_app]
        rfl
      rw [e3] at hv3
      rw [e4] at ok3
      exact ⟨_, _, _, rfl, s2.trans s3, hv3, ok3⟩
    · rintro σ H2 ⟨v', v3, v4, rfl, s2, hv2, hs2⟩
      rw [List.length_map, tl, List.take_length] at hv2 hs2
      walk_at "g"
      exact k _ _ s2 hv2 hs2
def spIsEmpty (C CT : Addr) : Sp := fun vs H Q _ => ∃ (B : Addr → Prop) (x t dr ds u : Addr) (n : Nat) (far : Int) (ks : List SI) (ls ss : List Addr) (R : List (List Rd)) (z : Str × Int × Int), vs = [.ref x, .ref u] ∧ MeAt B C H x t dr ds n ks ls ss R ∧ TuAt CT H t ks ∧ KsOk ks ∧ ShOk far ks n R ∧ n ≤ 10 ∧ SvV H (.ref u) (.inr z) ∧ SOk n ks R (.inr z) ∧ Q (.bl true) H
theorem c_is_empty (T : Txt K mg) : Met P w K mg base 2 (He.ga K "Mechanism") "is_empty" (spIsEmpty (He.ga K "Mechanism") (He.ga K "Turns")) [] := by
  have c_tin := @c_tin P w K mg base T
  have c_is_whole := @c_is_whole P w K mg base T
  refine metN T.m_Mechanism__is_empty sc_Mechanism_is_empty (fun vs H Q E h => ?_) (fun _ _ _ _ _ _ us hl => match us, hl with | [_, _], _ => rfl) (fun f cdv A outer s H vs Q E hr h => ?_)
  · obtain ⟨B, x, t, dr, ds, u, n, far, ks, ls, ss, R, z, rfl, _⟩ := h
    rfl
  · obtain ⟨B, x, t, dr, ds, u, n, far, ks, ls, ss, R, z, rfl, hM, hT, ok, hsh, n10, hv, hs, k⟩ := h
    refine ⟨_, (pss_cons (ps_if (PW.pt (pw_or (pt_not (pt_val (pe_callB call_isi (by rfl) T.b_isinstance (by decide +kernel) (pa_cons (pv 1) (pa_cons (pe_bltn (v := .ty "tuple") rfl T.b_tuple (by decide +kernel) rfl) pa_nil))))) (pw_or (pt_cmpR op_ne (pe_callB call_len (by rfl) T.b_len (by decide +kernel) (pa_cons (pv 1) pa_nil)) pe_int (nomark _)) (pw_or1 (pt_cmpR (or_notInO c_tin hr (by first | decide | omega) passL) (pe_ix ix_tup (pv 1) pe_int (fun _ _ => rfl)) (pe_fldK K (pv 0) (by rfl)) (by rfl)))))) (pss_one (ps_ret pe_bl)) pss_nil)
      (pss_cons (ps_set (i := 2) sc_Mechanism_is_empty.nd rfl (Or.inl rfl) (pe_dget (hu_of hr) (pe_fldK K (pv 0) (by rfl)) (pe_ix ix_tup (pv 1) pe_int (fun _ _ => rfl)) (fun _ _ => rfl)))
      (pss_cons (ps_if (PW.pt (pw_or (pt_not (pt_val (pe_cx c_is_whole hr (by first | decide | omega) rfl passL (pa_cons (pe_ix ix_tup (pv 1) pe_int (fun _ _ => rfl)) pa_nil)))) (pw_or (pt_not (pt_chain op_le op_lt pe_int (pe_ix ix_tup (pv 1) pe_int (fun _ _ => rfl)) (pe_callB call_len (by rfl) T.b_len (by decide +kernel) (pa_cons (pv 2) pa_nil)))) (pw_or1 (pt_not (pt_val (pe_cx c_is_whole hr (by first | decide | omega) rfl passL (pa_cons (pe_ix ix_tup (pv 1) pe_int (fun _ _ => rfl)) pa_nil)))))))) (pss_one (ps_ret pe_bl)) pss_nil)
      (pss_cons (ps_asg (pe_ix ix_list (pv 2) (pe_ix ix_tup (pv 1) pe_int (fun _ _ => rfl)) (fun _ _ => rfl)) (pg_tup rfl (pgs_cons (pg_name (i := 3) sc_Mechanism_is_empty.nd rfl (Or.inl rfl)) (pgs_cons (pg_name (i := 4) sc_Mechanism_is_empty.nd rfl (Or.inl rfl)) pgs_nil))))
      (pss_one (ps_ret (pe_and (pe_chain op_le op_lt pe_int (pe_ix ix_tup (pv 1) pe_int (fun _ _ => rfl)) (pv 3)) (pe_one (pe_cmp (pc_dnotin (hu_of hr) (pe_ix ix_tup (pv 1) pe_int (fun _ _ => rfl)) (pv 4)) rfl))))))))), ?_⟩
    obtain ⟨u', eu, hu⟩ := hv
    cases eu
    obtain ⟨dm, hx⟩ := hM.x
    obtain ⟨dt, p1, p2, p3, p4, ht, _⟩ := id hT.ex
    obtain ⟨j, c, rs, kk, r, hc, hrs, ec, ek, hr', p0, p1', hn⟩ := hs
    have ll := hM.ll
    have sl := hM.sl
    have rl := hsh.len
    have hj : j < ks.length := (List.getElem?_eq_some_iff.mp hc).1
    obtain ⟨l, hl⟩ : ∃ l, ls[j]? = some l := ⟨_, List.getElem?_eq_getElem (by omega)⟩
    obtain ⟨s0, hs0⟩ : ∃ s, ss[j]? = some s := ⟨_, List.getElem?_eq_getElem (by omega)⟩
    obtain ⟨⟨us, hus, pus⟩, _⟩ := hM.at_ j l s0 hl hs0
    rw [hrs] at pus
    have pus : P2 (MrT B H) us rs := pus
    have ul := pus.len
    obtain ⟨u2, hu2', d, _, hu4, hd⟩ := pus.get hr'
    have hk : kk < rs.length := (List.getElem?_eq_some_iff.mp hr').1
    walk_at "g"
    refine ⟨.ref u, .ty "tuple", _, _, true, rfl, .ty "tuple", .base (.tup hu), kit_ty (by decide +kernel), true, rfl, ?_⟩
    refine iteF ?_
    walk_at "g"
    refine ⟨_, _, rfl, .inr ⟨_, SqT.of hu, rfl⟩, ?_⟩
    walk_at "g"
    refine ⟨x, _, dm, _, _, rfl, hx, T.k_Mechanism, T.a_Mechanism__turns, rfl, ?_⟩
    walk_at "g"
    refine ⟨t, dt, _, rfl, ht, t, _, ks, rfl, hT, .inl ⟨z.1, rfl, ?_⟩⟩
    rw [hasS_of ⟨c, mem_of_at hc, ec⟩]
    refine ⟨true, rfl, false, rfl, ?_⟩
    refine iteF ?_
    walk_at "g"
    refine ⟨x, _, dm, _, _, rfl, hx, T.k_Mechanism, T.a_Mechanism__own_rounds, rfl, ?_⟩
    walk_at "g"
    refine ⟨dr, .ref l, rfl, by
      have := DGet.k (k := (.inr c.1 : Key)) hM.dr
      rw [rdK_at ok.nd hc hl, ec] at this
      exact this, ?_⟩
    walk_at "g"
    refine ⟨_, _, rfl, isW_int _, ?_⟩
    walk_at "g"
    rw [decide_eq_true (show (0 : Int) ≤ z.2.1 by omega)]
    refine iteT ?_
    walk_at "g"
    refine ⟨_, _, rfl, .inl ⟨_, SqL.of hus, rfl⟩, ?_⟩
    rw [List.length_map, ul]
    walk_at "g"
    rw [decide_eq_true (show z.2.1 < ((rs.length : Nat) : Int) by omega)]
    walk_at "g"
    refine ⟨_, _, rfl, isW_int _, ?_⟩
    walk_at "g"
    refine ⟨l, _, z.2.1, .ref u2, rfl, rfl, SqL.of hus, by rw [ek]; exact atI_nat (by rw [List.getElem?_map, hu2']; rfl), ?_⟩
    refine ⟨u2, _, rfl, SqT.of hu4, rfl, _, _, rfl, _, _, rfl, rfl, ?_⟩
    walk_at "g"
    rw [decide_eq_true p0]
    refine iteT ?_
    walk_at "g"
    rw [decide_eq_true p1']
    walk_at "g"
    refine ⟨d, _, rfl, DGet.k (k := (.inl z.2.2 : Key)) hd, ?_⟩
    rw [valV_mkD, decide_eq_false hn]
    exact k
def spNeedSt (C CT : Addr) : Sp := fun vs H Q _ => ∃ (B : Addr → Prop) (x t dr ds : Addr) (n : Nat) (far : Int) (ks : List SI) (ls ss : List Addr) (R : List (List Rd)) (v : V) (s : MSt), vs = [.ref x, v] ∧ MeAt B C H x t dr ds n ks ls ss R ∧ TuAt CT H t ks ∧ KsOk ks ∧ ShOk far ks n R ∧ n ≤ 10 ∧ SvV H v s ∧ SOk n ks R s ∧ Q .non H
theorem c_need_state (T : Txt K mg) : Met P w K mg base 3 (He.ga K "Mechanism") "need_state" (spNeedSt (He.ga K "Mechanism") (He.ga K "Turns")) [] := by
  have c_is_empty := @c_is_empty P PM w K mg base T
  have c_is_whole := @c_is_whole P w K mg base T
  refine metN T.m_Mechanism__need_state sc_Mechanism_need_state (fun vs H Q E h => ?_) (fun _ _ _ _ _ _ us hl => match us, hl with | [_, _], _ => rfl) (fun f cdv A outer s H vs Q E hr h => ?_)
  · obtain ⟨B, x, t, dr, ds, n, far, ks, ls, ss, R, v, s, rfl, _⟩ := h
    rfl
  · obtain ⟨B, x, t, dr, ds, n, far, ks, ls, ss, R, v, s', rfl, hM, hT, ok, hsh, n10, hv, hs, k⟩ := h
    refine ⟨_, (pss_cons (ps_if (PW.pt (pw_and (pt_val (pe_cx c_is_whole hr (by first | decide | omega) rfl passL (pa_cons (pv 1) pa_nil))) (pw_and1 (pt_chain op_le op_lt pe_int (pv 1) (pe_fldK K (pv 0) (by rfl)))))) (pss_one (ps_retN)) pss_nil)
      (pss_one (ps_if (pt_not (pt_val (pe_mtx c_is_empty hr (by first | decide | omega) passL (pv 0) (pa_cons (pv 1) pa_nil)))) (pss_one ps_never) pss_nil))), ?_⟩
    obtain ⟨dm, hx⟩ := hM.x
    walk_at "g"
    match s', hv, hs with
    | .inl i, hv, hs =>
      obtain rfl : v = .int i := hv
      refine ⟨_, _, rfl, isW_int _, ?_⟩
      walk_at "g"
      rw [decide_eq_true hs.1]
      refine iteT ?_
      walk_at "g"
      refine ⟨x, _, dm, _, _, rfl, hx, T.k_Mechanism, T.a_Mechanism__states, rfl, ?_⟩
      walk_at "g"
      rw [decide_eq_true hs.2]
      walk_at "g"
      exact k
    | .inr z, hv, hs =>
      obtain ⟨u, rfl, hu⟩ := id hv
      refine ⟨_, _, rfl, isW_tup hu, ?_⟩
      walk_at "g"
      refine ⟨x, dm, _, rfl, hx, rfl, ?_⟩
      walk_at "g"
      refine ⟨B, x, t, dr, ds, u, n, far, ks, ls, ss, R, z, rfl, hM, hT, ok, hsh, n10, hv, hs, ?_⟩
      walk_at "g"
      exact k
def spLed (CR C CT : Addr) : Sp := fun vs H Q _ => ∃ (B : Addr → Prop) (x t dr ds a t2 : Addr) (n : Nat) (far : Int) (ks rw : List SI) (ls ss : List Addr) (R : List (List Rd)) (v : V) (s : MSt), vs = [.ref x, v, .ref a] ∧ MeAt B C H x t dr ds n ks ls ss R ∧ TuAt CT H t ks ∧ KsOk ks ∧ ShOk far ks n R ∧ n ≤ 10 ∧ RwAt CR CT H a t2 ks rw ∧ SvV H v s ∧ SOk n ks R s ∧
  ∀ v' H', Same H H' → SvV H' v' (ledM ks R s rw) → SOk n ks R (ledM ks R s rw) → Q v' H'
theorem c_led (T : Txt K mg) : Met P w K mg base 4 (He.ga K "Mechanism") "led" (spLed (He.ga K "Row") (He.ga K "Mechanism") (He.ga K "Turns")) [] := by
  have c_need_state := @c_need_state P PM w K mg base T
  have c_need_turns := @c_need_turns P PM w K mg base T
  have c_reached := @c_reached P PM w K mg base T
  refine metN T.m_Mechanism__led sc_Mechanism_led (fun vs H Q E h => ?_) (fun _ _ _ _ _ _ us hl => match us, hl with | [_, _, _], _ => rfl) (fun f cdv A outer s H vs Q E hr h => ?_)
  · obtain ⟨B, x, t, dr, ds, a, t2, n, far, ks, rw, ls, ss, R, v, s, rfl, _⟩ := h
    rfl
  · obtain ⟨B, x, t, dr, ds, a, t2, n, far, ks, rw, ls, ss, R, v, s', rfl, hM, hT, ok, hsh, n10, hR, hv, hs, k⟩ := h
    refine ⟨_, (pss_cons (ps_expr (pe_mtx c_need_state hr (by first | decide | omega) passL (pv 0) (pa_cons (pv 1) pa_nil)))
      (pss_cons (ps_expr (pe_mtx c_need_turns hr (by first | decide | omega) passL (pv 0) (pa_cons (pe_fldK K (pv 2) (by rfl)) pa_nil)))
      (pss_one (ps_ret (pe_mtx c_reached hr (by first | decide | omega) passL (pv 0) (pa_cons (pv 1) (pa_cons (pv 2) pa_nil))))))), ?_⟩
    obtain ⟨dm, hx⟩ := hM.x
    obtain ⟨dr', st, ky, kk, pp, ys, ha, _⟩ := id hR.ex
    walk_at "g"
    refine ⟨x, dm, _, rfl, hx, rfl, ?_⟩
    walk_at "g"
    refine ⟨B, x, t, dr, ds, n, far, ks, ls, ss, R, v, s', rfl, hM, hT, ok, hsh, n10, hv, hs, ?_⟩
    walk_at "g"
    refine ⟨x, dm, _, rfl, hx, rfl, ?_⟩
    walk_at "g"
    refine ⟨a, _, dr', _, _, rfl, ha, T.k_Row, T.a_Row__turns, rfl, ?_⟩
    walk_at "g"
    refine ⟨x, dm, t, t2, _, ks, rfl, hx, rfl, rfl, hT, hR.tu, ok, ?_⟩
    walk_at "g"
    refine ⟨x, dm, _, rfl, hx, rfl, ?_⟩
    walk_at "g"
    exact ⟨B, x, t, dr, ds, a, t2, n, far, ks, rw, ls, ss, R, v, s', rfl, hM, ok, hsh, n10, hR, hv, hs, k⟩
end
end Tr

/-! # k47: states as data, compared. -/
namespace Tr
open PySem L2 TL
/-- steps of a reading that are plain -/
local macro_rules | `(tactic| walk_at "x") => `(tactic| (refine' ⟨_, _, _, _, rfl, rfl, ?k1, ?k2, ?_⟩; (case k1 => exact SqT.of (by assumption)); (case k2 => exact rfl)))
local macro_rules | `(tactic| walk_at "g") => `(tactic| repeat (first | (refine ⟨_, rfl, ?_⟩) | (refine ⟨_, _, rfl, rfl, ?_⟩) | (refine ⟨_, _, rfl, ?_⟩) | (refine ⟨rfl, ?_⟩) | walk_at "x"))


theorem op_eqDK {X : Cx} (K : PySem.W.Frag) (hu : X.A.units + 64 < cLine) (hk : X.K = K := by rfl) : OpR X (compareOp .Eq) (rEqD K) := by
  subst hk
  exact op_eqD hu
def msD : MSt → PyData
  | .inl i => .int i
  | .inr e => .tuple [.str e.1, .int e.2.1, .int e.2.2]
theorem dp_ms {K : PySem.W.Frag} {H : Hp} {v : V} {s : MSt} (h : SvV H v s) : Dp K H v (msD s) := by
  match s, h with
  | .inl i, h =>
    rw [show v = .int i from h]
    exact .int i
  | .inr e, ⟨u, h1, h2⟩ =>
    rw [h1]
    exact .tup (SqT.of h2) (.cons (.str _) (.cons (.int _) (.cons (.int _) .nil)))
def okS : MSt → Prop
  | .inl _ => True
  | .inr e => PyData.strOk e.1 = true
theorem sh_ms {s : MSt} (h : okS s) : SeqAt.shaped (msD s) = true := by
  unfold SeqAt.shaped
  rw [Bool.and_eq_true, decide_eq_true_eq]
  match s, h with
  | .inl i, _ => exact ⟨rfl, by show 0 ≤ 64; omega⟩
  | .inr e, h =>
    have h : PyData.strOk e.1 = true := h
    refine ⟨?_, by show max 0 (max 0 (max 0 0)) + 1 ≤ 64; decide⟩
    show (PyData.strOk e.1 && (true && (true && true))) = true
    rw [h]
    rfl
theorem SOk.okS {n : Nat} {ks : List SI} {R : List (List Rd)} {s : MSt} (ok : KsOk ks) (h : SOk n ks R s) : okS s := by
  match s, h with
  | .inl _, _ => trivial
  | .inr z, ⟨j, c, rs, kk, r, hc, _, ec, _⟩ =>
    show PyData.strOk z.1 = true
    rw [← ec]
    exact (ok.ok c (mem_of_at hc)).1.strOk
theorem op_neDK {X : Cx} (K : PySem.W.Frag) (hu : X.A.units + 64 < cLine) (hk : X.K = K := by rfl) : OpR X (compareOp .NotEq) (rNeD K) := by
  subst hk
  exact op_neD hu
theorem eqv_ms (s s' : MSt) : PyData.eqv (msD s) (msD s') = decide (s = s') := by
  match s, s' with
  | .inl i, .inl j =>
    show (i == j) = _
    rw [Bool.eq_iff_iff, beq_iff_eq, decide_eq_true_iff]
    exact ⟨fun e => e ▸ rfl, fun e => Sum.inl.inj e⟩
  | .inl i, .inr e => rw [decide_eq_false (fun e => nomatch e)]; rfl
  | .inr e, .inl i => rw [decide_eq_false (fun e => nomatch e)]; rfl
  | .inr (a, b, c), .inr (a', b', c') =>
    show ((a == a') && ((b == b') && ((c == c') && true))) = _
    rw [Bool.eq_iff_iff, decide_eq_true_iff]
    simp
theorem eq_ms {K : PySem.W.Frag} {H : Hp} {a b : V} {s s' : MSt} {Q : VK} (ha : SvV H a s) (hb : SvV H b s') (o : okS s) (o' : okS s') (q : Q (.bl (decide (s = s'))) H) : rEqD K a b H Q := ⟨msD s, msD s', dp_ms ha, dp_ms hb, sh_ms o, sh_ms o', by rw [eqv_ms]; exact q⟩
theorem nq_ms {K : PySem.W.Frag} {H : Hp} {a b : V} {s s' : MSt} {Q : VK} (ha : SvV H a s) (hb : SvV H b s') (o : okS s) (o' : okS s') (q : Q (.bl (!decide (s = s'))) H) : rNeD K a b H Q := ⟨msD s, msD s', dp_ms ha, dp_ms hb, sh_ms o, sh_ms o', by rw [eqv_ms]; exact q⟩
theorem dpa_ms {K : PySem.W.Frag} {H : Hp} {vs : List V} {sts : List MSt} (h : P2 (SvV H) vs sts) : DpAll K H vs (sts.map msD) := by
  induction h with
  | nil => exact .nil
  | @cons v s l m r _ ih =>
    refine .cons ?_ ih
    match s, r with
    | .inl i, r =>
      rw [show v = .int i from r]
      exact .int i
    | .inr e, ⟨u, r1, r2⟩ =>
      rw [r1]
      exact .tup (SqT.of r2) (.cons (.str _) (.cons (.int _) (.cons (.int _) .nil)))
theorem lay_ms : ∀ xs : List MSt, (∀ x ∈ xs, okS x) → PyData.canLayAll0 (xs.map msD) = true
  | [], _ => rfl
  | .inl i :: xs, h => by
    show (true && PyData.canLayAll0 (xs.map msD)) = true
    rw [lay_ms xs fun d hd => h d (List.mem_cons_of_mem _ hd)]
    rfl
  | .inr e :: xs, h => by
    show ((PyData.strOk e.1 && (true && (true && true))) && PyData.canLayAll0 (xs.map msD)) = true
    rw [lay_ms xs fun d hd => h d (List.mem_cons_of_mem _ hd), show PyData.strOk e.1 = true from h (.inr e) List.mem_cons_self]
    rfl
theorem depth_ms : ∀ xs : List MSt, PyData.depthAll (xs.map msD) ≤ 1
  | [] => Nat.zero_le _
  | .inl i :: xs => by
    have h := depth_ms xs
    show max 0 (PyData.depthAll (xs.map msD)) ≤ 1
    omega
  | .inr e :: xs => by
    have h := depth_ms xs
    show max 1 (PyData.depthAll (xs.map msD)) ≤ 1
    omega
theorem shaped_ms {xs : List MSt} (ok : ∀ x ∈ xs, okS x) : SeqAt.shaped (.list (xs.map msD)) = true := by
  unfold SeqAt.shaped
  rw [Bool.and_eq_true, decide_eq_true_eq]
  refine ⟨lay_ms xs ok, ?_⟩
  have h := depth_ms xs
  show PyData.depthAll (xs.map msD) + 1 ≤ 64
  omega
theorem ok_from {c : Str} (h : PyData.strOk c = true) : ∀ (k : Int) (rs : List Rd), ∀ x ∈ empFrom c k rs, okS x
  | _, [], _, hx => by cases hx
  | k, r :: rs, x, hx => by
    rcases List.mem_append.mp hx with hx | hx
    · obtain ⟨p, _, rfl⟩ := List.mem_map.mp hx
      exact h
    · exact ok_from h (k + 1) rs x hx
theorem ok_listed {n : Nat} {ks : List SI} {R : List (List Rd)} (ok : KsOk ks) : ∀ x ∈ listedN n ks R, okS x := by
  intro x hx
  rcases List.mem_append.mp hx with hx | hx
  · obtain ⟨i, _, rfl⟩ := List.mem_map.mp hx
    trivial
  · obtain ⟨l, hl, hx⟩ := List.mem_flatten.mp hx
    obtain ⟨z, hz, rfl⟩ := List.mem_map.mp hl
    exact ok_from (ok.ok z.1 (List.of_mem_zip hz).1).1.strOk 0 z.2 x hx
theorem ne_sm {K : PySem.W.Frag} {H : Hp} {a b : V} {d : PyData} {Q : VK} (ha : Dp K H a d) (hb : Dp K H b d) (sh : SeqAt.shaped d = true) (q : Q (.bl false) H) : rNeD K a b H Q := ⟨d, d, ha, hb, sh, sh, by
  have sh' := sh
  unfold SeqAt.shaped at sh'
  rw [Bool.and_eq_true] at sh'
  rw [SeqAt.eqv_refl d sh'.1]
  exact q⟩
theorem SvV.kpB {p : Addr} {H H' : Hp} {v : V} {kvs : List (Key × V)} {s : MSt} (k : Kp p H H') (hp : H p = some (.dK kvs)) (h : SvV H v s) : SvV H' v s := by
  match s, h with
  | .inl _, h => exact h
  | .inr _, ⟨u, a, b⟩ => exact ⟨u, a, k _ _ b (ne_of b hp (by intro z; cases z))⟩
end Tr

/-! # k47: the law's steps, small. -/
namespace Tr
open PySem L2 TL
/-- steps of a reading that are plain -/
local macro_rules | `(tactic| walk_at "x") => `(tactic| (refine' ⟨_, _, _, _, rfl, rfl, ?k1, ?k2, ?_⟩; (case k1 => exact SqT.of (by assumption)); (case k2 => exact rfl)))
local macro_rules | `(tactic| walk_at "g") => `(tactic| repeat (first | (refine ⟨_, rfl, ?_⟩) | (refine ⟨_, _, rfl, rfl, ?_⟩) | (refine ⟨_, _, rfl, ?_⟩) | (refine ⟨rfl, ?_⟩) | walk_at "x"))


section
variable {P : Program} [PM : PMain P] {w : World} {K : PySem.W.Frag} {mg : Str → Option Value} {base : Heap}
def spLExp : Sp := fun vs H Q _ => ∃ (p q : Addr) (far : Int) (N : Nat), vs = [.ref p, .int far] ∧ Bag H p q N ∧ N < 800000 ∧ Bd 140 far ∧ ∀ e H', Kp p H H' → Bag H' p q (N + 2) → (far = 1 → -2 ≤ e ∧ e ≤ 6) → Q (.int e) H'
theorem c__law_exponent (T : Txt K mg) : Cal P w K mg base 3 "_law_exponent" spLExp [] := by
  have c__law_draw := @c__law_draw P w K mg base T
  have c__law_pick := @c__law_pick P w K mg base T
  refine calN T.d__law_exponent sc__law_exponent (fun vs H Q E h => ?_) (fun _ _ _ _ _ _ us hl => match us, hl with | [_, _], _ => rfl) (fun f cdv A outer s H vs Q E hr h => ?_)
  · obtain ⟨p, q, far, N, rfl, _⟩ := h
    rfl
  · obtain ⟨p, q, far, N, rfl, hB, hN, fB, k⟩ := h
    refine ⟨_, (pss_cons (ps_set (i := 2) sc__law_exponent.nd rfl (Or.inl rfl) (pe_cx c__law_pick hr (by first | decide | omega) rfl passL (pa_cons (pv 0) (pa_cons (pe_lst (pa_cons pe_int (pa_cons (pe_un un_neg pe_int) (pa_cons pe_int (pa_cons pe_int (pa_cons (pe_un un_neg pe_int) (pa_cons pe_int (pa_cons pe_int (pa_cons pe_int pa_nil))))))))) pa_nil))))
      (pss_cons (ps_if (pt_cmpR op_eq (pe_cx c__law_draw hr (by first | decide | omega) rfl passL (pa_cons (pv 0) (pa_cons pe_int pa_nil))) pe_int (nomark _)) (pss_one (ps_ret (pe_op op_mulW (pv 2) (pv 1)))) pss_nil)
      (pss_one (ps_ret (pv 2))))), ?_⟩
    walk_at "g"
    refine ⟨by show 8 ≤ sizeLine; decide, fun ql nql => ?_⟩
    have s1 := same_upd (o := .lst ([1, -1, 2, 3, -2, 4, 6, 5].map V.int)) nql
    refine ⟨p, q, ql, [1, -1, 2, 3, -2, 4, 6, 5].map V.int, _, rfl, hB.same s1, by omega, upd_same, by show 0 < 8; decide, by show 8 ≤ 1000; decide, fun v hv H2 kp2 hB2 => ?_⟩
    obtain ⟨b, hb, rfl⟩ := List.mem_map.mp hv
    have hbb : -2 ≤ b ∧ b ≤ 6 := by
      simp only [List.mem_cons, List.not_mem_nil, or_false] at hb
      omega
    have hb10 : Bd 10 b := by
      simp only [List.mem_cons, List.not_mem_nil, or_false] at hb
      show b.natAbs < 2 ^ 10
      omega
    walk_at "g"
    refine ⟨p, q, 3, _, rfl, hB2, by omega, by decide, d8k (by decide) (by decide), fun v3 H3 kp3 hB3 _ _ => ?_⟩
    have kp := s1.kp.trans (kp2.trans kp3)
    walk_at "g"
    refine iteB (fun _ => ?_) (fun _ => ?_)
    · walk_at "g"
      refine ⟨cmulw hb10 fB (by decide), ?_⟩
      walk_at "g"
      exact k _ H3 kp (hB3.mono (by omega)) (fun e => by subst e; rw [Int.mul_one]; exact hbb)
    · walk_at "g"
      exact k _ H3 kp (hB3.mono (by omega)) (fun _ => hbb)
def spLSteps : Sp := fun vs H Q _ => ∃ (p q l : Addr) (most far : Int) (ks : List SI) (N : Nat), vs = [.ref p, .ref l, .int most, .int far] ∧ Bag H p q N ∧ N < 700000 ∧ SL H l ks ∧ 0 < ks.length ∧ ks.length ≤ 100 ∧ 0 ≤ most ∧ most ≤ 20 ∧ Bd 140 far ∧
  ∀ l2 x H', Kp p H H' → Bag H' p q (N + 100) → H l2 = none → SL H' l2 x → InK ks x → (x.length : Int) ≤ most → (far = 1 → ∀ c ∈ x, -2 ≤ c.2 ∧ c.2 ≤ 6) → Q (.ref l2) H'
theorem c__law_steps (T : Txt K mg) : Cal P w K mg base 4 "_law_steps" spLSteps [] := by
  have c__law_draw := @c__law_draw P w K mg base T
  have c__law_pick := @c__law_pick P w K mg base T
  have c__law_exponent := @c__law_exponent P PM w K mg base T
  refine calN T.d__law_steps sc__law_steps (fun vs H Q E h => ?_) (fun _ _ _ _ _ _ us hl => match us, hl with | [_, _, _, _], _ => rfl) (fun f cdv A outer s H vs Q E hr h => ?_)
  · obtain ⟨p, q, l, most, far, ks, N, rfl, _⟩ := h
    rfl
  · obtain ⟨p, q, l, most, far, ks, N, rfl, hB, hN, hK, k0, k100, m0, m20, fB, k⟩ := h
    refine ⟨_, (pss_cons (ps_set (i := 4) sc__law_steps.nd rfl (Or.inl rfl) (pe_lst pa_nil))
      (pss_cons (ps_for PassesOwn.never rfl (pi_range1 (by rfl) T.b_range (pa_cons (pe_cx c__law_draw hr (by first | decide | omega) rfl passL (pa_cons (pv 0) (pa_cons (pe_op op_add (pv 2) pe_int) pa_nil))) pa_nil)) (pg_name (i := 5) sc__law_steps.nd rfl (Or.inl rfl)) (pss_one (ps_expr (pe_bm PySem.F.plainAttrs_list PySem.F.slot_list_append PySem.F.type_list_append mt_append (pv 4) (pa_cons (pe_tup (pa_cons (pe_ix ix_tup (pe_cx c__law_pick hr (by first | decide | omega) rfl passL (pa_cons (pv 0) (pa_cons (pv 1) pa_nil))) pe_int (fun _ _ => rfl)) (pa_cons (pe_cx c__law_exponent hr (by first | decide | omega) rfl passL (pa_cons (pv 0) (pa_cons (pv 3) pa_nil))) pa_nil))) pa_nil)))))
      (pss_one (ps_ret (pv 4))))), ?_⟩
    obtain ⟨kvs, _, hp, hq⟩ := hB.at_
    walk_at "g"
    refine ⟨by show 0 ≤ sizeLine; decide, fun D nD => ?_⟩
    have s1 := same_upd (o := .lst []) nD
    have hD1 : upd H D (.lst []) D = some (.lst []) := upd_same
    have Dp : D ≠ p := (ne_of_none hp nD).symm
    have Dq : D ≠ q := (ne_of_none hq nD).symm
    have hB1 := hB.same s1
    generalize upd H D (.lst []) = H1 at *
    obtain ⟨ts, hl, pt⟩ := id hK
    have tl := pt.len
    walk_at "g"
    refine ⟨p, q, most + 1, N, rfl, hB1, by omega, by omega, d8k (by omega) (by omega), fun v H2 kp2 hB2 v0 v1 => ?_⟩
    have kp12 := s1.kp.trans kp2
    walk_at "g"
    refine ⟨by omega, by omega, ?_⟩
    refine for_it (walk_range (lo := 0) (n := v.toNat)) (fun i σ H' => ∃ (v5 : Option V) (x : List SI) (us : List Addr), σ = [some (.ref p), some (.ref l), some (.int most), some (.int far), some (.ref D), v5] ∧ Kp p H H' ∧ Bag H' p q (N + 1 + 4 * i) ∧ H' D = some (.lst (us.map V.ref)) ∧ P2 (SrT H') us x ∧ x.length = i ∧ InK ks x ∧ (far = 1 → ∀ c ∈ x, -2 ≤ c.2 ∧ c.2 ≤ 6)) ⟨_, [], [], rfl, kp12, hB2, kp2 _ _ hD1 Dp, .nil, rfl, (fun c hc => nomatch hc), (fun _ c hc => nomatch hc)⟩ (fun _ _ _ _ _ => trivial) ?_ ?_
    · rintro i y σ H3 H3' hi ⟨v5, x, us, rfl, kp3, hB3, hD3, pu, xl, hin, hbd⟩ ⟨rfl, rfl⟩
      have ul := pu.len
      obtain ⟨kvs3, _, hp3, hq3⟩ := hB3.at_
      walk_at "g"
      refine ⟨.inl ⟨rfl, _, SqL.of hD3⟩, ?_⟩
      walk_at "g"
      refine ⟨p, q, l, ts.map V.ref, _, rfl, hB3, by omega, kp3 _ _ hl (ne_of hl hp (by intro z; cases z)), by rw [List.length_map]; omega, by rw [List.length_map]; omega, fun v hv H4 kp4 hB4 => ?_⟩
      obtain ⟨t, ht, rfl⟩ := List.mem_map.mp hv
      obtain ⟨i', hi', et⟩ := List.getElem_of_mem ht
      obtain ⟨c, hc, htc⟩ := pt.getl (List.getElem?_eq_some_iff.mpr ⟨hi', et⟩)
      have kp34 := kp3.trans kp4
      have ht4 : SrT H4 t c := kp34 _ _ htc (ne_of htc hp (by intro z; cases z))
      refine ⟨t, _, 0, .str c.1, rfl, rfl, SqT.of ht4, by show atI _ ((0 : Nat) : Int) = _; exact atI_nat rfl, ?_⟩
      walk_at "g"
      refine ⟨p, q, far, _, rfl, hB4, by omega, fB, fun e H5 kp5 hB5 he => ?_⟩
      have kp45 := kp4.trans kp5
      walk_at "g"
      refine ⟨by show 2 ≤ sizeLine; decide, fun u nu => ?_⟩
      have s6 := same_upd (o := .tup [.str c.1, .int e]) nu
      have hD5 := kp45 _ _ hD3 Dp
      have hD6 := s6 _ _ hD5
      have pu6 := ((pu.kpS kp45 hp3 (fun _ => by intro z; cases z))).sameS s6
      have hB6 := hB5.same s6
      have tu : SrT (upd H5 u (.tup [.str c.1, .int e])) u (c.1, e) := upd_same
      generalize upd H5 u (.tup [.str c.1, .int e]) = H6 at *
      walk_at "g"
      refine ⟨D, us.map V.ref, _, rfl, rfl, hD6, small_app (m := 100000) (by rw [List.length_map]; omega) (Nat.le_refl _), ?_⟩
      refine ⟨_, x ++ [(c.1, e)], us ++ [u], rfl, ?_, (hB6.wr Dp Dq).mono (by omega), by rw [List.map_append]; exact upd_same, ?_, by rw [List.length_append, xl]; rfl, fun d hd => ?_, fun f1 d hd => ?_⟩
      · exact ((kp3.trans kp45).trans s6.kp).wr nD
      · have kpD := kp_upd D H6 (.lst (us.map V.ref ++ [.ref u]))
        exact (pu6.kpS kpD hD6 (fun _ => by intro z; cases z)).snoc (kpD _ _ tu (ne_of tu hD6 (by intro z; cases z)))
      · rcases List.mem_append.mp hd with hd | hd
        · exact hin d hd
        · rw [List.mem_singleton.mp hd]
          exact ⟨c, mem_of_at hc, rfl⟩
      · rcases List.mem_append.mp hd with hd | hd
        · exact hbd f1 d hd
        · rw [List.mem_singleton.mp hd]
          exact he f1
    · rintro σ H3 ⟨v5, x, us, rfl, kp3, hB3, hD3, pu, xl, hin, hbd⟩
      walk_at "g"
      exact k D x H3 kp3 (hB3.mono (by omega)) nD ⟨us, hD3, pu⟩ hin (by omega) hbd
end
end Tr

/-! # The mechanism made (as in k49), nothing of it was there. -/
namespace Tr
open PySem L2 TL
/-- steps of a reading that are plain -/
local macro_rules | `(tactic| walk_at "x") => `(tactic| (refine' ⟨_, _, _, _, rfl, rfl, ?k1, ?k2, ?_⟩; (case k1 => exact SqT.of (by assumption)); (case k2 => exact rfl)))
local macro_rules | `(tactic| walk_at "g") => `(tactic| repeat (first | (refine ⟨_, rfl, ?_⟩) | (refine ⟨_, _, rfl, rfl, ?_⟩) | (refine ⟨_, _, rfl, ?_⟩) | (refine ⟨rfl, ?_⟩) | walk_at "x"))


theorem same_none {H H' : Hp} {a : Addr} (s : Same H H') (h : H' a = none) : H a = none := by
  cases e : H a with
  | none => rfl
  | some o => rw [s _ _ e] at h; cases h
section
variable {P : Program} [PM : PMain P] {w : World} {K : PySem.W.Frag} {mg : Str → Option Value} {base : Heap}
def spMade (C CT : Addr) : Sp := fun vs H Q _ => ∃ (A : Addr → Prop) (sh l rd t : Addr) (n : Nat) (far : Int) (ks : List SI) (fs : List Addr) (R : List (List Rd)), vs = [.ref sh, .ref t] ∧ ShAt A H sh l rd ks n fs R ∧ TuAt CT H t ks ∧ KsOk ks ∧ ShOk far ks n R ∧ 1 ≤ n ∧ n ≤ 10 ∧
  ∀ H' x dr ds ls ss, Same H H' → MeAt (fun d => H d = none) C H' x t dr ds n ks ls ss R → (∀ d ∈ dr :: ds :: ss, H d = none) → Q (.ref x) H'
theorem c__law_made (T : Txt K mg) : Cal P w K mg base 8 "_law_made" (spMade (He.ga K "Mechanism") (He.ga K "Turns")) [] := by
  have m_Mechanism := @m_Mechanism P w K mg base T
  refine calN T.d__law_made sc__law_made (fun vs H Q E h => ?_) (fun _ _ _ _ _ _ us hl => match us, hl with | [_, _], _ => rfl) (fun f cdv A outer s H vs Q E hr h => ?_)
  · obtain ⟨B, sh, l, rd, t, n, far, ks, fs, R, rfl, _⟩ := h
    rfl
  · obtain ⟨B, sh, l, rd, t, n, far, ks, fs, R, rfl, hS, hT, ok, hsh, n1, n10, k⟩ := h
    refine ⟨_, (pss_cons (ps_set (i := 2) sc__law_made.nd rfl (Or.inl rfl) pe_dnewK)
      (pss_cons (ps_for PassesOwn.never rfl (pi_list (pe_revL (pe_callTy (call_list_dK rfl) (by rfl) T.b_list (by decide +kernel) (pa_cons (pe_dget (hu_of hr) (pv 0) pe_str (fun _ _ => rfl)) pa_nil)))) (pg_name (i := 3) sc__law_made.nd rfl (Or.inl rfl)) (pss_one (ps_dput (hu_of hr) (pv 2) (pv 3) (pe_lc (own := [("_law_size_here", 4), ("_law_marks", 5)]) (g := gTup K 2 (gCons (gName 4) (gCons (gName 5) gNil))) rfl sc__law_made.nd (pi_listK K (pe_dget (hu_of hr) (pe_dget (hu_of hr) (pv 0) pe_str (fun _ _ => rfl)) (pv 3) (fun _ _ => rfl))) (blkOk_by (own := [("_law_size_here", 4), ("_law_marks", 5)]) (N := ["_law_shape_here", "_law_turns_here", "_law_rounds_here", "_law_name", "_law_size_here", "_law_marks"]) (sc := defScope s__law_made) (by decide +kernel)) (fun _ _ _ _ _ => (pg_tup rfl (pgs_cons (pg_name (i := 4) sc__law_made.nd rfl (Or.inl rfl)) (pgs_cons (pg_name (i := 5) sc__law_made.nd rfl (Or.inl rfl)) pgs_nil)))) (fun _ _ _ _ _ => pts_nil) (fun _ _ _ _ _ => (pe_tup (pa_cons (pv 4) (pa_cons (pe_callTy (call_list_ofK K) (by rfl) T.b_list (by decide +kernel) (pa_cons (pv 5) pa_nil)) pa_nil))))) rfl)))
      (pss_one (ps_ret (pe_mkx m_Mechanism hr (by first | decide | omega) rfl passL (pa_cons (pv 1) (pa_cons (pe_dget (hu_of hr) (pv 0) pe_str (fun _ _ => rfl)) (pa_cons (pv 2) pa_nil)))))))), ?_⟩
    have fl := hS.fl
    have rl := hsh.len
    have n8 := ok.n8
    have ndr := nds_rev ok.nd
    walk_at "g"
    intro D nD
    have s1 := same_upd (o := .dK []) nD
    have hD1 : upd H D (.dK []) D = some (.dK []) := upd_same
    generalize upd H D (.dK []) = H1 at *
    walk_at "g"
    refine ⟨sh, _, rfl, DGet.k (k := (.inr "rounds" : Key)) (s1 _ _ hS.sh), ?_⟩
    walk_at "g"
    refine ⟨rd, _, rfl, s1 _ _ hS.rd, fun L nL => ?_⟩
    rw [rdK_keysV fl]
    have s2 := s1.trans (same_upd (o := .lst (ks.map fun c => V.str c.1)) nL)
    have hL2 : upd H1 L (.lst (ks.map fun c => V.str c.1)) L = some (.lst (ks.map fun c => V.str c.1)) := upd_same
    have hD2 := (same_upd (o := .lst (ks.map fun c => V.str c.1)) nL) _ _ hD1
    generalize upd H1 L (.lst (ks.map fun c => V.str c.1)) = H2 at *
    walk_at "g"
    refine ⟨L, _, rfl, SqL.of hL2, fun L3 nL3 => ?_⟩
    have s3 := s2.trans (same_upd (o := .lst (ks.map fun c => V.str c.1).reverse) nL3)
    have hL3 : upd H2 L3 (.lst (ks.map fun c => V.str c.1).reverse) L3 = some (.lst (ks.map fun c => V.str c.1).reverse) := upd_same
    have hD3 := (same_upd (o := .lst (ks.map fun c => V.str c.1).reverse) nL3) _ _ hD2
    generalize upd H2 L3 (.lst (ks.map fun c => V.str c.1).reverse) = H3 at *
    rw [← List.map_reverse] at hL3
    walk_at "g"
    refine ⟨⟨_, SqL.of hL3⟩, ?_⟩
    have nLD : L3 ≠ D := ne_of hL3 hD3 (by intro z; cases z)
    refine for_it (walk_list (K := K) (xs := ks.reverse.map fun c => V.str c.1)) (fun i σ H' => ∃ (v3 v4 v5 : Option V), σ = [some (.ref sh), some (.ref t), some (.ref D), v3, v4, v5] ∧ Same H H' ∧ H' L3 = some (.lst (ks.reverse.map fun c => V.str c.1)) ∧ ∃ gs, H' D = some (.dK (rdK (ks.reverse.take i) gs)) ∧ gs.length = (ks.reverse.take i).length ∧ P2 (fun g rs => RL (fun _ => True) H' g rs) gs (R.reverse.take i)) ⟨_, _, _, rfl, s3, hL3, [], hD3, rfl, .nil⟩ ?_ ?_ ?_
    · rintro i σ H' _ ⟨_, _, _, _, _, h, _⟩
      exact SqL.of h
    · rintro i y σ H4 H4' hi ⟨v3, v4, v5, rfl, s4, hL4, gs, hD4, gl, pg⟩ ⟨rfl, hy⟩
      rw [List.getElem?_map] at hy
      obtain ⟨c, hc, rfl⟩ := Option.map_eq_some_iff.mp hy
      have hi : i < ks.length := by
        have := (List.getElem?_eq_some_iff.mp hc).1
        rwa [List.length_reverse] at this
      have hcj : ks[ks.length - 1 - i]? = some c := by rw [← hc, List.getElem?_reverse hi]
      obtain ⟨rs, hrs⟩ : ∃ rs, R[ks.length - 1 - i]? = some rs := ⟨_, List.getElem?_eq_getElem (by omega)⟩
      have hrr : R.reverse[i]? = some rs := by rw [List.getElem?_reverse (by omega), rl, hrs]
      obtain ⟨f, hf⟩ : ∃ f, fs[ks.length - 1 - i]? = some f := ⟨_, List.getElem?_eq_getElem (by omega)⟩
      obtain ⟨rs', hrs', us, hus, pus⟩ := hS.rs.getl hf
      rw [hrs] at hrs'
      cases hrs'
      have ul := pus.len
      have rln := (hsh.ok _ c rs hcj hrs).2.2
      walk_at "g"
      refine ⟨sh, _, rfl, DGet.k (k := (.inr "rounds" : Key)) (s4 _ _ hS.sh), ?_⟩
      walk_at "g"
      refine ⟨rd, .ref f, rfl, by
        have := DGet.k (k := (.inr c.1 : Key)) (s4 _ _ hS.rd)
        rw [rdK_at ok.nd hcj hf] at this
        exact this, ?_⟩
      walk_at "g"
      refine ⟨⟨_, SqL.of (s4 _ _ hus)⟩, fun E nE => ?_⟩
      refine lc_it (walk_list (K := K) (xs := us.map V.ref)) (fun m H' => Same H4' H' ∧ ∃ zs : List Addr, H' E = some (.lst (zs.map V.ref)) ∧ P2 (RdT (fun m => m ≠ E) H') zs (rs.take m)) ⟨same_upd nE, [], upd_same, .nil⟩ (fun i H' _ ⟨s', _⟩ => SqL.of (s' _ _ (s4 _ _ hus))) ?_ ?_
      · rintro m y H5 H5' hm ⟨s5, zs, hE5, pz⟩ ⟨rfl, hy⟩
        rw [List.getElem?_map] at hy
        obtain ⟨u, hu, rfl⟩ := Option.map_eq_some_iff.mp hy
        obtain ⟨r, hr', mk, _, hu2, ⟨ts, hts, pts⟩⟩ := pus.getl hu
        have hm : m < rs.length := (List.getElem?_eq_some_iff.mp hr').1
        have s45 := s4.trans s5
        refine ⟨u, _, rfl, SqT.of (s45 _ _ hu2), rfl, _, _, rfl, _, _, rfl, rfl, rfl, ?_⟩
        simp only [tYes, if_true]
        walk_at "g"
        refine ⟨mk, _, rfl, .inl (SqL.of (s45 _ _ hts)), fun M nM => ?_⟩
        have s6 := same_upd (o := .lst (ts.map V.ref)) nM
        walk_at "g"
        refine ⟨by show 2 ≤ sizeLine; decide, fun z nz => ?_⟩
        have s7 := s6.trans (same_upd (o := .tup [.int r.1, .ref M]) nz)
        have nME : M ≠ E := fun e => by rw [e, hE5] at nM; cases nM
        have hM7 := (same_upd (o := .tup [.int r.1, .ref M]) nz) _ _ (upd_same (H := H5') (a := M) (o := .lst (ts.map V.ref)))
        have zl := pz.len
        rw [List.length_take] at zl
        have kE := kp_upd E (upd (upd H5' M (.lst (ts.map V.ref))) z (.tup [.int r.1, .ref M])) (.lst (zs.map V.ref ++ [.ref z]))
        have hE7 := s7 _ _ hE5
        refine ⟨zs.map V.ref, hE7, small_app (m := 100000) (by rw [List.length_map]; omega) (Nat.le_refl _), (s5.trans s7).wr nE, zs ++ [z], by rw [List.map_append]; exact upd_same, ?_⟩
        rw [take_snoc hr']
        refine (pz.mono fun a b e => (e.same s7).kpf (fun _ h => h) kE hE7).snoc ?_
        refine RdT.kpf (fun _ h => h) kE hE7 ⟨M, nME, upd_same, ts, hM7, pts.mono fun a b e => ?_⟩
        exact s7 _ _ (s45 _ _ e)
      · rintro H5 ⟨s5, zs, hE5, pz⟩
        rw [List.length_map, ul, List.take_length] at pz
        have hD5 := s5 _ _ hD4
        have nED : E ≠ D := fun e => by rw [e, hD4] at nE; cases nE
        walk_at "g"
        have kD := kp_upd D H5 (.dK (putK (rdK (ks.reverse.take i) gs) (.inr c.1) (.ref E)))
        refine ⟨D, _, rfl, DPut.k (k := (.inr c.1 : Key)) hD5 ?_, _, _, _, rfl, ?_, ?_, gs ++ [E], ?_, ?_, ?_⟩
        · unfold rdK
          rw [List.length_map, List.length_zip, gl, Nat.min_self, List.length_take]
          exact Nat.lt_of_le_of_lt (show _ ≤ 8 by omega) (by decide)
        · exact (s4.trans s5).wr nD
        · exact kD _ _ (s5 _ _ hL4) nLD
        · rw [take_snoc hc, rdK_put gl (nds_ne2 ndr hc)]
          exact upd_same
        · rw [take_snoc hc, List.length_append, List.length_append, gl]
          rfl
        · rw [take_snoc hrr]
          refine (pg.mono fun a b e => (RL.same s5 e).kpD kD hD5).snoc ?_
          exact RL.kpD kD hD5 (RL.mono ⟨zs, hE5, pz⟩ fun _ _ => trivial)
    · rintro σ H4 ⟨v3, v4, v5, rfl, s4, hL4, gs, hD4, gl, pg⟩
      rw [List.length_map, List.take_length] at hD4 gl
      rw [List.length_map, show R.reverse.take ks.reverse.length = R.reverse from List.take_of_length_le (by rw [List.length_reverse, List.length_reverse]; omega)] at pg
      walk_at "g"
      refine ⟨sh, _, rfl, DGet.k (k := (.inr "states" : Key)) (s4 _ _ hS.sh), ?_⟩
      walk_at "g"
      intro x dx nx ndx ne
      have sm := same_made (o := .ins (He.ga K "Mechanism") dx []) (o2 := .own x) nx ndx
      refine ⟨x, dx, t, D, n, far, ks, rdK ks.reverse gs, R, rfl, upd_same, (hT.same s4).same sm, ok, sm _ _ hD4, rl, n1, n10, fun i c rs hc hrs => ?_, hsh, fun H' dr ds ls ss kp hM e1 e2 e3 e4 => ⟨rfl, ?_⟩⟩
      · have hi : i < ks.length := (List.getElem?_eq_some_iff.mp hc).1
        have e1 : ks.length - 1 - (ks.length - 1 - i) = i := by omega
        have hcj : ks.reverse[ks.length - 1 - i]? = some c := by rw [List.getElem?_reverse (by omega), e1, hc]
        have hrj : R.reverse[ks.length - 1 - i]? = some rs := by rw [List.getElem?_reverse (by omega), rl, e1, hrs]
        obtain ⟨g, hg, hrl⟩ := pg.get hrj
        exact ⟨g, _, rdK_at ndr hcj hg, RL.same sm hrl⟩
      · walk_at "g"
        have sx := s4.trans sm
        refine k _ x dr ds ls ss (s4.trans (mk_same kp nx ndx)) (hM.mono fun d hd => same_none sx hd) fun d hd => ?_
        rcases List.mem_cons.mp hd with rfl | hd
        · exact same_none sx e1
        rcases List.mem_cons.mp hd with rfl | hd
        · exact same_none sx e2
        · exact same_none sx (e4 _ hd)
end
end Tr

/-! # k47: the list of all states; one click leads it one to one onto itself (plain). -/
namespace Tr
open PySem L2 TL DG
/-- steps of a reading that are plain -/
local macro_rules | `(tactic| walk_at "x") => `(tactic| (refine' ⟨_, _, _, _, rfl, rfl, ?k1, ?k2, ?_⟩; (case k1 => exact SqT.of (by assumption)); (case k2 => exact rfl)))
local macro_rules | `(tactic| walk_at "g") => `(tactic| repeat (first | (refine ⟨_, rfl, ?_⟩) | (refine ⟨_, _, rfl, rfl, ?_⟩) | (refine ⟨_, _, rfl, ?_⟩) | (refine ⟨rfl, ?_⟩) | walk_at "x"))


theorem mem_emp {c c' : Str} {k' p : Int} {rs : List Rd} : ∀ {k0 : Int}, (Sum.inr (c', k', p) : MSt) ∈ empFrom c k0 rs ↔ c' = c ∧ ∃ (m : Nat) (r : Rd), rs[m]? = some r ∧ k' = k0 + (m : Int) ∧ 0 ≤ p ∧ p < r.1 ∧ p ∉ r.2.map (·.1) := by
  induction rs with
  | nil =>
    intro k0
    exact ⟨fun h => (by cases h), fun ⟨_, m, r, h, _⟩ => by simp at h⟩
  | cons r rs ih =>
    intro k0
    show _ ∈ empOf c k0 r ++ empFrom c (k0 + 1) rs ↔ _
    rw [List.mem_append, ih]
    constructor
    · rintro (h | ⟨rfl, m, q, h1, h2, h3⟩)
      · obtain ⟨x, hx, e⟩ := List.mem_map.mp h
        obtain ⟨hx1, hx2⟩ := List.mem_filter.mp hx
        have hx1 := List.mem_range.mp hx1
        cases e
        exact ⟨rfl, 0, r, rfl, by omega, by omega, by omega, of_decide_eq_true hx2⟩
      · exact ⟨rfl, m + 1, q, by simpa using h1, by omega, h3⟩
    · rintro ⟨rfl, m, q, h1, h2, p0, p1, h3⟩
      cases m with
      | zero =>
        cases h1
        refine .inl (List.mem_map.mpr ⟨p.toNat, List.mem_filter.mpr ⟨List.mem_range.mpr (by omega), decide_eq_true ?_⟩, ?_⟩)
        · rw [show ((p.toNat : Nat) : Int) = p by omega]
          exact h3
        · rw [show ((p.toNat : Nat) : Int) = p by omega, h2]
          simp
      | succ m => exact .inr ⟨rfl, m, q, by simpa using h1, by omega, p0, p1, h3⟩
theorem emp_inr {c : Str} {rs : List Rd} : ∀ {k0 : Int} {s : MSt}, s ∈ empFrom c k0 rs → ∃ z, s = .inr z := by
  induction rs with
  | nil => intro k0 s h; cases h
  | cons r rs ih =>
    intro k0 s h
    rcases List.mem_append.mp (show s ∈ empOf c k0 r ++ empFrom c (k0 + 1) rs from h) with h | h
    · obtain ⟨x, _, rfl⟩ := List.mem_map.mp h
      exact ⟨_, rfl⟩
    · exact ih h
theorem nd_emp {c : Str} {rs : List Rd} : ∀ {k0 : Int}, (empFrom c k0 rs).Nodup := by
  induction rs with
  | nil => intro k0; exact List.nodup_nil
  | cons r rs ih =>
    intro k0
    show (empOf c k0 r ++ empFrom c (k0 + 1) rs).Nodup
    refine List.nodup_append.mpr ⟨?_, ih, fun a ha b hb e => ?_⟩
    · unfold empOf
      refine List.Pairwise.map _ (fun a b (n : a ≠ b) e => n ?_) (List.nodup_range.filter _)
      cases e
      rfl
    · subst e
      obtain ⟨x, hx, rfl⟩ := List.mem_map.mp ha
      obtain ⟨_, m, q, _, h2, _⟩ := mem_emp.mp hb
      omega
section
variable {far : Int} {ks : List SI} {n : Nat} {R : List (List Rd)} {s : MSt}
theorem mem_listed (hl : R.length = ks.length) : s ∈ listedN n ks R ↔ SOk n ks R s := by
  unfold listedN
  rw [List.mem_append]
  match s with
  | .inl i =>
    constructor
    · rintro (h | h)
      · obtain ⟨j, hj, e⟩ := List.mem_map.mp h
        cases e
        have := List.mem_range.mp hj
        exact ⟨by omega, by omega⟩
      · obtain ⟨l, hl', h⟩ := List.mem_flatten.mp h
        obtain ⟨z, _, rfl⟩ := List.mem_map.mp hl'
        obtain ⟨_, e⟩ := emp_inr h
        cases e
    · rintro ⟨h0, h1⟩
      exact .inl (List.mem_map.mpr ⟨i.toNat, List.mem_range.mpr (by omega), by rw [show ((i.toNat : Nat) : Int) = i by omega]⟩)
  | .inr (c, k, p) =>
    constructor
    · rintro (h | h)
      · obtain ⟨j, _, e⟩ := List.mem_map.mp h
        cases e
      · obtain ⟨l, hl', h⟩ := List.mem_flatten.mp h
        obtain ⟨z, hz, rfl⟩ := List.mem_map.mp hl'
        obtain ⟨j, hj, e⟩ := List.getElem_of_mem hz
        have hzj : (ks.zip R)[j]? = some z := by rw [List.getElem?_eq_getElem hj, e]
        rw [List.getElem?_zip_eq_some] at hzj
        obtain ⟨rfl, m, r, h1, h2, h3⟩ := mem_emp.mp h
        exact ⟨j, z.1, z.2, m, r, hzj.1, hzj.2, rfl, by show k = (m : Int); omega, h1, h3⟩
    · rintro ⟨j, d, rs, m, r, h1, h2, h3, h4, h5, h6⟩
      refine .inr (List.mem_flatten.mpr ⟨empFrom d.1 0 rs, List.mem_map.mpr ⟨(d, rs), ?_, rfl⟩, mem_emp.mpr ⟨h3.symm, m, r, h5, by have : k = (m : Int) := h4; omega, h6⟩⟩)
      have : (ks.zip R)[j]? = some (d, rs) := by rw [List.getElem?_zip_eq_some]; exact ⟨h1, h2⟩
      exact List.mem_of_getElem? this
theorem nd_zip : ∀ {ks : List SI} {R : List (List Rd)}, Nds ks → (((ks.zip R).map fun z => empFrom z.1.1 0 z.2).flatten).Nodup
  | [], _, _ => by simp
  | _ :: _, [], _ => by simp
  | c :: ks, rs :: R, nd => by
    have nd' : (c.1 :: ks.map (·.1)).Nodup := nd
    obtain ⟨n1, n2⟩ := List.nodup_cons.mp nd'
    rw [List.zip_cons_cons, List.map_cons, List.flatten_cons]
    refine List.nodup_append.mpr ⟨nd_emp, nd_zip n2, fun a ha b hb e => ?_⟩
    subst e
    obtain ⟨⟨c', k', p⟩, rfl⟩ := emp_inr ha
    obtain ⟨l, hl, h⟩ := List.mem_flatten.mp hb
    obtain ⟨z, hz, rfl⟩ := List.mem_map.mp hl
    have e1 := (mem_emp.mp ha).1
    have e2 := (mem_emp.mp h).1
    exact n1 (List.mem_map.mpr ⟨z.1, (List.of_mem_zip hz).1, by show z.1.1 = c.1; rw [← e1, e2]⟩)
theorem nd_listed (nd : Nds ks) : (listedN n ks R).Nodup := by
  unfold listedN
  refine List.nodup_append.mpr ⟨?_, nd_zip nd, fun a ha b hb e => ?_⟩
  · refine List.Pairwise.map _ (fun a b (n : a ≠ b) e => n ?_) List.nodup_range
    have e := Sum.inl.inj e
    omega
  · subst e
    obtain ⟨j, _, rfl⟩ := List.mem_map.mp ha
    obtain ⟨l, hl, h⟩ := List.mem_flatten.mp hb
    obtain ⟨z, _, rfl⟩ := List.mem_map.mp hl
    obtain ⟨_, e⟩ := emp_inr h
    cases e
theorem st_zero (hsh : ShOk far ks n R) (nd : Nds ks) {z : Str} (hz : ∃ k ∈ ks, k.1 = z) (hs : SOk n ks R s) : stM ks R s (z, 0) = s := by
  obtain ⟨j, c, rs, h1, h2, rfl, e⟩ := in_at hsh nd hz
  show stepM c.1 (rsOf ks R c.1) 0 s = s
  rw [e]
  exact stepM_zero nd hsh h1 h2 hs
theorem st_add (hsh : ShOk far ks n R) (nd : Nds ks) {z : Str} (hz : ∃ k ∈ ks, k.1 = z) (hs : SOk n ks R s) (d e : Int) : stM ks R (stM ks R s (z, d)) (z, e) = stM ks R s (z, d + e) := by
  obtain ⟨j, c, rs, h1, h2, rfl, e'⟩ := in_at hsh nd hz
  show stepM c.1 (rsOf ks R c.1) e (stepM c.1 (rsOf ks R c.1) d s) = stepM c.1 (rsOf ks R c.1) (d + e) s
  rw [e']
  exact stepM_add nd hsh h1 h2 hs d e
theorem st_per (hsh : ShOk far ks n R) (ok : KsOk ks) {c : SI} (hc : c ∈ ks) (hs : SOk n ks R s) : stM ks R s (c.1, c.2) = s := by
  obtain ⟨j, hj, e⟩ := List.getElem_of_mem hc
  have h1 : ks[j]? = some c := by rw [List.getElem?_eq_getElem hj, e]
  obtain ⟨rs, h2⟩ : ∃ rs, R[j]? = some rs := ⟨_, List.getElem?_eq_getElem (by rw [hsh.len]; exact hj)⟩
  have er := rsOf_at ok.nd h1 h2
  show stepM c.1 (rsOf ks R c.1) c.2 s = s
  rw [er, ← stepM_mod ok.nd hsh h1 h2 hs c.2]
  have e0 : modN (perOf ks) c.1 c.2 = 0 := by
    unfold modN
    rw [perOf_of ok.nd hc]
    split
    · exact Int.emod_self
    · have := (ok.ok c hc).2
      omega
  rw [e0]
  exact stepM_zero ok.nd hsh h1 h2 hs
theorem st_inj (hsh : ShOk far ks n R) (nd : Nds ks) {z : Str} (hz : ∃ k ∈ ks, k.1 = z) {a b : MSt} (ha : SOk n ks R a) (hb : SOk n ks R b) (e : Int) (h : stM ks R a (z, e) = stM ks R b (z, e)) : a = b := by
  have h1 := congrArg (fun x => stM ks R x (z, -e)) h
  have h1 : stM ks R (stM ks R a (z, e)) (z, -e) = stM ks R (stM ks R b (z, e)) (z, -e) := h1
  rw [st_add hsh nd hz ha, st_add hsh nd hz hb, Int.add_right_neg, st_zero hsh nd hz ha, st_zero hsh nd hz hb] at h1
  exact h1
theorem cnt_one {α : Type} [DecidableEq α] {s : α} : ∀ {l : List α}, l.Nodup → s ∈ l → l.countP (fun x => decide (x = s)) = 1
  | [], _, h => by cases h
  | a :: l, nd, h => by
    obtain ⟨n1, n2⟩ := List.nodup_cons.mp nd
    by_cases e : a = s
    · subst e
      rw [List.countP_cons_of_pos (by exact decide_eq_true rfl)]
      have : l.countP (fun x => decide (x = a)) = 0 := List.countP_eq_zero.mpr fun x hx q => by
        have := of_decide_eq_true q
        subst this
        exact n1 hx
      omega
    · rw [List.countP_cons_of_neg (by simpa using e)]
      refine cnt_one n2 ?_
      rcases List.mem_cons.mp h with h | h
      · exact absurd h.symm e
      · exact h
/-- each state is reached once -/
theorem once (hsh : ShOk far ks n R) (nd : Nds ks) {z : Str} (hz : ∃ k ∈ ks, k.1 = z) (hs : SOk n ks R s) (e : Int) : ((listedN n ks R).map fun x => stM ks R x (z, e)).countP (fun x => decide (x = s)) = 1 := by
  have hp : SOk n ks R (stM ks R s (z, -e)) := stM_ok hsh nd hz hs
  have hm := (mem_listed hsh.len).mpr hp
  have hnd : ((listedN n ks R).map fun x => stM ks R x (z, e)).Nodup := by
    rw [List.nodup_iff_pairwise_ne, List.pairwise_map]
    refine List.Pairwise.imp_of_mem (fun {a b} ha hb (q : a ≠ b) e' => q ?_) (nd_listed (n := n) (R := R) nd)
    exact st_inj hsh nd hz ((mem_listed hsh.len).mp ha) ((mem_listed hsh.len).mp hb) e e'
  have hin : s ∈ (listedN n ks R).map fun x => stM ks R x (z, e) := List.mem_map.mpr ⟨_, hm, by
    show stM ks R (stM ks R s (z, -e)) (z, e) = s
    rw [st_add hsh nd hz hs, Int.add_left_neg, st_zero hsh nd hz hs]⟩
  exact cnt_one hnd hin
theorem total_le {m : Nat} (hsh : ShOk 1 ks n R) (hn : n ≤ 4) (hk : ks.length ≤ m) : totalN R ≤ 60 * m := by
  have hrl : R.length ≤ m := by rw [hsh.len]; exact hk
  have one : ∀ rs ∈ R, emptyN rs ≤ 60 := fun rs hrs => by
    obtain ⟨j, hj, e⟩ := List.getElem_of_mem hrs
    have h2 : R[j]? = some rs := by rw [List.getElem?_eq_getElem hj, e]
    obtain ⟨c, h1⟩ : ∃ c, ks[j]? = some c := ⟨_, List.getElem?_eq_getElem (by rw [← hsh.len]; exact hj)⟩
    obtain ⟨a, _, l⟩ := hsh.ok j c rs h1 h2
    have : ∀ l : List Rd, (∀ r ∈ l, r.1 ≤ 12) → emptyN l ≤ 12 * (l.length : Int) := by
      intro l
      induction l with
      | nil => intro _; show (0 : Int) ≤ 12 * ((0 : Nat) : Int); omega
      | cons r l ih =>
        intro h
        have h1 := ih fun q hq => h q (List.mem_cons_of_mem _ hq)
        have h2 := h r List.mem_cons_self
        show r.1 - (r.2.length : Int) + emptyN l ≤ 12 * ((l.length + 1 : Nat) : Int)
        omega
    have := this rs fun r hr => by have := (a.ok r hr).2.2.1; omega
    omega
  have : ∀ l : List (List Rd), (∀ r ∈ l, emptyN r ≤ 60) → totalN l ≤ 60 * (l.length : Int) := by
    intro l
    induction l with
    | nil => intro _; show (0 : Int) ≤ 60 * ((0 : Nat) : Int); omega
    | cons r l ih =>
      intro h
      have h1 := ih fun q hq => h q (List.mem_cons_of_mem _ hq)
      have h2 := h r List.mem_cons_self
      show emptyN r + totalN l ≤ 60 * ((l.length + 1 : Nat) : Int)
      omega
  have := this R one
  omega
end
/-- a state as a key -/
def nkS : MSt → NestedKey
  | .inl i => .num i
  | .inr z => .tup [.text z.1, .num z.2.1, .num z.2.2]
theorem nkS_inj {a b : MSt} (h : nkS a = nkS b) : a = b := by
  match a, b with
  | .inl i, .inl j => cases h; rfl
  | .inl i, .inr _ => cases h
  | .inr _, .inl j => cases h
  | .inr (a, b, c), .inr (a', b', c') =>
    have h : NestedKey.tup [.text a, .num b, .num c] = .tup [.text a', .num b', .num c'] := h
    cases h
    rfl
theorem nkS_ok (s : MSt) : KOkg (nkS s) := by
  match s with
  | .inl i => exact ⟨by show 0 ≤ 8; decide, fun z h => by cases h⟩
  | .inr z => exact ⟨by show 1 ≤ 8; decide, fun z h => by cases h⟩
theorem nkS_at {H : Hp} {v : V} {s : MSt} (h : SvV H v s) : NkV H v (nkS s) := by
  match s, h with
  | .inl i, h =>
    obtain rfl : v = .int i := h
    exact .int i
  | .inr z, ⟨u, e1, e2⟩ =>
    subst e1
    exact .tup e2 (.cons (.str _) (.cons (.int _) (.cons (.int _) .nil)))
end Tr

/-! # k47: l.count of data, a turn by its name, what a turn does as a dict. -/
namespace Tr
open PySem PySem.Spec PyProof.Rows L2 TL DG
/-- steps of a reading that are plain -/
local macro_rules | `(tactic| walk_at "x") => `(tactic| (refine' ⟨_, _, _, _, rfl, rfl, ?k1, ?k2, ?_⟩; (case k1 => exact SqT.of (by assumption)); (case k2 => exact rfl)))
local macro_rules | `(tactic| walk_at "g") => `(tactic| repeat (first | (refine ⟨_, rfl, ?_⟩) | (refine ⟨_, _, rfl, rfl, ?_⟩) | (refine ⟨_, _, rfl, ?_⟩) | (refine ⟨rfl, ?_⟩) | walk_at "x"))


section
variable {X : Cx}
def rCntD (K : PySem.W.Frag) : V → List V → Hp → VK → Prop := fun x xs H Q => ∃ (a : Addr) (y : V) (d : PyData) (ds : List PyData), x = V.ref a ∧ xs = [y] ∧ Dp K H (V.ref a) (.list ds) ∧ Dp K H y d ∧
  SeqAt.shaped (.list ds) = true ∧ SeqAt.shaped d = true ∧ d.depth ≤ 1 ∧ Q (.int (ds.countP fun z => PyData.eqv z d : Nat)) H
theorem mt_cntD (hu : X.A.units + 64 < cLine) : MtR X "list.count" (rCntD X.K) := by
  intro pins s σ H x xs v us Q I rx rxs h
  obtain ⟨a, y, d, ds, rfl, rfl, hl, hy, sl, sd, d1, q⟩ := h
  cases rx
  cases rxs with
  | cons ry rt =>
    rename_i uy ut
    cases rt
    obtain ⟨bs, r1⟩ := Dp.reads I d y uy hy ry
    have hxs : PyData.canLayAll0 ds = true := SeqAt.canLay_of_shaped sl
    have hroom : X.A.units + 1 + min (PyData.depthAll ds) d.depth < cLine := by
      have := Nat.min_le_right (PyData.depthAll ds) d.depth
      omega
    cases hl with
    | lst hs ha =>
      obtain ⟨its, rv, ⟨⟨cls, dd, data, sls⟩, n, ho, hc, hdn, hdt⟩, hlen⟩ := I.list hs
      simp only at hc hdt
      subst hc hdt
      obtain ⟨as, h4⟩ := Dp.readsAll I ds _ its ha rv
      have hmap : its.map (SeqAt.readOf s.heap) = ds := SeqAt.readsAll_map ds its as hxs h4
      refine call_meets PySem.F.slot_list_count ⟨_, ho, rfl⟩ PySem.F.entry_list_count (PySem.F.args_list_count_2 _ _)
        (SeqAt.list_countAt a its.toArray n dd sls uy (fun u => PyData.eqv (SeqAt.readOf s.heap u) d)) ⟨ho, SeqAt.items_eqAt (vs := its.toArray) (show ReadsAll s.heap its.toArray.toList ds as from h4) r1 hxs (SeqAt.canLay_of_shaped sd) hroom, ?_⟩
      have e : its.toArray.toList.countP (fun u => PyData.eqv (SeqAt.readOf s.heap u) d) = ds.countP fun z => PyData.eqv z d := by
        rw [← hmap, List.countP_map]
        rfl
      rw [e]
      exact ⟨.int (ds.countP fun z => PyData.eqv z d : Nat), H, I.tok _, ⟨_, rfl⟩, q⟩
theorem mt_cntDK (K : PySem.W.Frag) (hu : X.A.units + 64 < cLine) (hk : X.K = K := by rfl) : MtR X "list.count" (rCntD K) := by
  subst hk
  exact mt_cntD hu
theorem pe_bmK (K : PySem.W.Frag) {T id : String} {name : Str} {o e : Expr} {es : List Expr} {to : TE} {t : TA} {apos cpos : Pos} {r : V → List V → Hp → VK → Prop} (pa : PlainAttrs T) (slot : Slot T name id) (hty : typeOf (.builtin id) = pure (.type "method_descriptor")) (hm : MtR X id r) (ho : PE X o to) (ha : PA X (e :: es) t)
    (hk : X.K = K := by rfl) (hbase : attributeBase o name X.env (eval o X.env) = eval o X.env := by rfl)
    (hfew : ((backTo cpos (starEach (e :: es) X.env)).all (fun x => !x.1) && (backToKw cpos (keywordEach [] X.env)).all (fun x => x.1.isSome)
      && decide ((e :: es).length + ([] : List Keyword).length + (if ([] : List Keyword).isEmpty then 0 else 1) < 30)) = true := by rfl)
    (hline : (apos.endLine == cpos.line) = true := by rfl) (hs : starEach (e :: es) X.env = (false, eval e X.env) :: starEach es X.env := by rfl) (hplain : (backTo cpos (starEach es X.env)).any (·.1) = false := by rfl) :
    PE X (.Call (.Attribute o name apos) (e :: es) [] cpos) (tBM K T r to t) := by
  subst hk
  exact pe_bm pa slot hty hm ho ha hbase hfew hline hs hplain
end
theorem lc_pick {J : It} {G : Hp → Prop} {xs : List V} {i1 : Nat} {tt : TT} {te : TE} {vs : List Nat} {σ : L2.St} {H1 : Hp} {D : Addr} {Qd : Hp → Prop} (w : Walk J xs.length G (YAt xs)) (p : V → Bool)
    (hD : H1 D = none) (hsz : xs.length ≤ 100000) (hG : ∀ H, Same H1 H → G H) (hw : ∀ x, wipe ((wipe σ vs).set i1 x) vs = wipe σ vs)
    (ht : ∀ x, x ∈ xs → ∀ H Q, Same H1 H → (∀ H', Same H H' → Q (p x) H') → tt ((wipe σ vs).set i1 (some x)) H Q)
    (he : ∀ x, x ∈ xs → ∀ H Q, Same H1 H → Q x H → te ((wipe σ vs).set i1 (some x)) H Q)
    (hd : ∀ H, Same H1 H → H D = some (.lst (xs.filter p)) → Qd H) : LcG J (gName i1) tt te vs σ H1 D Qd := by
  refine lc_gen w (fun x => (wipe σ vs).set i1 (some x)) p (fun y c _ => y = c) (fun _ _ _ _ _ _ _ e => e) hD hsz hG ?_ (fun c _ => hw _) ht (fun c hc _ H Q s q => he c hc H Q s (q c H (Same.refl H) rfl)) fun ys H s hy py => ?_
  · rintro i H x H' c hc s ⟨rfl, hx⟩
    rw [hc] at hx
    cases hx
    exact ⟨Same.refl _, fun Q q => q⟩
  · have : ys = xs.filter p := by
      have : ∀ {a b : List V}, P2 (fun y c => y = c) a b → a = b := fun h => by
        induction h with
        | nil => rfl
        | cons r _ ih => rw [r, ih]
      exact this py
    rw [this] at hy
    exact hd H s hy
theorem cnt_ms {K : PySem.W.Frag} {H : Hp} {l : Addr} {vs : List V} {sts : List MSt} {v : V} {s : MSt} {Q : VK} (hl : H l = some (.lst vs)) (pv : P2 (SvV H) vs sts) (oks : ∀ x ∈ sts, okS x) (hv : SvV H v s) (o : okS s) (q : Q (.int (sts.countP fun x => decide (x = s) : Nat)) H) : rCntD K (.ref l) [v] H Q := by
  refine ⟨l, v, msD s, sts.map msD, rfl, rfl, .lst (SqL.of hl) (dpa_ms pv), dp_ms hv, shaped_ms oks, sh_ms o, by
    match s with
    | .inl i => exact Nat.zero_le _
    | .inr e => exact Nat.le_refl 1, ?_⟩
  rw [List.countP_map]
  have : (fun z => PyData.eqv z (msD s)) ∘ msD = fun x => decide (x = s) := funext fun x => eqv_ms x s
  rw [this]
  exact q
/-- what a turn does to each state -/
structure MvD (w : World) (H : Hp) (g : Addr) (n : Nat) (ks : List SI) (R : List (List Rd)) (z : Str) : Prop where
  ex : ∃ es : List GV, H g = some (dGo w g es es.length) ∧ GKV H es ∧ P2 (fun (e : GV) s => e.1 = nkS s ∧ SvV H e.2.1 s ∧ SvV H e.2.2 (stM ks R s (z, 1))) es (listedN n ks R)
theorem MvD.same {w : World} {H H' : Hp} {g : Addr} {n : Nat} {ks : List SI} {R : List (List Rd)} {z : Str} (s : Same H H') (h : MvD w H g n ks R z) : MvD w H' g n ks R z := by
  obtain ⟨es, h1, h2, h3⟩ := h.ex
  exact ⟨es, s _ _ h1, h2.mono fun b xs e => s _ _ e, h3.mono fun e x ⟨a, b, c⟩ => ⟨a, SvV.same s b, SvV.same s c⟩⟩
theorem MvD.kpB {w : World} {H H' : Hp} {g p : Addr} {n : Nat} {ks : List SI} {R : List (List Rd)} {z : Str} {kvs : List (Key × V)} (k : Kp p H H') (hp : H p = some (.dK kvs)) (h : MvD w H g n ks R z) : MvD w H' g n ks R z := by
  obtain ⟨es, h1, h2, h3⟩ := h.ex
  exact ⟨es, k _ _ h1 (ne_of h1 hp (by intro z; cases z)), h2.mono fun b xs e => k _ _ e (ne_of e hp (by intro z; cases z)), h3.mono fun e x ⟨a, b, c⟩ => ⟨a, SvV.kpB k hp b, SvV.kpB k hp c⟩⟩
theorem entries_keys {H : Hp} {ks : List SI} {R : List (List Rd)} {z : Str} {es : List GV} {sts : List MSt} (h : P2 (fun (e : GV) s => e.1 = nkS s ∧ SvV H e.2.1 s ∧ SvV H e.2.2 (stM ks R s (z, 1))) es sts) : es.map (·.1) = sts.map nkS := by
  induction h with
  | nil => rfl
  | cons r _ ih => rw [List.map_cons, List.map_cons, ih, r.1]
theorem entries_gkv {H : Hp} {n : Nat} {ks : List SI} {R : List (List Rd)} {z : Str} {es : List GV} (nd : Nds ks) (h : P2 (fun (e : GV) s => e.1 = nkS s ∧ SvV H e.2.1 s ∧ SvV H e.2.2 (stM ks R s (z, 1))) es (listedN n ks R)) : GKV H es := by
  refine ⟨fun e he => ?_, ?_⟩
  · obtain ⟨i, hi, q⟩ := List.getElem_of_mem he
    obtain ⟨s, hs, e1, e2, e3⟩ := h.getl (List.getElem?_eq_some_iff.mpr ⟨hi, q⟩)
    rw [e1]
    exact ⟨nkS_at e2, nkS_ok s⟩
  · rw [entries_keys h]
    refine List.Pairwise.map _ (fun a b (n : a ≠ b) e => n (nkS_inj e)) (nd_listed nd)
/-- the dict read at a state -/
theorem MvD.read {w : World} {H : Hp} {g : Addr} {far : Int} {n : Nat} {ks : List SI} {R : List (List Rd)} {z : Str} {v : V} {s : MSt} {Q : VK} (h : MvD w H g n ks R z) (hsh : ShOk far ks n R) (hv : SvV H v s) (hs : SOk n ks R s) (q : ∀ u, SvV H u (stM ks R s (z, 1)) → Q u H) : rIxG w (.ref g) v H Q := by
  obtain ⟨es, h1, h2, h3⟩ := h.ex
  have hm := (mem_listed hsh.len).mpr hs
  obtain ⟨i, hi, qi⟩ := List.getElem_of_mem hm
  obtain ⟨e, he, e1, e2, e3⟩ := h3.get (List.getElem?_eq_some_iff.mpr ⟨hi, qi⟩)
  refine ⟨g, es, es.length, nkS s, e.2.2, rfl, h1, h2, nkS_at hv, nkS_ok s, ?_, q _ e3⟩
  rw [← e1]
  exact gVal_of h2.nd (List.mem_of_getElem? he)
section
variable {P : Program} [PM : PMain P] {w : World} {K : PySem.W.Frag} {mg : Str → Option Value} {base : Heap}
def spTgetV (K : PySem.W.Frag) : Sp := fun vs H Q _ => ∃ (a : Addr) (z : Str) (ks : List SI), vs = [.ref a, .str z] ∧ TuAt (He.ga K "Turns") H a ks ∧ KsOk ks ∧ (∃ k ∈ ks, k.1 = z) ∧ ∀ y H', Same H H' → RwAt (He.ga K "Row") (He.ga K "Turns") H' y a ks (normL (perOf ks) [(z, 1)]) → Q (.ref y) H'
theorem c_tgetV (T : Txt K mg) : Met P w K mg base 8 (He.ga K "Turns") "__getitem__" (spTgetV K) [] := by
  have c_tin := @c_tin P w K mg base T
  have m_Row := @m_Row P w K mg base T
  refine metN T.m_Turns____getitem__ sc_Turns___getitem__ (fun vs H Q E h => ?_) (fun _ _ _ _ _ _ us hl => match us, hl with | [_, _], _ => rfl) (fun f cdv A outer s H vs Q E hr h => ?_)
  · obtain ⟨a, x, ks, rfl, _⟩ := h
    rfl
  · obtain ⟨a, z, ks, rfl, hT, ok, hz, k⟩ := h
    obtain ⟨dx, p1, p2, p3, p4, ha, e1, e2, e3, e4⟩ := id hT.ex
    refine ⟨_, (pss_cons (ps_if (pt_cmpR (or_notInO c_tin hr (by first | decide | omega) passL) (pv 1) (pv 0) (by rfl)) (pss_one ps_never) pss_nil)
      (pss_one (ps_ret (pe_mkx m_Row hr (by first | decide | omega) rfl passL (pa_cons (pv 0) (pa_cons (pe_lst (pa_cons (pe_tup (pa_cons (pv 1) (pa_cons pe_int pa_nil))) pa_nil)) pa_nil)))))), ?_⟩
    walk_at "g"
    refine ⟨a, dx, _, rfl, ha, a, .str z, ks, rfl, hT, .inl ⟨z, rfl, ?_⟩⟩
    rw [hasS_of hz]
    walk_at "g"
    refine ⟨by show 2 ≤ sizeLine; decide, fun u nu => ?_⟩
    have s1 := same_upd (o := .tup [.str z, .int 1]) nu
    have hu : upd H u (.tup [.str z, .int 1]) u = some (.tup [.str z, .int 1]) := upd_same
    generalize upd H u (.tup [.str z, .int 1]) = H1 at *
    walk_at "g"
    refine ⟨by show 1 ≤ sizeLine; decide, fun l nl => ?_⟩
    have s2 := same_upd (o := .lst [.ref u]) nl
    have hl : upd H1 l (.lst [.ref u]) l = some (.lst [.ref u]) := upd_same
    generalize upd H1 l (.lst [.ref u]) = H2 at *
    walk_at "g"
    have hS : SQ K H2 l [u] [(z, 1)] := ⟨.inl (SqL.of hl), .cons (SrE.of (s2 _ _ hu)) .nil⟩
    exact mk_row (hT.same (s1.trans s2)) ok hS (by show 1 ≤ 10000; decide) (fun c hc => by rw [List.mem_singleton.mp hc]; exact hz) (fun y H' s' hR => k y H' ((s1.trans s2).trans s') hR)
def spClicks (w : World) : Sp := fun vs H Q _ => ∃ (m g : Addr) (kvs : List (Key × V)) (v : V) (z : Str) (e far : Int) (n : Nat) (ks : List SI) (R : List (List Rd)) (s : MSt), vs = [.ref m, v, .str z, .int e] ∧ H m = some (.dK kvs) ∧ valV kvs (.inr z) = some (.ref g) ∧ MvD w H g n ks R z ∧ ShOk far ks n R ∧ KsOk ks ∧ (∃ k ∈ ks, k.1 = z) ∧ (n : Int) + totalN R ≤ 1000 ∧ -12 ≤ e ∧ e ≤ 12 ∧ SvV H v s ∧ SOk n ks R s ∧
  ∀ v' H', Same H H' → SvV H' v' (stM ks R s (z, e)) → SOk n ks R (stM ks R s (z, e)) → Q v' H'
theorem c__law_clicks (T : Txt K mg) : Cal P w K mg base 3 "_law_clicks" (spClicks w) [] := by
  refine calN T.d__law_clicks sc__law_clicks (fun vs H Q E h => ?_) (fun _ _ _ _ _ _ us hl => match us, hl with | [_, _, _, _], _ => rfl) (fun f cdv A outer s H vs Q E hr h => ?_)
  · obtain ⟨m, g, kvs, v, z, e, far, n, ks, R, s', rfl, _⟩ := h
    rfl
  · obtain ⟨m, g, kvs, v, z, e, far, n, ks, R, s', rfl, hm, hg, hv, hsh, ok, hz, h10, eL, eU, hs, oks, k⟩ := h
    refine ⟨_, (pss_cons (ps_for PassesOwn.never rfl (pi_range1 (by rfl) T.b_range (pa_cons (pe_callB call_abs (by rfl) T.b_abs (by decide +kernel) (pa_cons (pv 3) pa_nil)) pa_nil)) (pg_name (i := 4) sc__law_clicks.nd rfl (Or.inl rfl)) (pss_one (ps_if (pt_cmpR op_gt (pv 3) pe_int (nomark _)) (pss_one (ps_set (i := 1) sc__law_clicks.nd rfl (Or.inr rfl) (pe_ix (ix_dG w (units_of hr)) (pe_dget (hu_of hr) (pv 0) (pv 2) (fun _ _ => rfl)) (pv 1) (fun _ _ => rfl)))) (pss_one (ps_set (i := 1) sc__law_clicks.nd rfl (Or.inr rfl) (pe_ix (ix_listK K) (pe_lc (own := [("_law_one", 5)]) (g := gName 5) rfl sc__law_clicks.nd (pi_keyG w (pe_dget (hu_of hr) (pv 0) (pv 2) (fun _ _ => rfl))) (blkOk_by (own := [("_law_one", 5)]) (N := ["_law_moves", "_law_state", "_law_name", "_law_exponent_here", "_law_click", "_law_one"]) (sc := defScope s__law_clicks) (by decide +kernel)) (fun _ _ _ _ _ => (pg_name (i := 5) sc__law_clicks.nd rfl (Or.inl rfl))) (fun _ _ _ _ _ => (pts_one (pt_cmpR (op_eqDK K (units_of hr)) (pe_ix (ix_dG w (units_of hr)) (pe_dget (hu_of hr) (pv 0) (pv 2) (fun _ _ => rfl)) (pv 5) (fun _ _ => rfl)) (pv 1) (nomark _)))) (fun _ _ _ _ _ => (pv 5))) pe_int (fun _ _ => rfl)))))))
      (pss_one (ps_ret (pv 1)))), ?_⟩
    walk_at "g"
    obtain ⟨sg, hsg⟩ : ∃ sg : Int, sg = if 0 < e then 1 else -1 := ⟨_, rfl⟩
    have en : ∃ N : Nat, (if e < 0 then -e else e) = (N : Int) ∧ sg * (N : Int) = e := by
      by_cases h : 0 < e
      · refine ⟨e.toNat, ?_, ?_⟩
        · rw [if_neg (by omega)]
          omega
        · rw [hsg, if_pos h]
          omega
      · refine ⟨(-e).toNat, ?_, ?_⟩
        · split <;> omega
        · rw [hsg, if_neg h]
          omega
    obtain ⟨N, hN, eN⟩ := en
    rw [hN]
    have hN12 : N ≤ 12 := by
      split at hN <;> omega
    refine ⟨by omega, by omega, ?_⟩
    refine for_it (walk_range (lo := 0) (n := ((N : Int)).toNat)) (fun i σ H' => ∃ (v4 v5 : Option V) (v' : V), σ = [some (.ref m), some v', some (.str z), some (.int e), v4, v5] ∧ Same H H' ∧ SvV H' v' (stM ks R s' (z, sg * (i : Int)))) ⟨_, _, v, rfl, Same.refl _, ?_⟩ (fun _ _ _ _ _ => trivial) ?_ ?_
    · rw [show sg * ((0 : Nat) : Int) = 0 by omega, st_zero hsh ok.nd hz oks]
      exact hs
    · rintro i y σ H1 H1' hi ⟨v4, v5, v', rfl, s1, hv'⟩ ⟨rfl, rfl⟩
      have oki : SOk n ks R (stM ks R s' (z, sg * (i : Int))) := stM_ok hsh ok.nd hz oks
      have hmv := hv.same s1
      walk_at "g"
      by_cases h : 0 < e
      · rw [decide_eq_true h]
        refine iteT ?_
        walk_at "g"
        refine ⟨m, .ref g, rfl, by
          have := DGet.k (k := (.inr z : Key)) (s1 _ _ hm)
          rw [hg] at this
          exact this, ?_⟩
        walk_at "g"
        refine hmv.read hsh hv' oki fun u hu => ?_
        rw [st_add hsh ok.nd hz oks] at hu
        refine ⟨_, _, u, rfl, s1, ?_⟩
        rw [show sg * ((i + 1 : Nat) : Int) = sg * (i : Int) + 1 by rw [hsg, if_pos h]; omega]
        exact hu
      · rw [decide_eq_false h]
        refine iteF ?_
        walk_at "g"
        obtain ⟨es, h1, h2, h3⟩ := id hmv.ex
        have dg : ∀ H', Same H1' H' → DGet H' m (.str z) (some (.ref g)) := fun H' s' => by
          have := DGet.k (k := (.inr z : Key)) (s' _ _ (s1 _ _ hm))
          rw [hg] at this
          exact this
        have el : es.length ≤ 1000 := by
          have := h3.len
          have := listedN_len hsh
          omega
        obtain ⟨pv, hpv⟩ : ∃ pv, pv = stM ks R (stM ks R s' (z, sg * (i : Int))) (z, -1) := ⟨_, rfl⟩
        have okp : SOk n ks R pv := by rw [hpv]; exact stM_ok hsh ok.nd hz oki
        have back : stM ks R pv (z, 1) = stM ks R s' (z, sg * (i : Int)) := by
          rw [hpv, st_add hsh ok.nd hz oki]
          exact st_zero hsh ok.nd hz oki
        have ent : ∀ e ∈ es, ∃ x, SOk n ks R x ∧ e.1 = nkS x ∧ SvV H1' e.2.1 x ∧ SvV H1' e.2.2 (stM ks R x (z, 1)) := fun e he => by
          obtain ⟨j, hj, q⟩ := List.getElem_of_mem he
          obtain ⟨x, hx, r⟩ := h3.getl (List.getElem?_eq_some_iff.mpr ⟨hj, q⟩)
          exact ⟨x, (mem_listed hsh.len).mp (mem_of_at hx), r⟩
        refine ⟨m, .ref g, rfl, dg _ (Same.refl _), g, es, _, rfl, h1, fun D nD => ?_⟩
        refine lc_gen walk_dG (cs := es) (fun e' => [some (.ref m), some v', some (.str z), some (.int e), some (.int (0 + (i : Int))), some e'.2.1]) (fun e' => decide (e'.1 = nkS pv)) (fun y e' _ => y = e'.2.1) (fun _ _ _ _ _ _ _ e => e) nD (by omega) (fun H' s' => s' _ _ h1) ?_ (fun _ _ => rfl) ?_ ?_ ?_
        · rintro j H2 x H2' c hc s2 ⟨rfl, e2, he2, rfl⟩
          rw [hc] at he2
          cases he2
          exact ⟨Same.refl _, fun Q q => q⟩
        · intro c hc H2 Q2 s2 q
          obtain ⟨x, hx, e1, e2, e3⟩ := ent c hc
          walk_at "g"
          refine ⟨m, .ref g, rfl, dg _ s2, ?_⟩
          walk_at "g"
          refine (hmv.same s2).read hsh (SvV.same s2 e2) hx fun u hu => ?_
          walk_at "g"
          refine eq_ms hu (SvV.same s2 hv') ((stM_ok hsh ok.nd hz hx).okS ok) (oki.okS ok) ?_
          have : decide (stM ks R x (z, 1) = stM ks R s' (z, sg * (i : Int))) = decide (c.1 = nkS pv) := by
            rw [decide_eq_decide, e1, ← back]
            exact ⟨fun e => by rw [st_inj hsh ok.nd hz hx okp 1 e], fun e => by rw [nkS_inj e]⟩
          rw [this]
          exact ⟨_, rfl, q _ (Same.refl _)⟩
        · intro c hc _ H2 Q2 s2 q
          walk_at "g"
          exact q _ _ (Same.refl _) rfl
        · intro ys H2 s2 hD2 py
          have yl : ∃ e' ∈ es, e'.1 = nkS pv ∧ ys[0]? = some e'.2.1 := by
            obtain ⟨j, hj, q⟩ := List.getElem_of_mem ((mem_listed hsh.len).mpr okp)
            obtain ⟨e', he', r1, _⟩ := h3.get (List.getElem?_eq_some_iff.mpr ⟨hj, q⟩)
            have hm' : e' ∈ es.filter fun e' => decide (e'.1 = nkS pv) := List.mem_filter.mpr ⟨List.mem_of_getElem? he', decide_eq_true r1⟩
            have hl : 0 < (es.filter fun e' => decide (e'.1 = nkS pv)).length := List.length_pos_of_mem hm'
            obtain ⟨y, hy, ey⟩ := py.get (List.getElem?_eq_getElem hl)
            have := List.getElem_mem hl
            obtain ⟨m1, m2⟩ := List.mem_filter.mp this
            exact ⟨_, m1, of_decide_eq_true m2, by rw [hy, ey]⟩
          obtain ⟨e', he', ek, y0⟩ := yl
          obtain ⟨x, hx, e1, e2, e3⟩ := ent e' he'
          have : x = pv := nkS_inj (by rw [← e1, ek])
          subst this
          walk_at "g"
          refine ⟨D, _, 0, _, rfl, rfl, SqL.of hD2, atI_nat y0, ?_⟩
          refine ⟨_, _, e'.2.1, rfl, s1.trans s2, ?_⟩
          rw [show sg * ((i + 1 : Nat) : Int) = sg * (i : Int) + -1 by rw [hsg, if_neg h]; omega, ← st_add hsh ok.nd hz oks, ← hpv]
          exact SvV.same s2 e2
    · rintro σ H1 ⟨v4, v5, v', rfl, s1, hv'⟩
      walk_at "g"
      rw [show (((N : Int)).toNat : Int) = (N : Int) by omega, eN] at hv'
      exact k v' H1 s1 hv' (stM_ok hsh ok.nd hz oks)
end
end Tr

/-! # k47: the law. -/
namespace Tr
open PySem L2 TL DG
/-- steps of a reading that are plain -/
local macro_rules | `(tactic| walk_at "x") => `(tactic| (refine' ⟨_, _, _, _, rfl, rfl, ?k1, ?k2, ?_⟩; (case k1 => exact SqT.of (by assumption)); (case k2 => exact rfl)))
local macro_rules | `(tactic| walk_at "g") => `(tactic| repeat (first | (refine ⟨_, rfl, ?_⟩) | (refine ⟨_, _, rfl, rfl, ?_⟩) | (refine ⟨_, _, rfl, ?_⟩) | (refine ⟨rfl, ?_⟩) | walk_at "x"))


structure St47 (K : PySem.W.Frag) (B : Addr → Prop) (p D sh l rd t x dr ds : Addr) (n : Nat) (ks : List SI) (fs ls ss : List Addr) (R : List (List Rd)) (H : Hp) : Prop where
  hS : ShAt (fun _ => True) H sh l rd ks n fs R
  hM : MeAt B (He.ga K "Mechanism") H x t dr ds n ks ls ss R
  hT : TuAt (He.ga K "Turns") H t ks
  hN : TuNe H t p
  hN2 : TuNe H t D
  n1 : sh ≠ p
  n2 : rd ≠ p
  n3 : ∀ d, B d → d ≠ p
  n4 : ∀ d ∈ dr :: ds :: ss, d ≠ p
  m1 : sh ≠ D
  m2 : rd ≠ D
  m3 : ∀ d, B d → d ≠ D
  m4 : ∀ d ∈ dr :: ds :: ss, d ≠ D
theorem ShAt.triv {A : Addr → Prop} {H : Hp} {sh l rd : Addr} {ks : List SI} {n : Nat} {fs : List Addr} {R : List (List Rd)} (h : ShAt A H sh l rd ks n fs R) : ShAt (fun _ => True) H sh l rd ks n fs R := ⟨h.sh, h.tu, h.rd, h.fl, h.rs.mono fun _ _ e => RL.mono e fun _ _ => trivial⟩
theorem TuNe.same {C a b : Addr} {H H' : Hp} {ks : List SI} (h : TuNe H a b) (hT : TuAt C H a ks) (s : Same H H') : TuNe H' a b := h.to hT fun o e => s _ _ e
theorem TuNe.new {C : Addr} {H : Hp} {t d : Addr} {ks : List SI} {o : HO} (h : TuAt C H t ks) (hd : H d = none) : TuNe (upd H d o) t d := by
  obtain ⟨dx, p1, p2, p3, p4, e0, _, _, e3, e4⟩ := h.ex
  intro C' dx' q1 q2 q3 q4 e
  rw [upd_ne (fun z => by rw [z, hd] at e0; cases e0), e0] at e
  cases e
  exact ⟨fun z => (by rw [z, hd] at e3; cases e3), fun z => (by rw [z, hd] at e4; cases e4)⟩
section
variable {K : PySem.W.Frag} {B : Addr → Prop} {p D sh l rd t x dr ds : Addr} {n : Nat} {ks : List SI} {fs ls ss : List Addr} {R : List (List Rd)} {H H' : Hp} {kvs : List (Key × V)}
theorem St47.same (s : Same H H') (h : St47 K B p D sh l rd t x dr ds n ks fs ls ss R H) : St47 K B p D sh l rd t x dr ds n ks fs ls ss R H' :=
  ⟨h.hS.same s, h.hM.same s, h.hT.same s, h.hN.same h.hT s, h.hN2.same h.hT s, h.n1, h.n2, h.n3, h.n4, h.m1, h.m2, h.m3, h.m4⟩
theorem St47.kp (k : Kp p H H') (hp : H p = some (.dK kvs)) (h : St47 K B p D sh l rd t x dr ds n ks fs ls ss R H) : St47 K B p D sh l rd t x dr ds n ks fs ls ss R H' :=
  ⟨h.hS.kpD k hp h.n1 h.n2, h.hM.kpB k hp h.n3 h.n4, h.hT.kpB h.hN k hp, h.hN.kpB h.hT k hp, h.hN2.to h.hT fun o e => k _ _ e (ne_of e hp (by obtain ⟨_, _, _, _, _, e0, _⟩ := h.hT.ex; rw [e] at e0; cases e0; intro z; cases z)), h.n1, h.n2, h.n3, h.n4, h.m1, h.m2, h.m3, h.m4⟩
theorem St47.kp2 (k : Kp D H H') (hp : H D = some (.dK kvs)) (h : St47 K B p D sh l rd t x dr ds n ks fs ls ss R H) : St47 K B p D sh l rd t x dr ds n ks fs ls ss R H' :=
  ⟨h.hS.kpD k hp h.m1 h.m2, h.hM.kpB k hp h.m3 h.m4, h.hT.kpB h.hN2 k hp, h.hN.to h.hT fun o e => k _ _ e (ne_of e hp (by obtain ⟨_, _, _, _, _, e0, _⟩ := h.hT.ex; rw [e] at e0; cases e0; intro z; cases z)), h.hN2.kpB h.hT k hp, h.n1, h.n2, h.n3, h.n4, h.m1, h.m2, h.m3, h.m4⟩
end
theorem SvV.keep {H H' : Hp} {v : V} {s : MSt} (k : ∀ u vs, H u = some (.tup vs) → H' u = some (.tup vs)) (h : SvV H v s) : SvV H' v s := by
  match s, h with
  | .inl i, h => exact h
  | .inr z, ⟨u, e1, e2⟩ => exact ⟨u, e1, k _ _ e2⟩
/-- the turns' list and the states' list -/
structure Fx47 (l LS : Addr) (ts : List Addr) (ks : List SI) (ws : List V) (as : List MSt) (H : Hp) : Prop where
  hl : H l = some (.lst (ts.map V.ref))
  pt : P2 (SrT H) ts ks
  hLS : H LS = some (.lst ws)
  pw : P2 (SvV H) ws as
section
variable {l LS D : Addr} {ts : List Addr} {ks : List SI} {ws : List V} {as : List MSt} {H H' : Hp} {kvs : List (Key × V)}
theorem Fx47.same (s : Same H H') (h : Fx47 l LS ts ks ws as H) : Fx47 l LS ts ks ws as H' := ⟨s _ _ h.hl, P2.sameS s h.pt, s _ _ h.hLS, h.pw.mono fun _ _ e => SvV.same s e⟩
theorem Fx47.kp (k : Kp D H H') (hp : H D = some (.dK kvs)) (h : Fx47 l LS ts ks ws as H) : Fx47 l LS ts ks ws as H' := ⟨k _ _ h.hl (ne_of h.hl hp (by intro z; cases z)), h.pt.mono fun _ _ e => k _ _ e (ne_of e hp (by intro z; cases z)), k _ _ h.hLS (ne_of h.hLS hp (by intro z; cases z)), h.pw.mono fun _ _ e => SvV.kpB k hp e⟩
/-- the dict of the first turns' dicts -/
def Mv47 (w : World) (D : Addr) (n : Nat) (ks : List SI) (R : List (List Rd)) (i : Nat) (H : Hp) : Prop := ∃ gs, H D = some (.dK (rdK (ks.take i) gs)) ∧ gs.length = (ks.take i).length ∧ P2 (fun g (c : SI) => MvD w H g n ks R c.1) gs (ks.take i)
theorem Mv47.same {w : World} {n : Nat} {R : List (List Rd)} {i : Nat} (s : Same H H') (h : Mv47 w D n ks R i H) : Mv47 w D n ks R i H' := by
  obtain ⟨gs, a, b, c⟩ := h
  exact ⟨gs, s _ _ a, b, c.mono fun _ _ e => e.same s⟩
theorem Mv47.kp {w : World} {n : Nat} {R : List (List Rd)} {i : Nat} {p : Addr} (k : Kp p H H') (hp : H p = some (.dK kvs)) (n' : D ≠ p) (h : Mv47 w D n ks R i H) : Mv47 w D n ks R i H' := by
  obtain ⟨gs, a, b, c⟩ := h
  exact ⟨gs, k _ _ a n', b, c.mono fun _ _ e => e.kpB k hp⟩
/-- the turn's dict in it -/
theorem Mv47.get {w : World} {n : Nat} {R : List (List Rd)} {i j : Nat} {c : SI} (nd : Nds ks) (h : Mv47 w D n ks R i H) (hj : j < i) (hc : ks[j]? = some c) : ∃ g kvs, H D = some (.dK kvs) ∧ valV kvs (.inr c.1) = some (.ref g) ∧ MvD w H g n ks R c.1 := by
  obtain ⟨gs, a, b, e⟩ := h
  have hc' : (ks.take i)[j]? = some c := by rw [List.getElem?_take_of_lt hj, hc]
  obtain ⟨g, hg, m⟩ := e.get hc'
  refine ⟨g, _, a, rdK_at ?_ hc' hg, m⟩
  show ((ks.take i).map (·.1)).Nodup
  rw [List.map_take]
  exact (List.take_sublist _ _).nodup nd
end
/-- the pairs listed, as entries of a dict -/
theorem pairs_es {H : Hp} {f : MSt → MSt} {ys : List V} {sts : List MSt} (h : P2 (fun y s => ∃ u v v', y = V.ref u ∧ H u = some (.tup [v, v']) ∧ SvV H v s ∧ SvV H v' (f s)) ys sts) : ∃ (us : List Addr) (es : List GV), ys = us.map V.ref ∧ P2 (fun (u : Addr) (e : GV) => H u = some (.tup [e.2.1, e.2.2])) us es ∧ P2 (fun (e : GV) s => e.1 = nkS s ∧ SvV H e.2.1 s ∧ SvV H e.2.2 (f s)) es sts := by
  induction h with
  | nil => exact ⟨[], [], rfl, .nil, .nil⟩
  | @cons y s _ _ r _ ih =>
    obtain ⟨u, v, v', rfl, h1, h2, h3⟩ := r
    obtain ⟨us, es, rfl, a, b⟩ := ih
    exact ⟨u :: us, (nkS s, v, v') :: es, rfl, .cons h1 a, .cons ⟨rfl, h2, h3⟩ b⟩
theorem p2_nil {α β : Type} {R : α → β → Prop} {ys : List α} {cs : List β} (h : P2 R ys cs) (e : cs = []) : ys = [] := by
  subst e
  cases h
  rfl
section
variable {P : Program} [PM : PMain P] {w : World} {K : PySem.W.Frag} {mg : Str → Option Value} {base : Heap}
def spLaw (K : PySem.W.Frag) : Sp := fun vs H Q _ => ∃ (a : Addr) (ns : List Int), vs = [.ref a] ∧ SqL K H a (ns.map V.int) ∧ ∀ H', Q (.bl true) H'
theorem ok_law (T : Txt K mg) {fl : Addr} {fdl : FuncData} (Fl : Fun K "law" "law" s_law fl fdl) : FnOk P w K mg base (L2.CX P w) 80 fl fdl ["_law_script"] (spLaw K) := by
  have c__law_pen := @c__law_pen P w K mg base T
  have c__law_turns := @c__law_turns P w K mg base T
  have c__law_shape := @c__law_shape P w K mg base T
  have c__law_made := @c__law_made P PM w K mg base T
  have c__law_listed := @c__law_listed P PM w K mg base T
  have c__law_steps := @c__law_steps P PM w K mg base T
  have c__law_clicks := @c__law_clicks P PM w K mg base T
  have c_led := @c_led P PM w K mg base T
  have c_listed := @c_listed P PM w K mg base T
  have c_tget := @c_tgetV P PM w K mg base T
  have m_Turns := @m_Turns P w K mg base T
  have m_Row := @m_Row P w K mg base T
  refine okN Fl sc_law (fun vs H Q E h => ?_) (fun cdv A outer s H vs Q E hr h => ?_)
  · obtain ⟨a, ns, rfl, _⟩ := h
    rfl
  · obtain ⟨a0, ns, rfl, hS, k⟩ := h
    refine ⟨_, (pss_cons (ps_set (i := 1) sc_law.nd rfl (Or.inl rfl) (pe_cx c__law_pen hr (by first | decide | omega) rfl passL (pa_cons (pv 0) pa_nil)))
      (pss_cons (ps_set (i := 2) sc_law.nd rfl (Or.inl rfl) (pe_cx c__law_shape hr (by first | decide | omega) rfl passL (pa_cons (pv 1) (pa_cons (pe_cx c__law_turns hr (by first | decide | omega) rfl passL (pa_cons (pv 1) (pa_cons pe_int (pa_cons pe_int pa_nil)))) (pa_cons pe_int (pa_cons pe_int pa_nil))))))
      (pss_cons (ps_asg (pe_tup (pa_cons (pe_mkx m_Turns hr (by first | decide | omega) rfl passL (pa_cons (pe_callTy call_list_of (by rfl) T.b_list (by decide +kernel) (pa_cons (pe_dget (hu_of hr) (pv 2) pe_str (fun _ _ => rfl)) pa_nil)) pa_nil)) (pa_cons pe_dnewK pa_nil))) (pg_tup rfl (pgs_cons (pg_name (i := 3) sc_law.nd rfl (Or.inr rfl)) (pgs_cons (pg_name (i := 4) sc_law.nd rfl (Or.inr rfl)) pgs_nil))))
      (pss_cons (ps_set (i := 5) sc_law.nd rfl (Or.inr rfl) (pe_cx c__law_made hr (by first | decide | omega) rfl passL (pa_cons (pv 2) (pa_cons (pv 3) pa_nil))))
      (pss_cons (ps_set (i := 6) sc_law.nd rfl (Or.inl rfl) (pe_mtx0 c_listed hr (by first | decide | omega) passL (pv 5)))
      (pss_cons (ps_if (pt_cmpR (op_neD (units_of hr)) (pv 6) (pe_cx c__law_listed hr (by first | decide | omega) rfl passL (pa_cons (pv 2) pa_nil)) (nomark _)) (pss_one (ps_ret pe_bl)) pss_nil)
      (pss_cons (ps_for PassesOwn.never rfl (pi_list (pe_dget (hu_of hr) (pv 2) pe_str (fun _ _ => rfl))) (pg_tup rfl (pgs_cons (pg_name (i := 7) sc_law.nd rfl (Or.inr rfl)) (pgs_cons (pg_name (i := 8) sc_law.nd rfl (Or.inr rfl)) pgs_nil))) (pss_cons (ps_dput (hu_of hr) (pv 4) (pv 7) (pe_callTy (call_dictG w rfl (units_of hr)) (by rfl) T.b_dict (by decide +kernel) (pa_cons (pe_lc (own := [("_law_state", 12)]) (g := gName 12) rfl sc_law.nd (pi_listK K (pv 6)) (blkOk_by (own := [("_law_state", 12)]) (N := ["_law_script", "_law_pen_here", "_law_shape_here", "_law_turns_here", "_law_moves", "_law_made_here", "_law_states", "_law_name", "_law_period", "_law_goals", "_law_turn", "_law_steps_here", "_law_state", "_law_due", "_law_exponent_here"]) (sc := defScope s_law) (by decide +kernel)) (fun _ _ _ _ _ => (pg_name (i := 12) sc_law.nd rfl (Or.inl rfl))) (fun _ _ _ _ _ => pts_nil) (fun _ _ _ _ _ => (pe_tup (pa_cons (pv 12) (pa_cons (pe_mtx c_led hr (by first | decide | omega) passL (pv 5) (pa_cons (pv 12) (pa_cons (pe_getO c_tget T.g_Turns hr (by first | decide | omega) passL (pv 3) (pv 7)) pa_nil))) pa_nil))))) pa_nil)) rfl)
      (pss_cons (ps_set (i := 9) sc_law.nd rfl (Or.inr rfl) (pe_lc (own := [("_law_state", 12)]) (g := gName 12) rfl sc_law.nd (pi_listK K (pv 6)) (blkOk_by (own := [("_law_state", 12)]) (N := ["_law_script", "_law_pen_here", "_law_shape_here", "_law_turns_here", "_law_moves", "_law_made_here", "_law_states", "_law_name", "_law_period", "_law_goals", "_law_turn", "_law_steps_here", "_law_state", "_law_due", "_law_exponent_here"]) (sc := defScope s_law) (by decide +kernel)) (fun _ _ _ _ _ => (pg_name (i := 12) sc_law.nd rfl (Or.inl rfl))) (fun _ _ _ _ _ => pts_nil) (fun _ _ _ _ _ => (pe_ix (ix_dG w (units_of hr)) (pe_dget (hu_of hr) (pv 4) (pv 7) (fun _ _ => rfl)) (pv 12) (fun _ _ => rfl)))))
      (pss_cons (ps_if (pt_cmpR (op_neD (units_of hr)) (pe_lc (own := [("_law_state", 12)]) (g := gName 12) rfl sc_law.nd (pi_listK K (pv 6)) (blkOk_by (own := [("_law_state", 12)]) (N := ["_law_script", "_law_pen_here", "_law_shape_here", "_law_turns_here", "_law_moves", "_law_made_here", "_law_states", "_law_name", "_law_period", "_law_goals", "_law_turn", "_law_steps_here", "_law_state", "_law_due", "_law_exponent_here"]) (sc := defScope s_law) (by decide +kernel)) (fun _ _ _ _ _ => (pg_name (i := 12) sc_law.nd rfl (Or.inl rfl))) (fun _ _ _ _ _ => (pts_one (pt_cmpR op_ne (pe_bmK K PySem.F.plainAttrs_list PySem.F.slot_list_count PySem.F.type_list_count (mt_cntDK K (units_of hr)) (pv 9) (pa_cons (pv 12) pa_nil)) pe_int (nomark _)))) (fun _ _ _ _ _ => (pv 12))) (pe_lst pa_nil) (nomark _)) (pss_one (ps_ret pe_bl)) pss_nil)
      (pss_one (ps_if (pt_cmpR (op_neD (units_of hr)) (pe_lc (own := [("_law_state", 12)]) (g := gName 12) rfl sc_law.nd (pi_listK K (pv 6)) (blkOk_by (own := [("_law_state", 12)]) (N := ["_law_script", "_law_pen_here", "_law_shape_here", "_law_turns_here", "_law_moves", "_law_made_here", "_law_states", "_law_name", "_law_period", "_law_goals", "_law_turn", "_law_steps_here", "_law_state", "_law_due", "_law_exponent_here"]) (sc := defScope s_law) (by decide +kernel)) (fun _ _ _ _ _ => (pg_name (i := 12) sc_law.nd rfl (Or.inl rfl))) (fun _ _ _ _ _ => (pts_one (pt_cmpR (op_neDK K (units_of hr)) (pe_cx c__law_clicks hr (by first | decide | omega) rfl passL (pa_cons (pv 4) (pa_cons (pv 12) (pa_cons (pv 7) (pa_cons (pv 8) pa_nil))))) (pv 12) (nomark _)))) (fun _ _ _ _ _ => (pv 12))) (pe_lst pa_nil) (nomark _)) (pss_one (ps_ret pe_bl)) pss_nil))))))
      (pss_cons (ps_for PassesOwn.never rfl (pi_range1 (by rfl) T.b_range (pa_cons pe_int pa_nil)) (pg_name (i := 10) sc_law.nd rfl (Or.inl rfl)) (pss_cons (ps_set (i := 11) sc_law.nd rfl (Or.inl rfl) (pe_cx c__law_steps hr (by first | decide | omega) rfl passL (pa_cons (pv 1) (pa_cons (pe_dget (hu_of hr) (pv 2) pe_str (fun _ _ => rfl)) (pa_cons pe_int (pa_cons pe_int pa_nil))))))
      (pss_one (ps_for PassesOwn.never rfl (pi_list (pv 6)) (pg_name (i := 12) sc_law.nd rfl (Or.inl rfl)) (pss_cons (ps_set (i := 13) sc_law.nd rfl (Or.inl rfl) (pv 12))
      (pss_cons (ps_for PassesOwn.never rfl (pi_list (pv 11)) (pg_tup rfl (pgs_cons (pg_name (i := 7) sc_law.nd rfl (Or.inr rfl)) (pgs_cons (pg_name (i := 14) sc_law.nd rfl (Or.inl rfl)) pgs_nil))) (pss_one (ps_set (i := 13) sc_law.nd rfl (Or.inl rfl) (pe_cx c__law_clicks hr (by first | decide | omega) rfl passL (pa_cons (pv 4) (pa_cons (pv 13) (pa_cons (pv 7) (pa_cons (pv 14) pa_nil))))))))
      (pss_one (ps_if (pt_cmpR (op_neD (units_of hr)) (pe_mtx c_led hr (by first | decide | omega) passL (pv 5) (pa_cons (pv 12) (pa_cons (pe_mkx m_Row hr (by first | decide | omega) rfl passL (pa_cons (pv 3) (pa_cons (pe_callTy call_list_of (by rfl) T.b_list (by decide +kernel) (pa_cons (pv 11) pa_nil)) pa_nil))) pa_nil))) (pv 13) (nomark _)) (pss_one (ps_ret pe_bl)) pss_nil))))))))
      (pss_one (ps_ret pe_bl)))))))))), ?_⟩
    walk_at "g"
    have b1 : Bd 140 1 := by show 1 < 2 ^ 140; decide
    refine ⟨a0, ns, rfl, hS, fun p q H1 s1 np hB1 => ?_⟩
    walk_at "g"
    refine ⟨p, q, 3, 1, _, rfl, hB1, by decide, by decide, by decide, by decide, b1, fun l ks H5 kp5 hB5 nl hK ok k3 hF => ?_⟩
    walk_at "g"
    refine ⟨p, q, l, 4, 1, ks, _, rfl, hB5, by decide, hK, ok, by decide, by decide, by decide, b1, hF, fun sh rd n fs R H6 kp6 hB6 nsh nrd n1 n6 hS nfs hsh => ?_⟩
    obtain ⟨N6, hN6, hB6⟩ : ∃ N, N < 600000 ∧ Bag H6 p q N := ⟨_, by first | decide | omega, hB6⟩
    have n4 : n ≤ 4 := by omega
    have n10 : n ≤ 10 := by omega
    have kl : ks.length ≤ 3 := by omega
    have h1000 : (n : Int) + totalN R ≤ 1000 := by
      have := total_le hsh n4 kl
      omega
    obtain ⟨kvs5, _, hp5, _⟩ := hB5.at_
    have nsp : sh ≠ p := fun e => by rw [e, hp5] at nsh; cases nsh
    have nrp : rd ≠ p := fun e => by rw [e, hp5] at nrd; cases nrd
    walk_at "g"
    refine ⟨sh, _, rfl, DGet.k (k := (.inr "turns" : Key)) hS.sh, ?_⟩
    walk_at "g"
    obtain ⟨ts, hl, pp⟩ := id hS.tu
    refine ⟨l, _, rfl, .inl (SqL.of hl), fun l2 nl2 => ?_⟩
    have s7 := same_upd (o := .lst (ts.map V.ref)) nl2
    have hK7 : SL (upd H6 l2 (.lst (ts.map V.ref))) l2 ks := ⟨ts, upd_same, P2.sameS s7 pp⟩
    generalize upd H6 l2 (.lst (ts.map V.ref)) = H7 at *
    walk_at "g"
    intro t dt nt ndt net
    have sm := same_made (o := .ins (He.ga K "Turns") dt []) (o2 := .own t) nt ndt
    refine ⟨t, dt, l2, ks, rfl, upd_same, hK7.same sm, ok, fun H8 kp8 hT tne => ⟨rfl, ?_⟩⟩
    have s68 := s7.trans (mk_same kp8 nt ndt)
    obtain ⟨kvs6, _, hp6, hq6⟩ := hB6.at_
    have tnp := tne p _ (sm _ _ (s7 _ _ hp6))
    clear kp8 sm tne
    walk_at "g"
    intro D nD
    have tnD := TuNe.new (o := .dK []) hT nD
    have s9 := same_upd (o := .dK []) nD
    have hD9 : upd H8 D (.dK []) D = some (.dK []) := upd_same
    have s69 := s68.trans s9
    have hT9 := hT.same s9
    have tnp9 := tnp.same hT s9
    have nDp : D ≠ p := (ne_of_none (s68 _ _ hp6) nD).symm
    have nDq : D ≠ q := (ne_of_none (s68 _ _ hq6) nD).symm
    have nsD : sh ≠ D := (ne_of_none (s68 _ _ hS.sh) nD)
    have nrD : rd ≠ D := (ne_of_none (s68 _ _ hS.rd) nD)
    generalize upd H8 D (.dK []) = H9 at *
    walk_at "g"
    refine ⟨by show 2 ≤ sizeLine; decide, fun u nu => ?_⟩
    have hu : upd H9 u (.tup [.ref t, .ref D]) u = some (.tup [.ref t, .ref D]) := upd_same
    have s10 := same_upd (o := .tup [.ref t, .ref D]) nu
    have s610 := s69.trans s10
    generalize upd H9 u (.tup [.ref t, .ref D]) = H10 at *
    have hT10 := hT9.same s10
    have hD10 := s10 _ _ hD9
    have tnp10 := tnp9.same hT9 s10
    have tnD10 := tnD.same hT9 s10
    refine ⟨u, _, rfl, SqT.of hu, rfl, _, _, rfl, _, _, rfl, rfl, ?_⟩
    clear hT hT9 tnp tnp9 tnD s7 s68 s69
    walk_at "g"
    refine ⟨_, sh, l, rd, t, n, 1, ks, fs, R, rfl, hS.same s610, hT10, ok, hsh, n1, n10, fun H11 x dr ds ls ss s11 hM hdn => ?_⟩
    have s611 := s610.trans s11
    have hp10 := s610 _ _ hp6
    have nop : ∀ d, H10 d = none → d ≠ p := fun d hd e => by rw [e, hp10] at hd; cases hd
    have noD : ∀ d, H10 d = none → d ≠ D := fun d hd e => by rw [e, hD10] at hd; cases hd
    have S11 : St47 K (fun d => H10 d = none) p D sh l rd t x dr ds n ks fs ls ss R H11 := ⟨(hS.same s611).triv, hM, hT10.same s11, tnp10.same hT10 s11, tnD10.same hT10 s11, nsp, nrp, nop, fun d hd => nop d (hdn d hd), nsD, nrD, noD, fun d hd => noD d (hdn d hd)⟩
    have hB11 := hB6.same s611
    have hD11 := s11 _ _ hD10
    have hp11 := s11 _ _ hp10
    have nLD : ∀ d, H10 d = none → d ≠ D := noD
    clear hT10 tnp10 tnD10 hM s610
    have dps := @dpa_ms K
    have oks : ∀ y ∈ listedN n ks R, okS y := ok_listed ok
    have shs := shaped_ms oks
    obtain ⟨dm, hxm⟩ := S11.hM.x
    walk_at "g"
    refine ⟨x, dm, _, rfl, hxm, rfl, ?_⟩
    walk_at "g"
    refine ⟨_, x, t, dr, ds, n, 1, ks, ls, ss, R, rfl, S11.hM, S11.hT, ok, hsh, n10, .inr ⟨h1000, fun LS ws H12 s12 nLS hLS pw => ?_⟩⟩
    walk_at "g"
    refine ⟨_, sh, l, rd, n, 1, ks, fs, R, rfl, S11.hS.same s12, ok, hsh, n10, h1000, fun L2 ws2 H13 s13 nL2 hL2 pw2 => ?_⟩
    have hLS13 := s13 _ _ hLS
    have pw13 : P2 (SvV H13) ws (listedN n ks R) := pw.mono fun _ _ e => SvV.same s13 e
    refine ne_sm (.lst (SqL.of hLS13) (dps pw13)) (.lst (SqL.of hL2) (dps pw2)) shs ?_
    have s1113 := s12.trans s13
    have S13 := S11.same s1113
    have hB13 := hB11.same s1113
    have hD13 := s1113 _ _ hD11
    have hLD : LS ≠ D := ne_of hLS13 hD13 (by intro z; cases z)
    have wl := pw13.len
    have lens := listedN_len hsh
    clear pw hLS hL2 pw2 s12 S11
    refine ⟨false, rfl, ?_⟩
    refine iteF ?_
    walk_at "g"
    refine ⟨sh, _, rfl, DGet.k (k := (.inr "turns" : Key)) S13.hS.sh, ?_⟩
    walk_at "g"
    obtain ⟨ts, hl, pt⟩ := id S13.hS.tu
    have tl := pt.len
    have F13 : Fx47 l LS ts ks ws (listedN n ks R) H13 := ⟨hl, pt, hLS13, pw13⟩
    have M13 : Mv47 w D n ks R 0 H13 := ⟨[], hD13, rfl, .nil⟩
    refine ⟨⟨_, SqL.of hl⟩, ?_⟩
    refine for_it (walk_list (K := K) (xs := ts.map V.ref)) (fun i σ H' => ∃ (v7 v8 v9 v10 v11 v12 v13 v14 : Option V), σ = [some (.ref a0), some (.ref p), some (.ref sh), some (.ref t), some (.ref D), some (.ref x), some (.ref LS), v7, v8, v9, v10, v11, v12, v13, v14] ∧ Bag H' p q N6 ∧ St47 K (fun d => H10 d = none) p D sh l rd t x dr ds n ks fs ls ss R H' ∧ Fx47 l LS ts ks ws (listedN n ks R) H' ∧ Mv47 w D n ks R i H') ⟨_, _, _, _, _, _, _, _, rfl, hB13, S13, F13, M13⟩ ?_ ?_ ?_
    · rintro i σ H' _ ⟨_, _, _, _, _, _, _, _, _, _, _, f, _⟩
      exact SqL.of f.hl
    · rintro i y σ H14 H14' hi ⟨v7, v8, v9, v10, v11, v12, v13, v14, rfl, hB14, S14, F14, M14⟩ ⟨rfl, hy⟩
      rw [List.getElem?_map] at hy
      obtain ⟨u, hu, rfl⟩ := Option.map_eq_some_iff.mp hy
      obtain ⟨c, hc, htc⟩ := F14.pt.getl hu
      have hcm := mem_of_at hc
      obtain ⟨dm, hxm⟩ := S14.hM.x
      obtain ⟨dt, _, _, _, _, htt, _⟩ := id S14.hT.ex
      walk_at "g"
      refine ⟨u, _, rfl, SqT.of htc, rfl, _, _, rfl, _, _, rfl, rfl, ?_⟩
      walk_at "g"
      refine ⟨⟨_, SqL.of F14.hLS⟩, fun E nE => ?_⟩
      refine lc_v2 (walk_list (K := K) (xs := ws)) F14.pw (fun y s H' => ∃ u v v', y = V.ref u ∧ H' u = some (.tup [v, v']) ∧ SvV H' v s ∧ SvV H' v' (stM ks R s (c.1, 1))) ?_ nE (by omega) (fun H' s' => SqL.of (s' _ _ F14.hLS)) (fun _ => rfl) ?_ ?_
      · rintro y s H' H'' acc hE kp ⟨u, v, v', rfl, h1, h2, h3⟩
        have kk : ∀ u vs, H' u = some (.tup vs) → H'' u = some (.tup vs) := fun u vs e => kp _ _ e (ne_of e hE (by intro z; cases z))
        exact ⟨u, v, v', rfl, kk _ _ h1, h2.keep kk, h3.keep kk⟩
      · intro v s hs hv H15 Q15 s15 q15
        have sok := (mem_listed hsh.len).mp hs
        have S15 := S14.same s15
        walk_at "g"
        refine ⟨x, dm, _, rfl, s15 _ _ hxm, rfl, ?_⟩
        walk_at "g"
        refine ⟨t, dt, _, rfl, s15 _ _ htt, t, c.1, ks, rfl, S15.hT, ok, ⟨c, hcm, rfl⟩, fun rw' H16 s16 hRw => ?_⟩
        walk_at "g"
        refine ⟨_, x, t, dr, ds, rw', t, n, 1, ks, _, ls, ss, R, _, s, rfl, (S15.same s16).hM, (S15.same s16).hT, ok, hsh, n10, hRw, SvV.same (s15.trans s16) hv, sok, fun v' H17 s17 hv' ok' => ?_⟩
        rw [led_norm hsh ok.nd sok (fun d hd => by rw [List.mem_singleton.mp hd]; exact ⟨c, hcm, rfl⟩)] at hv' ok'
        walk_at "g"
        refine ⟨by show 2 ≤ sizeLine; decide, fun z nz => ?_⟩
        have sz := same_upd (o := .tup [v, v']) nz
        exact q15 _ _ ((s16.trans s17).trans sz) ⟨z, v, v', rfl, upd_same, SvV.same (((s15.trans s16).trans s17).trans sz) hv, SvV.same sz hv'⟩
      · intro ys H15 s15 hE15 py
        obtain ⟨us, es, rfl, pu, pe⟩ := pairs_es py
        walk_at "g"
        refine ⟨E, us, es, rfl, SqL.of hE15, pu, entries_gkv ok.nd pe, fun g ng => ?_⟩
        have s16 := same_upd (o := dGo w g es es.length) ng
        have mv16 : MvD w (upd H15 g (dGo w g es es.length)) g n ks R c.1 := MvD.mk ⟨es, upd_same, (entries_gkv ok.nd pe).mono fun b xs e => s16 _ _ e, pe.mono fun e x ⟨a, b, c⟩ => ⟨a, SvV.same s16 b, SvV.same s16 c⟩⟩
        have s1416 := s15.trans s16
        generalize upd H15 g (dGo w g es es.length) = H16 at *
        obtain ⟨gs, hD16, gl, pg⟩ := M14.same s1416
        have S16 := S14.same s1416
        have F16 := F14.same s1416
        have hB16 := hB14.same s1416
        clear S14 F14 hB14 pe pu hE15 M14
        have hi : i < ks.length := (List.getElem?_eq_some_iff.mp hc).1
        walk_at "g"
        refine ⟨D, _, rfl, DPut.k (k := (.inr c.1 : Key)) hD16 ?_, ?_⟩
        · unfold rdK
          rw [List.length_map, List.length_zip, gl, Nat.min_self, List.length_take]
          exact Nat.lt_of_le_of_lt (show _ ≤ 8 by omega) (by decide)
        have kpD := kp_upd D H16 (.dK (putK (rdK (ks.take i) gs) (.inr c.1) (.ref g)))
        have S17 := S16.kp2 kpD hD16
        have F17 := F16.kp kpD hD16
        have hB17 := hB16.wr (o := .dK (putK (rdK (ks.take i) gs) (.inr c.1) (.ref g))) nDp nDq
        have M17 : Mv47 w D n ks R (i + 1) (upd H16 D (.dK (putK (rdK (ks.take i) gs) (.inr c.1) (.ref g)))) := by
          refine ⟨gs ++ [g], ?_, ?_, ?_⟩
          · rw [take_snoc hc, rdK_put gl (nds_ne2 ok.nd hc)]
            exact upd_same
          · rw [take_snoc hc, List.length_append, List.length_append, gl]
            rfl
          · rw [take_snoc hc]
            exact (pg.mono fun a b e => e.kpB kpD hD16).snoc (mv16.kpB kpD hD16)
        clear pg gl hD16 mv16 S16 F16 hB16
        generalize upd H16 D (.dK (putK (rdK (ks.take i) gs) (.inr c.1) (.ref g))) = H17 at *
        obtain ⟨g', kvs17, hD17, hv17, mv17⟩ := M17.get ok.nd (Nat.lt_succ_self i) hc
        have dg : ∀ H', Same H17 H' → DGet H' D (.str c.1) (some (.ref g')) := fun H' s' => by
          have := DGet.k (k := (.inr c.1 : Key)) (s' _ _ hD17)
          rw [hv17] at this
          exact this
        walk_at "g"
        refine ⟨⟨_, SqL.of F17.hLS⟩, fun G nG => ?_⟩
        refine lc_v2 (walk_list (K := K) (xs := ws)) F17.pw (fun y s H' => SvV H' y (stM ks R s (c.1, 1))) ?_ nG (by omega) (fun H' s' => SqL.of (s' _ _ F17.hLS)) (fun _ => rfl) ?_ ?_
        · rintro y s H' H'' acc hE kp h3
          exact h3.keep fun u vs e => kp _ _ e (ne_of e hE (by intro z; cases z))
        · intro v s hs hv H18 Q18 s18 q18
          walk_at "g"
          refine ⟨D, .ref g', rfl, dg _ s18, ?_⟩
          walk_at "g"
          exact (mv17.same s18).read hsh (SvV.same s18 hv) ((mem_listed hsh.len).mp hs) fun u hu => q18 _ _ (Same.refl _) hu
        · intro zs H18 s18 hG18 pz
          have pz : P2 (SvV H18) zs ((listedN n ks R).map fun s => stM ks R s (c.1, 1)) := P2.mapr pz
          have zok : ∀ y ∈ (listedN n ks R).map fun s => stM ks R s (c.1, 1), okS y := fun y hy => by
            obtain ⟨s, hs, rfl⟩ := List.mem_map.mp hy
            have : SOk n ks R (stM ks R s (c.1, 1)) := stM_ok hsh ok.nd ⟨c, hcm, rfl⟩ ((mem_listed hsh.len).mp hs)
            exact this.okS ok
          have F18 := F17.same s18
          walk_at "g"
          refine ⟨⟨_, SqL.of F18.hLS⟩, fun I nI => ?_⟩
          refine lc_pick (walk_list (K := K) (xs := ws)) (fun _ => false) nI (by omega) (fun H' s' => SqL.of (s' _ _ F18.hLS)) (fun _ => rfl) ?_ ?_ ?_
          · intro v hv H19 Q19 s19 q19
            obtain ⟨j, hj, ej⟩ := List.getElem_of_mem hv
            obtain ⟨s, hs, hvs⟩ := F18.pw.getl (List.getElem?_eq_some_iff.mpr ⟨hj, ej⟩)
            have hs := mem_of_at hs
            have sok := (mem_listed hsh.len).mp hs
            walk_at "g"
            refine ⟨.inl ⟨rfl, _, SqL.of (s19 _ _ hG18)⟩, ?_⟩
            walk_at "g"
            dsimp only [tNil]
            refine cnt_ms (s19 _ _ hG18) (pz.mono fun _ _ e => SvV.same s19 e) zok (SvV.same s19 hvs) (oks _ hs) ?_
            rw [once hsh ok.nd ⟨c, hcm, rfl⟩ sok 1]
            walk_at "g"
            rw [show V.int ((1 : Nat) : Int) = V.int 1 from rfl, decide_eq_true rfl]
            exact q19 _ (Same.refl _)
          · intro v hv H19 Q19 s19 q19
            walk_at "g"
            exact q19
          · intro H19 s19 hI
            walk_at "g"
            refine ⟨by show 0 ≤ sizeLine; decide, fun Z nZ => ?_⟩
            have s20 := same_upd (o := .lst []) nZ
            have hZ : upd H19 Z (.lst []) Z = some (.lst []) := upd_same
            have nil_ : ∀ ys : List V, ys.filter (fun _ => false) = [] := fun ys => by simp
            rw [nil_] at hI
            have hI20 := s20 _ _ hI
            have F20 := (F18.same s19).same s20
            have s1720 := (s18.trans s19).trans s20
            have S20 := S17.same s1720
            have hB20 := hB17.same s1720
            have M20 := M17.same s1720
            generalize upd H19 Z (.lst []) = H20 at *
            refine ne_sm (.lst (SqL.of hI20) .nil) (.lst (SqL.of hZ) .nil) (by decide +kernel) ?_
            refine ⟨false, rfl, ?_⟩
            refine iteF ?_
            have c12 : -12 ≤ c.2 ∧ c.2 ≤ 12 := by
              rcases (hF c hcm).2 with h | ⟨b, b2, b12, h⟩ <;> omega
            walk_at "g"
            refine ⟨⟨_, SqL.of F20.hLS⟩, fun J nJ => ?_⟩
            refine lc_pick (walk_list (K := K) (xs := ws)) (fun _ => false) nJ (by omega) (fun H' s' => SqL.of (s' _ _ F20.hLS)) (fun _ => rfl) ?_ ?_ ?_
            · intro v hv H21 Q21 s21 q21
              obtain ⟨j, hj, ej⟩ := List.getElem_of_mem hv
              obtain ⟨s, hs, hvs⟩ := F20.pw.getl (List.getElem?_eq_some_iff.mpr ⟨hj, ej⟩)
              have hs := mem_of_at hs
              have sok := (mem_listed hsh.len).mp hs
              obtain ⟨g2, kvs21, hD21, hv21, mv21⟩ := (M20.same s21).get ok.nd (Nat.lt_succ_self i) hc
              walk_at "g"
              refine ⟨D, g2, kvs21, v, c.1, c.2, 1, n, ks, R, _, rfl, hD21, hv21, mv21, hsh, ok, ⟨c, hcm, rfl⟩, h1000, c12.1, c12.2, SvV.same s21 hvs, sok, fun v' H22 s22 hv' ok' => ?_⟩
              rw [st_per hsh ok hcm sok] at hv' ok'
              walk_at "g"
              refine nq_ms hv' (SvV.same (s21.trans s22) hvs) (oks _ hs) (oks _ hs) ?_
              rw [decide_eq_true rfl]
              exact ⟨_, rfl, q21 _ s22⟩
            · intro v hv H21 Q21 s21 q21
              walk_at "g"
              exact q21
            · intro H21 s21 hJ
              walk_at "g"
              refine ⟨by show 0 ≤ sizeLine; decide, fun Z2 nZ2 => ?_⟩
              have s22 := same_upd (o := .lst []) nZ2
              have hZ2 : upd H21 Z2 (.lst []) Z2 = some (.lst []) := upd_same
              rw [nil_] at hJ
              have hJ22 := s22 _ _ hJ
              have s2022 := s21.trans s22
              generalize upd H21 Z2 (.lst []) = H22 at *
              refine ne_sm (.lst (SqL.of hJ22) .nil) (.lst (SqL.of hZ2) .nil) (by decide +kernel) ?_
              refine ⟨false, rfl, ?_⟩
              refine iteF ?_
              walk_at "g"
              exact ⟨_, _, _, _, _, _, _, _, rfl, hB20.same s2022, S20.same s2022, F20.same s2022, M20.same s2022⟩
    · rintro σ H14 ⟨v7, v8, v9, v10, v11, v12, v13, v14, rfl, hB14, S14, F14, M14⟩
      rw [List.length_map, tl] at M14
      walk_at "g"
      refine ⟨by decide, by decide, ?_⟩
      refine for_it (walk_range (lo := 0) (n := 3)) (fun j σ H' => ∃ (v7 v8 v9 v10 v11 v12 v13 v14 : Option V), σ = [some (.ref a0), some (.ref p), some (.ref sh), some (.ref t), some (.ref D), some (.ref x), some (.ref LS), v7, v8, v9, v10, v11, v12, v13, v14] ∧ Bag H' p q (N6 + 100 * j) ∧ St47 K (fun d => H10 d = none) p D sh l rd t x dr ds n ks fs ls ss R H' ∧ Fx47 l LS ts ks ws (listedN n ks R) H' ∧ Mv47 w D n ks R ks.length H') ⟨_, _, _, _, _, _, _, _, rfl, hB14, S14, F14, M14⟩ (fun _ _ _ _ _ => trivial) ?_ ?_
      · rintro j y σ H15 H15' hj ⟨v7, v8, v9, v10, v11, v12, v13, v14, rfl, hB15, S15, F15, M15⟩ ⟨rfl, rfl⟩
        obtain ⟨kvs15, _, hp15, _⟩ := hB15.at_
        walk_at "g"
        refine ⟨sh, _, rfl, DGet.k (k := (.inr "turns" : Key)) S15.hS.sh, ?_⟩
        walk_at "g"
        refine ⟨p, q, l, 5, 1, ks, _, rfl, hB15, by omega, ⟨ts, F15.hl, F15.pt⟩, ok.n0, by omega, by decide, by decide, b1, fun l9 X H16 kp16 hB16 nl9 hX inX X5 Xb => ?_⟩
        have Xb := Xb rfl
        have S16 := S15.kp kp16 hp15
        have F16 := F15.kp kp16 hp15
        have M16 := M15.kp kp16 hp15 nDp
        obtain ⟨us, hus, pus⟩ := id hX
        have ul := pus.len
        clear S15 F15 M15 hB15
        walk_at "g"
        refine ⟨⟨_, SqL.of F16.hLS⟩, ?_⟩
        refine for_it (walk_list (K := K) (xs := ws)) (fun m σ H' => ∃ (v7 v8 v12 v13 v14 : Option V), σ = [some (.ref a0), some (.ref p), some (.ref sh), some (.ref t), some (.ref D), some (.ref x), some (.ref LS), v7, v8, v9, some (.int (0 + (j : Int))), some (.ref l9), v12, v13, v14] ∧ Same H16 H') ⟨_, _, _, _, _, rfl, Same.refl _⟩ ?_ ?_ ?_
        · rintro m σ H' _ ⟨_, _, _, _, _, _, s'⟩
          exact SqL.of (s' _ _ F16.hLS)
        · rintro m y σ H17 H17' hm ⟨v7, v8, v12, v13, v14, rfl, s17⟩ ⟨rfl, hy⟩
          obtain ⟨s0, hs0, hv0⟩ := (F16.same s17).pw.getl hy
          have sok := (mem_listed hsh.len).mp (mem_of_at hs0)
          walk_at "g"
          refine ⟨⟨_, SqL.of (s17 _ _ hus)⟩, ?_⟩
          refine for_it (walk_list (K := K) (xs := us.map V.ref)) (fun m2 σ H' => ∃ (v7 v8 v14 : Option V) (vd : V), σ = [some (.ref a0), some (.ref p), some (.ref sh), some (.ref t), some (.ref D), some (.ref x), some (.ref LS), v7, v8, v9, some (.int (0 + (j : Int))), some (.ref l9), some y, some vd, v14] ∧ Same H17' H' ∧ SvV H' vd (ledM ks R s0 (X.take m2)) ∧ SOk n ks R (ledM ks R s0 (X.take m2))) ⟨_, _, _, y, rfl, Same.refl _, hv0, sok⟩ ?_ ?_ ?_
          · rintro m2 σ H' _ ⟨_, _, _, _, _, s', _⟩
            exact SqL.of (s' _ _ (s17 _ _ hus))
          · rintro m2 y2 σ H18 H18' hm2 ⟨v7, v8, v14, vd, rfl, s18, hvd, okd⟩ ⟨rfl, hy2⟩
            rw [List.getElem?_map] at hy2
            obtain ⟨u, hu, rfl⟩ := Option.map_eq_some_iff.mp hy2
            have s1618 := s17.trans s18
            obtain ⟨c, hc, htc⟩ := (P2.sameS s1618 pus).getl hu
            have hcm := mem_of_at hc
            obtain ⟨b0, b2⟩ := Xb c hcm
            obtain ⟨d, hd, ed⟩ := inX c hcm
            obtain ⟨i', hi', ei'⟩ := List.getElem_of_mem hd
            have hdi := List.getElem?_eq_some_iff.mpr ⟨hi', ei'⟩
            obtain ⟨g', kvs18, hD18, hv18, mv18⟩ := (M16.same s1618).get ok.nd hi' hdi
            rw [ed] at hv18 mv18
            walk_at "g"
            refine ⟨u, _, rfl, SqT.of htc, rfl, _, _, rfl, _, _, rfl, rfl, ?_⟩
            walk_at "g"
            refine ⟨D, g', kvs18, vd, c.1, c.2, 1, n, ks, R, _, rfl, hD18, hv18, mv18, hsh, ok, ⟨d, hd, ed⟩, h1000, by omega, by omega, hvd, okd, fun v' H19 s19 hv' ok' => ?_⟩
            refine ⟨_, _, _, v', rfl, s18.trans s19, ?_, ?_⟩
            · rw [take_snoc hc, ledM_app]
              exact hv'
            · rw [take_snoc hc, ledM_app]
              exact ok'
          · rintro σ H18 ⟨v7, v8, v14, vd, rfl, s18, hvd, okd⟩
            rw [List.length_map, ul, List.take_length] at hvd okd
            have s1618 := s17.trans s18
            have S18 := S16.same s1618
            have F18 := F16.same s1618
            obtain ⟨dm, hxm⟩ := S18.hM.x
            walk_at "g"
            refine ⟨x, dm, _, rfl, hxm, rfl, ?_⟩
            walk_at "g"
            refine ⟨l9, _, rfl, .inl (SqL.of (s1618 _ _ hus)), fun l4 nl4 => ?_⟩
            have s19 := same_upd (o := .lst (us.map V.ref)) nl4
            have hl4 : upd H18 l4 (.lst (us.map V.ref)) l4 = some (.lst (us.map V.ref)) := upd_same
            have s1619 := s1618.trans s19
            have S19 := S18.same s19
            have pus19 := P2.sameS s1619 pus
            generalize upd H18 l4 (.lst (us.map V.ref)) = H19 at *
            walk_at "g"
            intro a dxa na nda nea
            have sm3 := same_made (o := .ins (He.ga K "Row") dxa []) (o2 := .own a) na nda
            refine ⟨a, dxa, t, l4, ks, X, us, rfl, upd_same, S19.hT.same sm3, ok, ⟨.inl (SqL.of (sm3 _ _ hl4)), SrE.ofs (P2.sameS sm3 pus19)⟩, by omega, inX, fun H20 kp20 hR => ⟨rfl, ?_⟩⟩
            have s20 := s19.trans (mk_same kp20 na nda)
            have S20 := S18.same s20
            clear kp20 sm3 hl4 pus19 S19 s1619
            walk_at "g"
            refine ⟨_, x, t, dr, ds, a, t, n, 1, ks, _, ls, ss, R, _, s0, rfl, S20.hM, S20.hT, ok, hsh, n10, hR, SvV.same (s18.trans s20) hv0, sok, fun v' H21 s21 hv' ok' => ?_⟩
            rw [led_norm hsh ok.nd sok inX] at hv' ok'
            walk_at "g"
            refine ne_sm (dp_ms hv') (dp_ms (SvV.same (s20.trans s21) hvd)) (sh_ms (okd.okS ok)) ?_
            refine ⟨false, rfl, ?_⟩
            refine iteF ?_
            walk_at "g"
            exact ⟨_, _, _, _, _, rfl, s17.trans ((s18.trans s20).trans s21)⟩
        · rintro σ H17 ⟨v7, v8, v12, v13, v14, rfl, s17⟩
          walk_at "g"
          exact ⟨_, _, _, _, _, _, _, _, rfl, (hB16.same s17).mono (by omega), S16.same s17, F16.same s17, M16.same s17⟩
      · rintro σ H15 ⟨v7, v8, v9, v10, v11, v12, v13, v14, rfl, _⟩
        walk_at "g"
        exact k _
end
end Tr

/-! # The head by facts: a hook of own booleans and of functions by their places. -/
namespace Tr
open PySem PySem.Spec PyProof.Rows L2
theorem _root_.L2.FnOk.to0 {P : Program} {w : World} {K : PySem.W.Frag} {mg : Str → Option Value} {base : Heap} {k : Nat} {f : Addr} {fd : FuncData} {ps : List Str} {sp : Sp} (F : FnOk P w K mg base (L2.CX P w) k f fd ps sp) (h : ∀ vs H Q E, sp vs H Q E → sp vs H Q E0) :
    FnOk P w K mg base CX0 k f fd ps sp := ⟨F.len, fun A outer s H args us vs Q E hr he hb hv hs => codeAny_mono (F.run A outer s H args us vs Q E0 hr he hb hv (h _ _ _ _ hs)) fun r s' q => by
  cases r with
  | error e =>
    obtain ⟨_, _, _, _, _, _, _, _, _, _, _, _, z⟩ := q
    exact z.elim
  | ok fl => cases fl <;> exact q⟩
theorem _root_.L2.FunD.fun_ {K : PySem.W.Frag} {x qual : Str} {st : Stmt} {f : Addr} {fd : FuncData} (F : FunD K x qual (defArgs st) (defBody st) (defScope st) [] [] f fd) : Fun K x qual st f fd := by
  obtain ⟨oc, od, dV, kV, doc, pm, an, cdv, ct, osl, e, lk, hcd, hD, _⟩ := F.ex
  rcases hD with ⟨_, rfl⟩ | ⟨e, _⟩
  · exact ⟨⟨oc, od, kV, doc, pm, an, cdv, ct, osl, e, lk, hcd⟩, F.kp⟩
  · exact absurd rfl e
/-- one def: its place, names, parameters, body, scope, defaults -/
structure DefX where
  at_ : PySem.W.Frag → Addr
  name : Str
  qual : Str
  params : Arguments
  body : List Stmt
  scope : Scope
  dfl : List He.Dv := []
  clo : List Str := []
  kwd : List (Str × He.Dv) := []
def DefX.val (d : DefX) : He.FnW := some (d.name, d.qual, d.params, .stmts d.body, d.scope, mainGlobals, d.clo.map (·, 0), builtinsNs)
def fnX (K : PySem.W.Frag) (a : Addr) : He.FnW := match K.lookup a with
  | some ⟨_, _, .func fd, _⟩ => some (fd.name, fd.qualname, fd.params, fd.body, fd.scope, fd.globals, fd.closure.map fun p => (p.1, 0), fd.builtins)
  | _ => none
def DefX.ok (K : PySem.W.Frag) (d : DefX) : Bool := PySem.W.keepIn K (.ref (d.at_ K)) && (match K.lookup (d.at_ K) with
  | some ⟨_, _, .func fd, _⟩ => PySem.W.codeIn K fd.code d.qual && (He.dflB K fd.defaults (d.dfl.map (He.Dv.v K)) && He.kwdB K fd.kwdefaults (d.kwd.map fun q => (q.1, He.Dv.v K q.2)))
  | _ => false)
theorem DefX.funD {K : PySem.W.Frag} {d : DefX} (hc : d.clo = []) (e : fnX K (d.at_ K) = d.val) (c : d.ok K = true) : ∃ fd, FunD K d.name d.qual d.params d.body d.scope (d.dfl.map (He.Dv.v K)) (d.kwd.map fun q => (q.1, He.Dv.v K q.2)) (d.at_ K) fd := by
  obtain ⟨kp, c2⟩ := He.ba c
  unfold fnX at e
  cases q : K.lookup (d.at_ K) with
  | none =>
    rw [q] at c2
    cases c2
  | some o =>
    obtain ⟨oc, od, dt, osl⟩ := o
    rw [q] at c2 e
    cases dt with
    | func fd =>
      obtain ⟨n1, n2, n3, n4, n5, n6, n7, n8, n9, n10, n11, n12, n13, n14, n15⟩ := fd
      have e2 : (some (n1, n2, n3, n4, n5, n6, n7.map fun p => (p.1, 0), n15) : He.FnW) = some (d.name, d.qual, d.params, .stmts d.body, d.scope, mainGlobals, d.clo.map (·, 0), builtinsNs) := e
      rw [hc] at e2
      simp only [Option.some.injEq, Prod.mk.injEq, List.map_nil, List.map_eq_nil_iff] at e2
      obtain ⟨h1, h2, h3, h4, h5, h6, h7, h8⟩ := e2
      subst h1 h2 h3 h4 h5 h6 h7 h8
      have c3 : (PySem.W.codeIn K n13 d.qual && (He.dflB K n8 (d.dfl.map (He.Dv.v K)) && He.kwdB K n9 (d.kwd.map fun q => (q.1, He.Dv.v K q.2)))) = true := c2
      obtain ⟨k1, k2⟩ := He.ba c3
      obtain ⟨k3, k4⟩ := He.ba k2
      exact ⟨_, ⟨oc, od, n8, n9, n10, n11, n12, n13, n14, osl, rfl, q, k1, He.dflB_ok k3, He.kwdB_ok k4⟩, kp⟩
    | _ => cases c2
abbrev AlX : Type := Bool × List He.FnW
def obsX (fb : List (PySem.W.Frag → Bool)) (fx : List DefX) (K : PySem.W.Frag) : AlX := ((fb.all fun f => f K) && fx.all fun d => d.ok K, fx.map fun d => fnX K (d.at_ K))
def valX (fx : List DefX) : AlX := (true, fx.map DefX.val)
def SaysX (fb : List (PySem.W.Frag → Bool)) (fx : List DefX) (K : PySem.W.Frag) : Prop := obsX fb fx K = valX fx
/-- what the module's names and the C statics reach in n steps -/
def asX (g : Addr → Option Obj) : Nat → List Addr
  | 0 => [mainGlobals, cStatics]
  | n + 1 => He.growD g (asX g n)
def obsXG (n : Nat) (fb : List (PySem.W.Frag → Bool)) (fx : List DefX) (g : Addr → Option Obj) : AlX := obsX fb fx (He.frG g (asX g n))
def hookX (n : Nat) (fb : List (PySem.W.Frag → Bool)) (fx : List DefX) : PySem.W.Hook where
  α := AlX
  obs := fun s => obsXG n fb fx s.heap.get?
  val := fun _ => valX fx
  says := fun _ h => ∃ K : PySem.W.Frag, K.In h ∧ SaysX fb fx K
  of := fun _ _ e => ⟨_, He.frG_in, e⟩
  keeps := fun _ _ _ ⟨K, hK, c⟩ k => ⟨K, PySem.W.Frag.In.keeps hK k, c⟩
theorem obsXG_eq {n : Nat} {fb : List (PySem.W.Frag → Bool)} {fx : List DefX} {g : Addr → Option Obj} {s : Shared} (h : ∀ a, g a = s.heap.get? a) : obsXG n fb fx g = (hookX n fb fx).obs s := by
  have e : g = s.heap.get? := funext h
  rw [e] <;> rfl
/-- the same, over addresses that are written out -/
def obsXL (as : List Addr) (fb : List (PySem.W.Frag → Bool)) (fx : List DefX) (g : Addr → Option Obj) : AlX := obsX fb fx (He.frG g as)
def hookL (as : List Addr) (fb : List (PySem.W.Frag → Bool)) (fx : List DefX) : PySem.W.Hook where
  α := AlX
  obs := fun s => obsXL as fb fx s.heap.get?
  val := fun _ => valX fx
  says := fun _ h => ∃ K : PySem.W.Frag, K.In h ∧ SaysX fb fx K
  of := fun _ _ e => ⟨_, He.frG_in, e⟩
  keeps := fun _ _ _ ⟨K, hK, c⟩ k => ⟨K, PySem.W.Frag.In.keeps hK k, c⟩
theorem obsXL_eq {as : List Addr} {fb : List (PySem.W.Frag → Bool)} {fx : List DefX} {g : Addr → Option Obj} {s : Shared} (h : ∀ a, g a = s.heap.get? a) : obsXL as fb fx g = (hookL as fb fx).obs s := by
  have e : g = s.heap.get? := funext h
  rw [e] <;> rfl
section
variable {fb : List (PySem.W.Frag → Bool)} {fx : List DefX} {K : PySem.W.Frag}
theorem SaysX.fact (c : SaysX fb fx K) (i : Nat) {f : PySem.W.Frag → Bool} (h : fb[i]? = some f := by rfl) : f K = true := by
  have c1 := (He.ba (show ((fb.all fun f => f K) && fx.all fun d => d.ok K) = true from congrArg (fun z : AlX => z.1) c)).1
  exact List.all_eq_true.mp c1 f (List.mem_of_getElem? h)
theorem SaysX.def_ (c : SaysX fb fx K) (i : Nat) {d : DefX} (h : fx[i]? = some d := by rfl) (hc : d.clo = [] := by rfl) : ∃ fd, FunD K d.name d.qual d.params d.body d.scope (d.dfl.map (He.Dv.v K)) (d.kwd.map fun q => (q.1, He.Dv.v K q.2)) (d.at_ K) fd := by
  have c2 := (He.ba (show ((fb.all fun f => f K) && fx.all fun d => d.ok K) = true from congrArg (fun z : AlX => z.1) c)).2
  have e : fx.map (fun d => fnX K (d.at_ K)) = fx.map DefX.val := congrArg (fun z : AlX => z.2) c
  have e2 : (fx.map fun d => fnX K (d.at_ K))[i]? = (fx.map DefX.val)[i]? := by rw [e]
  rw [List.getElem?_map, List.getElem?_map, h] at e2
  exact DefX.funD hc (Option.some.inj e2) (List.all_eq_true.mp c2 d (List.mem_of_getElem? h))
end
/-! ### own facts -/
def gof (kind : String) (K : PySem.W.Frag) (p : Addr) : Addr := match PySem.W.recIn K p kind with
  | some (.ref g :: _) => g
  | _ => 0
def decO (a : Option (Option Value)) (b : Option (Option Value)) : Bool := decide (a = b)
def propB (x m : Str) (K : PySem.W.Frag) : Bool :=
  decO (PySem.W.findIn K (.ref (He.ga K x)) m) (some (some (.ref (He.ma K (He.ga K x) m)))) && (decO (PySem.W.specialIn K (.ref (He.ma K (He.ga K x) m)) "__get__") (some (some (.builtin "property.__get__"))) &&
    (decide (PySem.W.takesIn K (.ref (He.ma K (He.ga K x) m)) = some true) && (match PySem.W.recIn K (He.ma K (He.ga K x) m) "property" with
      | some (.ref _ :: _) => true
      | _ => false)))
theorem propB_ok {x m : Str} {K : PySem.W.Frag} (h : propB x m K = true) : PropOf K (He.ga K x) m (He.ma K (He.ga K x) m) (gof "property" K (He.ma K (He.ga K x) m)) := by
  obtain ⟨h1, h⟩ := He.ba h
  obtain ⟨h2, h⟩ := He.ba h
  obtain ⟨h3, h4⟩ := He.ba h
  refine ⟨of_decide_eq_true h1, of_decide_eq_true h2, of_decide_eq_true h3, ?_⟩
  unfold gof
  split at h4
  · rename_i g r e
    rw [e]
    exact ⟨r, rfl⟩
  · cases h4
def isoB (x : Str) (K : PySem.W.Frag) : Bool :=
  decO (PySem.W.findIn K (.ref (He.ga K x)) "__class__") (some (some (.builtin "object.__class__"))) && (decO (PySem.W.specialIn K (.builtin "object.__class__") "__get__") (some (some (.builtin "getset_descriptor.__get__"))) &&
    (decide (PySem.W.takesIn K (.builtin "object.__class__") = some true) && decide (PySem.W.mroIn K (He.ga K x) (.type "object") = some true)))
theorem isoB_ok {x : Str} {K : PySem.W.Frag} (h : isoB x K = true) : IsO K (He.ga K x) := by
  obtain ⟨h1, h⟩ := He.ba h
  obtain ⟨h2, h⟩ := He.ba h
  obtain ⟨h3, h4⟩ := He.ba h
  exact ⟨of_decide_eq_true h1, of_decide_eq_true h2, of_decide_eq_true h3, of_decide_eq_true h4⟩
def kindB (x : Str) (K : PySem.W.Frag) : Bool := bNames.all fun n => decide (PySem.W.kitOne K (.type n) (.ref (He.ga K x)) = some false) && (decide (PySem.W.subIn K (.type n) (.ref (He.ga K x)) = some false) && decide (PySem.W.subIn K (.ref (He.ga K x)) (.type n) = some false))
theorem kindB_ok {x : Str} {K : PySem.W.Frag} (h : kindB x K = true) : KindO K (He.ga K x) := by
  have g : ∀ n ∈ bNames, PySem.W.kitOne K (.type n) (.ref (He.ga K x)) = some false ∧ PySem.W.subIn K (.type n) (.ref (He.ga K x)) = some false ∧ PySem.W.subIn K (.ref (He.ga K x)) (.type n) = some false := fun n hn => by
    have := List.all_eq_true.mp h n hn
    rw [Bool.and_eq_true, Bool.and_eq_true, decide_eq_true_eq, decide_eq_true_eq, decide_eq_true_eq] at this
    exact this
  exact ⟨fun n hn => (g n hn).1, fun n hn => (g n hn).2.1, fun n hn => (g n hn).2.2⟩
def neB_ (x : Str) (K : PySem.W.Frag) : Bool := decO (PySem.W.findIn K (.ref (He.ga K x)) "__ne__") (some (some (.builtin "object.__ne__"))) && decide (PySem.W.mroIn K (He.ga K x) (.type "object") = some true)
theorem neB_ok {x : Str} {K : PySem.W.Frag} (h : neB_ x K = true) : NeOf K (He.ga K x) := by
  obtain ⟨h1, h2⟩ := He.ba h
  exact ⟨of_decide_eq_true h1, of_decide_eq_true h2⟩
end Tr

/-! # The head's facts on own exceptions (wants A14). -/
namespace Tr
open PySem PySem.Spec PyProof.Rows L2
def cellB (K : PySem.W.Frag) (cc C : Addr) : Bool := match K.lookup cc with
  | some ⟨_, _, .cell (some v), _⟩ => decide (v = .ref C)
  | _ => false
theorem cellB_ok {K : PySem.W.Frag} {cc C : Addr} (h : cellB K cc C = true) : ∃ cl cld csl, K.lookup cc = some ⟨cl, cld, .cell (some (.ref C)), csl⟩ := by
  unfold cellB at h
  split at h
  · rename_i a b v d e
    have := of_decide_eq_true h
    subst this
    exact ⟨_, _, _, e⟩
  · cases h
def fileB (K : PySem.W.Frag) (cdv : Value) : Bool := match cdv with
  | .ref c => (match K.lookup c with
    | some ⟨_, _, .fields vs, _⟩ => (match (vs[2]? : Option Value) with
      | some (Value.str n _) => n == ("/claim/cut.py" : Str)
      | _ => false)
    | _ => false)
  | _ => false
theorem fileB_ok {K : PySem.W.Frag} {cdv : Value} (h : fileB K cdv = true) : ∃ cda ccl cdd ccs, ∃ (vs : Array Value) (tf : Tok), cdv = .ref cda ∧ K.lookup cda = some ⟨ccl, cdd, .fields vs, ccs⟩ ∧ vs[2]? = some (.str "/claim/cut.py" tf) := by
  unfold fileB at h
  split at h
  · split at h
    · split at h
      · rename_i c a b vs d e x n t e2
        have := eq_of_beq h
        subst this
        exact ⟨_, _, _, _, _, _, rfl, e, e2⟩
      · cases h
    · cases h
  · cases h
def closB (K : PySem.W.Frag) (C : Addr) : List (Str × Addr) → Bool
  | [(_, cc)] => cellB K cc C
  | _ => false
def exnFnB (K : PySem.W.Frag) (f C : Addr) : Bool := match K.lookup f with
  | some ⟨_, _, .func fd, _⟩ => closB K C fd.closure && fileB K fd.code
  | _ => false
/-- a def with the cell of __class__ -/
theorem DefX.funC {K : PySem.W.Frag} {d : DefX} {C : Addr} (hc : d.clo = [("__class__" : Str)]) (hd : d.dfl = []) (e : fnX K (d.at_ K) = d.val) (c : d.ok K = true) (h : exnFnB K (d.at_ K) C = true) :
    ∃ (cc cda : Addr) (kV doc pm ct oc ccl cl : Value) (an od cdd cld : Option Addr) (osl ccs csl : Array (Option Value)) (vs : Array Value) (tf : Tok),
      K.lookup (d.at_ K) = some ⟨oc, od, .func (PySem.W.fnX d.name d.qual d.params d.body d.scope [("__class__", cc)] .none kV doc pm an (.ref cda) ct), osl⟩ ∧ PySem.W.codeIn K (.ref cda) d.qual = true ∧
      K.lookup cda = some ⟨ccl, cdd, .fields vs, ccs⟩ ∧ vs[2]? = some (.str "/claim/cut.py" tf) ∧ K.lookup cc = some ⟨cl, cld, .cell (some (.ref C)), csl⟩ := by
  obtain ⟨kp, c2⟩ := He.ba c
  unfold fnX at e
  unfold exnFnB at h
  cases q : K.lookup (d.at_ K) with
  | none =>
    rw [q] at c2
    cases c2
  | some o =>
    obtain ⟨oc, od, dt, osl⟩ := o
    rw [q] at c2 e h
    cases dt with
    | func fd =>
      obtain ⟨n1, n2, n3, n4, n5, n6, n7, n8, n9, n10, n11, n12, n13, n14, n15⟩ := fd
      have e2 : (some (n1, n2, n3, n4, n5, n6, n7.map fun p => (p.1, 0), n15) : He.FnW) = some (d.name, d.qual, d.params, .stmts d.body, d.scope, mainGlobals, d.clo.map (·, 0), builtinsNs) := e
      rw [hc] at e2
      simp only [Option.some.injEq, Prod.mk.injEq] at e2
      obtain ⟨h1, h2, h3, h4, h5, h6, h7, h8⟩ := e2
      subst h1 h2 h3 h4 h5 h6 h8
      have c3 : (PySem.W.codeIn K n13 d.qual && (He.dflB K n8 (d.dfl.map (He.Dv.v K)) && He.kwdB K n9 (d.kwd.map fun q => (q.1, He.Dv.v K q.2)))) = true := c2
      obtain ⟨k1, k2⟩ := He.ba c3
      obtain ⟨k3, k4⟩ := He.ba k2
      rw [hd] at k3
      obtain rfl : n8 = .none := by
        rcases He.dflB_ok k3 with ⟨_, z⟩ | ⟨z, _⟩
        · exact z
        · exact absurd rfl z
      have h' : (closB K C n7 && fileB K n13) = true := h
      obtain ⟨g1, g2⟩ := He.ba h'
      obtain ⟨cda, ccl, cdd, ccs, vs, tf, rfl, f1, f2⟩ := fileB_ok g2
      match n7, h7, g1 with
      | [(n, cc)], h7, g1 =>
        obtain ⟨cl, cld, csl, f3⟩ := cellB_ok g1
        have : n = "__class__" := by
          have z : [(n, 0)] = [(("__class__" : Str), 0)] := h7
          exact (Prod.mk.inj (List.cons.inj z).1).1
        subst this
        exact ⟨_, _, _, _, _, _, _, _, _, _, _, _, _, _, _, _, _, _, rfl, k1, f1, f2, f3⟩
      | [], h7, g1 => cases g1
      | _ :: _ :: _, h7, g1 => cases g1
    | _ => cases c2
theorem SaysX.defC {fb : List (PySem.W.Frag → Bool)} {fx : List DefX} {K : PySem.W.Frag} {C : Addr} (c : SaysX fb fx K) (i : Nat) {d : DefX} (h : fx[i]? = some d) (hc : d.clo = [("__class__" : Str)]) (hd : d.dfl = []) (hf : exnFnB K (d.at_ K) C = true) :
    ∃ (cc cda : Addr) (kV doc pm ct oc ccl cl : Value) (an od cdd cld : Option Addr) (osl ccs csl : Array (Option Value)) (vs : Array Value) (tf : Tok),
      K.lookup (d.at_ K) = some ⟨oc, od, .func (PySem.W.fnX d.name d.qual d.params d.body d.scope [("__class__", cc)] .none kV doc pm an (.ref cda) ct), osl⟩ ∧ PySem.W.codeIn K (.ref cda) d.qual = true ∧
      K.lookup cda = some ⟨ccl, cdd, .fields vs, ccs⟩ ∧ vs[2]? = some (.str "/claim/cut.py" tf) ∧ K.lookup cc = some ⟨cl, cld, .cell (some (.ref C)), csl⟩ := by
  have c2 := (He.ba (show ((fb.all fun f => f K) && fx.all fun d => d.ok K) = true from congrArg (fun z : AlX => z.1) c)).2
  have e : fx.map (fun d => fnX K (d.at_ K)) = fx.map DefX.val := congrArg (fun z : AlX => z.2) c
  have e2 : (fx.map fun d => fnX K (d.at_ K))[i]? = (fx.map DefX.val)[i]? := by rw [e]
  rw [List.getElem?_map, List.getElem?_map, h] at e2
  exact DefX.funC hc hd (Option.some.inj e2) (List.all_eq_true.mp c2 d (List.mem_of_getElem? h)) hf
/-- the class -/
def oexB (K : PySem.W.Frag) (C : Addr) : Bool := (match K.lookup C with
  | some ⟨.type "type", _, .cls cd, sl⟩ => (match cd.mro, sl.toList with
    | .ref C' :: bm, [_, _, _, _, some (.builtin n), _] => C' == C && n == "ValueError.__new__" && !cd.hasDel && cd.hasDict && PySem.HandSPX.refsVE bm
    | _, _ => false)
  | _ => false) && (decO (PySem.W.findIn K (.ref C) "__setattr__") (some (some (.builtin "object.__setattr__"))) && (decide (PySem.W.subIn K (.ref C) (.type "BaseException") = some true) && (decide (PySem.W.typeIn K (.ref C) = some (.type "type")) && PySem.W.keepIn K (.ref C))))
theorem oexB_ok {K : PySem.W.Frag} {C : Addr} (h : oexB K C = true) : OexC K C := by
  obtain ⟨q, h⟩ := He.ba h
  obtain ⟨h1, h⟩ := He.ba h
  obtain ⟨h2, h⟩ := He.ba h
  obtain ⟨h3, h4⟩ := He.ba h
  refine ⟨?_, of_decide_eq_true h1, of_decide_eq_true h2, of_decide_eq_true h3, h4⟩
  split at q
  · rename_i dd cd sl ho
    split at q
    · rename_i C' bm k0 k1 k2 k3 n k5 hm hs
      simp only [Bool.and_eq_true, beq_iff_eq, Bool.not_eq_true'] at q
      obtain ⟨⟨⟨⟨rfl, rfl⟩, hdel⟩, hdc⟩, ht⟩ := q
      obtain ⟨nm, bs, mro, ns, qn, hd, sn, sub, ab, col, del⟩ := cd
      dsimp only at hm hdel hdc
      subst hm hdel hdc
      have hsl : sl = #[k0, k1, k2, k3, some (.builtin "ValueError.__new__"), k5] := by
        obtain ⟨l⟩ := sl
        simp only at hs
        rw [hs]
      subst hsl
      exact ⟨nm, qn, ns, bs, bm, sn, sub, ab, col, dd, k0, k1, k2, k3, k5, ho, ht⟩
    · cases q
  · cases q
def exnB (x : Str) (fs : List Str) (K : PySem.W.Frag) : Bool :=
  oexB K (He.ga K x) && (decO (PySem.W.findIn K (.ref (He.ga K x)) "__init__") (some (some (.ref (He.ma K (He.ga K x) "__init__")))) && (decide (PySem.W.typeIn K (.ref (He.ma K (He.ga K x) "__init__")) = some (.type "function")) && (exnFnB K (He.ma K (He.ga K x) "__init__") (He.ga K x) &&
    (decO (PySem.W.nsIn K cStatics "thirdparty.any") (some none) && (decO (PySem.W.ks_superIn K (He.ga K x) (He.ga K x) "__init__") (some (some (.builtin "ValueError.__init__"))) && (decide (PySem.W.mroIn K (He.ga K x) (.ref (He.ga K x)) = some true) &&
      (decide (PySem.W.subIn K (.ref (He.ga K x)) (.type "ValueError") = some true) && (xfB K (He.ga K x) && fs.all fun f => decO (PySem.W.findIn K (.ref (He.ga K x)) f) (some none)))))))))
theorem exnB_ok {fb : List (PySem.W.Frag → Bool)} {fx : List DefX} {K : PySem.W.Frag} {mg : Str → Option Value} {x qual : Str} {st : Stmt} {fs : List Str} (h : exnB x fs K = true) (g : mg x = some (.ref (He.ga K x))) (u : mg "super" = none) (c : SaysX fb fx K) (i : Nat)
    (hi : fx[i]? = some ⟨fun K => He.ma K (He.ga K x) "__init__", "__init__", qual, defArgs st, defBody st, defScope st, [], ["__class__"], []⟩) : Exn K mg x (He.ga K x) qual st fs := by
  obtain ⟨h1, h⟩ := He.ba h
  obtain ⟨h2, h⟩ := He.ba h
  obtain ⟨h3, h⟩ := He.ba h
  obtain ⟨h4, h⟩ := He.ba h
  obtain ⟨h5, h⟩ := He.ba h
  obtain ⟨h6, h⟩ := He.ba h
  obtain ⟨h7, h⟩ := He.ba h
  obtain ⟨h8, h⟩ := He.ba h
  obtain ⟨hx, h9⟩ := He.ba h
  obtain ⟨cc, cda, kV, doc, pm, ct, oc, ccl, cl, an, od, cdd, cld, osl, ccs, csl, vs, tf, e1, e2, e3, e4, e5⟩ := SaysX.defC c i hi rfl rfl h4
  exact ⟨oexB_ok h1, g, u, ⟨_, cc, cda, kV, doc, pm, ct, oc, ccl, cl, an, od, cdd, cld, osl, ccs, csl, vs, tf, of_decide_eq_true h2, of_decide_eq_true h3, e1, e2, e3, e4, e5⟩, of_decide_eq_true h5, of_decide_eq_true h6, of_decide_eq_true h7, of_decide_eq_true h8,
    fun f hf => of_decide_eq_true (List.all_eq_true.mp h9 f hf), xfB_ok hx⟩
end Tr

/-! ### what the top has left -/
namespace Tr
open PySem PySem.Spec PyProof.Rows L2
def fb : List (PySem.W.Frag → Bool) := [
  (fun K => (He.Fa.noat "Mechanism" "own_rounds").ok K),
  (fun K => (He.Fa.noat "Mechanism" "own_seats").ok K),
  (fun K => (He.Fa.noat "Mechanism" "size").ok K),
  (fun K => (He.Fa.noat "Mechanism" "states").ok K),
  (fun K => (He.Fa.noat "Mechanism" "turns").ok K),
  (fun K => (He.Fa.noat "Row" "key").ok K),
  (fun K => (He.Fa.noat "Row" "steps").ok K),
  (fun K => (He.Fa.noat "Row" "turns").ok K),
  (fun K => (He.Fa.noat "Turns" "names").ok K),
  (fun K => (He.Fa.noat "Turns" "pairs").ok K),
  (fun K => (He.Fa.noat "Turns" "periods").ok K),
  (fun K => (He.Fa.noat "Turns" "ranks").ok K),
  (fun K => (He.Fa.free "abs").ok K),
  (fun K => (He.Fa.free "all").ok K),
  (fun K => (He.Fa.free "bool").ok K),
  (fun K => (He.Fa.free "dict").ok K),
  (fun K => (He.Fa.free "enumerate").ok K),
  (fun K => (He.Fa.free "int").ok K),
  (fun K => (He.Fa.free "isinstance").ok K),
  (fun K => (He.Fa.free "len").ok K),
  (fun K => (He.Fa.free "list").ok K),
  (fun K => (He.Fa.free "min").ok K),
  (fun K => (He.Fa.free "range").ok K),
  (fun K => (He.Fa.free "str").ok K),
  (fun K => (He.Fa.free "sum").ok K),
  (fun K => (He.Fa.free "tuple").ok K),
  (fun K => (He.Fa.str "DIGITS" "0123456789").ok K),
  (fun K => (He.Fa.str "LETTERS" "abcdefghijklmnopqrstuvwxyz").ok K),
  (fun K => (He.Fa.int "LONGEST_NAME" 12).ok K),
  (fun K => (He.Fa.int "MOST_LISTED" 1000).ok K),
  (fun K => (He.Fa.glo "_law_clicks").ok K),
  (fun K => (He.Fa.glo "_law_divisors").ok K),
  (fun K => (He.Fa.glo "_law_draw").ok K),
  (fun K => (He.Fa.glo "_law_exponent").ok K),
  (fun K => (He.Fa.glo "_law_listed").ok K),
  (fun K => (He.Fa.glo "_law_made").ok K),
  (fun K => (He.Fa.glo "_law_mixed").ok K),
  (fun K => (He.Fa.glo "_law_pen").ok K),
  (fun K => (He.Fa.glo "_law_pick").ok K),
  (fun K => (He.Fa.glo "_law_round").ok K),
  (fun K => (He.Fa.glo "_law_rounds").ok K),
  (fun K => (He.Fa.glo "_law_shape").ok K),
  (fun K => (He.Fa.glo "_law_size").ok K),
  (fun K => (He.Fa.glo "_law_steps").ok K),
  (fun K => (He.Fa.glo "_law_turns").ok K),
  (fun K => (He.Fa.glo "_law_words").ok K),
  (fun K => (He.Fa.glo "is_name").ok K),
  (fun K => (He.Fa.glo "is_round").ok K),
  (fun K => (He.Fa.glo "is_whole").ok K),
  (fun K => (He.Fa.glo "normal_steps").ok K),
  (fun K => (He.Fa.glo "reduced").ok K),
  (fun K => (He.Fa.glo "step_key").ok K),
  (fun K => (He.Fa.mkr "Row").ok K),
  (fun K => (He.Fa.glo "Row").ok K),
  (empB (He.dflAt ("Row", some "__init__") 0)),
  (getOB "Turns"),
  (fun K => (He.Fa.mkr "Mechanism").ok K),
  (fun K => (He.Fa.glo "Mechanism").ok K),
  (fun K => (He.Fa.mkr "Turns").ok K),
  (fun K => (He.Fa.glo "Turns").ok K),
  (fun K => (He.Fa.cls "Mechanism").ok K),
  (fun K => (He.Fa.cls "Row").ok K),
  (fun K => (He.Fa.cls "Turns").ok K),
  (fun K => (He.Fa.meth "Mechanism" "count_empty").ok K),
  (fun K => (He.Fa.meth "Mechanism" "is_empty").ok K),
  (fun K => (He.Fa.meth "Mechanism" "led").ok K),
  (fun K => (He.Fa.meth "Mechanism" "listed").ok K),
  (fun K => (He.Fa.meth "Mechanism" "need_state").ok K),
  (fun K => (He.Fa.meth "Mechanism" "need_turns").ok K),
  (fun K => (He.Fa.meth "Mechanism" "reached").ok K),
  (fun K => (He.Fa.meth "Mechanism" "stepped").ok K),
  (fun K => (He.Fa.meth "Mechanism" "take_round").ok K),
  (fun K => (He.Fa.meth "Turns" "__contains__").ok K),
  (fun K => (He.Fa.meth "Turns" "__eq__").ok K),
  (fun K => (He.Fa.meth "Turns" "__getitem__").ok K),
  (fun K => (He.Fa.meth "Turns" "period_of").ok K),
  (fun K => (He.Fa.meth "Turns" "rank").ok K),
  (neB_ "Turns"),
  (isoB "Turns"),
  (cconB "Turns" "MOST" (.int 8)),
  (exnB "TooMany" ["what", "many", "most"]),
  (fun K => (He.Fa.glo "TooMany").ok K),
  (fun K => (He.Fa.free "super").ok K),
  (fun K => (He.Fa.glo "law").ok K)]
def fx : List DefX := [
  ⟨fun K => He.ga K "_law_clicks", "_law_clicks", "_law_clicks", defArgs s__law_clicks, defBody s__law_clicks, defScope s__law_clicks, [], [], []⟩,
  ⟨fun K => He.ga K "_law_divisors", "_law_divisors", "_law_divisors", defArgs s__law_divisors, defBody s__law_divisors, defScope s__law_divisors, [], [], []⟩,
  ⟨fun K => He.ga K "_law_draw", "_law_draw", "_law_draw", defArgs s__law_draw, defBody s__law_draw, defScope s__law_draw, [], [], []⟩,
  ⟨fun K => He.ga K "_law_exponent", "_law_exponent", "_law_exponent", defArgs s__law_exponent, defBody s__law_exponent, defScope s__law_exponent, [], [], []⟩,
  ⟨fun K => He.ga K "_law_listed", "_law_listed", "_law_listed", defArgs s__law_listed, defBody s__law_listed, defScope s__law_listed, [], [], []⟩,
  ⟨fun K => He.ga K "_law_made", "_law_made", "_law_made", defArgs s__law_made, defBody s__law_made, defScope s__law_made, [], [], []⟩,
  ⟨fun K => He.ga K "_law_mixed", "_law_mixed", "_law_mixed", defArgs s__law_mixed, defBody s__law_mixed, defScope s__law_mixed, [], [], []⟩,
  ⟨fun K => He.ga K "_law_pen", "_law_pen", "_law_pen", defArgs s__law_pen, defBody s__law_pen, defScope s__law_pen, [], [], []⟩,
  ⟨fun K => He.ga K "_law_pick", "_law_pick", "_law_pick", defArgs s__law_pick, defBody s__law_pick, defScope s__law_pick, [], [], []⟩,
  ⟨fun K => He.ga K "_law_round", "_law_round", "_law_round", defArgs s__law_round, defBody s__law_round, defScope s__law_round, [], [], []⟩,
  ⟨fun K => He.ga K "_law_rounds", "_law_rounds", "_law_rounds", defArgs s__law_rounds, defBody s__law_rounds, defScope s__law_rounds, [], [], []⟩,
  ⟨fun K => He.ga K "_law_shape", "_law_shape", "_law_shape", defArgs s__law_shape, defBody s__law_shape, defScope s__law_shape, [], [], []⟩,
  ⟨fun K => He.ga K "_law_size", "_law_size", "_law_size", defArgs s__law_size, defBody s__law_size, defScope s__law_size, [], [], []⟩,
  ⟨fun K => He.ga K "_law_steps", "_law_steps", "_law_steps", defArgs s__law_steps, defBody s__law_steps, defScope s__law_steps, [], [], []⟩,
  ⟨fun K => He.ga K "_law_turns", "_law_turns", "_law_turns", defArgs s__law_turns, defBody s__law_turns, defScope s__law_turns, [], [], []⟩,
  ⟨fun K => He.ga K "_law_words", "_law_words", "_law_words", defArgs s__law_words, defBody s__law_words, defScope s__law_words, [], [], []⟩,
  ⟨fun K => He.ga K "is_name", "is_name", "is_name", defArgs s_is_name, defBody s_is_name, defScope s_is_name, [], [], []⟩,
  ⟨fun K => He.ga K "is_round", "is_round", "is_round", defArgs s_is_round, defBody s_is_round, defScope s_is_round, [], [], []⟩,
  ⟨fun K => He.ga K "is_whole", "is_whole", "is_whole", defArgs s_is_whole, defBody s_is_whole, defScope s_is_whole, [], [], []⟩,
  ⟨fun K => He.ga K "normal_steps", "normal_steps", "normal_steps", defArgs s_normal_steps, defBody s_normal_steps, defScope s_normal_steps, [], [], []⟩,
  ⟨fun K => He.ga K "reduced", "reduced", "reduced", defArgs s_reduced, defBody s_reduced, defScope s_reduced, [], [], []⟩,
  ⟨fun K => He.ga K "step_key", "step_key", "step_key", defArgs s_step_key, defBody s_step_key, defScope s_step_key, [], [], []⟩,
  ⟨fun K => He.ma K (He.ga K "Row") "__init__", "__init__", "Row.__init__", defArgs s_Row___init__, defBody s_Row___init__, defScope s_Row___init__, [.adr (He.dflAt ("Row", some "__init__") 0)], [], []⟩,
  ⟨fun K => He.ma K (He.ga K "Mechanism") "__init__", "__init__", "Mechanism.__init__", defArgs s_Mechanism___init__, defBody s_Mechanism___init__, defScope s_Mechanism___init__, [], [], []⟩,
  ⟨fun K => He.ma K (He.ga K "Row") "__init__", "__init__", "Row.__init__", defArgs s_Row___init__, defBody s_Row___init__, defScope s_Row___init__, [.adr (He.dflAt ("Row", some "__init__") 0)], [], []⟩,
  ⟨fun K => He.ma K (He.ga K "Turns") "__init__", "__init__", "Turns.__init__", defArgs s_Turns___init__, defBody s_Turns___init__, defScope s_Turns___init__, [], [], []⟩,
  ⟨fun K => He.ma K (He.ga K "Mechanism") "count_empty", "count_empty", "Mechanism.count_empty", defArgs s_Mechanism_count_empty, defBody s_Mechanism_count_empty, defScope s_Mechanism_count_empty, [], [], []⟩,
  ⟨fun K => He.ma K (He.ga K "Mechanism") "is_empty", "is_empty", "Mechanism.is_empty", defArgs s_Mechanism_is_empty, defBody s_Mechanism_is_empty, defScope s_Mechanism_is_empty, [], [], []⟩,
  ⟨fun K => He.ma K (He.ga K "Mechanism") "led", "led", "Mechanism.led", defArgs s_Mechanism_led, defBody s_Mechanism_led, defScope s_Mechanism_led, [], [], []⟩,
  ⟨fun K => He.ma K (He.ga K "Mechanism") "listed", "listed", "Mechanism.listed", defArgs s_Mechanism_listed, defBody s_Mechanism_listed, defScope s_Mechanism_listed, [], [], []⟩,
  ⟨fun K => He.ma K (He.ga K "Mechanism") "need_state", "need_state", "Mechanism.need_state", defArgs s_Mechanism_need_state, defBody s_Mechanism_need_state, defScope s_Mechanism_need_state, [], [], []⟩,
  ⟨fun K => He.ma K (He.ga K "Mechanism") "need_turns", "need_turns", "Mechanism.need_turns", defArgs s_Mechanism_need_turns, defBody s_Mechanism_need_turns, defScope s_Mechanism_need_turns, [], [], []⟩,
  ⟨fun K => He.ma K (He.ga K "Mechanism") "reached", "reached", "Mechanism.reached", defArgs s_Mechanism_reached, defBody s_Mechanism_reached, defScope s_Mechanism_reached, [], [], []⟩,
  ⟨fun K => He.ma K (He.ga K "Mechanism") "stepped", "stepped", "Mechanism.stepped", defArgs s_Mechanism_stepped, defBody s_Mechanism_stepped, defScope s_Mechanism_stepped, [], [], []⟩,
  ⟨fun K => He.ma K (He.ga K "Mechanism") "take_round", "take_round", "Mechanism.take_round", defArgs s_Mechanism_take_round, defBody s_Mechanism_take_round, defScope s_Mechanism_take_round, [], [], []⟩,
  ⟨fun K => He.ma K (He.ga K "Turns") "__contains__", "__contains__", "Turns.__contains__", defArgs s_Turns___contains__, defBody s_Turns___contains__, defScope s_Turns___contains__, [], [], []⟩,
  ⟨fun K => He.ma K (He.ga K "Turns") "__eq__", "__eq__", "Turns.__eq__", defArgs s_Turns___eq__, defBody s_Turns___eq__, defScope s_Turns___eq__, [], [], []⟩,
  ⟨fun K => He.ma K (He.ga K "Turns") "__getitem__", "__getitem__", "Turns.__getitem__", defArgs s_Turns___getitem__, defBody s_Turns___getitem__, defScope s_Turns___getitem__, [], [], []⟩,
  ⟨fun K => He.ma K (He.ga K "Turns") "period_of", "period_of", "Turns.period_of", defArgs s_Turns_period_of, defBody s_Turns_period_of, defScope s_Turns_period_of, [], [], []⟩,
  ⟨fun K => He.ma K (He.ga K "Turns") "rank", "rank", "Turns.rank", defArgs s_Turns_rank, defBody s_Turns_rank, defScope s_Turns_rank, [], [], []⟩,
  ⟨fun K => He.ma K (He.ga K "TooMany") "__init__", "__init__", "TooMany.__init__", defArgs s_TooMany___init__, defBody s_TooMany___init__, defScope s_TooMany___init__, [], ["__class__"], []⟩,
  ⟨fun K => He.ga K "law", "law", "law", defArgs s_law, defBody s_law, defScope s_law, [], [], []⟩]
def d0 : DefX := ⟨fun _ => 0, "law", "law", ⟨[], [], none, [], [], none, []⟩, [], ⟨.function, [], false, false, []⟩, [], [], []⟩
theorem txt_of {K : PySem.W.Frag} {h : Heap} {mg : Str → Option Value} (X : K.In h) (G : h.Ns mainGlobals mg) (c : SaysX fb fx K) : Txt K mg where
  a_Mechanism__own_rounds := He.noat_ok (c.fact 0 (f := (fun K => (He.Fa.noat "Mechanism" "own_rounds").ok K)) rfl)
  a_Mechanism__own_seats := He.noat_ok (c.fact 1 (f := (fun K => (He.Fa.noat "Mechanism" "own_seats").ok K)) rfl)
  a_Mechanism__size := He.noat_ok (c.fact 2 (f := (fun K => (He.Fa.noat "Mechanism" "size").ok K)) rfl)
  a_Mechanism__states := He.noat_ok (c.fact 3 (f := (fun K => (He.Fa.noat "Mechanism" "states").ok K)) rfl)
  a_Mechanism__turns := He.noat_ok (c.fact 4 (f := (fun K => (He.Fa.noat "Mechanism" "turns").ok K)) rfl)
  a_Row__key := He.noat_ok (c.fact 5 (f := (fun K => (He.Fa.noat "Row" "key").ok K)) rfl)
  a_Row__steps := He.noat_ok (c.fact 6 (f := (fun K => (He.Fa.noat "Row" "steps").ok K)) rfl)
  a_Row__turns := He.noat_ok (c.fact 7 (f := (fun K => (He.Fa.noat "Row" "turns").ok K)) rfl)
  a_Turns__names := He.noat_ok (c.fact 8 (f := (fun K => (He.Fa.noat "Turns" "names").ok K)) rfl)
  a_Turns__pairs := He.noat_ok (c.fact 9 (f := (fun K => (He.Fa.noat "Turns" "pairs").ok K)) rfl)
  a_Turns__periods := He.noat_ok (c.fact 10 (f := (fun K => (He.Fa.noat "Turns" "periods").ok K)) rfl)
  a_Turns__ranks := He.noat_ok (c.fact 11 (f := (fun K => (He.Fa.noat "Turns" "ranks").ok K)) rfl)
  b_abs := He.free_ok X G (c.fact 12 (f := (fun K => (He.Fa.free "abs").ok K)) rfl)
  b_all := He.free_ok X G (c.fact 13 (f := (fun K => (He.Fa.free "all").ok K)) rfl)
  b_bool := He.free_ok X G (c.fact 14 (f := (fun K => (He.Fa.free "bool").ok K)) rfl)
  b_dict := He.free_ok X G (c.fact 15 (f := (fun K => (He.Fa.free "dict").ok K)) rfl)
  b_enumerate := He.free_ok X G (c.fact 16 (f := (fun K => (He.Fa.free "enumerate").ok K)) rfl)
  b_int := He.free_ok X G (c.fact 17 (f := (fun K => (He.Fa.free "int").ok K)) rfl)
  b_isinstance := He.free_ok X G (c.fact 18 (f := (fun K => (He.Fa.free "isinstance").ok K)) rfl)
  b_len := He.free_ok X G (c.fact 19 (f := (fun K => (He.Fa.free "len").ok K)) rfl)
  b_list := He.free_ok X G (c.fact 20 (f := (fun K => (He.Fa.free "list").ok K)) rfl)
  b_min := He.free_ok X G (c.fact 21 (f := (fun K => (He.Fa.free "min").ok K)) rfl)
  b_range := He.free_ok X G (c.fact 22 (f := (fun K => (He.Fa.free "range").ok K)) rfl)
  b_str := He.free_ok X G (c.fact 23 (f := (fun K => (He.Fa.free "str").ok K)) rfl)
  b_sum := He.free_ok X G (c.fact 24 (f := (fun K => (He.Fa.free "sum").ok K)) rfl)
  b_tuple := He.free_ok X G (c.fact 25 (f := (fun K => (He.Fa.free "tuple").ok K)) rfl)
  c_DIGITS := gconS (He.str_ok X G (c.fact 26 (f := (fun K => (He.Fa.str "DIGITS" "0123456789").ok K)) rfl))
  c_LETTERS := gconS (He.str_ok X G (c.fact 27 (f := (fun K => (He.Fa.str "LETTERS" "abcdefghijklmnopqrstuvwxyz").ok K)) rfl))
  c_LONGEST_NAME := gconI (He.int_ok X G (c.fact 28 (f := (fun K => (He.Fa.int "LONGEST_NAME" 12).ok K)) rfl))
  c_MOST_LISTED := gconI (He.int_ok X G (c.fact 29 (f := (fun K => (He.Fa.int "MOST_LISTED" 1000).ok K)) rfl))
  d__law_clicks := let ⟨fd, F⟩ := c.def_ 0 (d := fx.getD 0 d0) rfl; ⟨_, fd, F.fun_, He.glo_ok X G (c.fact 30 (f := (fun K => (He.Fa.glo "_law_clicks").ok K)) rfl)⟩
  d__law_divisors := let ⟨fd, F⟩ := c.def_ 1 (d := fx.getD 1 d0) rfl; ⟨_, fd, F.fun_, He.glo_ok X G (c.fact 31 (f := (fun K => (He.Fa.glo "_law_divisors").ok K)) rfl)⟩
  d__law_draw := let ⟨fd, F⟩ := c.def_ 2 (d := fx.getD 2 d0) rfl; ⟨_, fd, F.fun_, He.glo_ok X G (c.fact 32 (f := (fun K => (He.Fa.glo "_law_draw").ok K)) rfl)⟩
  d__law_exponent := let ⟨fd, F⟩ := c.def_ 3 (d := fx.getD 3 d0) rfl; ⟨_, fd, F.fun_, He.glo_ok X G (c.fact 33 (f := (fun K => (He.Fa.glo "_law_exponent").ok K)) rfl)⟩
  d__law_listed := let ⟨fd, F⟩ := c.def_ 4 (d := fx.getD 4 d0) rfl; ⟨_, fd, F.fun_, He.glo_ok X G (c.fact 34 (f := (fun K => (He.Fa.glo "_law_listed").ok K)) rfl)⟩
  d__law_made := let ⟨fd, F⟩ := c.def_ 5 (d := fx.getD 5 d0) rfl; ⟨_, fd, F.fun_, He.glo_ok X G (c.fact 35 (f := (fun K => (He.Fa.glo "_law_made").ok K)) rfl)⟩
  d__law_mixed := let ⟨fd, F⟩ := c.def_ 6 (d := fx.getD 6 d0) rfl; ⟨_, fd, F.fun_, He.glo_ok X G (c.fact 36 (f := (fun K => (He.Fa.glo "_law_mixed").ok K)) rfl)⟩
  d__law_pen := let ⟨fd, F⟩ := c.def_ 7 (d := fx.getD 7 d0) rfl; ⟨_, fd, F.fun_, He.glo_ok X G (c.fact 37 (f := (fun K => (He.Fa.glo "_law_pen").ok K)) rfl)⟩
  d__law_pick := let ⟨fd, F⟩ := c.def_ 8 (d := fx.getD 8 d0) rfl; ⟨_, fd, F.fun_, He.glo_ok X G (c.fact 38 (f := (fun K => (He.Fa.glo "_law_pick").ok K)) rfl)⟩
  d__law_round := let ⟨fd, F⟩ := c.def_ 9 (d := fx.getD 9 d0) rfl; ⟨_, fd, F.fun_, He.glo_ok X G (c.fact 39 (f := (fun K => (He.Fa.glo "_law_round").ok K)) rfl)⟩
  d__law_rounds := let ⟨fd, F⟩ := c.def_ 10 (d := fx.getD 10 d0) rfl; ⟨_, fd, F.fun_, He.glo_ok X G (c.fact 40 (f := (fun K => (He.Fa.glo "_law_rounds").ok K)) rfl)⟩
  d__law_shape := let ⟨fd, F⟩ := c.def_ 11 (d := fx.getD 11 d0) rfl; ⟨_, fd, F.fun_, He.glo_ok X G (c.fact 41 (f := (fun K => (He.Fa.glo "_law_shape").ok K)) rfl)⟩
  d__law_size := let ⟨fd, F⟩ := c.def_ 12 (d := fx.getD 12 d0) rfl; ⟨_, fd, F.fun_, He.glo_ok X G (c.fact 42 (f := (fun K => (He.Fa.glo "_law_size").ok K)) rfl)⟩
  d__law_steps := let ⟨fd, F⟩ := c.def_ 13 (d := fx.getD 13 d0) rfl; ⟨_, fd, F.fun_, He.glo_ok X G (c.fact 43 (f := (fun K => (He.Fa.glo "_law_steps").ok K)) rfl)⟩
  d__law_turns := let ⟨fd, F⟩ := c.def_ 14 (d := fx.getD 14 d0) rfl; ⟨_, fd, F.fun_, He.glo_ok X G (c.fact 44 (f := (fun K => (He.Fa.glo "_law_turns").ok K)) rfl)⟩
  d__law_words := let ⟨fd, F⟩ := c.def_ 15 (d := fx.getD 15 d0) rfl; ⟨_, fd, F.fun_, He.glo_ok X G (c.fact 45 (f := (fun K => (He.Fa.glo "_law_words").ok K)) rfl)⟩
  d_is_name := let ⟨fd, F⟩ := c.def_ 16 (d := fx.getD 16 d0) rfl; ⟨_, fd, F.fun_, He.glo_ok X G (c.fact 46 (f := (fun K => (He.Fa.glo "is_name").ok K)) rfl)⟩
  d_is_round := let ⟨fd, F⟩ := c.def_ 17 (d := fx.getD 17 d0) rfl; ⟨_, fd, F.fun_, He.glo_ok X G (c.fact 47 (f := (fun K => (He.Fa.glo "is_round").ok K)) rfl)⟩
  d_is_whole := let ⟨fd, F⟩ := c.def_ 18 (d := fx.getD 18 d0) rfl; ⟨_, fd, F.fun_, He.glo_ok X G (c.fact 48 (f := (fun K => (He.Fa.glo "is_whole").ok K)) rfl)⟩
  d_normal_steps := let ⟨fd, F⟩ := c.def_ 19 (d := fx.getD 19 d0) rfl; ⟨_, fd, F.fun_, He.glo_ok X G (c.fact 49 (f := (fun K => (He.Fa.glo "normal_steps").ok K)) rfl)⟩
  d_reduced := let ⟨fd, F⟩ := c.def_ 20 (d := fx.getD 20 d0) rfl; ⟨_, fd, F.fun_, He.glo_ok X G (c.fact 50 (f := (fun K => (He.Fa.glo "reduced").ok K)) rfl)⟩
  d_step_key := let ⟨fd, F⟩ := c.def_ 21 (d := fx.getD 21 d0) rfl; ⟨_, fd, F.fun_, He.glo_ok X G (c.fact 51 (f := (fun K => (He.Fa.glo "step_key").ok K)) rfl)⟩
  e_Row := let ⟨fd, F⟩ := c.def_ 22 (d := fx.getD 22 d0) rfl; ⟨_, fd, _, He.mkr_ok (c.fact 52 (f := (fun K => (He.Fa.mkr "Row").ok K)) rfl), He.glo_ok X G (c.fact 53 (f := (fun K => (He.Fa.glo "Row").ok K)) rfl), F, empB_ok (c.fact 54 (f := (empB (He.dflAt ("Row", some "__init__") 0))) rfl)⟩
  g_Turns := getOB_ok (c.fact 55 (f := (getOB "Turns")) rfl)
  i_Mechanism := let ⟨fd, F⟩ := c.def_ 23 (d := fx.getD 23 d0) rfl; ⟨_, fd, _, He.mkr_ok (c.fact 56 (f := (fun K => (He.Fa.mkr "Mechanism").ok K)) rfl), He.glo_ok X G (c.fact 57 (f := (fun K => (He.Fa.glo "Mechanism").ok K)) rfl), F, rfl⟩
  i_Row := let ⟨fd, F⟩ := c.def_ 24 (d := fx.getD 24 d0) rfl; ⟨_, fd, _, He.mkr_ok (c.fact 52 (f := (fun K => (He.Fa.mkr "Row").ok K)) rfl), He.glo_ok X G (c.fact 53 (f := (fun K => (He.Fa.glo "Row").ok K)) rfl), F, rfl⟩
  i_Turns := let ⟨fd, F⟩ := c.def_ 25 (d := fx.getD 25 d0) rfl; ⟨_, fd, _, He.mkr_ok (c.fact 58 (f := (fun K => (He.Fa.mkr "Turns").ok K)) rfl), He.glo_ok X G (c.fact 59 (f := (fun K => (He.Fa.glo "Turns").ok K)) rfl), F, rfl⟩
  k_Mechanism := He.cls_ok (c.fact 60 (f := (fun K => (He.Fa.cls "Mechanism").ok K)) rfl)
  k_Row := He.cls_ok (c.fact 61 (f := (fun K => (He.Fa.cls "Row").ok K)) rfl)
  k_Turns := He.cls_ok (c.fact 62 (f := (fun K => (He.Fa.cls "Turns").ok K)) rfl)
  m_Mechanism__count_empty := let ⟨fd, F⟩ := c.def_ 26 (d := fx.getD 26 d0) rfl; ⟨He.cls_ok (c.fact 60 (f := (fun K => (He.Fa.cls "Mechanism").ok K)) rfl), _, fd, He.meth_ok (c.fact 63 (f := (fun K => (He.Fa.meth "Mechanism" "count_empty").ok K)) rfl), F.fun_⟩
  m_Mechanism__is_empty := let ⟨fd, F⟩ := c.def_ 27 (d := fx.getD 27 d0) rfl; ⟨He.cls_ok (c.fact 60 (f := (fun K => (He.Fa.cls "Mechanism").ok K)) rfl), _, fd, He.meth_ok (c.fact 64 (f := (fun K => (He.Fa.meth "Mechanism" "is_empty").ok K)) rfl), F.fun_⟩
  m_Mechanism__led := let ⟨fd, F⟩ := c.def_ 28 (d := fx.getD 28 d0) rfl; ⟨He.cls_ok (c.fact 60 (f := (fun K => (He.Fa.cls "Mechanism").ok K)) rfl), _, fd, He.meth_ok (c.fact 65 (f := (fun K => (He.Fa.meth "Mechanism" "led").ok K)) rfl), F.fun_⟩
  m_Mechanism__listed := let ⟨fd, F⟩ := c.def_ 29 (d := fx.getD 29 d0) rfl; ⟨He.cls_ok (c.fact 60 (f := (fun K => (He.Fa.cls "Mechanism").ok K)) rfl), _, fd, He.meth_ok (c.fact 66 (f := (fun K => (He.Fa.meth "Mechanism" "listed").ok K)) rfl), F.fun_⟩
  m_Mechanism__need_state := let ⟨fd, F⟩ := c.def_ 30 (d := fx.getD 30 d0) rfl; ⟨He.cls_ok (c.fact 60 (f := (fun K => (He.Fa.cls "Mechanism").ok K)) rfl), _, fd, He.meth_ok (c.fact 67 (f := (fun K => (He.Fa.meth "Mechanism" "need_state").ok K)) rfl), F.fun_⟩
  m_Mechanism__need_turns := let ⟨fd, F⟩ := c.def_ 31 (d := fx.getD 31 d0) rfl; ⟨He.cls_ok (c.fact 60 (f := (fun K => (He.Fa.cls "Mechanism").ok K)) rfl), _, fd, He.meth_ok (c.fact 68 (f := (fun K => (He.Fa.meth "Mechanism" "need_turns").ok K)) rfl), F.fun_⟩
  m_Mechanism__reached := let ⟨fd, F⟩ := c.def_ 32 (d := fx.getD 32 d0) rfl; ⟨He.cls_ok (c.fact 60 (f := (fun K => (He.Fa.cls "Mechanism").ok K)) rfl), _, fd, He.meth_ok (c.fact 69 (f := (fun K => (He.Fa.meth "Mechanism" "reached").ok K)) rfl), F.fun_⟩
  m_Mechanism__stepped := let ⟨fd, F⟩ := c.def_ 33 (d := fx.getD 33 d0) rfl; ⟨He.cls_ok (c.fact 60 (f := (fun K => (He.Fa.cls "Mechanism").ok K)) rfl), _, fd, He.meth_ok (c.fact 70 (f := (fun K => (He.Fa.meth "Mechanism" "stepped").ok K)) rfl), F.fun_⟩
  m_Mechanism__take_round := let ⟨fd, F⟩ := c.def_ 34 (d := fx.getD 34 d0) rfl; ⟨He.cls_ok (c.fact 60 (f := (fun K => (He.Fa.cls "Mechanism").ok K)) rfl), _, fd, He.meth_ok (c.fact 71 (f := (fun K => (He.Fa.meth "Mechanism" "take_round").ok K)) rfl), F.fun_⟩
  m_Turns____contains__ := let ⟨fd, F⟩ := c.def_ 35 (d := fx.getD 35 d0) rfl; ⟨He.cls_ok (c.fact 62 (f := (fun K => (He.Fa.cls "Turns").ok K)) rfl), _, fd, He.meth_ok (c.fact 72 (f := (fun K => (He.Fa.meth "Turns" "__contains__").ok K)) rfl), F.fun_⟩
  m_Turns____eq__ := let ⟨fd, F⟩ := c.def_ 36 (d := fx.getD 36 d0) rfl; ⟨He.cls_ok (c.fact 62 (f := (fun K => (He.Fa.cls "Turns").ok K)) rfl), _, fd, He.meth_ok (c.fact 73 (f := (fun K => (He.Fa.meth "Turns" "__eq__").ok K)) rfl), F.fun_⟩
  m_Turns____getitem__ := let ⟨fd, F⟩ := c.def_ 37 (d := fx.getD 37 d0) rfl; ⟨He.cls_ok (c.fact 62 (f := (fun K => (He.Fa.cls "Turns").ok K)) rfl), _, fd, He.meth_ok (c.fact 74 (f := (fun K => (He.Fa.meth "Turns" "__getitem__").ok K)) rfl), F.fun_⟩
  m_Turns__period_of := let ⟨fd, F⟩ := c.def_ 38 (d := fx.getD 38 d0) rfl; ⟨He.cls_ok (c.fact 62 (f := (fun K => (He.Fa.cls "Turns").ok K)) rfl), _, fd, He.meth_ok (c.fact 75 (f := (fun K => (He.Fa.meth "Turns" "period_of").ok K)) rfl), F.fun_⟩
  m_Turns__rank := let ⟨fd, F⟩ := c.def_ 39 (d := fx.getD 39 d0) rfl; ⟨He.cls_ok (c.fact 62 (f := (fun K => (He.Fa.cls "Turns").ok K)) rfl), _, fd, He.meth_ok (c.fact 76 (f := (fun K => (He.Fa.meth "Turns" "rank").ok K)) rfl), F.fun_⟩
  n_Turns := neB_ok (c.fact 77 (f := (neB_ "Turns")) rfl)
  o_Turns := isoB_ok (c.fact 78 (f := (isoB "Turns")) rfl)
  q_Turns__MOST := cconB_ok (c.fact 79 (f := (cconB "Turns" "MOST" (.int 8))) rfl)
  v_Turns := He.glo_ok X G (c.fact 59 (f := (fun K => (He.Fa.glo "Turns").ok K)) rfl)
  x_TooMany := exnB_ok (c.fact 80 (f := (exnB "TooMany" ["what", "many", "most"])) rfl) (He.glo_ok X G (c.fact 81 (f := (fun K => (He.Fa.glo "TooMany").ok K)) rfl)) (He.free_ok X G (c.fact 82 (f := (fun K => (He.Fa.free "super").ok K)) rfl)) c 40 rfl
def names : List PySem.Str := (["_wall", "TurnError", "BadName", "TwiceNamed", "BadPeriod", "NoTurns", "TooMany", "NoTurn", "OtherTurns", "BadText", "BadRound", "NoState", "LETTERS", "DIGITS", "LONGEST_NAME", "is_name", "reduced", "normal_steps", "step_key", "read_step", "Row", "is_whole", "Turns", "MOST_LISTED", "is_round", "Mechanism", "_law_pen", "_law_draw", "_law_pick", "_law_mixed"] : List PySem.Str) ++ (["_law_words", "_law_turns", "_law_exponent", "_law_steps", "_law_divisors", "_law_size", "_law_round", "_law_rounds", "_law_shape", "_law_listed", "_law_made", "_law_clicks"] : List PySem.Str)
abbrev R : PySem.W.OpenRow := PySem.W.OpenLaw.row PySem.Challenge.rw_turnrings_k47_whole_turns_map_one_to_one
instance pmain : PMain PySem.Challenge.rw_turnrings_k47_whole_turns_map_one_to_one.prog := ⟨by rfl, by rfl⟩
def hk : PySem.W.Hook := hookX 5 fb fx
def ob (s : PySem.W.SharedT) : AlX := obsXG 5 fb fx (HandSHeadRun.getT s)
theorem ob_eq (s : PySem.W.SharedT) : ob s = hk.obs s.abs := obsXG_eq (HandSHeadRun.getT_eq s)
theorem map3 {α β γ δ : Type} {o : Option α} {f : α → β} {g : α → γ} {h : α → δ} {x : β} {y : γ} {z : δ} (a : o.map f = some x) (b : o.map g = some y) (c : o.map h = some z) : o.map (fun s => (f s, g s, h s)) = some (x, y, z) := by
  cases o with
  | none => cases a
  | some s =>
    have a := Option.some.inj a
    have b := Option.some.inj b
    have c := Option.some.inj c
    show some (f s, g s, h s) = _
    rw [a, b, c]
theorem runL (w : World) (os : OsState) : (HandSHeadRun.endF (HandSHeadRun.stepQ (HandSHeadRun.denQ HandSHeadRun.tabQ) R.prog w) 40000 R.prog w os).map (fun s => HandSHeadRun.looksF R.prog (PySem.W.boot_heap w.params) s.abs) = some true := by kernel_rfl
open PySem PySem.W in
theorem runS (w : World) (os : OsState) : (HandSHeadRun.endF (HandSHeadRun.stepQ (HandSHeadRun.denQ HandSHeadRun.tabQ) R.prog w) 40000 R.prog w os).map (fun s => HandSHeadRun.seenQ (PySem.W.view R.prog [48]) names (importedModules R.prog.main.body) (fun s => PySem.W.xlAt (PySem.W.view R.prog [48]) [] s && PySem.W.recOk R.toRowW.records s) s.abs) = some (PySem.W.openGood (PySem.W.view R.prog [48]) names) := by kernel_rfl
theorem runO (w : World) (os : OsState) : (HandSHeadRun.endF (HandSHeadRun.stepQ (HandSHeadRun.denQ HandSHeadRun.tabQ) R.prog w) 40000 R.prog w os).map (fun s => ob s) = some (hk.val w) := by kernel_rfl
theorem run (w : World) : HandSHeadRun.RunEq R (PySem.W.view R.prog [48]) hk ob 40000 names w := fun os => map3 (runL w os) (runS w os) (runO w os)
end Tr
open PySem PySem.W PySem.Calls PyProof.Rows
set_option maxHeartbeats 0
theorem PySem.Challenge.cw_turnrings_k47_whole_turns_map_one_to_one_holds : PySem.Challenge.rw_turnrings_k47_whole_turns_map_one_to_one.Holds := by
  w_on; o_law
  refine HandSHeadRun.head_any (r := OpenLaw.row PySem.Challenge.rw_turnrings_k47_whole_turns_map_one_to_one) (q := view (OpenLaw.row PySem.Challenge.rw_turnrings_k47_whole_turns_map_one_to_one).prog [48]) (H := Tr.hk) (ob := Tr.ob) (M := 40000) (loose := Tr.names) (d := HandSHeadRun.topDef (OpenLaw.row PySem.Challenge.rw_turnrings_k47_whole_turns_map_one_to_one).prog 48) (kwd := []) Tr.ob_eq
    (by kernel_rfl) (fun s => by kernel_rfl) Tr.run (by kernel_rfl) (by kernel_rfl) (by kernel_rfl) (by rfl) (by first | assumption | decide +kernel) (by decide +kernel) ⟨rfl, rfl, rfl, rfl, rfl, by decide +kernel⟩ ?hw ?hc
  case hw => w_witness2
  case hc =>
    refine L2.walk_ofE (l := PySem.Challenge.rw_turnrings_k47_whole_turns_map_one_to_one) (n := 63) (k := 80) (x := "_law_script") (CX := L2.CX0) rfl (by decide) (by kernel_rfl) ⟨rfl, by decide, by decide⟩ ?F (fun _ _ _ _ z => z)
    intro w mg fa h Y G hmg0
    obtain ⟨K, KX, c⟩ := Y
    have hmg : mg ("law" : PySem.Str) = some (.ref fa) := by
      have e : (HandSHeadRun.topDef (OpenLaw.row PySem.Challenge.rw_turnrings_k47_whole_turns_map_one_to_one).prog 48).name = ("law" : PySem.Str) := by kernel_rfl
      rw [← e]
      exact hmg0
    have e := hmg.symm.trans (He.glo_ok KX G (Tr.SaysX.fact c 83 (f := (fun K => (He.Fa.glo "law").ok K)) rfl))
    cases e
    obtain ⟨fd, F⟩ := Tr.SaysX.def_ c 41 (d := Tr.fx.getD 41 Tr.d0) rfl
    have T := Tr.txt_of KX G c
    refine ⟨K, fd, Tr.spLaw K, KX, fun s u => L2.FunD.bindsA (ps := ["_law_script"]) F (fun _ _ _ _ _ _ us hl => match us, hl with | [_], _ => rfl) s [u] rfl, fun H a ns hl _ hS => ⟨a, ns, rfl, hS, fun _ => rfl⟩, fun base _ _ => L2.FnOk.to0 (Tr.ok_law T F.fun_) fun vs H Q E h => h⟩
