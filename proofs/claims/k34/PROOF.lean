import PyProof.Rows.All
import Wide.All
import OpenK.AllK
import Wide.FinOn
import KE.KStateDown
import Lean
import HandS.Base
import HandS.Call
import HandS.List
import HandS.Comp
import HandS.Ends
import HandS.Dict
import HandS.Iter
import HandS.Text
import HandS.Words
import HandS.WordsList
import HandS.Defaults
import HandS.IsInst
import HandS.Wide
import HandS.WideBits
import HandS.Conv
import HandS.Flow
import HandS.Style
import HandS.Flt
import HandS.More
import HandS.Set
import HandS.SetFor
import HandS.Strs
import HandS.SortInts
import HandS.MakeKw
import HandS.MakeKwOnly
import HandS.Codes
import HandS.SetKeys
import HandS.TupAny
import HandS.NoneIn
import HandS.Head0
import HandS.Head1
import HandS.Head2
import HandS.HeadEnd
import HandS.HeadHook1
import HandS.HeadHook2
import PyProof.DictMoreH
import PyProof.ListStr
import HandS.OwnEq
import PyProof.StrLawsIn
import PyProof.StrLawsFirst
import HandS.Rev
import HandS.RevTup
import HandS.RevRange
import HandS.TupLe
import HandS.Zip
import HandS.SortRule
import KE.SortData
import HandS.Exc
import HandS.ExcOwn
import HandS.TryOnly
import HandS.WordsExc
import HandS.ExcInit
import HandS.ExcField
import KE.KExcInit
import PySem.Challenge.RW_remadehere_k34_whole_fewest_by_trying
set_option Elab.async false
set_option linter.all false
set_option maxRecDepth 100000
set_option maxHeartbeats 8000000
set_option synthInstance.maxHeartbeats 2000000
set_option synthInstance.maxSize 100000
namespace R
open PySem L2
/-! ### steps as classes: one look finds the rule for a goal -/
class Step (P : Prop) (Q : outParam Prop) : Prop where mk ::
  h : Q → P
class StepO (P : Prop) (Q : outParam Prop) : Prop where mk ::
  h : Q → P
class StepN (P : Prop) (Q : outParam Prop) : Prop where mk ::
  h : Q → P
class SideK (P : Prop) (k : Nat) : Prop where mk ::
/-- rows of steps: the new walk's, the old walk's -/
class GoN (P : Prop) (Q : outParam Prop) : Prop where mk ::
  h : Q → P
class GoO (P : Prop) (Q : outParam Prop) : Prop where mk ::
  h : Q → P
instance (priority := low) goN_end {P : Prop} : GoN P P := ⟨id⟩
instance (priority := low) goO_end {P : Prop} : GoO P P := ⟨id⟩
instance goN_n {P Q R : Prop} [s : StepN P Q] [g : GoN Q R] : GoN P R := ⟨fun r => s.h (g.h r)⟩
instance goO_o {P Q R : Prop} [s : StepO P Q] [g : GoO Q R] : GoO P R := ⟨fun r => s.h (g.h r)⟩
instance goN_s {P Q R : Prop} [s : Step P Q] [g : GoN Q R] : GoN P R := ⟨fun r => s.h (g.h r)⟩
instance goO_s {P Q R : Prop} [s : Step P Q] [g : GoO Q R] : GoO P R := ⟨fun r => s.h (g.h r)⟩
theorem goNS {P Q R : Prop} [s : Step P Q] [g : GoN Q R] (r : R) : P := s.h (g.h r)
theorem goNN {P Q R : Prop} [s : StepN P Q] [g : GoN Q R] (r : R) : P := s.h (g.h r)
theorem goOS {P Q R : Prop} [s : Step P Q] [g : GoO Q R] (r : R) : P := s.h (g.h r)
theorem goOO {P Q R : Prop} [s : StepO P Q] [g : GoO Q R] (r : R) : P := s.h (g.h r)
theorem sideI {P : Prop} (k : Nat) [SideK P k] (q : P) : P := q
/-! ### worlds: F the part that stays, H all that is tracked -/
theorem ne_none {α : Type} {o : Option α} {x : α} (h : o = some x) : o ≠ none := fun e => by rw [h] at e; cases e
theorem Same.new {H : Hp} {p : Addr} {o : HO} (h : H p = none) : Same H (upd H p o) := fun a u e => by
  rw [upd_ne (ne_of_none e h)]
  exact e
theorem rd_same {F H : Hp} {a : Addr} {u : HO} (e : Same F H) (h : Rd F a u) : Rd H a u := by
  rcases h with h | ⟨o, h⟩
  · exact .inl (e _ _ h)
  · exact .inr ⟨o, e _ _ h⟩
theorem sqL_same {K : PySem.W.Frag} {F H : Hp} {a : Addr} {xs : List V} (e : Same F H) (h : SqL K F a xs) : SqL K H a xs := by
  rcases h with h | h
  · exact .inl (rd_same e h)
  · exact .inr h
theorem sqT_same {K : PySem.W.Frag} {F H : Hp} {a : Addr} {xs : List V} (e : Same F H) (h : SqT K F a xs) : SqT K H a xs := by
  rcases h with h | h
  · exact .inl (rd_same e h)
  · exact .inr h
theorem sqL_of {K : PySem.W.Frag} {H : Hp} {a : Addr} {xs : List V} (h : H a = some (.lst xs)) : SqL K H a xs := .inl (.inl h)
theorem sqT_of {K : PySem.W.Frag} {H : Hp} {a : Addr} {xs : List V} (h : H a = some (.tup xs)) : SqT K H a xs := .inl (.inl h)
mutual
theorem dp_same {K : PySem.W.Frag} {F H : Hp} (e : Same F H) : ∀ (d : PyData) (v : V), Dp K F v d → Dp K H v d
  | .none, _, .non => .non
  | .bool _, _, .bl b => .bl b
  | .int _, _, .int i => .int i
  | .str _, _, .str x => .str x
  | .list ds, _, .lst h hs => .lst (sqL_same e h) (dpa_same e ds _ hs)
  | .tuple ds, _, .tup h hs => .tup (sqT_same e h) (dpa_same e ds _ hs)
theorem dpa_same {K : PySem.W.Frag} {F H : Hp} (e : Same F H) : ∀ (ds : List PyData) (vs : List V), DpAll K F vs ds → DpAll K H vs ds
  | [], _, .nil => .nil
  | d :: ds, _, .cons h hs => .cons (dp_same e d _ h) (dpa_same e ds _ hs)
end
/-- what a deed does: F grows to F2, H to H2; of what H has outside of F only the objects at M change -/
structure Gr (M : List Addr) (F H F2 H2 : Hp) : Prop where
  ff : Same F F2
  fh : Same F2 H2
  hh : ∀ a o, a ∉ M → H a = some o → H2 a = some o
  al : ∀ a, H a ≠ none → H2 a ≠ none
  nw : ∀ a, H a ≠ none → F a = none → F2 a = none
theorem Gr.refl {M : List Addr} {F H : Hp} (h : Same F H) : Gr M F H F H := ⟨Same.refl F, h, fun _ _ _ e => e, fun _ e => e, fun _ _ e => e⟩
theorem Gr.trans {M : List Addr} {F H F1 H1 F2 H2 : Hp} (a : Gr M F H F1 H1) (b : Gr M F1 H1 F2 H2) : Gr M F H F2 H2 :=
  ⟨a.ff.trans b.ff, b.fh, fun x o n e => b.hh x o n (a.hh x o n e), fun x e => b.al x (a.al x e), fun x e n => b.nw x (a.al x e) (a.nw x e n)⟩
theorem Gr.sub {M N : List Addr} {F H F2 H2 : Hp} (a : Gr M F H F2 H2) (h : ∀ x ∈ M, x ∈ N) : Gr N F H F2 H2 := ⟨a.ff, a.fh, fun x o n e => a.hh x o (fun m => n (h x m)) e, a.al, a.nw⟩
/-- a new object that stays -/
theorem Gr.im {M : List Addr} {F H : Hp} {p : Addr} {o : HO} (w : Same F H) (h : H p = none) : Gr M F H (upd F p o) (upd H p o) := by
  have hF : F p = none := w.free h
  refine ⟨Same.new hF, fun a u e => ?_, fun a u _ e => ?_, fun a e => ?_, fun a e n => ?_⟩
  · by_cases q : a = p
    · subst q
      rw [upd_same] at e ⊢
      exact e
    · rw [upd_ne q] at e ⊢
      exact w a u e
  · rw [upd_ne (ne_of_none e h)]
    exact e
  · by_cases q : a = p
    · subst q
      rw [upd_same]
      exact fun z => nomatch z
    · rw [upd_ne q]
      exact e
  · have q : a ≠ p := fun z => by subst z; exact e h
    rw [upd_ne q]
    exact n
/-- a new object that may change -/
theorem Gr.new {M : List Addr} {F H : Hp} {p : Addr} {o : HO} (w : Same F H) (h : H p = none) : Gr M F H F (upd H p o) := by
  refine ⟨Same.refl F, w.trans (Same.new h), fun a u _ e => ?_, fun a e => ?_, fun a e n => n⟩
  · rw [upd_ne (ne_of_none e h)]
    exact e
  · by_cases q : a = p
    · subst q
      rw [upd_same]
      exact fun z => nomatch z
    · rw [upd_ne q]
      exact e
/-- a change of an object that may change -/
theorem Gr.wr {M : List Addr} {F H : Hp} {p : Addr} {o : HO} (w : Same F H) (h : F p = none) (hm : p ∈ M) : Gr M F H F (upd H p o) := by
  refine ⟨Same.refl F, fun a u e => ?_, fun a u n e => ?_, fun a e => ?_, fun a e n => n⟩
  · have q : a ≠ p := ne_of_none e h
    rw [upd_ne q]
    exact w a u e
  · have q : a ≠ p := fun z => by subst z; exact n hm
    rw [upd_ne q]
    exact e
  · by_cases q : a = p
    · subst q
      rw [upd_same]
      exact fun z => nomatch z
    · rw [upd_ne q]
      exact e
/-- .. of one that was new behind the start -/
theorem Gr.wrn {M : List Addr} {F0 H0 F H : Hp} {p : Addr} {o : HO} (g : Gr M F0 H0 F H) (h : F p = none) (hn : H0 p = none) : Gr M F0 H0 F (upd H p o) := by
  refine ⟨g.ff, fun a u e => ?_, fun a u n e => ?_, fun a e => ?_, g.nw⟩
  · have q : a ≠ p := ne_of_none e h
    rw [upd_ne q]
    exact g.fh a u e
  · have q : a ≠ p := fun z => by subst z; rw [hn] at e; cases e
    rw [upd_ne q]
    exact g.hh a u n e
  · by_cases q : a = p
    · subst q
      rw [upd_same]
      exact fun z => nomatch z
    · rw [upd_ne q]
      exact g.al a e
/-- an object that may change -/
structure Mu (F H : Hp) (p : Addr) (o : HO) : Prop where
  n : F p = none
  h : H p = some o
theorem Gr.mu {M : List Addr} {F H F2 H2 : Hp} {p : Addr} {o : HO} (g : Gr M F H F2 H2) (m : Mu F H p o) (hp : p ∉ M) : Mu F2 H2 p o := ⟨g.nw p (ne_none m.h) m.n, g.hh p o hp m.h⟩
theorem Mu.new {F H : Hp} {p : Addr} {o : HO} (w : Same F H) (h : H p = none) : Mu F (upd H p o) p o := ⟨w.free h, upd_same⟩
theorem Mu.wr {F H : Hp} {p : Addr} {o u : HO} (m : Mu F H p o) : Mu F (upd H p u) p u := ⟨m.n, upd_same⟩
theorem Mu.oth {F H : Hp} {p q : Addr} {o u : HO} (m : Mu F H p o) (h : p ≠ q) : Mu F (upd H q u) p o := ⟨m.n, by rw [upd_ne h]; exact m.h⟩
theorem Mu.sq {K : PySem.W.Frag} {F H : Hp} {p : Addr} {xs : List V} (m : Mu F H p (.lst xs)) : SqL K H p xs := sqL_of m.h
theorem Mu.ne_new {F H : Hp} {p q : Addr} {o : HO} (m : Mu F H p o) (h : H q = none) : p ≠ q := ne_of_none m.h h
/-! ### promises by the number of arguments -/
def S1 (φ : V → Hp → VK → Prop) : Sp := fun vs H Q _ => match vs with
  | [a] => φ a H Q
  | _ => False
def S2 (φ : V → V → Hp → VK → Prop) : Sp := fun vs H Q _ => match vs with
  | [a, b] => φ a b H Q
  | _ => False
def S3 (φ : V → V → V → Hp → VK → Prop) : Sp := fun vs H Q _ => match vs with
  | [a, b, c] => φ a b c H Q
  | _ => False
def S4 (φ : V → V → V → V → Hp → VK → Prop) : Sp := fun vs H Q _ => match vs with
  | [a, b, c, d] => φ a b c d H Q
  | _ => False
def S5 (φ : V → V → V → V → V → Hp → VK → Prop) : Sp := fun vs H Q _ => match vs with
  | [a, b, c, d, e] => φ a b c d e H Q
  | _ => False
def S6 (φ : V → V → V → V → V → V → Hp → VK → Prop) : Sp := fun vs H Q _ => match vs with
  | [a, b, c, d, e, f] => φ a b c d e f H Q
  | _ => False
def S7 (φ : V → V → V → V → V → V → V → Hp → VK → Prop) : Sp := fun vs H Q _ => match vs with
  | [a, b, c, d, e, f, g] => φ a b c d e f g H Q
  | _ => False
def S0 (φ : Hp → VK → Prop) : Sp := fun vs H Q _ => match vs with
  | [] => φ H Q
  | _ => False
theorem S0.len {φ : Hp → VK → Prop} {vs : List V} {H : Hp} {Q : VK} {E : XK} (h : S0 φ vs H Q E) : vs.length = 0 := by
  match vs, h with
  | [], _ => rfl
theorem S1.len {φ : V → Hp → VK → Prop} {vs : List V} {H : Hp} {Q : VK} {E : XK} (h : S1 φ vs H Q E) : vs.length = 1 := by
  match vs, h with
  | [_], _ => rfl
theorem S2.len {φ : V → V → Hp → VK → Prop} {vs : List V} {H : Hp} {Q : VK} {E : XK} (h : S2 φ vs H Q E) : vs.length = 2 := by
  match vs, h with
  | [_, _], _ => rfl
theorem S3.len {φ : V → V → V → Hp → VK → Prop} {vs : List V} {H : Hp} {Q : VK} {E : XK} (h : S3 φ vs H Q E) : vs.length = 3 := by
  match vs, h with
  | [_, _, _], _ => rfl
theorem S4.len {φ : V → V → V → V → Hp → VK → Prop} {vs : List V} {H : Hp} {Q : VK} {E : XK} (h : S4 φ vs H Q E) : vs.length = 4 := by
  match vs, h with
  | [_, _, _, _], _ => rfl
theorem S5.len {φ : V → V → V → V → V → Hp → VK → Prop} {vs : List V} {H : Hp} {Q : VK} {E : XK} (h : S5 φ vs H Q E) : vs.length = 5 := by
  match vs, h with
  | [_, _, _, _, _], _ => rfl
theorem S6.len {φ : V → V → V → V → V → V → Hp → VK → Prop} {vs : List V} {H : Hp} {Q : VK} {E : XK} (h : S6 φ vs H Q E) : vs.length = 6 := by
  match vs, h with
  | [_, _, _, _, _, _], _ => rfl
theorem S7.len {φ : V → V → V → V → V → V → V → Hp → VK → Prop} {vs : List V} {H : Hp} {Q : VK} {E : XK} (h : S7 φ vs H Q E) : vs.length = 7 := by
  match vs, h with
  | [_, _, _, _, _, _, _], _ => rfl
/-! ### a def as it stands, with its promise -/
structure DO (P : Program) (w : World) (K : PySem.W.Frag) (mg : Str → Option Value) (base : Heap) (k : Nat) (x : Str) (ps : List Str) (dvs : List V) (sp : Sp) : Prop where
  ex : ∃ (f : Addr) (fd : FuncData) (ds : List Value), FnOk P w K mg base CX0 k f fd ps sp ∧ mg x = some (.ref f) ∧ PySem.W.keepIn K (.ref f) = true ∧ Binds K fd ps ds ∧ Vals dvs ds
section
variable {X : Cx} {k j : Nat} {ps : List Str} {sp : Sp} {dvs : List V} {x : Str} {p pos : Pos} {e : Expr} {es : List Expr} {t : TA}
theorem pcall (D : DO X.prog X.w X.K X.mg X.base k x ps dvs sp) (hr : Room j X.A) (ha : PA X (e :: es) t) (hj : k ≤ j := by first | decide | exact Nat.le_refl _ | omega) (hg : Gl X x := by rfl) (hdb : (x == ("__debug__" : Str)) = false := by decide)
    (he : starEach (e :: es) X.env = (false, eval e X.env) :: starEach es X.env := by rfl) (hpl : (backTo pos (starEach es X.env)).any (·.1) = false := by rfl) :
    PE X (.Call (.Name x p) (e :: es) [] pos) (tCall sp dvs E0 t) := by
  obtain ⟨f, fd, ds, F, hm, hk, hb, hd⟩ := D.ex
  exact pe_call F (hr.mono hj) hg hm hk hb hd pass0 ha hdb he hpl
end
/-! ### calls with keywords -/
/-- the parameters' values: by place (0), by a keyword's place (1), by a default's place (2) -/
def pick {α : Type} (d : α) (tp : List (Nat × Nat)) (vs zs ds : List α) : List α := tp.map fun p => if p.1 = 0 then vs.getD p.2 d else if p.1 = 1 then zs.getD p.2 d else ds.getD p.2 d
theorem vals_getD : ∀ {vs : List V} {us : List Value} (i : Nat), Vals vs us → RelV (vs.getD i .non) (us.getD i .none)
  | _, _, _, .nil => rfl
  | _, _, 0, .cons r _ => r
  | _, _, i + 1, .cons _ t => by
    show RelV ((_ :: _ : List V).getD (i + 1) .non) ((_ :: _ : List Value).getD (i + 1) .none)
    rw [List.getD_cons_succ, List.getD_cons_succ]
    exact vals_getD i t
theorem pick_rel {vs zs ds : List V} {us ws es : List Value} (r1 : Vals vs us) (r2 : Vals zs ws) (r3 : Vals ds es) : ∀ tp : List (Nat × Nat), Vals (pick .non tp vs zs ds) (pick .none tp us ws es)
  | [] => .nil
  | p :: tp => .cons (by
      show RelV (if p.1 = 0 then vs.getD p.2 .non else if p.1 = 1 then zs.getD p.2 .non else ds.getD p.2 .non) (if p.1 = 0 then us.getD p.2 .none else if p.1 = 1 then ws.getD p.2 .none else es.getD p.2 .none)
      by_cases h0 : p.1 = 0
      · rw [if_pos h0, if_pos h0]
        exact vals_getD _ r1
      · rw [if_neg h0, if_neg h0]
        by_cases h1 : p.1 = 1
        · rw [if_pos h1, if_pos h1]
          exact vals_getD _ r2
        · rw [if_neg h1, if_neg h1]
          exact vals_getD _ r3) (pick_rel r1 r2 r3 tp)
theorem kbD {K : PySem.W.Frag} {x qual : Str} {params : Arguments} {body : List Stmt} {scope : Scope} {dvs : List V} {f : Addr} {fd : FuncData} {ps ks : List Str} {n : Nat} {tp : List (Nat × Nat)} (F : FunD K x qual params body scope dvs [] f fd) (hd : dvs ≠ [])
    (h : ∀ (T : Addr) (kV doc pm : Value) (an : Option Addr) (cdv ct : Value) (us ws its : List Value), us.length = n → ws.length = ks.length → its.length = dvs.length →
      ∃ k, bindArgs (PySem.W.fnOf x qual params body scope (.ref T) kV doc pm an cdv ct) ⟨us, ks.zip ws⟩ = seqItems? (.ref T) >>= k ∧ k (some its.toArray) = pure (ps.zip (pick .none tp us ws its))) :
    ∃ its : List Value, KBn K fd ps n ks (fun us ws => pick .none tp us ws its) (fun vs zs => pick .non tp vs zs dvs) := by
  obtain ⟨oc, od, dV, kV, doc, pm, an, cdv, ct, osl, rfl, lk, hcd, hD, hK⟩ := F.ex
  rcases hD with ⟨e, _⟩ | ⟨_, T, o, its, m, rfl, lT, oT, rT⟩
  · exact absurd e hd
  · refine ⟨its, fun s us ws X l1 l2 => ?_, fun r1 r2 => pick_rel r1 r2 rT tp⟩
    obtain ⟨k, e1, e2⟩ := h T kV doc pm an cdv ct us ws its l1 l2 rT.length.symm
    refine BindsTo.of_looks fun M => ?_
    rw [e1]
    exact looks_items X lT oT (.of_pure e2)
theorem pe_gint {X : Cx} {x : Str} {i : Int} {pos : Pos} (hg : Gl X x) (hm : ∃ t, X.mg x = some (.int i t)) (hd : (x == ("__debug__" : Str)) = false := by decide) : PE X (.Name x pos) (tC (.int i)) := by
  obtain ⟨t, h⟩ := hm
  exact pe_glob hg h ⟨_, rfl⟩ hd
/-! ### rules with the written part by its own name -/
section
variable {X : Cx} {K : PySem.W.Frag}
theorem ixL (h : X.K = K := by rfl) : IxR X (rIxL K) := by subst h; exact ix_list
theorem ixT (h : X.K = K := by rfl) : IxR X (rIxT K) := by subst h; exact ix_tup
theorem ixQ (h : X.K = K := by rfl) : IxR X (rIx K) := by subst h; exact ix_seq
theorem slL (h : X.K = K := by rfl) : SlR X (rSlL K) := by subst h; exact sl_list
theorem opEqD (A : X.A.units + 64 < cLine) (h : X.K = K := by rfl) : OpR X (compareOp .Eq) (rEqD K) := by subst h; exact op_eqD A
theorem opNeD (A : X.A.units + 64 < cLine) (h : X.K = K := by rfl) : OpR X (compareOp .NotEq) (rNeD K) := by subst h; exact op_neD A
theorem opIn (h : X.K = K := by rfl) : OpR X (compareOp .In) (rIn K false) := by subst h; exact op_in_seq
theorem opNotIn (h : X.K = K := by rfl) : OpR X (compareOp .NotIn) (rIn K true) := by subst h; exact op_notIn_seq
def rLenQ (K : PySem.W.Frag) : List V → Hp → VK → Prop := fun xs H Q => ∃ p ys, xs = [.ref p] ∧ (SqL K H p ys ∨ SqT K H p ys) ∧ Q (.int ys.length) H
def rListOf (K : PySem.W.Frag) : List V → Hp → VK → Prop := fun xs H Q => ∃ p ys, xs = [.ref p] ∧ (SqL K H p ys ∨ SqT K H p ys) ∧ ∀ l, H l = none → Q (.ref l) (upd H l (.lst ys))
def rLenS : List V → Hp → VK → Prop := fun xs H Q => ∃ z, xs = [.str z] ∧ z.length ≤ sizeLine ∧ Q (.int z.length) H
def rInt1 : List V → Hp → VK → Prop := fun xs H Q => (∃ i, xs = [.int i] ∧ Q (.int i) H) ∨ ∃ k, xs = [.bl k] ∧ Q (.int (if k then 1 else 0)) H
def rAbs : List V → Hp → VK → Prop := fun xs H Q => ∃ i, xs = [.int i] ∧ Q (.int (if i < 0 then -i else i)) H
def rMin2 : List V → Hp → VK → Prop := fun xs H Q => ∃ i j, xs = [.int i, .int j] ∧ Q (.int (if j < i then j else i)) H
def rMax2 : List V → Hp → VK → Prop := fun xs H Q => ∃ i j, xs = [.int i, .int j] ∧ Q (.int (if j > i then j else i)) H
theorem clLenQ (h : X.K = K := by rfl) : CallR X (.builtin "len") (rLenQ K) := by subst h; exact call_len_seq
theorem clLenS : CallR X (.builtin "len") rLenS := call_len_str
theorem clListOf (h : X.K = K := by rfl) : CallR X (.type "list") (rListOf K) := by subst h; exact call_list_of
theorem clAbs : CallR X (.builtin "abs") rAbs := call_abs
theorem clMin2 (hc : X.calm = true := by rfl) : CallR X (.builtin "min") rMin2 := call_min2 hc
theorem clMax2 (hc : X.calm = true := by rfl) : CallR X (.builtin "max") rMax2 := call_max2 hc
theorem clAll (hc : X.calm = true := by rfl) (h : X.K = K := by rfl) : CallR X (.builtin "all") (rAll K) := by subst h; exact cr_all hc
theorem clIsi (h : X.K = K := by rfl) : CallR X (.builtin "isinstance") (rIsi K) := by subst h; exact call_isi
def tTruth (K : PySem.W.Frag) (ta : TE) : TT := fun σ H Q => ta σ H fun x H' => ∃ k, TruV K x H' k ∧ Q k H'
variable {o e : Expr} {es : List Expr} {to te : TE} {t : TA} {name : Str} {apos cpos : Pos} {T id : String} {r : V → List V → Hp → VK → Prop}
theorem peBM0 (pa : PlainAttrs T) (slot : Slot T name id) (hty : typeOf (.builtin id) = pure (.type "method_descriptor")) (hm : MtR X id r) (ho : PE X o to) (h : X.K = K := by rfl)
    (hbase : attributeBase o name X.env (eval o X.env) = eval o X.env := by rfl) (hline : (apos.endLine == cpos.line) = true := by rfl) : PE X (.Call (.Attribute o name apos) [] [] cpos) (tBM0 K T r to) := by
  subst h
  exact pe_bm0 pa slot hty hm ho hbase hline
theorem peBM (pa : PlainAttrs T) (slot : Slot T name id) (hty : typeOf (.builtin id) = pure (.type "method_descriptor")) (hm : MtR X id r) (ho : PE X o to) (ha : PA X (e :: es) t) (h : X.K = K := by rfl)
    (hbase : attributeBase o name X.env (eval o X.env) = eval o X.env := by rfl)
    (hfew : ((backTo cpos (starEach (e :: es) X.env)).all (fun x => !x.1) && (backToKw cpos (keywordEach [] X.env)).all (fun x => x.1.isSome)
      && decide ((e :: es).length + ([] : List Keyword).length + (if ([] : List Keyword).isEmpty then 0 else 1) < 30)) = true := by rfl)
    (hline : (apos.endLine == cpos.line) = true := by rfl) (hs : starEach (e :: es) X.env = (false, eval e X.env) :: starEach es X.env := by rfl) (hplain : (backTo cpos (starEach es X.env)).any (·.1) = false := by rfl) :
    PE X (.Call (.Attribute o name apos) (e :: es) [] cpos) (tBM K T r to t) := by
  subst h
  exact pe_bm pa slot hty hm ho ha hbase hfew hline hs hplain
theorem peFld {f : Str} {pos : Pos} (he : PE X o to) (h : X.K = K := by rfl) (hb : attributeBase o f X.env (eval o X.env) = eval o X.env := by rfl) : PE X (.Attribute o f pos) (tFld K to f) := by
  subst h
  exact pe_fld he hb
end
/-! ### steps of a reading -/
section
variable {K : PySem.W.Frag} {σ : L2.St} {H : Hp} {Q : VK} {ta tb te : TE} {x y v : V} {nx bk ct : L2.St → Hp → Prop} {rt : VK}
-- slots
section
variable {a0 a1 a2 a3 a4 a5 a6 a7 a8 a9 a10 a11 a12 a13 : Option V} {r : L2.St}
theorem w_v0 (q : Q v H) : tVar 0 (some v :: r) H Q := ⟨v, rfl, q⟩
instance : Step (tVar 0 (some v :: r) H Q) (Q v H) := ⟨w_v0⟩ -- st
theorem w_v1 (q : Q v H) : tVar 1 (a0 :: some v :: r) H Q := ⟨v, rfl, q⟩
instance : Step (tVar 1 (a0 :: some v :: r) H Q) (Q v H) := ⟨w_v1⟩ -- st
theorem w_v2 (q : Q v H) : tVar 2 (a0 :: a1 :: some v :: r) H Q := ⟨v, rfl, q⟩
instance : Step (tVar 2 (a0 :: a1 :: some v :: r) H Q) (Q v H) := ⟨w_v2⟩ -- st
theorem w_v3 (q : Q v H) : tVar 3 (a0 :: a1 :: a2 :: some v :: r) H Q := ⟨v, rfl, q⟩
instance : Step (tVar 3 (a0 :: a1 :: a2 :: some v :: r) H Q) (Q v H) := ⟨w_v3⟩ -- st
theorem w_v4 (q : Q v H) : tVar 4 (a0 :: a1 :: a2 :: a3 :: some v :: r) H Q := ⟨v, rfl, q⟩
instance : Step (tVar 4 (a0 :: a1 :: a2 :: a3 :: some v :: r) H Q) (Q v H) := ⟨w_v4⟩ -- st
theorem w_v5 (q : Q v H) : tVar 5 (a0 :: a1 :: a2 :: a3 :: a4 :: some v :: r) H Q := ⟨v, rfl, q⟩
instance : Step (tVar 5 (a0 :: a1 :: a2 :: a3 :: a4 :: some v :: r) H Q) (Q v H) := ⟨w_v5⟩ -- st
theorem w_v6 (q : Q v H) : tVar 6 (a0 :: a1 :: a2 :: a3 :: a4 :: a5 :: some v :: r) H Q := ⟨v, rfl, q⟩
instance : Step (tVar 6 (a0 :: a1 :: a2 :: a3 :: a4 :: a5 :: some v :: r) H Q) (Q v H) := ⟨w_v6⟩ -- st
theorem w_v7 (q : Q v H) : tVar 7 (a0 :: a1 :: a2 :: a3 :: a4 :: a5 :: a6 :: some v :: r) H Q := ⟨v, rfl, q⟩
instance : Step (tVar 7 (a0 :: a1 :: a2 :: a3 :: a4 :: a5 :: a6 :: some v :: r) H Q) (Q v H) := ⟨w_v7⟩ -- st
theorem w_v8 (q : Q v H) : tVar 8 (a0 :: a1 :: a2 :: a3 :: a4 :: a5 :: a6 :: a7 :: some v :: r) H Q := ⟨v, rfl, q⟩
instance : Step (tVar 8 (a0 :: a1 :: a2 :: a3 :: a4 :: a5 :: a6 :: a7 :: some v :: r) H Q) (Q v H) := ⟨w_v8⟩ -- st
theorem w_v9 (q : Q v H) : tVar 9 (a0 :: a1 :: a2 :: a3 :: a4 :: a5 :: a6 :: a7 :: a8 :: some v :: r) H Q := ⟨v, rfl, q⟩
instance : Step (tVar 9 (a0 :: a1 :: a2 :: a3 :: a4 :: a5 :: a6 :: a7 :: a8 :: some v :: r) H Q) (Q v H) := ⟨w_v9⟩ -- st
theorem w_v10 (q : Q v H) : tVar 10 (a0 :: a1 :: a2 :: a3 :: a4 :: a5 :: a6 :: a7 :: a8 :: a9 :: some v :: r) H Q := ⟨v, rfl, q⟩
instance : Step (tVar 10 (a0 :: a1 :: a2 :: a3 :: a4 :: a5 :: a6 :: a7 :: a8 :: a9 :: some v :: r) H Q) (Q v H) := ⟨w_v10⟩ -- st
theorem w_v11 (q : Q v H) : tVar 11 (a0 :: a1 :: a2 :: a3 :: a4 :: a5 :: a6 :: a7 :: a8 :: a9 :: a10 :: some v :: r) H Q := ⟨v, rfl, q⟩
instance : Step (tVar 11 (a0 :: a1 :: a2 :: a3 :: a4 :: a5 :: a6 :: a7 :: a8 :: a9 :: a10 :: some v :: r) H Q) (Q v H) := ⟨w_v11⟩ -- st
theorem w_v12 (q : Q v H) : tVar 12 (a0 :: a1 :: a2 :: a3 :: a4 :: a5 :: a6 :: a7 :: a8 :: a9 :: a10 :: a11 :: some v :: r) H Q := ⟨v, rfl, q⟩
instance : Step (tVar 12 (a0 :: a1 :: a2 :: a3 :: a4 :: a5 :: a6 :: a7 :: a8 :: a9 :: a10 :: a11 :: some v :: r) H Q) (Q v H) := ⟨w_v12⟩ -- st
theorem w_v13 (q : Q v H) : tVar 13 (a0 :: a1 :: a2 :: a3 :: a4 :: a5 :: a6 :: a7 :: a8 :: a9 :: a10 :: a11 :: a12 :: some v :: r) H Q := ⟨v, rfl, q⟩
instance : Step (tVar 13 (a0 :: a1 :: a2 :: a3 :: a4 :: a5 :: a6 :: a7 :: a8 :: a9 :: a10 :: a11 :: a12 :: some v :: r) H Q) (Q v H) := ⟨w_v13⟩ -- st
variable {N : L2.St → Hp → Prop}
theorem w_n0 (q : N (some v :: r) H) : gName 0 v (a0 :: r) H N := q
instance : Step (gName 0 v (a0 :: r) H N) (N (some v :: r) H) := ⟨w_n0⟩ -- st
theorem w_n1 (q : N (a0 :: some v :: r) H) : gName 1 v (a0 :: a1 :: r) H N := q
instance : Step (gName 1 v (a0 :: a1 :: r) H N) (N (a0 :: some v :: r) H) := ⟨w_n1⟩ -- st
theorem w_n2 (q : N (a0 :: a1 :: some v :: r) H) : gName 2 v (a0 :: a1 :: a2 :: r) H N := q
instance : Step (gName 2 v (a0 :: a1 :: a2 :: r) H N) (N (a0 :: a1 :: some v :: r) H) := ⟨w_n2⟩ -- st
theorem w_n3 (q : N (a0 :: a1 :: a2 :: some v :: r) H) : gName 3 v (a0 :: a1 :: a2 :: a3 :: r) H N := q
instance : Step (gName 3 v (a0 :: a1 :: a2 :: a3 :: r) H N) (N (a0 :: a1 :: a2 :: some v :: r) H) := ⟨w_n3⟩ -- st
theorem w_n4 (q : N (a0 :: a1 :: a2 :: a3 :: some v :: r) H) : gName 4 v (a0 :: a1 :: a2 :: a3 :: a4 :: r) H N := q
instance : Step (gName 4 v (a0 :: a1 :: a2 :: a3 :: a4 :: r) H N) (N (a0 :: a1 :: a2 :: a3 :: some v :: r) H) := ⟨w_n4⟩ -- st
theorem w_n5 (q : N (a0 :: a1 :: a2 :: a3 :: a4 :: some v :: r) H) : gName 5 v (a0 :: a1 :: a2 :: a3 :: a4 :: a5 :: r) H N := q
instance : Step (gName 5 v (a0 :: a1 :: a2 :: a3 :: a4 :: a5 :: r) H N) (N (a0 :: a1 :: a2 :: a3 :: a4 :: some v :: r) H) := ⟨w_n5⟩ -- st
theorem w_n6 (q : N (a0 :: a1 :: a2 :: a3 :: a4 :: a5 :: some v :: r) H) : gName 6 v (a0 :: a1 :: a2 :: a3 :: a4 :: a5 :: a6 :: r) H N := q
instance : Step (gName 6 v (a0 :: a1 :: a2 :: a3 :: a4 :: a5 :: a6 :: r) H N) (N (a0 :: a1 :: a2 :: a3 :: a4 :: a5 :: some v :: r) H) := ⟨w_n6⟩ -- st
theorem w_n7 (q : N (a0 :: a1 :: a2 :: a3 :: a4 :: a5 :: a6 :: some v :: r) H) : gName 7 v (a0 :: a1 :: a2 :: a3 :: a4 :: a5 :: a6 :: a7 :: r) H N := q
instance : Step (gName 7 v (a0 :: a1 :: a2 :: a3 :: a4 :: a5 :: a6 :: a7 :: r) H N) (N (a0 :: a1 :: a2 :: a3 :: a4 :: a5 :: a6 :: some v :: r) H) := ⟨w_n7⟩ -- st
theorem w_n8 (q : N (a0 :: a1 :: a2 :: a3 :: a4 :: a5 :: a6 :: a7 :: some v :: r) H) : gName 8 v (a0 :: a1 :: a2 :: a3 :: a4 :: a5 :: a6 :: a7 :: a8 :: r) H N := q
instance : Step (gName 8 v (a0 :: a1 :: a2 :: a3 :: a4 :: a5 :: a6 :: a7 :: a8 :: r) H N) (N (a0 :: a1 :: a2 :: a3 :: a4 :: a5 :: a6 :: a7 :: some v :: r) H) := ⟨w_n8⟩ -- st
theorem w_n9 (q : N (a0 :: a1 :: a2 :: a3 :: a4 :: a5 :: a6 :: a7 :: a8 :: some v :: r) H) : gName 9 v (a0 :: a1 :: a2 :: a3 :: a4 :: a5 :: a6 :: a7 :: a8 :: a9 :: r) H N := q
instance : Step (gName 9 v (a0 :: a1 :: a2 :: a3 :: a4 :: a5 :: a6 :: a7 :: a8 :: a9 :: r) H N) (N (a0 :: a1 :: a2 :: a3 :: a4 :: a5 :: a6 :: a7 :: a8 :: some v :: r) H) := ⟨w_n9⟩ -- st
theorem w_n10 (q : N (a0 :: a1 :: a2 :: a3 :: a4 :: a5 :: a6 :: a7 :: a8 :: a9 :: some v :: r) H) : gName 10 v (a0 :: a1 :: a2 :: a3 :: a4 :: a5 :: a6 :: a7 :: a8 :: a9 :: a10 :: r) H N := q
instance : Step (gName 10 v (a0 :: a1 :: a2 :: a3 :: a4 :: a5 :: a6 :: a7 :: a8 :: a9 :: a10 :: r) H N) (N (a0 :: a1 :: a2 :: a3 :: a4 :: a5 :: a6 :: a7 :: a8 :: a9 :: some v :: r) H) := ⟨w_n10⟩ -- st
theorem w_n11 (q : N (a0 :: a1 :: a2 :: a3 :: a4 :: a5 :: a6 :: a7 :: a8 :: a9 :: a10 :: some v :: r) H) : gName 11 v (a0 :: a1 :: a2 :: a3 :: a4 :: a5 :: a6 :: a7 :: a8 :: a9 :: a10 :: a11 :: r) H N := q
instance : Step (gName 11 v (a0 :: a1 :: a2 :: a3 :: a4 :: a5 :: a6 :: a7 :: a8 :: a9 :: a10 :: a11 :: r) H N) (N (a0 :: a1 :: a2 :: a3 :: a4 :: a5 :: a6 :: a7 :: a8 :: a9 :: a10 :: some v :: r) H) := ⟨w_n11⟩ -- st
theorem w_n12 (q : N (a0 :: a1 :: a2 :: a3 :: a4 :: a5 :: a6 :: a7 :: a8 :: a9 :: a10 :: a11 :: some v :: r) H) : gName 12 v (a0 :: a1 :: a2 :: a3 :: a4 :: a5 :: a6 :: a7 :: a8 :: a9 :: a10 :: a11 :: a12 :: r) H N := q
instance : Step (gName 12 v (a0 :: a1 :: a2 :: a3 :: a4 :: a5 :: a6 :: a7 :: a8 :: a9 :: a10 :: a11 :: a12 :: r) H N) (N (a0 :: a1 :: a2 :: a3 :: a4 :: a5 :: a6 :: a7 :: a8 :: a9 :: a10 :: a11 :: some v :: r) H) := ⟨w_n12⟩ -- st
theorem w_n13 (q : N (a0 :: a1 :: a2 :: a3 :: a4 :: a5 :: a6 :: a7 :: a8 :: a9 :: a10 :: a11 :: a12 :: some v :: r) H) : gName 13 v (a0 :: a1 :: a2 :: a3 :: a4 :: a5 :: a6 :: a7 :: a8 :: a9 :: a10 :: a11 :: a12 :: a13 :: r) H N := q
instance : Step (gName 13 v (a0 :: a1 :: a2 :: a3 :: a4 :: a5 :: a6 :: a7 :: a8 :: a9 :: a10 :: a11 :: a12 :: a13 :: r) H N) (N (a0 :: a1 :: a2 :: a3 :: a4 :: a5 :: a6 :: a7 :: a8 :: a9 :: a10 :: a11 :: a12 :: some v :: r) H) := ⟨w_n13⟩ -- st
end
-- expressions
theorem w_c (q : Q v H) : tC v σ H Q := q
instance : Step (tC v σ H Q) (Q v H) := ⟨w_c⟩ -- st
theorem w_op {r : R2} (q : ta σ H fun x H1 => tb σ H1 fun y H2 => r x y H2 Q) : tOp r ta tb σ H Q := q
instance {r : R2} : Step (tOp r ta tb σ H Q) (ta σ H fun x H1 => tb σ H1 fun y H2 => r x y H2 Q) := ⟨w_op⟩ -- st
theorem w_un {r : V → Hp → VK → Prop} (q : ta σ H fun x H1 => r x H1 Q) : tUn r ta σ H Q := q
instance {r : V → Hp → VK → Prop} : Step (tUn r ta σ H Q) (ta σ H fun x H1 => r x H1 Q) := ⟨w_un⟩ -- st
theorem w_add {i j : Int} (q : Q (.int (i + j)) H) : rI0 (fun i j => V.int (i + j)) (.int i) (.int j) H Q := ⟨i, j, rfl, rfl, q⟩
instance {i j : Int} : Step (rI0 (fun i j => V.int (i + j)) (.int i) (.int j) H Q) (Q (.int (i + j)) H) := ⟨w_add⟩ -- st
theorem w_subt {i j : Int} (q : Q (.int (i - j)) H) : rI0 (fun i j => V.int (i - j)) (.int i) (.int j) H Q := ⟨i, j, rfl, rfl, q⟩
instance {i j : Int} : Step (rI0 (fun i j => V.int (i - j)) (.int i) (.int j) H Q) (Q (.int (i - j)) H) := ⟨w_subt⟩ -- st
theorem w_lt {i j : Int} (q : Q (.bl (decide (i < j))) H) : rI0 (fun i j => V.bl (decide (i < j))) (.int i) (.int j) H Q := ⟨i, j, rfl, rfl, q⟩
instance {i j : Int} : Step (rI0 (fun i j => V.bl (decide (i < j))) (.int i) (.int j) H Q) (Q (.bl (decide (i < j))) H) := ⟨w_lt⟩ -- st
theorem w_le {i j : Int} (q : Q (.bl (decide (i ≤ j))) H) : rI0 (fun i j => V.bl (decide (i ≤ j))) (.int i) (.int j) H Q := ⟨i, j, rfl, rfl, q⟩
instance {i j : Int} : Step (rI0 (fun i j => V.bl (decide (i ≤ j))) (.int i) (.int j) H Q) (Q (.bl (decide (i ≤ j))) H) := ⟨w_le⟩ -- st
theorem w_gt {i j : Int} (q : Q (.bl (decide (j < i))) H) : rI0 (fun i j => V.bl (decide (j < i))) (.int i) (.int j) H Q := ⟨i, j, rfl, rfl, q⟩
instance {i j : Int} : Step (rI0 (fun i j => V.bl (decide (j < i))) (.int i) (.int j) H Q) (Q (.bl (decide (j < i))) H) := ⟨w_gt⟩ -- st
theorem w_ge {i j : Int} (q : Q (.bl (decide (j ≤ i))) H) : rI0 (fun i j => V.bl (decide (j ≤ i))) (.int i) (.int j) H Q := ⟨i, j, rfl, rfl, q⟩
instance {i j : Int} : Step (rI0 (fun i j => V.bl (decide (j ≤ i))) (.int i) (.int j) H Q) (Q (.bl (decide (j ≤ i))) H) := ⟨w_ge⟩ -- st
theorem w_mul {i j : Int} (c : CMul i j) (q : Q (.int (i * j)) H) : rI CMul (fun i j => V.int (i * j)) (.int i) (.int j) H Q := ⟨i, j, rfl, rfl, c, q⟩
instance {i j : Int} : SideK (rI CMul (fun i j => V.int (i * j)) (.int i) (.int j) H Q) 1 := ⟨⟩ -- st
theorem w_mod {i j : Int} (c : 0 < j) (q : Q (.int (i % j)) H) : rI (fun _ j => 0 < j) (fun i j => V.int (i % j)) (.int i) (.int j) H Q := ⟨i, j, rfl, rfl, c, q⟩
instance {i j : Int} : SideK (rI (fun _ j => 0 < j) (fun i j => V.int (i % j)) (.int i) (.int j) H Q) 1 := ⟨⟩ -- st
theorem w_fdiv {i j : Int} (c : CDivW i j) (q : Q (.int (i / j)) H) : rI CDivW (fun i j => V.int (i / j)) (.int i) (.int j) H Q := ⟨i, j, rfl, rfl, c, q⟩
instance {i j : Int} : SideK (rI CDivW (fun i j => V.int (i / j)) (.int i) (.int j) H Q) 1 := ⟨⟩ -- st
theorem w_pow {i j : Int} (c : CPow i j) (q : Q (.int (i ^ j.toNat)) H) : rI CPow (fun i j => V.int (i ^ j.toNat)) (.int i) (.int j) H Q := ⟨i, j, rfl, rfl, c, q⟩
instance {i j : Int} : SideK (rI CPow (fun i j => V.int (i ^ j.toNat)) (.int i) (.int j) H Q) 1 := ⟨⟩ -- st
theorem w_neg {i : Int} (q : Q (.int (-i)) H) : rU (fun i => V.int (-i)) (.int i) H Q := ⟨i, rfl, q⟩
instance {i : Int} : Step (rU (fun i => V.int (-i)) (.int i) H Q) (Q (.int (-i)) H) := ⟨w_neg⟩ -- st
def asInt (x : V) (H : Hp) (Z : Int → Hp → Prop) : Prop := ∃ i, x = .int i ∧ Z i H
def asBl (x : V) (H : Hp) (T : Bool → Hp → Prop) : Prop := ∃ k, x = .bl k ∧ T k H
theorem w_asInt {i : Int} {Z : Int → Hp → Prop} (q : Z i H) : asInt (.int i) H Z := ⟨i, rfl, q⟩
instance {i : Int} {Z : Int → Hp → Prop} : Step (asInt (.int i) H Z) (Z i H) := ⟨w_asInt⟩ -- st
theorem w_asBl {b : Bool} {T : Bool → Hp → Prop} (q : T b H) : asBl (.bl b) H T := ⟨b, rfl, q⟩
instance {b : Bool} {T : Bool → Hp → Prop} : Step (asBl (.bl b) H T) (T b H) := ⟨w_asBl⟩ -- st
theorem w_bits {to : TE} (q : to σ H fun x H1 => asInt x H1 fun i H2 => Q (.int (Builtin.Int.intBits i : Nat)) H2) : tBits to σ H Q := q
instance {to : TE} : Step (tBits to σ H Q) (to σ H fun x H1 => asInt x H1 fun i H2 => Q (.int (Builtin.Int.intBits i : Nat)) H2) := ⟨w_bits⟩ -- st
theorem w_eqI {i j : Int} (q : Q (.bl (decide (i = j))) H) : rEq (.int i) (.int j) H Q := ⟨rfl, by
  have e : decide (V.int i = V.int j) = decide (i = j) := by
    by_cases h : i = j
    · subst h; simp
    · rw [decide_eq_false h, decide_eq_false fun z => h (V.int.inj z)]
  rw [e]
  exact q⟩
instance {i j : Int} : Step (rEq (.int i) (.int j) H Q) (Q (.bl (decide (i = j))) H) := ⟨w_eqI⟩ -- st
theorem w_neI {i j : Int} (q : Q (.bl (!decide (i = j))) H) : rNe (.int i) (.int j) H Q := ⟨rfl, by
  have e : decide (V.int i = V.int j) = decide (i = j) := by
    by_cases h : i = j
    · subst h; simp
    · rw [decide_eq_false h, decide_eq_false fun z => h (V.int.inj z)]
  rw [e]
  exact q⟩
instance {i j : Int} : Step (rNe (.int i) (.int j) H Q) (Q (.bl (!decide (i = j))) H) := ⟨w_neI⟩ -- st
theorem w_eqS {a b : Str} (q : Q (.bl (decide (a = b))) H) : rEq (.str a) (.str b) H Q := ⟨rfl, by
  have e : decide (V.str a = V.str b) = decide (a = b) := by
    by_cases h : a = b
    · subst h; simp
    · rw [decide_eq_false h, decide_eq_false fun z => h (V.str.inj z)]
  rw [e]
  exact q⟩
instance {a b : Str} : Step (rEq (.str a) (.str b) H Q) (Q (.bl (decide (a = b))) H) := ⟨w_eqS⟩ -- st
theorem w_neS {a b : Str} (q : Q (.bl (!decide (a = b))) H) : rNe (.str a) (.str b) H Q := ⟨rfl, by
  have e : decide (V.str a = V.str b) = decide (a = b) := by
    by_cases h : a = b
    · subst h; simp
    · rw [decide_eq_false h, decide_eq_false fun z => h (V.str.inj z)]
  rw [e]
  exact q⟩
instance {a b : Str} : Step (rNe (.str a) (.str b) H Q) (Q (.bl (!decide (a = b))) H) := ⟨w_neS⟩ -- st
theorem w_eqB {a b : Bool} (q : Q (.bl (decide (a = b))) H) : rEq (.bl a) (.bl b) H Q := ⟨rfl, by
  have e : decide (V.bl a = V.bl b) = decide (a = b) := by
    by_cases h : a = b
    · subst h; simp
    · rw [decide_eq_false h, decide_eq_false fun z => h (V.bl.inj z)]
  rw [e]
  exact q⟩
instance {a b : Bool} : Step (rEq (.bl a) (.bl b) H Q) (Q (.bl (decide (a = b))) H) := ⟨w_eqB⟩ -- st
theorem w_neB {a b : Bool} (q : Q (.bl (!decide (a = b))) H) : rNe (.bl a) (.bl b) H Q := ⟨rfl, by
  have e : decide (V.bl a = V.bl b) = decide (a = b) := by
    by_cases h : a = b
    · subst h; simp
    · rw [decide_eq_false h, decide_eq_false fun z => h (V.bl.inj z)]
  rw [e]
  exact q⟩
instance {a b : Bool} : Step (rNe (.bl a) (.bl b) H Q) (Q (.bl (!decide (a = b))) H) := ⟨w_neB⟩ -- st
theorem w_isN (q : ta σ H fun x H1 => Q (.bl (decide (x = .non))) H1) : tIsN ta σ H Q := q
instance : Step (tIsN ta σ H Q) (ta σ H fun x H1 => Q (.bl (decide (x = .non))) H1) := ⟨w_isN⟩ -- st
theorem w_notN (q : ta σ H fun x H1 => Q (.bl (!decide (x = .non))) H1) : tNotN ta σ H Q := q
instance : Step (tNotN ta σ H Q) (ta σ H fun x H1 => Q (.bl (!decide (x = .non))) H1) := ⟨w_notN⟩ -- st
-- tests
section
variable {T : Bool → Hp → Prop} {t u : TT}
theorem w_test (q : te σ H fun x H1 => asBl x H1 T) : tTest te σ H T := q
instance : Step (tTest te σ H T) (te σ H fun x H1 => asBl x H1 T) := ⟨w_test⟩ -- st
theorem w_tB (q : te σ H fun x H1 => asBl x H1 T) : tB te σ H T := q
instance : Step (tB te σ H T) (te σ H fun x H1 => asBl x H1 T) := ⟨w_tB⟩ -- st
theorem w_and (q : t σ H fun c H1 => if c = true then u σ H1 T else T false H1) : tAnd t u σ H T := q
instance : Step (tAnd t u σ H T) (t σ H fun c H1 => if c = true then u σ H1 T else T false H1) := ⟨w_and⟩ -- st
theorem w_or (q : t σ H fun c H1 => if c = true then T true H1 else u σ H1 T) : tOr t u σ H T := q
instance : Step (tOr t u σ H T) (t σ H fun c H1 => if c = true then T true H1 else u σ H1 T) := ⟨w_or⟩ -- st
theorem w_not (q : t σ H fun c H1 => T (!c) H1) : tNot t σ H T := q
instance : Step (tNot t σ H T) (t σ H fun c H1 => T (!c) H1) := ⟨w_not⟩ -- st
theorem w_yes (q : T true H) : tYes σ H T := q
instance : Step (tYes σ H T) (T true H) := ⟨w_yes⟩ -- st
theorem w_if (q : t σ H fun c H1 => if c = true then ta σ H1 Q else tb σ H1 Q) : tIf t ta tb σ H Q := q
instance : Step (tIf t ta tb σ H Q) (t σ H fun c H1 => if c = true then ta σ H1 Q else tb σ H1 Q) := ⟨w_if⟩ -- st
theorem w_truth (q : ta σ H fun x H' => ∃ k, TruV K x H' k ∧ T k H') : tTruth K ta σ H T := q
instance : Step (tTruth K ta σ H T) (ta σ H fun x H' => ∃ k, TruV K x H' k ∧ T k H') := ⟨w_truth⟩ -- st
end
theorem w_andV (q : ta σ H fun x H1 => asBl x H1 fun c H2 => if c = true then tb σ H2 Q else Q (.bl false) H2) : tAndV ta tb σ H Q := q
instance : Step (tAndV ta tb σ H Q) (ta σ H fun x H1 => asBl x H1 fun c H2 => if c = true then tb σ H2 Q else Q (.bl false) H2) := ⟨w_andV⟩ -- st
theorem w_orV (q : ta σ H fun x H1 => asBl x H1 fun c H2 => if c = true then Q (.bl true) H2 else tb σ H2 Q) : tOrV ta tb σ H Q := q
instance : Step (tOrV ta tb σ H Q) (ta σ H fun x H1 => asBl x H1 fun c H2 => if c = true then Q (.bl true) H2 else tb σ H2 Q) := ⟨w_orV⟩ -- st
theorem w_notV (q : ta σ H fun x H1 => asBl x H1 fun c H2 => Q (.bl (!c)) H2) : tNotV ta σ H Q := q
instance : Step (tNotV ta σ H Q) (ta σ H fun x H1 => asBl x H1 fun c H2 => Q (.bl (!c)) H2) := ⟨w_notV⟩ -- st
-- arguments
theorem w_nil {L : List V → Hp → Prop} (q : L [] H) : tNil σ H L := q
instance {L : List V → Hp → Prop} : Step (tNil σ H L) (L [] H) := ⟨w_nil⟩ -- st
theorem w_cons {tr : TA} {L : List V → Hp → Prop} (q : ta σ H fun x H1 => tr σ H1 fun xs H2 => L (x :: xs) H2) : tCons ta tr σ H L := q
instance {tr : TA} {L : List V → Hp → Prop} : Step (tCons ta tr σ H L) (ta σ H fun x H1 => tr σ H1 fun xs H2 => L (x :: xs) H2) := ⟨w_cons⟩ -- st
theorem w_call {sp : Sp} {dvs : List V} {E : XK} {t : TA} (q : t σ H fun vs H1 => sp (vs ++ dvs) H1 Q E) : tCall sp dvs E t σ H Q := q
instance {sp : Sp} {dvs : List V} {E : XK} {t : TA} : Step (tCall sp dvs E t σ H Q) (t σ H fun vs H1 => sp (vs ++ dvs) H1 Q E) := ⟨w_call⟩ -- st
theorem w_callN {n m : Nat} {sp : Sp} {gV : List V → List V → List V} {E : XK} {t tk : TA} (q : t σ H fun vs H1 => tk σ H1 fun zs H2 => vs.length = n ∧ zs.length = m ∧ sp (gV vs zs) H2 Q E) : tCallN n m sp gV E t tk σ H Q := q
instance {n m : Nat} {sp : Sp} {gV : List V → List V → List V} {E : XK} {t tk : TA} : Step (tCallN n m sp gV E t tk σ H Q) (t σ H fun vs H1 => tk σ H1 fun zs H2 => vs.length = n ∧ zs.length = m ∧ sp (gV vs zs) H2 Q E) := ⟨w_callN⟩ -- st
theorem w_CB {r : List V → Hp → VK → Prop} {t : TA} (q : t σ H fun vs H1 => r vs H1 Q) : tCB r t σ H Q := q
instance {r : List V → Hp → VK → Prop} {t : TA} : Step (tCB r t σ H Q) (t σ H fun vs H1 => r vs H1 Q) := ⟨w_CB⟩ -- st
theorem w_tup {t : TA} (q : t σ H fun xs H1 => xs.length ≤ sizeLine ∧ ∀ p, H1 p = none → Q (.ref p) (upd H1 p (.tup xs))) : tTup t σ H Q := q
instance {t : TA} : StepO (tTup t σ H Q) (t σ H fun xs H1 => xs.length ≤ sizeLine ∧ ∀ p, H1 p = none → Q (.ref p) (upd H1 p (.tup xs))) := ⟨w_tup⟩ -- st
theorem w_lst {t : TA} (q : t σ H fun xs H1 => xs.length ≤ sizeLine ∧ ∀ p, H1 p = none → Q (.ref p) (upd H1 p (.lst xs))) : tLst t σ H Q := q
instance {t : TA} : StepO (tLst t σ H Q) (t σ H fun xs H1 => xs.length ≤ sizeLine ∧ ∀ p, H1 p = none → Q (.ref p) (upd H1 p (.lst xs))) := ⟨w_lst⟩ -- st
theorem w_sl {r : V → Option Int → Option Int → Hp → VK → Prop} {tl th : TO} (q : te σ H fun x H1 => tl σ H1 fun l H2 => th σ H2 fun u H3 => r x l u H3 Q) : tSl r te tl th σ H Q := q
instance {r : V → Option Int → Option Int → Hp → VK → Prop} {tl th : TO} : Step (tSl r te tl th σ H Q) (te σ H fun x H1 => tl σ H1 fun l H2 => th σ H2 fun u H3 => r x l u H3 Q) := ⟨w_sl⟩ -- st
theorem w_nop {Z : Option Int → Hp → Prop} (q : Z none H) : tNoPart σ H Z := q
instance {Z : Option Int → Hp → Prop} : Step (tNoPart σ H Z) (Z none H) := ⟨w_nop⟩ -- st
theorem w_part {Z : Option Int → Hp → Prop} (q : te σ H fun x H1 => asInt x H1 fun i H2 => Z (some i) H2) : tPart te σ H Z := q
instance {Z : Option Int → Hp → Prop} : Step (tPart te σ H Z) (te σ H fun x H1 => asInt x H1 fun i H2 => Z (some i) H2) := ⟨w_part⟩ -- st
theorem w_BM0 {T : String} {r : V → List V → Hp → VK → Prop} (q : ta σ H fun x H1 => tyV K T x H1 ∧ r x [] H1 Q) : tBM0 K T r ta σ H Q := q
instance {T : String} {r : V → List V → Hp → VK → Prop} : Step (tBM0 K T r ta σ H Q) (ta σ H fun x H1 => tyV K T x H1 ∧ r x [] H1 Q) := ⟨w_BM0⟩ -- st
theorem w_BM {T : String} {r : V → List V → Hp → VK → Prop} {t : TA} (q : ta σ H fun x H1 => tyV K T x H1 ∧ t σ H1 fun xs H2 => r x xs H2 Q) : tBM K T r ta t σ H Q := q
instance {T : String} {r : V → List V → Hp → VK → Prop} {t : TA} : Step (tBM K T r ta t σ H Q) (ta σ H fun x H1 => tyV K T x H1 ∧ t σ H1 fun xs H2 => r x xs H2 Q) := ⟨w_BM⟩ -- st
def asStr (x : V) (P : Prop) : Prop := (∃ a, x = .str a) ∧ P
theorem w_M0 {r : V → List V → Hp → VK → Prop} (q : ta σ H fun x H1 => asStr x (r x [] H1 Q)) : tM0 r ta σ H Q := q
instance {r : V → List V → Hp → VK → Prop} : Step (tM0 r ta σ H Q) (ta σ H fun x H1 => asStr x (r x [] H1 Q)) := ⟨w_M0⟩ -- st
theorem w_M1 {r : V → List V → Hp → VK → Prop} (q : ta σ H fun x H1 => asStr x (te σ H1 fun y H2 => r x [y] H2 Q)) : tM1 r ta te σ H Q := q
instance {r : V → List V → Hp → VK → Prop} : Step (tM1 r ta te σ H Q) (ta σ H fun x H1 => asStr x (te σ H1 fun y H2 => r x [y] H2 Q)) := ⟨w_M1⟩ -- st
theorem w_asStr {a : Str} {P : Prop} (q : P) : asStr (.str a) P := ⟨⟨a, rfl⟩, q⟩
instance {a : Str} {P : Prop} : Step (asStr (.str a) P) (P) := ⟨w_asStr⟩ -- st
theorem w_sub {to ti : TE} {t : TSet} {Z : L2.St → Hp → Prop} (q : to σ H fun o H1 => ti σ H1 fun i H2 => t o i v H2 fun H3 => Z σ H3) : gSub to ti t v σ H Z := q
instance {to ti : TE} {t : TSet} {Z : L2.St → Hp → Prop} : Step (gSub to ti t v σ H Z) (to σ H fun o H1 => ti σ H1 fun i H2 => t o i v H2 fun H3 => Z σ H3) := ⟨w_sub⟩ -- st
-- statements
section
variable {t u tbody : TS} {c : TT} {g : TG}
theorem w_seq (q : t ⟨u ⟨nx, rt, bk, ct⟩, rt, bk, ct⟩ σ H) : tSeq t u ⟨nx, rt, bk, ct⟩ σ H := q
instance : Step (tSeq t u ⟨nx, rt, bk, ct⟩ σ H) (t ⟨u ⟨nx, rt, bk, ct⟩, rt, bk, ct⟩ σ H) := ⟨w_seq⟩ -- st
theorem w_cut (Mid : L2.St → Hp → Prop) (h1 : t ⟨Mid, rt, bk, ct⟩ σ H) (h2 : ∀ σ' H', Mid σ' H' → u ⟨nx, rt, bk, ct⟩ σ' H') : C8.tCut t u ⟨nx, rt, bk, ct⟩ σ H := ⟨Mid, h1, h2⟩
theorem w_asg (q : te σ H fun x H1 => g x σ H1 nx) : tAsg te g ⟨nx, rt, bk, ct⟩ σ H := q
instance : Step (tAsg te g ⟨nx, rt, bk, ct⟩ σ H) (te σ H fun x H1 => g x σ H1 nx) := ⟨w_asg⟩ -- st
theorem w_ret (q : te σ H rt) : tRet te ⟨nx, rt, bk, ct⟩ σ H := q
instance : Step (tRet te ⟨nx, rt, bk, ct⟩ σ H) (te σ H rt) := ⟨w_ret⟩ -- st
theorem w_retN (q : rt .non H) : tRetN ⟨nx, rt, bk, ct⟩ σ H := q
instance : Step (tRetN ⟨nx, rt, bk, ct⟩ σ H) (rt .non H) := ⟨w_retN⟩ -- st
theorem w_drop (q : te σ H fun _ H1 => nx σ H1) : tDrop te ⟨nx, rt, bk, ct⟩ σ H := q
instance : Step (tDrop te ⟨nx, rt, bk, ct⟩ σ H) (te σ H fun _ H1 => nx σ H1) := ⟨w_drop⟩ -- st
theorem w_ifS (q : c σ H fun b H1 => if b = true then t ⟨nx, rt, bk, ct⟩ σ H1 else u ⟨nx, rt, bk, ct⟩ σ H1) : tIfS c t u ⟨nx, rt, bk, ct⟩ σ H := q
instance : Step (tIfS c t u ⟨nx, rt, bk, ct⟩ σ H) (c σ H fun b H1 => if b = true then t ⟨nx, rt, bk, ct⟩ σ H1 else u ⟨nx, rt, bk, ct⟩ σ H1) := ⟨w_ifS⟩ -- st
theorem w_nx (q : nx σ H) : tNext ⟨nx, rt, bk, ct⟩ σ H := q
instance : Step (tNext ⟨nx, rt, bk, ct⟩ σ H) (nx σ H) := ⟨w_nx⟩ -- st
theorem w_cont (q : ct σ H) : tCont ⟨nx, rt, bk, ct⟩ σ H := q
instance : Step (tCont ⟨nx, rt, bk, ct⟩ σ H) (ct σ H) := ⟨w_cont⟩ -- st
theorem w_brk (q : bk σ H) : tBreak ⟨nx, rt, bk, ct⟩ σ H := q
instance : Step (tBreak ⟨nx, rt, bk, ct⟩ σ H) (bk σ H) := ⟨w_brk⟩ -- st
theorem w_tgt {n : Nat} {ts : TGs} {Z : L2.St → Hp → Prop} {a : Addr} (xs : List V) (h : SqT K H a xs) (hn : xs.length = n) (q : ts xs σ H Z) : gTup K n ts (.ref a) σ H Z := ⟨a, xs, rfl, h, hn, q⟩
instance {n : Nat} {ts : TGs} {Z : L2.St → Hp → Prop} {a : Addr} : SideK (gTup K n ts (.ref a) σ H Z) 5 := ⟨⟩ -- st
theorem w_gc {ts : TGs} {xs : List V} {Z : L2.St → Hp → Prop} (q : g v σ H fun σ' H' => ts xs σ' H' Z) : gCons g ts (v :: xs) σ H Z := ⟨v, xs, rfl, q⟩
instance {ts : TGs} {xs : List V} {Z : L2.St → Hp → Prop} : Step (gCons g ts (v :: xs) σ H Z) (g v σ H fun σ' H' => ts xs σ' H' Z) := ⟨w_gc⟩ -- st
theorem w_gn {Z : L2.St → Hp → Prop} (q : Z σ H) : gNil [] σ H Z := ⟨rfl, q⟩
instance {Z : L2.St → Hp → Prop} : Step (gNil [] σ H Z) (Z σ H) := ⟨w_gn⟩ -- st
/-- a while, by what holds and a number that falls -/
theorem w_while (W : Nat → L2.St → Hp → Prop) {m0 : Nat} (h0 : W m0 σ H)
    (hs : ∀ m σ H, W m σ H → c σ H fun b H1 => if b = true then ∃ N : L2.St → Hp → Prop, (∀ σ' H', N σ' H' → ∃ m', m' < m ∧ W m' σ' H') ∧ tbody ⟨N, rt, nx, N⟩ σ H1 else nx σ H1) : tWhile c tbody ⟨nx, rt, bk, ct⟩ σ H := ⟨W, ⟨m0, h0⟩, hs⟩
/-- for k in range(n), range(a, b) -/
theorem w_for {wi : TI} (q : wi σ H fun J H1 => ∃ W : Nat → Nat → L2.St → Hp → Prop, (∃ m, W 0 m σ H1) ∧ ∀ i m σ H, W i m σ H →
      (J.stop i H ∧ nx σ H) ∨ (J.go i H ∧ ∃ N : L2.St → Hp → Prop, (∀ σ' H', N σ' H' → ∃ m', m' < m ∧ W (i + 1) m' σ' H') ∧ ∀ x H', J.yld i H x H' → g x σ H' fun σ2 H2 => tbody ⟨N, rt, nx, N⟩ σ2 H2)) : tFor wi g tbody ⟨nx, rt, bk, ct⟩ σ H := q
instance {wi : TI} : StepO (tFor wi g tbody ⟨nx, rt, bk, ct⟩ σ H) (wi σ H fun J H1 => ∃ W : Nat → Nat → L2.St → Hp → Prop, (∃ m, W 0 m σ H1) ∧ ∀ i m σ H, W i m σ H → (J.stop i H ∧ nx σ H) ∨ (J.go i H ∧ ∃ N : L2.St → Hp → Prop, (∀ σ' H', N σ' H' → ∃ m', m' < m ∧ W (i + 1) m' σ' H') ∧ ∀ x H', J.yld i H x H' → g x σ H' fun σ2 H2 => tbody ⟨N, rt, nx, N⟩ σ2 H2)) := ⟨w_for⟩ -- st
end
theorem w_rng1 {t : TA} {R : It → Hp → Prop} (q : t σ H fun vs H1 => ∃ j : Int, vs = [.int j] ∧ -(2 ^ 62) ≤ j ∧ j < 2 ^ 62 ∧ R (Itr 0 j.toNat) H1) : iRng1 t σ H R := q
instance {t : TA} {R : It → Hp → Prop} : StepO (iRng1 t σ H R) (t σ H fun vs H1 => ∃ j : Int, vs = [.int j] ∧ -(2 ^ 62) ≤ j ∧ j < 2 ^ 62 ∧ R (Itr 0 j.toNat) H1) := ⟨w_rng1⟩ -- st
theorem w_rng2 {t : TA} {R : It → Hp → Prop} (q : t σ H fun vs H1 => ∃ i j : Int, vs = [.int i, .int j] ∧ (-(2 ^ 62) ≤ i ∧ i < 2 ^ 62 ∧ -(2 ^ 62) ≤ j ∧ j < 2 ^ 62) ∧ R (Itr i (j - i).toNat) H1) : iRng2 t σ H R := q
instance {t : TA} {R : It → Hp → Prop} : StepO (iRng2 t σ H R) (t σ H fun vs H1 => ∃ i j : Int, vs = [.int i, .int j] ∧ (-(2 ^ 62) ≤ i ∧ i < 2 ^ 62 ∧ -(2 ^ 62) ≤ j ∧ j < 2 ^ 62) ∧ R (Itr i (j - i).toNat) H1) := ⟨w_rng2⟩ -- st
theorem w_ilist {R : It → Hp → Prop} (q : te σ H fun x H1 => ∃ a, x = .ref a ∧ (∃ xs, SqL K H1 a xs) ∧ R (Itl K a) H1) : iList K te σ H R := q
instance {R : It → Hp → Prop} : StepO (iList K te σ H R) (te σ H fun x H1 => ∃ a, x = .ref a ∧ (∃ xs, SqL K H1 a xs) ∧ R (Itl K a) H1) := ⟨w_ilist⟩ -- st
theorem w_itup {R : It → Hp → Prop} (q : te σ H fun x H1 => ∃ a, x = .ref a ∧ (∃ xs, SqT K H1 a xs) ∧ R (Itt K a) H1) : iTup K te σ H R := q
instance {R : It → Hp → Prop} : StepO (iTup K te σ H R) (te σ H fun x H1 => ∃ a, x = .ref a ∧ (∃ xs, SqT K H1 a xs) ∧ R (Itt K a) H1) := ⟨w_itup⟩ -- st
theorem w_istr {R : It → Hp → Prop} (q : te σ H fun v H1 => ∃ x, v = .str x ∧ R (Its x) H1) : iStr te σ H R := q
instance {R : It → Hp → Prop} : StepO (iStr te σ H R) (te σ H fun v H1 => ∃ x, v = .str x ∧ R (Its x) H1) := ⟨w_istr⟩ -- st
theorem w_lc {wi : TI} {g : TG} {tt : TT} {vs : List Nat} (q : wi σ H fun J H1 => ∀ D, H1 D = none → ∃ W : Nat → Nat → Hp → Prop, (∃ m, W 0 m (upd H1 D (.lst []))) ∧ ∀ i m H, W i m H →
    (J.stop i H ∧ Q (.ref D) H) ∨ (J.go i H ∧ ∃ Nx : Hp → Prop, (∀ H', Nx H' → ∃ m', m' < m ∧ W (i + 1) m' H') ∧ ∀ x H', J.yld i H x H' → g x (wipe σ vs) H' fun σ2 H2 => wipe σ2 vs = wipe σ vs ∧ tt σ2 H2 fun b H3 =>
      if b = true then te σ2 H3 fun y H4 => ∃ acc, H4 D = some (.lst acc) ∧ acc.length < sizeLine ∧ Nx (upd H4 D (.lst (acc ++ [y]))) else Nx H3)) : tLc wi g tt te vs σ H Q := q
instance {wi : TI} {g : TG} {tt : TT} {vs : List Nat} : StepO (tLc wi g tt te vs σ H Q) (wi σ H fun J H1 => ∀ D, H1 D = none → ∃ W : Nat → Nat → Hp → Prop, (∃ m, W 0 m (upd H1 D (.lst []))) ∧ ∀ i m H, W i m H → (J.stop i H ∧ Q (.ref D) H) ∨ (J.go i H ∧ ∃ Nx : Hp → Prop, (∀ H', Nx H' → ∃ m', m' < m ∧ W (i + 1) m' H') ∧ ∀ x H', J.yld i H x H' → g x (wipe σ vs) H' fun σ2 H2 => wipe σ2 vs = wipe σ vs ∧ tt σ2 H2 fun b H3 => if b = true then te σ2 H3 fun y H4 => ∃ acc, H4 D = some (.lst acc) ∧ acc.length < sizeLine ∧ Nx (upd H4 D (.lst (acc ++ [y]))) else Nx H3)) := ⟨w_lc⟩ -- st
/-- a test that is open -/
theorem w_ite {p : Prop} [Decidable p] {A B : Prop} (h1 : p → A) (h2 : ¬ p → B) : if decide p = true then A else B := by
  by_cases h : p
  · rw [if_pos (decide_eq_true h)]
    exact h1 h
  · rw [if_neg (by simpa using h)]
    exact h2 h
theorem w_iteT {p : Prop} [Decidable p] {A B : Prop} (hp : p) (h1 : A) : if decide p = true then A else B := by
  rw [if_pos (decide_eq_true hp)]
  exact h1
instance {p : Prop} [Decidable p] {A B : Prop} : SideK (if decide p = true then A else B) 6 := ⟨⟩ -- st
theorem w_iteF {p : Prop} [Decidable p] {A B : Prop} (hp : ¬ p) (h2 : B) : if decide p = true then A else B := by
  rw [if_neg (by simpa using hp)]
  exact h2
theorem w_tt {A B : Prop} (h : A) : if true = true then A else B := by rw [if_pos rfl]; exact h
instance {A B : Prop} : Step (if true = true then A else B) (A) := ⟨w_tt⟩ -- st
theorem w_ff {A B : Prop} (h : B) : if false = true then A else B := by rw [if_neg Bool.false_ne_true]; exact h
instance {A B : Prop} : Step (if false = true then A else B) (B) := ⟨w_ff⟩ -- st
theorem w_ntt {A B : Prop} (h : B) : if (!true) = true then A else B := by rw [if_neg (by decide)]; exact h
instance {A B : Prop} : Step (if (!true) = true then A else B) (B) := ⟨w_ntt⟩ -- st
theorem w_nff {A B : Prop} (h : A) : if (!false) = true then A else B := by rw [if_pos (by rfl)]; exact h
instance {A B : Prop} : Step (if (!false) = true then A else B) (A) := ⟨w_nff⟩ -- st
/-- subscripts -/
theorem w_ixL {p : Addr} {i : Int} (xs : List V) (v : V) (h : SqL K H p xs) (a : atI xs i = some v) (q : Q v H) : rIxL K (.ref p) (.int i) H Q := ⟨p, xs, i, v, rfl, rfl, h, a, q⟩
instance {p : Addr} {i : Int} : SideK (rIxL K (.ref p) (.int i) H Q) 2 := ⟨⟩ -- st
theorem w_ixT {p : Addr} {i : Int} (xs : List V) (v : V) (h : SqT K H p xs) (a : atI xs i = some v) (q : Q v H) : rIxT K (.ref p) (.int i) H Q := ⟨p, xs, i, v, rfl, rfl, h, a, q⟩
instance {p : Addr} {i : Int} : SideK (rIxT K (.ref p) (.int i) H Q) 2 := ⟨⟩ -- st
theorem w_ixS {z : Str} {i : Int} {c : Nat} (h : z.length ≤ sizeLine) (a : atI z.cps.toList i = some c) (q : Q (.str ⟨#[c]⟩) H) : rIxS (.str z) (.int i) H Q := ⟨z, i, c, rfl, rfl, h, a, q⟩
theorem w_setL {p : Addr} {k : Int} {Z : Hp → Prop} (xs : List V) (j : Nat) (h : H p = some (.lst xs)) (a : ixN xs.length k = some j) (q : Z (upd H p (.lst (xs.set j v)))) : rSetL (.ref p) (.int k) v H Z := ⟨p, xs, k, j, rfl, rfl, h, a, q⟩
instance {p : Addr} {k : Int} {Z : Hp → Prop} : SideK (rSetL (.ref p) (.int k) v H Z) 3 := ⟨⟩ -- st
theorem w_b1 {p : Addr} (a0 a1 a2 a3 a4 : V) {Z : Hp → Prop} (h : H p = some (.lst [a0, a1, a2, a3, a4])) (q : Z (upd H p (.lst [a0, v, a2, a3, a4]))) : rSetL (.ref p) (.int 1) v H Z := ⟨p, _, 1, 1, rfl, rfl, h, rfl, q⟩
instance {p : Addr} {Z : Hp → Prop} : SideK (rSetL (.ref p) (.int 1) v H Z) 3 := ⟨⟩ -- st
theorem w_b2 {p : Addr} (a0 a1 a2 a3 a4 : V) {Z : Hp → Prop} (h : H p = some (.lst [a0, a1, a2, a3, a4])) (q : Z (upd H p (.lst [a0, a1, v, a3, a4]))) : rSetL (.ref p) (.int 2) v H Z := ⟨p, _, 2, 2, rfl, rfl, h, rfl, q⟩
theorem w_b3 {p : Addr} (a0 a1 a2 a3 a4 : V) {Z : Hp → Prop} (h : H p = some (.lst [a0, a1, a2, a3, a4])) (q : Z (upd H p (.lst [a0, a1, a2, v, a4]))) : rSetL (.ref p) (.int 3) v H Z := ⟨p, _, 3, 3, rfl, rfl, h, rfl, q⟩
theorem w_b4 {p : Addr} (a0 a1 a2 a3 a4 : V) {Z : Hp → Prop} (h : H p = some (.lst [a0, a1, a2, a3, a4])) (q : Z (upd H p (.lst [a0, a1, a2, a3, v]))) : rSetL (.ref p) (.int 4) v H Z := ⟨p, _, 4, 4, rfl, rfl, h, rfl, q⟩
theorem w_app {l : Addr} (xs : List V) (h : H l = some (.lst xs)) (hn : xs.length < sizeLine) (q : Q .non (upd H l (.lst (xs ++ [y])))) : rAppend (.ref l) [y] H Q := ⟨l, xs, y, rfl, rfl, h, hn, q⟩
instance {l : Addr} : SideK (rAppend (.ref l) [y] H Q) 3 := ⟨⟩ -- st
theorem w_tyL {l : Addr} {P : Prop} (xs : List V) (h : SqL K H l xs) (q : P) : tyV K "list" (.ref l) H ∧ P := ⟨.inl ⟨rfl, _, h⟩, q⟩
instance {l : Addr} {P : Prop} : SideK (tyV K "list" (.ref l) H ∧ P) 2 := ⟨⟩ -- st
theorem w_lenQ {p : Addr} (xs : List V) (h : SqL K H p xs) (q : Q (.int xs.length) H) : rLenQ K [.ref p] H Q := ⟨p, xs, rfl, .inl h, q⟩
instance {p : Addr} : SideK (rLenQ K [.ref p] H Q) 2 := ⟨⟩ -- st
theorem w_lenQT {p : Addr} (xs : List V) (h : SqT K H p xs) (q : Q (.int xs.length) H) : rLenQ K [.ref p] H Q := ⟨p, xs, rfl, .inr h, q⟩
theorem w_lenS {z : Str} (h : z.length ≤ sizeLine) (q : Q (.int z.length) H) : rLenS [.str z] H Q := ⟨z, rfl, h, q⟩
instance {z : Str} : SideK (rLenS [.str z] H Q) 2 := ⟨⟩ -- st
theorem w_listOf {p : Addr} (xs : List V) (h : SqL K H p xs) (q : ∀ l, H l = none → Q (.ref l) (upd H l (.lst xs))) : rListOf K [.ref p] H Q := ⟨p, xs, rfl, .inl h, q⟩
instance {p : Addr} : SideK (rListOf K [.ref p] H Q) 3 := ⟨⟩ -- st
theorem w_int1 {i : Int} (q : Q (.int i) H) : rInt1 [.int i] H Q := .inl ⟨i, rfl, q⟩
instance {i : Int} : Step (rInt1 [.int i] H Q) (Q (.int i) H) := ⟨w_int1⟩ -- st
theorem w_int1b {b : Bool} (q : Q (.int (if b then 1 else 0)) H) : rInt1 [.bl b] H Q := .inr ⟨b, rfl, q⟩
instance {b : Bool} : Step (rInt1 [.bl b] H Q) (Q (.int (if b then 1 else 0)) H) := ⟨w_int1b⟩ -- st
theorem w_abs {i : Int} (q : Q (.int (if i < 0 then -i else i)) H) : rAbs [.int i] H Q := ⟨i, rfl, q⟩
instance {i : Int} : Step (rAbs [.int i] H Q) (Q (.int (if i < 0 then -i else i)) H) := ⟨w_abs⟩ -- st
theorem w_min2 {i j : Int} (q : Q (.int (if j < i then j else i)) H) : rMin2 [.int i, .int j] H Q := ⟨i, j, rfl, q⟩
instance {i j : Int} : Step (rMin2 [.int i, .int j] H Q) (Q (.int (if j < i then j else i)) H) := ⟨w_min2⟩ -- st
theorem w_max2 {i j : Int} (q : Q (.int (if j > i then j else i)) H) : rMax2 [.int i, .int j] H Q := ⟨i, j, rfl, q⟩
instance {i j : Int} : Step (rMax2 [.int i, .int j] H Q) (Q (.int (if j > i then j else i)) H) := ⟨w_max2⟩ -- st
theorem w_min3 {i j k : Int} (q : Q (.int (min (min i j) k)) H) : rNuC3 nuMin3 [.int i, .int j, .int k] H Q := by
  refine ⟨.int i, .int j, .int k, .int (min (min i j) k), rfl, ?_, q⟩
  have e1 : nuMin2 (.int i) (.int j) = some (.int (min i j)) := by
    show some (if decide (j < i) = true then V.int j else V.int i) = _
    by_cases h : j < i
    · rw [if_pos (decide_eq_true h)]
      congr 2
      omega
    · rw [if_neg (by simpa using h)]
      congr 2
      omega
  have e2 : nuMin2 (.int (min i j)) (.int k) = some (.int (min (min i j) k)) := by
    show some (if decide (k < min i j) = true then V.int k else V.int (min i j)) = _
    by_cases h : k < min i j
    · rw [if_pos (decide_eq_true h)]
      congr 2
      omega
    · rw [if_neg (by simpa using h)]
      congr 2
      omega
  show (nuMin2 (.int i) (.int j)).bind (fun m => nuMin2 m (.int k)) = _
  rw [e1]
  exact e2
instance {i j k : Int} : Step (rNuC3 nuMin3 [.int i, .int j, .int k] H Q) (Q (.int (min (min i j) k)) H) := ⟨w_min3⟩ -- st
theorem w_slL {p : Addr} {lo hi : Option Int} (xs : List V) (h : SqL K H p xs) (q : ∀ l, H l = none → Q (.ref l) (upd H l (.lst (cutV xs lo hi)))) : rSlL K (.ref p) lo hi H Q := ⟨p, xs, rfl, h, q⟩
instance {p : Addr} {lo hi : Option Int} : SideK (rSlL K (.ref p) lo hi H Q) 3 := ⟨⟩ -- st
end
end R
namespace R
open PySem L2
/-! ### the bag of a law: its cells (never changed), a place, what is left, the stirred number, a count -/
structure Bag (K : PySem.W.Frag) (F H : Hp) (b : Addr) : Prop where
  ex : ∃ (c : Addr) (cells : List Int) (i cur st n : Int), F b = none ∧ H b = some (.lst [.ref c, .int i, .int cur, .int st, .int n]) ∧ SqL K F c (cells.map V.int) ∧ cells.length ≤ 63 ∧
    (∀ x ∈ cells, 0 ≤ x ∧ x < 10 ^ 60) ∧ 0 ≤ i ∧ 0 ≤ cur ∧ cur < 10 ^ 60 ∧ 0 ≤ st ∧ st < 2147483647
theorem Bag.keep {K : PySem.W.Frag} {M : List Addr} {F H F2 H2 : Hp} {b : Addr} (g : Gr M F H F2 H2) (h : Bag K F H b) (hb : b ∉ M) : Bag K F2 H2 b := by
  obtain ⟨c, cells, i, cur, st, n, h1, h2, h3, h4⟩ := h.ex
  exact ⟨c, cells, i, cur, st, n, g.nw b (ne_none h2) h1, g.hh b _ hb h2, sqL_same g.ff h3, h4⟩
theorem Bag.ne_new {K : PySem.W.Frag} {F H : Hp} {b q : Addr} (h : Bag K F H b) (hq : H q = none) : b ≠ q := by
  obtain ⟨c, cells, i, cur, st, n, h1, h2, _⟩ := h.ex
  exact ne_of_none h2 hq
/-- a draw: a number from 0 on below n -/
def φdraw (K : PySem.W.Frag) : V → V → Hp → VK → Prop := fun x y H Q => ∃ (b : Addr) (m : Int) (F : Hp), x = .ref b ∧ y = .int m ∧ Same F H ∧ Bag K F H b ∧ 0 < m ∧ m < 2 ^ 200 ∧
  ∀ (r : Int) (F2 H2 : Hp), Gr [b] F H F2 H2 → Bag K F2 H2 b → 0 ≤ r → r < m → Q (.int r) H2
theorem u_draw {K : PySem.W.Frag} {b : Addr} {m : Int} {F H : Hp} {Q : VK} {E : XK} (w : Same F H) (hb : Bag K F H b) (h0 : 0 < m) (h1 : m < 2 ^ 200) (q : ∀ (r : Int) (F2 H2 : Hp), Gr [b] F H F2 H2 → Bag K F2 H2 b → 0 ≤ r → r < m → Q (.int r) H2) :
    S2 (φdraw K) ([.ref b, .int m] ++ []) H Q E := ⟨b, m, F, rfl, rfl, w, hb, h0, h1, q⟩
def φbag (K : PySem.W.Frag) : V → Hp → VK → Prop := fun x H Q => ∃ (a : Addr) (ns : List Int), x = .ref a ∧ SqL K H a (ns.map V.int) ∧ ns.length ≤ 63 ∧
  ∀ (b : Addr) (F2 H2 : Hp), Gr [] H H F2 H2 → Bag K F2 H2 b → Q (.ref b) H2
theorem bits_le {m : Int} (h0 : 0 < m) (h1 : m < 2 ^ 200) : (Builtin.Int.intBits m : Int) ≤ 200 := by
  have h : m.natAbs < 2 ^ 200 := by omega
  have e := PyProof.Rows.intBits_le h
  omega
theorem mod_nn {a b : Int} (h : 0 < b) : 0 ≤ a % b := Int.emod_nonneg a (by omega)
theorem mod_lt {a b : Int} (h : 0 < b) : a % b < b := Int.emod_lt_of_pos a h
theorem div_nn {a b : Int} (ha : 0 ≤ a) (hb : 0 < b) : 0 ≤ a / b := Int.ediv_nonneg ha (by omega)
theorem div_le' {a b : Int} (ha : 0 ≤ a) (hb : 0 < b) : a / b ≤ a := Int.ediv_le_self b ha
theorem log2_lt {j : Int} (h : j.natAbs < 2 ^ 8999) (h0 : 0 < j) : CDivW 0 j := by
  refine ⟨h0, ?_⟩
  have hp : j.natAbs ≠ 0 := by omega
  have := (Nat.log2_lt hp).mpr h
  omega
theorem divw_ok {i j : Int} (h0 : 0 < j) (h1 : j < 2 ^ 200) : CDivW i j := by
  refine ⟨h0, ?_⟩
  have hp : j.natAbs ≠ 0 := by omega
  have h : j.natAbs < 2 ^ 200 := by omega
  have := (Nat.log2_lt hp).mpr h
  omega
/-! ### loops by what holds at each turn -/
section
variable {K : PySem.W.Frag} {σ : L2.St} {H : Hp} {Q : VK} {nx bk ct : L2.St → Hp → Prop} {rt : VK} {g : TG} {tb : TS}
/-- what tFor asks of a range, by what holds ahead of turn i -/
theorem f_range {lo : Int} {n : Nat} (Pv : Nat → L2.St → Hp → Prop) (h0 : Pv 0 σ H) (hs : ∀ i σ H, i < n → Pv i σ H → g (.int (lo + i)) σ H fun σ2 H2 => tb ⟨Pv (i + 1), rt, nx, Pv (i + 1)⟩ σ2 H2) (hd : ∀ σ H, Pv n σ H → nx σ H) :
    ∃ W : Nat → Nat → L2.St → Hp → Prop, (∃ m, W 0 m σ H) ∧ ∀ i m σ H, W i m σ H →
      ((Itr lo n).stop i H ∧ nx σ H) ∨ ((Itr lo n).go i H ∧ ∃ N : L2.St → Hp → Prop, (∀ σ' H', N σ' H' → ∃ m', m' < m ∧ W (i + 1) m' σ' H') ∧ ∀ x H', (Itr lo n).yld i H x H' → g x σ H' fun σ2 H2 => tb ⟨N, rt, nx, N⟩ σ2 H2) := by
  refine ⟨fun i m σ H => m = n - i ∧ i ≤ n ∧ Pv i σ H, ⟨n, by simp, Nat.zero_le _, h0⟩, ?_⟩
  rintro i m σ H ⟨rfl, hi, p⟩
  by_cases hlt : i < n
  · refine .inr ⟨hlt, Pv (i + 1), fun σ' H' p' => ⟨n - (i + 1), by omega, rfl, hlt, p'⟩, fun x H' y => ?_⟩
    obtain ⟨e, y⟩ := y
    subst e y
    exact hs i σ _ hlt p
  · have e : i = n := by omega
    subst e
    exact .inl ⟨Nat.le_refl _, hd σ H p⟩
theorem f_range0 {n : Nat} (Pv : Nat → L2.St → Hp → Prop) (h0 : Pv 0 σ H) (hs : ∀ i σ H, i < n → Pv i σ H → g (.int (i : Int)) σ H fun σ2 H2 => tb ⟨Pv (i + 1), rt, nx, Pv (i + 1)⟩ σ2 H2) (hd : ∀ σ H, Pv n σ H → nx σ H) :
    ∃ W : Nat → Nat → L2.St → Hp → Prop, (∃ m, W 0 m σ H) ∧ ∀ i m σ H, W i m σ H →
      ((Itr 0 n).stop i H ∧ nx σ H) ∨ ((Itr 0 n).go i H ∧ ∃ N : L2.St → Hp → Prop, (∀ σ' H', N σ' H' → ∃ m', m' < m ∧ W (i + 1) m' σ' H') ∧ ∀ x H', (Itr 0 n).yld i H x H' → g x σ H' fun σ2 H2 => tb ⟨N, rt, nx, N⟩ σ2 H2) :=
  f_range Pv h0 (fun i σ H hi hp => by rw [Int.zero_add]; exact hs i σ H hi hp) hd
theorem f_list {a : Addr} {xs : List V} (Pv : Nat → L2.St → Hp → Prop) (h0 : Pv 0 σ H) (hl : ∀ i σ H, i ≤ xs.length → Pv i σ H → SqL K H a xs)
    (hs : ∀ i x σ H, xs[i]? = some x → Pv i σ H → g x σ H fun σ2 H2 => tb ⟨Pv (i + 1), rt, nx, Pv (i + 1)⟩ σ2 H2) (hd : ∀ σ H, Pv xs.length σ H → nx σ H) :
    ∃ W : Nat → Nat → L2.St → Hp → Prop, (∃ m, W 0 m σ H) ∧ ∀ i m σ H, W i m σ H →
      ((Itl K a).stop i H ∧ nx σ H) ∨ ((Itl K a).go i H ∧ ∃ N : L2.St → Hp → Prop, (∀ σ' H', N σ' H' → ∃ m', m' < m ∧ W (i + 1) m' σ' H') ∧ ∀ x H', (Itl K a).yld i H x H' → g x σ H' fun σ2 H2 => tb ⟨N, rt, nx, N⟩ σ2 H2) := by
  refine ⟨fun i m σ H => m = xs.length - i ∧ i ≤ xs.length ∧ Pv i σ H, ⟨xs.length, by simp, Nat.zero_le _, h0⟩, ?_⟩
  rintro i m σ H ⟨rfl, hi, p⟩
  have q := hl i σ H hi p
  by_cases hlt : i < xs.length
  · refine .inr ⟨⟨xs, xs[i], q, by simp [hlt]⟩, Pv (i + 1), fun σ' H' p' => ⟨xs.length - (i + 1), by omega, rfl, hlt, p'⟩, fun x H' y => ?_⟩
    obtain ⟨e, y⟩ := y
    subst e
    exact hs i x σ _ (y xs q) p
  · have e : i = xs.length := by omega
    subst e
    exact .inl ⟨⟨xs, q, Nat.le_refl _⟩, hd σ H p⟩
variable {tt : TT} {te : TE} {vs : List Nat} {D : Addr} {Qd : Hp → Prop}
theorem lc_rng {n : Nat} (Pv : Nat → Hp → Prop) (h0 : Pv 0 (upd H D (.lst []))) (hs : ∀ i H, i < n → Pv i H → g (.int (i : Int)) (wipe σ vs) H fun σ2 H2 => wipe σ2 vs = wipe σ vs ∧ tt σ2 H2 fun b H3 =>
      if b = true then te σ2 H3 fun y H4 => ∃ acc, H4 D = some (.lst acc) ∧ acc.length < sizeLine ∧ Pv (i + 1) (upd H4 D (.lst (acc ++ [y]))) else Pv (i + 1) H3) (hd : ∀ H, Pv n H → Qd H) :
    ∃ W : Nat → Nat → Hp → Prop, (∃ m, W 0 m (upd H D (.lst []))) ∧ ∀ i m H, W i m H →
      ((Itr 0 n).stop i H ∧ Qd H) ∨ ((Itr 0 n).go i H ∧ ∃ Nx : Hp → Prop, (∀ H', Nx H' → ∃ m', m' < m ∧ W (i + 1) m' H') ∧ ∀ x H', (Itr 0 n).yld i H x H' → g x (wipe σ vs) H' fun σ2 H2 => wipe σ2 vs = wipe σ vs ∧ tt σ2 H2 fun b H3 =>
        if b = true then te σ2 H3 fun y H4 => ∃ acc, H4 D = some (.lst acc) ∧ acc.length < sizeLine ∧ Nx (upd H4 D (.lst (acc ++ [y]))) else Nx H3) :=
  lc_range (lo := 0) Pv h0 (fun i H hi hp => by rw [Int.zero_add]; exact hs i H hi hp) hd
end
end R
namespace R
open PySem L2
theorem Gr.put {M : List Addr} {F0 H0 F H : Hp} {p : Addr} {o : HO} (g : Gr M F0 H0 F H) (h : F p = none) (hm : p ∈ M) : Gr M F0 H0 F (upd H p o) := g.trans (.wr g.fh h hm)
theorem Gr.add {M : List Addr} {F0 H0 F H : Hp} {p : Addr} {o : HO} (g : Gr M F0 H0 F H) (h : H p = none) : Gr M F0 H0 (upd F p o) (upd H p o) := g.trans (.im g.fh h)
theorem Gr.addm {M : List Addr} {F0 H0 F H : Hp} {p : Addr} {o : HO} (g : Gr M F0 H0 F H) (h : H p = none) : Gr M F0 H0 F (upd H p o) := g.trans (.new g.fh h)
theorem Gr.ws {M : List Addr} {F H F2 H2 : Hp} (g : Gr M F H F2 H2) : Same F H2 := g.ff.trans g.fh
theorem Gr.transN {M N : List Addr} {F H F1 H1 F2 H2 : Hp} (a : Gr M F H F1 H1) (b : Gr N F1 H1 F2 H2) (h : ∀ x ∈ N, x ∈ M ∨ H x = none) : Gr M F H F2 H2 :=
  ⟨a.ff.trans b.ff, b.fh, fun x o n e => b.hh x o (fun m => (h x m).elim n fun z => by rw [z] at e; cases e) (a.hh x o n e), fun x e => b.al x (a.al x e), fun x e n => b.nw x (a.al x e) (a.nw x e n)⟩
/-- back to a smaller part that stays -/
theorem Gr.back {M : List Addr} {F F' H F2 H2 : Hp} (g : Gr M F' H F2 H2) (s : Same F F') : Gr M F H F H2 := ⟨Same.refl F, (s.trans g.ff).trans g.fh, g.hh, g.al, fun _ _ n => n⟩
theorem Gr.fresh {M : List Addr} {F0 H0 F H : Hp} {p : Addr} (g : Gr M F0 H0 F H) (h : H p = none) : H0 p = none := by
  cases e : H0 p with
  | none => rfl
  | some o => exact absurd h (g.al p (ne_none e))
/-- an object that was new behind the start, and changes no more -/
theorem Gr.frz {M : List Addr} {F0 H0 F H : Hp} {p : Addr} {o : HO} (g : Gr M F0 H0 F H) (hn : H0 p = none) (m : Mu F H p o) : Gr M F0 H0 (upd F p o) H := by
  refine ⟨g.ff.trans (Same.new m.n), fun a u e => ?_, g.hh, g.al, fun a e n => ?_⟩
  · by_cases q : a = p
    · subst q
      rw [upd_same] at e
      exact m.h.trans e
    · rw [upd_ne q] at e
      exact g.fh a u e
  · have q : a ≠ p := fun z => by subst z; exact e hn
    rw [upd_ne q]
    exact g.nw a e n
theorem Mu.same {F H : Hp} {p : Addr} {o : HO} (m : Mu F H p o) (w : Same F H) : Same (upd F p o) H := fun a u e => by
  by_cases q : a = p
  · subst q
    rw [upd_same] at e
    exact m.h.trans e
  · rw [upd_ne q] at e
    exact w a u e
theorem Mu.frz {F H : Hp} {p q : Addr} {o u : HO} (m : Mu F H p o) (h : p ≠ q) : Mu (upd F q u) H p o := ⟨by rw [upd_ne h]; exact m.n, m.h⟩
theorem Bag.frz {K : PySem.W.Frag} {F H : Hp} {b q : Addr} {u : HO} (h : Bag K F H b) (hn : F q = none) (hq : b ≠ q) : Bag K (upd F q u) H b := by
  obtain ⟨c, cells, i, cur, st, n, h1, h2, h3, h4⟩ := h.ex
  exact ⟨c, cells, i, cur, st, n, by rw [upd_ne hq]; exact h1, h2, sqL_same (Same.new hn) h3, h4⟩
theorem Bag.put {K : PySem.W.Frag} {F H : Hp} {b q : Addr} {u : HO} (h : Bag K F H b) (hq : b ≠ q) : Bag K F (upd H q u) b := by
  obtain ⟨c, cells, i, cur, st, n, h1, h2, h3, h4⟩ := h.ex
  exact ⟨c, cells, i, cur, st, n, h1, by rw [upd_ne hq]; exact h2, h3, h4⟩
theorem Bag.addm {K : PySem.W.Frag} {F H : Hp} {b q : Addr} {u : HO} (h : Bag K F H b) (hq : H q = none) : Bag K F (upd H q u) b := h.put (h.ne_new hq)
theorem Bag.add {K : PySem.W.Frag} {F H : Hp} {b q : Addr} {u : HO} (w : Same F H) (h : Bag K F H b) (hq : H q = none) : Bag K (upd F q u) (upd H q u) b := (h.addm hq).frz (w.free hq) (h.ne_new hq)
theorem Mu.addm {F H : Hp} {p q : Addr} {o u : HO} (m : Mu F H p o) (hq : H q = none) : Mu F (upd H q u) p o := m.oth (m.ne_new hq)
theorem Mu.add {F H : Hp} {p q : Addr} {o u : HO} (m : Mu F H p o) (hq : H q = none) : Mu (upd F q u) (upd H q u) p o := (m.addm hq).frz (m.ne_new hq)
/-! ### data -/
theorem dpa_len {K : PySem.W.Frag} {F : Hp} : ∀ {vs : List V} {ds : List PyData}, DpAll K F vs ds → vs.length = ds.length
  | _, _, .nil => rfl
  | _, _, .cons _ t => congrArg (· + 1) (dpa_len t)
theorem dpa_get {K : PySem.W.Frag} {F : Hp} : ∀ {vs : List V} {ds : List PyData} {i : Nat} {d : PyData}, DpAll K F vs ds → ds[i]? = some d → ∃ v, vs[i]? = some v ∧ Dp K F v d
  | _, _, _, _, .nil, e => by simp at e
  | _, _, 0, _, .cons h _, e => by
    have e' := Option.some.inj e
    subst e'
    exact ⟨_, rfl, h⟩
  | _, _, i + 1, _, .cons _ t, e => dpa_get (i := i) t e
theorem dpa_app {K : PySem.W.Frag} {F : Hp} : ∀ {vs us : List V} {ds es : List PyData}, DpAll K F vs ds → DpAll K F us es → DpAll K F (vs ++ us) (ds ++ es)
  | _, _, _, _, .nil, h => h
  | _, _, _, _, .cons h t, u => .cons h (dpa_app t u)
theorem dpa_snoc {K : PySem.W.Frag} {F : Hp} {vs : List V} {ds : List PyData} {v : V} {d : PyData} (h : DpAll K F vs ds) (hd : Dp K F v d) : DpAll K F (vs ++ [v]) (ds ++ [d]) := dpa_app h (.cons hd .nil)
def tyD : PyData → String
  | .none => "NoneType" | .bool _ => "bool" | .int _ => "int" | .str _ => "str" | .list _ => "list" | .tuple _ => "tuple" | .dict _ => "dict"
theorem tyx_of {K : PySem.W.Frag} {F H : Hp} {x : V} {d : PyData} (h : Dp K F x d) (w : Same F H) : TyX K H x (.type (tyD d)) := by
  cases h with
  | non => exact .base .non
  | bl b => exact .base (.bl b)
  | int i => exact .base (.int i)
  | str s => exact .base (.str s)
  | lst hs _ =>
    rcases hs with (h | ⟨o, h⟩) | ⟨o, its, n, e1, e2, _⟩
    · exact .base (.lst (w _ _ h))
    · exact .base (.frz (w _ _ h))
    · exact .kList e1 e2
  | tup hs _ =>
    rcases hs with (h | ⟨o, h⟩) | ⟨o, its, n, e1, e2, _⟩
    · exact .base (.tup (w _ _ h))
    · exact .fTuple (w _ _ h)
    · exact .kTuple e1 e2
section
variable {K : PySem.W.Frag} {F H : Hp} {x y : V} {d : PyData} {Q : VK} {n m : String} {p : Addr}
theorem u_isi {b : Bool} (h : Dp K F x d) (w : Same F H) (e : kitB (tyD d) n = some b) (q : Q (.bl b) H) : rIsi K [x, .ty n] H Q :=
  ⟨x, .ty n, _, _, b, rfl, .ty n, tyx_of h w, kit_ty e, q⟩
end
def isLst : PyData → Bool
  | .list _ => true
  | _ => false
def isTup : PyData → Bool
  | .tuple _ => true
  | _ => false
def isBol : PyData → Bool
  | .bool _ => true
  | _ => false
def isInt : PyData → Bool
  | .bool _ | .int _ => true
  | _ => false
def isStr : PyData → Bool
  | .str _ => true
  | _ => false
theorem k_list : ∀ d : PyData, kitB (tyD d) "list" = some (isLst d) := by intro d; cases d <;> simp only [tyD, isLst, isTup, isBol, isInt, isStr] <;> decide +kernel
theorem k_tuple : ∀ d : PyData, kitB (tyD d) "tuple" = some (isTup d) := by intro d; cases d <;> simp only [tyD, isLst, isTup, isBol, isInt, isStr] <;> decide +kernel
theorem k_bool : ∀ d : PyData, kitB (tyD d) "bool" = some (isBol d) := by intro d; cases d <;> simp only [tyD, isLst, isTup, isBol, isInt, isStr] <;> decide +kernel
theorem k_int : ∀ d : PyData, kitB (tyD d) "int" = some (isInt d) := by intro d; cases d <;> simp only [tyD, isLst, isTup, isBol, isInt, isStr] <;> decide +kernel
theorem k_str : ∀ d : PyData, kitB (tyD d) "str" = some (isStr d) := by intro d; cases d <;> simp only [tyD, isLst, isTup, isBol, isInt, isStr] <;> decide +kernel
section
variable {K : PySem.W.Frag} {H : Hp} {Q : VK} {v : V} {A B : Prop}
theorem w_ixQ {a : Addr} {i : Int} (vs : List V) (v : V) (h : SqL K H a vs ∨ SqT K H a vs) (e : atI vs i = some v) (q : Q v H) : rIx K (.ref a) (.int i) H Q := by
  rcases h with h | h
  · exact .inl ⟨a, vs, i, v, rfl, rfl, h, e, q⟩
  · exact .inr (.inl ⟨a, vs, i, v, rfl, rfl, h, e, q⟩)
theorem w_nself {α : Type} [DecidableEq α] {a : α} (h : B) : if (!decide (a = a)) = true then A else B := by
  rw [if_neg (by simp)]
  exact h
instance {α : Type} [DecidableEq α] {a : α} : Step (if (!decide (a = a)) = true then A else B) (B) := ⟨w_nself⟩ -- st
theorem w_self {α : Type} [DecidableEq α] {a : α} (h : A) : if decide (a = a) = true then A else B := by
  rw [if_pos (by simp)]
  exact h
instance {α : Type} [DecidableEq α] {a : α} : Step (if decide (a = a) = true then A else B) (A) := ⟨w_self⟩ -- st
theorem w_is {b c : Bool} (e : b = c) (h : if c = true then A else B) : if b = true then A else B := by rw [e]; exact h
end
theorem le1000 {n : Nat} (h : n ≤ 1000) : n ≤ sizeLine := Nat.le_of_lt (small1000 h)
theorem small_lt {n : Nat} (h : n ≤ 1000000) : n < sizeLine := by rw [sizeLine_eq]; omega
theorem all_rep (n : Nat) : (List.replicate n true).all id = true := by
  induction n with
  | zero => rfl
  | succ n ih => rw [List.replicate_succ, List.all_cons, ih]; rfl
theorem szle {n : Nat} (h : n ≤ 1000000) : n ≤ sizeLine := Nat.le_of_lt (by rw [sizeLine_eq]; omega)
section
variable {K : PySem.W.Frag} {σ : L2.St} {H : Hp} {Q : VK} {ta : TE}
theorem w_lstRg {te : L2.St → Hp → (Int → Int → Hp → Prop) → Prop} (q : te σ H fun a b H1 => RgOk a b ∧ ∀ q, H1 q = none → Q (.ref q) (upd H1 q (.lst (rgV a b)))) : tLstRg te σ H Q := q
instance {te : L2.St → Hp → (Int → Int → Hp → Prop) → Prop} : StepO (tLstRg te σ H Q) (te σ H fun a b H1 => RgOk a b ∧ ∀ q, H1 q = none → Q (.ref q) (upd H1 q (.lst (rgV a b)))) := ⟨w_lstRg⟩ -- st
theorem w_rg1 {R : Int → Int → Hp → Prop} (q : ta σ H fun x H1 => asInt x H1 fun n H2 => R 0 n H2) : tRg1 ta σ H R := q
instance {R : Int → Int → Hp → Prop} : Step (tRg1 ta σ H R) (ta σ H fun x H1 => asInt x H1 fun n H2 => R 0 n H2) := ⟨w_rg1⟩ -- st
theorem w_revL (q : ta σ H fun x H1 => ∃ a xs, x = .ref a ∧ SqL K H1 a xs ∧ ∀ p, H1 p = none → Q (.ref p) (upd H1 p (.lst xs.reverse))) : tRevL K ta σ H Q := q
instance : StepO (tRevL K ta σ H Q) (ta σ H fun x H1 => ∃ a xs, x = .ref a ∧ SqL K H1 a xs ∧ ∀ p, H1 p = none → Q (.ref p) (upd H1 p (.lst xs.reverse))) := ⟨w_revL⟩ -- st
end
def nV (l : List Nat) : List V := l.map fun k => V.int (k : Nat)
theorem rgV0 (n : Int) : rgV 0 n = nV (List.range n.toNat) := by
  unfold rgV nV
  rw [Int.sub_zero]
  refine List.map_congr_left fun k _ => ?_
  rw [Int.zero_add]
theorem pick_ix {ns : List Int} {i lo hi : Int} (h0 : 0 ≤ i) (h1 : i < (ns.length : Int)) (hb : ∀ x ∈ ns, lo ≤ x ∧ x ≤ hi) : ∃ m, atI (ns.map V.int) i = some (.int m) ∧ lo ≤ m ∧ m ≤ hi := by
  have hi : i.toNat < ns.length := by omega
  refine ⟨ns[i.toNat], ?_, hb _ (List.getElem_mem hi)⟩
  refine at_of (j := i.toNat) (by omega) ?_
  rw [List.getElem?_map, List.getElem?_eq_getElem hi]
  rfl
theorem cell_at {cells : List Int} {i : Int} (h0 : 0 ≤ i) (h1 : i < ((cells.map V.int).length : Nat)) : ∃ x, x ∈ cells ∧ atI (cells.map V.int) i = some (.int x) := by
  rw [List.length_map] at h1
  have hi : i.toNat < cells.length := by omega
  refine ⟨cells[i.toNat], List.getElem_mem hi, ?_⟩
  refine at_of (j := i.toNat) (by omega) ?_
  rw [List.getElem?_map, List.getElem?_eq_getElem hi]
  rfl
theorem cut63 {ns : List Int} (h : ns.length ≤ 63) : cutV (ns.map V.int) none (some 63) = ns.map V.int := by
  unfold cutV
  rw [HT.sIx_none, show HT.sIx (ns.map V.int).length (ns.map V.int).length (some 63) = min 63 (ns.map V.int).length from HT.sIx_nat _ _ 63, List.drop_zero, List.length_map]
  refine List.take_of_length_le ?_
  rw [List.length_map]
  omega
theorem map_get {ns : List Int} {i : Nat} {x : V} (h : (ns.map V.int)[i]? = some x) : ∃ c, x = .int c := by
  rw [List.getElem?_map] at h
  cases e : ns[i]? with
  | none => rw [e] at h; cases h
  | some c =>
    rw [e] at h
    exact ⟨c, (Option.some.inj h).symm⟩
/-! data of modest size, no dicts, plain signs -/
mutual
def good : PyData → Bool
  | .none | .bool _ | .int _ => true
  | .str x => PyData.strOk x && decide (x.length ≤ 100000)
  | .list ds | .tuple ds => decide (ds.length ≤ 100000) && goodAll ds
  | .dict _ => false
def goodAll : List PyData → Bool
  | [] => true
  | d :: ds => good d && goodAll ds
end
theorem goodAll_iff : ∀ {ds : List PyData}, goodAll ds = true ↔ ∀ d ∈ ds, good d = true
  | [] => by simp [goodAll]
  | d :: ds => by simp [goodAll, goodAll_iff (ds := ds)]
mutual
theorem lay_good : ∀ d : PyData, good d = true → d.canLay0 = true
  | .none, _ => rfl
  | .bool _, _ => rfl
  | .int _, _ => rfl
  | .str x, h => by
    rw [good, Bool.and_eq_true] at h
    exact h.1
  | .list ds, h => by
    rw [good, Bool.and_eq_true] at h
    exact lay_goodAll ds h.2
  | .tuple ds, h => by
    rw [good, Bool.and_eq_true] at h
    exact lay_goodAll ds h.2
  | .dict _, h => by cases h
theorem lay_goodAll : ∀ ds : List PyData, goodAll ds = true → PyData.canLayAll0 ds = true
  | [], _ => rfl
  | d :: ds, h => by
    rw [goodAll, Bool.and_eq_true] at h
    rw [PyData.canLayAll0, lay_good d h.1, lay_goodAll ds h.2]
    rfl
end
theorem good_shaped {d : PyData} (h : good d = true) (hd : d.depth ≤ 64) : SeqAt.shaped d = true := by
  unfold SeqAt.shaped
  rw [lay_good d h, decide_eq_true hd]
  rfl
theorem good_refl {d : PyData} (h : good d = true) : PyData.eqv d d = true := SeqAt.eqv_refl d (lay_good d h)
theorem good_list {ds : List PyData} (hl : ds.length ≤ 100000) (h : ∀ d ∈ ds, good d = true) : good (.list ds) = true := by
  rw [good, Bool.and_eq_true]
  exact ⟨decide_eq_true hl, goodAll_iff.mpr h⟩
theorem good_tuple {ds : List PyData} (hl : ds.length ≤ 100000) (h : ∀ d ∈ ds, good d = true) : good (.tuple ds) = true := by
  rw [good, Bool.and_eq_true]
  exact ⟨decide_eq_true hl, goodAll_iff.mpr h⟩
theorem depth_list {ds : List PyData} {n : Nat} (h : ∀ d ∈ ds, d.depth ≤ n) : (PyData.list ds).depth ≤ n + 1 := by
  have key : ∀ ds : List PyData, (∀ d ∈ ds, d.depth ≤ n) → PyData.depthAll ds ≤ n := by
    intro ds
    induction ds with
    | nil => intro _; exact Nat.zero_le _
    | cons d ds ih =>
      intro h
      rw [PyData.depthAll]
      exact Nat.max_le.mpr ⟨h d (List.mem_cons_self ..), ih fun e he => h e (List.mem_cons_of_mem _ he)⟩
  rw [PyData.depth]
  exact Nat.succ_le_succ (key ds h)
theorem depth_tuple {ds : List PyData} {n : Nat} (h : ∀ d ∈ ds, d.depth ≤ n) : (PyData.tuple ds).depth ≤ n + 1 := depth_list (ds := ds) h
/-! == and != of equal data -/
section
variable {K : PySem.W.Frag} {F H : Hp} {x y : V} {d : PyData} {Q : VK}
theorem u_eqD (w : Same F H) (hx : Dp K F x d) (hy : Dp K F y d) (hg : good d = true) (hd : d.depth ≤ 64) (q : Q (.bl true) H) : rEqD K x y H Q :=
  ⟨d, d, dp_same w _ _ hx, dp_same w _ _ hy, good_shaped hg hd, good_shaped hg hd, by rw [good_refl hg]; exact q⟩
theorem u_neD (w : Same F H) (hx : Dp K F x d) (hy : Dp K F y d) (hg : good d = true) (hd : d.depth ≤ 64) (q : Q (.bl false) H) : rNeD K x y H Q :=
  ⟨d, d, dp_same w _ _ hx, dp_same w _ _ hy, good_shaped hg hd, good_shaped hg hd, by rw [good_refl hg]; exact q⟩
end
end R
namespace R
open PySem L2
/-! ### data taken apart -/
section
variable {K : PySem.W.Frag} {F : Hp} {x v : V}
theorem dp_int {i : Int} (h : Dp K F x (.int i)) : x = .int i := by cases h; rfl
theorem dp_str {s : Str} (h : Dp K F x (.str s)) : x = .str s := by cases h; rfl
theorem dp_list {ds : List PyData} (h : Dp K F x (.list ds)) : ∃ (a : Addr) (vs : List V), x = .ref a ∧ SqL K F a vs ∧ DpAll K F vs ds := by
  cases h with
  | lst hs ha => exact ⟨_, _, rfl, hs, ha⟩
theorem dp_tup {ds : List PyData} (h : Dp K F x (.tuple ds)) : ∃ (a : Addr) (vs : List V), x = .ref a ∧ SqT K F a vs ∧ DpAll K F vs ds := by
  cases h with
  | tup hs ha => exact ⟨_, _, rfl, hs, ha⟩
theorem dpa_cons {vs : List V} {d : PyData} {ds : List PyData} (h : DpAll K F vs (d :: ds)) : ∃ v us, vs = v :: us ∧ Dp K F v d ∧ DpAll K F us ds := by
  cases h with
  | cons h t => exact ⟨_, _, rfl, h, t⟩
theorem dpa_nil {vs : List V} (h : DpAll K F vs []) : vs = [] := by cases h; rfl
theorem dp_tup3 {d1 d2 d3 : PyData} (h : Dp K F x (.tuple [d1, d2, d3])) : ∃ (a : Addr) (v1 v2 v3 : V), x = .ref a ∧ SqT K F a [v1, v2, v3] ∧ Dp K F v1 d1 ∧ Dp K F v2 d2 ∧ Dp K F v3 d3 := by
  obtain ⟨a, vs, rfl, hs, h0⟩ := dp_tup h
  obtain ⟨v1, us, rfl, h1, h0⟩ := dpa_cons h0
  obtain ⟨v2, us, rfl, h2, h0⟩ := dpa_cons h0
  obtain ⟨v3, us, rfl, h3, h0⟩ := dpa_cons h0
  cases dpa_nil h0
  exact ⟨a, v1, v2, v3, rfl, hs, h1, h2, h3⟩
theorem dp_tup4 {d1 d2 d3 d4 : PyData} (h : Dp K F x (.tuple [d1, d2, d3, d4])) : ∃ (a : Addr) (v1 v2 v3 v4 : V), x = .ref a ∧ SqT K F a [v1, v2, v3, v4] ∧ Dp K F v1 d1 ∧ Dp K F v2 d2 ∧ Dp K F v3 d3 ∧ Dp K F v4 d4 := by
  obtain ⟨a, vs, rfl, hs, h0⟩ := dp_tup h
  obtain ⟨v1, us, rfl, h1, h0⟩ := dpa_cons h0
  obtain ⟨v2, us, rfl, h2, h0⟩ := dpa_cons h0
  obtain ⟨v3, us, rfl, h3, h0⟩ := dpa_cons h0
  obtain ⟨v4, us, rfl, h4, h0⟩ := dpa_cons h0
  cases dpa_nil h0
  exact ⟨a, v1, v2, v3, v4, rfl, hs, h1, h2, h3, h4⟩
end
/-! ### texts -/
/-- a text of plain signs -/
def okS (z : Str) : Prop := PyData.strOk z = true
instance (z : Str) : Decidable (okS z) := inferInstanceAs (Decidable (PyData.strOk z = true))
theorem ok_cat {a b : Str} (h : okS a) (h' : okS b) : okS (a ++ b) := by
  have e : (a ++ b).cps.toList = a.cps.toList ++ b.cps.toList := TL.tl_append a b
  have h1 : a.cps.all (· < 0x110000) = true := h
  have h2 : b.cps.all (· < 0x110000) = true := h'
  show (a ++ b).cps.all (· < 0x110000) = true
  rw [← Array.all_toList] at h1 h2 ⊢
  rw [e, List.all_append, h1, h2]
  rfl
theorem ok_sign {z : Str} {k : Nat} (ok : okS z) (h1 : k < z.length) : okS ⟨#[z.cps.toList.getD k 0]⟩ := by
  have hi : k < z.cps.toList.length := by
    have : z.cps.toList.length = z.length := by simp [Str.length]
    omega
  have h2 : z.cps.all (· < 0x110000) = true := ok
  rw [← Array.all_toList, List.all_eq_true] at h2
  have h3 := h2 _ (List.getElem_mem hi)
  rw [List.getD_eq_getElem?_getD, List.getElem?_eq_getElem hi]
  show (#[z.cps.toList[k]] : Array Nat).all (· < 0x110000) = true
  simpa using h3
/-! ### rows of a plan -/
inductive Wd where | copy | keep | lay
  deriving DecidableEq
def Wd.s : Wd → Str
  | .copy => "copy" | .keep => "keep" | .lay => "lay"
inductive PRow where
  | put (to : Int) (s : Str)
  | mv (w : Wd) (to at_ n : Int)
def PRow.d : PRow → PyData
  | .put to s => .tuple [.str "put", .int to, .str s]
  | .mv w to a n => .tuple [.str w.s, .int to, .int a, .int n]
def PRow.size : PRow → Nat
  | .put _ s => s.length
  | .mv _ _ _ n => n.toNat
def PRow.ok : PRow → Prop
  | .put _ s => okS s ∧ s.length ≤ 5000
  | .mv _ _ _ n => 0 ≤ n ∧ n ≤ 5000
def wr (a : Str) (i : Int) (b : Str) (x : PyData) : PyData := .tuple [.str a, .int i, .str b, x]
def Wd.cell (w : Wd) : Str := if w = .keep then "slot" else "cell"
def PRow.steps (w : Wd) (to a n : Int) : List Nat := if w = .copy ∧ a < to then (List.range n.toNat).reverse else List.range n.toNat
/-! ### the law's makers -/
/-- a list of truths of this length, that may change -/
def Hs (F H : Hp) (t : Addr) (n : Nat) : Prop := ∃ bs : List Bool, bs.length = n ∧ Mu F H t (.lst (bs.map V.bl))
theorem Hs.keep {M : List Addr} {F H F2 H2 : Hp} {t : Addr} {n : Nat} (g : Gr M F H F2 H2) (h : Hs F H t n) (ht : t ∉ M) : Hs F2 H2 t n := by
  obtain ⟨bs, l, m⟩ := h
  exact ⟨bs, l, g.mu m ht⟩
theorem Hs.addm {F H : Hp} {t p : Addr} {n : Nat} {u : HO} (h : Hs F H t n) (hp : H p = none) : Hs F (upd H p u) t n := by
  obtain ⟨bs, l, m⟩ := h
  exact ⟨bs, l, m.addm hp⟩
theorem Hs.add {F H : Hp} {t p : Addr} {n : Nat} {u : HO} (h : Hs F H t n) (hp : H p = none) : Hs (upd F p u) (upd H p u) t n := by
  obtain ⟨bs, l, m⟩ := h
  exact ⟨bs, l, m.add hp⟩
theorem Hs.ne_new {F H : Hp} {t q : Addr} {n : Nat} (h : Hs F H t n) (hq : H q = none) : t ≠ q := by
  obtain ⟨_, _, m⟩ := h
  exact m.ne_new hq
theorem Hs.put {F H : Hp} {t q : Addr} {n : Nat} {u : HO} (h : Hs F H t n) (hq : t ≠ q) : Hs F (upd H q u) t n := by
  obtain ⟨bs, l, m⟩ := h
  exact ⟨bs, l, m.oth hq⟩
theorem Hs.set {F H : Hp} {t p : Addr} {n : Nat} {cs : List Bool} (h : Hs F H t n) (hp : t = p → cs.length = n) (m : Mu F H p (.lst (cs.map V.bl))) {j : Nat} : Hs F (upd H p (.lst ((cs.map V.bl).set j (V.bl true)))) t n := by
  by_cases e : t = p
  · subst e
    refine ⟨cs.set j true, by rw [List.length_set]; exact hp rfl, ?_⟩
    rw [List.map_set]
    exact m.wr
  · obtain ⟨bs, l, m'⟩ := h
    exact ⟨bs, l, m'.oth e⟩
theorem ixN_in {n : Nat} {i : Int} (h0 : 0 ≤ i) (h1 : i < (n : Int)) : ixN n i = some i.toNat := by
  unfold ixN
  rw [if_pos h0, if_pos h1]
theorem str_good {z : Str} (h : okS z) (hl : z.length ≤ 100000) : good (.str z) = true := by
  rw [good, h, decide_eq_true hl]
  rfl
def φlaw (K : PySem.W.Frag) : V → Hp → VK → Prop := fun x H Q => ∃ (a : Addr) (ns : List Int), x = .ref a ∧ SqL K H a (ns.map V.int) ∧ ns.length ≤ 63 ∧ ∀ H', Q (.bl true) H'
theorem law_start {K : PySem.W.Frag} {H : Hp} (a : Addr) (ns : List Int) (hl : ns.length ≤ 63) (hO : Only H) (hS : SqL K H a (ns.map V.int)) : (S1 (φlaw K)) [.ref a] H (fun v _ => v = .bl true) fun _ _ _ => False := ⟨a, ns, rfl, hS, hl, fun _ => rfl⟩
end R
namespace R
open PySem PySem.Spec PyProof.Rows L2
/-- d.setdefault(t, z), t a tuple -/
def tDSetT (td ty tx : TE) : TE := fun σ H Q => td σ H fun x H1 => ∃ a, x = .ref a ∧ IsD H1 a ∧ ty σ H1 fun y H2 => tx σ H2 fun z H3 => ∃ (b : Addr) (kvs : List (List Key × V)) (k : List Key), H3 a = some (.dT kvs) ∧ y = .ref b ∧ H3 b = some (.tup (k.map kV)) ∧ kvs.length < sizeLine ∧
  (∀ v, valV kvs k = some v → Q v H3) ∧ (valV kvs k = none → Q z (upd H3 a (.dT (putK kvs k z))))
end R
namespace R
open PySem L2
/-! ### dicts in a reading -/
def gDGet (x y : V) (H : Hp) (Q : VK) : Prop := ∃ a v, x = .ref a ∧ DGet H a y (some v) ∧ Q v H
def gDIn (x y : V) (H : Hp) (Q : VK) : Prop := ∃ a o, x = .ref a ∧ DGet H a y o ∧ Q (.bl o.isSome) H
def gDNotIn (x y : V) (H : Hp) (Q : VK) : Prop := ∃ a o, x = .ref a ∧ DGet H a y o ∧ Q (.bl (!o.isSome)) H
def gDPut (x y v : V) (H : Hp) (Z : Hp → Prop) : Prop := ∃ a H4, x = .ref a ∧ DPut H a y v H4 ∧ Z H4
section
variable {K : PySem.W.Frag} {σ : L2.St} {H : Hp} {Q : VK} {td ty tv tx te : TE} {x y v : V} {nx bk ct : L2.St → Hp → Prop} {rt : VK} {D p : Addr} {kvs : List (List Key × V)} {ks : List Key}
theorem w_dnewT (q : ∀ p, H p = none → Q (.ref p) (upd H p (.dT []))) : tDNewT σ H Q := q
instance : Step (tDNewT σ H Q) (∀ p, H p = none → Q (.ref p) (upd H p (.dT []))) := ⟨w_dnewT⟩ -- st
theorem w_dnewK (q : ∀ p, H p = none → Q (.ref p) (upd H p (.dK []))) : tDNewK σ H Q := q
instance : Step (tDNewK σ H Q) (∀ p, H p = none → Q (.ref p) (upd H p (.dK []))) := ⟨w_dnewK⟩ -- st
theorem w_dget (q : td σ H fun x H1 => ty σ H1 fun y H2 => gDGet x y H2 Q) : tDGet td ty σ H Q := q
instance : Step (tDGet td ty σ H Q) (td σ H fun x H1 => ty σ H1 fun y H2 => gDGet x y H2 Q) := ⟨w_dget⟩ -- st
theorem w_din (q : ty σ H fun y H1 => td σ H1 fun x H2 => gDIn x y H2 Q) : tDIn ty td σ H Q := q
instance : Step (tDIn ty td σ H Q) (ty σ H fun y H1 => td σ H1 fun x H2 => gDIn x y H2 Q) := ⟨w_din⟩ -- st
theorem w_dnotin (q : ty σ H fun y H1 => td σ H1 fun x H2 => gDNotIn x y H2 Q) : tDNotIn ty td σ H Q := q
instance : Step (tDNotIn ty td σ H Q) (ty σ H fun y H1 => td σ H1 fun x H2 => gDNotIn x y H2 Q) := ⟨w_dnotin⟩ -- st
theorem w_dput (q : tv σ H fun v H1 => td σ H1 fun x H2 => ty σ H2 fun y H3 => gDPut x y v H3 fun H4 => nx σ H4) : sDPut td ty tv ⟨nx, rt, bk, ct⟩ σ H := q
instance : Step (sDPut td ty tv ⟨nx, rt, bk, ct⟩ σ H) (tv σ H fun v H1 => td σ H1 fun x H2 => ty σ H2 fun y H3 => gDPut x y v H3 fun H4 => nx σ H4) := ⟨w_dput⟩ -- st
theorem w_dsetT (q : td σ H fun x H1 => ∃ a, x = .ref a ∧ IsD H1 a ∧ ty σ H1 fun y H2 => tx σ H2 fun z H3 => ∃ (b : Addr) (kvs : List (List Key × V)) (k : List Key), H3 a = some (.dT kvs) ∧ y = .ref b ∧ H3 b = some (.tup (k.map kV)) ∧ kvs.length < sizeLine ∧
  (∀ v, valV kvs k = some v → Q v H3) ∧ (valV kvs k = none → Q z (upd H3 a (.dT (putK kvs k z))))) : tDSetT td ty tx σ H Q := q
instance : Step (tDSetT td ty tx σ H Q) (td σ H fun x H1 => ∃ a, x = .ref a ∧ IsD H1 a ∧ ty σ H1 fun y H2 => tx σ H2 fun z H3 => ∃ (b : Addr) (kvs : List (List Key × V)) (k : List Key), H3 a = some (.dT kvs) ∧ y = .ref b ∧ H3 b = some (.tup (k.map kV)) ∧ kvs.length < sizeLine ∧ (∀ v, valV kvs k = some v → Q v H3) ∧ (valV kvs k = none → Q z (upd H3 a (.dT (putK kvs k z))))) := ⟨w_dsetT⟩ -- st
theorem w_dputI {Z : Hp → Prop} {kvs : List (Key × V)} {i : Int} (h : H D = some (.dK kvs)) (hl : kvs.length < sizeLine) (q : Z (upd H D (.dK (putK kvs (.inl i) v)))) : gDPut (.ref D) (.int i) v H Z := ⟨D, _, rfl, DPut.k (k := .inl i) h hl, q⟩
end
theorem w_rg2 {σ : L2.St} {H : Hp} {ta tb : TE} {R : Int → Int → Hp → Prop} (q : ta σ H fun x H1 => tb σ H1 fun y H2 => ∃ i j, x = .int i ∧ y = .int j ∧ R i j H2) : tRg2 ta tb σ H R := q
instance {σ : L2.St} {H : Hp} {ta tb : TE} {R : Int → Int → Hp → Prop} : Step (tRg2 ta tb σ H R) (ta σ H fun x H1 => tb σ H1 fun y H2 => ∃ i j, x = .int i ∧ y = .int j ∧ R i j H2) := ⟨w_rg2⟩ -- st
/-! ### writes as acts -/
structure WAct where
  w : Str
  n : Int
  s : Str
  x : Key
def keyD : Key → PyData
  | .inl i => .int i
  | .inr z => .str z
def WAct.d (t : WAct) : PyData := .tuple [.str t.w, .int t.n, .str t.s, keyD t.x]
def keyOk : Key → Prop
  | .inl _ => True
  | .inr z => okS z ∧ z.length ≤ 100
def WAct.ok (t : WAct) : Prop := (okS t.w ∧ t.w.length ≤ 100) ∧ (okS t.s ∧ t.s.length ≤ 100) ∧ keyOk t.x
/-! ### the fault of a row of acts -/
/-- a fault as a value -/
def ResV (F : Hp) (v : V) : Option (Nat × Nat) → Prop
  | none => v = .non
  | some (i, j) => ∃ p, v = .ref p ∧ F p = some (.tup [.int (i : Nat), .int (j : Nat)])
theorem ResV.same {F F2 : Hp} {v : V} {o : Option (Nat × Nat)} (h : ResV F v o) (w : Same F F2) : ResV F2 v o := by
  cases o with
  | none => exact h
  | some p =>
    obtain ⟨a, e1, e2⟩ := h
    exact ⟨a, e1, w _ _ e2⟩
/-! ### the law's makers -/
/-- marks that stay -/
structure Mks (F : Hp) (p : Addr) (n : Nat) (ms : List Nat) : Prop where
  at_ : F p = some (.lst (nV ms))
  ok : ∀ k ∈ ms, 1 ≤ k ∧ k < n
  len : ms.length ≤ 20000
theorem Mks.same {F F2 : Hp} {p : Addr} {n : Nat} {ms : List Nat} (h : Mks F p n ms) (w : Same F F2) : Mks F2 p n ms := ⟨w _ _ h.at_, h.ok, h.len⟩
/-- a list of lists of marks -/
def PL (F : Hp) (n : Nat) (v : V) : Prop := ∃ p ms, v = .ref p ∧ Mks F p n ms
theorem PL.same {F F2 : Hp} {n : Nat} {v : V} (h : PL F n v) (w : Same F F2) : PL F2 n v := by
  obtain ⟨p, ms, e, m⟩ := h
  exact ⟨p, ms, e, m.same w⟩
end R
namespace R
open PySem L2
/-! ### parts of the heap, one beside the other -/
structure Own where
  as : List Addr
  φ : Hp → Hp → Prop
  st : ∀ {F H F2 H2 : Hp}, Same F F2 → (∀ a ∈ as, ∀ o, H a = some o → H2 a = some o) → (∀ a ∈ as, F a = none → F2 a = none) → φ F H → φ F2 H2
  al : ∀ {F H : Hp}, φ F H → ∀ a ∈ as, H a ≠ none
theorem Own.gr (o : Own) {M : List Addr} {F H F2 H2 : Hp} (g : Gr M F H F2 H2) (h : ∀ a ∈ o.as, a ∉ M) (x : o.φ F H) : o.φ F2 H2 :=
  o.st g.ff (fun a m u e => g.hh a u (h a m) e) (fun a m e => g.nw a (o.al x a m) e) x
def mu (p : Addr) (o : HO) : Own := ⟨[p], fun F H => Mu F H p o, fun s h n m => ⟨n p (List.mem_singleton.mpr rfl) m.n, h p (List.mem_singleton.mpr rfl) o m.h⟩, fun m a h => by
  rw [List.mem_singleton.mp h]
  exact ne_none m.h⟩
def bag (K : PySem.W.Frag) (b : Addr) : Own := ⟨[b], fun F H => Bag K F H b, fun s h n m => by
  obtain ⟨c, cells, i, cur, st, k, h1, h2, h3, h4⟩ := m.ex
  exact ⟨c, cells, i, cur, st, k, n b (List.mem_singleton.mpr rfl) h1, h b (List.mem_singleton.mpr rfl) _ h2, sqL_same s h3, h4⟩, fun m a h => by
  rw [List.mem_singleton.mp h]
  obtain ⟨c, cells, i, cur, st, k, h1, h2, h3, h4⟩ := m.ex
  exact ne_none h2⟩
def pur (φ : Hp → Prop) (h : ∀ {F F2 : Hp}, Same F F2 → φ F → φ F2) : Own := ⟨[], fun F _ => φ F, fun s _ _ x => h s x, fun _ a h => nomatch h⟩
def dat (K : PySem.W.Frag) (v : V) (d : PyData) : Own := pur (fun F => Dp K F v d) fun s x => dp_same s _ _ x
def dpa (K : PySem.W.Frag) (vs : List V) (ds : List PyData) : Own := pur (fun F => DpAll K F vs ds) fun s x => dpa_same s _ _ x
def imL (K : PySem.W.Frag) (a : Addr) (xs : List V) : Own := pur (fun F => SqL K F a xs) fun s x => sqL_same s x
def imT (K : PySem.W.Frag) (a : Addr) (xs : List V) : Own := pur (fun F => SqT K F a xs) fun s x => sqT_same s x
/-- an object that stays -/
def fx (p : Addr) (o : HO) : Own := pur (fun F => F p = some o) fun s x => s _ _ x
abbrev ads (L : List Own) : List Addr := L.flatMap Own.as
structure St (F H : Hp) (L : List Own) : Prop where
  s : Same F H
  i : ∀ o ∈ L, o.φ F H
  d : (ads L).Nodup
structure W (M : List Addr) (F0 H0 F H : Hp) (L : List Own) : Prop where
  g : Gr M F0 H0 F H
  i : ∀ o ∈ L, o.φ F H
  d : (ads L).Nodup
  o : ∀ a ∈ ads L, a ∈ M ∨ H0 a = none
/-- D taken out of L leaves Rs -/
inductive Rm (x : Own) : List Own → List Own → Prop
  | here {L : List Own} : Rm x (x :: L) L
  | there {y : Own} {L Rs : List Own} : Rm x L Rs → Rm x (y :: L) (y :: Rs)
inductive Pick : List Own → List Own → List Own → Prop
  | nil {L : List Own} : Pick L [] L
  | cons {o : Own} {L L1 D Rs : List Own} : Rm o L L1 → Pick L1 D Rs → Pick L (o :: D) Rs
theorem Rm.perm {x : Own} {L Rs : List Own} (h : Rm x L Rs) : L.Perm (x :: Rs) := by
  induction h with
  | here => exact .refl _
  | there _ ih => exact (ih.cons _).trans (.swap _ _ _)
theorem Pick.perm {L D Rs : List Own} (h : Pick L D Rs) : L.Perm (D ++ Rs) := by
  induction h with
  | nil => exact .refl _
  | cons h _ ih => exact h.perm.trans (ih.cons _)
theorem ads_perm {L L' : List Own} (h : L.Perm L') : (ads L).Perm (ads L') := h.flatMap_right Own.as
theorem ads_app (L L' : List Own) : ads (L ++ L') = ads L ++ ads L' := by simp [ads]
section
variable {K : PySem.W.Frag} {M N : List Addr} {F0 H0 F H F1 H1 F2 H2 : Hp} {L L2 D Rs : List Own} {p a : Addr} {u o2 : HO}
theorem W.perm (w : W M F0 H0 F H L) (h : L.Perm L2) : W M F0 H0 F H L2 :=
  ⟨w.g, fun o m => w.i o (h.mem_iff.mpr m), (ads_perm h).nodup_iff.mp w.d, fun a m => w.o a ((ads_perm h).mem_iff.mpr m)⟩
theorem W.to (w : W M F0 H0 F H L) (k : Pick L D Rs) : W M F0 H0 F H D := by
  have w := w.perm k.perm
  refine ⟨w.g, fun o m => w.i o (List.mem_append_left _ m), ?_, fun a m => w.o a (by rw [ads_app]; exact List.mem_append_left _ m)⟩
  have h := w.d
  rw [ads_app] at h
  exact (List.nodup_append.mp h).1
def Pk (L D : List Own) : Prop := ∃ Rs, Pick L D Rs
theorem W.pk (w : W M F0 H0 F H L) (k : Pk L D) : W M F0 H0 F H D := k.elim fun _ k => w.to k
theorem W.st (w : W M F0 H0 F H L) (k : Pick L D Rs) : St F H D := ⟨w.g.fh, (w.to k).i, (w.to k).d⟩
theorem St.w (s : St F H L) (h : M = ads L := by rfl) : W M F H F H L := ⟨.refl s.s, s.i, s.d, fun a m => .inl (by rw [h]; exact m)⟩
theorem W.start (s : Same F H) : W M F H F H [] := ⟨.refl s, (fun _ h => nomatch h), .nil, (fun _ h => nomatch h)⟩
theorem W.call (w : W M F0 H0 F H L) (k : Pick L D Rs) (w2 : W N F H F2 H2 L2) (hN : N = ads D := by rfl) : W M F0 H0 F2 H2 (L2 ++ Rs) := by
  subst hN
  have w := w.perm k.perm
  have hd := w.d
  have ho := w.o
  rw [ads_app] at hd ho
  obtain ⟨d1, d2, d3⟩ := List.nodup_append.mp hd
  have hR : ∀ a ∈ ads Rs, H a ≠ none := fun a m => by
    obtain ⟨o, mo, ma⟩ := List.mem_flatMap.mp m
    exact o.al (w.i o (List.mem_append_right _ mo)) a ma
  refine ⟨w.g.transN w2.g fun x m => ho x (List.mem_append_left _ m), fun o m => ?_, ?_, fun a m => ?_⟩
  · rcases List.mem_append.mp m with m | m
    · exact w2.i o m
    · refine o.gr w2.g (fun a ha hb => d3 a hb a (List.mem_flatMap.mpr ⟨o, m, ha⟩) rfl) (w.i o (List.mem_append_right _ m))
  · rw [ads_app]
    refine List.nodup_append.mpr ⟨w2.d, d2, fun a ha b hb e => ?_⟩
    subst e
    rcases w2.o a ha with h | h
    · exact d3 a h a hb rfl
    · exact hR a hb h
  · rw [ads_app] at m
    rcases List.mem_append.mp m with m | m
    · rcases w2.o a m with h | h
      · exact ho a (List.mem_append_left _ h)
      · exact .inr (w.g.fresh h)
    · exact ho a (List.mem_append_right _ m)
theorem W.ws (w : W M F0 H0 F H L) : Same F0 H := w.g.ws
theorem W.fh (w : W M F0 H0 F H L) : Same F H := w.g.fh
theorem W.ff (w : W M F0 H0 F H L) : Same F0 F := w.g.ff
theorem W.push (w : W M F0 H0 F H L) (o : Own) (h : o.φ F H) (e : o.as = [] := by rfl) : W M F0 H0 F H (o :: L) := by
  refine ⟨w.g, fun q m => ?_, ?_, fun a m => ?_⟩
  · rcases List.mem_cons.mp m with rfl | m
    · exact h
    · exact w.i q m
  · show ((o :: L).flatMap Own.as).Nodup
    rw [List.flatMap_cons, e]
    exact w.d
  · have m' : a ∈ (o :: L).flatMap Own.as := m
    rw [List.flatMap_cons, e] at m'
    exact w.o a m'
/-- a new object that stays -/
theorem W.im (w : W M F0 H0 F H L) (h : H p = none) : W M F0 H0 (upd F p u) (upd H p u) L := by
  have w2 : W [] F H (upd F p u) (upd H p u) [] := ⟨.im w.g.fh h, (fun _ h => nomatch h), .nil, (fun _ h => nomatch h)⟩
  exact w.call .nil w2
/-- a new object that may change -/
theorem W.nw (w : W M F0 H0 F H L) (h : H p = none) : W M F0 H0 F (upd H p u) (mu p u :: L) := by
  have w2 : W [] F H F (upd H p u) [mu p u] := by
    refine ⟨.new w.g.fh h, fun q m => ?_, ?_, fun a m => ?_⟩
    · rw [List.mem_singleton.mp m]
      exact Mu.new w.g.fh h
    · show ([p] : List Addr).Nodup
      simp
    · have : a = p := List.mem_singleton.mp m
      subst this
      exact .inr h
  exact w.call .nil w2
/-- a change -/
theorem W.wr (w : W M F0 H0 F H L) (k : Pick L [mu p o2] Rs) : W M F0 H0 F (upd H p u) (mu p u :: Rs) := by
  have m : Mu F H p o2 := (w.to k).i _ (List.mem_singleton.mpr rfl)
  have w2 : W [p] F H F (upd H p u) [mu p u] := by
    refine ⟨.wr w.g.fh m.n (List.mem_singleton.mpr rfl), fun q h => ?_, ?_, fun a h => ?_⟩
    · rw [List.mem_singleton.mp h]
      exact m.wr
    · show ([p] : List Addr).Nodup
      simp
    · exact .inl h
  exact w.call k w2 rfl
/-- an object that changes no more -/
theorem W.fz (w : W M F0 H0 F H L) (k : Pick L [mu p u] Rs) (hn : H0 p = none) : W M F0 H0 (upd F p u) H Rs := by
  have w := w.perm k.perm
  have m : Mu F H p u := w.i _ (List.mem_cons_self ..)
  have hd := w.d
  rw [ads_app] at hd
  obtain ⟨d1, d2, d3⟩ := List.nodup_append.mp hd
  refine ⟨w.g.frz hn m, fun o ho => ?_, d2, fun a ha => w.o a (by rw [ads_app]; exact List.mem_append_right _ ha)⟩
  have hp : ∀ a ∈ o.as, a ≠ p := fun a ha e => d3 p (List.mem_singleton.mpr rfl) a (List.mem_flatMap.mpr ⟨o, ho, ha⟩) e.symm
  refine o.st (Same.new m.n) (fun a _ _ e => e) (fun a ha e => ?_) (w.i o (List.mem_append_right _ ho))
  rw [upd_ne (hp a ha)]
  exact e
theorem W.fzL {xs : List V} (w : W M F0 H0 F H L) (k : Pick L [mu p (.lst xs)] Rs) (hn : H0 p = none) : ∃ F2, W M F0 H0 F2 H (fx p (.lst xs) :: Rs) := ⟨_, (w.fz k hn).push (fx p (.lst xs)) upd_same⟩
theorem W.fzD {xs : List V} {ds : List PyData} (w : W M F0 H0 F H L) (k : Pick L [mu p (.lst xs)] Rs) (hn : H0 p = none) (h : DpAll K F xs ds) : ∃ F2, W M F0 H0 F2 H (dat K (.ref p) (.list ds) :: Rs) := by
  have m : Mu F H p (.lst xs) := (w.to k).i _ (List.mem_singleton.mpr rfl)
  exact ⟨_, (w.fz k hn).push _ (.lst (sqL_of upd_same) (dpa_same (Same.new m.n) _ _ h))⟩
end
inductive App : List Own → List Own → List Own → Prop
  | nil {Rs : List Own} : App [] Rs Rs
  | cons {o : Own} {L Rs L' : List Own} : App L Rs L' → App (o :: L) Rs (o :: L')
theorem App.eq {L Rs L' : List Own} (h : App L Rs L') : L ++ Rs = L' := by
  induction h with
  | nil => rfl
  | cons _ ih => rw [List.cons_append, ih]
section
variable {K : PySem.W.Frag} {M N : List Addr} {F0 H0 F H F1 H1 F2 H2 : Hp} {L L2 L3 D Rs : List Own} {p a : Addr} {u o2 : HO} {xs ys : List V} {ds : List PyData} {d : PyData} {v : V}
theorem W.cal (w : W M F0 H0 F H L) (k : Pick L D Rs) (w2 : W N F H F2 H2 L2) (e : App L2 Rs L3) (hN : N = ads D := by rfl) : W M F0 H0 F2 H2 L3 := by
  rw [← e.eq]
  exact w.call k w2 hN
/-- .. by what the older promises tell -/
theorem W.gr (w : W M F0 H0 F H L) (k : Pick L D Rs) (g : Gr N F H F2 H2) (i : ∀ o ∈ D, o.φ F2 H2) (e : App D Rs L3) (hN : N = ads D := by rfl) : W M F0 H0 F2 H2 L3 :=
  w.cal k (L2 := D) ⟨g, i, (w.to k).d, fun a m => .inl (by rw [hN]; exact m)⟩ e hN
theorem W.gr1 {o : Own} (w : W M F0 H0 F H L) (k : Pick L [o] Rs) (g : Gr N F H F2 H2) (i : o.φ F2 H2) (hN : N = ads [o] := by rfl) : W M F0 H0 F2 H2 (o :: Rs) :=
  w.gr k g (fun q m => by rw [List.mem_singleton.mp m]; exact i) (.cons .nil) hN
theorem W.mu (w : W M F0 H0 F H L) (m : mu p u ∈ L) : Mu F H p u := w.i _ m
theorem W.bag {b : Addr} (w : W M F0 H0 F H L) (m : bag K b ∈ L) : Bag K F H b := w.i _ m
theorem W.dat (w : W M F0 H0 F H L) (m : dat K v d ∈ L) : Dp K F v d := w.i _ m
theorem W.dpa (w : W M F0 H0 F H L) (m : dpa K xs ds ∈ L) : DpAll K F xs ds := w.i _ m
theorem W.imL (w : W M F0 H0 F H L) (m : imL K p xs ∈ L) : SqL K F p xs := w.i _ m
theorem W.imT (w : W M F0 H0 F H L) (m : imT K p xs ∈ L) : SqT K F p xs := w.i _ m
theorem W.at_ (w : W M F0 H0 F H L) (m : R.mu p u ∈ L) : H p = some u := (w.mu m).h
theorem W.sqM (w : W M F0 H0 F H L) (m : R.mu p (.lst xs) ∈ L) : SqL K H p xs := (w.mu m).sq
theorem W.fx (w : W M F0 H0 F H L) (m : R.fx p u ∈ L) : H p = some u := w.fh _ _ (w.i _ m)
theorem W.sqF (w : W M F0 H0 F H L) (m : R.fx p (.lst xs) ∈ L) : SqL K H p xs := sqL_of (w.fx m)
theorem W.stF (w : W M F0 H0 F H L) (m : R.fx p (.tup xs) ∈ L) : SqT K H p xs := sqT_of (w.fx m)
theorem W.sqI (w : W M F0 H0 F H L) (m : R.imL K p xs ∈ L) : SqL K H p xs := sqL_same w.fh (w.imL m)
theorem W.sq0 (w : W M F0 H0 F H L) (h : SqL K F0 p xs) : SqL K H p xs := sqL_same w.ws h
theorem W.stI (w : W M F0 H0 F H L) (m : R.imT K p xs ∈ L) : SqT K H p xs := sqT_same w.fh (w.imT m)
theorem W.st0 (w : W M F0 H0 F H L) (h : SqT K F0 p xs) : SqT K H p xs := sqT_same w.ws h
theorem W.dp0 (w : W M F0 H0 F H L) (h : Dp K F0 v d) : Dp K F v d := dp_same w.ff _ _ h
/-- a list of data opened -/
theorem W.open (w : W M F0 H0 F H L) (h : Dp K F v (.list ds)) : ∃ a xs, v = .ref a ∧ W M F0 H0 F H (R.imL K a xs :: R.dpa K xs ds :: L) := by
  obtain ⟨a, xs, rfl, h1, h2⟩ := dp_list h
  exact ⟨a, xs, rfl, (w.push (R.dpa K xs ds) h2).push (R.imL K a xs) h1⟩
end
/-! ### steps -/
def mkT (xs : List V) (H : Hp) (Q : VK) : Prop := xs.length ≤ sizeLine ∧ ∀ p, H p = none → Q (.ref p) (upd H p (.tup xs))
def mkL (xs : List V) (H : Hp) (Q : VK) : Prop := xs.length ≤ sizeLine ∧ ∀ p, H p = none → Q (.ref p) (upd H p (.lst xs))
def forG (g : TG) (tb : TS) (D : Ends) (J : It) (σ : L2.St) (H : Hp) : Prop := ∃ W : Nat → Nat → L2.St → Hp → Prop, (∃ m, W 0 m σ H) ∧ ∀ i m σ H, W i m σ H →
  (J.stop i H ∧ D.nx σ H) ∨ (J.go i H ∧ ∃ N : L2.St → Hp → Prop, (∀ σ' H', N σ' H' → ∃ m', m' < m ∧ W (i + 1) m' σ' H') ∧ ∀ x H', J.yld i H x H' → g x σ H' fun σ2 H2 => tb ⟨N, D.rt, D.nx, N⟩ σ2 H2)
def lcG (g : TG) (tt : TT) (te : TE) (vs : List Nat) (J : It) (σ : L2.St) (H : Hp) (Q : VK) : Prop := ∀ D, H D = none → ∃ W : Nat → Nat → Hp → Prop, (∃ m, W 0 m (upd H D (.lst []))) ∧ ∀ i m H, W i m H →
  (J.stop i H ∧ Q (.ref D) H) ∨ (J.go i H ∧ ∃ Nx : Hp → Prop, (∀ H', Nx H' → ∃ m', m' < m ∧ W (i + 1) m' H') ∧ ∀ x H', J.yld i H x H' → g x (wipe σ vs) H' fun σ2 H2 => wipe σ2 vs = wipe σ vs ∧ tt σ2 H2 fun b H3 =>
    if b = true then te σ2 H3 fun y H4 => ∃ acc, H4 D = some (.lst acc) ∧ acc.length < sizeLine ∧ Nx (upd H4 D (.lst (acc ++ [y]))) else Nx H3)
def accG (D : Addr) (Z : Hp → Prop) (y : V) (H : Hp) : Prop := ∃ acc, H D = some (.lst acc) ∧ acc.length < sizeLine ∧ Z (upd H D (.lst (acc ++ [y])))
def Nx (M : List Addr) (F0 H0 : Hp) (Inv : L2.St → List Own → Prop) : L2.St → Hp → Prop := fun σ H => ∃ L F, Inv σ L ∧ W M F0 H0 F H L
def NxM (M : List Addr) (F0 H0 : Hp) (Inv : Nat → L2.St → List Own → Prop) (m : Nat) : L2.St → Hp → Prop := fun σ H => ∃ m', m' < m ∧ ∃ L F, Inv m' σ L ∧ W M F0 H0 F H L
def NxC (M : List Addr) (F0 H0 : Hp) (P : List V → List Own → Prop) (D : Addr) : Hp → Prop := fun H => ∃ ys L F, P ys L ∧ W M F0 H0 F H (mu D (.lst ys) :: L)
section
variable {K : PySem.W.Frag} {M N : List Addr} {F0 H0 F H : Hp} {L Rs T : List Own} {σ : L2.St} {Q : VK} {ta tb te : TE} {x y v : V} {nx bk ct : L2.St → Hp → Prop} {rt : VK} {p q a D : Addr} {xs ys : List V} {u : HO}
variable {t : TA} {wi : TI} {g : TG} {tbody : TS} {c tt : TT} {vs : List Nat} {ts us : TS}
theorem x_tup (h : t σ H fun xs H1 => mkT xs H1 Q) : tTup t σ H Q := h
instance : StepN (tTup t σ H Q) (t σ H fun xs H1 => mkT xs H1 Q) := ⟨x_tup⟩ -- st
theorem x_lst (h : t σ H fun xs H1 => mkL xs H1 Q) : tLst t σ H Q := h
instance : StepN (tLst t σ H Q) (t σ H fun xs H1 => mkL xs H1 Q) := ⟨x_lst⟩ -- st
theorem x_for (h : wi σ H fun J H1 => forG g tbody ⟨nx, rt, bk, ct⟩ J σ H1) : tFor wi g tbody ⟨nx, rt, bk, ct⟩ σ H := h
instance : StepN (tFor wi g tbody ⟨nx, rt, bk, ct⟩ σ H) (wi σ H fun J H1 => forG g tbody ⟨nx, rt, bk, ct⟩ J σ H1) := ⟨x_for⟩ -- st
theorem x_lc (h : wi σ H fun J H1 => lcG g tt te vs J σ H1 Q) : tLc wi g tt te vs σ H Q := h
instance : StepN (tLc wi g tt te vs σ H Q) (wi σ H fun J H1 => lcG g tt te vs J σ H1 Q) := ⟨x_lc⟩ -- st
theorem x_wp {a b : L2.St} {B : Prop} (h : a = b) (q : B) : a = b ∧ B := ⟨h, q⟩
instance {a b : L2.St} {B : Prop} : SideK (a = b ∧ B) 6 := ⟨⟩ -- st
theorem n_tup (w : W M F0 H0 F H L) (hs : xs.length ≤ sizeLine) (h : ∀ p F2 H2, W M F0 H0 F2 H2 (fx p (.tup xs) :: L) → Q (.ref p) H2) : mkT xs H Q :=
  ⟨hs, fun p np => h p _ _ ((w.im (u := .tup xs) np).push (fx p (.tup xs)) upd_same)⟩
theorem n_new (w : W M F0 H0 F H L) (h : ∀ p F2 H2, W M F0 H0 F2 H2 (mu p u :: L) → H0 p = none → Q (.ref p) H2) : ∀ p, H p = none → Q (.ref p) (upd H p u) := fun p np => h p _ _ (w.nw np) (w.g.fresh np)
theorem n_lst (w : W M F0 H0 F H L) (hs : xs.length ≤ sizeLine) (h : ∀ p F2 H2, W M F0 H0 F2 H2 (mu p (.lst xs) :: L) → H0 p = none → Q (.ref p) H2) : mkL xs H Q := ⟨hs, n_new w h⟩
theorem n_slL {lo hi : Option Int} (w : W M F0 H0 F H L) (hs : SqL K H p xs) (h : ∀ p F2 H2, W M F0 H0 F2 H2 (mu p (.lst (cutV xs lo hi)) :: L) → H0 p = none → Q (.ref p) H2) : rSlL K (.ref p) lo hi H Q := w_slL xs hs (n_new w h)
theorem n_listOf (w : W M F0 H0 F H L) (hs : SqL K H p xs) (h : ∀ p F2 H2, W M F0 H0 F2 H2 (mu p (.lst xs) :: L) → H0 p = none → Q (.ref p) H2) : rListOf K [.ref p] H Q := w_listOf xs hs (n_new w h)
def revG (K : PySem.W.Frag) (x : V) (H : Hp) (Q : VK) : Prop := ∃ a xs, x = .ref a ∧ SqL K H a xs ∧ ∀ p, H p = none → Q (.ref p) (upd H p (.lst xs.reverse))
theorem x_revL (h : ta σ H fun x H1 => revG K x H1 Q) : tRevL K ta σ H Q := h
instance : StepN (tRevL K ta σ H Q) (ta σ H fun x H1 => revG K x H1 Q) := ⟨x_revL⟩ -- st
def lrgG (a b : Int) (H : Hp) (Q : VK) : Prop := RgOk a b ∧ ∀ q, H q = none → Q (.ref q) (upd H q (.lst (rgV a b)))
theorem x_lstRg {te : L2.St → Hp → (Int → Int → Hp → Prop) → Prop} (h : te σ H fun a b H1 => lrgG a b H1 Q) : tLstRg te σ H Q := h
instance {te : L2.St → Hp → (Int → Int → Hp → Prop) → Prop} : StepN (tLstRg te σ H Q) (te σ H fun a b H1 => lrgG a b H1 Q) := ⟨x_lstRg⟩ -- st
theorem n_lstRg {i j : Int} (w : W M F0 H0 F H L) (hs : RgOk i j) (h : ∀ p F2 H2, W M F0 H0 F2 H2 (mu p (.lst (rgV i j)) :: L) → H0 p = none → Q (.ref p) H2) : lrgG i j H Q := ⟨hs, n_new w h⟩
theorem n_cat (w : W M F0 H0 F H L) (h1 : H p = some (.lst xs)) (h2 : H q = some (.lst ys)) (hs : xs.length + ys.length ≤ sizeLine) (h : ∀ p F2 H2, W M F0 H0 F2 H2 (mu p (.lst (xs ++ ys)) :: L) → H0 p = none → Q (.ref p) H2) : rCat (.ref p) (.ref q) H Q :=
  ⟨p, q, xs, ys, rfl, rfl, h1, h2, hs, n_new w h⟩
theorem n_rep {k : Int} (w : W M F0 H0 F H L) (h1 : H p = some (.lst xs)) (h2 : -(2 ^ 63) ≤ k) (h3 : k < 2 ^ 63) (hs : xs.length * k.toNat ≤ sizeLine) (h : ∀ p F2 H2, W M F0 H0 F2 H2 (mu p (.lst (List.replicate k.toNat xs).flatten) :: L) → H0 p = none → Q (.ref p) H2) : rRep (.ref p) (.int k) H Q :=
  ⟨p, k, xs, rfl, rfl, h1, h2, h3, hs, n_new w h⟩
theorem n_app (w : W M F0 H0 F H L) (k : Pick L [mu p (.lst xs)] Rs) (hn : xs.length < sizeLine) (h : ∀ H2, W M F0 H0 F H2 (mu p (.lst (xs ++ [y])) :: Rs) → Q .non H2) : rAppend (.ref p) [y] H Q :=
  w_app xs ((w.to k).at_ (List.mem_singleton.mpr rfl)) hn (h _ (w.wr k))
theorem n_setL {k : Int} {Z : Hp → Prop} (w : W M F0 H0 F H L) (kk : Pick L [mu p (.lst xs)] Rs) (j : Nat) (e : ixN xs.length k = some j) (h : ∀ H2, W M F0 H0 F H2 (mu p (.lst (xs.set j v)) :: Rs) → Z H2) : rSetL (.ref p) (.int k) v H Z :=
  w_setL xs j ((w.to kk).at_ (List.mem_singleton.mpr rfl)) e (h _ (w.wr kk))
theorem n_draw {m : Int} {E : XK} {b : Addr} (w : W M F0 H0 F H L) (k : Pick L [bag K b] Rs) (h0 : 0 < m) (h1 : m < 2 ^ 200) (h : ∀ r F2 H2, W M F0 H0 F2 H2 (bag K b :: Rs) → 0 ≤ r → r < m → Q (.int r) H2) : S2 (φdraw K) ([.ref b, .int m] ++ []) H Q E :=
  u_draw w.fh ((w.to k).bag (List.mem_singleton.mpr rfl)) h0 h1 fun r F2 H2 g hb r0 r1 => h r F2 H2 (w.gr1 k g hb) r0 r1
def rg1G (vs : List V) (H : Hp) (Rr : It → Hp → Prop) : Prop := ∃ j : Int, vs = [.int j] ∧ -(2 ^ 62) ≤ j ∧ j < 2 ^ 62 ∧ Rr (Itr 0 j.toNat) H
def rg2G (vs : List V) (H : Hp) (Rr : It → Hp → Prop) : Prop := ∃ i j : Int, vs = [.int i, .int j] ∧ (-(2 ^ 62) ≤ i ∧ i < 2 ^ 62 ∧ -(2 ^ 62) ≤ j ∧ j < 2 ^ 62) ∧ Rr (Itr i (j - i).toNat) H
def ilG (K : PySem.W.Frag) (x : V) (H : Hp) (Rr : It → Hp → Prop) : Prop := ∃ a, x = .ref a ∧ (∃ xs, SqL K H a xs) ∧ Rr (Itl K a) H
def itG (K : PySem.W.Frag) (x : V) (H : Hp) (Rr : It → Hp → Prop) : Prop := ∃ a, x = .ref a ∧ (∃ xs, SqT K H a xs) ∧ Rr (Itt K a) H
def isG (x : V) (H : Hp) (Rr : It → Hp → Prop) : Prop := ∃ z, x = .str z ∧ Rr (Its z) H
theorem x_rng1 {Rr : It → Hp → Prop} (h : t σ H fun vs H1 => rg1G vs H1 Rr) : iRng1 t σ H Rr := h
instance {Rr : It → Hp → Prop} : StepN (iRng1 t σ H Rr) (t σ H fun vs H1 => rg1G vs H1 Rr) := ⟨x_rng1⟩ -- st
theorem x_rng2 {Rr : It → Hp → Prop} (h : t σ H fun vs H1 => rg2G vs H1 Rr) : iRng2 t σ H Rr := h
instance {Rr : It → Hp → Prop} : StepN (iRng2 t σ H Rr) (t σ H fun vs H1 => rg2G vs H1 Rr) := ⟨x_rng2⟩ -- st
theorem x_il {Rr : It → Hp → Prop} (h : te σ H fun x H1 => ilG K x H1 Rr) : iList K te σ H Rr := h
instance {Rr : It → Hp → Prop} : StepN (iList K te σ H Rr) (te σ H fun x H1 => ilG K x H1 Rr) := ⟨x_il⟩ -- st
theorem x_it {Rr : It → Hp → Prop} (h : te σ H fun x H1 => itG K x H1 Rr) : iTup K te σ H Rr := h
instance {Rr : It → Hp → Prop} : StepN (iTup K te σ H Rr) (te σ H fun x H1 => itG K x H1 Rr) := ⟨x_it⟩ -- st
theorem x_is {Rr : It → Hp → Prop} (h : te σ H fun x H1 => isG x H1 Rr) : iStr te σ H Rr := h
instance {Rr : It → Hp → Prop} : StepN (iStr te σ H Rr) (te σ H fun x H1 => isG x H1 Rr) := ⟨x_is⟩ -- st
theorem n_rng1 {j : Int} {Rr : It → Hp → Prop} (h0 : -(2 ^ 62) ≤ j) (h1 : j < 2 ^ 62) (h : Rr (Itr 0 j.toNat) H) : rg1G [.int j] H Rr := ⟨j, rfl, h0, h1, h⟩
instance {j : Int} {Rr : It → Hp → Prop} : SideK (rg1G [.int j] H Rr) 5 := ⟨⟩ -- st
theorem n_rng2 {i j : Int} {Rr : It → Hp → Prop} (h0 : -(2 ^ 62) ≤ i) (h1 : i < 2 ^ 62) (h2 : -(2 ^ 62) ≤ j) (h3 : j < 2 ^ 62) (h : Rr (Itr i (j - i).toNat) H) : rg2G [.int i, .int j] H Rr := ⟨i, j, rfl, ⟨h0, h1, h2, h3⟩, h⟩
instance {i j : Int} {Rr : It → Hp → Prop} : SideK (rg2G [.int i, .int j] H Rr) 5 := ⟨⟩ -- st
theorem n_il {Rr : It → Hp → Prop} (hs : SqL K H a xs) (h : Rr (Itl K a) H) : ilG K (.ref a) H Rr := ⟨a, rfl, ⟨xs, hs⟩, h⟩
instance {Rr : It → Hp → Prop} : SideK (ilG K (.ref a) H Rr) 4 := ⟨⟩ -- st
theorem n_it {Rr : It → Hp → Prop} (hs : SqT K H a xs) (h : Rr (Itt K a) H) : itG K (.ref a) H Rr := ⟨a, rfl, ⟨xs, hs⟩, h⟩
instance {Rr : It → Hp → Prop} : SideK (itG K (.ref a) H Rr) 4 := ⟨⟩ -- st
theorem n_is {z : Str} {Rr : It → Hp → Prop} (h : Rr (Its z) H) : isG (.str z) H Rr := ⟨z, rfl, h⟩
instance {z : Str} {Rr : It → Hp → Prop} : StepN (isG (.str z) H Rr) (Rr (Its z) H) := ⟨n_is⟩ -- st
theorem nx_mk {Inv : L2.St → List Own → Prop} {L2 : List Own} (w : W M F0 H0 F H L) (h : Inv σ L2) (k : Pk L L2) : Nx M F0 H0 Inv σ H := ⟨L2, F, h, w.pk k⟩
theorem nxm_mk {Inv : Nat → L2.St → List Own → Prop} {m m' : Nat} {L2 : List Own} (w : W M F0 H0 F H L) (hm : m' < m) (h : Inv m' σ L2) (k : Pk L L2) : NxM M F0 H0 Inv m σ H := ⟨m', hm, L2, F, h, w.pk k⟩
def addsG : R2 := fun x y H Q => ∃ a b, x = .str a ∧ y = .str b ∧ a.length + b.length ≤ sizeLine ∧ Q (.str (a ++ b)) H
theorem opAddS {X : Cx} : OpR X (binaryOp .Add) addsG := op_add_str
theorem n_adds {a b : Str} (hl : a.length + b.length ≤ sizeLine) (h : Q (.str (a ++ b)) H) : addsG (.str a) (.str b) H Q := ⟨a, b, rfl, rfl, hl, h⟩
instance {a b : Str} : SideK (addsG (.str a) (.str b) H Q) 5 := ⟨⟩ -- st
theorem x_aug {i : Nat} {ti : TIp} {x : V} {H : Hp} (h : σ[i]? = some (some x)) (q : te σ H fun y H1 => ti x y H1 fun z H2 => nx (σ.set i (some z)) H2) : tAug i te ti ⟨nx, rt, bk, ct⟩ σ H := ⟨x, h, q⟩
instance {i : Nat} {ti : TIp} {H : Hp} : SideK (tAug i te ti ⟨nx, rt, bk, ct⟩ σ H) 4 := ⟨⟩ -- st
theorem n_ipI {g : Int → Int → Int} {i j : Int} {Z : VK} (q : Z (.int (g i j)) H) : ipI g (.int i) (.int j) H Z := ⟨i, j, rfl, rfl, q⟩
instance {g : Int → Int → Int} {i j : Int} {Z : VK} : SideK (ipI g (.int i) (.int j) H Z) 5 := ⟨⟩ -- st
/-- loops -/
theorem n_forR {n : Nat} (w : W M F0 H0 F H L) (Inv : Nat → L2.St → List Own → Prop) {L1 : List Own} (h0 : Inv 0 σ L1)
    (hs : ∀ (i : Nat) σ L F H, i < n → Inv i σ L → W M F0 H0 F H L → g (.int (i : Int)) σ H fun σ2 H2 => tbody ⟨Nx M F0 H0 (Inv (i + 1)), rt, nx, Nx M F0 H0 (Inv (i + 1))⟩ σ2 H2)
    (hd : ∀ σ L F H, Inv n σ L → W M F0 H0 F H L → nx σ H) (k : Pk L L1 := by walk_at "pk") : forG g tbody ⟨nx, rt, bk, ct⟩ (Itr 0 n) σ H :=
  f_range0 (fun i σ H => Nx M F0 H0 (Inv i) σ H) ⟨L1, F, h0, w.pk k⟩ (fun i σ H hi ⟨L, F, h, w⟩ => hs i σ L F H hi h w) fun σ H ⟨L, F, h, w⟩ => hd σ L F H h w
theorem n_forL (xs : List V) (w : W M F0 H0 F H L) (Inv : Nat → L2.St → List Own → Prop) {L1 : List Own} (h0 : Inv 0 σ L1) (hl : ∀ i σ L F H, Inv i σ L → W M F0 H0 F H L → SqL K H a xs)
    (hs : ∀ (i : Nat) x σ L F H, xs[i]? = some x → Inv i σ L → W M F0 H0 F H L → g x σ H fun σ2 H2 => tbody ⟨Nx M F0 H0 (Inv (i + 1)), rt, nx, Nx M F0 H0 (Inv (i + 1))⟩ σ2 H2)
    (hd : ∀ σ L F H, Inv xs.length σ L → W M F0 H0 F H L → nx σ H) (k : Pk L L1 := by walk_at "pk") : forG g tbody ⟨nx, rt, bk, ct⟩ (Itl K a) σ H :=
  f_list (xs := xs) (fun i σ H => Nx M F0 H0 (Inv i) σ H) ⟨L1, F, h0, w.pk k⟩ (fun i σ H _ ⟨L, F, h, w⟩ => hl i σ L F H h w) (fun i x σ H hx ⟨L, F, h, w⟩ => hs i x σ L F H hx h w) fun σ H ⟨L, F, h, w⟩ => hd σ L F H h w
def whB (tb : TS) (rt : VK) (nx : L2.St → Hp → Prop) (M : List Addr) (F0 H0 : Hp) (Inv : Nat → L2.St → List Own → Prop) (m : Nat) (σ : L2.St) (H : Hp) : Prop :=
  ∃ N : L2.St → Hp → Prop, (∀ σ' H', N σ' H' → ∃ m', m' < m ∧ ∃ L F, Inv m' σ' L ∧ W M F0 H0 F H' L) ∧ tb ⟨N, rt, nx, N⟩ σ H
theorem n_turn {Inv : Nat → L2.St → List Own → Prop} {m : Nat} (h : tbody ⟨NxM M F0 H0 Inv m, rt, nx, NxM M F0 H0 Inv m⟩ σ H) : whB tbody rt nx M F0 H0 Inv m σ H := ⟨_, fun _ _ h => h, h⟩
theorem n_while (w : W M F0 H0 F H L) (Inv : Nat → L2.St → List Own → Prop) {m0 : Nat} {L1 : List Own} (h0 : Inv m0 σ L1)
    (hs : ∀ (m : Nat) σ L F H, Inv m σ L → W M F0 H0 F H L → c σ H fun b H1 => if b = true then whB tbody rt nx M F0 H0 Inv m σ H1 else nx σ H1) (k : Pk L L1 := by walk_at "pk") : tWhile c tbody ⟨nx, rt, bk, ct⟩ σ H :=
  w_while (fun m σ H => ∃ L F, Inv m σ L ∧ W M F0 H0 F H L) (m0 := m0) ⟨L1, F, h0, w.pk k⟩ fun m σ H ⟨L, F, h, w⟩ => hs m σ L F H h w
theorem n_cut (w : W M F0 H0 F H L) (Mid : L2.St → List Own → Prop) (h1 : ts ⟨Nx M F0 H0 Mid, rt, bk, ct⟩ σ H) (h2 : ∀ σ L F H, Mid σ L → W M F0 H0 F H L → us ⟨nx, rt, bk, ct⟩ σ H) : C8.tCut ts us ⟨nx, rt, bk, ct⟩ σ H :=
  w_cut (Nx M F0 H0 Mid) h1 fun σ' H' ⟨L, F, h, w⟩ => h2 σ' L F H' h w
theorem n_lcR {n : Nat} (w : W M F0 H0 F H L) (P : Nat → List V → List Own → Prop) {L1 : List Own} (h0 : P 0 [] L1)
    (hs : ∀ (i : Nat) ys L F H D, i < n → P i ys L → W M F0 H0 F H (mu D (.lst ys) :: L) → H0 D = none → g (.int (i : Int)) (wipe σ vs) H fun σ2 H2 => wipe σ2 vs = wipe σ vs ∧ tt σ2 H2 fun b H3 =>
      if b = true then te σ2 H3 (accG D (NxC M F0 H0 (P (i + 1)) D)) else NxC M F0 H0 (P (i + 1)) D H3)
    (hd : ∀ D ys L F H, P n ys L → W M F0 H0 F H (mu D (.lst ys) :: L) → H0 D = none → Q (.ref D) H) (k : Pk L L1 := by walk_at "pk") : lcG g tt te vs (Itr 0 n) σ H Q := fun D nD =>
  lc_rng (fun i H => NxC M F0 H0 (P i) D H) ⟨[], L1, F, h0, (w.pk k).nw nD⟩ (fun i H hi ⟨ys, L, F, h, w'⟩ => hs i ys L F H D hi h w' (w.g.fresh nD)) fun H ⟨ys, L, F, h, w'⟩ => hd D ys L F H h w' (w.g.fresh nD)
theorem n_lcL (xs : List V) (w : W M F0 H0 F H L) (P : Nat → List V → List Own → Prop) {L1 : List Own} (h0 : P 0 [] L1) (hl : ∀ i ys L F H D, P i ys L → W M F0 H0 F H (mu D (.lst ys) :: L) → SqL K H a xs)
    (hs : ∀ (i : Nat) x ys L F H D, xs[i]? = some x → P i ys L → W M F0 H0 F H (mu D (.lst ys) :: L) → H0 D = none → g x (wipe σ vs) H fun σ2 H2 => wipe σ2 vs = wipe σ vs ∧ tt σ2 H2 fun b H3 =>
      if b = true then te σ2 H3 (accG D (NxC M F0 H0 (P (i + 1)) D)) else NxC M F0 H0 (P (i + 1)) D H3)
    (hd : ∀ D ys L F H, P xs.length ys L → W M F0 H0 F H (mu D (.lst ys) :: L) → H0 D = none → Q (.ref D) H) (k : Pk L L1 := by walk_at "pk") : lcG g tt te vs (Itl K a) σ H Q := fun D nD =>
  lc_list (xs := xs) (fun i H => NxC M F0 H0 (P i) D H) ⟨[], L1, F, h0, (w.pk k).nw nD⟩ (fun i H _ ⟨ys, L, F, h, w'⟩ => hl i ys L F H D h w') (fun i x H hx ⟨ys, L, F, h, w'⟩ => hs i x ys L F H D hx h w' (w.g.fresh nD)) fun H ⟨ys, L, F, h, w'⟩ => hd D ys L F H h w' (w.g.fresh nD)
theorem n_popAt {k : Int} (w : W M F0 H0 F H L) (kk : Pick L [mu p (.lst xs)] Rs) (j : Nat) (hj : k = (j : Nat)) (hl : xs.length ≤ 100000) (hy : xs[j]? = some y) (h : ∀ H2, W M F0 H0 F H2 (mu p (.lst (xs.eraseIdx j)) :: Rs) → Q y H2) : rPopAt (.ref p) [.int k] H Q := by
  subst hj
  have hi := (List.getElem?_eq_some_iff.mp hy).1
  refine ⟨p, xs, _, j, y, rfl, rfl, (w.to kk).at_ (List.mem_singleton.mpr rfl), by omega, by omega, ?_, hy, h _ (w.wr kk)⟩
  simp only [seqIndex?]
  first
    | rw [if_neg (by omega), if_pos (by omega)]; simp
    | (split <;> simp_all <;> omega)
    | (simp; omega)
theorem n_pop (w : W M F0 H0 F H L) (kk : Pick L [mu p (.lst (xs ++ [y]))] Rs) (h : ∀ H2, W M F0 H0 F H2 (mu p (.lst xs) :: Rs) → Q y H2) : rPop (.ref p) [] H Q := by
  refine ⟨p, xs ++ [y], y, rfl, rfl, (w.to kk).at_ (List.mem_singleton.mpr rfl), by simp, ?_⟩
  rw [List.dropLast_concat]
  exact h _ (w.wr kk)
theorem n_ext (w : W M F0 H0 F H L) (hb : H q = some (.lst ys)) (kk : Pick L [mu p (.lst xs)] Rs) (hl : xs.length + ys.length ≤ sizeLine) (h : ∀ H2, W M F0 H0 F H2 (mu p (.lst (xs ++ ys)) :: Rs) → Q .non H2) : rExtend (.ref p) [.ref q] H Q :=
  ⟨p, q, xs, ys, rfl, rfl, (w.to kk).at_ (List.mem_singleton.mpr rfl), hb, hl, h _ (w.wr kk)⟩
/-- .. with nothing -/
theorem W.ro0 (w : W M F0 H0 F H L) {F2 H2 : Hp} {L2 : List Own} (w2 : W [] H H F2 H2 L2) : W M F0 H0 F H2 L := by
  have w3 : W [] F H F H2 [] := ⟨w2.g.back w.fh, fun _ h => (nomatch h), .nil, fun _ h => (nomatch h)⟩
  exact w.call .nil w3
theorem getD_of {l : List V} {j : Nat} (h : j < l.length) : l[j]? = some (l.getD j .non) := by
  rw [List.getD_eq_getElem?_getD, List.getElem?_eq_getElem h]
  rfl
/-- over enumerate(list) -/
def enG (K : PySem.W.Frag) (vs : List V) (H : Hp) (Rr : It → Hp → Prop) : Prop := ∃ a xs, vs = [.ref a] ∧ SqL K H a xs ∧ Rr (Ite K a) H
theorem x_en {Rr : It → Hp → Prop} (h : t σ H fun vs H1 => enG K vs H1 Rr) : iEnum K t σ H Rr := h
instance {Rr : It → Hp → Prop} : Step (iEnum K t σ H Rr) (t σ H fun vs H1 => enG K vs H1 Rr) := ⟨x_en⟩ -- st
theorem W.calB {b : Addr} {F2 H2 : Hp} {L2 L3 : List Own} (w : W M F0 H0 F H L) (k : Pick L [R.bag K b] Rs) (w2 : W [b] F H F2 H2 L2) (e : App L2 Rs L3) : W M F0 H0 F2 H2 L3 := w.cal k w2 e rfl
theorem W.bag0 {b : Addr} {F2 H2 : Hp} (g : Gr [] H H F2 H2) (h : Bag K F2 H2 b) : W [] H H F2 H2 [R.bag K b] := by
  obtain ⟨c, cells, i, cur, st, k, h1, h2, _⟩ := h.ex
  refine ⟨g, fun o m => ?_, ?_, fun a m => ?_⟩
  · rw [List.mem_singleton.mp m]
    exact h
  · show ([b] : List Addr).Nodup
    simp
  · rw [show a = b from List.mem_singleton.mp m]
    exact .inr (g.ff.free h1)
theorem n_acc (ys : List V) {P : List V → List Own → Prop} (w : W M F0 H0 F H L) (hp : P (ys ++ [y]) Rs) (k : Pk L (mu D (.lst ys) :: Rs)) (hl : ys.length < sizeLine) : accG D (NxC M F0 H0 P D) y H := by
  have w' := w.pk k
  refine ⟨ys, w'.at_ (List.mem_cons_self ..), hl, ys ++ [y], Rs, F, hp, ?_⟩
  exact w'.wr (.cons .here .nil)
end
end R
namespace R
open PySem PySem.Spec PyProof.Rows L2
section
variable {X : Cx} {K : PySem.W.Frag} {w : World}
def rSetL (K : PySem.W.Frag) (w : World) : List V → Hp → VK → Prop := fun xs H Q => ∃ (a : Addr) (ns : List Int), xs = [.ref a] ∧ SqL K H a (ns.map V.int) ∧ ns.length ≤ 4000 ∧ ∀ p c, c ≤ ns.length → H p = none → Q (.ref p) (upd H p (SetO w p (fun j => decide (j ∈ ns)) c))
end
end R
namespace R
open PySem PySem.Spec PyProof.Rows L2
/-! ### list(s) of a text -/
def chars (z : Str) : List V := z.cps.toList.map fun c => V.str ⟨#[c]⟩
theorem chars_len (z : Str) : (chars z).length = z.length := by simp [chars, Str.length]
def rListS : List V → Hp → VK → Prop := fun xs H Q => ∃ z : Str, xs = [.str z] ∧ z.length ≤ sizeLine ∧ ∀ q, H q = none → Q (.ref q) (upd H q (.lst (chars z)))
theorem clListS {X : Cx} (hc : X.calm = true := by rfl) : CallR X (.type "list") rListS := by
  intro pins s σ H xs us Q I r h
  obtain ⟨z, rfl, hz, q⟩ := h
  obtain ⟨u, rfl, rx⟩ := vals1 r
  obtain ⟨t, rfl⟩ := rx
  refine PySem.call_list_str (I.ok.hd hc) z t (fun h' tk acc c' hk e hi => ?_) hz
  refine ⟨.ref s.heap.objs.size, upd H s.heap.objs.size (.lst (chars z)), I.laid hk (Nat.le_refl _) ⟨by rw [chars_len]; exact hz, acc.toList, c', ?_, by rw [Array.toArray_toList]; exact e⟩, rfl, q _ (I.hok.fresh (Nat.le_refl _))⟩
  refine vals_of_idx _ _ (by rw [chars_len, Array.length_toList]; exact hi.1) fun j u hj => ?_
  obtain ⟨c, t', hc, rfl⟩ := hi.2 j u (by rw [← Array.getElem?_toList]; exact hj)
  refine ⟨.str ⟨#[c]⟩, ?_, ⟨_, rfl⟩⟩
  unfold chars
  rw [List.getElem?_map, Array.getElem?_toList, hc]
  rfl
theorem n_listS {M : List Addr} {F0 H0 F H : Hp} {L : List Own} {Q : VK} {z : Str} (w : W M F0 H0 F H L) (hz : z.length ≤ sizeLine) (h : ∀ p F2 H2, W M F0 H0 F2 H2 (mu p (.lst (chars z)) :: L) → H0 p = none → Q (.ref p) H2) : rListS [.str z] H Q := ⟨z, rfl, hz, n_new w h⟩
def sgn (z : Str) (k : Nat) : V := .str ⟨#[z.cps.toList.getD k 0]⟩
theorem chars_get {z : Str} {k : Nat} (h : k < z.length) : (chars z)[k]? = some (sgn z k) := by
  have hi : k < z.cps.toList.length := by
    have : z.cps.toList.length = z.length := by simp [Str.length]
    omega
  unfold chars sgn
  rw [List.getElem?_map, List.getD_eq_getElem?_getD, List.getElem?_eq_getElem hi]
  rfl
/-! ### flat values -/
def flatD : V → PyData
  | .int i => .int i
  | .str z => .str z
  | _ => .none
def FlatV (v : V) : Prop := v = .non ∨ (∃ i, v = .int i) ∨ ∃ z, v = .str z ∧ okS z ∧ z.length ≤ 100
theorem flat_dp {K : PySem.W.Frag} {F : Hp} {v : V} (h : FlatV v) : Dp K F v (flatD v) ∧ good (flatD v) = true ∧ (flatD v).depth ≤ 0 := by
  rcases h with rfl | ⟨i, rfl⟩ | ⟨z, rfl, h1, h2⟩
  · exact ⟨.non, rfl, Nat.le_refl _⟩
  · exact ⟨.int i, rfl, Nat.le_refl _⟩
  · exact ⟨.str z, str_good h1 (by omega), Nat.le_refl _⟩
theorem flat_dpa {K : PySem.W.Frag} {F : Hp} : ∀ {vs : List V}, (∀ v ∈ vs, FlatV v) → DpAll K F vs (vs.map flatD)
  | [], _ => .nil
  | v :: vs, h => .cons (flat_dp (h v (List.mem_cons_self ..))).1 (flat_dpa fun u hu => h u (List.mem_cons_of_mem _ hu))
theorem flat_good {vs : List V} (h : ∀ v ∈ vs, FlatV v) (hl : vs.length ≤ 100000) : good (.list (vs.map flatD)) = true ∧ (PyData.list (vs.map flatD)).depth ≤ 1 := by
  constructor
  · refine good_list (by rw [List.length_map]; exact hl) fun d hd => ?_
    obtain ⟨r, hr, rfl⟩ := List.mem_map.mp hd
    exact (flat_dp (K := default) (F := fun _ => none) (h r hr)).2.1
  · refine depth_list fun d hd => ?_
    obtain ⟨r, hr, rfl⟩ := List.mem_map.mp hd
    exact (flat_dp (K := default) (F := fun _ => none) (h r hr)).2.2
theorem chars_flat {z : Str} (h : okS z) : ∀ v ∈ chars z, FlatV v := by
  intro v hv
  obtain ⟨k, hk, e⟩ := List.getElem_of_mem hv
  rw [chars_len] at hk
  have e2 := chars_get hk
  rw [List.getElem?_eq_getElem (by rw [chars_len]; exact hk), e] at e2
  rw [Option.some.inj e2]
  exact .inr (.inr ⟨_, rfl, ok_sign h hk, by show 1 ≤ 100; decide⟩)
/-! ### slices -/
theorem cut_to (xs : List V) (j : Nat) : cutV xs none (some (j : Int)) = xs.take j := by
  unfold cutV
  rw [HT.sIx_none, HT.sIx_nat, List.drop_zero, Nat.sub_zero]
  by_cases h : j ≤ xs.length
  · rw [Nat.min_eq_left h]
  · rw [Nat.min_eq_right (by omega), List.take_of_length_le (Nat.le_refl _), List.take_of_length_le (by omega)]
theorem cut_from (xs : List V) (i : Nat) : cutV xs (some (i : Int)) none = xs.drop i := by
  unfold cutV
  rw [HT.sIx_none, HT.sIx_nat]
  by_cases h : i ≤ xs.length
  · rw [Nat.min_eq_left h]
    exact List.take_of_length_le (by rw [List.length_drop]; exact Nat.le_refl _)
  · rw [Nat.min_eq_right (by omega), Nat.sub_self, List.take_zero, List.drop_eq_nil_of_le (by omega)]
/-! ### items put one by one from a place on -/
/-! ### moves -/
inductive Mv where
  | put (to : Nat) (s : Str)
  | copy (to a n : Nat)
def Mv.d : Mv → PyData
  | .put to s => .tuple [.str "put", .int to, .str s]
  | .copy to a n => .tuple [.str "copy", .int to, .int a, .int n]
def Mv.to : Mv → Nat
  | .put to _ => to
  | .copy to _ _ => to
def Mv.len : Mv → Nat
  | .put _ s => s.length
  | .copy _ _ n => n
def Mv.lo : Mv → Nat
  | .put _ _ => 0
  | .copy _ a _ => a
def Mv.hi : Mv → Nat
  | .put _ _ => 0
  | .copy _ a n => a + n
def Mv.sOk : Mv → Prop
  | .put _ s => okS s ∧ s.length ≤ 1000
  | .copy to a _ => to ≠ a
structure MvOk (N : Nat) (m : Mv) : Prop where
  s : m.sOk
  p : 1 ≤ m.len
  t : m.to + m.len ≤ N
  h : m.hi ≤ N
def Mv.some (xs : List V) : Mv → List V
  | .put _ s => chars s
  | .copy _ a n => (xs.drop a).take n
def laidL (xs : List V) (to : Nat) (zs : List V) : List V := xs.take to ++ zs ++ xs.drop (to + zs.length)
section
variable {K : PySem.W.Frag} {F : Hp} {x : V}
/-- item i of a list of data -/
theorem dpa_at {α : Type} {f : α → PyData} {us : List V} {as : List α} {i : Nat} {y : V} (h : DpAll K F us (as.map f)) (hx : us[i]? = some y) : ∃ r, as[i]? = some r ∧ Dp K F y (f r) := by
  have hl := dpa_len h
  have hi := (List.getElem?_eq_some_iff.mp hx).1
  rw [List.length_map] at hl
  have hr : as[i]? = some as[i] := List.getElem?_eq_getElem (by omega)
  obtain ⟨v, hv, dv⟩ := dpa_get (i := i) (d := f as[i]) h (by rw [List.getElem?_map, hr]; rfl)
  rw [hx] at hv
  rw [Option.some.inj hv]
  exact ⟨_, hr, dv⟩
end
/-- no cell is written twice -/
def Apart (ms : List Mv) : Prop := ms.Pairwise fun m k => m.to + m.len ≤ k.to ∨ k.to + k.len ≤ m.to
theorem Apart.perm {ms ks : List Mv} (h : Apart ms) (p : ms.Perm ks) : Apart ks := (p.pairwise_iff (fun h => h.symm)).mp h
structure MvsOk (N : Nat) (ms : List Mv) : Prop where
  ok : ∀ m ∈ ms, MvOk N m
  ap : Apart ms
theorem MvsOk.perm {N : Nat} {ms ks : List Mv} (h : MvsOk N ms) (p : ms.Perm ks) : MvsOk N ks := ⟨fun m hm => h.ok m (p.mem_iff.mpr hm), h.ap.perm p⟩
theorem MvsOk.sub {N : Nat} {ms ks : List Mv} (h : MvsOk N ms) (p : ks.Sublist ms) : MvsOk N ks := ⟨fun m hm => h.ok m (p.mem hm), List.Pairwise.sublist p h.ap⟩
theorem nodup_lt : ∀ (N : Nat) (l : List Nat), l.Nodup → (∀ x ∈ l, x < N) → l.length ≤ N
  | 0, [], _, _ => Nat.le_refl _
  | 0, x :: l, _, h => absurd (h x (List.mem_cons_self ..)) (Nat.not_lt_zero _)
  | N + 1, l, hn, h => by
    have ih := nodup_lt N (l.erase N) (hn.erase N) fun x hx => by
      have h1 := h x (List.mem_of_mem_erase hx)
      have h2 : x ≠ N := fun e => by
        subst e
        exact (List.Nodup.mem_erase_iff hn).mp hx |>.1 rfl
      omega
    rw [List.length_erase] at ih
    split at ih <;> omega
/-- fewer than N + 1 of them -/
theorem MvsOk.len {N : Nat} {ms : List Mv} (h : MvsOk N ms) : ms.length ≤ N := by
  have hn : (ms.map Mv.to).Nodup := by
    refine List.pairwise_map.mpr (h.ap.imp_of_mem fun ha hb z => ?_)
    have := (h.ok _ ha).p
    have := (h.ok _ hb).p
    omega
  have hs : ∀ x ∈ ms.map Mv.to, x < N := fun x hx => by
    obtain ⟨m, hm, rfl⟩ := List.mem_map.mp hx
    have := (h.ok m hm).p
    have := (h.ok m hm).t
    omega
  have := nodup_lt N _ hn hs
  rwa [List.length_map] at this
/-! ### cuts and blocks -/
/-! ### promises -/
end R
namespace R
open PySem L2
/-! ### a class of the text: its methods with their promises, its making -/
structure DM (P : Program) (w : World) (K : PySem.W.Frag) (mg : Str → Option Value) (base : Heap) (k : Nat) (C m : Str) (ps : List Str) (dvs : List V) (sp : Sp) : Prop where
  ex : ∃ (fd : FuncData) (ds : List Value), FnOk P w K mg base CX0 k (He.ma K (He.ga K C) m) fd ps sp ∧ Meth K (He.ga K C) m (He.ma K (He.ga K C) m) ∧ Cls K (He.ga K C) ∧ Binds K fd ps ds ∧ Vals dvs ds
structure DN (P : Program) (w : World) (K : PySem.W.Frag) (mg : Str → Option Value) (base : Heap) (k : Nat) (C : Str) (ps : List Str) (dvs : List V) (sp : Sp) : Prop where
  ex : ∃ (fd : FuncData) (ds : List Value), FnOk P w K mg base CX0 k (He.ma K (He.ga K C) "__init__") fd ps sp ∧ Mk K (He.ga K C) (He.ma K (He.ga K C) "__init__") ∧ mg C = some (.ref (He.ga K C)) ∧ Binds K fd ps ds ∧ Vals dvs ds
section
variable {X : Cx} {k j n : Nat} {ps ks : List Str} {sp : Sp} {dvs : List V} {C m x : Str} {p pos apos : Pos} {o e : Expr} {es : List Expr} {kws : List Keyword} {ta : TE} {t tk : TA} {tp : List (Nat × Nat)} {pl : Sem Bool}
theorem pmake (D : DN X.prog X.w X.K X.mg X.base k x ps dvs sp) (hr : Room j X.A) (ha : PA X (e :: es) t) (hj : k + 1 ≤ j := by first | decide | exact Nat.le_refl _ | omega) (hg : Gl X x := by rfl) (hdb : (x == ("__debug__" : Str)) = false := by decide)
    (he : starEach (e :: es) X.env = (false, eval e X.env) :: starEach es X.env := by rfl) (hpl : (backTo pos (starEach es X.env)).any (·.1) = false := by rfl) :
    PE X (.Call (.Name x p) (e :: es) [] pos) (tMake (He.ga X.K x) sp dvs E0 t) := by
  obtain ⟨fd, ds, F, M, hm, hb, hd⟩ := D.ex
  exact pe_make M F (hr.mono hj) hg hm hb hd pass0 ha hdb he hpl
theorem pmeth0 (D : DM X.prog X.w X.K X.mg X.base k C m ps dvs sp) (hr : Room j X.A) (he : PE X o ta) (hj : k ≤ j := by first | decide | exact Nat.le_refl _ | omega)
    (h3 : eval (.Call (.Attribute o m apos) [] [] pos) X.env = (eval o X.env >>= fun ov => standAt apos.atName >>= fun _ => holding [ov] (getMethod ov m pl) >>= fun q =>
      callWith pos q.1 q.2 (backTo pos (starEach [] X.env)) (backToKw pos (keywordEach [] X.env))) := by rfl) :
    PE X (.Call (.Attribute o m apos) [] [] pos) (tMeth (He.ga X.K C) m sp dvs E0 ta tNil) := by
  obtain ⟨fd, ds, F, M, c, hb, hd⟩ := D.ex
  exact pe_meth0 he c M F (hr.mono hj) hb hd pass0 h3
end
/-! ### rules with the written part by its own name -/
section
variable {X : Cx} {K : PySem.W.Frag} {o value : Expr} {f : Str} {ta tv : TE} {pos p2 : Pos}
theorem psFld (ha : PE X o ta) (hv : PE X value tv) (hs : swapsWith value (some (.Attribute o f p2)) pos.line X.env = pure false) (h : X.K = K := by rfl) : PS X (.Assign [.Attribute o f p2] value pos) (sFld K ta tv f) := by
  subst h
  exact ps_fld ha hv hs
end
/-! ### steps -/
section
variable {K : PySem.W.Frag} {σ : L2.St} {H : Hp} {Q : VK} {ta tv : TE} {x v : V} {nx bk ct : L2.St → Hp → Prop} {rt : VK} {C a dx : Addr} {f m : Str} {fs : List (Str × V)}
/-- what an instance's field asks -/
def gFld (K : PySem.W.Frag) (f : Str) (x : V) (H : Hp) (Q : VK) : Prop := ∃ a C dx fs v, x = .ref a ∧ H a = some (.ins C dx fs) ∧ Cls K C ∧ NoAttr K C f ∧ fs.lookup f = some v ∧ Q v H
theorem w_fldE (q : ta σ H fun x H1 => gFld K f x H1 Q) : tFld K ta f σ H Q := q
instance : Step (tFld K ta f σ H Q) (ta σ H fun x H1 => gFld K f x H1 Q) := ⟨w_fldE⟩ -- st
theorem w_fld (c : Cls K C) (n : NoAttr K C f) (h : H a = some (.ins C dx fs)) (l : fs.lookup f = some v) (q : Q v H) : gFld K f (.ref a) H Q := ⟨a, C, dx, fs, v, rfl, h, c, n, l, q⟩
def gSFld (K : PySem.W.Frag) (f : Str) (x y : V) (H : Hp) (Z : Hp → Prop) : Prop := ∃ a C dx fs, x = .ref a ∧ H a = some (.ins C dx fs) ∧ Cls K C ∧ NoAttr K C f ∧ fs.length < 1000 ∧ Z (upd H a (.ins C dx (putF f y fs)))
theorem w_sfldE (q : tv σ H fun y H1 => ta σ H1 fun x H2 => gSFld K f x y H2 fun H3 => nx σ H3) : sFld K ta tv f ⟨nx, rt, bk, ct⟩ σ H := q
instance : Step (sFld K ta tv f ⟨nx, rt, bk, ct⟩ σ H) (tv σ H fun y H1 => ta σ H1 fun x H2 => gSFld K f x y H2 fun H3 => nx σ H3) := ⟨w_sfldE⟩ -- st
theorem w_sfld {Z : Hp → Prop} (c : Cls K C) (n : NoAttr K C f) (h : H a = some (.ins C dx fs)) (l : fs.length < 1000) (q : Z (upd H a (.ins C dx (putF f v fs)))) : gSFld K f (.ref a) v H Z := ⟨a, C, dx, fs, rfl, h, c, n, l, q⟩
theorem w_meth {sp : Sp} {dvs : List V} {E : XK} {t : TA} (q : ta σ H fun x H1 => ∃ a dx fs, x = .ref a ∧ H1 a = some (.ins C dx fs) ∧ fs.lookup m = none ∧ t σ H1 fun vs H2 => sp (x :: (vs ++ dvs)) H2 Q E) : tMeth C m sp dvs E ta t σ H Q := q
end
end R
namespace R
open PySem PySem.Spec PyProof.Rows L2
/-! ### the head's facts with one more of the written part -/
def obsEG (n : Nat) (fa : List He.Fa) (fn : List He.DefD) (ex : PySem.W.Frag → Bool) (g : Addr → Option Obj) : He.AlD × Bool := (He.obsDG n fa fn g, ex (He.frG g (He.asD g n)))
def hookE (n : Nat) (fa : List He.Fa) (fn : List He.DefD) (ex : PySem.W.Frag → Bool) : PySem.W.Hook where
  α := He.AlD × Bool
  obs := fun s => obsEG n fa fn ex s.heap.get?
  val := fun _ => (He.valD fn, true)
  says := fun _ h => ∃ K : PySem.W.Frag, K.In h ∧ He.SaysD fa fn K ∧ ex K = true
  of := fun _ _ e => ⟨_, He.frG_in, congrArg Prod.fst e, congrArg Prod.snd e⟩
  keeps := fun _ _ _ ⟨K, hK, c⟩ k => ⟨K, PySem.W.Frag.In.keeps hK k, c⟩
theorem obsEG_eq {n : Nat} {fa : List He.Fa} {fn : List He.DefD} {ex : PySem.W.Frag → Bool} {g : Addr → Option Obj} {s : Shared} (h : ∀ a, g a = s.heap.get? a) : obsEG n fa fn ex g = (hookE n fa fn ex).obs s := by
  have e : g = s.heap.get? := funext h
  rw [e] <;> rfl
def eqV2 (a b : Option (Option Value)) : Bool := decide (a = b)
end R
namespace R
open PySem L2
/-! ### instances in a reading -/
def mthG (C : Addr) (m : Str) (x : V) (H : Hp) (P : Prop) : Prop := (∃ a dx fs, x = .ref a ∧ H a = some (.ins C dx fs) ∧ fs.lookup m = none) ∧ P
def aftG (Q : VK) (x : Addr) : VK := fun v H2 => v = .non ∧ Q (.ref x) H2
def makG (C : Addr) (sp : Sp) (ws : List V) (E : XK) (H : Hp) (Q : VK) : Prop := ∀ x dx, H x = none → H dx = none → dx ≠ x → sp (.ref x :: ws) (upd (upd H dx (.own x)) x (.ins C dx [])) (aftG Q x) E
section
variable {K : PySem.W.Frag} {M : List Addr} {F0 H0 F H : Hp} {L Rs : List Own} {σ : L2.St} {Q : VK} {ta : TE} {v : V} {nx bk ct : L2.St → Hp → Prop} {rt : VK} {C a dx : Addr} {f m : Str} {fs : List (Str × V)}
theorem n_fld (h : H a = some (.ins C dx fs)) (l : fs.lookup f = some v) (c : Cls K C) (n : NoAttr K C f) (q : Q v H) : gFld K f (.ref a) H Q := w_fld c n h l q
instance : SideK (gFld K f (.ref a) H Q) 4 := ⟨⟩ -- st
theorem n_sfld {Z : Hp → Prop} (w : W M F0 H0 F H L) (k : Pick L [mu a (.ins C dx fs)] Rs) (c : Cls K C) (n : NoAttr K C f) (l : fs.length < 1000) (q : ∀ H2, W M F0 H0 F H2 (mu a (.ins C dx (putF f v fs)) :: Rs) → Z H2) : gSFld K f (.ref a) v H Z :=
  w_sfld c n ((w.to k).at_ (List.mem_singleton.mpr rfl)) l (q _ (w.wr k))
theorem x_meth {sp : Sp} {dvs : List V} {E : XK} {t : TA} (q : ta σ H fun x H1 => mthG C m x H1 (t σ H1 fun vs H2 => sp (x :: (vs ++ dvs)) H2 Q E)) : tMeth C m sp dvs E ta t σ H Q := by
  refine w_meth ?_
  refine cast ?_ q
  congr 1
  funext x H1
  unfold mthG
  refine propext ⟨?_, ?_⟩
  · rintro ⟨⟨a, dx, fs, h1, h2, h3⟩, h4⟩
    exact ⟨a, dx, fs, h1, h2, h3, h4⟩
  · rintro ⟨a, dx, fs, h1, h2, h3, h4⟩
    exact ⟨⟨a, dx, fs, h1, h2, h3⟩, h4⟩
instance {sp : Sp} {dvs : List V} {E : XK} {t : TA} : Step (tMeth C m sp dvs E ta t σ H Q) (ta σ H fun x H1 => mthG C m x H1 (t σ H1 fun vs H2 => sp (x :: (vs ++ dvs)) H2 Q E)) := ⟨x_meth⟩ -- st
theorem n_meth {P : Prop} (h : H a = some (.ins C dx fs)) (l : fs.lookup m = none) (q : P) : mthG C m (.ref a) H P := ⟨⟨a, dx, fs, rfl, h, l⟩, q⟩
instance {P : Prop} : SideK (mthG C m (.ref a) H P) 4 := ⟨⟩ -- st
theorem x_make {sp : Sp} {dvs : List V} {E : XK} {t : TA} (q : t σ H fun vs H1 => makG C sp (vs ++ dvs) E H1 Q) : tMake C sp dvs E t σ H Q := q
instance {sp : Sp} {dvs : List V} {E : XK} {t : TA} : Step (tMake C sp dvs E t σ H Q) (t σ H fun vs H1 => makG C sp (vs ++ dvs) E H1 Q) := ⟨x_make⟩ -- st
theorem n_make {sp : Sp} {ws : List V} {E : XK} (w : W M F0 H0 F H L) (q : ∀ x dx H2, W M F0 H0 F H2 (mu x (.ins C dx []) :: mu dx (.own x) :: L) → H0 x = none → sp (.ref x :: ws) H2 (aftG Q x) E) : makG C sp ws E H Q := by
  intro x dx nx ndx hne
  have w1 := w.nw (u := .own x) ndx
  have nx1 : upd H dx (.own x) x = none := by rw [upd_ne hne.symm]; exact nx
  exact q x dx _ (w1.nw (u := .ins C dx []) nx1) (w.g.fresh nx)
end
/-! ### rows of a change -/
inductive CRow where
  | put (s : Str)
  | copy (a n : Nat)
def CRow.d : CRow → PyData
  | .put s => .tuple [.str "put", .str s]
  | .copy a n => .tuple [.str "copy", .int a, .int n]
def CRow.gives : CRow → Nat
  | .put s => s.length
  | .copy _ n => n
def CRow.hi : CRow → Nat
  | .put _ => 0
  | .copy a n => a + n
def CRow.sOk : CRow → Prop
  | .put s => okS s ∧ s.length ≤ 1000
  | .copy _ _ => True
structure CRowOk (size : Nat) (r : CRow) : Prop where
  s : r.sOk
  p : 1 ≤ r.gives
  h : r.hi ≤ size
abbrev givesL (rows : List CRow) : Nat := (rows.map CRow.gives).sum
structure RowsOk (size : Nat) (rows : List CRow) : Prop where
  ok : ∀ r ∈ rows, CRowOk size r
  sum : givesL rows ≤ 400
theorem rows_len : ∀ {rows : List CRow}, (∀ r ∈ rows, 1 ≤ r.gives) → rows.length ≤ givesL rows
  | [], _ => Nat.le_refl _
  | r :: rows, h => by
    have ih := rows_len (rows := rows) fun q hq => h q (List.mem_cons_of_mem _ hq)
    have h1 := h r (List.mem_cons_self ..)
    show rows.length + 1 ≤ r.gives + givesL rows
    omega
theorem RowsOk.len {size : Nat} {rows : List CRow} (h : RowsOk size rows) : rows.length ≤ 400 := Nat.le_trans (rows_len fun r hr => (h.ok r hr).p) h.sum
section
variable {K : PySem.W.Frag} {F : Hp} {x : V}
theorem dp_cput {s : Str} (h : Dp K F x (CRow.put s).d) : ∃ a, x = .ref a ∧ SqT K F a [.str "put", .str s] := by
  obtain ⟨a, vs, rfl, hs, h0⟩ := dp_tup h
  obtain ⟨v1, us, rfl, h1, h0⟩ := dpa_cons h0
  obtain ⟨v2, us, rfl, h2, h0⟩ := dpa_cons h0
  cases dpa_nil h0
  rw [dp_str h1, dp_str h2] at hs
  exact ⟨a, rfl, hs⟩
theorem dp_ccopy {a n : Nat} (h : Dp K F x (CRow.copy a n).d) : ∃ p, x = .ref p ∧ SqT K F p [.str "copy", .int a, .int n] := by
  obtain ⟨a, v1, v2, v3, rfl, hs, h1, h2, h3⟩ := dp_tup3 h
  rw [dp_str h1, dp_int h2, dp_int h3] at hs
  exact ⟨a, rfl, hs⟩
theorem dp_cput' {p : Addr} {s : Str} (h : SqT K F p [.str "put", .str s]) : Dp K F (.ref p) (CRow.put s).d := .tup h (.cons (.str _) (.cons (.str _) .nil))
theorem dp_ccopy' {p : Addr} {a n : Nat} (h : SqT K F p [.str "copy", .int a, .int n]) : Dp K F (.ref p) (CRow.copy a n).d := .tup h (.cons (.str _) (.cons (.int _) (.cons (.int _) .nil)))
end
theorem crow_good {m : CRow} (h : m.sOk) : good m.d = true ∧ m.d.depth ≤ 1 := by
  cases m with
  | put s =>
    constructor
    · refine good_tuple (by simp) fun d hd => ?_
      simp only [List.mem_cons, List.not_mem_nil, or_false] at hd
      rcases hd with rfl | rfl
      · decide +kernel
      · exact str_good h.1 (Nat.le_trans h.2 (by decide))
    · refine depth_tuple fun d hd => ?_
      simp only [List.mem_cons, List.not_mem_nil, or_false] at hd
      rcases hd with rfl | rfl <;> exact Nat.le_refl _
  | copy a n =>
    constructor
    · refine good_tuple (by simp) fun d hd => ?_
      simp only [List.mem_cons, List.not_mem_nil, or_false] at hd
      rcases hd with rfl | rfl | rfl
      · decide +kernel
      · rfl
      · rfl
    · refine depth_tuple fun d hd => ?_
      simp only [List.mem_cons, List.not_mem_nil, or_false] at hd
      rcases hd with rfl | rfl | rfl <;> exact Nat.le_refl _
theorem crows_good {ms : List CRow} (h : ∀ m ∈ ms, m.sOk) (hl : ms.length ≤ 100000) : good (.list (ms.map CRow.d)) = true ∧ (PyData.list (ms.map CRow.d)).depth ≤ 2 := by
  constructor
  · refine good_list (by rw [List.length_map]; exact hl) fun d hd => ?_
    obtain ⟨r, hr, rfl⟩ := List.mem_map.mp hd
    exact (crow_good (h r hr)).1
  · refine depth_list fun d hd => ?_
    obtain ⟨r, hr, rfl⟩ := List.mem_map.mp hd
    exact (crow_good (h r hr)).2
/-- a change that stays -/
def insC (C dx r : Addr) (n : Nat) : HO := .ins C dx [("size", .int (n : Nat)), ("rows", .ref r)]
def Chg (K : PySem.W.Frag) (F : Hp) (x : V) (n : Nat) (rows : List CRow) : Prop := ∃ c dx r vs, x = .ref c ∧ F c = some (insC (He.ga K "Change") dx r n) ∧ F r = some (.lst vs) ∧ DpAll K F vs (rows.map CRow.d)
theorem Chg.same {K : PySem.W.Frag} {F F2 : Hp} {x : V} {n : Nat} {rows : List CRow} (s : Same F F2) (h : Chg K F x n rows) : Chg K F2 x n rows := by
  obtain ⟨c, dx, r, vs, e, h1, h2, h3⟩ := h
  exact ⟨c, dx, r, vs, e, s _ _ h1, s _ _ h2, dpa_same s _ _ h3⟩
def chg (K : PySem.W.Frag) (x : V) (n : Nat) (rows : List CRow) : Own := pur (fun F => Chg K F x n rows) fun s h => h.same s
/-! ### moves of a change -/
theorem gives_take {rows : List CRow} {i : Nat} {r : CRow} (h : rows[i]? = some r) : givesL (rows.take (i + 1)) = givesL (rows.take i) + r.gives := by
  unfold givesL
  rw [List.take_add_one, h, List.map_append, List.sum_append]
  rfl
theorem gives_le (rows : List CRow) (i : Nat) : givesL (rows.take i) ≤ givesL rows := by
  have := List.sum_append (l₁ := (rows.take i).map CRow.gives) (l₂ := (rows.drop i).map CRow.gives)
  rw [← List.map_append, List.take_append_drop] at this
  show ((rows.take i).map CRow.gives).sum ≤ (rows.map CRow.gives).sum
  omega
/-! ### promises -/
def φgives (K : PySem.W.Frag) : V → V → Hp → VK → Prop := fun x y H Q => ∃ (F : Hp) (r : CRow) (n : Nat), y = .int (n : Nat) ∧ Same F H ∧ Dp K F x r.d ∧ CRowOk n r ∧ ∀ F2 H2, W [] F H F2 H2 [] → Q (.int (r.gives : Nat)) H2
def φinit (K : PySem.W.Frag) : V → V → V → Hp → VK → Prop := fun x y z H Q => ∃ (F : Hp) (c dx a : Addr) (vs : List V) (n : Nat) (rows : List CRow), x = .ref c ∧ y = .int (n : Nat) ∧ z = .ref a ∧ St F H [mu c (.ins (He.ga K "Change") dx [])] ∧ SqL K F a vs ∧ DpAll K F vs (rows.map CRow.d) ∧ n ≤ 400 ∧ RowsOk n rows ∧
  ∀ r F2 H2, H r = none → W [c] F H F2 H2 [mu c (insC (He.ga K "Change") dx r n), mu r (.lst vs)] → Q .non H2
/-- the making of a change -/
theorem c_init {K : PySem.W.Frag} {M : List Addr} {F0 H0 F H : Hp} {L Rs : List Own} {Q : VK} {E : XK} {c dx a : Addr} {vs : List V} {n : Nat} {rows : List CRow} (w : W M F0 H0 F H L) (k : Pick L [mu c (.ins (He.ga K "Change") dx [])] Rs) (hc : H0 c = none) (hs : SqL K F a vs) (hd : DpAll K F vs (rows.map CRow.d)) (hn : n ≤ 400) (ok : RowsOk n rows)
    (q : ∀ F2 H2, W M F0 H0 F2 H2 (chg K (.ref c) n rows :: Rs) → Q (.ref c) H2) : S3 (φinit K) [.ref c, .int (n : Nat), .ref a] H (aftG Q c) E := by
  refine ⟨F, c, dx, a, vs, n, rows, rfl, rfl, rfl, w.st k, hs, hd, hn, ok, fun r F2 H2 hr w2 => ⟨rfl, ?_⟩⟩
  have hr' := w.g.fresh hr
  have hd2 := dpa_same w2.ff _ _ hd
  have w := w.cal k w2 (.cons (.cons .nil)) rfl
  have m1 := w.mu (p := c) (List.mem_cons_self ..)
  have w := w.fz (.cons .here .nil) hc
  have hd2 := dpa_same (Same.new (o := insC (He.ga K "Change") dx r n) m1.n) _ _ hd2
  have m2 := w.mu (p := r) (List.mem_cons_self ..)
  have w := w.fz (.cons .here .nil) hr'
  have hd2 := dpa_same (Same.new (o := .lst vs) m2.n) _ _ hd2
  refine q _ _ (w.push _ ⟨c, dx, r, vs, rfl, ?_, upd_same, hd2⟩)
  have hne : c ≠ r := fun e => by
    subst e
    have := m2.n
    rw [upd_same] at this
    cases this
  rw [upd_ne hne, upd_same]
/-! ### the makers of k01 .. k16 -/
def sig93 : Str := "!\"#$&'()*+,-./0123456789:;<=>?@ABCDEFGHIJKLMNOPQRSTUVWXYZ" ++ "[\\]^_`abcdefghijklmnopqrstuvwxyz{|}~"
theorem sig_len : sig93.length = 93 := by decide +kernel
theorem sig_ok : okS sig93 := by decide +kernel
end R
namespace R
open PySem PySem.Spec PyProof.Rows L2
/-! ### an instance made within a comprehension -/
end R
namespace R
open PySem PySem.StrLaws Builtin.Str L2
/-! ### stretches of a text, by its signs -/
/-! ### the least cost of each beginning -/
/-! ### texts by their signs -/
abbrev cd (z : Str) : List Nat := z.cps.toList
theorem cd_len (z : Str) : (cd z).length = z.length := by simp [Str.length]
/-! ### the table -/
theorem ok_codes {z : Str} : okS z ↔ ∀ c ∈ cd z, c < 0x110000 := by
  show (z.cps.all (· < 0x110000)) = true ↔ _
  rw [← Array.all_toList, List.all_eq_true]
  exact ⟨fun h c hc => of_decide_eq_true (h c hc), fun h c hc => decide_eq_true (h c hc)⟩
/-! ### cells -/
def CRow.cellV : CRow → List V
  | .put s => chars s
  | .copy a n => (List.range n).map fun k => V.int ((a + k : Nat) : Int)
abbrev cellsV (rows : List CRow) : List V := rows.flatMap CRow.cellV
theorem cellV_len (r : CRow) : r.cellV.length = r.gives := by
  cases r with
  | put s => exact chars_len s
  | copy a n => simp [CRow.cellV, CRow.gives]
theorem cells_len : ∀ rows : List CRow, (cellsV rows).length = givesL rows
  | [] => rfl
  | r :: rows => by
    show (r.cellV ++ cellsV rows).length = r.gives + givesL rows
    rw [List.length_append, cellV_len, cells_len rows]
/-- a cell of a change of this size: a place or a sign -/
def CellOk (n : Nat) (v : V) : Prop := (∃ i : Nat, v = .int (i : Nat) ∧ i < n) ∨ ∃ c : Nat, v = .str ⟨#[c]⟩ ∧ c < 0x110000
theorem chars_get' {z : Str} {v : V} (h : v ∈ chars z) : ∃ c ∈ cd z, v = .str ⟨#[c]⟩ := by
  unfold chars at h
  obtain ⟨c, hc, rfl⟩ := List.mem_map.mp h
  exact ⟨c, hc, rfl⟩
theorem cells_ok {n : Nat} {rows : List CRow} (h : ∀ r ∈ rows, CRowOk n r) : ∀ v ∈ cellsV rows, CellOk n v := by
  intro v hv
  obtain ⟨r, hr, hv⟩ := List.mem_flatMap.mp hv
  have ro := h r hr
  cases r with
  | put s =>
    obtain ⟨c, hc, rfl⟩ := chars_get' hv
    exact .inr ⟨c, rfl, ok_codes.mp ro.s.1 c hc⟩
  | copy a k =>
    obtain ⟨j, hj, rfl⟩ := List.mem_map.mp hv
    have := List.mem_range.mp hj
    have hh : a + k ≤ n := ro.h
    exact .inl ⟨a + j, rfl, by omega⟩
theorem CellOk.flat {n : Nat} {v : V} (h : CellOk n v) : FlatV v := by
  rcases h with ⟨i, rfl, _⟩ | ⟨c, rfl, hc⟩
  · exact .inr (.inl ⟨_, rfl⟩)
  · refine .inr (.inr ⟨_, rfl, ok_codes.mpr fun d hd => ?_, by show 1 ≤ 100; decide⟩)
    have : d = c := by simpa using hd
    rw [this]
    exact hc
/-! ### promises -/
def φcells (K : PySem.W.Frag) : V → Hp → VK → Prop := fun x H Q => ∃ (F : Hp) (n : Nat) (rows : List CRow), Same F H ∧ Chg K F x n rows ∧ RowsOk n rows ∧ n ≤ 1000 ∧ ∀ p F2 H2, H p = none → W [] F H F2 H2 [mu p (.lst (cellsV rows))] → Q (.ref p) H2
theorem len_app (a b : Str) : (a ++ b).length = a.length + b.length := by
  rw [← cd_len, ← cd_len, ← cd_len, ← List.length_append]
  congr 1
  exact TL.tl_append a b
def φwholeI : V → Hp → VK → Prop := fun x H Q => ∃ i, x = .int i ∧ Q (.bl true) H
/-! ### plain finds -/
end R
namespace R
open PySem PySem.Spec PyProof.Rows L2
/-! ### list(reversed(a list)) -/
section
variable {X : Cx} {K : PySem.W.Frag}
def tListRev (K : PySem.W.Frag) (te : TE) : TE := fun σ H Q => te σ H fun v H1 => ∃ (a : Addr) (xs : List V), v = .ref a ∧ SqL K H1 a xs ∧ ∀ q, H1 q = none → Q (.ref q) (upd H1 q (.lst xs.reverse))
end
section
variable {K : PySem.W.Frag} {M : List Addr} {F0 H0 F H : Hp} {L : List Own} {σ : L2.St} {Q : VK} {te : TE} {a : Addr} {xs : List V}
def lrvG (K : PySem.W.Frag) (v : V) (H1 : Hp) (Q : VK) : Prop := ∃ (a : Addr) (xs : List V), v = .ref a ∧ SqL K H1 a xs ∧ ∀ q, H1 q = none → Q (.ref q) (upd H1 q (.lst xs.reverse))
theorem x_lrv (q : te σ H fun v H1 => lrvG K v H1 Q) : tListRev K te σ H Q := q
instance : Step (tListRev K te σ H Q) (te σ H fun v H1 => lrvG K v H1 Q) := ⟨x_lrv⟩ -- st
end
end R
namespace R
open PySem PySem.Spec PyProof.Rows L2
/-! ### many objects that may change -/
def AllMu (F H : Hp) (ds : List Addr) (os : List HO) : Prop := ds.length = os.length ∧ ∀ (i : Nat) (d : Addr) (o : HO), ds[i]? = some d → os[i]? = some o → Mu F H d o
def muA (ds : List Addr) (os : List HO) : Own := ⟨ds, fun F H => AllMu F H ds os, fun {F H F2 H2} s h n m => ⟨m.1, fun i d o hd ho => by
    have x := m.2 i d o hd ho
    have hm := List.mem_of_getElem? hd
    exact ⟨n d hm x.n, h d hm o x.h⟩⟩, fun {F H} m a ha => by
    obtain ⟨i, hi, e⟩ := List.mem_iff_getElem.mp ha
    have hi2 : i < os.length := by rw [← m.1]; exact hi
    exact ne_none (m.2 i a os[i] (by rw [List.getElem?_eq_getElem hi, e]) (List.getElem?_eq_getElem hi2)).h⟩
section
variable {K : PySem.W.Frag} {M : List Addr} {F0 H0 F H : Hp} {L L1 Rs : List Own} {ds : List Addr} {os : List HO} {i : Nat} {d p : Addr} {o o2 u : HO}
theorem era_perm {α : Type} {l : List α} {i : Nat} {a : α} (h : l[i]? = some a) : (a :: l.eraseIdx i).Perm l := by
  induction l generalizing i with
  | nil => cases h
  | cons b l ih =>
    cases i with
    | zero => cases h; exact .refl _
    | succ i =>
      have h2 : l[i]? = some a := h
      show (a :: b :: l.eraseIdx i).Perm (b :: l)
      exact (List.Perm.swap b a _).trans ((ih h2).cons b)
theorem W.take (w : W M F0 H0 F H (muA ds os :: L)) (hd : ds[i]? = some d) (ho : os[i]? = some o) : W M F0 H0 F H (R.mu d o :: muA (ds.eraseIdx i) (os.eraseIdx i) :: L) := by
  have m : AllMu F H ds os := w.i _ (List.mem_cons_self ..)
  have hp : (ads (R.mu d o :: muA (ds.eraseIdx i) (os.eraseIdx i) :: L)).Perm (ads (muA ds os :: L)) := by
    show ([d] ++ (ds.eraseIdx i ++ ads L)).Perm (ds ++ ads L)
    rw [← List.append_assoc]
    exact (era_perm hd).append_right _
  refine ⟨w.g, fun q hq => ?_, hp.nodup_iff.mpr w.d, fun a ha => w.o a (hp.mem_iff.mp ha)⟩
  rcases List.mem_cons.mp hq with rfl | hq
  · exact m.2 i d o hd ho
  rcases List.mem_cons.mp hq with rfl | hq
  · refine ⟨?_, fun j d2 o2 h1 h2 => ?_⟩
    · have hi := (List.getElem?_eq_some_iff.mp hd).1
      have hi2 := (List.getElem?_eq_some_iff.mp ho).1
      rw [List.length_eraseIdx, List.length_eraseIdx, if_pos hi, if_pos hi2, m.1]
    · rw [List.getElem?_eraseIdx] at h1 h2
      by_cases hj : j < i
      · rw [if_pos hj] at h1 h2
        exact m.2 j d2 o2 h1 h2
      · rw [if_neg hj] at h1 h2
        exact m.2 (j + 1) d2 o2 h1 h2
  · exact w.i q (List.mem_cons_of_mem _ hq)
/-- to the front -/
theorem W.fst (w : W M F0 H0 F H L) {x : Own} (k : Rm x L Rs) : W M F0 H0 F H (x :: Rs) := w.perm k.perm
def iKG (x : V) (H1 : Hp) (R : It → Hp → Prop) : Prop := ∃ d o, x = .ref d ∧ ((∃ kvs, H1 d = some (.frz o (.dK kvs)) ∧ R (Itk d o kvs) H1) ∨ ∃ kvs, H1 d = some (.frz o (.dT kvs)) ∧ R (Itkt d o kvs) H1)
theorem x_keys {σ : L2.St} {H1 : Hp} {td : TE} {R : It → Hp → Prop} (q : td σ H1 fun x H2 => iKG x H2 R) : iKeys td σ H1 R := q
instance {σ : L2.St} {H1 : Hp} {td : TE} {R : It → Hp → Prop} : Step (iKeys td σ H1 R) (td σ H1 fun x H2 => iKG x H2 R) := ⟨x_keys⟩ -- st
/-! ### a loop over a dict of numbers -/
variable {σ : L2.St} {g : TG} {tbody : TS} {nx bk ct : L2.St → Hp → Prop} {rt : VK} {td : TE} {kvs : List (Key × V)}
end
end R
namespace R
open PySem PySem.Spec PyProof.Rows L2
/-! ### xs.insert(i, y) -/
end R
namespace R
open PySem PySem.Spec PyProof.Rows L2
/-! ### what is spoilt -/
def rdL (m : Mv) : List Nat := (List.range (m.hi - m.lo)).map (m.lo + ·)
theorem dpa_nums {K : PySem.W.Frag} {F : Hp} : ∀ fs : List Nat, DpAll K F (fs.map fun (c : Nat) => V.int (c : Nat)) (fs.map fun (c : Nat) => PyData.int (c : Nat))
  | [] => .nil
  | _ :: fs => .cons (.int _) (dpa_nums fs)
theorem nums_good {fs : List Nat} (h : fs.length ≤ 100000) : good (.list (fs.map fun (c : Nat) => PyData.int (c : Nat))) = true ∧ (PyData.list (fs.map fun (c : Nat) => PyData.int (c : Nat))).depth ≤ 1 := by
  constructor
  · refine good_list (by rw [List.length_map]; exact h) fun d hd => ?_
    obtain ⟨c, hc, rfl⟩ := List.mem_map.mp hd
    rfl
  · refine depth_list fun d hd => ?_
    obtain ⟨c, hc, rfl⟩ := List.mem_map.mp hd
    exact Nat.le_refl _
section
variable {K : PySem.W.Frag} {H : Hp} {Q : VK} {p r : Addr} {fs : List Nat}
theorem n_neI (h1 : SqL K H p (fs.map fun (c : Nat) => V.int (c : Nat))) (h2 : SqL K H r []) (l : fs.length ≤ 400) (q : Q (.bl (!decide (fs = []))) H) : rNeD K (.ref p) (.ref r) H Q := by
  have g := nums_good (fs := fs) (by omega)
  refine ⟨_, _, .lst h1 (dpa_nums fs), .lst h2 .nil, good_shaped g.1 (Nat.le_trans g.2 (by decide)), good_shaped rfl (by decide), ?_⟩
  cases fs <;> exact q
end
theorem map_at {α : Type} {f : α → V} {l : List α} {i : Nat} {x : V} (h : (l.map f)[i]? = some x) : ∃ y, l[i]? = some y ∧ x = f y := by
  rw [List.getElem?_map] at h
  cases e : l[i]? with
  | none => rw [e] at h; cases h
  | some y => rw [e] at h; exact ⟨y, rfl, (Option.some.inj h).symm⟩
theorem ixNat {n i : Nat} (h : i < n) : ixN n (i : Int) = some i := by
  unfold ixN
  rw [if_pos (by omega), if_pos (by omega)]
  simp
theorem dpa_numsI {K : PySem.W.Frag} {F : Hp} : ∀ {ks : List Nat} {us : List V}, DpAll K F us (ks.map fun (k : Nat) => PyData.int (k : Nat)) → us = ks.map fun (k : Nat) => V.int (k : Nat)
  | [], _, h => by cases h; rfl
  | k :: ks, _, .cons h t => by
    cases h
    rw [dpa_numsI t]
    rfl
theorem lastS {α : Type} {xs : List α} {v : α} (h : xs[xs.length - 1]? = some v) : atI xs (-1) = some v := by
  have hl := (List.getElem?_eq_some_iff.mp h).1
  unfold atI ixN
  rw [if_neg (by decide)]
  first
    | (rw [if_pos (by omega)]; show xs[(((xs.length : Nat) : Int) + -1).toNat]? = some v; rw [show (((xs.length : Nat) : Int) + -1).toNat = xs.length - 1 by omega]; exact h)
    | (rw [if_pos (by omega)]; show xs[((-1 : Int) + ((xs.length : Nat) : Int)).toNat]? = some v; rw [show ((-1 : Int) + ((xs.length : Nat) : Int)).toNat = xs.length - 1 by omega]; exact h)
/-! ### promises -/
end R
namespace R
open PySem PySem.Spec PyProof.Rows L2
/-! ### moves done: cell by cell -/
/-! ### lists that are not alike -/
theorem x_chn {σ : L2.St} {H : Hp} {Q : VK} {ta tb tc : TE} {r1 r2 : R2} (q : ta σ H fun x H1 => tb σ H1 fun y H2 => r1 x y H2 fun z H3 => asBl z H3 fun k H3 => if k = true then tc σ H3 fun w H4 => r2 y w H4 Q else Q (.bl false) H3) : tChain r1 r2 ta tb tc σ H Q := q
instance {σ : L2.St} {H : Hp} {Q : VK} {ta tb tc : TE} {r1 r2 : R2} : Step (tChain r1 r2 ta tb tc σ H Q) (ta σ H fun x H1 => tb σ H1 fun y H2 => r1 x y H2 fun z H3 => asBl z H3 fun k H3 => if k = true then tc σ H3 fun w H4 => r2 y w H4 Q else Q (.bl false) H3) := ⟨x_chn⟩ -- st
/-! ### the text -/
def roomL (n c g : Nat) : List Nat := (List.range n).map fun i => if i = c then g else 97
/-- a room that tells -/
structure RoomT (ms : List Mv) (n k c g : Nat) (T : Str) : Prop where
  gg : g = 98 ∨ g = 99
  t : chars T = (roomL n c g).map fun x => V.str ⟨#[x]⟩
  p : ∀ (j to : Nat) (s : Str), j < k → ms[j]? = some (.put to s) → to ≤ c → c < to + s.length → sgn s (c - to) ≠ V.str ⟨#[g]⟩
theorem RoomT.len {ms : List Mv} {n k c g : Nat} {T : Str} (h : RoomT ms n k c g T) : T.length = n := by
  rw [← chars_len, h.t, List.length_map]
  unfold roomL
  rw [List.length_map, List.length_range]
theorem RoomT.ok {ms : List Mv} {n k c g : Nat} {T : Str} (h : RoomT ms n k c g T) : okS T := by
  have e : T.cps.toList = roomL n c g := by
    have := h.t
    unfold chars at this
    have inj : ∀ l1 l2 : List Nat, (l1.map fun c => V.str ⟨#[c]⟩) = (l2.map fun c => V.str ⟨#[c]⟩) → l1 = l2 := by
      intro l1
      induction l1 with
      | nil =>
        intro l2 e
        cases l2 with
        | nil => rfl
        | cons _ _ => cases e
      | cons a l1 ih =>
        intro l2 e
        cases l2 with
        | nil => cases e
        | cons b l2 =>
          obtain ⟨e1, e2⟩ := List.cons.inj e
          cases e1
          rw [ih l2 e2]
    exact inj _ _ this
  show T.cps.all (· < 0x110000) = true
  rw [← Array.all_toList, e, List.all_eq_true]
  intro x hx
  obtain ⟨i, _, rfl⟩ := List.mem_map.mp hx
  rw [decide_eq_true_eq]
  have := h.gg
  split <;> omega
theorem RoomT.at {ms : List Mv} {n k c g i : Nat} {T : Str} (h : RoomT ms n k c g T) (hi : i < n) : (chars T)[i]? = some (V.str ⟨#[if i = c then g else 97]⟩) := by
  rw [h.t]
  unfold roomL
  rw [List.map_map, List.getElem?_map, List.getElem?_range hi]
  rfl
/-! ### promises -/
end R
namespace R
open PySem PySem.Spec PyProof.Rows L2
/-! ### who writes a cell, who goes ahead of whom -/
def wri (ms : List Mv) : Nat → Nat → Option Nat
  | 0, _ => none
  | i + 1, c => match ms[i]? with
    | none => wri ms i c
    | some m => if decide (m.to ≤ c) && decide (c < m.to + m.len) then some i else wri ms i c
def wrt (ms : List Mv) (c : Nat) : Option Nat := wri ms ms.length c
theorem wr_lt {ms : List Mv} {c b : Nat} : ∀ {i : Nat}, wri ms i c = some b → b < i
  | 0, h => by cases h
  | i + 1, h => by
    unfold wri at h
    cases hm : ms[i]? with
    | none => rw [hm] at h; have := wr_lt (i := i) h; omega
    | some m =>
      rw [hm] at h
      simp only at h
      split at h
      · cases h; omega
      · have := wr_lt (i := i) h; omega
def hit (ms : List Mv) (a b : Nat) (cs : List Nat) : Bool := !decide (a = b) && cs.any fun c => decide (wrt ms c = some b)
def ed (ms : List Mv) (a b : Nat) : Bool := match ms[a]? with
  | none => false
  | some m => hit ms a b (rdL m)
theorem ed_at {ms : List Mv} {a b : Nat} {m : Mv} (h : ms[a]? = some m) : ed ms a b = hit ms a b (rdL m) := by
  unfold ed
  rw [h]
theorem ed_ne {ms : List Mv} {a b : Nat} (h : ed ms a b = true) : a ≠ b ∧ a < ms.length ∧ b < ms.length := by
  unfold ed at h
  cases hm : ms[a]? with
  | none => rw [hm] at h; cases h
  | some m =>
    rw [hm] at h
    replace h : hit ms a b (rdL m) = true := h
    unfold hit at h
    rw [Bool.and_eq_true] at h
    obtain ⟨h1, h2⟩ := h
    obtain ⟨c, _, hc⟩ := List.any_eq_true.mp h2
    refine ⟨by simpa using h1, (List.getElem?_eq_some_iff.mp hm).1, ?_⟩
    exact wr_lt (of_decide_eq_true hc)
theorem hit_snoc (ms : List Mv) (a b c : Nat) (cs : List Nat) : hit ms a b (cs ++ [c]) = (hit ms a b cs || (!decide (a = b) && decide (wrt ms c = some b))) := by
  unfold hit
  rw [List.any_append]
  cases decide (a = b) <;> simp
def ahT (ms : List Mv) (a b : Nat) : List Nat := (List.range a).filter fun x => ed ms x b
def ah (ms : List Mv) (b : Nat) : List Nat := ahT ms ms.length b
theorem ahT_next (ms : List Mv) (a b : Nat) : ahT ms (a + 1) b = ahT ms a b ++ if ed ms a b then [a] else [] := by
  unfold ahT
  rw [List.range_succ, List.filter_append]
  congr 1
  cases e : ed ms a b <;> simp [e]
theorem ah_mem {ms : List Mv} {a b : Nat} : a ∈ ah ms b ↔ ed ms a b = true := by
  unfold ah ahT
  rw [List.mem_filter, List.mem_range]
  exact ⟨fun h => h.2, fun h => ⟨(ed_ne h).2.1, h⟩⟩
/-! ### the order -/
def cnt (ms : List Mv) (o : List Nat) (b : Nat) : Nat := ((ah ms b).filter fun a => !decide (a ∈ o)).length
def freeL (ms : List Mv) (o : List Nat) : List Nat := (List.range ms.length).filter fun b => !decide (b ∈ o) && decide (cnt ms o b = 0)
def oF (ms : List Mv) : Nat → Option (List Nat)
  | 0 => some []
  | k + 1 => match oF ms k with
    | none => none
    | some o => match freeL ms o with
      | [] => none
      | f :: _ => some (o ++ [f])
theorem oF_next {ms : List Mv} {o r : List Nat} {k f : Nat} (h : oF ms k = some o) (hf : freeL ms o = f :: r) : oF ms (k + 1) = some (o ++ [f]) := by
  unfold oF
  rw [h]
  simp only [hf]
theorem free_mem {ms : List Mv} {o : List Nat} {f : Nat} (h : f ∈ freeL ms o) : f < ms.length ∧ f ∉ o ∧ cnt ms o f = 0 := by
  unfold freeL at h
  rw [List.mem_filter, List.mem_range, Bool.and_eq_true, decide_eq_true_eq] at h
  exact ⟨h.1, by simpa using h.2.1, h.2.2⟩
/-- an order made so far -/
structure OkO (ms : List Mv) (o : List Nat) (k : Nat) : Prop where
  f : oF ms k = some o
  l : o.length = k
  n : o.Nodup
  b : ∀ x ∈ o, x < ms.length
theorem OkO.next {ms : List Mv} {o r : List Nat} {k f : Nat} (h : OkO ms o k) (hf : freeL ms o = f :: r) : OkO ms (o ++ [f]) (k + 1) := by
  have hm := free_mem (ms := ms) (o := o) (f := f) (by rw [hf]; exact List.mem_cons_self ..)
  refine ⟨oF_next h.f hf, by rw [List.length_append, h.l]; rfl, ?_, fun x hx => ?_⟩
  · rw [List.nodup_append]
    refine ⟨h.n, List.nodup_cons.mpr ⟨(fun z => nomatch z), List.nodup_nil⟩, fun a ha b hb e => ?_⟩
    rw [List.mem_singleton.mp hb] at e
    exact hm.2.1 (e ▸ ha)
  · rcases List.mem_append.mp hx with hx | hx
    · exact h.b x hx
    · rw [List.mem_singleton.mp hx]; exact hm.1
/-- the waiting list -/
structure WtOk (ms : List Mv) (o : List Nat) (wt : List Int) : Prop where
  l : wt.length = ms.length
  d : ∀ (b : Nat) (z : Int), b ∈ o → wt[b]? = some z → z < 0
  u : ∀ b : Nat, b ∉ o → b < ms.length → wt[b]? = some ((cnt ms o b : Nat) : Int)
theorem cnt_snoc (ms : List Mv) {o : List Nat} {f : Nat} (hf : f ∉ o) (b : Nat) : (cnt ms o b : Int) = (cnt ms (o ++ [f]) b : Int) + if ed ms f b then 1 else 0 := by
  unfold cnt
  have key : ∀ l : List Nat, l.Nodup → ((l.filter fun a => !decide (a ∈ o)).length : Int) = ((l.filter fun a => !decide (a ∈ o ++ [f])).length : Int) + if f ∈ l then 1 else 0 := by
    intro l
    induction l with
    | nil => intro _; rfl
    | cons x l ih =>
      intro hn
      obtain ⟨h1, h2⟩ := List.nodup_cons.mp hn
      have ih := ih h2
      by_cases e : x = f
      · subst e
        rw [List.filter_cons_of_pos (by simpa using hf), List.filter_cons_of_neg (by simp), if_pos (List.mem_cons_self ..), List.length_cons]
        rw [if_neg h1] at ih
        omega
      · have e2 : (f ∈ x :: l) ↔ f ∈ l := by
          rw [List.mem_cons]
          exact ⟨fun h => h.resolve_left (Ne.symm e), .inr⟩
        simp only [e2]
        by_cases ex : x ∈ o
        · rw [List.filter_cons_of_neg (by simpa using ex), List.filter_cons_of_neg (by simp [ex])]
          exact ih
        · rw [List.filter_cons_of_pos (by simpa using ex), List.filter_cons_of_pos (by simp [ex, e]), List.length_cons, List.length_cons]
          omega
  have hn : (ah ms b).Nodup := List.Nodup.sublist List.filter_sublist List.nodup_range
  rw [key _ hn]
  simp only [ah_mem]
/-- the one made free goes behind -/
theorem WtOk.next {ms : List Mv} {o : List Nat} {wt wt2 : List Int} {f : Nat} (h : WtOk ms o wt) (hf : f ∉ o) (hl : wt2.length = ms.length)
    (h2 : ∀ (b : Nat) (z : Int), b < ms.length → (wt.set f (-1))[b]? = some z → wt2[b]? = some (z - if ed ms f b then 1 else 0)) : WtOk ms (o ++ [f]) wt2 := by
  refine ⟨hl, fun b z hb hz => ?_, fun b hb hbn => ?_⟩
  · have hbn : b < ms.length := by
      have := (List.getElem?_eq_some_iff.mp hz).1
      omega
    obtain ⟨z0, hz0⟩ : ∃ z0, (wt.set f (-1))[b]? = some z0 := ⟨_, List.getElem?_eq_getElem (by rw [List.length_set, h.l]; exact hbn)⟩
    have e := h2 b z0 hbn hz0
    rw [hz] at e
    cases e
    have hz1 : z0 < 0 := by
      rw [List.getElem?_set] at hz0
      by_cases ef : f = b
      · rw [if_pos ef, if_pos (by rw [h.l, ef]; exact hbn)] at hz0
        cases hz0
        decide
      · rw [if_neg ef] at hz0
        rcases List.mem_append.mp hb with hb | hb
        · exact h.d b z0 hb hz0
        · exact absurd (List.mem_singleton.mp hb).symm ef
    split <;> omega
  · have hb1 : b ∉ o := fun z => hb (List.mem_append_left _ z)
    have hb2 : f ≠ b := fun e => hb (List.mem_append_right _ (by rw [e]; exact List.mem_singleton.mpr rfl))
    have h3 := h.u b hb1 hbn
    rw [h2 b (cnt ms o b : Nat) hbn (by rw [List.getElem?_set_ne hb2]; exact h3), cnt_snoc ms hf b]
    congr 1
    omega
/-! ### rings -/
structure RingOk (ms : List Mv) (rs : List Nat) : Prop where
  l : 2 ≤ rs.length
  n : rs.Nodup
  b : ∀ x ∈ rs, x < ms.length
  e : ∀ (k : Nat) (x y : Nat), rs[k]? = some x → rs[(k + rs.length - 1) % rs.length]? = some y → ed ms y x = true
/-- a path ahead -/
structure PathOk (ms : List Mv) (o ps : List Nat) : Prop where
  n : ps.Nodup
  b : ∀ x ∈ ps, x < ms.length ∧ x ∉ o
  e : ∀ (k : Nat) (x y : Nat), ps[k]? = some x → ps[k + 1]? = some y → ed ms y x = true
theorem PathOk.next {ms : List Mv} {o ps : List Nat} {a l : Nat} (h : PathOk ms o ps) (hl : ps[ps.length - 1]? = some l) (hp : 1 ≤ ps.length) (he : ed ms a l = true) (ha : a ∉ o) (hn : a ∉ ps) : PathOk ms o (ps ++ [a]) := by
  refine ⟨?_, fun x hx => ?_, fun k x y hx hy => ?_⟩
  · rw [List.nodup_append]
    refine ⟨h.n, List.nodup_cons.mpr ⟨(fun z => nomatch z), List.nodup_nil⟩, fun x hx y hy e => ?_⟩
    rw [List.mem_singleton.mp hy] at e
    exact hn (e ▸ hx)
  · rcases List.mem_append.mp hx with hx | hx
    · exact h.b x hx
    · rw [List.mem_singleton.mp hx]; exact ⟨(ed_ne he).2.1, ha⟩
  · by_cases hk : k + 1 < ps.length
    · rw [List.getElem?_append_left (by omega)] at hx
      rw [List.getElem?_append_left hk] at hy
      exact h.e k x y hx hy
    · have hlt := (List.getElem?_eq_some_iff.mp hy).1
      rw [List.length_append] at hlt
      have hk2 : k + 1 = ps.length := by
        have : k + 1 < ps.length + 1 := hlt
        omega
      rw [List.getElem?_append_left (by omega)] at hx
      rw [List.getElem?_append_right (by omega), hk2, Nat.sub_self] at hy
      cases hy
      rw [show k = ps.length - 1 by omega, hl] at hx
      cases hx
      exact he
theorem PathOk.ring {ms : List Mv} {o ps : List Nat} {a l i : Nat} (h : PathOk ms o ps) (hl : ps[ps.length - 1]? = some l) (he : ed ms a l = true) (hi : ps[i]? = some a) : RingOk ms (ps.drop i).reverse := by
  have hil := (List.getElem?_eq_some_iff.mp hi).1
  have hlen : (ps.drop i).reverse.length = ps.length - i := by rw [List.length_reverse, List.length_drop]
  have hat : ∀ k, k < ps.length - i → (ps.drop i).reverse[k]? = ps[ps.length - 1 - k]? := fun k hk => by
    rw [List.getElem?_reverse (by rw [List.length_drop]; exact hk), List.getElem?_drop, List.length_drop]
    congr 1
    omega
  have h2 : 2 ≤ ps.length - i := by
    refine Classical.byContradiction fun z => ?_
    have : i = ps.length - 1 := by omega
    rw [this, hl] at hi
    cases hi
    exact (ed_ne he).1 rfl
  refine ⟨by omega, (List.reverse_perm _).nodup_iff.mpr (h.n.sublist (List.drop_sublist _ _)), fun x hx => (h.b x (List.mem_of_mem_drop (List.mem_reverse.mp hx))).1, fun k x y hx hy => ?_⟩
  have hk := (List.getElem?_eq_some_iff.mp hx).1
  rw [hlen] at hk hy
  rw [hat k hk] at hx
  by_cases e : k = 0
  · subst e
    rw [show (0 + (ps.length - i) - 1) % (ps.length - i) = ps.length - i - 1 by rw [Nat.mod_eq_of_lt (by omega)]; omega, hat _ (by omega), show ps.length - 1 - (ps.length - i - 1) = i by omega, hi] at hy
    cases hy
    rw [Nat.sub_zero, hl] at hx
    cases hx
    exact he
  · rw [show (k + (ps.length - i) - 1) % (ps.length - i) = k - 1 by rw [show k + (ps.length - i) - 1 = (k - 1) + (ps.length - i) by omega, Nat.add_mod_right, Nat.mod_eq_of_lt (by omega)], hat _ (by omega)] at hy
    exact h.e (ps.length - 1 - k) x y hx (by rw [← hy]; congr 1; omega)
/-! ### values -/
theorem inV_nums (c : Nat) (ks : List Nat) : inV (.int (c : Nat)) (ks.map fun (k : Nat) => V.int (k : Nat)) = decide (c ∈ ks) := by
  unfold inV
  rw [Bool.eq_iff_iff, List.any_eq_true, decide_eq_true_eq]
  constructor
  · rintro ⟨v, hv, he⟩
    obtain ⟨k, hk, rfl⟩ := List.mem_map.mp hv
    have : (k : Int) = (c : Int) := of_decide_eq_true he
    have : k = c := by omega
    exact this ▸ hk
  · intro h
    exact ⟨_, List.mem_map.mpr ⟨c, h, rfl⟩, decide_eq_true (rfl : (c : Int) = c)⟩
theorem nums_flat (ks : List Nat) : (ks.map fun (k : Nat) => V.int (k : Nat)).all flatV = true := by
  rw [List.all_eq_true]
  intro v hv
  obtain ⟨k, _, rfl⟩ := List.mem_map.mp hv
  rfl
section
variable {K : PySem.W.Frag} {H : Hp} {Q : VK} {a p r : Addr} {c : Nat} {ks ls : List Nat}
theorem n_inN (hs : SqL K H a (ks.map fun (k : Nat) => V.int (k : Nat))) (q : Q (.bl (decide (c ∈ ks))) H) : rIn K false (.int (c : Nat)) (.ref a) H Q := ⟨a, _, rfl, .inl hs, rfl, nums_flat ks, by
  show Q (.bl (inV _ _)) H
  rw [inV_nums]
  exact q⟩
theorem eqv_nums : ∀ ks ls : List Nat, PyData.eqvAll (ks.map fun (c : Nat) => PyData.int (c : Nat)) (ls.map fun (c : Nat) => PyData.int (c : Nat)) = decide (ks = ls)
  | [], [] => rfl
  | [], _ :: _ => rfl
  | _ :: _, [] => rfl
  | a :: ks, b :: ls => by
    show (((a : Nat) : Int) == ((b : Nat) : Int) && PyData.eqvAll _ _) = _
    rw [eqv_nums ks ls, Bool.eq_iff_iff, Bool.and_eq_true, beq_iff_eq, decide_eq_true_eq, decide_eq_true_eq, List.cons.injEq]
    constructor
    · rintro ⟨h1, h2⟩
      exact ⟨by omega, h2⟩
    · rintro ⟨h1, h2⟩
      exact ⟨by omega, h2⟩
theorem n_neN (h1 : SqL K H p (ks.map fun (c : Nat) => V.int (c : Nat))) (h2 : SqL K H r (ls.map fun (c : Nat) => V.int (c : Nat))) (l1 : ks.length ≤ 100000) (l2 : ls.length ≤ 100000) (q : Q (.bl (!decide (ks = ls))) H) : rNeD K (.ref p) (.ref r) H Q := by
  have g1 := nums_good l1
  have g2 := nums_good l2
  refine ⟨_, _, .lst h1 (dpa_nums ks), .lst h2 (dpa_nums ls), good_shaped g1.1 (Nat.le_trans g1.2 (by decide)), good_shaped g2.1 (Nat.le_trans g2.2 (by decide)), ?_⟩
  show Q (.bl (!PyData.eqvAll _ _)) H
  rw [eqv_nums]
  exact q
end
/-! ### o[i] -= 1 -/
section
variable {X : Cx} {K : PySem.W.Frag}
theorem pgL (h : X.K = K := by rfl) : PGet X (rIxL K) := by
  subst h
  intro pins s σ H x y v u Q I rx ry h
  obtain ⟨p, xs, i, z, rfl, rfl, hq, he, q⟩ := h
  cases rx
  obtain ⟨t, rfl⟩ := ry
  obtain ⟨its, r, pl, hz⟩ := I.list hq
  obtain ⟨j, h1, h2, h3, h4, h5⟩ := atI_get he
  obtain ⟨w, ew, rw'⟩ := r.get h2
  have hl := r.length
  have hn := line63
  have fin : EP X pins σ Q w s := ⟨z, H, I, rw', q⟩
  by_cases h0 : 0 ≤ i
  · have hj : i.toNat = j := by
      rw [seqIndex_of h0 h5] at h1
      exact Option.some.inj h1
    exact wpAny_getItem_list pl.isList h0 (by omega) (by rw [hj]; simpa using ew) fin
  · have hj : (i + (its.toArray.size : Int)).toNat = j := by
      rw [seqIndex_neg (by omega) h4] at h1
      rw [List.size_toArray, ← hl]
      exact Option.some.inj h1
    exact wpAny_getItem_list_neg pl.isList (by omega) (by rw [List.size_toArray] <;> omega) (by omega) (by rw [hj]; simpa using ew) fin
theorem x_augS {to ti te : TE} {tget : V → V → Hp → VK → Prop} {tip : TIp} {tset : TSet} {D : Ends} {σ : L2.St} {H : Hp} (q : to σ H fun o H1 => ti σ H1 fun i H2 => tget o i H2 fun x H3 => te σ H3 fun y H4 => tip x y H4 fun z H5 => tset o i z H5 fun H6 => D.nx σ H6) : tAugS to ti te tget tip tset D σ H := q
instance {to ti te : TE} {tget : V → V → Hp → VK → Prop} {tip : TIp} {tset : TSet} {D : Ends} {σ : L2.St} {H : Hp} : Step (tAugS to ti te tget tip tset D σ H) (to σ H fun o H1 => ti σ H1 fun i H2 => tget o i H2 fun x H3 => te σ H3 fun y H4 => tip x y H4 fun z H5 => tset o i z H5 fun H6 => D.nx σ H6) := ⟨x_augS⟩ -- st
end
/-! ### many frozen lists -/
theorem W.tail {M : List Addr} {F0 H0 F H : Hp} {L : List Own} {x : Own} (w : W M F0 H0 F H (x :: L)) : W M F0 H0 F H L :=
  ⟨w.g, fun q hq => w.i q (List.mem_cons_of_mem _ hq), (List.nodup_append.mp (show (x.as ++ ads L).Nodup from w.d)).2.1, fun a ha => w.o a (List.mem_append_right x.as ha)⟩
theorem x_dget2 {td ty tx : TE} {σ : L2.St} {H : Hp} {Q : VK} (q : td σ H fun x H1 => ∃ a, x = .ref a ∧ IsD H1 a ∧ ty σ H1 fun y H2 => tx σ H2 fun z H3 => ∃ o, DGet H3 a y o ∧ Q (o.getD z) H3) : tDGet2 td ty tx σ H Q := q
instance {td ty tx : TE} {σ : L2.St} {H : Hp} {Q : VK} : Step (tDGet2 td ty tx σ H Q) (td σ H fun x H1 => ∃ a, x = .ref a ∧ IsD H1 a ∧ ty σ H1 fun y H2 => tx σ H2 fun z H3 => ∃ o, DGet H3 a y o ∧ Q (o.getD z) H3) := ⟨x_dget2⟩ -- st
abbrev lstN (r : List Nat) : HO := .lst (r.map fun (k : Nat) => V.int (k : Nat))
theorem filtN_yes {l : List Nat} {x : Nat} {p : Nat → Bool} (h : p x = true) : (l.filter p).map (fun (k : Nat) => V.int (k : Nat)) ++ [V.int (x : Nat)] = ((l ++ [x]).filter p).map fun (k : Nat) => V.int (k : Nat) := by
  rw [List.filter_append, List.filter_cons_of_pos h, List.map_append]
  rfl
theorem filtN_no {l : List Nat} {x : Nat} {p : Nat → Bool} (h : p x = false) : (l.filter p).map (fun (k : Nat) => V.int (k : Nat)) = ((l ++ [x]).filter p).map fun (k : Nat) => V.int (k : Nat) := by
  rw [List.filter_append, List.filter_cons_of_neg (by rw [h]; decide), List.filter_nil, List.append_nil]
def pickL (ms : List Mv) (o : List Nat) : List Mv := o.filterMap fun k => ms[k]?
/-! ### promises -/
structure RowsA (ms : List Mv) (a : Nat) (cs : List Nat) (rows : List (List Nat)) : Prop where
  l : rows.length = ms.length
  r : ∀ b, b < ms.length → rows[b]? = some (ahT ms a b ++ if hit ms a b cs then [a] else [])
def OrdRes (K : PySem.W.Frag) (ms : List Mv) (wd : Str) (us : List V) (F : Hp) : Prop := (wd = Str.ofString "order" ∧ ∃ o, oF ms ms.length = some o ∧ DpAll K F us ((pickL ms o).map Mv.d)) ∨ (wd = Str.ofString "ring" ∧ oF ms ms.length = none ∧ ∃ rs : List Nat, us = (rs.map fun (k : Nat) => V.int (k : Nat)) ∧ RingOk ms rs)
structure EdD (ms : List Mv) (a : Nat) (kvs : List (Key × V)) (ks : List Nat) : Prop where
  k : kvs.map (·.1) = ks.map fun (b : Nat) => (.inl (b : Int) : Key)
  n : ks.Nodup
  e : ∀ b, b ∈ ks ↔ ed ms a b = true
theorem hit_nil (ms : List Mv) (a b : Nat) : hit ms a b [] = false := by unfold hit; rw [List.any_nil, Bool.and_false]
theorem RowsA.turn {ms : List Mv} {i : Nat} {m : Mv} {rows : List (List Nat)} (hm : ms[i]? = some m) (h : RowsA ms i (rdL m) rows) : RowsA ms (i + 1) [] rows := ⟨h.l, fun b hb => by
  rw [h.r b hb, ahT_next, ed_at hm, hit_nil, if_neg (show ¬ false = true by decide), List.append_nil]⟩
theorem RowsA.stay {ms : List Mv} {i : Nat} {cs cs2 : List Nat} {rows : List (List Nat)} (h : RowsA ms i cs rows) (hh : ∀ b, b < ms.length → hit ms i b cs2 = hit ms i b cs) : RowsA ms i cs2 rows := ⟨h.l, fun b hb => by rw [hh b hb]; exact h.r b hb⟩
theorem RowsA.add {ms : List Mv} {i b c : Nat} {cs : List Nat} {rows : List (List Nat)} (h : RowsA ms i cs rows) (hw : wrt ms c = some b) (hne : i ≠ b) : RowsA ms i (cs ++ [c]) (rows.set b (ahT ms i b ++ [i])) := ⟨by rw [List.length_set]; exact h.l, fun b2 hb2 => by
  rw [List.getElem?_set, hit_snoc]
  by_cases e : b = b2
  · rw [if_pos e, if_pos (by rw [h.l, e]; exact hb2), ← e, hw]
    have e2 : (!decide (i = b) && decide (some b = some b)) = true := by
      rw [decide_eq_false hne, decide_eq_true rfl]
      rfl
    rw [e2, Bool.or_true, if_pos rfl]
  · rw [if_neg e, hw]
    have e2 : decide (some b = some b2) = false := decide_eq_false (fun z => e (Option.some.inj z))
    rw [e2, Bool.and_false, Bool.or_false]
    exact h.r b2 hb2⟩
structure EdS (ms : List Mv) (i : Nat) (cs : List Nat) (kvs : List (Key × V)) (ks : List Nat) : Prop where
  k : kvs.map (·.1) = ks.map fun (b : Nat) => (.inl (b : Int) : Key)
  n : ks.Nodup
  e : ∀ b, b ∈ ks ↔ hit ms i b cs = true
theorem EdS.len {ms : List Mv} {i : Nat} {cs : List Nat} {kvs : List (Key × V)} {ks : List Nat} (h : EdS ms i cs kvs ks) : kvs.length ≤ ms.length := by
  have h1 : kvs.length = ks.length := by
    have := congrArg List.length h.k
    rwa [List.length_map, List.length_map] at this
  rw [h1]
  refine nodup_lt _ _ h.n fun b hb => ?_
  have := (h.e b).mp hb
  unfold hit at this
  rw [Bool.and_eq_true] at this
  obtain ⟨c, _, hc⟩ := List.any_eq_true.mp this.2
  exact wr_lt (of_decide_eq_true hc)
theorem EdS.stay {ms : List Mv} {i : Nat} {cs cs2 : List Nat} {kvs : List (Key × V)} {ks : List Nat} (h : EdS ms i cs kvs ks) (hh : ∀ b, hit ms i b cs2 = hit ms i b cs) : EdS ms i cs2 kvs ks := ⟨h.k, h.n, fun b => by rw [hh b]; exact h.e b⟩
theorem put_any {kvs : List (Key × V)} {ks : List Nat} (hk : kvs.map (·.1) = ks.map fun (b : Nat) => (.inl (b : Int) : Key)) (b : Nat) : (kvs.any fun kv => decide (kv.1 = .inl (b : Int))) = decide (b ∈ ks) := by
  rw [Bool.eq_iff_iff, List.any_eq_true, decide_eq_true_eq]
  constructor
  · rintro ⟨kv, h1, h2⟩
    have h3 : kv.1 ∈ kvs.map (·.1) := List.mem_map.mpr ⟨kv, h1, rfl⟩
    rw [hk, of_decide_eq_true h2] at h3
    obtain ⟨b2, h4, h5⟩ := List.mem_map.mp h3
    have : b2 = b := by have := Sum.inl.inj h5; omega
    exact this ▸ h4
  · intro h
    have h3 : (.inl (b : Int) : Key) ∈ kvs.map (·.1) := by rw [hk]; exact List.mem_map.mpr ⟨b, h, rfl⟩
    obtain ⟨kv, h4, h5⟩ := List.mem_map.mp h3
    exact ⟨kv, h4, decide_eq_true h5⟩
theorem EdS.put {ms : List Mv} {i b c : Nat} {cs : List Nat} {kvs : List (Key × V)} {ks : List Nat} {v : V} (h : EdS ms i cs kvs ks) (hw : wrt ms c = some b) (hne : i ≠ b) : ∃ ks2, EdS ms i (cs ++ [c]) (putK kvs (.inl (b : Int)) v) ks2 := by
  have hh : ∀ b2, hit ms i b2 (cs ++ [c]) = true ↔ hit ms i b2 cs = true ∨ b2 = b := fun b2 => by
    rw [hit_snoc, hw, Bool.or_eq_true]
    by_cases e : b = b2
    · subst e
      simp [hne]
    · rw [show decide (some b = some b2) = false from decide_eq_false fun z => e (Option.some.inj z), Bool.and_false]
      simp [Ne.symm e]
  unfold putK
  rw [put_any h.k]
  by_cases e : b ∈ ks
  · rw [decide_eq_true e, if_pos rfl]
    refine ⟨ks, ?_, h.n, fun b2 => ?_⟩
    · rw [← h.k, List.map_map]
      refine List.map_congr_left fun kv _ => ?_
      show (if kv.1 = _ then _ else kv).1 = kv.1
      split
      · rfl
      · rfl
    · rw [hh, h.e b2]
      exact ⟨.inl, fun z => z.elim id fun z => by rw [z]; exact (h.e b).mp e⟩
  · rw [decide_eq_false e, if_neg (by decide)]
    refine ⟨ks ++ [b], ?_, ?_, fun b2 => ?_⟩
    · rw [List.map_append, List.map_append, h.k]
      rfl
    · rw [List.nodup_append]
      refine ⟨h.n, List.nodup_cons.mpr ⟨(fun z => nomatch z), List.nodup_nil⟩, fun x hx y hy e2 => ?_⟩
      rw [List.mem_singleton.mp hy] at e2
      exact e (e2 ▸ hx)
    · rw [hh, List.mem_append, h.e b2, List.mem_singleton]
theorem EdS.done {ms : List Mv} {i : Nat} {m : Mv} {kvs : List (Key × V)} {ks : List Nat} (hm : ms[i]? = some m) (h : EdS ms i (rdL m) kvs ks) : EdD ms i kvs ks := ⟨h.k, h.n, fun b => by rw [h.e b, ed_at hm]⟩
/-- counting -/
theorem EdD.at {ms : List Mv} {a j : Nat} {kvs : List (Key × V)} {ks : List Nat} {ke : Key} {v : V} (h : EdD ms a kvs ks) (hk : kvs[j]? = some (ke, v)) : ∃ b : Nat, ke = .inl (b : Int) ∧ ks[j]? = some b := by
  have : (kvs.map (·.1))[j]? = some ke := by rw [List.getElem?_map, hk]; rfl
  rw [h.k, List.getElem?_map] at this
  cases e : ks[j]? with
  | none => rw [e] at this; cases this
  | some b => rw [e] at this; cases this; exact ⟨b, rfl, rfl⟩
theorem EdD.len {ms : List Mv} {a : Nat} {kvs : List (Key × V)} {ks : List Nat} (h : EdD ms a kvs ks) : kvs.length = ks.length := by
  have := congrArg List.length h.k
  rwa [List.length_map, List.length_map] at this
theorem EdD.lt {ms : List Mv} {a b : Nat} {kvs : List (Key × V)} {ks : List Nat} (h : EdD ms a kvs ks) (hb : b ∈ ks) : b < ms.length := (ed_ne ((h.e b).mp hb)).2.2
/-! ### the judge of a ring -/
def gLenSetI (K : PySem.W.Frag) (x : V) (H : Hp) (Q : VK) : Prop := ∃ (l : Addr) (ns : List Int), x = .ref l ∧ SqL K H l (ns.map V.int) ∧ ns.Nodup ∧ ns.length ≤ 4000 ∧ Q (.int (ns.length : Nat)) H
theorem x_lenSetI {K : PySem.W.Frag} {ta : TE} {σ : L2.St} {H : Hp} {Q : VK} (q : ta σ H fun x H1 => gLenSetI K x H1 Q) : RZ.tLenSetI K ta σ H Q := q
instance {K : PySem.W.Frag} {ta : TE} {σ : L2.St} {H : Hp} {Q : VK} : Step (RZ.tLenSetI K ta σ H Q) (ta σ H fun x H1 => gLenSetI K x H1 Q) := ⟨x_lenSetI⟩ -- st
theorem n_dnin {H : Hp} {Q : VK} {D : Addr} {kvs : List (Key × V)} {b : Nat} (h : H D = some (.dK kvs)) (q : Q (.bl (!(valV kvs (.inl (b : Int))).isSome)) H) : gDNotIn (.ref D) (.int (b : Nat)) H Q := ⟨D, _, rfl, DGet.k (k := .inl (b : Int)) h, q⟩
theorem oF_len {ms : List Mv} : ∀ {k : Nat} {o : List Nat}, oF ms k = some o → o.length = k
  | 0, o, h => by cases h; rfl
  | k + 1, o, h => by
    unfold oF at h
    cases e : oF ms k with
    | none => rw [e] at h; cases h
    | some o2 =>
      rw [e] at h
      simp only at h
      have := oF_len e
      cases ef : freeL ms o2 with
      | nil => rw [ef] at h; cases h
      | cons f r =>
        rw [ef] at h
        cases h
        rw [List.length_append, this]
        rfl
theorem pick_len (ms : List Mv) (o : List Nat) : (pickL ms o).length ≤ o.length := List.length_filterMap_le ..
theorem OrdRes.len {K : PySem.W.Frag} {ms : List Mv} {wd : Str} {us : List V} {F : Hp} (h : OrdRes K ms wd us F) : us.length ≤ ms.length := by
  rcases h with ⟨_, o, h2, h3⟩ | ⟨_, _, rs, rfl, h3⟩
  · have h4 := oF_len h2
    have h5 := pick_len ms o
    rw [dpa_len h3, List.length_map]
    omega
  · rw [List.length_map]
    exact nodup_lt _ _ h3.n h3.b
theorem OrdRes.same {K : PySem.W.Frag} {ms : List Mv} {wd : Str} {us : List V} {F F2 : Hp} (s : Same F F2) (h : OrdRes K ms wd us F) : OrdRes K ms wd us F2 := by
  rcases h with ⟨h1, o, h2, h3⟩ | h
  · exact .inl ⟨h1, o, h2, dpa_same s _ _ h3⟩
  · exact .inr h
end R
namespace R
open PySem PySem.Spec PyProof.Rows L2
/-! ### sorted(xs) of data, and < of data -/
end R
namespace R
open PySem PySem.Spec PyProof.Rows L2
/-! ### xs[a:b] = ys -/
def setSlG (v x : V) (l u : Option Int) (H : Hp) (Z : Hp → Prop) : Prop := ∃ (p b : Addr) (xs ys : List V) (a c : Int), v = .ref b ∧ x = .ref p ∧ l = some a ∧ u = some c ∧ H p = some (.lst xs) ∧ H b = some (.lst ys) ∧ p ≠ b ∧ 0 ≤ a ∧ a ≤ c ∧ c ≤ xs.length ∧ xs.length + ys.length ≤ sizeLine ∧ Z (upd H p (.lst (xs.take a.toNat ++ ys ++ xs.drop c.toNat)))
def tSetSl (tv to : TE) (tl th : TO) : TS := fun D σ H => tv σ H fun v H1 => to σ H1 fun x H2 => tl σ H2 fun l H3 => th σ H3 fun u H4 => setSlG v x l u H4 fun H5 => D.nx σ H5
section
variable {K : PySem.W.Frag} {M : List Addr} {F0 H0 F H : Hp} {L Rs : List Own} {p b : Addr} {xs ys : List V}
theorem x_setSl {tv to : TE} {tl th : TO} {D : Ends} {σ : L2.St} (q : tv σ H fun v H1 => to σ H1 fun x H2 => tl σ H2 fun l H3 => th σ H3 fun u H4 => setSlG v x l u H4 fun H5 => D.nx σ H5) : tSetSl tv to tl th D σ H := q
instance {tv to : TE} {tl th : TO} {D : Ends} {σ : L2.St} : Step (tSetSl tv to tl th D σ H) (tv σ H fun v H1 => to σ H1 fun x H2 => tl σ H2 fun l H3 => th σ H3 fun u H4 => setSlG v x l u H4 fun H5 => D.nx σ H5) := ⟨x_setSl⟩ -- st
end
end R
namespace R
open PySem PySem.Spec PyProof.Rows L2
/-! ### rows of a plan, judged -/
inductive JR where
  | put (to : Int) (s : Str)
  | keep (to f m : Int)
  | lay (to f m : Int)
  | copy (to f m : Int)
def JR.d : JR → PyData
  | .put to s => .tuple [.str "put", .int to, .str s]
  | .keep to f m => .tuple [.str "keep", .int to, .int f, .int m]
  | .lay to f m => .tuple [.str "lay", .int to, .int f, .int m]
  | .copy to f m => .tuple [.str "copy", .int to, .int f, .int m]
def JR.sOk : JR → Prop
  | .put _ s => okS s ∧ s.length ≤ 1000
  | _ => True
def JR.to : JR → Int
  | .put to _ => to
  | .keep to _ _ => to
  | .lay to _ _ => to
  | .copy to _ _ => to
def JR.isK : JR → Bool
  | .keep _ _ _ => true
  | _ => false
def heldV (xs : List V) (f m : Int) : Option (List V) := if f < 0 ∨ m < 1 ∨ (xs.length : Int) < f + m then none else if inV .non ((xs.drop f.toNat).take m.toNat) = true then none else some ((xs.drop f.toNat).take m.toNat)
def whatV (cs ss : List V) : JR → Option (List V)
  | .put _ s => if s.length = 0 then none else some (chars s)
  | .lay _ f m => heldV ss f m
  | .copy to f m => if to = f then none else heldV cs f m
  | .keep _ f m => heldV cs f m
def goalV (r : JR) (cs ss : List V) : List V := if r.isK then ss else cs
def doneV (r : JR) (cs ss : List V) : Option (List V × List V) := match whatV cs ss r with
  | none => none
  | some ys => if r.to < 0 ∨ ((goalV r cs ss).length : Int) < r.to + (ys.length : Int) then none else
    some (if r.isK then (cs, laidL ss r.to.toNat ys) else (laidL cs r.to.toNat ys, ss))
def stepsJ : List JR → List V × List V → Option (List V × List V)
  | [], st => some st
  | r :: rs, st => (doneV r st.1 st.2).bind (stepsJ rs)
theorem steps_app : ∀ (a b : List JR) (st : List V × List V), stepsJ (a ++ b) st = (stepsJ a st).bind (stepsJ b)
  | [], _, _ => rfl
  | r :: a, b, st => by
    show (doneV r st.1 st.2).bind (stepsJ (a ++ b)) = ((doneV r st.1 st.2).bind (stepsJ a)).bind (stepsJ b)
    cases doneV r st.1 st.2 with
    | none => rfl
    | some s2 => exact steps_app a b s2
theorem steps_take {rows : List JR} {i : Nat} {r : JR} {st s2 : List V × List V} (hr : rows[i]? = some r) (h : stepsJ (rows.take i) st = some s2) : stepsJ (rows.take (i + 1)) st = doneV r s2.1 s2.2 := by
  rw [List.take_add_one, hr, steps_app, h]
  show (doneV r s2.1 s2.2).bind (stepsJ []) = _
  cases doneV r s2.1 s2.2 <;> rfl
theorem held_mem {xs ys : List V} {f m : Int} (h : heldV xs f m = some ys) : ∀ v ∈ ys, v ∈ xs := by
  unfold heldV at h
  split at h
  · cases h
  · split at h
    · cases h
    · cases h
      exact fun v hv => List.mem_of_mem_drop (List.mem_of_mem_take hv)
theorem what_flat {cs ss ys : List V} {r : JR} (hr : r.sOk) (hc : ∀ v ∈ cs, FlatV v) (hs : ∀ v ∈ ss, FlatV v) (h : whatV cs ss r = some ys) : ∀ v ∈ ys, FlatV v := by
  cases r with
  | put to s =>
    unfold whatV at h
    simp only at h
    split at h
    · cases h
    · cases h
      exact chars_flat hr.1
  | keep to f m => exact fun v hv => hc v (held_mem h v hv)
  | lay to f m => exact fun v hv => hs v (held_mem h v hv)
  | copy to f m =>
    unfold whatV at h
    simp only at h
    split at h
    · cases h
    · exact fun v hv => hc v (held_mem h v hv)
theorem laidL_mem {xs zs : List V} {to : Nat} : ∀ v ∈ laidL xs to zs, v ∈ xs ∨ v ∈ zs := fun v hv => by
  unfold laidL at hv
  rcases List.mem_append.mp hv with hv | hv
  · rcases List.mem_append.mp hv with hv | hv
    · exact .inl (List.mem_of_mem_take hv)
    · exact .inr hv
  · exact .inl (List.mem_of_mem_drop hv)
theorem laidL_len {xs zs : List V} {to : Nat} (h : to + zs.length ≤ xs.length) : (laidL xs to zs).length = xs.length := by
  unfold laidL
  rw [List.length_append, List.length_append, List.length_take, List.length_drop]
  omega
structure StJ (a b : Nat) (st : List V × List V) : Prop where
  c : st.1.length = a
  s : st.2.length = b
  fc : ∀ v ∈ st.1, FlatV v
  fs : ∀ v ∈ st.2, FlatV v
theorem StJ.step {a b : Nat} {st s2 : List V × List V} {r : JR} (h : StJ a b st) (hr : r.sOk) (hd : doneV r st.1 st.2 = some s2) : StJ a b s2 := by
  unfold doneV at hd
  cases hw : whatV st.1 st.2 r with
  | none => rw [hw] at hd; cases hd
  | some ys =>
    rw [hw] at hd
    have hf := what_flat hr h.fc h.fs hw
    simp only at hd
    split at hd
    · cases hd
    · rename_i hn
      cases hd
      unfold goalV at hn
      cases hk : r.isK with
      | true =>
        rw [hk, if_pos rfl] at hn
        rw [if_pos rfl]
        exact ⟨h.c, by show (laidL st.2 _ ys).length = b; rw [laidL_len (by omega)]; exact h.s, h.fc, fun v hv => (laidL_mem v hv).elim (h.fs v) (hf v)⟩
      | false =>
        rw [hk, if_neg (by decide)] at hn
        rw [if_neg (by decide)]
        exact ⟨by show (laidL st.1 _ ys).length = a; rw [laidL_len (by omega)]; exact h.c, h.s, fun v hv => (laidL_mem v hv).elim (h.fc v) (hf v), h.fs⟩
theorem StJ.steps {a b : Nat} : ∀ {rows : List JR} {st s2 : List V × List V}, StJ a b st → (∀ r ∈ rows, r.sOk) → stepsJ rows st = some s2 → StJ a b s2
  | [], st, s2, h, _, e => by cases e; exact h
  | r :: rows, st, s2, h, hr, e => by
    have e2 : (doneV r st.1 st.2).bind (stepsJ rows) = some s2 := e
    cases hd : doneV r st.1 st.2 with
    | none => rw [hd] at e2; cases e2
    | some s3 =>
      rw [hd] at e2
      exact (h.step (hr r (List.mem_cons_self ..)) hd).steps (fun q hq => hr q (List.mem_cons_of_mem _ hq)) e2
theorem scal_flat {u v : V} (hu : FlatV u) (hv : FlatV v) : scal u v = true := by
  rcases hu with rfl | ⟨i, rfl⟩ | ⟨z, rfl, _⟩ <;> rcases hv with rfl | ⟨j, rfl⟩ | ⟨y, rfl, _⟩ <;> rfl
/-! ### by data -/
section
variable {K : PySem.W.Frag} {F : Hp} {x : V}
theorem dp_jput {to : Int} {s : Str} (h : Dp K F x (JR.put to s).d) : ∃ a, x = .ref a ∧ SqT K F a [.str "put", .int to, .str s] := by
  obtain ⟨a, v1, v2, v3, rfl, hs, h1, h2, h3⟩ := dp_tup3 h
  rw [dp_str h1, dp_int h2, dp_str h3] at hs
  exact ⟨a, rfl, hs⟩
theorem dp_j4 {wd : Str} {to f m : Int} (h : Dp K F x (.tuple [.str wd, .int to, .int f, .int m])) : ∃ a, x = .ref a ∧ SqT K F a [.str wd, .int to, .int f, .int m] := by
  obtain ⟨p, v1, v2, v3, v4, rfl, hs, h1, h2, h3, h4⟩ := dp_tup4 h
  rw [dp_str h1, dp_int h2, dp_int h3, dp_int h4] at hs
  exact ⟨p, rfl, hs⟩
end
/-! ### promises -/
def st0J (n big extra : Nat) : List V × List V := ((List.range n).map (fun (k : Nat) => V.int (k : Nat)) ++ List.replicate (big - n) .non, List.replicate extra .non)
theorem st0_ok (n big extra : Nat) : StJ (n + (big - n)) extra (st0J n big extra) := by
  refine ⟨?_, ?_, fun v hv => ?_, fun v hv => ?_⟩
  · show ((List.range n).map (fun (k : Nat) => V.int (k : Nat)) ++ List.replicate (big - n) V.non).length = _
    rw [List.length_append, List.length_map, List.length_range, List.length_replicate]
  · exact List.length_replicate
  · rcases List.mem_append.mp hv with hv | hv
    · obtain ⟨k, _, rfl⟩ := List.mem_map.mp hv
      exact .inr (.inl ⟨_, rfl⟩)
    · rw [List.eq_of_mem_replicate hv]; exact .inl rfl
  · rw [List.eq_of_mem_replicate hv]; exact .inl rfl
/-- rows that can be done, one that can't, the cells they leave -/
structure DrOk (n big extra : Nat) (good : List JR) (bad : Option (Nat × JR)) (cs : List V) : Prop where
  s : ∀ r ∈ good, r.sOk
  l : good.length ≤ 400
  g : ∃ ss, stepsJ good (st0J n big extra) = some (cs, ss)
  b : ∀ k r, bad = some (k, r) → r.sOk ∧ k ≤ good.length ∧ ∃ st, stepsJ (good.take k) (st0J n big extra) = some st ∧ doneV r st.1 st.2 = none
  c : ∀ v ∈ cs, CellOk n v
  z : cs.length = big
/-- cells stay cells -/
theorem what_cell {n : Nat} {cs ss ys : List V} {r : JR} (hr : r.sOk) (hc : ∀ v ∈ cs, CellOk n v) (hs : ∀ v ∈ ss, v = .non ∨ CellOk n v) (h : whatV cs ss r = some ys) : ∀ v ∈ ys, CellOk n v := by
  have hnon : ∀ {xs : List V} {f m : Int}, heldV xs f m = some ys → .non ∉ ys := fun {xs f m} h => by
    unfold heldV at h
    split at h
    · cases h
    · split at h
      · cases h
      · rename_i hi
        cases h
        intro hz
        refine hi ?_
        unfold inV
        exact List.any_eq_true.mpr ⟨.non, hz, rfl⟩
  cases r with
  | put to s =>
    unfold whatV at h
    simp only at h
    split at h
    · cases h
    · cases h
      intro v hv
      obtain ⟨c, hcm, rfl⟩ := chars_get' hv
      have h2 : s.cps.all (· < 0x110000) = true := hr.1
      rw [← Array.all_toList, List.all_eq_true] at h2
      exact .inr ⟨c, rfl, by simpa using h2 c hcm⟩
  | keep to f m => exact fun v hv => hc v (held_mem h v hv)
  | lay to f m => exact fun v hv => (hs v (held_mem h v hv)).elim (fun e => absurd (e ▸ hv) (hnon h)) id
  | copy to f m =>
    unfold whatV at h
    simp only at h
    split at h
    · cases h
    · exact fun v hv => hc v (held_mem h v hv)
structure DrI (n big extra i : Nat) (good : List JR) (bad : Option (Nat × JR)) (cs ss : List V) : Prop where
  s : ∀ r ∈ good, r.sOk
  l : good.length ≤ i
  g : stepsJ good (st0J n big extra) = some (cs, ss)
  b : ∀ k r, bad = some (k, r) → r.sOk ∧ k ≤ good.length ∧ ∃ st, stepsJ (good.take k) (st0J n big extra) = some st ∧ doneV r st.1 st.2 = none
  c : (1 ≤ i ∨ big = n) → ∀ v ∈ cs, CellOk n v
  f : ∀ v ∈ ss, v = .non ∨ CellOk n v
  j : StJ big extra (cs, ss)
  o : i = 0 → cs = (st0J n big extra).1
/-- the first row, where the new text is longer -/
theorem first_row {n big extra : Nat} {ss : List V} {s : Str} (hs : s.length = big - n) (hb : n < big) : doneV (.put (n : Nat) s) (st0J n big extra).1 ss = some ((List.range n).map (fun (k : Nat) => V.int (k : Nat)) ++ chars s, ss) := by
  have hw : whatV (st0J n big extra).1 ss (.put (n : Nat) s) = some (chars s) := if_neg (by omega)
  have hl : (st0J n big extra).1.length = big := by
    show ((List.range n).map (fun (k : Nat) => V.int (k : Nat)) ++ List.replicate (big - n) V.non).length = _
    rw [List.length_append, List.length_map, List.length_range, List.length_replicate]
    omega
  unfold doneV
  rw [hw]
  show (if (n : Int) < 0 ∨ ((st0J n big extra).1.length : Int) < (n : Int) + ((chars s).length : Int) then none else some (laidL (st0J n big extra).1 n (chars s), ss)) = _
  rw [if_neg (by rw [hl, chars_len]; omega)]
  congr 2
  unfold laidL
  show ((List.range n).map (fun (k : Nat) => V.int (k : Nat)) ++ List.replicate (big - n) V.non).take n ++ chars s ++ ((List.range n).map (fun (k : Nat) => V.int (k : Nat)) ++ List.replicate (big - n) V.non).drop (n + (chars s).length) = _
  rw [List.take_left' (by rw [List.length_map, List.length_range]), List.drop_of_length_le (by rw [List.length_append, List.length_map, List.length_range, List.length_replicate, chars_len]; omega), List.append_nil]
theorem DrI.skip {n big extra i : Nat} {good : List JR} {bad : Option (Nat × JR)} {cs ss : List V} {r : JR} (h : DrI n big extra i good bad cs ss) (hf : i = 0 → n < big → ∃ s : Str, r = .put (n : Nat) s ∧ s.length = big - n) (hn : doneV r cs ss = none) : DrI n big extra (i + 1) good bad cs ss := by
  refine ⟨h.s, Nat.le_succ_of_le h.l, h.g, h.b, fun _ => ?_, h.f, h.j, fun e => nomatch e⟩
  by_cases e0 : i = 0
  · by_cases hb : n < big
    · obtain ⟨s, rfl, hs⟩ := hf e0 hb
      rw [h.o e0, first_row hs hb] at hn
      cases hn
    · have hl := h.j.c
      refine h.c (.inr ?_)
      have e1 := h.o e0
      have : (st0J n big extra).1.length = n + (big - n) := (st0_ok n big extra).c
      have hl : cs.length = big := hl
      rw [e1, this] at hl
      omega
  · exact h.c (.inl (by omega))
theorem DrI.bad {n big extra i : Nat} {good : List JR} {cs ss : List V} {r : JR} (h : DrI n big extra i good none cs ss) (hr : r.sOk) (hn : doneV r cs ss = none) : DrI n big extra i good (some (good.length, r)) cs ss := by
  refine ⟨h.s, h.l, h.g, fun k r2 e => ?_, h.c, h.f, h.j, h.o⟩
  cases e
  exact ⟨hr, Nat.le_refl _, (cs, ss), by rw [List.take_length]; exact h.g, hn⟩
theorem DrI.add {n big extra i : Nat} {good : List JR} {bad : Option (Nat × JR)} {cs ss : List V} {r : JR} {st : List V × List V} (h : DrI n big extra i good bad cs ss) (hr : r.sOk) (hf : i = 0 → n < big → ∃ s : Str, r = .put (n : Nat) s ∧ s.length = big - n) (hd : doneV r cs ss = some st) : DrI n big extra (i + 1) (good ++ [r]) bad st.1 st.2 := by
  have key : (∀ v ∈ st.1, CellOk n v) ∧ ∀ v ∈ st.2, v = .non ∨ CellOk n v := by
    by_cases hc : i = 0 ∧ n < big
    · obtain ⟨s, rfl, hs⟩ := hf hc.1 hc.2
      rw [h.o hc.1, first_row hs hc.2] at hd
      cases hd
      refine ⟨fun v hv => ?_, h.f⟩
      rcases List.mem_append.mp hv with hv | hv
      · obtain ⟨k, hk, rfl⟩ := List.mem_map.mp hv
        exact .inl ⟨k, rfl, List.mem_range.mp hk⟩
      · obtain ⟨c, hcm, rfl⟩ := chars_get' hv
        have h2 : s.cps.all (· < 0x110000) = true := hr.1
        rw [← Array.all_toList, List.all_eq_true] at h2
        exact .inr ⟨c, rfl, by simpa using h2 c hcm⟩
    · have hcc : ∀ v ∈ cs, CellOk n v := by
        by_cases e0 : i = 0
        · refine h.c (.inr ?_)
          have hl : cs.length = big := h.j.c
          have : (st0J n big extra).1.length = n + (big - n) := (st0_ok n big extra).c
          rw [h.o e0, this] at hl
          omega
        · exact h.c (.inl (by omega))
      unfold doneV at hd
      cases hw : whatV cs ss r with
      | none => rw [hw] at hd; cases hd
      | some ys =>
        rw [hw] at hd
        have hy := what_cell hr hcc h.f hw
        simp only at hd
        split at hd
        · cases hd
        · cases hd
          cases hk : r.isK with
          | true =>
            rw [if_pos rfl]
            exact ⟨hcc, fun v hv => (laidL_mem v hv).elim (h.f v) fun z => .inr (hy v z)⟩
          | false =>
            rw [if_neg (by decide)]
            exact ⟨fun v hv => (laidL_mem v hv).elim (hcc v) (hy v), h.f⟩
  refine ⟨fun r2 h2 => ?_, by rw [List.length_append]; exact Nat.succ_le_succ h.l, ?_, fun k r2 e => ?_, fun _ => key.1, key.2, h.j.step hr hd, fun e => nomatch e⟩
  · rcases List.mem_append.mp h2 with h2 | h2
    · exact h.s r2 h2
    · rw [List.mem_singleton.mp h2]; exact hr
  · rw [steps_app, h.g]
    show (doneV r cs ss).bind (stepsJ []) = _
    rw [hd]
    rfl
  · obtain ⟨b1, b2, b3⟩ := h.b k r2 e
    refine ⟨b1, by rw [List.length_append]; omega, ?_⟩
    rw [List.take_append_of_le_length b2]
    exact b3
theorem DrI.done {n big extra i : Nat} {good : List JR} {bad : Option (Nat × JR)} {cs ss : List V} (h : DrI n big extra i good bad cs ss) (h1 : 1 ≤ i) (h2 : i ≤ 400) : DrOk n big extra good bad cs :=
  ⟨h.s, Nat.le_trans h.l h2, ⟨ss, h.g⟩, h.b, h.c (.inl h1), h.j.c⟩
/-! ### one fault -/
theorem dpa_takeJ {K : PySem.W.Frag} {F : Hp} : ∀ {vs : List V} {ds : List PyData} (n : Nat), DpAll K F vs ds → DpAll K F (vs.take n) (ds.take n)
  | _, _, 0, _ => by rw [List.take_zero, List.take_zero]; exact .nil
  | _, _, n + 1, .nil => .nil
  | _, _, n + 1, .cons d t => .cons d (dpa_takeJ n t)
end R
namespace R
open PySem PySem.Spec PyProof.Rows L2
/-! ### who gets whom: ways and rings -/
section
variable {g : Nat → Option Nat} {N : Nat}
def it (g : Nat → Option Nat) : Nat → Nat → Option Nat
  | 0, f => some f
  | k + 1, f => (it g k f).bind g
theorem it_add (a b f : Nat) : it g (a + b) f = (it g a f).bind (it g b) := by
  induction b with
  | zero => cases it g a f <;> rfl
  | succ b ih =>
    show (it g (a + b) f).bind g = (it g a f).bind fun x => (it g b x).bind g
    rw [ih]
    cases it g a f <;> rfl
def indG (g : Nat → Option Nat) (N p : Nat) : Nat := ((List.range N).filter fun q => decide (g q = some p)).length
theorem ind_one (hN : ∀ q p, g q = some p → q < N) {p q1 q2 : Nat} (h : indG g N p = 1) (h1 : g q1 = some p) (h2 : g q2 = some p) : q1 = q2 := by
  unfold indG at h
  have m1 : q1 ∈ (List.range N).filter fun q => decide (g q = some p) := List.mem_filter.mpr ⟨List.mem_range.mpr (hN q1 p h1), decide_eq_true h1⟩
  have m2 : q2 ∈ (List.range N).filter fun q => decide (g q = some p) := List.mem_filter.mpr ⟨List.mem_range.mpr (hN q2 p h2), decide_eq_true h2⟩
  obtain ⟨x, hx⟩ := List.length_eq_one_iff.mp h
  rw [hx] at m1 m2
  rw [List.mem_singleton.mp m1, List.mem_singleton.mp m2]
/-- on a pure ring -/
def Pc (g : Nat → Option Nat) (N f : Nat) : Prop := ∃ k, it g (k + 1) f = some f ∧ ∀ j y, it g j f = some y → indG g N y = 1
def Sm (g : Nat → Option Nat) (f x : Nat) : Prop := ∃ j, it g j f = some x
theorem it_mul {K f : Nat} (h : it g K f = some f) : ∀ t, it g (K * t) f = some f
  | 0 => rfl
  | t + 1 => by
    rw [Nat.mul_succ, it_add, it_mul h t]
    exact h
theorem it_some {K f : Nat} (h : it g (K + 1) f = some f) (j : Nat) : ∃ y, it g j f = some y := by
  have h1 := it_mul h j
  have e : (K + 1) * j = j + ((K + 1) * j - j) := by
    have : j ≤ (K + 1) * j := Nat.le_mul_of_pos_left j (Nat.succ_pos K)
    omega
  rw [e, it_add] at h1
  cases h2 : it g j f with
  | none => rw [h2] at h1; cases h1
  | some y => exact ⟨y, rfl⟩
theorem Pc.back {f x : Nat} (h : Pc g N f) (hs : Sm g f x) : Sm g x f := by
  obtain ⟨k, h1, _⟩ := h
  obtain ⟨j, hj⟩ := hs
  have h2 := it_mul h1 j
  have e : (k + 1) * j = j + ((k + 1) * j - j) := by
    have : j ≤ (k + 1) * j := Nat.le_mul_of_pos_left j (Nat.succ_pos k)
    omega
  rw [e, it_add, hj] at h2
  exact ⟨_, h2⟩
theorem Sm.trans {a b c : Nat} (h1 : Sm g a b) (h2 : Sm g b c) : Sm g a c := by
  obtain ⟨i, hi⟩ := h1
  obtain ⟨j, hj⟩ := h2
  exact ⟨i + j, by rw [it_add, hi]; exact hj⟩
theorem Pc.to {f x : Nat} (h : Pc g N f) (hs : Sm g f x) : Pc g N x := by
  obtain ⟨m, hm⟩ := h.back hs
  obtain ⟨j, hj⟩ := hs
  obtain ⟨k, h1, h2⟩ := h
  refine ⟨m + k + j, ?_, fun i y hy => h2 (j + i) y (by rw [it_add, hj]; exact hy)⟩
  rw [show m + k + j + 1 = m + ((k + 1) + j) by omega, it_add, hm]
  show it g (k + 1 + j) f = some x
  rw [it_add, h1]
  exact hj
/-- who gets one of a pure ring is of the ring -/
theorem Pc.pred (hN : ∀ q p, g q = some p → q < N) {p q : Nat} (h : Pc g N p) (hq : g q = some p) : Sm g p q ∧ Pc g N q := by
  obtain ⟨k, h1, h2⟩ := id h
  have e : (it g k p).bind g = some p := h1
  cases hz : it g k p with
  | none => rw [hz] at e; cases e
  | some z =>
    rw [hz] at e
    have : z = q := ind_one hN (h2 0 p rfl) e hq
    subst this
    exact ⟨⟨k, hz⟩, h.to ⟨k, hz⟩⟩
/-- a way from f that leaves S out, up to p -/
structure WayOk (h : Nat → Option Nat) (S : Nat → Prop) (f : Nat) (way : List Nat) (p : Nat) : Prop where
  at_ : ∀ k x, way[k]? = some x → it h k f = some x
  p : it h way.length f = some p
  nd : way.Nodup
  s : ∀ x ∈ way, ¬ S x
theorem way_nil (h : Nat → Option Nat) (S : Nat → Prop) (f : Nat) : WayOk h S f [] f := ⟨(fun k x e => by simp at e), rfl, List.nodup_nil, (fun x e => nomatch e)⟩
theorem WayOk.next {h : Nat → Option Nat} {S : Nat → Prop} {f p y : Nat} {way : List Nat} (w : WayOk h S f way p) (hy : h p = some y) (hS : ¬ S p) (hp : p ∉ way) : WayOk h S f (way ++ [p]) y := by
  refine ⟨fun k x e => ?_, ?_, ?_, fun x hx => ?_⟩
  · by_cases hk : k < way.length
    · rw [List.getElem?_append_left hk] at e
      exact w.at_ k x e
    · have hl := (List.getElem?_eq_some_iff.mp e).1
      rw [List.length_append] at hl
      have : k = way.length := by
        have : k < way.length + 1 := hl
        omega
      subst this
      rw [List.getElem?_append_right (Nat.le_refl _), Nat.sub_self] at e
      cases e
      exact w.p
  · rw [List.length_append]
    show (it h way.length f).bind h = some y
    rw [w.p]
    exact hy
  · rw [List.nodup_append]
    refine ⟨w.nd, List.nodup_cons.mpr ⟨(fun z => nomatch z), List.nodup_nil⟩, fun a ha b hb e => ?_⟩
    rw [List.mem_singleton.mp hb] at e
    exact hp (e ▸ ha)
  · rcases List.mem_append.mp hx with hx | hx
    · exact w.s x hx
    · rw [List.mem_singleton.mp hx]; exact hS
/-- what has been seen of the pure rings, behind the places l -/
def SI (g : Nat → Option Nat) (N : Nat) (l : List Nat) (S : Nat → Prop) : Prop := ∀ x, Pc g N x → (S x ↔ ∃ q, q ∈ l ∧ Sm g x q)
/-- the first of its pure ring -/
def Mn (g : Nat → Option Nat) (N : Nat) (l : List Nat) (i : Nat) : Prop := Pc g N i ∧ ∀ q, q ∈ l → ¬ Sm g i q
theorem SI.min {l : List Nat} {i : Nat} {S : Nat → Prop} (h : SI g N l S) : Mn g N l i ↔ Pc g N i ∧ ¬ S i := by
  constructor
  · rintro ⟨h1, h2⟩
    exact ⟨h1, fun hs => by obtain ⟨q, hq, hs2⟩ := (h i h1).mp hs; exact h2 q hq hs2⟩
  · rintro ⟨h1, h2⟩
    exact ⟨h1, fun q hq hs => h2 ((h i h1).mpr ⟨q, hq, hs⟩)⟩
/-- a walk by h, which is g on the pure rings -/
structure WalkOk (g h : Nat → Option Nat) (N : Nat) : Prop where
  hN : ∀ q p, g q = some p → q < N
  sub : ∀ q p, h q = some p → g q = some p
  on : ∀ q, Pc g N q → h q = g q
theorem it_sub {h : Nat → Option Nat} (W : WalkOk g h N) : ∀ {k f x : Nat}, it h k f = some x → it g k f = some x
  | 0, f, x, e => e
  | k + 1, f, x, e => by
    have e1 : (it h k f).bind h = some x := e
    cases h2 : it h k f with
    | none => rw [h2] at e1; cases e1
    | some y =>
      rw [h2] at e1
      show (it g k f).bind g = some x
      rw [it_sub W h2]
      exact W.sub y x e1
/-- none of a pure ring lies on a way that starts off it -/
theorem way_off {h : Nat → Option Nat} (W : WalkOk g h N) : ∀ {k f x : Nat}, it h k f = some x → Pc g N x → Pc g N f ∧ Sm g f x
  | 0, f, x, e, hx => by cases e; exact ⟨hx, 0, rfl⟩
  | k + 1, f, x, e, hx => by
    have e1 : (it h k f).bind h = some x := e
    cases h2 : it h k f with
    | none => rw [h2] at e1; cases e1
    | some y =>
      rw [h2] at e1
      obtain ⟨h3, h4⟩ := hx.pred W.hN (W.sub y x e1)
      obtain ⟨h5, h6⟩ := way_off W h2 h4
      exact ⟨h5, h6.trans ⟨1, by show (some y).bind g = some x; exact W.sub y x e1⟩⟩
theorem it_end {h : Nat → Option Nat} {f p : Nat} {way : List Nat} {S : Nat → Prop} (w : WayOk h S f way p) {k : Nat} (hk : way[k]? = some p) (hne : k ≠ 0) : ∃ a b, a ≠ b ∧ h a = some p ∧ h b = some p := by
  have hkl := (List.getElem?_eq_some_iff.mp hk).1
  obtain ⟨a, ha⟩ : ∃ a, way[k - 1]? = some a := ⟨_, List.getElem?_eq_getElem (by omega)⟩
  obtain ⟨b, hb⟩ : ∃ b, way[way.length - 1]? = some b := ⟨_, List.getElem?_eq_getElem (by omega)⟩
  refine ⟨a, b, fun e => ?_, ?_, ?_⟩
  · subst e
    obtain ⟨q1, q2⟩ := List.getElem?_eq_some_iff.mp ha
    obtain ⟨q3, q4⟩ := List.getElem?_eq_some_iff.mp hb
    rcases Nat.lt_or_ge (k - 1) (way.length - 1) with h1 | h1
    · exact List.pairwise_iff_getElem.mp w.nd _ _ q1 q3 h1 (q2.trans q4.symm)
    · omega
  · have h1 := w.at_ _ _ ha
    have h2 := w.at_ _ _ hk
    rw [show k = k - 1 + 1 by omega] at h2
    have h3 : (it h (k - 1) f).bind h = some p := h2
    rw [h1] at h3
    exact h3
  · have h1 := w.at_ _ _ hb
    have h2 := w.p
    rw [show way.length = way.length - 1 + 1 by omega] at h2
    have h3 : (it h (way.length - 1) f).bind h = some p := h2
    rw [h1] at h3
    exact h3
/-- a way back to its start, over those that one alone gets -/
theorem ring_back {h : Nat → Option Nat} (W : WalkOk g h N) {S : Nat → Prop} {f : Nat} {way : List Nat} (w : WayOk h S f way f) (h1 : way ≠ []) (hu : ∀ x ∈ way, indG g N x = 1) : Pc g N f := by
  have hl : 0 < way.length := List.length_pos_iff.mpr h1
  have hm := it_sub W w.p
  refine ⟨way.length - 1, by rw [show way.length - 1 + 1 = way.length by omega]; exact hm, fun j y hy => ?_⟩
  have e : j = way.length * (j / way.length) + j % way.length := (Nat.div_add_mod j way.length).symm
  rw [e, it_add, it_mul hm] at hy
  have hlt := Nat.mod_lt j hl
  have h3 := it_sub W (w.at_ (j % way.length) way[j % way.length] (List.getElem?_eq_getElem hlt))
  have h4 : it g (j % way.length) f = some y := hy
  rw [h3] at h4
  cases h4
  exact hu _ (List.getElem_mem hlt)
/-- the end of a walk from the first of a pure ring -/
theorem walk_min {h : Nat → Option Nat} (W : WalkOk g h N) {S : Nat → Prop} {l : List Nat} {i p : Nat} {way : List Nat} (si : SI g N l S) (w : WayOk h S i way p) (he : h p = none ∨ S p ∨ p ∈ way) (hm : Mn g N l i) : p = i ∧ way ≠ [] ∧ (∀ x ∈ way, indG g N x = 1) ∧ ∀ x, Sm g i x → x ∈ way := by
  obtain ⟨hp, hS⟩ := si.min.mp hm
  have hsm : Sm g i p := ⟨_, it_sub W w.p⟩
  have hpp := hp.to hsm
  have hall : ∀ x ∈ way, Pc g N x := fun x hx => by
    obtain ⟨k, hk⟩ := List.mem_iff_getElem?.mp hx
    exact hp.to ⟨k, it_sub W (w.at_ k x hk)⟩
  have hpw : p ∈ way := by
    rcases he with he | he | he
    · rw [W.on p hpp] at he
      obtain ⟨k, h1, _⟩ := hpp
      obtain ⟨y, hy⟩ := it_some h1 1
      have : g p = some y := hy
      rw [he] at this
      cases this
    · obtain ⟨q, hq, hs⟩ := (si p hpp).mp he
      exact absurd (hsm.trans hs) (hm.2 q hq)
    · exact he
  obtain ⟨k, hk⟩ := List.mem_iff_getElem?.mp hpw
  have hu : ∀ x ∈ way, indG g N x = 1 := fun x hx => by
    obtain ⟨k, h1, h2⟩ := hall x hx
    exact h2 0 x rfl
  have ek : k = 0 := by
    refine Classical.byContradiction fun hne => ?_
    obtain ⟨a, b, hab, ha, hb⟩ := it_end w hk hne
    exact hab (ind_one W.hN (hu p hpw) (W.sub a p ha) (W.sub b p hb))
  subst ek
  have e0 := w.at_ 0 p hk
  cases e0
  have hne : way ≠ [] := fun e => by rw [e] at hpw; cases hpw
  have hl : 0 < way.length := List.length_pos_iff.mpr hne
  refine ⟨rfl, hne, hu, fun x hx => ?_⟩
  obtain ⟨j, hj⟩ := hx
  have hm2 := it_sub W w.p
  have e : j = way.length * (j / way.length) + j % way.length := (Nat.div_add_mod j way.length).symm
  rw [e, it_add, it_mul hm2] at hj
  have hlt := Nat.mod_lt j hl
  have h3 := it_sub W (w.at_ (j % way.length) way[j % way.length] (List.getElem?_eq_getElem hlt))
  have h4 : it g (j % way.length) i = some x := hj
  rw [h3] at h4
  cases h4
  exact List.getElem_mem hlt
/-- what is seen behind a walk -/
theorem SI.walk {h : Nat → Option Nat} (W : WalkOk g h N) {S : Nat → Prop} {l : List Nat} {i p : Nat} {way : List Nat} (si : SI g N l S) (w : WayOk h S i way p) (he : h p = none ∨ S p ∨ p ∈ way) : SI g N (l ++ [i]) fun x => S x ∨ x ∈ way := by
  intro x hx
  constructor
  · rintro (h1 | h1)
    · obtain ⟨q, hq, hs⟩ := (si x hx).mp h1
      exact ⟨q, List.mem_append_left _ hq, hs⟩
    · obtain ⟨k, hk⟩ := List.mem_iff_getElem?.mp h1
      obtain ⟨h2, h3⟩ := way_off W (w.at_ k x hk) hx
      exact ⟨i, List.mem_append_right _ (List.mem_singleton.mpr rfl), h2.back h3⟩
  · rintro ⟨q, hq, hs⟩
    rcases List.mem_append.mp hq with hq | hq
    · exact .inl ((si x hx).mpr ⟨q, hq, hs⟩)
    · have e := List.mem_singleton.mp hq
      subst e
      have hpi := hx.to hs
      by_cases hS : S q
      · obtain ⟨q2, hq2, hs2⟩ := (si q hpi).mp hS
        exact .inl ((si x hx).mpr ⟨q2, hq2, hs.trans hs2⟩)
      · exact .inr ((walk_min W si w he (si.min.mpr ⟨hpi, hS⟩)).2.2.2 x (hx.back hs))
theorem si_nil : SI g N [] fun _ => False := fun x hx => ⟨fun h => h.elim, fun ⟨q, hq, _⟩ => nomatch hq⟩
/-- how many pure rings, by their first ones -/
noncomputable def cntM (g : Nat → Option Nat) (N : Nat) : List Nat → List Nat → Nat
  | _, [] => 0
  | l, a :: r => (open Classical in if Mn g N l a then 1 else 0) + cntM g N (l ++ [a]) r
theorem mn_filt {c : Nat → Bool} (hc : ∀ q, Pc g N q → c q = true) {l : List Nat} {a : Nat} : Mn g N (l.filter c) a ↔ Mn g N l a := by
  constructor
  · rintro ⟨h1, h2⟩
    exact ⟨h1, fun q hq hs => h2 q (List.mem_filter.mpr ⟨hq, hc q (h1.to hs)⟩) hs⟩
  · rintro ⟨h1, h2⟩
    exact ⟨h1, fun q hq hs => h2 q (List.mem_filter.mp hq).1 hs⟩
theorem cnt_filt {c : Nat → Bool} (hc : ∀ q, Pc g N q → c q = true) : ∀ (r l : List Nat), cntM g N (l.filter c) (r.filter c) = cntM g N l r
  | [], _ => rfl
  | a :: r, l => by
    have ih := cnt_filt hc r (l ++ [a])
    rw [List.filter_append] at ih
    cases e : c a with
    | true =>
      rw [List.filter_cons_of_pos e] at ih ⊢
      rw [List.filter_nil] at ih
      rw [cntM, cntM, ih]
      congr 1
      by_cases h : Mn g N l a
      · rw [if_pos h, if_pos ((mn_filt hc).mpr h)]
      · rw [if_neg h, if_neg (fun z => h ((mn_filt hc).mp z))]
    | false =>
      rw [List.filter_cons_of_neg (by rw [e]; decide)] at ih ⊢
      rw [List.filter_nil, List.append_nil] at ih
      rw [cntM, ih, if_neg (fun z => by have := hc a z.1; rw [e] at this; cases this), Nat.zero_add]
theorem cntM_snoc (a : Nat) : ∀ (r l : List Nat), cntM g N l (r ++ [a]) = cntM g N l r + (open Classical in if Mn g N (l ++ r) a then 1 else 0)
  | [], l => by
    show (open Classical in if Mn g N l a then 1 else 0) + 0 = 0 + _
    rw [List.append_nil]
    omega
  | b :: r, l => by
    show _ + cntM g N (l ++ [b]) (r ++ [a]) = _ + cntM g N (l ++ [b]) r + _
    rw [cntM_snoc a r (l ++ [b]), List.append_assoc]
    show _ + (_ + (open Classical in if Mn g N (l ++ (b :: r)) a then 1 else 0)) = _
    omega
/-- the law's test -/
theorem law_test {h : Nat → Option Nat} (W : WalkOk g h N) {S : Nat → Prop} {l : List Nat} {i p : Nat} {way : List Nat} (si : SI g N l S) (w : WayOk h S i way p) (he : h p = none ∨ S p ∨ p ∈ way) (hu : ∀ q y, h q = some y → indG g N q = 1) : (way ≠ [] ∧ p = i) ↔ Mn g N l i := by
  constructor
  · rintro ⟨h1, rfl⟩
    refine si.min.mpr ⟨ring_back W w h1 fun x hx => ?_, ?_⟩
    · obtain ⟨k, hk⟩ := List.mem_iff_getElem?.mp hx
      have h2 := w.at_ k x hk
      have hkl := (List.getElem?_eq_some_iff.mp hk).1
      by_cases hk1 : k + 1 < way.length
      · have h3 := w.at_ (k + 1) way[k + 1] (List.getElem?_eq_getElem hk1)
        have h4 : (it h k p).bind h = some way[k + 1] := h3
        rw [h2] at h4
        exact hu x _ h4
      · have h3 := w.p
        rw [show way.length = k + 1 by omega] at h3
        have h4 : (it h k p).bind h = some p := h3
        rw [h2] at h4
        exact hu x _ h4
    · have hl : 0 < way.length := List.length_pos_iff.mpr h1
      have h2 := w.at_ 0 way[0] (List.getElem?_eq_getElem hl)
      have h3 : (some p : Option Nat) = some way[0] := h2
      rw [Option.some.inj h3]
      exact w.s _ (List.getElem_mem hl)
  · intro hm
    obtain ⟨h1, h2, _⟩ := walk_min W si w he hm
    exact ⟨h2, h1⟩
/-- the program's test -/
theorem prog_test {h : Nat → Option Nat} (W : WalkOk g h N) {S : Nat → Prop} {l : List Nat} {i p : Nat} {way : List Nat} (si : SI g N l S) (w : WayOk h S i way p) (he : h p = none ∨ S p ∨ p ∈ way) : (∃ k, way[k]? = some p ∧ ∀ x ∈ way.drop k, indG g N x = 1) ↔ Mn g N l i := by
  constructor
  · rintro ⟨k, hk, hu⟩
    have hkl := (List.getElem?_eq_some_iff.mp hk).1
    have hpd : p ∈ way.drop k := List.mem_iff_getElem?.mpr ⟨0, by rw [List.getElem?_drop]; exact hk⟩
    have ek : k = 0 := by
      refine Classical.byContradiction fun hne => ?_
      obtain ⟨a, b, hab, ha, hb⟩ := it_end w hk hne
      exact hab (ind_one W.hN (hu p hpd) (W.sub a p ha) (W.sub b p hb))
    subst ek
    have e0 := w.at_ 0 p hk
    cases e0
    rw [List.drop_zero] at hu
    have hne : way ≠ [] := fun e => by rw [e] at hk; cases hk
    exact si.min.mpr ⟨ring_back W w hne hu, w.s _ (List.mem_of_getElem? hk)⟩
  · intro hm
    obtain ⟨h1, h2, h3, _⟩ := walk_min W si w he hm
    have hl : 0 < way.length := List.length_pos_iff.mpr h2
    have h4 := w.at_ 0 way[0] (List.getElem?_eq_getElem hl)
    have h5 : (some i : Option Nat) = some way[0] := h4
    refine ⟨0, ?_, fun x hx => h3 x (List.mem_of_mem_drop hx)⟩
    rw [h1, Option.some.inj h5]
    exact List.getElem?_eq_getElem hl
/-! ### the rings themselves -/
structure RsI (g : Nat → Option Nat) (rs : List (List Nat)) (S : Nat → Prop) : Prop where
  ne : ∀ r ∈ rs, r ≠ []
  nd : ∀ r ∈ rs, r.Nodup
  nx : ∀ r ∈ rs, ∀ (k x : Nat), r[k]? = some x → g x = r[(k + 1) % r.length]?
  dj : rs.Pairwise fun a b => ∀ x ∈ a, x ∉ b
  sub : ∀ r ∈ rs, ∀ x ∈ r, S x
  cl : ∀ x y, S x → g x = some y → S y ∨ g y = none
  cyc : ∀ x k, S x → it g (k + 1) x = some x → ∃ r ∈ rs, x ∈ r
structure RsOk (g : Nat → Option Nat) (rs : List (List Nat)) : Prop where
  ne : ∀ r ∈ rs, r ≠ []
  nd : ∀ r ∈ rs, r.Nodup
  nx : ∀ r ∈ rs, ∀ (k x : Nat), r[k]? = some x → g x = r[(k + 1) % r.length]?
  dj : rs.Pairwise fun a b => ∀ x ∈ a, x ∉ b
  all : ∀ x k, it g (k + 1) x = some x → ∃ r ∈ rs, x ∈ r
theorem rsI_nil : RsI g [] fun _ => False := ⟨(fun _ h => nomatch h), (fun _ h => nomatch h), (fun _ h => nomatch h), .nil, (fun _ h => nomatch h), (fun _ _ h => h.elim), fun _ _ h => h.elim⟩
theorem RsI.done {rs : List (List Nat)} {S : Nat → Prop} (h : RsI g rs S) (hS : ∀ x, g x ≠ none → S x) : RsOk g rs := by
  refine ⟨h.ne, h.nd, h.nx, h.dj, fun x k hx => h.cyc x k (hS x fun e => ?_) hx⟩
  obtain ⟨y, hy⟩ := it_some hx 1
  have : g x = some y := hy
  rw [e] at this
  cases this
theorem cyc_back {C : Nat → Prop} (hC : ∀ x y, C x → g x = some y → C y ∨ g y = none) {x c k j : Nat} (hx : it g (k + 1) x = some x) (hj : it g j x = some c) (hc : C c) : C x := by
  have key : ∀ d y, it g (j + d) x = some y → C y := by
    intro d
    induction d with
    | zero =>
      intro y hy
      rw [Nat.add_zero, hj] at hy
      cases hy
      exact hc
    | succ d ih =>
      intro y hy
      have e : (it g (j + d) x).bind g = some y := hy
      cases hz : it g (j + d) x with
      | none => rw [hz] at e; cases e
      | some z =>
        rw [hz] at e
        rcases hC z y (ih z hz) e with h | h
        · exact h
        · obtain ⟨u, hu⟩ := it_some hx (j + (d + 1) + 1)
          have e2 : (it g (j + (d + 1)) x).bind g = some u := hu
          rw [hy] at e2
          have e3 : g y = some u := e2
          rw [h] at e3
          cases e3
  have h1 := it_mul hx j
  have hle : j ≤ (k + 1) * j := Nat.le_mul_of_pos_left j (Nat.succ_pos k)
  exact key ((k + 1) * j - j) x (by rw [show j + ((k + 1) * j - j) = (k + 1) * j by omega]; exact h1)
theorem way_next {h : Nat → Option Nat} {S : Nat → Prop} {f p : Nat} {way : List Nat} (w : WayOk h S f way p) {k x : Nat} (hk : way[k]? = some x) : (k + 1 < way.length ∧ h x = way[k + 1]?) ∨ (k + 1 = way.length ∧ h x = some p) := by
  have hkl := (List.getElem?_eq_some_iff.mp hk).1
  have h1 := w.at_ k x hk
  by_cases hl : k + 1 < way.length
  · refine .inl ⟨hl, ?_⟩
    have h2 := w.at_ (k + 1) way[k + 1] (List.getElem?_eq_getElem hl)
    have h3 : (it h k f).bind h = some way[k + 1] := h2
    rw [h1] at h3
    rw [List.getElem?_eq_getElem hl]
    exact h3
  · refine .inr ⟨by omega, ?_⟩
    have h2 := w.p
    rw [show way.length = k + 1 by omega] at h2
    have h3 : (it h k f).bind h = some p := h2
    rw [h1] at h3
    exact h3
theorem RsI.walk {rs : List (List Nat)} {S : Nat → Prop} {way : List Nat} {i p : Nat} (h : RsI g rs S) (w : WayOk g S i way p) (he : g p = none ∨ S p ∨ p ∈ way) :
    (p ∉ way → RsI g rs fun x => S x ∨ x ∈ way) ∧ ∀ k, way[k]? = some p → RsI g (rs ++ [way.drop k]) fun x => S x ∨ x ∈ way := by
  have ecl : ∀ x y, (S x ∨ x ∈ way) → g x = some y → (S y ∨ y ∈ way) ∨ g y = none := by
    intro x y hx hy
    rcases hx with hx | hx
    · exact (h.cl x y hx hy).imp .inl id
    · obtain ⟨k, hk⟩ := List.mem_iff_getElem?.mp hx
      rcases way_next w hk with ⟨h1, h2⟩ | ⟨h1, h2⟩
      · rw [h2] at hy
        exact .inl (.inr (List.mem_of_getElem? hy))
      · rw [h2] at hy
        cases hy
        rcases he with he | he | he
        · exact .inr he
        · exact .inl (.inl he)
        · exact .inl (.inr he)
  have reach : ∀ {k x : Nat}, way[k]? = some x → it g (way.length - k) x = some p := fun {k x} hk => by
    have hkl := (List.getElem?_eq_some_iff.mp hk).1
    have h1 := w.p
    rw [show way.length = k + (way.length - k) by omega, it_add, w.at_ k x hk] at h1
    exact h1
  constructor
  · intro hp
    refine ⟨h.ne, h.nd, h.nx, h.dj, fun r hr x hx => .inl (h.sub r hr x hx), ecl, fun x k hx hk => ?_⟩
    rcases hx with hx | hx
    · exact h.cyc x k hx hk
    · obtain ⟨j, hj⟩ := List.mem_iff_getElem?.mp hx
      have hr := reach hj
      rcases he with he | he | he
      · obtain ⟨u, hu⟩ := it_some hk (way.length - j + 1)
        have e2 : (it g (way.length - j) x).bind g = some u := hu
        rw [hr] at e2
        have e3 : g p = some u := e2
        rw [he] at e3
        cases e3
      · exact absurd (cyc_back h.cl hk hr he) (w.s x hx)
      · exact absurd he hp
  · intro k hk
    have hkl := (List.getElem?_eq_some_iff.mp hk).1
    have hsub : ∀ x ∈ way.drop k, x ∈ way := fun x hx => List.mem_of_mem_drop hx
    have hnx : ∀ (a x : Nat), (way.drop k)[a]? = some x → g x = (way.drop k)[(a + 1) % (way.drop k).length]? := by
      intro a x ha
      rw [List.getElem?_drop] at ha
      have hal := (List.getElem?_eq_some_iff.mp ha).1
      rw [List.length_drop, List.getElem?_drop]
      rcases way_next w ha with ⟨h1, h2⟩ | ⟨h1, h2⟩
      · rw [Nat.mod_eq_of_lt (by omega), h2]
        congr 1
      · rw [show a + 1 = way.length - k by omega, Nat.mod_self, Nat.add_zero, hk, h2]
    refine ⟨fun r hr => ?_, fun r hr => ?_, fun r hr => ?_, ?_, fun r hr x hx => ?_, ecl, fun x m hx hm => ?_⟩
    · rcases List.mem_append.mp hr with hr | hr
      · exact h.ne r hr
      · rw [List.mem_singleton.mp hr]
        intro e
        have := congrArg List.length e
        rw [List.length_drop] at this
        simp at this
        omega
    · rcases List.mem_append.mp hr with hr | hr
      · exact h.nd r hr
      · rw [List.mem_singleton.mp hr]
        exact w.nd.sublist (List.drop_sublist k way)
    · rcases List.mem_append.mp hr with hr | hr
      · exact h.nx r hr
      · rw [List.mem_singleton.mp hr]
        exact hnx
    · rw [List.pairwise_append]
      refine ⟨h.dj, List.pairwise_singleton _ _, fun a ha b hb x hx hxb => ?_⟩
      rw [List.mem_singleton.mp hb] at hxb
      exact w.s x (hsub x hxb) (h.sub a ha x hx)
    · rcases List.mem_append.mp hr with hr | hr
      · exact .inl (h.sub r hr x hx)
      · rw [List.mem_singleton.mp hr] at hx
        exact .inr (hsub x hx)
    · rcases hx with hx | hx
      · obtain ⟨r, h1, h2⟩ := h.cyc x m hx hm
        exact ⟨r, List.mem_append_left _ h1, h2⟩
      · obtain ⟨j, hj⟩ := List.mem_iff_getElem?.mp hx
        refine ⟨way.drop k, List.mem_append_right _ (List.mem_singleton.mpr rfl), cyc_back (C := fun x => x ∈ way.drop k) (fun a b ha hab => ?_) hm (reach hj) (List.mem_iff_getElem?.mpr ⟨0, by rw [List.getElem?_drop]; exact hk⟩)⟩
        obtain ⟨c, hc⟩ := List.mem_iff_getElem?.mp ha
        rw [hnx c a hc] at hab
        exact .inl (List.mem_of_getElem? hab)
theorem RsOk.got {rs : List (List Nat)} (h : RsOk g rs) {r : List Nat} (hr : r ∈ rs) {x : Nat} (hx : x ∈ r) : ∃ y ∈ r, g y = some x := by
  obtain ⟨k, hk⟩ := List.mem_iff_getElem?.mp hx
  have hkl := (List.getElem?_eq_some_iff.mp hk).1
  obtain ⟨j, hj, ej⟩ : ∃ j, j < r.length ∧ (j + 1) % r.length = k := by
    by_cases h0 : k = 0
    · exact ⟨r.length - 1, by omega, by rw [show r.length - 1 + 1 = r.length by omega, Nat.mod_self, h0]⟩
    · exact ⟨k - 1, by omega, by rw [show k - 1 + 1 = k by omega, Nat.mod_eq_of_lt hkl]⟩
  refine ⟨r[j], List.getElem_mem hj, ?_⟩
  rw [h.nx r hr j r[j] (List.getElem?_eq_getElem hj), ej, hk]
theorem filt_more {N : Nat} {c c' : Nat → Bool} {way : List Nat} (hn : way.Nodup) (hw : ∀ x ∈ way, x < N ∧ c x = false) (hc : ∀ x, c' x = (c x || decide (x ∈ way))) : ((List.range N).filter c').length = ((List.range N).filter c).length + way.length := by
  rw [← List.length_append]
  refine List.Perm.length_eq ((List.perm_ext_iff_of_nodup (List.Nodup.sublist List.filter_sublist List.nodup_range) (List.nodup_append.mpr ⟨List.Nodup.sublist List.filter_sublist List.nodup_range, hn, fun a ha b hb e => ?_⟩)).mpr fun x => ?_)
  · subst e
    have := (List.mem_filter.mp ha).2
    rw [(hw a hb).2] at this
    cases this
  · rw [List.mem_append, List.mem_filter, List.mem_filter, hc, List.mem_range]
    constructor
    · rintro ⟨h1, h2⟩
      rcases Bool.or_eq_true_iff.mp h2 with h | h
      · exact .inl ⟨h1, h⟩
      · exact .inr (of_decide_eq_true h)
    · rintro (⟨h1, h2⟩ | h)
      · exact ⟨h1, by rw [h2]; rfl⟩
      · exact ⟨(hw x h).1, by rw [decide_eq_true h, Bool.or_true]⟩
/-- how many places of pure rings are seen -/
noncomputable def witS (g : Nat → Option Nat) (N : Nat) (S : Nat → Prop) : Nat := ((List.range N).filter fun x => @decide (Pc g N x ∧ S x) (Classical.propDecidable _)).length
theorem wit_step {h : Nat → Option Nat} (W : WalkOk g h N) {S : Nat → Prop} {l : List Nat} {i p : Nat} {way : List Nat} (si : SI g N l S) (w : WayOk h S i way p) (he : h p = none ∨ S p ∨ p ∈ way) :
    witS g N (fun x => S x ∨ x ∈ way) = witS g N S + (open Classical in if Mn g N l i then way.length else 0) := by
  unfold witS
  by_cases hm : Mn g N l i
  · rw [if_pos hm]
    obtain ⟨h1, h2, h3, h4⟩ := walk_min W si w he hm
    have hpi := hm.1
    have hall : ∀ x ∈ way, Pc g N x := fun x hx => by
      obtain ⟨k, hk⟩ := List.mem_iff_getElem?.mp hx
      exact hpi.to ⟨k, it_sub W (w.at_ k x hk)⟩
    refine filt_more w.nd (fun x hx => ⟨?_, ?_⟩) fun x => ?_
    · obtain ⟨k, hk, _⟩ := hall x hx
      obtain ⟨y, hy⟩ := it_some hk 1
      exact W.hN x y hy
    · exact @decide_eq_false _ (Classical.propDecidable _) fun z => w.s x hx z.2
    · rw [Bool.eq_iff_iff, Bool.or_eq_true, @decide_eq_true_eq _ (Classical.propDecidable _), @decide_eq_true_eq _ (Classical.propDecidable _), decide_eq_true_eq]
      constructor
      · rintro ⟨h1, h2 | h2⟩
        · exact .inl ⟨h1, h2⟩
        · exact .inr h2
      · rintro (⟨h1, h2⟩ | h2)
        · exact ⟨h1, .inl h2⟩
        · exact ⟨hall x h2, .inr h2⟩
  · rw [if_neg hm, Nat.add_zero]
    congr 1
    refine List.filter_congr fun x hx => ?_
    rw [Bool.eq_iff_iff, @decide_eq_true_eq _ (Classical.propDecidable _), @decide_eq_true_eq _ (Classical.propDecidable _)]
    constructor
    · rintro ⟨h1, h2 | h2⟩
      · exact ⟨h1, h2⟩
      · exfalso
        obtain ⟨k, hk⟩ := List.mem_iff_getElem?.mp h2
        obtain ⟨h3, h4⟩ := way_off W (w.at_ k x hk) h1
        have hl : 0 < way.length := List.length_pos_iff.mpr fun e => by rw [e] at h2; cases h2
        have h5 := w.at_ 0 way[0] (List.getElem?_eq_getElem hl)
        have h6 : (some i : Option Nat) = some way[0] := h5
        refine hm (si.min.mpr ⟨h3, ?_⟩)
        rw [Option.some.inj h6]
        exact w.s _ (List.getElem_mem hl)
    · rintro ⟨h1, h2⟩
      exact ⟨h1, .inl h2⟩
end
end R
namespace R
open PySem PySem.Spec PyProof.Rows L2
/-! ### a change's cells as ways and rings -/
section
variable {cs : List V} {n : Nat}
/-- the place that a cell gets, when it gets another one -/
def gC (cs : List V) (p : Nat) : Option Nat := match cs[p]? with
  | some (.int i) => if i = (p : Nat) then none else some i.toNat
  | _ => none
def chgC (cs : List V) (p : Nat) : Bool := !decide (cs[p]? = some (.int (p : Nat)))
def chL (cs : List V) : List Nat := (List.range cs.length).filter (chgC cs)
theorem gC_some (hc : ∀ v ∈ cs, CellOk n v) {q p : Nat} : gC cs q = some p ↔ cs[q]? = some (.int (p : Nat)) ∧ p ≠ q := by
  unfold gC
  cases e : cs[q]? with
  | none => simp
  | some v =>
    rcases hc v (List.mem_of_getElem? e) with ⟨i, rfl, hi⟩ | ⟨c, rfl, hcc⟩
    · show (if ((i : Nat) : Int) = (q : Nat) then none else some ((i : Nat) : Int).toNat) = some p ↔ _
      by_cases h : ((i : Nat) : Int) = (q : Nat)
      · rw [if_pos h]
        constructor
        · intro z; cases z
        · rintro ⟨h1, h2⟩
          have h3 := V.int.inj (Option.some.inj h1)
          exact absurd (by omega) h2
      · rw [if_neg h, Int.toNat_natCast]
        constructor
        · intro z
          have := Option.some.inj z
          subst this
          exact ⟨rfl, fun e => h (by rw [e])⟩
        · rintro ⟨h1, h2⟩
          have h3 := V.int.inj (Option.some.inj h1)
          rw [show i = p by omega]
    · simp
theorem gC_lt (hc : ∀ v ∈ cs, CellOk n v) {q p : Nat} (h : gC cs q = some p) : q < cs.length ∧ p < n := by
  obtain ⟨h1, h2⟩ := (gC_some hc).mp h
  refine ⟨(List.getElem?_eq_some_iff.mp h1).1, ?_⟩
  rcases hc _ (List.mem_of_getElem? h1) with ⟨i, e, hi⟩ | ⟨c, e, _⟩
  · have := V.int.inj e
    omega
  · cases e
theorem gC_chg (hc : ∀ v ∈ cs, CellOk n v) {q p : Nat} (h : gC cs q = some p) : chgC cs q = true := by
  obtain ⟨h1, h2⟩ := (gC_some hc).mp h
  unfold chgC
  rw [h1]
  rw [decide_eq_false (fun z => h2 (by have := V.int.inj (Option.some.inj z); omega))]
  rfl
theorem gC_isSome {p : Nat} {v : V} (h : cs[p]? = some v) : (gC cs p).isSome = (match (generalizing := false) v with | .int i => !decide (i = (p : Nat)) | _ => false) := by
  have e : gC cs p = match some v with | some (.int i) => if i = (p : Nat) then none else some i.toNat | _ => none := by unfold gC; rw [h]
  rw [e]
  clear h
  cases v with
  | int i =>
    show (if i = (p : Nat) then (none : Option Nat) else some i.toNat).isSome = !decide (i = (p : Nat))
    by_cases e : i = (p : Nat)
    · rw [if_pos e, decide_eq_true e]; rfl
    · rw [if_neg e, decide_eq_false e]; rfl
  | _ => rfl
theorem gC_out {p : Nat} (h : cs.length ≤ p) : gC cs p = none := by
  unfold gC
  rw [List.getElem?_eq_none h]
/-- how many get each place -/
def rdT (cs : List V) (n : Nat) (l : List Nat) : List Nat := (List.range n).map fun p => (l.filter fun q => decide (gC cs q = some p)).length
def rdN (cs : List V) (n : Nat) : List Nat := (List.range n).map (indG (gC cs) cs.length)
theorem rdT_nil (cs : List V) (n : Nat) : rdT cs n [] = List.replicate n 0 := by
  unfold rdT
  rw [show (fun p => (([] : List Nat).filter fun q => decide (gC cs q = some p)).length) = fun _ => 0 from rfl, List.map_const', List.length_range]
theorem rdT_len (cs : List V) (n : Nat) (l : List Nat) : (rdT cs n l).length = n := by unfold rdT; rw [List.length_map, List.length_range]
theorem rdT_get (cs : List V) {n : Nat} (l : List Nat) {p : Nat} (h : p < n) : (rdT cs n l)[p]? = some (l.filter fun q => decide (gC cs q = some p)).length := by
  unfold rdT
  rw [List.getElem?_map, List.getElem?_range h]
  rfl
theorem rdT_no {l : List Nat} {q : Nat} (h : gC cs q = none) : rdT cs n (l ++ [q]) = rdT cs n l := by
  unfold rdT
  refine List.map_congr_left fun p hp => ?_
  rw [List.filter_append, List.length_append, List.filter_cons_of_neg (by rw [h]; simp), List.filter_nil]
  rfl
theorem rdT_yes {l : List Nat} {q p : Nat} (h : gC cs q = some p) (hp : p < n) : rdT cs n (l ++ [q]) = (rdT cs n l).set p ((l.filter fun q => decide (gC cs q = some p)).length + 1) := by
  refine List.ext_getElem? fun i => ?_
  by_cases hi : i < n
  · rw [rdT_get _ _ hi, List.getElem?_set, rdT_len]
    by_cases e : p = i
    · subst e
      rw [if_pos rfl, if_pos hp, List.filter_append, List.length_append, List.filter_cons_of_pos (by rw [h]; simp)]
      rfl
    · rw [if_neg e, rdT_get _ _ hi, List.filter_append, List.length_append, List.filter_cons_of_neg (by rw [h]; simpa using e)]
      rfl
  · rw [List.getElem?_eq_none (by rw [rdT_len]; omega), List.getElem?_eq_none (by rw [List.length_set, rdT_len]; omega)]
theorem rdT_chL (hc : ∀ v ∈ cs, CellOk n v) : rdT cs n (chL cs) = rdN cs n := by
  unfold rdT rdN indG chL
  refine List.map_congr_left fun p hp => ?_
  rw [List.filter_filter]
  congr 1
  refine List.filter_congr fun q hq => ?_
  rw [Bool.eq_iff_iff, Bool.and_eq_true, decide_eq_true_eq]
  exact ⟨fun h => h.1, fun h => ⟨h, gC_chg hc h⟩⟩
theorem rdN_get (cs : List V) {n p : Nat} (h : p < n) : (rdN cs n)[p]? = some (indG (gC cs) cs.length p) := by
  unfold rdN
  rw [List.getElem?_map, List.getElem?_range h]
  rfl
theorem rdN_len (cs : List V) (n : Nat) : (rdN cs n).length = n := by unfold rdN; rw [List.length_map, List.length_range]
theorem ch_len (cs : List V) : (chL cs).length ≤ cs.length := by
  have := List.length_filter_le (chgC cs) (List.range cs.length)
  rw [List.length_range] at this
  exact this
theorem ch_mem {q : Nat} : q ∈ chL cs ↔ q < cs.length ∧ chgC cs q = true := by unfold chL; rw [List.mem_filter, List.mem_range]
theorem walkG (hc : ∀ v ∈ cs, CellOk n v) : WalkOk (gC cs) (gC cs) cs.length := ⟨fun q p h => (gC_lt hc h).1, fun _ _ h => h, fun _ _ => rfl⟩
/-- the law's walk: only over those that one alone gets -/
def hC (cs : List V) (p : Nat) : Option Nat := if indG (gC cs) cs.length p = 1 then gC cs p else none
theorem walkH (hc : ∀ v ∈ cs, CellOk n v) : WalkOk (gC cs) (hC cs) cs.length := by
  refine ⟨fun q p h => (gC_lt hc h).1, fun q p h => ?_, fun q hq => ?_⟩
  · unfold hC at h
    split at h
    · exact h
    · cases h
  · obtain ⟨k, h1, h2⟩ := hq
    unfold hC
    rw [if_pos (h2 0 q rfl)]
theorem hC_one {q y : Nat} (h : hC cs q = some y) : indG (gC cs) cs.length q = 1 := by
  unfold hC at h
  split at h
  · assumption
  · cases h
noncomputable def purC (cs : List V) : Nat := cntM (gC cs) cs.length [] (List.range cs.length)
noncomputable def witC (cs : List V) : Nat := witS (gC cs) cs.length fun _ => True
theorem pur_ch (hc : ∀ v ∈ cs, CellOk n v) : cntM (gC cs) cs.length [] (chL cs) = purC cs := by
  have h : ∀ q, Pc (gC cs) cs.length q → chgC cs q = true := fun q hq => by
    obtain ⟨k, h1, _⟩ := hq
    obtain ⟨y, hy⟩ := it_some h1 1
    exact gC_chg hc hy
  exact cnt_filt h (List.range cs.length) []
def pureB (cs : List V) (r : List Nat) : Bool := r.all fun x => decide (indG (gC cs) cs.length x = 1)
/-- the rings as they are found, one way behind another -/
def wayF (cs : List V) : Nat → List Nat → List Nat → Nat → List Nat × Nat
  | 0, _, way, p => (way, p)
  | m + 1, sl, way, p => match gC cs p with
    | none => (way, p)
    | some y => if p ∈ sl ++ way then (way, p) else wayF cs m sl (way ++ [p]) y
def ringStep (cs : List V) (st : List Nat × List (List Nat)) (c : Nat) : List Nat × List (List Nat) :=
  (st.1 ++ (wayF cs (cs.length - st.1.length) st.1 [] c).1, if (wayF cs (cs.length - st.1.length) st.1 [] c).2 ∈ (wayF cs (cs.length - st.1.length) st.1 [] c).1 then st.2 ++ [(wayF cs (cs.length - st.1.length) st.1 [] c).1.drop ((wayF cs (cs.length - st.1.length) st.1 [] c).1.idxOf (wayF cs (cs.length - st.1.length) st.1 [] c).2)] else st.2)
def ringsF (cs : List V) : List (List Nat) := ((chL cs).foldl (ringStep cs) ([], [])).2
theorem wayF_stop {m : Nat} {sl way : List Nat} {p : Nat} (h : gC cs p = none ∨ p ∈ sl ∨ p ∈ way) : wayF cs m sl way p = (way, p) := by
  cases m with
  | zero => rfl
  | succ m =>
    unfold wayF
    cases e : gC cs p with
    | none => rfl
    | some y =>
      rcases h with h | h
      · rw [h] at e; cases e
      · exact if_pos (List.mem_append.mpr h)
theorem wayF_next {m : Nat} {sl way : List Nat} {p y : Nat} (h : gC cs p = some y) (hp : p ∉ sl ++ way) : wayF cs (m + 1) sl way p = wayF cs m sl (way ++ [p]) y := by
  show (match gC cs p with | none => (way, p) | some y => if p ∈ sl ++ way then (way, p) else wayF cs m sl (way ++ [p]) y) = _
  rw [h]
  exact if_neg hp
theorem step_in {i c p : Nat} {sl way : List Nat} {rs : List (List Nat)} (h0 : (sl, rs) = ((chL cs).take i).foldl (ringStep cs) ([], [])) (et : (chL cs).take (i + 1) = (chL cs).take i ++ [c]) (h : (way, p) = wayF cs (cs.length - sl.length) sl [] c) :
    (p ∉ way → (sl ++ way, rs) = ((chL cs).take (i + 1)).foldl (ringStep cs) ([], [])) ∧ (p ∈ way → (sl ++ way, rs ++ [way.drop (way.idxOf p)]) = ((chL cs).take (i + 1)).foldl (ringStep cs) ([], [])) := by
  rw [et, List.foldl_append, ← h0]
  show (_ → _ = ringStep cs (sl, rs) c) ∧ (_ → _ = ringStep cs (sl, rs) c)
  unfold ringStep
  rw [← h]
  exact ⟨fun e => by rw [if_neg e], fun e => by rw [if_pos e]⟩
theorem idx_get {way : List Nat} {p : Nat} (e : p ∈ way) : way[way.idxOf p]? = some p := by
  have hl := List.idxOf_lt_length_of_mem e
  rw [List.getElem?_eq_getElem hl]
  exact congrArg some (List.getElem_idxOf hl)
structure RgsOk (cs : List V) (rs : List (List Nat)) : Prop where
  ok : RsOk (gC cs) rs
  pur : (rs.filter (pureB cs)).length = purC cs
  ex : rs = ringsF cs
def rgD (rs : List (List Nat)) : PyData := .list (rs.map fun r => .list (r.map fun (x : Nat) => .int (x : Nat)))
theorem RgsOk.lt {rs : List (List Nat)} (h : RgsOk cs rs) (hc : ∀ v ∈ cs, CellOk n v) {r : List Nat} (hr : r ∈ rs) {x : Nat} (hx : x ∈ r) : x < n ∧ x < cs.length := by
  obtain ⟨y, hy, hg⟩ := h.ok.got hr hx
  obtain ⟨k, hk⟩ := List.mem_iff_getElem?.mp hx
  have h1 := h.ok.nx r hr k x hk
  have hl : 0 < r.length := List.length_pos_iff.mpr (h.ok.ne r hr)
  have h2 := Nat.mod_lt (k + 1) hl
  rw [List.getElem?_eq_getElem h2] at h1
  exact ⟨(gC_lt hc hg).2, (gC_lt hc h1).1⟩
/-- the turn of the walk through all rings -/
structure RgI (cs : List V) (l : List Nat) (rs : List (List Nat)) (S : Nat → Prop) : Prop where
  r : RsI (gC cs) rs S
  si : SI (gC cs) cs.length l S
  pur : (rs.filter (pureB cs)).length = cntM (gC cs) cs.length [] l
  al : ∀ q ∈ l, gC cs q ≠ none → S q
theorem rgI_nil (cs : List V) : RgI cs [] [] fun _ => False := ⟨rsI_nil, si_nil, rfl, fun _ h => nomatch h⟩
theorem RgI.step (hc : ∀ v ∈ cs, CellOk n v) {l : List Nat} {rs : List (List Nat)} {S : Nat → Prop} {way : List Nat} {i p : Nat} (h : RgI cs l rs S) (w : WayOk (gC cs) S i way p) (he : gC cs p = none ∨ S p ∨ p ∈ way) :
    (p ∉ way → RgI cs (l ++ [i]) rs fun x => S x ∨ x ∈ way) ∧ ∀ k, way[k]? = some p → RgI cs (l ++ [i]) (rs ++ [way.drop k]) fun x => S x ∨ x ∈ way := by
  have hst := h.r.walk w he
  have hal : ∀ q ∈ l ++ [i], gC cs q ≠ none → S q ∨ q ∈ way := fun q hq hg => by
    rcases List.mem_append.mp hq with hq | hq
    · exact .inl (h.al q hq hg)
    · rw [List.mem_singleton.mp hq] at hg ⊢
      by_cases hl : 0 < way.length
      · have h5 := w.at_ 0 way[0] (List.getElem?_eq_getElem hl)
        have h6 : (some i : Option Nat) = some way[0] := h5
        rw [Option.some.inj h6]
        exact .inr (List.getElem_mem hl)
      · have h0 : way = [] := List.length_eq_zero_iff.mp (by omega)
        subst h0
        have h6 : (some i : Option Nat) = some p := w.p
        have h7 := Option.some.inj h6
        subst h7
        rcases he with he | he | he
        · exact absurd he hg
        · exact .inl he
        · cases he
  have ht := prog_test (walkG hc) h.si w he
  refine ⟨fun hp => ⟨hst.1 hp, h.si.walk (walkG hc) w he, ?_, hal⟩, fun k hk => ⟨hst.2 k hk, h.si.walk (walkG hc) w he, ?_, hal⟩⟩
  · rw [cntM_snoc, ← h.pur, List.nil_append, if_neg (fun z => by obtain ⟨k, hk, _⟩ := ht.mpr z; exact hp (List.mem_of_getElem? hk))]
    rfl
  · rw [cntM_snoc, ← h.pur, List.filter_append, List.length_append, List.nil_append]
    congr 1
    by_cases e : pureB cs (way.drop k) = true
    · rw [List.filter_cons_of_pos e, if_pos (ht.mp ⟨k, hk, fun x hx => of_decide_eq_true (List.all_eq_true.mp e x hx)⟩)]
      rfl
    · have hz : ¬ Mn (gC cs) cs.length l i := fun z => by
        obtain ⟨k2, hk2, hu⟩ := ht.mpr z
        have hkl := (List.getElem?_eq_some_iff.mp hk).1
        have hkl2 := (List.getElem?_eq_some_iff.mp hk2).1
        have : k2 = k := by
          have e1 := (List.getElem?_eq_some_iff.mp hk).2
          have e2 := (List.getElem?_eq_some_iff.mp hk2).2
          rcases Nat.lt_trichotomy k k2 with h1 | h1 | h1
          · exact absurd (e1.trans e2.symm) (List.pairwise_iff_getElem.mp w.nd _ _ hkl hkl2 h1)
          · exact h1.symm
          · exact absurd (e2.trans e1.symm) (List.pairwise_iff_getElem.mp w.nd _ _ hkl2 hkl h1)
        subst this
        exact e (List.all_eq_true.mpr fun x hx => decide_eq_true (hu x hx))
      rw [List.filter_cons_of_neg e, if_neg hz]
      rfl
theorem RgI.done (hc : ∀ v ∈ cs, CellOk n v) {rs : List (List Nat)} {S : Nat → Prop} (h : RgI cs (chL cs) rs S) (hx : rs = ringsF cs) : RgsOk cs rs := by
  refine ⟨h.r.done fun x hx => ?_, by rw [h.pur, pur_ch hc], hx⟩
  cases e : gC cs x with
  | none => exact absurd e hx
  | some y => exact h.al x (ch_mem.mpr ⟨(gC_lt hc e).1, gC_chg hc e⟩) hx
/-- the law's turns -/
structure LpI (cs : List V) (l : List Nat) (rings within : Nat) (S : Nat → Prop) : Prop where
  si : SI (gC cs) cs.length l S
  r : rings = cntM (gC cs) cs.length [] l
  w : within = witS (gC cs) cs.length S
theorem LpI.step (hc : ∀ v ∈ cs, CellOk n v) {l : List Nat} {rings within : Nat} {S : Nat → Prop} {way : List Nat} {i p : Nat} (h : LpI cs l rings within S) (w : WayOk (hC cs) S i way p) (he : hC cs p = none ∨ S p ∨ p ∈ way) :
    ((way ≠ [] ∧ p = i) → LpI cs (l ++ [i]) (rings + 1) (within + way.length) fun x => S x ∨ x ∈ way) ∧ (¬ (way ≠ [] ∧ p = i) → LpI cs (l ++ [i]) rings within fun x => S x ∨ x ∈ way) := by
  have ht := law_test (walkH hc) h.si w he fun q y hq => hC_one hq
  have hw := wit_step (walkH hc) h.si w he
  constructor
  · intro z
    refine ⟨h.si.walk (walkH hc) w he, ?_, ?_⟩
    · rw [cntM_snoc, h.r, List.nil_append, if_pos (ht.mp z)]
    · rw [hw, h.w, if_pos (ht.mp z)]
  · intro z
    refine ⟨h.si.walk (walkH hc) w he, ?_, ?_⟩
    · rw [cntM_snoc, h.r, List.nil_append, if_neg (fun y => z (ht.mpr y))]
      rfl
    · rw [hw, h.w, if_neg (fun y => z (ht.mpr y))]
      rfl
theorem LpI.done {rings within : Nat} {S : Nat → Prop} (hc : ∀ v ∈ cs, CellOk n v) (h : LpI cs (List.range cs.length) rings within S) : rings = purC cs ∧ within = witC cs := by
  refine ⟨h.r, ?_⟩
  rw [h.w]
  unfold witC witS
  congr 1
  refine List.filter_congr fun x hx => ?_
  rw [Bool.eq_iff_iff, @decide_eq_true_eq _ (Classical.propDecidable _), @decide_eq_true_eq _ (Classical.propDecidable _)]
  constructor
  · rintro ⟨h1, _⟩
    exact ⟨h1, trivial⟩
  · rintro ⟨h1, _⟩
    exact ⟨h1, (h.si x h1).mpr ⟨x, hx, 0, rfl⟩⟩
end
def rngD (r : List Nat) : PyData := .list (r.map fun (x : Nat) => .int (x : Nat))
/-- what a dict of places seen holds -/
structure SnOk (cs : List V) (kvs : List (Key × V)) (sl : List Nat) : Prop where
  nd : sl.Nodup
  lt : ∀ x ∈ sl, x < cs.length
  len : kvs.length ≤ sl.length
  k : ∀ x : Nat, (valV kvs (.inl (x : Int))).isSome = decide (x ∈ sl)
theorem snOk_nil (cs : List V) : SnOk cs [] [] := ⟨List.nodup_nil, (fun _ h => nomatch h), Nat.le_refl _, fun _ => rfl⟩
/-- .. and on a way -/
structure SnW (cs : List V) (kvs : List (Key × V)) (sl way : List Nat) : Prop where
  s : SnOk cs kvs (sl ++ way)
  w : ∀ k x : Nat, way[k]? = some x → valV kvs (.inl (x : Int)) = some (.int (k : Nat))
theorem SnOk.way {cs : List V} {kvs : List (Key × V)} {sl : List Nat} (h : SnOk cs kvs sl) : SnW cs kvs sl [] := ⟨by rw [List.append_nil]; exact h, fun k x e => by simp at e⟩
theorem SnOk.le {cs : List V} {kvs : List (Key × V)} {sl : List Nat} (h : SnOk cs kvs sl) : sl.length ≤ cs.length := nodup_lt _ _ h.nd h.lt
theorem SnW.next {cs : List V} {kvs : List (Key × V)} {sl way : List Nat} {p : Nat} (h : SnW cs kvs sl way) (hp : p < cs.length) (hn : p ∉ sl ++ way) : SnW cs (putK kvs (.inl (p : Int)) (.int (way.length : Nat))) sl (way ++ [p]) := by
  have hv : ∀ x : Nat, valV (putK kvs (.inl (p : Int)) (.int (way.length : Nat))) (.inl (x : Int)) = if x = p then some (.int (way.length : Nat)) else valV kvs (.inl (x : Int)) := fun x => by
    rw [valV_put]
    by_cases e : x = p
    · rw [if_pos (by rw [e]), if_pos e]
    · rw [if_neg (by intro z; exact e (by have := Sum.inl.inj z; omega)), if_neg e]
  refine ⟨⟨?_, fun x hx => ?_, ?_, fun x => ?_⟩, fun k x hk => ?_⟩
  · rw [← List.append_assoc, List.nodup_append]
    exact ⟨h.s.nd, List.nodup_cons.mpr ⟨(fun z => nomatch z), List.nodup_nil⟩, fun a ha b hb e => hn (by rw [List.mem_singleton.mp hb] at e; exact e ▸ ha)⟩
  · rw [← List.append_assoc] at hx
    rcases List.mem_append.mp hx with hx | hx
    · exact h.s.lt x hx
    · rw [List.mem_singleton.mp hx]; exact hp
  · have h1 := length_putK kvs (.inl (p : Int)) (.int (way.length : Nat))
    have h2 := h.s.len
    rw [← List.append_assoc, List.length_append]
    show _ ≤ _ + 1
    omega
  · rw [hv, ← List.append_assoc]
    by_cases e : x = p
    · rw [if_pos e, e, decide_eq_true (List.mem_append_right _ (List.mem_singleton.mpr rfl))]
      rfl
    · rw [if_neg e, h.s.k, decide_eq_decide]
      constructor
      · exact fun z => List.mem_append_left _ z
      · intro z
        rcases List.mem_append.mp z with z | z
        · exact z
        · exact absurd (List.mem_singleton.mp z) e
  · rw [hv]
    by_cases hkl : k < way.length
    · rw [List.getElem?_append_left hkl] at hk
      rw [if_neg (fun (e : x = p) => hn (List.mem_append_right _ (e ▸ List.mem_of_getElem? hk)))]
      exact h.w k x hk
    · have hl := (List.getElem?_eq_some_iff.mp hk).1
      rw [List.length_append] at hl
      have : k = way.length := by
        have : k < way.length + 1 := hl
        omega
      subst this
      rw [List.getElem?_append_right (Nat.le_refl _), Nat.sub_self] at hk
      cases hk
      rw [if_pos rfl]
theorem SnOk.put {cs : List V} {kvs : List (Key × V)} {sl : List Nat} {p : Nat} {v : V} (h : SnOk cs kvs sl) (hp : p < cs.length) (hn : p ∉ sl) : SnOk cs (putK kvs (.inl (p : Int)) v) (sl ++ [p]) := by
  refine ⟨List.nodup_append.mpr ⟨h.nd, List.nodup_cons.mpr ⟨(fun z => nomatch z), List.nodup_nil⟩, fun a ha b hb e => hn (by rw [List.mem_singleton.mp hb] at e; exact e ▸ ha)⟩, fun x hx => ?_, ?_, fun x => ?_⟩
  · rcases List.mem_append.mp hx with hx | hx
    · exact h.lt x hx
    · rw [List.mem_singleton.mp hx]; exact hp
  · have h1 := length_putK kvs (.inl (p : Int)) v
    have h2 := h.len
    rw [List.length_append]
    show _ ≤ _ + 1
    omega
  · rw [valV_put]
    by_cases e : x = p
    · rw [if_pos (by rw [e]), e, decide_eq_true (List.mem_append_right _ (List.mem_singleton.mpr rfl))]
      rfl
    · rw [if_neg (by intro z; exact e (by have := Sum.inl.inj z; omega)), h.k, decide_eq_decide]
      constructor
      · exact fun z => List.mem_append_left _ z
      · intro z
        rcases List.mem_append.mp z with z | z
        · exact z
        · exact absurd (List.mem_singleton.mp z) e
theorem pick_nat {rs : List Nat} {i : Int} (h0 : 0 ≤ i) (h1 : i < (rs.length : Int)) : ∃ x, x ∈ rs ∧ atI (rs.map fun (k : Nat) => V.int (k : Nat)) i = some (.int (x : Nat)) := by
  obtain ⟨j, rfl⟩ : ∃ j : Nat, i = (j : Int) := ⟨i.toNat, by omega⟩
  have hj : j < rs.length := by omega
  exact ⟨rs[j], List.getElem_mem hj, atI_nat (by rw [List.getElem?_map, List.getElem?_eq_getElem hj]; rfl)⟩
theorem map_eraseN {α β : Type} (f : α → β) : ∀ (l : List α) (k : Nat), (l.map f).eraseIdx k = (l.eraseIdx k).map f
  | [], _ => rfl
  | _ :: _, 0 => rfl
  | a :: l, k + 1 => by
    show f a :: (l.map f).eraseIdx k = f a :: (l.eraseIdx k).map f
    rw [map_eraseN f l k]
theorem snoc_of {α : Type} {l : List α} (h : l ≠ []) : ∃ a x, l = a ++ [x] := ⟨l.dropLast, l.getLast h, (List.dropLast_concat_getLast h).symm⟩
theorem ixN_m1 {n : Nat} (h : 0 < n) : ixN n (-1) = some (n - 1) := by
  unfold ixN
  simp
  omega
theorem chars_cat (s t : Str) : chars (s ++ t) = chars s ++ chars t := by
  unfold chars
  rw [← List.map_append]
  congr 1
  show (s ++ t).cps.toList = _
  exact Array.toList_append
theorem atI_last {α : Type} {l : List α} {x : α} : atI (l ++ [x]) (-1) = some x := lastS (by rw [List.length_append, show l.length + [x].length - 1 = l.length by simp, List.getElem?_append_right (Nat.le_refl _), Nat.sub_self]; rfl)
theorem cells_snoc (rows : List CRow) (r : CRow) : cellsV (rows ++ [r]) = cellsV rows ++ r.cellV := by
  unfold cellsV
  rw [List.flatMap_append, List.flatMap_cons, List.flatMap_nil, List.append_nil]
theorem cell_more (a m : Nat) : (CRow.copy a (m + 1)).cellV = (CRow.copy a m).cellV ++ [.int ((a + m : Nat) : Int)] := by
  show (List.range (m + 1)).map _ = _
  rw [List.range_succ, List.map_append]
  rfl
theorem cell_cat (s : Str) (c : Nat) : (CRow.put (s ++ ⟨#[c]⟩)).cellV = (CRow.put s).cellV ++ [.str ⟨#[c]⟩] := by
  show chars (s ++ ⟨#[c]⟩) = _
  rw [chars_cat]
  rfl
theorem one_ok {c : Nat} (h : c < 0x110000) : okS ⟨#[c]⟩ := by
  show (⟨#[c]⟩ : Str).cps.all (· < 0x110000) = true
  rw [← Array.all_toList]
  simpa using h
theorem n_dgetV {H : Hp} {Q : VK} {D : Addr} {kvs : List (Key × V)} {b : Nat} {v : V} (h : H D = some (.dK kvs)) (e : valV kvs (.inl (b : Int)) = some v) (q : Q v H) : gDGet (.ref D) (.int (b : Nat)) H Q := ⟨D, v, rfl, e ▸ DGet.k (k := .inl (b : Int)) h, q⟩
theorem way_nil0 : (fun x => x ∈ ([] : List Nat)) = fun _ => False := funext fun _ => propext ⟨(fun h => nomatch h), False.elim⟩
theorem way_seen {sl way : List Nat} : (fun x => x ∈ sl ∨ x ∈ way) = fun x => x ∈ sl ++ way := funext fun _ => propext List.mem_append.symm
/-! ### promises -/
def φgets31 (K : PySem.W.Frag) : V → V → Hp → VK → Prop := fun x y H Q => ∃ (F : Hp) (a : Addr) (cs : List V) (p : Nat), x = .ref a ∧ y = .int (p : Nat) ∧ Same F H ∧ SqL K F a cs ∧ (∀ v ∈ cs, FlatV v) ∧ cs.length ≤ 1000 ∧
  ∀ F2 H2, W [] F H F2 H2 [] → Q (.bl (gC cs p).isSome) H2
def φchanging (K : PySem.W.Frag) : V → Hp → VK → Prop := fun x H Q => ∃ (F : Hp) (a : Addr) (cs : List V), x = .ref a ∧ Same F H ∧ SqL K F a cs ∧ (∀ v ∈ cs, FlatV v) ∧ cs.length ≤ 1000 ∧
  ∀ p F2 H2, H p = none → W [] F H F2 H2 [mu p (lstN (chL cs))] → Q (.ref p) H2
def φreaders (K : PySem.W.Frag) : V → V → Hp → VK → Prop := fun x y H Q => ∃ (F : Hp) (a : Addr) (cs : List V) (n : Nat), x = .ref a ∧ y = .int (n : Nat) ∧ Same F H ∧ SqL K F a cs ∧ (∀ v ∈ cs, CellOk n v) ∧ cs.length ≤ 400 ∧ n ≤ 400 ∧
  ∀ p F2 H2, H p = none → W [] F H F2 H2 [mu p (lstN (rdN cs n))] → Q (.ref p) H2
def φrings (K : PySem.W.Frag) : V → Hp → VK → Prop := fun x H Q => ∃ (F : Hp) (a : Addr) (cs : List V) (n : Nat), x = .ref a ∧ Same F H ∧ SqL K F a cs ∧ (∀ v ∈ cs, CellOk n v) ∧ cs.length ≤ 400 ∧
  ∀ v rs F2 H2, W [] F H F2 H2 [dat K v (rgD rs)] → RgsOk cs rs → rs.length ≤ 400 → Q v H2
def φis_pure (K : PySem.W.Frag) : V → V → Hp → VK → Prop := fun x y H Q => ∃ (F : Hp) (a b : Addr) (cs : List V) (n : Nat) (r : List Nat), x = .ref a ∧ y = .ref b ∧ Same F H ∧ SqL K F a (r.map fun (k : Nat) => V.int (k : Nat)) ∧ SqL K F b ((rdN cs n).map fun (k : Nat) => V.int (k : Nat)) ∧ (∀ x ∈ r, x < n) ∧ n ≤ 400 ∧ cs.length ≤ 400 ∧ r.length ≤ 400 ∧
  ∀ F2 H2, W [] F H F2 H2 [] → Q (.bl (pureB cs r)) H2
def φlsign (K : PySem.W.Frag) : V → V → Hp → VK → Prop := fun x y H Q => ∃ (F : Hp) (b : Addr) (few : Bool), x = .ref b ∧ y = .bl few ∧ St F H [bag K b] ∧
  ∀ (c : Nat) F2 H2, W [b] F H F2 H2 [bag K b] → c < 0x110000 → Q (.str ⟨#[c]⟩) H2
def φlringcells (K : PySem.W.Frag) : V → V → Hp → VK → Prop := fun x y H Q => ∃ (F : Hp) (b : Addr) (n : Nat), x = .ref b ∧ y = .int (n : Nat) ∧ St F H [bag K b] ∧ n ≤ 400 ∧
  ∀ p (zs : List Nat) F2 H2, H p = none → W [b] F H F2 H2 [mu p (lstN zs), bag K b] → zs.length = n → (∀ z ∈ zs, z < n ∨ z = 0) → Q (.ref p) H2
def φlcell (K : PySem.W.Frag) : V → V → V → Hp → VK → Prop := fun x y z H Q => ∃ (F : Hp) (b : Addr) (n : Nat) (few : Bool), x = .ref b ∧ y = .int (n : Nat) ∧ z = .bl few ∧ St F H [bag K b] ∧ n ≤ 400 ∧
  ∀ v F2 H2, W [b] F H F2 H2 [bag K b] → CellOk n v → Q v H2
def φlrows31 (K : PySem.W.Frag) : V → V → Hp → VK → Prop := fun x y H Q => ∃ (F : Hp) (b a : Addr) (cs : List V) (n : Nat), x = .ref b ∧ y = .ref a ∧ St F H [bag K b] ∧ SqL K F a cs ∧ (∀ v ∈ cs, CellOk n v) ∧ cs.length ≤ 400 ∧
  ∀ p ys rows F2 H2, H p = none → W [b] F H F2 H2 [mu p (.lst ys), dpa K ys (rows.map CRow.d), bag K b] → RowsOk n rows → cellsV rows = cs → Q (.ref p) H2
def casD (n : Nat) (cs : List V) (rows : List CRow) : PyData := .tuple [.int (n : Nat), .list (cs.map flatD), .list (rows.map CRow.d)]
theorem sig_pick {z : Str} (h : okS z) {r : Int} (h0 : 0 ≤ r) (h1 : r < (z.length : Int)) : ∃ c, atI z.cps.toList r = some c ∧ c < 0x110000 := by
  obtain ⟨j, rfl⟩ : ∃ j : Nat, r = (j : Int) := ⟨r.toNat, by omega⟩
  have hl : z.cps.toList.length = z.length := by simp [Str.length]
  have hj : j < z.cps.toList.length := by omega
  refine ⟨z.cps.toList[j], atI_nat (List.getElem?_eq_getElem hj), ?_⟩
  have h9 : z.cps.all (· < 0x110000) = true := h
  rw [← Array.all_toList] at h9
  have h8 := List.all_eq_true.mp h9 z.cps.toList[j] (List.getElem_mem hj)
  exact of_decide_eq_true h8
/-! ### the cases and their changes -/
structure Cs where
  n : Nat
  cs : List V
  rows : List CRow
def Cs.d (u : Cs) : PyData := casD u.n u.cs u.rows
theorem dpa_setL {K : PySem.W.Frag} {F : Hp} {ys : List V} {ds0 : List PyData} {d0 d : PyData} {v : V} (h : DpAll K F ys (ds0 ++ [d0])) (hd : Dp K F v d) : DpAll K F (ys.set (ys.length - 1) v) (ds0 ++ [d]) := by
  have hl := dpa_len h
  rw [List.length_append, List.length_singleton] at hl
  have h1 := dpa_takeJ ds0.length h
  rw [List.take_left] at h1
  have e : ys.set (ys.length - 1) v = ys.take ds0.length ++ [v] := by
    rw [List.set_eq_take_append_cons_drop, if_pos (by omega), show ys.length - 1 = ds0.length by omega, List.drop_of_length_le (by omega)]
  rw [e]
  exact dpa_snoc h1 hd
theorem rowok_one {n k : Nat} (h : k < n) : CRowOk n (.copy k 1) := ⟨trivial, Nat.le_refl _, h⟩
theorem rowok_more {n a m : Nat} (h : CRowOk n (.copy a m)) (hk : a + m < n) : CRowOk n (.copy a (m + 1)) := ⟨trivial, Nat.le_add_left .., hk⟩
theorem rowok_char {n c : Nat} (h : c < 0x110000) : CRowOk n (.put ⟨#[c]⟩) := ⟨⟨one_ok h, (show (1 : Nat) ≤ 1000 by decide)⟩, Nat.le_refl _, Nat.zero_le _⟩
end R
namespace R
open PySem PySem.Spec PyProof.Rows L2
/-! ### rows of one cell, gone -/
theorem laid_one {xs : List V} {p : Nat} {v : V} (h : p < xs.length) : laidL xs p [v] = xs.set p v := by
  unfold laidL
  rw [List.set_eq_take_append_cons_drop, if_pos h, List.append_assoc]
  rfl
theorem held_one {xs : List V} {w : Nat} {v : V} (h : xs[w]? = some v) (hv : inV .non [v] = false) : heldV xs (w : Nat) 1 = some [v] := by
  have hl := (List.getElem?_eq_some_iff.mp h).1
  have e : (xs.drop ((w : Nat) : Int).toNat).take (1 : Int).toNat = [v] := by
    rw [Int.toNat_natCast, show (1 : Int).toNat = 1 from rfl, List.drop_eq_getElem_cons hl, (List.getElem?_eq_some_iff.mp h).2]
    rfl
  unfold heldV
  rw [if_neg (by omega), e, if_neg (by rw [hv]; decide)]
theorem do_copy {cs ss : List V} {p w : Nat} {v : V} (hp : p < cs.length) (hw : cs[w]? = some v) (hv : inV .non [v] = false) (hne : p ≠ w) : doneV (.copy (p : Nat) (w : Nat) 1) cs ss = some (cs.set p v, ss) := by
  have e : whatV cs ss (.copy (p : Nat) (w : Nat) 1) = some [v] := by
    show (if ((p : Nat) : Int) = ((w : Nat) : Int) then none else heldV cs (w : Nat) 1) = _
    rw [if_neg (by omega), held_one hw hv]
  unfold doneV
  rw [e]
  show (if ((p : Nat) : Int) < 0 ∨ ((cs.length : Nat) : Int) < ((p : Nat) : Int) + ((1 : Nat) : Int) then none else some (laidL cs ((p : Nat) : Int).toNat [v], ss)) = _
  rw [if_neg (by omega), Int.toNat_natCast, laid_one hp]
theorem do_put {cs ss : List V} {p c : Nat} (hp : p < cs.length) : doneV (.put (p : Nat) ⟨#[c]⟩) cs ss = some (cs.set p (.str ⟨#[c]⟩), ss) := by
  have e : whatV cs ss (.put (p : Nat) ⟨#[c]⟩) = some [.str ⟨#[c]⟩] := rfl
  unfold doneV
  rw [e]
  show (if ((p : Nat) : Int) < 0 ∨ ((cs.length : Nat) : Int) < ((p : Nat) : Int) + ((1 : Nat) : Int) then none else some (laidL cs ((p : Nat) : Int).toNat [.str ⟨#[c]⟩], ss)) = _
  rw [if_neg (by omega), Int.toNat_natCast, laid_one hp]
theorem do_keep {cs ss : List V} {w : Nat} {v : V} (h0 : 0 < ss.length) (hw : cs[w]? = some v) (hv : inV .non [v] = false) : doneV (.keep 0 (w : Nat) 1) cs ss = some (cs, ss.set 0 v) := by
  have e : whatV cs ss (.keep 0 (w : Nat) 1) = some [v] := held_one hw hv
  unfold doneV
  rw [e]
  show (if (0 : Int) < 0 ∨ ((ss.length : Nat) : Int) < (0 : Int) + ((1 : Nat) : Int) then none else some (cs, laidL ss (0 : Int).toNat [v])) = _
  rw [if_neg (by omega), show (0 : Int).toNat = 0 from rfl, laid_one h0]
theorem do_lay {cs ss : List V} {p : Nat} {v : V} (hp : p < cs.length) (hw : ss[0]? = some v) (hv : inV .non [v] = false) : doneV (.lay (p : Nat) 0 1) cs ss = some (cs.set p v, ss) := by
  have e : whatV cs ss (.lay (p : Nat) 0 1) = some [v] := held_one (w := 0) hw hv
  unfold doneV
  rw [e]
  show (if ((p : Nat) : Int) < 0 ∨ ((cs.length : Nat) : Int) < ((p : Nat) : Int) + ((1 : Nat) : Int) then none else some (laidL cs ((p : Nat) : Int).toNat [v], ss)) = _
  rw [if_neg (by omega), Int.toNat_natCast, laid_one hp]
theorem nn_int (i : Int) : inV .non [.int i] = false := rfl
theorem step1 {r : JR} {rs : List JR} {st s2 : List V × List V} (h : doneV r st.1 st.2 = some s2) : stepsJ (r :: rs) st = stepsJ rs s2 := by
  show (doneV r st.1 st.2).bind (stepsJ rs) = _
  rw [h]
  rfl
theorem steps_two {a b : List JR} {st s2 : List V × List V} (h : stepsJ a st = some s2) : stepsJ (a ++ b) st = stepsJ b s2 := by
  rw [steps_app, h]
  rfl
/-- the rows of a ring but its last -/
def rndR : List Nat → List JR
  | a :: b :: t => .copy (a : Nat) (b : Nat) 1 :: rndR (b :: t)
  | _ => []
theorem rnd_len : ∀ r : List Nat, (rndR r).length = r.length - 1
  | [] => rfl
  | [_] => rfl
  | a :: b :: t => by
    show (rndR (b :: t)).length + 1 = _
    rw [rnd_len (b :: t)]
    show t.length + 1 - 1 + 1 = t.length + 1 + 1 - 1
    omega
theorem rnd_get : ∀ (r : List Nat) {k a b : Nat}, r[k]? = some a → r[k + 1]? = some b → (rndR r)[k]? = some (.copy (a : Nat) (b : Nat) 1)
  | [], _, _, _, h, _ => by simp at h
  | [x], 0, _, _, _, h => by simp at h
  | [x], k + 1, _, _, h, _ => by simp at h
  | x :: y :: t, 0, _, _, h1, h2 => by
    cases h1
    cases h2
    rfl
  | x :: y :: t, k + 1, a, b, h1, h2 => rnd_get (y :: t) (k := k) h1 h2
theorem rnd_run : ∀ (r : List Nat) (room ss : List V), r.Nodup → (∀ x ∈ r, x < room.length) → (∀ x ∈ r.tail, room[x]? = some (.int (x : Nat))) →
    ∃ room2, stepsJ (rndR r) (room, ss) = some (room2, ss) ∧ room2.length = room.length ∧ (∀ k a b, r[k]? = some a → r[k + 1]? = some b → room2[a]? = some (.int (b : Nat))) ∧ ∀ x, x ∉ r.dropLast → room2[x]? = room[x]?
  | [], room, ss, _, _, _ => ⟨room, rfl, rfl, (fun k a b h => by simp at h), fun x _ => rfl⟩
  | [y], room, ss, _, _, _ => ⟨room, rfl, rfl, (fun k a b _ h => by simp at h), fun x _ => rfl⟩
  | a :: b :: t, room, ss, hn, hl, ho => by
    have hab : a ∉ b :: t := (List.nodup_cons.mp hn).1
    have hal := hl a (List.mem_cons_self ..)
    have hb := ho b (List.mem_cons_self ..)
    obtain ⟨room2, h1, h2, h3, h4⟩ := rnd_run (b :: t) (room.set a (.int (b : Nat))) ss (List.nodup_cons.mp hn).2 (fun x hx => by rw [List.length_set]; exact hl x (List.mem_cons_of_mem _ hx)) (fun x hx => by
      have hx2 : x ∈ b :: t := List.mem_cons_of_mem _ hx
      rw [List.getElem?_set_ne (fun (e : a = x) => hab (e ▸ hx2))]
      exact ho x hx2)
    refine ⟨room2, ?_, by rw [h2, List.length_set], fun k x y hx hy => ?_, fun x hx => ?_⟩
    · rw [show rndR (a :: b :: t) = .copy (a : Nat) (b : Nat) 1 :: rndR (b :: t) from rfl, step1 (st := (room, ss)) (do_copy hal hb (nn_int _) fun e => hab (by rw [e]; exact List.mem_cons_self ..))]
      exact h1
    · cases k with
      | zero =>
        cases hx
        cases hy
        rw [h4 a (fun z => hab (List.dropLast_subset _ z)), List.getElem?_set_self hal]
      | succ k => exact h3 k x y hx hy
    · have hx1 : x ≠ a := fun e => hx (by rw [e]; exact List.mem_cons_self ..)
      rw [h4 x (fun z => hx (List.mem_cons_of_mem _ z)), List.getElem?_set_ne (fun e => hx1 e.symm)]
/-- a ring, gone to its end -/
theorem ring_run {g : Nat → Option Nat} {r : List Nat} {room ss : List V} {R : JR} {f l : Nat} (hn : r.Nodup) (hlt : ∀ x ∈ r, x < room.length) (ho : ∀ x ∈ r.tail, room[x]? = some (.int (x : Nat))) (h0 : r[0]? = some f) (hl : r[r.length - 1]? = some l)
    (nx : ∀ (k x : Nat), r[k]? = some x → g x = r[(k + 1) % r.length]?)
    (hR : ∀ room2 : List V, room2.length = room.length → (∀ x, x ∉ r → room2[x]? = room[x]?) → doneV R room2 ss = some (room2.set l (.int (f : Nat)), ss)) :
    ∃ room2, stepsJ (rndR r ++ [R]) (room, ss) = some (room2, ss) ∧ room2.length = room.length ∧ (∀ x y, x ∈ r → g x = some y → room2[x]? = some (.int (y : Nat))) ∧ ∀ x, x ∉ r → room2[x]? = room[x]? := by
  obtain ⟨room2, h1, h2, h3, h4⟩ := rnd_run r room ss hn hlt ho
  have hlm := List.mem_of_getElem? hl
  have h4' : ∀ x, x ∉ r → room2[x]? = room[x]? := fun x hx => h4 x fun z => hx (List.dropLast_subset _ z)
  refine ⟨room2.set l (.int (f : Nat)), ?_, by rw [List.length_set, h2], fun x y hx hy => ?_, fun x hx => ?_⟩
  · rw [steps_two h1, step1 (st := (room2, ss)) (hR room2 h2 h4')]
    rfl
  · obtain ⟨k, hk⟩ := List.mem_iff_getElem?.mp hx
    have hkl := (List.getElem?_eq_some_iff.mp hk).1
    rw [nx k x hk] at hy
    by_cases hkk : k + 1 < r.length
    · rw [Nat.mod_eq_of_lt hkk] at hy
      have hne : l ≠ x := fun e => by
        obtain ⟨q1, q2⟩ := List.getElem?_eq_some_iff.mp hk
        obtain ⟨q3, q4⟩ := List.getElem?_eq_some_iff.mp hl
        exact List.pairwise_iff_getElem.mp hn k (r.length - 1) q1 q3 (by omega) (by rw [q2, q4, e])
      rw [List.getElem?_set_ne hne]
      exact h3 k x y hk hy
    · have e1 : k = r.length - 1 := by omega
      rw [show k + 1 = r.length by omega, Nat.mod_self, h0] at hy
      cases hy
      rw [e1, hl] at hk
      cases hk
      rw [List.getElem?_set_self (by rw [h2]; exact hlt l hlm)]
  · rw [List.getElem?_set_ne (fun (e : l = x) => hx (e ▸ hlm))]
    exact h4' x hx
/-! ### what the room holds on the way -/
structure RmI (cs : List V) (n N : Nat) (D : Nat → Prop) (sp : Option Nat) (room : List V) : Prop where
  l : room.length = N
  old : ∀ p, p < n → ¬ D p → sp ≠ some p → room[p]? = some (.int (p : Nat))
  due : ∀ p, D p → room[p]? = cs[p]?
section
variable {cs : List V} {n N : Nat} {D : Nat → Prop} {sp : Option Nat} {room ss : List V}
theorem RmI.congr {D2 : Nat → Prop} (h : RmI cs n N D sp room) (e : ∀ x, D2 x ↔ D x) : RmI cs n N D2 sp room := ⟨h.l, fun p h1 h2 h3 => h.old p h1 (fun z => h2 ((e p).mpr z)) h3, fun p h1 => h.due p ((e p).mp h1)⟩
theorem rm_start (hN : n ≤ N) : RmI cs n N (fun _ => False) sp ((List.range n).map (fun (k : Nat) => V.int (k : Nat)) ++ List.replicate (N - n) V.non) := by
  refine ⟨by rw [List.length_append, List.length_map, List.length_range, List.length_replicate]; omega, fun p h1 _ _ => ?_, fun _ h => h.elim⟩
  rw [List.getElem?_append_left (by rw [List.length_map, List.length_range]; exact h1), List.getElem?_map, List.getElem?_range h1]
  rfl
theorem RmI.one {p : Nat} {v : V} (I : RmI cs n N D sp room) (hp : p < N) (hv : cs[p]? = some v) : RmI cs n N (fun x => D x ∨ x = p) sp (room.set p v) := by
  refine ⟨by rw [List.length_set]; exact I.l, fun x h1 h2 h3 => ?_, fun x h => ?_⟩
  · rw [List.getElem?_set_ne (fun e => h2 (.inr e.symm))]
    exact I.old x h1 (fun z => h2 (.inl z)) h3
  · by_cases e : x = p
    · rw [e, List.getElem?_set_self (by rw [I.l]; exact hp), hv]
    · rw [List.getElem?_set_ne (fun z => e z.symm)]
      exact I.due x (h.resolve_right e)
theorem RmI.spoil {c : Nat} {v : V} (I : RmI cs n N D (some c) room) (hc : ¬ D c) : RmI cs n N D (some c) (room.set c v) := by
  refine ⟨by rw [List.length_set]; exact I.l, fun x h1 h2 h3 => ?_, fun x h => ?_⟩
  · rw [List.getElem?_set_ne (fun e => h3 (by rw [e]))]
    exact I.old x h1 h2 h3
  · rw [List.getElem?_set_ne (fun (e : c = x) => hc (e ▸ h))]
    exact I.due x h
/-- what a ring is, of these cells -/
structure RgO (cs : List V) (n N : Nat) (r : List Nat) : Prop where
  nd : r.Nodup
  lt : ∀ x ∈ r, x < n ∧ x < cs.length
  nx : ∀ (k x : Nat), r[k]? = some x → gC cs x = r[(k + 1) % r.length]?
  ne : r ≠ []
  len : 2 ≤ r.length
theorem RgsOk.ring {rs : List (List Nat)} (h : RgsOk cs rs) (hc : ∀ v ∈ cs, CellOk n v) {r : List Nat} (hr : r ∈ rs) : RgO cs n N r := by
  refine ⟨h.ok.nd r hr, fun x hx => h.lt hc hr hx, h.ok.nx r hr, h.ok.ne r hr, ?_⟩
  have hl : 0 < r.length := List.length_pos_iff.mpr (h.ok.ne r hr)
  refine Classical.byContradiction fun hlt => ?_
  have h1 := h.ok.nx r hr 0 r[0] (List.getElem?_eq_getElem hl)
  have e : r.length = 1 := by omega
  rw [e, Nat.mod_self, List.getElem?_eq_getElem hl] at h1
  exact ((gC_some hc).mp h1).2 rfl
theorem RmI.ring (hc : ∀ v ∈ cs, CellOk n v) (hN : n ≤ N) (I : RmI cs n N D sp room) {r : List Nat} (O : RgO cs n N r) (hD : ∀ x ∈ r, ¬ D x) (hsp : ∀ x ∈ r, sp ≠ some x) {f l : Nat} {R : JR} (h0 : r[0]? = some f) (hl : r[r.length - 1]? = some l)
    (hR : ∀ room2 : List V, room2.length = room.length → (∀ x, x ∉ r → room2[x]? = room[x]?) → doneV R room2 ss = some (room2.set l (.int (f : Nat)), ss)) :
    ∃ room2, stepsJ (rndR r ++ [R]) (room, ss) = some (room2, ss) ∧ RmI cs n N (fun x => D x ∨ x ∈ r) sp room2 := by
  obtain ⟨room2, h1, h2, h3, h4⟩ := ring_run (g := gC cs) O.nd (fun x hx => by rw [I.l]; exact Nat.lt_of_lt_of_le (O.lt x hx).1 hN) (fun x hx => I.old x (O.lt x (List.mem_of_mem_tail hx)).1 (hD x (List.mem_of_mem_tail hx)) (hsp x (List.mem_of_mem_tail hx))) h0 hl O.nx hR
  refine ⟨room2, h1, by rw [h2]; exact I.l, fun x q1 q2 q3 => ?_, fun x hx => ?_⟩
  · rw [h4 x (fun z => q2 (.inr z))]
    exact I.old x q1 (fun z => q2 (.inl z)) q3
  · by_cases e : x ∈ r
    · obtain ⟨k, hk⟩ := List.mem_iff_getElem?.mp e
      have e1 := O.nx k x hk
      have hlt := Nat.mod_lt (k + 1) (List.length_pos_iff.mpr O.ne)
      rw [List.getElem?_eq_getElem hlt] at e1
      rw [h3 x _ e e1, ((gC_some hc).mp e1).1]
    · rw [h4 x e]
      exact I.due x (hx.resolve_right e)
/-- a pure ring, by a slot -/
theorem RmI.slot (hc : ∀ v ∈ cs, CellOk n v) (hN : n ≤ N) (I : RmI cs n N D sp room) {r : List Nat} (O : RgO cs n N r) (hD : ∀ x ∈ r, ¬ D x) (hsp : ∀ x ∈ r, sp ≠ some x) {f l : Nat} (h0 : r[0]? = some f) (hl : r[r.length - 1]? = some l) (hs : 0 < ss.length) :
    ∃ room2 ss2, stepsJ (.keep 0 (f : Nat) 1 :: (rndR r ++ [.lay (l : Nat) 0 1])) (room, ss) = some (room2, ss2) ∧ ss2.length = ss.length ∧ RmI cs n N (fun x => D x ∨ x ∈ r) sp room2 := by
  have hf := List.mem_of_getElem? h0
  have hlm := List.mem_of_getElem? hl
  obtain ⟨room2, h1, h2⟩ := I.ring hc hN (ss := ss.set 0 (.int (f : Nat))) (R := .lay (l : Nat) 0 1) O hD hsp h0 hl fun rm e1 e2 => do_lay (by rw [e1, I.l]; exact Nat.lt_of_lt_of_le (O.lt l hlm).1 hN) (List.getElem?_set_self hs) (nn_int _)
  refine ⟨room2, ss.set 0 (.int (f : Nat)), ?_, List.length_set, h2⟩
  rw [step1 (st := (room, ss)) (do_keep hs (I.old f (O.lt f hf).1 (hD f hf) (hsp f hf)) (nn_int _))]
  exact h1
/-- a pure ring, by a cell that can be spared -/
theorem RmI.cell (hc : ∀ v ∈ cs, CellOk n v) (hN : n ≤ N) {c : Nat} (I : RmI cs n N D (some c) room) {r : List Nat} (O : RgO cs n N r) (hD : ∀ x ∈ r, ¬ D x) (hcr : c ∉ r) (hcN : c < N) (hcD : ¬ D c) {f l : Nat} (h0 : r[0]? = some f) (hl : r[r.length - 1]? = some l) :
    ∃ room2, stepsJ (.copy (c : Nat) (f : Nat) 1 :: (rndR r ++ [.copy (l : Nat) (c : Nat) 1])) (room, ss) = some (room2, ss) ∧ RmI cs n N (fun x => D x ∨ x ∈ r) (some c) room2 := by
  have hf := List.mem_of_getElem? h0
  have hlm := List.mem_of_getElem? hl
  have hsp : ∀ x ∈ r, (some c : Option Nat) ≠ some x := fun x hx e => hcr (by rw [Option.some.inj e]; exact hx)
  have I2 := I.spoil (v := .int (f : Nat)) hcD
  obtain ⟨room2, h1, h2⟩ := I2.ring hc hN (ss := ss) (R := .copy (l : Nat) (c : Nat) 1) O hD hsp h0 hl fun rm e1 e2 => do_copy (by rw [e1, I2.l]; exact Nat.lt_of_lt_of_le (O.lt l hlm).1 hN) (by rw [e2 c hcr, List.getElem?_set_self (by rw [I.l]; exact hcN)]) (nn_int _) (fun e => hcr (by rw [← e]; exact hlm))
  refine ⟨room2, ?_, h2⟩
  rw [step1 (st := (room, ss)) (do_copy (by rw [I.l]; exact hcN) (I.old f (O.lt f hf).1 (hD f hf) (hsp f hf)) (nn_int _) (fun e => hcr (by rw [e]; exact hf)))]
  exact h1
/-! ### a ring turned -/
theorem turn_get {r : List Nat} {k j : Nat} (hk : k < r.length) (hj : j < r.length) : (r.drop k ++ r.take k)[j]? = r[(j + k) % r.length]? := by
  by_cases h : j < r.length - k
  · rw [List.getElem?_append_left (by rw [List.length_drop]; exact h), List.getElem?_drop, Nat.mod_eq_of_lt (by omega), Nat.add_comm]
  · rw [List.getElem?_append_right (by rw [List.length_drop]; omega), List.length_drop, List.getElem?_take, if_pos (by omega)]
    have e : (j + k) % r.length = j - (r.length - k) := by
      rw [Nat.mod_eq_sub_mod (by omega), Nat.mod_eq_of_lt (by omega)]
      omega
    rw [e]
theorem turn_mem {r : List Nat} {k x : Nat} : x ∈ r.drop k ++ r.take k ↔ x ∈ r := by
  rw [List.mem_append, Or.comm, ← List.mem_append, List.take_append_drop]
theorem turn_len {r : List Nat} {k : Nat} : (r.drop k ++ r.take k).length = r.length := by
  rw [List.length_append, Nat.add_comm, ← List.length_append, List.take_append_drop]
theorem RgO.turn {r : List Nat} (O : RgO cs n N r) {k : Nat} (hk : k < r.length) : RgO cs n N (r.drop k ++ r.take k) := by
  refine ⟨?_, fun x hx => O.lt x (turn_mem.mp hx), fun j x hj => ?_, fun e => ?_, by rw [turn_len]; exact O.len⟩
  · have h1 := O.nd
    rw [← List.take_append_drop k r] at h1
    obtain ⟨h2, h3, h4⟩ := List.nodup_append.mp h1
    exact List.nodup_append.mpr ⟨h3, h2, fun a ha b hb e => h4 b hb a ha e.symm⟩
  · have hjl := (List.getElem?_eq_some_iff.mp hj).1
    rw [turn_len] at hjl ⊢
    rw [turn_get hk hjl] at hj
    rw [O.nx _ x hj, turn_get hk (Nat.mod_lt _ (by omega))]
    congr 1
    rw [Nat.add_mod ((j + k) % r.length), Nat.mod_mod, ← Nat.add_mod, Nat.add_mod ((j + 1) % r.length), Nat.mod_mod, ← Nat.add_mod]
    congr 1
    omega
  · have := turn_len (r := r) (k := k)
    rw [e] at this
    have h2 := O.len
    simp at this
    omega
/-- a ring of which a sign stands outside, too -/
theorem RmI.read (hc : ∀ v ∈ cs, CellOk n v) (hN : n ≤ N) (I : RmI cs n N D sp room) {r : List Nat} (O : RgO cs n N r) (hD : ∀ x ∈ r, ¬ D x) (hsp : ∀ x ∈ r, sp ≠ some x) {k f l q : Nat} (hk : r[k]? = some f) (hl : (r.drop k ++ r.take k)[r.length - 1]? = some l) (hq : D q) (hg : gC cs q = some f) (hqr : q ∉ r) :
    ∃ room2, stepsJ (rndR (r.drop k ++ r.take k) ++ [.copy (l : Nat) (q : Nat) 1]) (room, ss) = some (room2, ss) ∧ RmI cs n N (fun x => D x ∨ x ∈ r) sp room2 := by
  have hkl := (List.getElem?_eq_some_iff.mp hk).1
  have hlm := turn_mem.mp (List.mem_of_getElem? hl)
  have h0 : (r.drop k ++ r.take k)[0]? = some f := by
    rw [turn_get hkl (by omega), Nat.zero_add, Nat.mod_eq_of_lt hkl, hk]
  obtain ⟨room2, h1, h2⟩ := I.ring hc hN (ss := ss) (R := .copy (l : Nat) (q : Nat) 1) (O.turn hkl) (fun x hx => hD x (turn_mem.mp hx)) (fun x hx => hsp x (turn_mem.mp hx)) h0 (by rw [turn_len]; exact hl) fun rm e1 e2 => do_copy (by rw [e1, I.l]; exact Nat.lt_of_lt_of_le (O.lt l hlm).1 hN) (by rw [e2 q (fun z => hqr (turn_mem.mp z)), I.due q hq, ((gC_some hc).mp hg).1]) (nn_int _) (fun e => hqr (by rw [← e]; exact hlm))
  exact ⟨room2, h1, h2.congr fun x => by rw [turn_mem]⟩
theorem RmI.done (I : RmI cs n N D sp room) (hc : ∀ v ∈ cs, CellOk n v) (hl : cs.length ≤ N) (hD : ∀ x ∈ chL cs, D x) (hsp : ∀ c, sp = some c → cs.length ≤ c ∨ c ∈ chL cs) : room.take cs.length = cs := by
  refine List.ext_getElem? fun x => ?_
  rw [List.getElem?_take]
  by_cases hx : x < cs.length
  · rw [if_pos hx]
    by_cases hd : D x
    · exact I.due x hd
    · have hch : x ∉ chL cs := fun z => hd (hD x z)
      have e : cs[x]? = some (.int (x : Nat)) := by
        refine Classical.byContradiction fun z => hch (ch_mem.mpr ⟨hx, ?_⟩)
        unfold chgC
        rw [decide_eq_false z]
        rfl
      have hxn : x < n := by
        rcases hc _ (List.mem_of_getElem? e) with ⟨i, h1, h2⟩ | ⟨c, h1, _⟩
        · have := V.int.inj h1
          omega
        · cases h1
      rw [e]
      exact I.old x hxn hd fun z => (hsp x z).elim (fun y => by omega) hch
  · rw [if_neg hx, List.getElem?_eq_none (by omega)]
/-! ### cells whose sign nobody waits for -/
def lfC (cs : List V) (P : List Nat) (x : Nat) : Nat := ((chL cs).filter fun q => decide (q ∉ P ∧ gC cs q = some x)).length
def lfN (cs : List V) (n : Nat) (P : List Nat) : List Nat := (List.range n).map (lfC cs P)
theorem ch_nodup (cs : List V) : (chL cs).Nodup := List.Nodup.sublist List.filter_sublist List.nodup_range
theorem lfN_len (P : List Nat) : (lfN cs n P).length = n := by unfold lfN; rw [List.length_map, List.length_range]
theorem lfN_get {P : List Nat} {x : Nat} (h : x < n) : (lfN cs n P)[x]? = some (lfC cs P x) := by
  unfold lfN
  rw [List.getElem?_map, List.getElem?_range h]
  rfl
theorem lf_nil (hc : ∀ v ∈ cs, CellOk n v) : lfN cs n [] = rdN cs n := by
  rw [← rdT_chL hc]
  unfold lfN rdT
  refine List.map_congr_left fun p hp => ?_
  unfold lfC
  congr 1
  refine List.filter_congr fun q hq => ?_
  rw [decide_eq_decide]
  exact ⟨fun z => z.2, fun z => ⟨(fun y => nomatch y), z⟩⟩
theorem lf_put {P : List Nat} {p : Nat} (h : gC cs p = none) (x : Nat) : lfC cs (P ++ [p]) x = lfC cs P x := by
  unfold lfC
  congr 1
  refine List.filter_congr fun q hq => ?_
  rw [decide_eq_decide]
  constructor
  · exact fun z => ⟨fun y => z.1 (List.mem_append_left _ y), z.2⟩
  · refine fun z => ⟨fun y => ?_, z.2⟩
    rcases List.mem_append.mp y with y | y
    · exact z.1 y
    · rw [List.mem_singleton.mp y, h] at z
      cases z.2
theorem lf_other {P : List Nat} {p w x : Nat} (h : gC cs p = some w) (hx : x ≠ w) : lfC cs (P ++ [p]) x = lfC cs P x := by
  unfold lfC
  congr 1
  refine List.filter_congr fun q hq => ?_
  rw [decide_eq_decide]
  constructor
  · exact fun z => ⟨fun y => z.1 (List.mem_append_left _ y), z.2⟩
  · refine fun z => ⟨fun y => ?_, z.2⟩
    rcases List.mem_append.mp y with y | y
    · exact z.1 y
    · rw [List.mem_singleton.mp y, h] at z
      exact hx (Option.some.inj z.2).symm
theorem lf_copy {P : List Nat} {p w : Nat} (hp : p ∈ chL cs) (hn : p ∉ P) (h : gC cs p = some w) : lfC cs P w = lfC cs (P ++ [p]) w + 1 := by
  unfold lfC
  have e : ((chL cs).filter fun q => decide (q ∉ P ∧ gC cs q = some w)).Perm (p :: (chL cs).filter fun q => decide (q ∉ P ++ [p] ∧ gC cs q = some w)) := by
    refine (List.perm_ext_iff_of_nodup (List.Nodup.sublist List.filter_sublist (ch_nodup cs)) (List.nodup_cons.mpr ⟨fun z => ?_, List.Nodup.sublist List.filter_sublist (ch_nodup cs)⟩)).mpr fun x => ?_
    · exact (of_decide_eq_true (List.mem_filter.mp z).2).1 (List.mem_append_right _ (List.mem_singleton.mpr rfl))
    · rw [List.mem_cons, List.mem_filter, List.mem_filter, decide_eq_true_eq, decide_eq_true_eq]
      constructor
      · rintro ⟨h1, h2, h3⟩
        by_cases e : x = p
        · exact .inl e
        · refine .inr ⟨h1, fun z => ?_, h3⟩
          rcases List.mem_append.mp z with z | z
          · exact h2 z
          · exact e (List.mem_singleton.mp z)
      · rintro (rfl | ⟨h1, h2, h3⟩)
        · exact ⟨hp, hn, h⟩
        · exact ⟨h1, fun z => h2 (List.mem_append_left _ z), h3⟩
  rw [e.length_eq]
  rfl
theorem lf_pos {P : List Nat} {x : Nat} (h : lfC cs P x ≠ 0) : ∃ q ∈ chL cs, q ∉ P ∧ gC cs q = some x := by
  unfold lfC at h
  cases e : (chL cs).filter fun q => decide (q ∉ P ∧ gC cs q = some x) with
  | nil => rw [e] at h; exact absurd rfl h
  | cons q t =>
    have hm : q ∈ (chL cs).filter fun q => decide (q ∉ P ∧ gC cs q = some x) := by rw [e]; exact List.mem_cons_self ..
    obtain ⟨h1, h2⟩ := List.mem_filter.mp hm
    exact ⟨q, h1, of_decide_eq_true h2⟩
theorem lf_ne {P : List Nat} {q x : Nat} (h1 : q ∈ chL cs) (h2 : q ∉ P) (h3 : gC cs q = some x) : lfC cs P x ≠ 0 := by
  unfold lfC
  intro e
  have hm : q ∈ (chL cs).filter fun q => decide (q ∉ P ∧ gC cs q = some x) := List.mem_filter.mpr ⟨h1, decide_eq_true ⟨h2, h3⟩⟩
  rw [List.length_eq_zero_iff.mp e] at hm
  cases hm
theorem lf_set {P : List Nat} {p w : Nat} (hp : p ∈ chL cs) (hn : p ∉ P) (h : gC cs p = some w) : (lfN cs n P).set w (lfC cs P w - 1) = lfN cs n (P ++ [p]) := by
  refine List.ext_getElem? fun i => ?_
  by_cases hi : i < n
  · rw [List.getElem?_set, lfN_len, lfN_get hi, lfN_get hi]
    by_cases e : w = i
    · subst e
      rw [if_pos rfl, if_pos hi, lf_copy hp hn h, Nat.add_sub_cancel]
    · rw [if_neg e, lf_other h (fun z => e z.symm)]
  · rw [List.getElem?_eq_none (by rw [List.length_set, lfN_len]; omega), List.getElem?_eq_none (by rw [lfN_len]; omega)]
end
/-! ### cyclic cells -/
section
variable {g : Nat → Option Nat} {N : Nat}
def Cy (g : Nat → Option Nat) (x : Nat) : Prop := ∃ k, it g (k + 1) x = some x
theorem cy_inj {a b y : Nat} (h1 : Cy g a) (h2 : Cy g b) (h3 : g a = some y) (h4 : g b = some y) : a = b := by
  obtain ⟨j, hj⟩ := h1
  obtain ⟨k, hk⟩ := h2
  have e1 := it_mul hj (k + 1)
  have e2 := it_mul hk (j + 1)
  rw [Nat.mul_comm (k + 1)] at e2
  have hp : 0 < (j + 1) * (k + 1) := Nat.mul_pos (by omega) (by omega)
  obtain ⟨m, hm⟩ : ∃ m, (j + 1) * (k + 1) = 1 + m := ⟨(j + 1) * (k + 1) - 1, by omega⟩
  rw [hm, it_add] at e1 e2
  have f1 : it g 1 a = some y := h3
  have f2 : it g 1 b = some y := h4
  rw [f1] at e1
  rw [f2] at e2
  exact Option.some.inj (e1.symm.trans e2)
theorem Cy.next {c x i : Nat} (h : Cy g c) (hx : it g i c = some x) : Cy g x := by
  obtain ⟨k, hk⟩ := h
  refine ⟨k, ?_⟩
  have e : it g (i + (k + 1)) c = some x := by rw [Nat.add_comm, it_add, hk]; exact hx
  rw [it_add, hx] at e
  exact e
/-- where each has one that gets it, all lie on rings -/
theorem cy_all {U : Nat → Prop} (hN : ∀ x, U x → x < N) (hU : ∀ x, U x → ∃ q, U q ∧ g q = some x) {x : Nat} (hx : U x) : Cy g x := by
  have hch : ∃ c : Nat → Nat, c 0 = x ∧ ∀ i, U (c i) ∧ g (c (i + 1)) = some (c i) := by
    have key : ∃ pr : {y // U y} → {y // U y}, ∀ y, g (pr y).1 = some y.1 := ⟨fun y => ⟨(hU y.1 y.2).choose, (hU y.1 y.2).choose_spec.1⟩, fun y => (hU y.1 y.2).choose_spec.2⟩
    obtain ⟨pr, hpr⟩ := key
    let c : Nat → {y // U y} := fun i => Nat.rec ⟨x, hx⟩ (fun _ y => pr y) i
    exact ⟨fun i => (c i).1, rfl, fun i => ⟨(c i).2, hpr (c i)⟩⟩
  obtain ⟨c, c0, hc⟩ := hch
  have hit : ∀ i d, it g d (c (i + d)) = some (c i) := by
    intro i d
    induction d with
    | zero => rfl
    | succ d ih =>
      rw [show d + 1 = 1 + d by omega, it_add, show i + (1 + d) = i + d + 1 by omega]
      have : it g 1 (c (i + d + 1)) = some (c (i + d)) := (hc (i + d)).2
      rw [this]
      exact ih
  have hrep : ∃ i j, i < j ∧ c i = c j := by
    refine Classical.byContradiction fun hno => ?_
    have hnd : ((List.range (N + 1)).map c).Nodup := by
      refine List.pairwise_map.mpr (List.pairwise_lt_range.imp fun {a b} hab e => hno ⟨a, b, hab, e⟩)
    have h2 := nodup_lt N _ hnd fun y hy => by
      obtain ⟨i, _, rfl⟩ := List.mem_map.mp hy
      exact hN _ (hc i).1
    rw [List.length_map, List.length_range] at h2
    omega
  obtain ⟨i, j, hij, e⟩ := hrep
  have h1 := hit i (j - i)
  rw [show i + (j - i) = j by omega] at h1
  have hcy : Cy g (c j) := ⟨j - i - 1, by rw [show j - i - 1 + 1 = j - i by omega, h1, e]⟩
  have h2 := hit 0 j
  rw [Nat.zero_add, c0] at h2
  exact hcy.next h2
theorem ring_it {rs : List (List Nat)} (R : RsOk g rs) {r : List Nat} (hr : r ∈ rs) {k x : Nat} (hk : r[k]? = some x) (j : Nat) : it g j x = r[(k + j) % r.length]? := by
  have hkl := (List.getElem?_eq_some_iff.mp hk).1
  induction j with
  | zero =>
    rw [Nat.add_zero, Nat.mod_eq_of_lt hkl, hk]
    rfl
  | succ j ih =>
    have hlt := Nat.mod_lt (k + j) (by omega : r.length > 0)
    show (it g j x).bind g = _
    rw [ih, List.getElem?_eq_getElem hlt]
    show g _ = _
    rw [R.nx r hr _ _ (List.getElem?_eq_getElem hlt)]
    congr 1
    rw [Nat.add_mod ((k + j) % r.length), Nat.mod_mod, ← Nat.add_mod]
    rfl
theorem ring_cy {rs : List (List Nat)} (R : RsOk g rs) {r : List Nat} (hr : r ∈ rs) {x : Nat} (hx : x ∈ r) : Cy g x := by
  obtain ⟨k, hk⟩ := List.mem_iff_getElem?.mp hx
  have hkl := (List.getElem?_eq_some_iff.mp hk).1
  refine ⟨r.length - 1, ?_⟩
  rw [ring_it R hr hk, show r.length - 1 + 1 = r.length by omega, Nat.add_mod_right, Nat.mod_eq_of_lt hkl, hk]
end
end R
namespace R
open PySem PySem.Spec PyProof.Rows L2
/-! ### defs that raise an own exception, caught by except of its class -/
def SX1 (φ : V → Hp → VK → XK → Prop) : Sp := fun vs H Q E => match vs with | [x] => φ x H Q E | _ => False
def SX2 (φ : V → V → Hp → VK → XK → Prop) : Sp := fun vs H Q E => match vs with | [x, y] => φ x y H Q E | _ => False
def SX3 (φ : V → V → V → Hp → VK → XK → Prop) : Sp := fun vs H Q E => match vs with | [x, y, z] => φ x y z H Q E | _ => False
theorem SX1.len {φ : V → Hp → VK → XK → Prop} {vs : List V} {H : Hp} {Q : VK} {E : XK} (h : SX1 φ vs H Q E) : vs.length = 1 := by
  match vs, h with
  | [_], _ => rfl
theorem SX2.len {φ : V → V → Hp → VK → XK → Prop} {vs : List V} {H : Hp} {Q : VK} {E : XK} (h : SX2 φ vs H Q E) : vs.length = 2 := by
  match vs, h with
  | [_, _], _ => rfl
theorem SX3.len {φ : V → V → V → Hp → VK → XK → Prop} {vs : List V} {H : Hp} {Q : VK} {E : XK} (h : SX3 φ vs H Q E) : vs.length = 3 := by
  match vs, h with
  | [_, _, _], _ => rfl
theorem PS.nox {X : Cx} {st : Stmt} {t : TS} (h : PS X.nox st t) : PS X st t := ⟨fun pins s σ H D I hw =>
  wpAny_mono (h.run pins s σ H D (I.wish _) hw) (fun _ _ q => q.unwish) fun _ _ z => False.elim z⟩
section
variable {X : Cx} {CX : CXT} {k j : Nat} {f C : Addr} {fd : FuncData} {ps : List Str} {sp : Sp} {E : L2.St → XK} {x m : Str} {p pos apos : Pos} {e o : Expr} {es : List Expr} {ta : TE} {t : TA} {W : WX} {pl : Sem Bool}
def tMethS (C : Addr) (m : Str) (sp : Sp) (E : L2.St → XK) (ta : TE) (t : TA) : TE := fun σ H Q => ta σ H fun x H1 => ∃ a dx fs, x = .ref a ∧ H1 a = some (.ins C dx fs) ∧ fs.lookup m = none ∧ t σ H1 fun vs H2 => sp (x :: vs) H2 Q (E σ)
/-- raise C('..') -/
def tRaiseO (K : PySem.W.Frag) (C : Str) (W : WX) : TS := fun _ σ H => W (.ref (He.ga K C)) none σ H
/-- try: .. except C: .. -/
def wTry (K : PySem.W.Frag) (C : Addr) (ts : TS) (D : Ends) : WX := wOnly K (.ref C) (fun _ _ _ => ts) (fun _ _ _ _ => False) D
def tTry (K : PySem.W.Frag) (C : Addr) (tb : WX → TS) (ts : TS) : TS := fun D σ H => tb (wTry K C ts D) D σ H
end
section
variable {K : PySem.W.Frag} {mg : Str → Option Value} {σ : L2.St} {H : Hp} {Q : VK} {E : XK} {C : Str} {D : Ends} {W : WX} {tb : WX → TS} {ts : TS} {sp : Sp} {m : Str} {ta : TE} {t : TA} {Cc : Addr} {EE : L2.St → XK}
theorem x_try (q : tb (wTry K Cc ts D) D σ H) : tTry K Cc tb ts D σ H := q
instance : Step (tTry K Cc tb ts D σ H) (tb (wTry K Cc ts D) D σ H) := ⟨x_try⟩ -- st
theorem x_callS (q : t σ H fun vs H1 => sp vs H1 Q (EE σ)) : tCallS sp EE t σ H Q := q
instance : Step (tCallS sp EE t σ H Q) (t σ H fun vs H1 => sp vs H1 Q (EE σ)) := ⟨x_callS⟩ -- st
theorem x_methS (q : ta σ H fun x H1 => mthG Cc m x H1 (t σ H1 fun vs H2 => sp (x :: vs) H2 Q (EE σ))) : tMethS Cc m sp EE ta t σ H Q := by
  unfold tMethS
  refine cast ?_ q
  congr 1
  funext x H1
  unfold mthG
  refine propext ⟨?_, ?_⟩
  · rintro ⟨⟨a, dx, fs, h1, h2, h3⟩, h4⟩
    exact ⟨a, dx, fs, h1, h2, h3, h4⟩
  · rintro ⟨a, dx, fs, h1, h2, h3, h4⟩
    exact ⟨⟨a, dx, fs, h1, h2, h3⟩, h4⟩
instance : Step (tMethS Cc m sp EE ta t σ H Q) (ta σ H fun x H1 => mthG Cc m x H1 (t σ H1 fun vs H2 => sp (x :: vs) H2 Q (EE σ))) := ⟨x_methS⟩ -- st
theorem x_raise (q : W (.ref (He.ga K C)) none σ H) : tRaiseO K C W D σ H := q
instance : Step (tRaiseO K C W D σ H) (W (.ref (He.ga K C)) none σ H) := ⟨x_raise⟩ -- st
end
/-! ### promises -/
end R
/-! ### own exceptions with a field, over a built-in class that the kit's rules for ValueError leave out -/
namespace R
section
open PySem PySem.W PySem.Calls PyProof.Rows PySem.HandSPX Builtin Builtin.ObjectAttr
/-- what a built-in class is known by -/
structure XBase (B newId initId : String) (tail : List Value) : Prop where
  f : ExcBaseFacts B newId initId tail
  s : StoreFacts B tail "object.__setattr__" "object"
  o : tail.contains (.type "object") = true
abbrev leTail : List Value := [.type "LookupError", .type "Exception", .type "BaseException", .type "object"]
theorem xb_LookupError : XBase "LookupError" "LookupError.__new__" "LookupError.__init__" leTail := ⟨PySem.F.excBase_LookupError, PySem.F.store_LookupError, by decide +kernel⟩
variable {prog : Program} {w : World} {A : Around} {R : Result → Shared → Prop} {hp : Heap} {gs : Array GenState} {dr : Drawn} {n0 : Nat} {oss : OsState}
theorem xf_osa {B newId initId : String} {tail : List Value} {K : W.Frag} {z : Str} {tk : Tok} {v : Value} {x C : Addr} {fv : Array Value} {cd : ClassData} (XB : XBase B newId initId tail)
    (kin : K.In hp) (ox : hp.get? x = some { cls := .ref C, data := .fields fv }) (cdC : W.clsIn K C = some cd) (hm : cd.mro = .ref C :: tail) (hasD : cd.hasDict = true) (no : W.findIn K (.ref C) z = some none)
    (fin : ∀ h2 tk2 dx, (∀ b o, b ≠ x → hp.get? b = some o → h2.get? b = some o) → hp.objs.size ≤ dx → dx ≠ x → h2.get? x = some { cls := .ref C, dict := some dx, data := .fields fv } →
      h2.Ns1 dx (fun y => if y = z then some v else none) → R (.ok (.ret .none)) ⟨h2, gs, dr, tk2, oss⟩) :
    codeAny (model prog w) A (.call (.builtin "object.__setattr__") ⟨[.ref x, .str z tk, v], []⟩) R ⟨hp, gs, dr, n0, oss⟩ := by
  have IA : W.InstAt hp x { cls := .ref C, data := .fields fv } C none := ⟨ox, rfl, rfl, trivial⟩
  have SO := PySem.F.store_object
  have ob : cd.mro.contains (.type "object") = true := by rw [hm, List.contains_cons, XB.o, Bool.or_true]
  have far : x ≠ hp.objs.size := Nat.ne_of_lt (Heap.lt_size ox)
  have su : W.Looks (model prog w) hp (isInstance (.ref x) (.type "object")) true := IA.type.andThen (W.looks_mroIn kin (by unfold W.mroIn; rw [cdC, Option.bind_some, if_neg (by rw [hm]; exact Bool.false_ne_true), ob]))
  refine codeAny_call_builtin SO.slot.plain SO.entry (@W.check_slot (model prog w) _ _ ⟨hp, gs, dr, n0, oss⟩ "object.__setattr__" "object" "__setattr__" (.ref x) [.str z tk, v] [] _ SO.kind SO.split su (SO.args (.ref x) (.str z tk) v) ?_)
  have lm : W.Looks (model prog w) hp (mroOf (.ref C)) cd.mro := (W.looks_clsIn kin cdC).andThen .now
  have lt : W.Looks (model prog w) hp (storeTaker? none) none := .now
  have lc : W.Looks (model prog w) hp (classData C) cd := W.looks_clsIn kin cdC
  rw [W.osa_eq, refuse_eq]
  refine wpAny_bind (wpAny_bind (IA.type.at (wpAny_bind (lm.at ?_))))
  rw [hm, refuseLoop_ref, XB.s.passes]
  refine wpAny_pure (wpAny_bind (IA.type.at (wpAny_bind ((W.looks_findIn kin no).at (wpAny_bind (lt.at ?_))))))
  show wpAny _ _ (storeInOwnDict (.ref x) (.ref C) (.str z tk) z v false) _ _ _
  obtain ⟨c1, c2, c3, c4, c5, c6, c7, c8, c9, c10, c11⟩ := cd
  dsimp only at hasD
  subst hasD
  unfold storeInOwnDict ownDictForStores
  repeat (first | with_reducible refine store_in_new ?_ ?_ | with_reducible refine wpAny_loadPart_at ox ?_ | with_reducible refine lc.at ?_ | wp_step)
  · exact ⟨_, #[], _, (Heap.get?_update_ne _ _ _ _ far.symm).trans (Heap.get?_push_at rfl rfl), rfl, fun e he => absurd he (by simp), fun _ => rfl⟩
  · intro h2 tk2 hn hs
    have ox2 : (hp.push { cls := .type "dict", data := .dict #[] }).get? x = some { cls := .ref C, data := .fields fv } := Heap.get?_push_of_some _ ox
    refine fin h2 tk2 hp.objs.size (fun b o hb ho => ?_) (Nat.le_refl _) far.symm ?_ hn
    · exact (hs.2 b (Nat.ne_of_lt (Heap.lt_size ho))).trans ((Heap.get?_update_ne _ _ _ _ hb).trans (Heap.get?_push_of_some _ ho))
    · exact (hs.2 x far).trans (Heap.get?_update_self _ ox2 rfl)
end
section
open PySem PySem.Spec PyProof.Rows L2
/-- what the text's class is known by -/
structure XCls (K : PySem.W.Frag) (C : Addr) (tail : List Value) (newId : String) : Prop where
  cls : ∃ nm q N bs sn sub ab col dd k0 k1 k2 k3 k5, K.lookup C = some (excClassObj nm q C N bs tail true sn sub ab col dd k0 k1 k2 k3 k5 newId)
  sa : PySem.W.findIn K (.ref C) "__setattr__" = some (some (.builtin "object.__setattr__"))
  s : PySem.W.subIn K (.ref C) (.type "BaseException") = some true
  t : PySem.W.typeIn K (.ref C) = some (.type "type")
  k : PySem.W.keepIn K (.ref C) = true
def xclsB (K : PySem.W.Frag) (C : Addr) (tail : List Value) (newId : String) : Bool := match K.lookup C with
  | some ob => (match ob.cls, ob.data, ob.slots.toList with
    | .type ty, .cls c, [_, _, _, _, some (.builtin nn), _] => (match c.mro with
      | .ref C2 :: r => ty == "type" && (C2 == C && (nn == newId && (!c.hasDel && (c.hasDict && r == tail))))
      | _ => false)
    | _, _, _ => false)
  | none => false
theorem xclsB_ok {K : PySem.W.Frag} {C : Addr} {tail : List Value} {newId : String} (h : xclsB K C tail newId = true) : ∃ nm q N bs sn sub ab col dd k0 k1 k2 k3 k5, K.lookup C = some (excClassObj nm q C N bs tail true sn sub ab col dd k0 k1 k2 k3 k5 newId) := by
  unfold xclsB at h
  cases e : K.lookup C with
  | none => rw [e] at h; cases h
  | some ob =>
    rw [e] at h
    obtain ⟨oc, od, dat, sl⟩ := ob
    dsimp only at h
    split at h
    · rename_i ty c k0 k1 k2 k3 nn k5 hsl
      obtain ⟨nm, bs, mro, ns, qn, hd, sn, sub, ab, col, del⟩ := c
      dsimp only at h
      split at h
      · rename_i C2 r
        simp only [Bool.and_eq_true, beq_iff_eq, Bool.not_eq_true'] at h
        obtain ⟨rfl, rfl, rfl, rfl, rfl, rfl⟩ := h
        have hs2 : sl = #[k0, k1, k2, k3, some (.builtin nn), k5] := by
          obtain ⟨l⟩ := sl
          simp only at hsl
          rw [hsl]
        subst hs2
        exact ⟨nm, qn, ns, bs, sn, sub, ab, col, od, k0, k1, k2, k3, k5, rfl⟩
      · cases h
    · cases h
section
variable {X : Cx} {pins : List (Addr × Obj)} {σ : L2.St} {H : Hp} {s : Shared} {a C dx : Addr} {f : Str} {y : V} {u : Value} {Q : Unit → Shared → Prop} {Q1 : Value → Shared → Prop} {E : Value → Shared → Prop} {A : Around} {B newId initId : String} {tail : List Value}
/-- self.f = y -/
theorem xf_store (XB : XBase B newId initId tail) (T : XCls X.K C tail newId) (I : Inv X pins σ H s) (e : H a = some (exo a C none)) (hno : PySem.W.findIn X.K (.ref C) f = some none) (ry : RelV y u)
    (q : ∀ dx s2, H dx = none → dx ≠ a → Inv X pins σ (upd (upd H dx (exd dx [(f, y)])) a (exo a C (some dx))) s2 → Q () s2) : wpAny (model X.prog X.w) A (setAttr (.ref a) f u) Q E s := by
  obtain ⟨c1, c2, c3, c4, c5, c6, c7, c8, c9, d0, d1, d2, d3, d5, lk⟩ := T.cls
  have cI : PySem.W.clsIn X.K C = some { name := c1, bases := c4, mro := .ref C :: tail, ns := c3, qualname := c2, hasDict := true, slotNames := c5, subclasses := c6, abstract := c7, collection := c8, hasDel := false } := by unfold PySem.W.clsIn; rw [lk] <;> rfl
  obtain ⟨t0, oa⟩ := exo_at I.hok e
  obtain ⟨hp, gg, dd, tt, oo⟩ := s
  refine PySem.W.set_plain I.kIn (ox := { cls := .ref C, dict := none, data := .fields #[.ref t0, .none, .none, .none, .bool false, .none] }) (od := none) ⟨oa, rfl, rfl, trivial⟩ T.sa ?_
  refine xf_osa XB I.kIn oa cI rfl rfl hno fun h2 tk2 dx kp big ne ox ns => ?_
  have free : H dx = none := I.hok.fresh big
  have old : ∀ {b : Addr} {o : Obj}, hp.get? b = some o → b ≠ dx := fun {b o} z => Nat.ne_of_lt (Nat.lt_of_lt_of_le (Heap.lt_size z) big)
  have oth : ∀ {b : Addr}, H b = none → b ≠ a := fun {b} n z => by
    rw [z, e] at n
    cases n
  have un : Un X.fs [] H (upd (upd H dx (exd dx [(f, y)])) a (exo a C (some dx))) hp h2 :=
    { keep := fun b o z n _ _ => kp b o (oth n) z
      slot := fun b o z n _ _ => ⟨o.slots, kp b o (oth n) z⟩
      free := fun b o z n _ => by rw [upd_ne (oth n), upd_ne (old z)] <;> exact n
      there := fun b o z _ => (Classical.em (b = a)).elim (fun hb => ⟨_, (congrArg h2.get? hb).trans ox⟩) fun hb => ⟨o, kp b o hb z⟩
      tups := fun b xs z => by rw [upd_ne (at_ne e z exo_tup), upd_ne (ne_of_none z free)] <;> exact z
      frzs := fun b o v z => by rw [upd_ne (at_ne e z exo_frz), upd_ne (ne_of_none z free)] <;> exact z
      tbls := fun b ps z => ⟨#[], by rw [upd_ne (at_ne e z exo_tbl), upd_ne (ne_of_none z free), z]; simp⟩ }
  refine q dx _ free ne (I.un (t' := tk2) un fun b o z => ?_)
  by_cases hb : b = a
  · subst hb
    rw [upd_same] at z
    cases z
    exact exo_ok ox
  · rw [upd_ne hb] at z
    by_cases hd : b = dx
    · subst hd
      rw [upd_same] at z
      cases z
      exact exd_ok ns (relO_put (fs := []) ry fun g => True.intro)
    · rw [upd_ne hd] at z
      refine (I.hok b o z).stay (fun c v hc zz => kp c v ?_ zz) (fun c hc => ?_) (fun c xs hc => ?_)
      · rcases hc with rfl | hc
        · exact hb
        · exact at_ne e hc exo_own
      · rw [upd_ne (at_ne e hc exo_own), upd_ne (ne_of_none hc free)] <;> exact hc
      · rw [upd_ne (at_ne e hc exo_tup), upd_ne (ne_of_none hc free)] <;> exact hc
/-- B.__init__(self, ..) -/
theorem xf_base (XB : XBase B newId initId tail) {us : List Value} (T : XCls X.K C tail newId) (I : Inv X pins σ H s) (e : H a = some (exo a C none)) (hl : us.length ≤ sizeLine) (q : ∀ s2, Inv X pins σ H s2 → Q1 .none s2) :
    wpAny (model X.prog X.w) A (call (.builtin initId) (.ref a :: us)) Q1 E s := by
  obtain ⟨c1, c2, c3, c4, c5, c6, c7, c8, c9, d0, d1, d2, d3, d5, lk⟩ := T.cls
  obtain ⟨t0, oa⟩ := exo_at I.hok e
  obtain ⟨hp, gg, dd, tt, oo⟩ := s
  refine wpAny_call (PySem.HandSPX.init_base XB.f (fun _ => rfl) (I.kIn _ _ lk) oa hl fun h2 t2 kp ox => ?_)
  have un : Un X.fs [] H (upd H a (exo a C none)) hp h2 :=
    { keep := fun b o z n _ _ => kp b o (fun w => by rw [w, e] at n; cases n) z
      slot := fun b o z n _ _ => ⟨o.slots, kp b o (fun w => by rw [w, e] at n; cases n) z⟩
      free := fun b o z n _ => by rw [upd_ne (fun w => by rw [w, e] at n; cases n)] <;> exact n
      there := fun b o z _ => (Classical.em (b = a)).elim (fun hb => ⟨_, (congrArg h2.get? hb).trans ox⟩) fun hb => ⟨o, kp b o hb z⟩
      tups := fun b xs z => by rw [upd_ne (at_ne e z exo_tup)] <;> exact z
      frzs := fun b o v z => by rw [upd_ne (at_ne e z exo_frz)] <;> exact z
      tbls := fun b ps z => ⟨#[], by rw [upd_ne (at_ne e z exo_tbl), z]; simp⟩ }
  have J := I.un (t' := tt) (H' := upd H a (exo a C none)) un fun b o z => by
    by_cases hb : b = a
    · subst hb
      rw [upd_same] at z
      cases z
      exact exo_ok ox
    · rw [upd_ne hb] at z
      refine (I.hok b o z).stay (fun c v hc zz => kp c v ?_ zz) (fun c hc => ?_) (fun c xs hc => ?_)
      · rcases hc with rfl | hc
        · exact hb
        · exact at_ne e hc exo_own
      · rw [upd_ne (at_ne e hc exo_own)] <;> exact hc
      · rw [upd_ne (at_ne e hc exo_tup)] <;> exact hc
  rw [show upd H a (exo a C none) = H from by
    funext b
    by_cases hb : b = a
    · rw [hb, upd_same, e]
    · rw [upd_ne hb]] at J
  exact q _ J
end
/-- the facts of a class with its field -/
structure XF (K : PySem.W.Frag) (mg : Str → Option Value) (B newId initId : String) (tail : List Value) (C f : Str) : Prop where
  g : mg C = some (.ref (He.ga K C))
  c : XCls K (He.ga K C) tail newId
  xa : PySem.W.findIn K (.ref (He.ga K C)) "__getattribute__" = some (some (.builtin "BaseException.__getattribute__"))
  xg : PySem.W.findIn K (.ref (He.ga K C)) "__getattr__" = some none
  no : PySem.W.findIn K (.ref (He.ga K C)) f = some none
  i : PySem.W.findIn K (.ref (He.ga K C)) "__init__" = some (some (.ref (He.ma K (He.ga K C) "__init__")))
  fn : PySem.W.typeIn K (.ref (He.ma K (He.ga K C) "__init__")) = some (.type "function")
  hd : PySem.W.hasDictIn K (He.ga K C) = true
  m : PySem.W.exmOne K (.ref (He.ga K C)) (.ref (He.ga K C)) = some true
  b : PySem.W.findCls K (.type B) (.type "type") "__init__" = some (.val (.builtin initId))
def valB (a : Option PySem.W.CFound) (z : String) : Bool := match a with
  | some (.val (.builtin y)) => y == z
  | _ => false
theorem valB_ok {a : Option PySem.W.CFound} {z : String} (h : valB a z = true) : a = some (.val (.builtin z)) := by
  unfold valB at h
  split at h
  · rw [beq_iff_eq.mp h]
  · cases h
def xfB (K : PySem.W.Frag) (B newId initId : String) (tail : List Value) (C f : Str) : Bool :=
  xclsB K (He.ga K C) tail newId && (eqV2 (PySem.W.findIn K (.ref (He.ga K C)) "__setattr__") (some (some (.builtin "object.__setattr__"))) && (decide (PySem.W.subIn K (.ref (He.ga K C)) (.type "BaseException") = some true) && (decide (PySem.W.typeIn K (.ref (He.ga K C)) = some (.type "type")) && (PySem.W.keepIn K (.ref (He.ga K C)) &&
  (eqV2 (PySem.W.findIn K (.ref (He.ga K C)) "__getattribute__") (some (some (.builtin "BaseException.__getattribute__"))) && (eqV2 (PySem.W.findIn K (.ref (He.ga K C)) "__getattr__") (some none) && (eqV2 (PySem.W.findIn K (.ref (He.ga K C)) f) (some none) &&
  (eqV2 (PySem.W.findIn K (.ref (He.ga K C)) "__init__") (some (some (.ref (He.ma K (He.ga K C) "__init__")))) && (decide (PySem.W.typeIn K (.ref (He.ma K (He.ga K C) "__init__")) = some (.type "function")) && (PySem.W.hasDictIn K (He.ga K C) &&
  (decide (PySem.W.exmOne K (.ref (He.ga K C)) (.ref (He.ga K C)) = some true) && valB (PySem.W.findCls K (.type B) (.type "type") "__init__") initId)))))))))))
theorem xfB_ok2 {K : PySem.W.Frag} {mg : Str → Option Value} {B newId initId : String} {tail : List Value} {C f : Str} (g : mg C = some (.ref (He.ga K C))) (h : xfB K B newId initId tail C f = true) : XF K mg B newId initId tail C f := by
  unfold xfB at h
  simp only [Bool.and_eq_true, eqV2, decide_eq_true_eq] at h
  obtain ⟨h1, h2, h3, h4, h5, h6, h7, h8, h9, h10, h11, h12, h13⟩ := h
  exact ⟨g, ⟨xclsB_ok h1, h2, h3, h4, h5⟩, h6, h7, h8, h9, h10, h11, h12, valB_ok h13⟩
/-! ### the steps -/
section
variable {X : Cx} {B newId initId : String} {tail : List Value} {C f x : Str} {ta to te : TE} {t tk : TA} {e o : Expr} {es : List Expr} {kws : List Keyword} {p p1 p2 pos : Pos} {k j n : Nat} {ps ks : List Str} {sp : Sp} {dvs : List V} {W : WX} {tp : List (Nat × Nat)}
/-- B.__init__(self, ..) -/
def tXi (K : PySem.W.Frag) (tail : List Value) (newId : String) (t : TA) : TE := fun σ H Q => t σ H fun vs H1 => ∃ (a C : Addr) (ws : List V), vs = .ref a :: ws ∧ ws.length ≤ 1000 ∧ XCls K C tail newId ∧ H1 a = some (exo a C none) ∧ Q .non H1
theorem pe_xi {nB : Str} {pl : Sem Bool} (XB : XBase B newId initId tail) (hg : Gl X nB) (hm : X.mg nB = none) (boot : bootBuiltins nB = some (.type B)) (ty : typeOf (.type B) = pure (.type "type")) (st : Manifest.isStub B = false)
    (b : PySem.W.findCls X.K (.type B) (.type "type") "__init__" = some (.val (.builtin initId))) (hd : PySem.W.handedIn (.builtin initId) = true) (ha : PA X (e :: es) t) (n1 : nB ≠ "__name__" := by decide) (n2 : (nB == ("__debug__" : Str)) = false := by decide)
    (hc : eval (.Call (.Attribute (.Name nB p1) "__init__" p2) (e :: es) [] pos) X.env = (eval (.Name nB p1) X.env >>= fun ov => standAt p2.atName >>= fun _ => holding [ov] (getMethod ov "__init__" pl) >>= fun q =>
      callWith pos q.1 q.2 (backTo pos (starEach (e :: es) X.env)) (backToKw pos (keywordEach [] X.env))) := by rfl)
    (he : starEach (e :: es) X.env = (false, eval e X.env) :: starEach es X.env := by rfl) (hpl : (backTo pos (starEach es X.env)).any (·.1) = false := by rfl) :
    PE X (.Call (.Attribute (.Name nB p1) "__init__" p2) (e :: es) [] pos) (tXi X.K tail newId t) := by
  refine ⟨fun pins s σ H Q I h => ?_⟩
  refine PySem.W.methodCall_KW (ld_blt I hg hm boot ?_ n1 n2) hc
  obtain ⟨m, fr⟩ := I.fr
  refine PySem.W.method_type fr I.ok.mod.kin ty st b hd ?_
  show wpAny _ _ (callWith pos (Value.builtin initId) [] (backTo pos (starEach (e :: es) X.env)) []) _ _ _
  refine PyProof.Rows.callWith_method1 (thn (ha.run pos pins _ σ H _ (I.tok _) h) fun us s1 ⟨vs, H1, I1, r1, a, C, ws, ev, hl, T, ea, q⟩ => ?_) he hpl
  subst ev
  cases r1 with
  | cons ra rr =>
    rename_i u0 ur
    cases ra
    exact xf_base XB T I1 ea (by rw [← Paired.length rr, sizeLine_eq]; omega) fun s2 J => ⟨.non, H1, J, rfl, q⟩
/-- self.f = e in an own __init__ of an exception -/
def tXo (K : PySem.W.Frag) (tail : List Value) (newId : String) (f : Str) (to te : TE) : TS := fun D σ H => te σ H fun y H1 => to σ H1 fun x H2 => ∃ a C : Addr, x = .ref a ∧ XCls K C tail newId ∧ PySem.W.findIn K (.ref C) f = some none ∧ H2 a = some (exo a C none) ∧
  ∀ dx, H2 dx = none → dx ≠ a → D.nx σ (upd (upd H2 dx (exd dx [(f, y)])) a (exo a C (some dx)))
theorem ps_xo (XB : XBase B newId initId tail) (ho : PE X o to) (he : PE X e te) (hs : swapsWith e (some (.Attribute o f p)) pos.line X.env = pure false := by rfl) : PS X (.Assign [.Attribute o f p] e pos) (tXo X.K tail newId f to te) := by
  refine ⟨fun pins s σ H D I h => ?_⟩
  refine plainObj_wpAny_Assign_Attribute (thn (he.run pins s σ H _ I h) fun v s1 ⟨y, H1, I1, r1, q1⟩ => thn (ho.run pins s1 σ H1 _ I1 q1) fun u s2 ⟨x, H2, I2, r2, a, C, ex, T, hno, ea, q⟩ => ?_) hs
  subst ex
  cases r2
  exact xf_store XB T I2 ea hno r1 fun dx s3 n ne J => ⟨σ, _, J, q dx n ne⟩
/-- what such an __init__ keeps -/
def φxinit (K : PySem.W.Frag) (C f : Str) : V → V → Hp → VK → Prop := fun x y H Q => ∃ a : Addr, x = .ref a ∧ H a = some (exo a (He.ga K C) none) ∧ ∀ dx, H dx = none → dx ≠ a → Q .non (upd (upd H dx (exd dx [(f, y)])) a (exo a (He.ga K C) (some dx)))
structure DXI (P : Program) (w : World) (K : PySem.W.Frag) (mg : Str → Option Value) (base : Heap) (k : Nat) (C f : Str) (ps : List Str) : Prop where
  ex : ∃ fd : FuncData, FnOk P w K mg base CX0 k (He.ma K (He.ga K C) "__init__") fd ps (S2 (φxinit K C f)) ∧ Binds K fd ps []
/-- C(e) made to be raised -/
def tMkF (C : Addr) (f : Str) (t : TA) : L2.St → Hp → XK → Prop := fun σ H Q => t σ H fun vs H1 => ∃ y, vs = [y] ∧ ∀ d, H1 d = none → Q (.ref C) (some d) (upd H1 d (.xd [(f, y)]))
theorem pmk_f (XB : XBase B newId initId tail) (T : XF X.K X.mg B newId initId tail C f) (D : DXI X.prog X.w X.K X.mg X.base k C f ps) (hr : Room j X.A) (ha : PA X [e] t) (hj : k + 1 ≤ j := by first | decide | omega) (hg : Gl X C := by rfl) (hdb : (C == ("__debug__" : Str)) = false := by decide)
    (he : starEach (e :: []) X.env = (false, eval e X.env) :: starEach [] X.env := by rfl) (hpl : (backTo pos (starEach [] X.env)).any (·.1) = false := by rfl) : PMk X (.Call (.Name C p) [e] [] pos) (tMkF (He.ga X.K C) f t) := by
  obtain ⟨fd, F1, hb⟩ := D.ex
  intro pins s σ H Q I h
  obtain ⟨c1, c2, c3, c4, c5, c6, c7, c8, c9, d0, d1, d2, d3, d5, lk⟩ := T.c.cls
  refine wpAny_Call_Name_kw (ld_glob I hg T.g ?_ hdb)
  refine PySem.W.callWith_K (h₀ := X.base) I.ok.mod.kin T.c.k (thn (ha.run pos pins s σ H _ I h) fun us s1 ⟨vs, H1, I1, r1, y, ev, q1⟩ => ⟨I1.kIn, ?_⟩) he hpl
  subst ev
  obtain ⟨u, eu, ru⟩ := vals1 r1
  subst eu
  show wpAny _ _ (call (.ref (He.ga X.K C)) [u]) _ _ _
  obtain ⟨hp, gg, dr, tk, oo⟩ := s1
  have big : hp.objs.size ≤ hp.objs.size + 1 := Nat.le_succ _
  have na : H1 (hp.objs.size + 1) = none := I1.hok.fresh big
  have kp : ∀ b o, hp.get? b = some o → ((hp.push (PySem.W.kdv_tup [u])).push (PySem.HandSPX.excO (He.ga X.K C) hp.objs.size)).get? b = some o := fun b o z => Heap.get?_push_of_some _ (Heap.get?_push_of_some _ z)
  have at_ : ((hp.push (PySem.W.kdv_tup [u])).push (PySem.HandSPX.excO (He.ga X.K C) hp.objs.size)).get? (hp.objs.size + 1) = some (PySem.HandSPX.excO (He.ga X.K C) hp.objs.size) := by heap_get
  have J := I1.laid (t' := tk) (a := hp.objs.size + 1) (o := exo (hp.objs.size + 1) (He.ga X.K C) none) (h' := (hp.push (PySem.W.kdv_tup [u])).push (PySem.HandSPX.excO (He.ga X.K C) hp.objs.size)) kp big (exo_ok at_)
  let Q2 : VK := fun v H2 => v = .non ∧ ∃ d : Addr, H2 (hp.objs.size + 1) = some (exo (hp.objs.size + 1) (He.ga X.K C) (some d)) ∧ H2 d = some (exd d [(f, y)]) ∧ H1 d = none ∧ Q (.ref (He.ga X.K C)) (some d) (upd (del H2 (hp.objs.size + 1)) d (.xd [(f, y)]))
  have hsp : S2 (φxinit X.K C f) [V.ref (hp.objs.size + 1), y] (upd H1 (hp.objs.size + 1) (exo (hp.objs.size + 1) (He.ga X.K C) none)) Q2 (fun _ _ _ => False) := by
    refine ⟨hp.objs.size + 1, rfl, upd_same, fun dx n ne => ⟨rfl, dx, upd_same, by rw [upd_ne ne, upd_same], ?_, ?_⟩⟩
    · rw [upd_ne ne] at n
      exact n
    · rw [upd_ne ne] at n
      have q9 := q1 dx n
      refine cast ?_ q9
      congr 1
      funext b
      by_cases hbd : b = dx
      · rw [hbd, upd_same, upd_same]
      · rw [upd_ne hbd, upd_ne hbd]
        by_cases hba : b = hp.objs.size + 1
        · rw [hba, del_same, na]
        · rw [del_ne hba, upd_ne hba, upd_ne hbd, upd_ne hba]
  have hl : [Value.ref (hp.objs.size + 1), u].length = ps.length := (F1.len _ _ _ _ hsp)
  have hbd := hb _ [Value.ref (hp.objs.size + 1), u] J.kIn (by simpa using hl)
  rw [List.append_nil] at hbd
  refine wpAny_call (PySem.HandSPX.call_own XB.f (fun _ => rfl) (I1.kIn _ _ lk) (PySem.W.looks_findIn I1.kIn T.i) (fun self => PySem.W.bind_fn I1.kIn self T.fn) (by rw [sizeLine_eq]; exact (by decide : 1 ≤ 16777216))
    (codeAny_mono (F1.run _ X.stack _ _ ⟨[Value.ref (hp.objs.size + 1), u], []⟩ [Value.ref (hp.objs.size + 1), u] [V.ref (hp.objs.size + 1), y] _ (fun _ _ _ => False) ((hr.mono hj).make (He.ga X.K C) [u] []) (J.env0.make (He.ga X.K C) [u] []) hbd (.cons rfl (.cons ru .nil)) hsp) fun r s2 hq => ?_))
  cases r with
  | error er => exact pass0 pins σ _ _ er s2 J hq
  | ok fl =>
    cases fl with
    | ret v9 =>
      obtain ⟨v, H2, os2, bare2, un2, hok2, rv, ev, d, ea, ed, hd1, q2⟩ := hq
      subst ev
      obtain ⟨h2, g2, r2, t2, o2⟩ := s2
      exact ⟨rv, mk_end (raises_own T.c.s T.c.t) I1 big kp un2 hok2 os2 bare2 ea ed hd1 q2⟩
    | next => exact False.elim hq
    | brk => exact False.elim hq
    | cont => exact False.elim hq
/-- raise C(e) -/
def tRaiseF (C : Addr) (f : Str) (W : WX) (t : TA) : TS := fun _ σ H => tMkF C f t σ H fun cls d H2 => W cls d σ H2
theorem ps_raiseF {pos2 : Pos} (XB : XBase B newId initId tail) (hc : X.calm = true) (T : XF X.K X.mg B newId initId tail C f) (D : DXI X.prog X.w X.K X.mg X.base k C f ps) (hr : Room j X.A) (tk : Takes X W) (ha : PA X [e] t) (hj : k + 1 ≤ j := by first | decide | omega) (hg : Gl X C := by rfl) (hdb : (C == ("__debug__" : Str)) = false := by decide)
    (he : starEach (e :: []) X.env = (false, eval e X.env) :: starEach [] X.env := by rfl) (hpl : (backTo pos (starEach [] X.env)).any (·.1) = false := by rfl) :
    PS X (.Raise (some (.Call (.Name C p) [e] [] pos)) none pos2) (tRaiseF (He.ga X.K C) f W t) := ps_raise hc tk (pmk_f XB T D hr ha hj hg hdb he hpl)
/-- e.f of the exception in hand -/
theorem pe_xff {a : Addr} {oe : Obj} {cls : Value} {d : Option Addr} {pn : List (Addr × Obj)} (T : XF X.K X.mg B newId initId tail C f) (hz : Zc cls d oe) (hf : ∃ vs, oe.data = .fields vs) (he : PE (X.suite a ((a, oe) :: pn)) e te)
    (hb : attributeBase e f X.env (eval e X.env) = eval e X.env := by rfl) : PE (X.suite a ((a, oe) :: pn)) (.Attribute e f pos) (tXf a cls d (He.ga X.K C) f te) :=
  pe_xf ⟨T.xa, T.xg, T.c.s, T.hd⟩ T.no hz hf he hb
/-! ### defs that may raise, called with defaults and keywords -/
structure DOXd (P : Program) (w : World) (K : PySem.W.Frag) (mg : Str → Option Value) (base : Heap) (k : Nat) (x : Str) (ps : List Str) (dvs : List V) (sp : Sp) : Prop where
  ex : ∃ (f : Addr) (fd : FuncData) (ds : List Value), FnOk P w K mg base (L2.CX P w) k f fd ps sp ∧ mg x = some (.ref f) ∧ PySem.W.keepIn K (.ref f) = true ∧ Binds K fd ps ds ∧ Vals dvs ds
structure DKX (P : Program) (w : World) (K : PySem.W.Frag) (mg : Str → Option Value) (base : Heap) (k : Nat) (x : Str) (ps : List Str) (n : Nat) (ks : List Str) (tp : List (Nat × Nat)) (dvs : List V) (sp : Sp) : Prop where
  ex : ∃ (f : Addr) (fd : FuncData) (ds : List Value), FnOk P w K mg base (L2.CX P w) k f fd ps sp ∧ mg x = some (.ref f) ∧ PySem.W.keepIn K (.ref f) = true ∧ KBn K fd ps n ks (fun us ws => pick .none tp us ws ds) (fun vs zs => pick .non tp vs zs dvs)
def tCallD (sp : Sp) (dvs : List V) (E : L2.St → XK) (t : TA) : TE := fun σ H Q => t σ H fun vs H1 => sp (vs ++ dvs) H1 Q (E σ)
def tCallKD (n m : Nat) (sp : Sp) (g : List V → List V → List V) (E : L2.St → XK) (t tk : TA) : TE := fun σ H Q => t σ H fun vs H1 => tk σ H1 fun zs H2 => vs.length = n ∧ zs.length = m ∧ sp (g vs zs) H2 Q (E σ)
theorem run_out {pins : List (Addr × Obj)} {σ : L2.St} {H : Hp} {s : Shared} {Q : VK} {E : XK} {fa : Addr} {fd : FuncData} {ar : Args} {us : List Value} {vs : List V} (F : FnOk X.prog X.w X.K X.mg X.base (L2.CX X.prog X.w) k fa fd ps sp) (hr : Room k X.A)
    (hx : PassesAt (L2.CX X.prog X.w) X σ E) (I : Inv X pins σ H s) (b : BindsTo s fd ar (ps.zip us)) (r : Vals vs us) (h : sp vs H Q E) : wpAny (model X.prog X.w) X.A (call (.ref fa) ar.pos ar.kw) (EP X pins σ Q) X.xe s := by
  refine wpAny_call (codeAny_mono (F.run X.A X.stack s H ar us vs Q E hr I.env0 b r h) fun r s2 hq => ?_)
  cases r with
  | error er => exact hx pins H s er s2 I hq
  | ok fl =>
    cases fl with
    | ret u => exact I.after hq
    | next => exact False.elim hq
    | brk => exact False.elim hq
    | cont => exact False.elim hq
theorem pcallXd (D : DOXd X.prog X.w X.K X.mg X.base k x ps dvs sp) (hr : Room j X.A) (tk : Takes X W) (ha : PA X (e :: es) t) (hj : k ≤ j := by first | decide | exact Nat.le_refl _ | omega) (hg : Gl X x := by rfl) (hdb : (x == ("__debug__" : Str)) = false := by decide)
    (he : starEach (e :: es) X.env = (false, eval e X.env) :: starEach es X.env := by rfl) (hpl : (backTo pos (starEach es X.env)).any (·.1) = false := by rfl) :
    PE X (.Call (.Name x p) (e :: es) [] pos) (tCallD sp dvs (WE W) t) := by
  obtain ⟨fa, fd, ds, F, hm, hk, hb, hd⟩ := D.ex
  refine ⟨fun pins s σ H Q I h => ?_⟩
  refine wpAny_Call_Name_kw (ld_glob I hg hm ?_ hdb)
  refine PySem.W.callWith_K (h₀ := X.base) I.ok.mod.kin hk (thn (ha.run pos pins s σ H _ I h) fun us s1 ⟨vs, H1, I1, r, q⟩ => ⟨I1.kIn, ?_⟩) he hpl
  have r2 := r.append hd
  exact run_out (ar := ⟨us, []⟩) F (hr.mono hj) (passAt tk σ) I1 (hb s1 us I1.kIn (by rw [← r2.length]; exact F.len _ _ _ _ q)) r2 q
theorem pcallKX0 {tk2 : TA} (D : DKX X.prog X.w X.K X.mg X.base k x ps 0 ks tp dvs sp) (hr : Room j X.A) (tk : Takes X W) (hkw : PK X kws tk2) (hj : k ≤ j := by first | decide | exact Nat.le_refl _ | omega) (hg : Gl X x := by rfl)
    (hall : (backToKw pos (keywordEach kws X.env)).all (·.1.isSome) = true := by rfl) (hks : (backToKw pos (keywordEach kws X.env)).filterMap (·.1) = ks := by rfl) (hdb : (x == ("__debug__" : Str)) = false := by decide)
    (hpl : ((backTo pos (starEach [] X.env)).any (·.1) || (backToKw pos (keywordEach kws X.env)).any (·.1.isNone)) = false := by rfl) :
    PE X (.Call (.Name x p) [] kws pos) (tCallKD 0 ks.length sp (fun vs zs => pick .non tp vs zs dvs) (WE W) tNil tk2) := by
  obtain ⟨fa, fd, ds, F, hm, hk, hb⟩ := D.ex
  refine ⟨fun pins s σ H Q I h => ?_⟩
  refine wpAny_Call_Name_kw (ld_glob I hg hm ?_ hdb)
  refine PySem.W.callWith_KW0 (h₀ := X.base) I.ok.mod.kin hk hall ?_ hpl
  refine thn (hkw.run pos pins s σ H _ I h) fun ws s2 ⟨zs, H2, I2, rz, l1, l2, q2⟩ => ⟨I2.kIn, ?_⟩
  rw [hks]
  exact run_out (ar := ⟨[], ks.zip ws⟩) F (hr.mono hj) (passAt tk σ) I2 (hb.to s2 [] ws I2.kIn l1 (rz.length.symm.trans l2)) (hb.rel .nil rz) q2
/-! ### try: .. except C as n: .. -/
def wTryA (K : PySem.W.Frag) (C : Addr) (i : Nat) (ts : Addr → Value → Option Addr → TS) (D : Ends) : WX := wAs K (.ref C) i ts (fun _ _ _ _ => False) D
def tTryA (K : PySem.W.Frag) (C : Addr) (i : Nat) (tb : WX → TS) (ts : Addr → Value → Option Addr → TS) : TS := fun D σ H => tb (wTryA K C i ts D) D σ H
theorem ps_tryA {nm : Str} {i : Nat} {body suite : List Stmt} {b₀ : Stmt} {np pos2 : Pos} {tb : WX → TS} {ts : Addr → Value → Option Addr → TS} (g : X.mg C = some (.ref (He.ga X.K C))) (hN : X.N.Nodup) (hi : X.N[i]? = some nm) (hs : X.stack = X.env :: X.outer) (hf : X.env.frame = some X.env.locals) (hln : X.env.kindOf nm = some .local) (hg : Gl X C)
    (hb : ∀ (W : WX) (pn : List (Addr × Obj)) (xe : Value → Shared → Prop), Takes (X.tr pn xe) W → PSs (X.tr pn xe) body (tb W))
    (hsu : ∀ (a : Addr) (oe : Obj) (cls : Value) (d : Option Addr) (pn : List (Addr × Obj)), Zc cls d oe → (∃ vs, oe.data = .fields vs) → PSs (X.suite a ((a, oe) :: pn)) (b₀ :: suite) (ts a cls d)) (hdb : (C == ("__debug__" : Str)) = false := by decide) :
    PS X (.Try body [.ExceptHandler (some (.Name C np)) (some nm) (b₀ :: suite) pos2] [] [] pos) (tTryA X.K (He.ga X.K C) i tb ts) :=
  ps_try_as (Wout := fun _ _ _ _ => False) hs hf hN hi hln ⟨hg, hdb, .inl g⟩ takes0 (fun W pn xe tk _ => hb W pn xe tk) hsu
end
section
variable {K : PySem.W.Frag} {mg : Str → Option Value} {σ : L2.St} {H : Hp} {Q : VK} {C f : Str} {D : Ends} {W : WX} {tb : WX → TS} {ts : Addr → Value → Option Addr → TS} {sp : Sp} {dvs : List V} {t tk : TA} {n m i : Nat} {Cc : Addr} {EE : L2.St → XK} {te : TE} {g : List V → List V → List V}
theorem x_tryA (q : tb (wTryA K Cc i ts D) D σ H) : tTryA K Cc i tb ts D σ H := q
instance : Step (tTryA K Cc i tb ts D σ H) (tb (wTryA K Cc i ts D) D σ H) := ⟨x_tryA⟩ -- st
theorem x_callD (q : t σ H fun vs H1 => sp (vs ++ dvs) H1 Q (EE σ)) : tCallD sp dvs EE t σ H Q := q
instance : Step (tCallD sp dvs EE t σ H Q) (t σ H fun vs H1 => sp (vs ++ dvs) H1 Q (EE σ)) := ⟨x_callD⟩ -- st
theorem x_callKD (q : t σ H fun vs H1 => tk σ H1 fun zs H2 => vs.length = n ∧ zs.length = m ∧ sp (g vs zs) H2 Q (EE σ)) : tCallKD n m sp g EE t tk σ H Q := q
instance : Step (tCallKD n m sp g EE t tk σ H Q) (t σ H fun vs H1 => tk σ H1 fun zs H2 => vs.length = n ∧ zs.length = m ∧ sp (g vs zs) H2 Q (EE σ)) := ⟨x_callKD⟩ -- st
/-- what a suite finds -/
theorem w_caughtA {d : Option Addr} (em : PySem.W.exmOne K (.ref Cc) (.ref Cc) = some true) (q : ∀ a, H a = none → ts a (.ref Cc) d { nx := fun σ2 H2 => D.nx (σ2.set i none) H2, rt := D.rt, bk := fun σ2 H2 => D.bk (σ2.set i none) H2, ct := fun σ2 H2 => D.ct (σ2.set i none) H2 } (σ.set i (some (.ref a))) H) :
    wTryA K Cc i ts D (.ref Cc) d σ H := ⟨true, em, fun _ => q, fun z => nomatch z⟩
def gXi (K : PySem.W.Frag) (tail : List Value) (newId : String) (vs : List V) (H1 : Hp) (Q : VK) : Prop := ∃ (a C : Addr) (ws : List V), vs = .ref a :: ws ∧ ws.length ≤ 1000 ∧ XCls K C tail newId ∧ H1 a = some (exo a C none) ∧ Q .non H1
theorem x_xi {tail : List Value} {newId : String} (q : t σ H fun vs H1 => gXi K tail newId vs H1 Q) : tXi K tail newId t σ H Q := q
instance {tail : List Value} {newId : String} : Step (tXi K tail newId t σ H Q) (t σ H fun vs H1 => gXi K tail newId vs H1 Q) := ⟨x_xi⟩ -- st
def gXo (K : PySem.W.Frag) (tail : List Value) (newId : String) (f : Str) (D : Ends) (σ : L2.St) (y x : V) (H2 : Hp) : Prop := ∃ a C : Addr, x = .ref a ∧ XCls K C tail newId ∧ PySem.W.findIn K (.ref C) f = some none ∧ H2 a = some (exo a C none) ∧
  ∀ dx, H2 dx = none → dx ≠ a → D.nx σ (upd (upd H2 dx (exd dx [(f, y)])) a (exo a C (some dx)))
theorem x_xo {tail : List Value} {newId : String} {to : TE} (q : te σ H fun y H1 => to σ H1 fun x H2 => gXo K tail newId f D σ y x H2) : tXo K tail newId f to te D σ H := q
instance {tail : List Value} {newId : String} {to : TE} : Step (tXo K tail newId f to te D σ H) (te σ H fun y H1 => to σ H1 fun x H2 => gXo K tail newId f D σ y x H2) := ⟨x_xo⟩ -- st
def gRF (C : Addr) (f : Str) (W : WX) (σ : L2.St) (vs : List V) (H1 : Hp) : Prop := ∃ y, vs = [y] ∧ ∀ d, H1 d = none → W (.ref C) (some d) σ (upd H1 d (.xd [(f, y)]))
theorem x_rf (q : t σ H fun vs H1 => gRF Cc f W σ vs H1) : tRaiseF Cc f W t D σ H := q
instance : Step (tRaiseF Cc f W t D σ H) (t σ H fun vs H1 => gRF Cc f W σ vs H1) := ⟨x_rf⟩ -- st
def gXf (a : Addr) (cls : Value) (d : Option Addr) (C : Addr) (f : Str) (x : V) (H : Hp) (Q : VK) : Prop := x = .ref a ∧ cls = .ref C ∧ ∃ (dd : Addr) (fs : List (Str × V)) (v : V), d = some dd ∧ H dd = some (.xd fs) ∧ fs.lookup f = some v ∧ Q v H
theorem x_xf {a : Addr} {cls : Value} {d : Option Addr} (q : te σ H fun x H1 => gXf a cls d Cc f x H1 Q) : tXf a cls d Cc f te σ H Q := q
instance {a : Addr} {cls : Value} {d : Option Addr} : Step (tXf a cls d Cc f te σ H Q) (te σ H fun x H1 => gXf a cls d Cc f x H1 Q) := ⟨x_xf⟩ -- st
theorem n_xf {a dd : Addr} {fs : List (Str × V)} {v : V} (h : H dd = some (.xd fs)) (l : fs.lookup f = some v) (q : Q v H) : gXf a (.ref Cc) (some dd) Cc f (.ref a) H Q := ⟨rfl, rfl, dd, fs, v, rfl, h, l, q⟩
end
end
end R
namespace R
open PySem PySem.Spec PyProof.Rows L2
section
variable {cs : List V} {n N : Nat} {D : Nat → Prop} {sp : Option Nat} {room ss : List V}
theorem nd_sub : ∀ {a b : List Nat}, a.Nodup → (∀ x ∈ a, x ∈ b) → a.length ≤ b.length
  | [], _, _, _ => Nat.zero_le _
  | x :: a, b, hn, h => by
    have hx := h x (List.mem_cons_self ..)
    have h1 := nd_sub (a := a) (b := b.erase x) (List.nodup_cons.mp hn).2 fun y hy => (List.mem_erase_of_ne fun (e : y = x) => (List.nodup_cons.mp hn).1 (e ▸ hy)).mpr (h y (List.mem_cons_of_mem _ hy))
    rw [List.length_erase_of_mem hx] at h1
    have := List.length_pos_of_mem hx
    rw [List.length_cons]
    omega
theorem gC_ch (hc : ∀ v ∈ cs, CellOk n v) {q p : Nat} (h : gC cs q = some p) : q ∈ chL cs := ch_mem.mpr ⟨(gC_lt hc h).1, gC_chg hc h⟩
theorem cy_ch (hc : ∀ v ∈ cs, CellOk n v) {x : Nat} (h : Cy (gC cs) x) : x ∈ chL cs := by
  obtain ⟨k, hk⟩ := h
  obtain ⟨y, hy⟩ := it_some hk 1
  exact gC_ch hc hy
theorem cy_pred {g : Nat → Option Nat} {x : Nat} (h : Cy g x) : ∃ q, g q = some x ∧ Cy g q := by
  obtain ⟨k, hk⟩ := h
  have e : (it g k x).bind g = some x := hk
  cases e2 : it g k x with
  | none => rw [e2] at e; cases e
  | some q => rw [e2] at e; exact ⟨q, e, Cy.next ⟨k, hk⟩ e2⟩
theorem ind_pos (hc : ∀ v ∈ cs, CellOk n v) {q p : Nat} (h : gC cs q = some p) : indG (gC cs) cs.length p ≠ 0 := by
  unfold indG
  intro e
  have hm : q ∈ (List.range cs.length).filter fun q => decide (gC cs q = some p) := List.mem_filter.mpr ⟨List.mem_range.mpr (gC_lt hc h).1, decide_eq_true h⟩
  rw [List.length_eq_zero_iff.mp e] at hm
  cases hm
theorem ind_ne {p : Nat} (h : indG (gC cs) cs.length p ≠ 0) : ∃ q, gC cs q = some p := by
  unfold indG at h
  cases e : (List.range cs.length).filter fun q => decide (gC cs q = some p) with
  | nil => rw [e] at h; exact absurd rfl h
  | cons q t =>
    have hm : q ∈ (List.range cs.length).filter fun q => decide (gC cs q = some p) := by rw [e]; exact List.mem_cons_self ..
    exact ⟨q, of_decide_eq_true (List.mem_filter.mp hm).2⟩
theorem ind_uni (hc : ∀ v ∈ cs, CellOk n v) {p q : Nat} (h : gC cs q = some p) (hu : ∀ q2, gC cs q2 = some p → q2 = q) : indG (gC cs) cs.length p = 1 := by
  unfold indG
  have e : ((List.range cs.length).filter fun q => decide (gC cs q = some p)).Perm [q] := by
    refine (List.perm_ext_iff_of_nodup (List.Nodup.sublist List.filter_sublist List.nodup_range) (by simp)).mpr fun x => ?_
    rw [List.mem_filter, List.mem_singleton, List.mem_range, decide_eq_true_eq]
    constructor
    · exact fun z => hu x z.2
    · rintro rfl
      exact ⟨(gC_lt hc h).1, h⟩
  rw [e.length_eq]
  rfl
/-! ### the cell that can be spared -/
def spB (cs : List V) (n p : Nat) : Bool := (decide (n ≤ p) || decide (indG (gC cs) cs.length p = 0)) && (decide (cs.length ≤ p) || chgC cs p)
def spC (cs : List V) (n : Nat) : Option Nat := (List.range (max n cs.length)).find? (spB cs n)
theorem spC_some {c : Nat} (hc : ∀ v ∈ cs, CellOk n v) (h : spC cs n = some c) : c < max n cs.length ∧ (∀ q, gC cs q ≠ some c) ∧ (cs.length ≤ c ∨ c ∈ chL cs) := by
  have h1 := List.find?_some h
  have h2 := List.mem_of_find?_eq_some h
  unfold spB at h1
  obtain ⟨h3, h4⟩ := Bool.and_eq_true_iff.mp h1
  refine ⟨List.mem_range.mp h2, fun q hq => ?_, ?_⟩
  · rcases Bool.or_eq_true_iff.mp h3 with h | h
    · have := of_decide_eq_true h
      have := (gC_lt hc hq).2
      omega
    · exact ind_pos hc hq (of_decide_eq_true h)
  · by_cases hl : cs.length ≤ c
    · exact .inl hl
    · refine .inr (ch_mem.mpr ⟨by omega, (Bool.or_eq_true_iff.mp h4).resolve_left fun z => hl (of_decide_eq_true z)⟩)
theorem spC_none (h : spC cs n = none) {p : Nat} (hp : p < max n cs.length) : (p < n ∧ ∃ q, gC cs q = some p) ∨ (p < cs.length ∧ p ∉ chL cs) := by
  have h1 := List.find?_eq_none.mp h p (List.mem_range.mpr hp)
  unfold spB at h1
  by_cases h2 : n ≤ p ∨ indG (gC cs) cs.length p = 0
  · refine .inr ?_
    have h3 : ¬ (cs.length ≤ p ∨ chgC cs p = true) := fun h4 => h1 (Bool.and_eq_true_iff.mpr ⟨Bool.or_eq_true_iff.mpr (h2.imp decide_eq_true decide_eq_true), Bool.or_eq_true_iff.mpr (h4.imp_left decide_eq_true)⟩)
    exact ⟨by have := fun z => h3 (.inl z); omega, fun z => h3 (.inr (ch_mem.mp z).2)⟩
  · exact .inl ⟨by have := fun z => h2 (.inl z); omega, ind_ne fun z => h2 (.inr z)⟩
theorem pc_cy {x : Nat} (h : Pc (gC cs) N x) : Cy (gC cs) x := by
  obtain ⟨k, hk, _⟩ := h
  exact ⟨k, hk⟩
/-! ### the cells that nobody waits for -/
def Fr (cs : List V) (P : List Nat) (x : Nat) : Prop := ∀ q, gC cs q = some x → q ∈ P
theorem fr_lf (hc : ∀ v ∈ cs, CellOk n v) {P : List Nat} {x : Nat} : Fr cs P x ↔ lfC cs P x = 0 := by
  constructor
  · intro h
    refine Classical.byContradiction fun z => ?_
    obtain ⟨q, _, h2, h3⟩ := lf_pos z
    exact h2 (h q h3)
  · intro h q hq
    refine Classical.byContradiction fun z => lf_ne (gC_ch hc hq) z hq h
structure UnI (cs : List V) (P Rd : List Nat) : Prop where
  pn : P.Nodup
  pc : ∀ x ∈ P, x ∈ chL cs
  cy : ∀ x ∈ P, ¬ Cy (gC cs) x
  un : ∀ x ∈ P, Fr cs P x
  rd : ∀ x, x ∈ Rd ↔ (x ∈ chL cs ∧ x ∉ P ∧ Fr cs P x)
  rn : Rd.Nodup
  od : P.Pairwise fun a b => gC cs b ≠ some a
theorem UnI.le {P Rd : List Nat} (h : UnI cs P Rd) : P.length ≤ (chL cs).length := nd_sub h.pn fun x hx => h.pc x hx
theorem UnI.lt {P Rd : List Nat} {p : Nat} (h : UnI cs P Rd) (hp : p ∈ Rd) : P.length < (chL cs).length := by
  obtain ⟨h1, h2, _⟩ := (h.rd p).mp hp
  have := nd_sub (List.nodup_cons.mpr ⟨h2, h.pn⟩) (fun x hx => (List.mem_cons.mp hx).elim (fun e => e ▸ h1) (h.pc x))
  rw [List.length_cons] at this
  exact this
def readyL (cs : List V) (n : Nat) : List Nat := (chL cs).filter fun p => decide (n ≤ p) || decide (lfC cs [] p = 0)
/-- the cells that nobody waits for, as they are taken -/
def unExt (cs : List V) (P : List Nat) (p : Nat) : List Nat := match gC cs p with
  | some w => if lfC cs P w = 0 ∧ w ∈ chL cs then [w] else []
  | none => []
def unF (cs : List V) : Nat → List Nat → List Nat → List Nat
  | 0, P, _ => P
  | m + 1, P, Rd => match Rd.getLast? with
    | none => P
    | some p => unF cs m (P ++ [p]) (Rd.dropLast ++ unExt cs (P ++ [p]) p)
def unP (cs : List V) (n : Nat) : List Nat := unF cs (chL cs).length [] (readyL cs n)
theorem unF_nil {m : Nat} {P : List Nat} : unF cs m P [] = P := by
  cases m <;> rfl
theorem unF_go {m : Nat} {P R0 : List Nat} {p : Nat} {x : List Nat} (h : unExt cs (P ++ [p]) p = x) : unF cs (m + 1) P (R0 ++ [p]) = unF cs m (P ++ [p]) (R0 ++ x) := by
  rw [unF.eq_2, List.getLast?_concat]
  show unF cs m (P ++ [p]) ((R0 ++ [p]).dropLast ++ unExt cs (P ++ [p]) p) = _
  rw [List.dropLast_concat, h]
theorem unE_some {P : List Nat} {p w : Nat} (h : gC cs p = some w) (a : lfC cs P w = 0) (b : w ∈ chL cs) : unExt cs P p = [w] := by
  unfold unExt
  rw [h]
  exact if_pos ⟨a, b⟩
theorem unE_no {P : List Nat} {p w : Nat} (h : gC cs p = some w) (a : ¬ (lfC cs P w = 0 ∧ w ∈ chL cs)) : unExt cs P p = [] := by
  unfold unExt
  rw [h]
  exact if_neg a
theorem unE_none {P : List Nat} {p : Nat} (h : gC cs p = none) : unExt cs P p = [] := by
  unfold unExt
  rw [h]
theorem un_start (hc : ∀ v ∈ cs, CellOk n v) : UnI cs [] (readyL cs n) := by
  refine ⟨List.nodup_nil, (fun _ h => nomatch h), (fun _ h => nomatch h), (fun _ h => nomatch h), fun x => ?_, List.Nodup.sublist List.filter_sublist (ch_nodup cs), .nil⟩
  unfold readyL
  rw [List.mem_filter, Bool.or_eq_true, decide_eq_true_eq, decide_eq_true_eq]
  constructor
  · rintro ⟨h1, h2⟩
    refine ⟨h1, (fun h => nomatch h), ?_⟩
    rcases h2 with h2 | h2
    · intro q hq
      have := (gC_lt hc hq).2
      omega
    · exact (fr_lf hc).mpr h2
  · rintro ⟨h1, _, h3⟩
    exact ⟨h1, .inr ((fr_lf hc).mp h3)⟩
theorem UnI.ncy {P R0 : List Nat} {p : Nat} (h : UnI cs P (R0 ++ [p])) : ¬ Cy (gC cs) p := fun z => by
  obtain ⟨_, _, h3⟩ := (h.rd p).mp (List.mem_append_right _ (List.mem_singleton.mpr rfl))
  obtain ⟨q, hq, hqc⟩ := cy_pred z
  exact h.cy q (h3 q hq) hqc
theorem UnI.next {P R0 : List Nat} {p : Nat} (h : UnI cs P (R0 ++ [p])) {R2 : List Nat} (hn : R2.Nodup) (h2 : ∀ x, x ∈ R2 ↔ (x ∈ R0 ∨ (gC cs p = some x ∧ x ∈ chL cs ∧ Fr cs (P ++ [p]) x))) : UnI cs (P ++ [p]) R2 := by
  obtain ⟨p1, p2, p3⟩ := (h.rd p).mp (List.mem_append_right _ (List.mem_singleton.mpr rfl))
  have hR0 : ∀ x, x ∈ R0 ↔ (x ∈ R0 ++ [p] ∧ x ≠ p) := fun x => by
    rw [List.mem_append, List.mem_singleton]
    constructor
    · intro hx
      refine ⟨.inl hx, fun e => ?_⟩
      subst e
      exact (List.nodup_append.mp h.rn).2.2 x hx x (List.mem_singleton.mpr rfl) rfl
    · rintro ⟨hx | hx, hne⟩
      · exact hx
      · exact absurd hx hne
  have hfr : ∀ x, Fr cs P x → Fr cs (P ++ [p]) x := fun x hx q hq => List.mem_append_left _ (hx q hq)
  refine ⟨List.nodup_append.mpr ⟨h.pn, by simp, fun a ha b hb e => p2 (by rw [← List.mem_singleton.mp hb, ← e]; exact ha)⟩, fun x hx => ?_, fun x hx => ?_, fun x hx => ?_, fun x => ?_, hn, List.pairwise_append.mpr ⟨h.od, List.pairwise_singleton _ _, fun a ha b hb e => ?_⟩⟩
  · rcases List.mem_append.mp hx with hx | hx
    · exact h.pc x hx
    · rw [List.mem_singleton.mp hx]; exact p1
  · rcases List.mem_append.mp hx with hx | hx
    · exact h.cy x hx
    · rw [List.mem_singleton.mp hx]; exact h.ncy
  · rcases List.mem_append.mp hx with hx | hx
    · exact hfr x (h.un x hx)
    · rw [List.mem_singleton.mp hx]; exact hfr p p3
  · rw [h2, hR0, h.rd]
    constructor
    · rintro (⟨⟨q1, q2, q3⟩, q4⟩ | ⟨q1, q2, q3⟩)
      · exact ⟨q1, fun z => (List.mem_append.mp z).elim q2 fun z => q4 (List.mem_singleton.mp z), hfr x q3⟩
      · refine ⟨q2, fun z => ?_, q3⟩
        rcases List.mem_append.mp z with z | z
        · exact p2 (h.un x z p q1)
        · have e := List.mem_singleton.mp z
          rw [e] at q1
          exact p2 (p3 p q1)
    · rintro ⟨q1, q2, q3⟩
      have q2' : x ∉ P := fun z => q2 (List.mem_append_left _ z)
      have q4 : x ≠ p := fun z => q2 (List.mem_append_right _ (List.mem_singleton.mpr z))
      by_cases e : gC cs p = some x
      · exact .inr ⟨e, q1, q3⟩
      · refine .inl ⟨⟨q1, q2', fun q hq => ?_⟩, q4⟩
        rcases List.mem_append.mp (q3 q hq) with z | z
        · exact z
        · rw [List.mem_singleton.mp z] at hq
          exact absurd hq e
  · rw [List.mem_singleton.mp hb] at e
    exact p2 (h.un a ha p e)
theorem UnI.done (hc : ∀ v ∈ cs, CellOk n v) {P : List Nat} (h : UnI cs P []) {x : Nat} : x ∈ P ↔ x ∈ chL cs ∧ ¬ Cy (gC cs) x := by
  constructor
  · exact fun hx => ⟨h.pc x hx, h.cy x hx⟩
  · rintro ⟨h1, h2⟩
    refine Classical.byContradiction fun z => h2 ?_
    refine cy_all (N := cs.length) (U := fun x => x ∈ chL cs ∧ x ∉ P) (fun x hx => (ch_mem.mp hx.1).1) (fun x hx => ?_) ⟨h1, z⟩
    have h3 : ¬ Fr cs P x := fun y => by
      have := (h.rd x).mpr ⟨hx.1, hx.2, y⟩
      cases this
    refine Classical.byContradiction fun no => h3 fun q hq => Classical.byContradiction fun nq => no ⟨q, ⟨gC_ch hc hq, nq⟩, hq⟩
/-- a cell's row -/
def rowU (cs : List V) (p : Nat) : JR := match cs[p]? with
  | some (.int i) => .copy (p : Nat) i 1
  | some (.str s) => .put (p : Nat) s
  | _ => .copy 0 0 1
theorem ch_two (hc : ∀ v ∈ cs, CellOk n v) {p : Nat} (h : p ∈ chL cs) : (∃ w : Nat, gC cs p = some w ∧ cs[p]? = some (.int (w : Nat)) ∧ w ≠ p ∧ rowU cs p = .copy (p : Nat) (w : Nat) 1) ∨ (gC cs p = none ∧ ∃ c : Nat, cs[p]? = some (.str ⟨#[c]⟩) ∧ c < 0x110000 ∧ rowU cs p = .put (p : Nat) ⟨#[c]⟩) := by
  obtain ⟨h1, h2⟩ := ch_mem.mp h
  have e : cs[p]? = some cs[p] := List.getElem?_eq_getElem h1
  rcases hc _ (List.getElem_mem h1) with ⟨i, hi, _⟩ | ⟨c, hi, hcc⟩
  · rw [hi] at e
    have hne : i ≠ p := fun z => by
      unfold chgC at h2
      rw [e, z, decide_eq_true rfl] at h2
      cases h2
    exact .inl ⟨i, (gC_some hc).mpr ⟨e, hne⟩, e, hne, by unfold rowU; rw [e]⟩
  · rw [hi] at e
    refine .inr ⟨?_, c, e, hcc, by unfold rowU; rw [e]⟩
    cases eg : gC cs p with
    | none => rfl
    | some w =>
      have := ((gC_some hc).mp eg).1
      rw [e] at this
      cases this
theorem un_row (hc : ∀ v ∈ cs, CellOk n v) (hN : n ≤ N) (hl : cs.length ≤ N) (I : RmI cs n N D sp room) {p : Nat} (hp : p ∈ chL cs) (hr : ∀ w, gC cs p = some w → ¬ D w ∧ sp ≠ some w) :
    ∃ room2, doneV (rowU cs p) room ss = some (room2, ss) ∧ RmI cs n N (fun x => D x ∨ x = p) sp room2 := by
  have hpl := Nat.lt_of_lt_of_le (ch_mem.mp hp).1 hl
  rcases ch_two hc hp with ⟨w, h1, h2, h3, h4⟩ | ⟨h1, c, h2, h3, h4⟩
  · refine ⟨room.set p (.int (w : Nat)), ?_, I.one hpl h2⟩
    rw [h4]
    exact do_copy (by rw [I.l]; exact hpl) (I.old w (gC_lt hc h1).2 (hr w h1).1 (hr w h1).2) (nn_int _) fun e => h3 e.symm
  · refine ⟨room.set p (.str ⟨#[c]⟩), ?_, I.one hpl h2⟩
    rw [h4]
    exact do_put (by rw [I.l]; exact hpl)
/-! ### the three parts of a plan, gone -/
def frstN (r : List Nat) : Nat := r.getD 0 0
def lastN (r : List Nat) : Nat := r.getD (r.length - 1) 0
def onePur (slot : Bool) (c : Nat) (r : List Nat) : List JR := if slot then .keep 0 (frstN r : Nat) 1 :: (rndR r ++ [.lay (lastN r : Nat) 0 1]) else .copy (c : Nat) (frstN r : Nat) 1 :: (rndR r ++ [.copy (lastN r : Nat) (c : Nat) 1])
theorem frst_get {r : List Nat} (h : r ≠ []) : r[0]? = some (frstN r) := by
  cases r with
  | nil => exact absurd rfl h
  | cons a t => rfl
theorem last_get {r : List Nat} (h : r ≠ []) : r[r.length - 1]? = some (lastN r) := by
  have hl := List.length_pos_iff.mpr h
  unfold lastN
  rw [List.getD_eq_getElem?_getD, List.getElem?_eq_getElem (by omega)]
  rfl
theorem onePur_len {slot : Bool} {c : Nat} {r : List Nat} (h : r ≠ []) : (onePur slot c r).length = r.length + 1 := by
  have hl := List.length_pos_iff.mpr h
  unfold onePur
  cases slot
  · show (rndR r ++ _).length + 1 = _
    rw [List.length_append, rnd_len]
    show r.length - 1 + 1 + 1 = _
    omega
  · show (rndR r ++ _).length + 1 = _
    rw [List.length_append, rnd_len]
    show r.length - 1 + 1 + 1 = _
    omega
theorem pur_run (hc : ∀ v ∈ cs, CellOk n v) (hN : n ≤ N) {slot : Bool} {c : Nat} : ∀ (as : List (List Nat)) {D : Nat → Prop} {room ss : List V}, RmI cs n N D sp room → (∀ r ∈ as, RgO cs n N r) → (as.Pairwise fun a b => ∀ x ∈ a, x ∉ b) → (∀ r ∈ as, ∀ x ∈ r, ¬ D x ∧ sp ≠ some x) →
    (slot = true → 0 < ss.length) → (slot = false → sp = some c ∧ c < N ∧ ¬ D c) →
    ∃ room2 ss2, stepsJ (as.flatMap (onePur slot c)) (room, ss) = some (room2, ss2) ∧ ss2.length = ss.length ∧ RmI cs n N (fun x => D x ∨ ∃ r ∈ as, x ∈ r) sp room2
  | [], D, room, ss, I, _, _, _, _, _ => ⟨room, ss, rfl, rfl, I.congr fun x => by simp⟩
  | r :: as, D, room, ss, I, hO, hd, hD, hs, hcc => by
    have O := hO r (List.mem_cons_self ..)
    obtain ⟨hd1, hd2⟩ := List.pairwise_cons.mp hd
    have h0 := frst_get O.ne
    have hl := last_get O.ne
    have one : ∃ room2 ss2, stepsJ (onePur slot c r) (room, ss) = some (room2, ss2) ∧ ss2.length = ss.length ∧ RmI cs n N (fun x => D x ∨ x ∈ r) sp room2 := by
      unfold onePur
      cases slot with
      | true => exact I.slot hc hN O (fun x hx => (hD r (List.mem_cons_self ..) x hx).1) (fun x hx => (hD r (List.mem_cons_self ..) x hx).2) h0 hl (hs rfl)
      | false =>
        obtain ⟨e, hcN, hcD⟩ := hcc rfl
        subst e
        obtain ⟨room2, h1, h2⟩ := I.cell hc hN (ss := ss) O (fun x hx => (hD r (List.mem_cons_self ..) x hx).1) (fun z => (hD r (List.mem_cons_self ..) c z).2 rfl) hcN hcD h0 hl
        exact ⟨room2, ss, h1, rfl, h2⟩
    obtain ⟨room2, ss2, h1, h2, h3⟩ := one
    obtain ⟨room3, ss3, h4, h5, h6⟩ := pur_run hc hN as h3 (fun r2 h => hO r2 (List.mem_cons_of_mem _ h)) hd2 (fun r2 hr2 x hx => ⟨fun z => z.elim (hD r2 (List.mem_cons_of_mem _ hr2) x hx).1 fun z => hd1 r2 hr2 x z hx, (hD r2 (List.mem_cons_of_mem _ hr2) x hx).2⟩) (fun e => by rw [h2]; exact hs e)
      (fun e => ⟨(hcc e).1, (hcc e).2.1, fun z => z.elim (hcc e).2.2 fun z => (hD r (List.mem_cons_self ..) c z).2 (hcc e).1⟩)
    refine ⟨room3, ss3, ?_, by rw [h5, h2], h6.congr fun x => Iff.symm ?_⟩
    · rw [List.flatMap_cons, steps_two h1]
      exact h4
    · constructor
      · rintro ((h | h) | ⟨r2, h, hx⟩)
        · exact .inl h
        · exact .inr ⟨r, List.mem_cons_self .., h⟩
        · exact .inr ⟨r2, List.mem_cons_of_mem _ h, hx⟩
      · rintro (h | ⟨r2, h, hx⟩)
        · exact .inl (.inl h)
        · rcases List.mem_cons.mp h with rfl | h
          · exact .inl (.inr hx)
          · exact .inr ⟨r2, h, hx⟩
theorem un_run (hc : ∀ v ∈ cs, CellOk n v) (hN : n ≤ N) (hl : cs.length ≤ N) : ∀ (P : List Nat) {D : Nat → Prop} {room : List V}, RmI cs n N D sp room → (∀ p ∈ P, p ∈ chL cs) → (P.Pairwise fun a b => gC cs b ≠ some a) → (∀ p ∈ P, ∀ w, gC cs p = some w → ¬ D w ∧ sp ≠ some w) →
    ∃ room2, stepsJ (P.map (rowU cs)) (room, ss) = some (room2, ss) ∧ RmI cs n N (fun x => D x ∨ x ∈ P) sp room2
  | [], D, room, I, _, _, _ => ⟨room, rfl, I.congr fun x => by simp⟩
  | p :: P, D, room, I, hP, hd, hD => by
    obtain ⟨hd1, hd2⟩ := List.pairwise_cons.mp hd
    obtain ⟨room2, h1, h2⟩ := un_row hc hN hl (ss := ss) I (hP p (List.mem_cons_self ..)) (hD p (List.mem_cons_self ..))
    obtain ⟨room3, h3, h4⟩ := un_run hc hN hl P h2 (fun q h => hP q (List.mem_cons_of_mem _ h)) hd2 fun q hq w hw => ⟨fun z => z.elim (hD q (List.mem_cons_of_mem _ hq) w hw).1 fun z => hd1 q hq (by rw [hw, z]), (hD q (List.mem_cons_of_mem _ hq) w hw).2⟩
    refine ⟨room3, ?_, h4.congr fun x => Iff.symm ?_⟩
    · rw [List.map_cons, step1 (st := (room, ss)) h1]
      exact h3
    · rw [List.mem_cons]
      constructor
      · rintro ((h | h) | h)
        · exact .inl h
        · exact .inr (.inl h)
        · exact .inr (.inr h)
      · rintro (h | h | h)
        · exact .inl (.inl h)
        · exact .inl (.inr h)
        · exact .inr h
/-- rows of one cell -/
def U1 : JR → Prop
  | .put _ s => ∃ c : Nat, s = ⟨#[c]⟩ ∧ c < 0x110000
  | .keep _ _ m => m = 1
  | .lay _ _ m => m = 1
  | .copy _ _ m => m = 1
theorem U1.s {r : JR} (h : U1 r) : r.sOk := by
  cases r with
  | put to s =>
    obtain ⟨c, rfl, hcc⟩ := h
    exact ⟨one_ok hcc, (show (1 : Nat) ≤ 1000 by decide)⟩
  | _ => trivial
theorem u1_rnd : ∀ {r : List Nat}, ∀ j ∈ rndR r, U1 j
  | [], _, h => nomatch h
  | [_], _, h => nomatch h
  | a :: b :: t, j, h => by
    rcases List.mem_cons.mp h with rfl | h
    · rfl
    · exact u1_rnd (r := b :: t) j h
theorem u1_pur {slot : Bool} {c : Nat} {r : List Nat} : ∀ j ∈ onePur slot c r, U1 j := by
  intro j hj
  unfold onePur at hj
  cases slot
  · rcases List.mem_cons.mp hj with rfl | hj
    · rfl
    · rcases List.mem_append.mp hj with hj | hj
      · exact u1_rnd j hj
      · rw [List.mem_singleton.mp hj]; rfl
  · rcases List.mem_cons.mp hj with rfl | hj
    · rfl
    · rcases List.mem_append.mp hj with hj | hj
      · exact u1_rnd j hj
      · rw [List.mem_singleton.mp hj]; rfl
theorem u1_un (hc : ∀ v ∈ cs, CellOk n v) {p : Nat} (hp : p ∈ chL cs) : U1 (rowU cs p) := by
  rcases ch_two hc hp with ⟨w, _, _, _, h4⟩ | ⟨_, c, _, h3, h4⟩
  · rw [h4]; rfl
  · rw [h4]; exact ⟨c, rfl, h3⟩
/-- a ring of which a sign stands elsewhere -/
theorem rd_got (hc : ∀ v ∈ cs, CellOk n v) {rs : List (List Nat)} (G : RgsOk cs rs) {r : List Nat} (hr : r ∈ rs) (hp : pureB cs r = false) : ∃ f ∈ r, ∃ q, gC cs q = some f ∧ ¬ Cy (gC cs) q := by
  unfold pureB at hp
  obtain ⟨f, hf, hne⟩ := List.all_eq_false.mp hp
  have hne : indG (gC cs) cs.length f ≠ 1 := fun e => hne (decide_eq_true e)
  obtain ⟨y, hy, hyf⟩ := G.ok.got hr hf
  refine Classical.byContradiction fun no => hne (ind_uni hc hyf fun q2 h2 => ?_)
  have hcy2 : Cy (gC cs) q2 := Classical.byContradiction fun z => no ⟨f, hf, q2, h2, z⟩
  exact cy_inj hcy2 (ring_cy G.ok hr hy) h2 hyf
/-! ### what is held of the cells that were copied -/
/-- the last one that took an old sign -/
def hdF (cs : List V) (P : List Nat) (f : Nat) : Option Nat := (P.filter fun q => decide (gC cs q = some f)).getLast?
theorem hdF_yes {P : List Nat} {p f : Nat} (h : gC cs p = some f) : hdF cs (P ++ [p]) f = some p := by
  unfold hdF
  rw [List.filter_append, List.filter_cons_of_pos (by rw [decide_eq_true_eq]; exact h), List.filter_nil, List.getLast?_append]
  rfl
theorem hdF_no {P : List Nat} {p f : Nat} (h : gC cs p ≠ some f) : hdF cs (P ++ [p]) f = hdF cs P f := by
  unfold hdF
  rw [List.filter_append, List.filter_cons_of_neg (by rw [decide_eq_true_eq]; exact h), List.filter_nil, List.append_nil]
structure HdOk (cs : List V) (P : List Nat) (kvs : List (Key × V)) : Prop where
  fn : ∀ f : Nat, valV kvs (.inl (f : Int)) = (hdF cs P f).map fun (q : Nat) => V.int (q : Nat)
  len : kvs.length ≤ P.length
  ok : ∀ (f : Nat) v, valV kvs (.inl (f : Int)) = some v → ∃ q : Nat, q ∈ P ∧ v = .int (q : Nat) ∧ gC cs q = some f
  all : ∀ q ∈ P, ∀ f, gC cs q = some f → (valV kvs (.inl (f : Int))).isSome = true
theorem hd_nil : HdOk cs [] [] := ⟨fun _ => rfl, Nat.le_refl _, (fun f v h => nomatch h), fun _ h => nomatch h⟩
theorem HdOk.no {P : List Nat} {kvs : List (Key × V)} {p : Nat} (h : HdOk cs P kvs) (hp : gC cs p = none) : HdOk cs (P ++ [p]) kvs := by
  refine ⟨fun f => by rw [h.fn f, hdF_no (by rw [hp]; exact fun z => nomatch z)], by rw [List.length_append]; exact Nat.le_trans h.len (Nat.le_add_right ..), fun f v hv => ?_, fun q hq f hf => ?_⟩
  · obtain ⟨q, h1, h2⟩ := h.ok f v hv
    exact ⟨q, List.mem_append_left _ h1, h2⟩
  · rcases List.mem_append.mp hq with hq | hq
    · exact h.all q hq f hf
    · rw [List.mem_singleton.mp hq, hp] at hf
      cases hf
theorem putK_len (kvs : List (Key × V)) (k : Key) (v : V) : (putK kvs k v).length ≤ kvs.length + 1 := by
  unfold putK
  split
  · rw [List.length_map]; exact Nat.le_add_right ..
  · rw [List.length_append]; exact Nat.le_refl _
theorem HdOk.put {P : List Nat} {kvs : List (Key × V)} {p w : Nat} (h : HdOk cs P kvs) (hp : gC cs p = some w) : HdOk cs (P ++ [p]) (putK kvs (.inl (w : Int)) (.int (p : Nat))) := by
  have hv : ∀ x : Nat, valV (putK kvs (.inl (w : Int)) (.int (p : Nat))) (.inl (x : Int)) = if x = w then some (.int (p : Nat)) else valV kvs (.inl (x : Int)) := fun x => by
    rw [valV_put]
    by_cases e : x = w
    · rw [if_pos (by rw [e]), if_pos e]
    · rw [if_neg (by intro z; exact e (by have := Sum.inl.inj z; omega)), if_neg e]
  refine ⟨fun f => by
    rw [hv f]
    by_cases e : f = w
    · subst e
      rw [if_pos rfl, hdF_yes hp]
      rfl
    · rw [if_neg e, h.fn f, hdF_no (by rw [hp]; exact fun z => e (Option.some.inj z).symm)], by rw [List.length_append]; exact Nat.le_trans (putK_len _ _ _) (Nat.add_le_add_right h.len 1), fun f v hf => ?_, fun q hq f hf => ?_⟩
  · rw [hv] at hf
    by_cases e : f = w
    · rw [if_pos e] at hf
      cases hf
      exact ⟨p, List.mem_append_right _ (List.mem_singleton.mpr rfl), rfl, by rw [e]; exact hp⟩
    · rw [if_neg e] at hf
      obtain ⟨q, h1, h2⟩ := h.ok f v hf
      exact ⟨q, List.mem_append_left _ h1, h2⟩
  · rw [hv]
    by_cases e : f = w
    · rw [if_pos e]; rfl
    · rw [if_neg e]
      rcases List.mem_append.mp hq with hq | hq
      · exact h.all q hq f hf
      · rw [List.mem_singleton.mp hq, hp] at hf
        exact absurd (Option.some.inj hf).symm e
/-! ### a single plan -/
/-- a put gives a sign of the cells -/
def PutIn (cs : List V) : JR → Prop
  | .put _ s => V.str s ∈ cs
  | _ => True
theorem pi_rnd {cs : List V} : ∀ {r : List Nat}, ∀ j ∈ rndR r, PutIn cs j
  | [], _, h => nomatch h
  | [_], _, h => nomatch h
  | a :: b :: t, j, h => by
    rcases List.mem_cons.mp h with rfl | h
    · trivial
    · exact pi_rnd (r := b :: t) j h
theorem pi_pur {cs : List V} {slot : Bool} {c : Nat} {r : List Nat} : ∀ j ∈ onePur slot c r, PutIn cs j := by
  intro j hj
  unfold onePur at hj
  cases slot
  · rcases List.mem_cons.mp hj with rfl | hj
    · trivial
    · rcases List.mem_append.mp hj with hj | hj
      · exact pi_rnd j hj
      · rw [List.mem_singleton.mp hj]; trivial
  · rcases List.mem_cons.mp hj with rfl | hj
    · trivial
    · rcases List.mem_append.mp hj with hj | hj
      · exact pi_rnd j hj
      · rw [List.mem_singleton.mp hj]; trivial
theorem pi_un (hc : ∀ v ∈ cs, CellOk n v) {p : Nat} (hp : p ∈ chL cs) : PutIn cs (rowU cs p) := by
  rcases ch_two hc hp with ⟨w, _, _, _, h4⟩ | ⟨_, c, h2, h3, h4⟩
  · rw [h4]; trivial
  · rw [h4]; exact List.mem_of_getElem? h2
def turnOf (cs : List V) (P r : List Nat) : List Nat := r.drop (r.findIdx fun x => (hdF cs P x).isSome) ++ r.take (r.findIdx fun x => (hdF cs P x).isSome)
/-- the rows of a ring of which a sign stands outside -/
def rdF (cs : List V) (P r : List Nat) : List JR := rndR (turnOf cs P r) ++ [.copy (((turnOf cs P r)[r.length - 1]?.getD 0 : Nat) : Int) ((((turnOf cs P r)[0]?.bind (hdF cs P)).getD 0 : Nat) : Int) 1]
theorem rdF_eq {P r : List Nat} {k f l q : Nat} (hk : r[k]? = some f) (hno : ∀ (j x : Nat), j < k → r[j]? = some x → (hdF cs P x).isSome = false) (hq : hdF cs P f = some q) (hl : (r.drop k ++ r.take k)[r.length - 1]? = some l) (h0 : (r.drop k ++ r.take k)[0]? = some f) : rndR (r.drop k ++ r.take k) ++ [.copy (l : Nat) (q : Nat) 1] = rdF cs P r := by
  obtain ⟨hkl, hkf⟩ := List.getElem?_eq_some_iff.mp hk
  have e : (r.findIdx fun x => (hdF cs P x).isSome) = k := (List.findIdx_eq hkl).mpr ⟨by rw [hkf, hq]; rfl, fun j hj => hno j _ hj (List.getElem?_eq_getElem (by omega))⟩
  unfold rdF turnOf
  rw [e, hl, h0]
  show _ = _ ++ [JR.copy (((some l).getD 0 : Nat) : Int) (((hdF cs P f).getD 0 : Nat) : Int) 1]
  rw [hq]
  rfl
/-- the rows of the plan, by a rule -/
noncomputable def sgF (cs : List V) (n extra : Nat) : List JR := ((ringsF cs).filter (pureB cs)).flatMap (onePur (decide (0 < extra)) ((spC cs n).getD 0)) ++ (unP cs n).map (rowU cs) ++ ((ringsF cs).filter fun r => !pureB cs r).flatMap (rdF cs (unP cs n))
structure SgOk (cs : List V) (n extra : Nat) (js : List JR) : Prop where
  ex : js = sgF cs n extra
  pi : ∀ r ∈ js, PutIn cs r
  u : ∀ r ∈ js, U1 r
  len : js.length = (chL cs).length + purC cs
  run : ∃ st, stepsJ js (st0J n cs.length extra) = some st ∧ st.1.take cs.length = cs
/-- .. up to some of its rings -/
structure SgI (cs : List V) (n N : Nat) (sp : Option Nat) (st0 : List V × List V) (P : List Nat) (rs as : List (List Nat)) (js : List JR) : Prop where
  pi : ∀ r ∈ js, PutIn cs r
  u : ∀ r ∈ js, U1 r
  len : js.length = (rs.filter (pureB cs)).flatten.length + (rs.filter (pureB cs)).length + P.length + (as.filter fun r => !pureB cs r).flatten.length
  run : ∃ room2 ss2, stepsJ js st0 = some (room2, ss2) ∧ RmI cs n N (fun x => (∃ r ∈ rs.filter (pureB cs), x ∈ r) ∨ x ∈ P ∨ ∃ r ∈ as.filter (fun r => !pureB cs r), x ∈ r) sp room2
theorem purs_len {slot : Bool} {c : Nat} : ∀ {as : List (List Nat)}, (∀ r ∈ as, r ≠ []) → (as.flatMap (onePur slot c)).length = as.flatten.length + as.length
  | [], _ => rfl
  | r :: as, h => by
    rw [List.flatMap_cons, List.length_append, onePur_len (h r (List.mem_cons_self ..)), purs_len fun r2 h2 => h r2 (List.mem_cons_of_mem _ h2), List.flatten_cons, List.length_append, List.length_cons]
    omega
/-- not on a pure ring, what a cell off all rings gets -/
theorem pur_no (hc : ∀ v ∈ cs, CellOk n v) {rs : List (List Nat)} (G : RgsOk cs rs) {p w : Nat} (hp : ¬ Cy (gC cs) p) (hw : gC cs p = some w) : ¬ ∃ r ∈ rs.filter (pureB cs), w ∈ r := by
  rintro ⟨r, hr, hx⟩
  obtain ⟨h1, h2⟩ := List.mem_filter.mp hr
  obtain ⟨y, hy, hyw⟩ := G.ok.got h1 hx
  have e := ind_one (fun q p h => (gC_lt hc h).1) (of_decide_eq_true (List.all_eq_true.mp h2 w hx)) hw hyw
  exact hp (e ▸ ring_cy G.ok h1 hy)
theorem sg_start (hc : ∀ v ∈ cs, CellOk n v) {rs : List (List Nat)} (G : RgsOk cs rs) {P : List Nat} (U : UnI cs P []) {slot : Bool} {c extra : Nat} (hs : slot = true → 0 < extra) (hcc : slot = false → spC cs n = some c ∨ rs.filter (pureB cs) = []) :
    SgI cs n (n + (cs.length - n)) (if slot then none else spC cs n) (st0J n cs.length extra) P rs [] ((rs.filter (pureB cs)).flatMap (onePur slot c) ++ P.map (rowU cs)) := by
  have hN : n ≤ n + (cs.length - n) := Nat.le_add_right ..
  have hl : cs.length ≤ n + (cs.length - n) := by omega
  have hO : ∀ r ∈ rs.filter (pureB cs), RgO cs n (n + (cs.length - n)) r := fun r hr => G.ring hc (List.mem_filter.mp hr).1
  have hsp : ∀ x q, gC cs q = some x → (if slot then none else spC cs n) ≠ some x := fun x q hq e => by
    cases slot with
    | true => cases e
    | false => exact (spC_some hc e).2.1 q hq
  have I0 := rm_start (cs := cs) (sp := if slot then none else spC cs n) hN
  rw [Nat.add_sub_cancel_left] at I0
  have pr : ∃ room2 ss2, stepsJ ((rs.filter (pureB cs)).flatMap (onePur slot c)) (st0J n cs.length extra) = some (room2, ss2) ∧ RmI cs n (n + (cs.length - n)) (fun x => ∃ r ∈ rs.filter (pureB cs), x ∈ r) (if slot then none else spC cs n) room2 := by
    by_cases he : rs.filter (pureB cs) = []
    · rw [he]
      exact ⟨_, _, rfl, I0.congr fun x => by simp⟩
    · obtain ⟨room2, ss2, h1, _, h3⟩ := pur_run hc hN (slot := slot) (c := c) (rs.filter (pureB cs)) (ss := List.replicate extra V.non) I0 hO (G.ok.dj.sublist List.filter_sublist)
        (fun r hr x hx => ⟨id, by
          obtain ⟨y, _, hyx⟩ := G.ok.got (List.mem_filter.mp hr).1 hx
          exact hsp x y hyx⟩) (fun e => by rw [List.length_replicate]; exact hs e) (fun e => by
          have h5 := (hcc e).resolve_right he
          subst e
          have h6 := (spC_some hc h5).1
          exact ⟨h5, by omega, id⟩)
      exact ⟨room2, ss2, h1, h3.congr fun x => by simp⟩
  obtain ⟨room2, ss2, h1, h2⟩ := pr
  obtain ⟨room3, h3, h4⟩ := un_run hc hN hl (ss := ss2) P h2 U.pc U.od fun p hp w hw => ⟨pur_no hc G (U.cy p hp) hw, hsp w p hw⟩
  refine ⟨fun r hr => ?_, fun r hr => ?_, ?_, room3, ss2, ?_, h4.congr fun x => by simp⟩
  · rcases List.mem_append.mp hr with hr | hr
    · obtain ⟨r2, _, hr2⟩ := List.mem_flatMap.mp hr
      exact pi_pur r hr2
    · obtain ⟨p, hp, rfl⟩ := List.mem_map.mp hr
      exact pi_un hc (U.pc p hp)
  · rcases List.mem_append.mp hr with hr | hr
    · obtain ⟨r2, _, hr2⟩ := List.mem_flatMap.mp hr
      exact u1_pur r hr2
    · obtain ⟨p, hp, rfl⟩ := List.mem_map.mp hr
      exact u1_un hc (U.pc p hp)
  · rw [List.length_append, purs_len fun r hr => (hO r hr).ne, List.length_map]
    rfl
  · rw [steps_two h1]
    exact h3
theorem SgI.skip {N : Nat} {st0 : List V × List V} {P : List Nat} {rs as : List (List Nat)} {js : List JR} {r : List Nat} (h : SgI cs n N sp st0 P rs as js) (hr : pureB cs r = true) : SgI cs n N sp st0 P rs (as ++ [r]) js := by
  have e : (as ++ [r]).filter (fun r => !pureB cs r) = as.filter fun r => !pureB cs r := by
    rw [List.filter_append, List.filter_cons_of_neg (by rw [hr]; decide), List.filter_nil, List.append_nil]
  exact ⟨h.pi, h.u, by rw [e]; exact h.len, by rw [e]; exact h.run⟩
theorem SgI.more (hc : ∀ v ∈ cs, CellOk n v) {N : Nat} (hN : n ≤ N) {st0 : List V × List V} {P : List Nat} {rs as : List (List Nat)} {js : List JR} {r : List Nat} (G : RgsOk cs rs) (U : UnI cs P []) (h : SgI cs n N sp st0 P rs as js) (hr : pureB cs r = false) (hrs : ∃ bs, rs = as ++ r :: bs) (hsp : ∀ x q, gC cs q = some x → sp ≠ some x)
    {k f l q : Nat} (hk : r[k]? = some f) (hl : (r.drop k ++ r.take k)[r.length - 1]? = some l) (hq : q ∈ P) (hg : gC cs q = some f) : SgI cs n N sp st0 P rs (as ++ [r]) (js ++ (rndR (r.drop k ++ r.take k) ++ [.copy (l : Nat) (q : Nat) 1])) := by
  obtain ⟨bs, hb⟩ := hrs
  have hrm : r ∈ rs := by rw [hb]; exact List.mem_append_right _ (List.mem_cons_self ..)
  have e : (as ++ [r]).filter (fun r => !pureB cs r) = as.filter (fun r => !pureB cs r) ++ [r] := by
    rw [List.filter_append, List.filter_cons_of_pos (by rw [hr]; rfl), List.filter_nil]
  have O : RgO cs n N r := G.ring hc hrm
  obtain ⟨room2, ss2, h1, h2⟩ := h.run
  have hdj := G.ok.dj
  rw [hb, List.pairwise_append] at hdj
  have hcyr : ∀ x ∈ r, Cy (gC cs) x := fun x hx => ring_cy G.ok hrm hx
  have hD : ∀ x ∈ r, ¬ ((∃ r ∈ rs.filter (pureB cs), x ∈ r) ∨ x ∈ P ∨ ∃ r ∈ as.filter (fun r => !pureB cs r), x ∈ r) := by
    rintro x hx (⟨r2, hr2, hx2⟩ | hx2 | ⟨r2, hr2, hx2⟩)
    · obtain ⟨m1, m2⟩ := List.mem_filter.mp hr2
      rw [hb] at m1
      rcases List.mem_append.mp m1 with m1 | m1
      · exact hdj.2.2 r2 m1 r (List.mem_cons_self ..) x hx2 hx
      · rcases List.mem_cons.mp m1 with m1 | m1
        · rw [m1, hr] at m2
          cases m2
        · exact (List.pairwise_cons.mp hdj.2.1).1 r2 m1 x hx hx2
    · exact U.cy x hx2 (hcyr x hx)
    · exact hdj.2.2 r2 (List.mem_filter.mp hr2).1 r (List.mem_cons_self ..) x hx2 hx
  obtain ⟨room3, h3, h4⟩ := h2.read hc hN (ss := ss2) O hD (fun x hx => by
    obtain ⟨y, _, hyx⟩ := G.ok.got hrm hx
    exact hsp x y hyx) hk hl (.inr (.inl hq)) hg fun z => U.cy q hq (hcyr q z)
  have hlen : 0 < r.length := List.length_pos_iff.mpr O.ne
  refine ⟨fun j hj => ?_, fun j hj => ?_, ?_, room3, ss2, ?_, h4.congr fun x => ?_⟩
  · rcases List.mem_append.mp hj with hj | hj
    · exact h.pi j hj
    · rcases List.mem_append.mp hj with hj | hj
      · exact pi_rnd j hj
      · rw [List.mem_singleton.mp hj]; trivial
  · rcases List.mem_append.mp hj with hj | hj
    · exact h.u j hj
    · rcases List.mem_append.mp hj with hj | hj
      · exact u1_rnd j hj
      · rw [List.mem_singleton.mp hj]; rfl
  · rw [e, List.length_append, h.len, List.flatten_append, List.length_append, List.length_append, rnd_len, turn_len]
    simp only [List.flatten_cons, List.flatten_nil, List.append_nil, List.length_singleton]
    omega
  · rw [steps_two h1]
    exact h3
  · rw [e]
    constructor
    · rintro (h | h | ⟨r2, h, hx⟩)
      · exact .inl (.inl h)
      · exact .inl (.inr (.inl h))
      · rcases List.mem_append.mp h with h | h
        · exact .inl (.inr (.inr ⟨r2, h, hx⟩))
        · rw [List.mem_singleton.mp h] at hx
          exact .inr hx
    · rintro ((h | h | ⟨r2, h, hx⟩) | h)
      · exact .inl h
      · exact .inr (.inl h)
      · exact .inr (.inr ⟨r2, List.mem_append_left _ h, hx⟩)
      · exact .inr (.inr ⟨r, List.mem_append_right _ (List.mem_singleton.mpr rfl), h⟩)
theorem filt_flat (c : List Nat → Bool) : ∀ (rs : List (List Nat)), (rs.filter c).flatten.length + (rs.filter fun r => !c r).flatten.length = rs.flatten.length
  | [] => rfl
  | r :: rs => by
    have ih := filt_flat c rs
    cases e : c r with
    | true =>
      rw [List.filter_cons_of_pos e, List.filter_cons_of_neg (by rw [e]; decide), List.flatten_cons, List.flatten_cons, List.length_append, List.length_append]
      omega
    | false =>
      rw [List.filter_cons_of_neg (by rw [e]; decide), List.filter_cons_of_pos (by rw [e]; rfl), List.flatten_cons, List.flatten_cons, List.length_append, List.length_append]
      omega
theorem ch_split (hc : ∀ v ∈ cs, CellOk n v) {rs : List (List Nat)} (G : RgsOk cs rs) {P : List Nat} (U : UnI cs P []) : (chL cs).length = P.length + rs.flatten.length := by
  rw [← List.length_append]
  have hm : ∀ x, x ∈ rs.flatten ↔ Cy (gC cs) x := fun x => by
    rw [List.mem_flatten]
    constructor
    · rintro ⟨r, hr, hx⟩
      exact ring_cy G.ok hr hx
    · rintro ⟨k, hk⟩
      exact G.ok.all x k hk
  refine List.Perm.length_eq ((List.perm_ext_iff_of_nodup (ch_nodup cs) (List.nodup_append.mpr ⟨U.pn, ?_, fun a ha b hb e => ?_⟩)).mpr fun x => ?_)
  · refine List.pairwise_flatten.mpr ⟨G.ok.nd, G.ok.dj.imp fun {a b} h x hx y hy (e : x = y) => h x hx (by rw [e]; exact hy)⟩
  · exact U.cy a ha (e ▸ (hm b).mp hb)
  · rw [List.mem_append, U.done hc, hm]
    constructor
    · intro h
      by_cases e : Cy (gC cs) x
      · exact .inr e
      · exact .inl ⟨h, e⟩
    · rintro (h | h)
      · exact h.1
      · exact cy_ch hc h
theorem SgI.done (hc : ∀ v ∈ cs, CellOk n v) {extra : Nat} {P : List Nat} {rs : List (List Nat)} {js : List JR} {slot : Bool} (G : RgsOk cs rs) (U : UnI cs P []) (h : SgI cs n (n + (cs.length - n)) (if slot then none else spC cs n) (st0J n cs.length extra) P rs rs js) (hex : js = sgF cs n extra) : SgOk cs n extra js := by
  obtain ⟨room2, ss2, h1, h2⟩ := h.run
  refine ⟨hex, h.pi, h.u, ?_, (room2, ss2), h1, h2.done hc (by omega) (fun x hx => ?_) fun c e => ?_⟩
  · have h3 := filt_flat (pureB cs) rs
    have h4 := ch_split hc G U
    have h5 := G.pur
    have h6 := h.len
    omega
  · by_cases e : Cy (gC cs) x
    · obtain ⟨k, hk⟩ := e
      obtain ⟨r, hr, hxr⟩ := G.ok.all x k hk
      cases ep : pureB cs r with
      | true => exact .inl ⟨r, List.mem_filter.mpr ⟨hr, ep⟩, hxr⟩
      | false => exact .inr (.inr ⟨r, List.mem_filter.mpr ⟨hr, by rw [ep]; rfl⟩, hxr⟩)
    · exact .inr (.inl ((U.done hc).mpr ⟨hx, e⟩))
  · cases slot with
    | true => cases e
    | false => exact (spC_some hc e).2.2
end
end R
namespace R
open PySem PySem.Spec PyProof.Rows L2
theorem rgs_good {as : List (List Nat)} (h : ∀ r ∈ as, r.length ≤ 400) (hl : as.length ≤ 400) : good (.list (as.map rngD)) = true ∧ (PyData.list (as.map rngD)).depth ≤ 2 := by
  have g : ∀ r ∈ as, good (rngD r) = true ∧ (rngD r).depth ≤ 1 := fun r hr => nums_good (fs := r) (by have := h r hr; omega)
  constructor
  · refine good_list (by rw [List.length_map]; omega) fun d hd => ?_
    obtain ⟨r, hr, rfl⟩ := List.mem_map.mp hd
    exact (g r hr).1
  · refine depth_list (n := 1) fun d hd => ?_
    obtain ⟨r, hr, rfl⟩ := List.mem_map.mp hd
    exact (g r hr).2
theorem n_neRg {K : PySem.W.Frag} {H : Hp} {Q : VK} {p r : Addr} {vs : List V} {as : List (List Nat)} (h1 : SqL K H p vs) (h2 : SqL K H r []) (d : DpAll K H vs (as.map rngD)) (ok : ∀ r ∈ as, r.length ≤ 400) (l : as.length ≤ 400) (q : Q (.bl (!decide (as = []))) H) : rNeD K (.ref p) (.ref r) H Q := by
  have g := rgs_good ok l
  refine ⟨_, _, .lst h1 d, .lst h2 .nil, good_shaped g.1 (Nat.le_trans g.2 (by decide)), good_shaped rfl (by decide), ?_⟩
  cases as <;> exact q
/-! ### promises: single plans -/
def spV : Option Nat → V
  | none => .non
  | some c => .int (c : Nat)
def φspared (K : PySem.W.Frag) : V → V → Hp → VK → Prop := fun x y H Q => ∃ (F : Hp) (a b : Addr) (cs : List V) (n : Nat), x = .ref a ∧ y = .ref b ∧ Same F H ∧ SqL K F a cs ∧ SqL K F b ((rdN cs n).map fun (k : Nat) => V.int (k : Nat)) ∧ (∀ v ∈ cs, CellOk n v) ∧ cs.length ≤ 400 ∧ n ≤ 400 ∧
  ∀ F2 H2, W [] F H F2 H2 [] → Q (spV (spC cs n)) H2
def φround (K : PySem.W.Frag) : V → Hp → VK → Prop := fun x H Q => ∃ (F : Hp) (a : Addr) (r : List Nat), x = .ref a ∧ Same F H ∧ SqL K F a (r.map fun (k : Nat) => V.int (k : Nat)) ∧ r.length ≤ 400 ∧ 1 ≤ r.length ∧
  ∀ p vs F2 H2, H p = none → W [] F H F2 H2 [mu p (.lst vs), dpa K vs ((rndR r).map JR.d)] → Q (.ref p) H2
def φpurerows (K : PySem.W.Frag) : V → V → V → Hp → VK → Prop := fun x y z H Q => ∃ (F : Hp) (a : Addr) (us : List V) (as : List (List Nat)) (spare : Nat) (c : Option Nat), x = .ref a ∧ y = .int (spare : Nat) ∧ z = spV c ∧ Same F H ∧ SqL K F a us ∧ DpAll K F us (as.map rngD) ∧ (∀ r ∈ as, 1 ≤ r.length ∧ r.length ≤ 400) ∧ as.length ≤ 400 ∧ (spare = 0 → as = [] ∨ c ≠ none) ∧
  ∀ p vs F2 H2, H p = none → W [] F H F2 H2 [mu p (.lst vs), dpa K vs ((as.flatMap (onePur (decide (0 < spare)) (c.getD 0))).map JR.d)] → Q (.ref p) H2
def φunread (K : PySem.W.Frag) : V → V → V → Hp → VK → Prop := fun x y z H Q => ∃ (F : Hp) (a b d : Addr) (cs : List V) (n : Nat), x = .ref a ∧ y = .ref b ∧ z = .ref d ∧ St F H [mu d (.dK [])] ∧ SqL K F a cs ∧ SqL K F b ((rdN cs n).map fun (k : Nat) => V.int (k : Nat)) ∧ (∀ v ∈ cs, CellOk n v) ∧ cs.length ≤ 400 ∧ n ≤ 400 ∧
  ∀ p vs P kvs F2 H2, H p = none → W [d] F H F2 H2 [mu p (.lst vs), mu d (.dK kvs), dpa K vs ((P.map (rowU cs)).map JR.d)] → UnI cs P [] → HdOk cs P kvs → P = unP cs n → Q (.ref p) H2
def φreadrows (K : PySem.W.Frag) : V → V → Hp → VK → Prop := fun x y H Q => ∃ (F : Hp) (a d : Addr) (cs : List V) (r P : List Nat) (kvs : List (Key × V)), x = .ref a ∧ y = .ref d ∧ Same F H ∧ SqL K F a (r.map fun (k : Nat) => V.int (k : Nat)) ∧ F d = some (.dK kvs) ∧ HdOk cs P kvs ∧ r.length ≤ 400 ∧ (∃ f ∈ r, ∃ q ∈ P, gC cs q = some f) ∧
  ∀ p vs (k f l q : Nat) F2 H2, H p = none → r[k]? = some f → (r.drop k ++ r.take k)[r.length - 1]? = some l → q ∈ P → gC cs q = some f → rndR (r.drop k ++ r.take k) ++ [JR.copy (l : Nat) (q : Nat) 1] = rdF cs P r → W [] F H F2 H2 [mu p (.lst vs), dpa K vs ((rndR (r.drop k ++ r.take k) ++ [JR.copy (l : Nat) (q : Nat) 1]).map JR.d)] → Q (.ref p) H2
def barC (cs : List V) (n extra : Nat) : Prop := extra = 0 ∧ purC cs ≠ 0 ∧ spC cs n = none
/-- .. or refused -/
def φsingleX (K : PySem.W.Frag) : V → V → Hp → VK → XK → Prop := fun x y H Q E => ∃ (F : Hp) (n extra : Nat) (rows : List CRow), y = .int (extra : Nat) ∧ Same F H ∧ Chg K F x n rows ∧ RowsOk n rows ∧ n ≤ 400 ∧
  (¬ barC (cellsV rows) n extra → ∀ p vs js F2 H2, H p = none → W [] F H F2 H2 [mu p (.lst vs), dpa K vs (js.map JR.d)] → SgOk (cellsV rows) n extra js → Q (.ref p) H2) ∧
  (barC (cellsV rows) n extra → ∀ dd F2 H2, H dd = none → W [] F H F2 H2 [fx dd (.xd [("need", .int 1)])] → E (.ref (He.ga K "NoSpare")) (some dd) H2)
end R
namespace R
open PySem L2
/-! ### slots behind the fourteenth -/
section
variable {a0 a1 a2 a3 a4 a5 a6 a7 a8 a9 a10 a11 a12 a13 a14 a15 a16 a17 a18 a19 a20 a21 a22 a23 : Option V} {r : L2.St} {H : Hp} {Q : VK} {N : L2.St → Hp → Prop} {x : V}
theorem w_v14 (q : Q x H) : tVar 14 (a0 :: a1 :: a2 :: a3 :: a4 :: a5 :: a6 :: a7 :: a8 :: a9 :: a10 :: a11 :: a12 :: a13 :: some x :: r) H Q := ⟨x, rfl, q⟩
instance : Step (tVar 14 (a0 :: a1 :: a2 :: a3 :: a4 :: a5 :: a6 :: a7 :: a8 :: a9 :: a10 :: a11 :: a12 :: a13 :: some x :: r) H Q) (Q x H) := ⟨w_v14⟩ -- st
theorem w_n14 (q : N (a0 :: a1 :: a2 :: a3 :: a4 :: a5 :: a6 :: a7 :: a8 :: a9 :: a10 :: a11 :: a12 :: a13 :: some x :: r) H) : gName 14 x (a0 :: a1 :: a2 :: a3 :: a4 :: a5 :: a6 :: a7 :: a8 :: a9 :: a10 :: a11 :: a12 :: a13 :: a14 :: r) H N := q
instance : Step (gName 14 x (a0 :: a1 :: a2 :: a3 :: a4 :: a5 :: a6 :: a7 :: a8 :: a9 :: a10 :: a11 :: a12 :: a13 :: a14 :: r) H N) (N (a0 :: a1 :: a2 :: a3 :: a4 :: a5 :: a6 :: a7 :: a8 :: a9 :: a10 :: a11 :: a12 :: a13 :: some x :: r) H) := ⟨w_n14⟩ -- st
theorem w_v15 (q : Q x H) : tVar 15 (a0 :: a1 :: a2 :: a3 :: a4 :: a5 :: a6 :: a7 :: a8 :: a9 :: a10 :: a11 :: a12 :: a13 :: a14 :: some x :: r) H Q := ⟨x, rfl, q⟩
instance : Step (tVar 15 (a0 :: a1 :: a2 :: a3 :: a4 :: a5 :: a6 :: a7 :: a8 :: a9 :: a10 :: a11 :: a12 :: a13 :: a14 :: some x :: r) H Q) (Q x H) := ⟨w_v15⟩ -- st
theorem w_n15 (q : N (a0 :: a1 :: a2 :: a3 :: a4 :: a5 :: a6 :: a7 :: a8 :: a9 :: a10 :: a11 :: a12 :: a13 :: a14 :: some x :: r) H) : gName 15 x (a0 :: a1 :: a2 :: a3 :: a4 :: a5 :: a6 :: a7 :: a8 :: a9 :: a10 :: a11 :: a12 :: a13 :: a14 :: a15 :: r) H N := q
instance : Step (gName 15 x (a0 :: a1 :: a2 :: a3 :: a4 :: a5 :: a6 :: a7 :: a8 :: a9 :: a10 :: a11 :: a12 :: a13 :: a14 :: a15 :: r) H N) (N (a0 :: a1 :: a2 :: a3 :: a4 :: a5 :: a6 :: a7 :: a8 :: a9 :: a10 :: a11 :: a12 :: a13 :: a14 :: some x :: r) H) := ⟨w_n15⟩ -- st
theorem w_v16 (q : Q x H) : tVar 16 (a0 :: a1 :: a2 :: a3 :: a4 :: a5 :: a6 :: a7 :: a8 :: a9 :: a10 :: a11 :: a12 :: a13 :: a14 :: a15 :: some x :: r) H Q := ⟨x, rfl, q⟩
instance : Step (tVar 16 (a0 :: a1 :: a2 :: a3 :: a4 :: a5 :: a6 :: a7 :: a8 :: a9 :: a10 :: a11 :: a12 :: a13 :: a14 :: a15 :: some x :: r) H Q) (Q x H) := ⟨w_v16⟩ -- st
theorem w_n16 (q : N (a0 :: a1 :: a2 :: a3 :: a4 :: a5 :: a6 :: a7 :: a8 :: a9 :: a10 :: a11 :: a12 :: a13 :: a14 :: a15 :: some x :: r) H) : gName 16 x (a0 :: a1 :: a2 :: a3 :: a4 :: a5 :: a6 :: a7 :: a8 :: a9 :: a10 :: a11 :: a12 :: a13 :: a14 :: a15 :: a16 :: r) H N := q
instance : Step (gName 16 x (a0 :: a1 :: a2 :: a3 :: a4 :: a5 :: a6 :: a7 :: a8 :: a9 :: a10 :: a11 :: a12 :: a13 :: a14 :: a15 :: a16 :: r) H N) (N (a0 :: a1 :: a2 :: a3 :: a4 :: a5 :: a6 :: a7 :: a8 :: a9 :: a10 :: a11 :: a12 :: a13 :: a14 :: a15 :: some x :: r) H) := ⟨w_n16⟩ -- st
theorem w_v17 (q : Q x H) : tVar 17 (a0 :: a1 :: a2 :: a3 :: a4 :: a5 :: a6 :: a7 :: a8 :: a9 :: a10 :: a11 :: a12 :: a13 :: a14 :: a15 :: a16 :: some x :: r) H Q := ⟨x, rfl, q⟩
instance : Step (tVar 17 (a0 :: a1 :: a2 :: a3 :: a4 :: a5 :: a6 :: a7 :: a8 :: a9 :: a10 :: a11 :: a12 :: a13 :: a14 :: a15 :: a16 :: some x :: r) H Q) (Q x H) := ⟨w_v17⟩ -- st
theorem w_n17 (q : N (a0 :: a1 :: a2 :: a3 :: a4 :: a5 :: a6 :: a7 :: a8 :: a9 :: a10 :: a11 :: a12 :: a13 :: a14 :: a15 :: a16 :: some x :: r) H) : gName 17 x (a0 :: a1 :: a2 :: a3 :: a4 :: a5 :: a6 :: a7 :: a8 :: a9 :: a10 :: a11 :: a12 :: a13 :: a14 :: a15 :: a16 :: a17 :: r) H N := q
instance : Step (gName 17 x (a0 :: a1 :: a2 :: a3 :: a4 :: a5 :: a6 :: a7 :: a8 :: a9 :: a10 :: a11 :: a12 :: a13 :: a14 :: a15 :: a16 :: a17 :: r) H N) (N (a0 :: a1 :: a2 :: a3 :: a4 :: a5 :: a6 :: a7 :: a8 :: a9 :: a10 :: a11 :: a12 :: a13 :: a14 :: a15 :: a16 :: some x :: r) H) := ⟨w_n17⟩ -- st
theorem w_v18 (q : Q x H) : tVar 18 (a0 :: a1 :: a2 :: a3 :: a4 :: a5 :: a6 :: a7 :: a8 :: a9 :: a10 :: a11 :: a12 :: a13 :: a14 :: a15 :: a16 :: a17 :: some x :: r) H Q := ⟨x, rfl, q⟩
instance : Step (tVar 18 (a0 :: a1 :: a2 :: a3 :: a4 :: a5 :: a6 :: a7 :: a8 :: a9 :: a10 :: a11 :: a12 :: a13 :: a14 :: a15 :: a16 :: a17 :: some x :: r) H Q) (Q x H) := ⟨w_v18⟩ -- st
theorem w_n18 (q : N (a0 :: a1 :: a2 :: a3 :: a4 :: a5 :: a6 :: a7 :: a8 :: a9 :: a10 :: a11 :: a12 :: a13 :: a14 :: a15 :: a16 :: a17 :: some x :: r) H) : gName 18 x (a0 :: a1 :: a2 :: a3 :: a4 :: a5 :: a6 :: a7 :: a8 :: a9 :: a10 :: a11 :: a12 :: a13 :: a14 :: a15 :: a16 :: a17 :: a18 :: r) H N := q
instance : Step (gName 18 x (a0 :: a1 :: a2 :: a3 :: a4 :: a5 :: a6 :: a7 :: a8 :: a9 :: a10 :: a11 :: a12 :: a13 :: a14 :: a15 :: a16 :: a17 :: a18 :: r) H N) (N (a0 :: a1 :: a2 :: a3 :: a4 :: a5 :: a6 :: a7 :: a8 :: a9 :: a10 :: a11 :: a12 :: a13 :: a14 :: a15 :: a16 :: a17 :: some x :: r) H) := ⟨w_n18⟩ -- st
theorem w_v19 (q : Q x H) : tVar 19 (a0 :: a1 :: a2 :: a3 :: a4 :: a5 :: a6 :: a7 :: a8 :: a9 :: a10 :: a11 :: a12 :: a13 :: a14 :: a15 :: a16 :: a17 :: a18 :: some x :: r) H Q := ⟨x, rfl, q⟩
instance : Step (tVar 19 (a0 :: a1 :: a2 :: a3 :: a4 :: a5 :: a6 :: a7 :: a8 :: a9 :: a10 :: a11 :: a12 :: a13 :: a14 :: a15 :: a16 :: a17 :: a18 :: some x :: r) H Q) (Q x H) := ⟨w_v19⟩ -- st
theorem w_n19 (q : N (a0 :: a1 :: a2 :: a3 :: a4 :: a5 :: a6 :: a7 :: a8 :: a9 :: a10 :: a11 :: a12 :: a13 :: a14 :: a15 :: a16 :: a17 :: a18 :: some x :: r) H) : gName 19 x (a0 :: a1 :: a2 :: a3 :: a4 :: a5 :: a6 :: a7 :: a8 :: a9 :: a10 :: a11 :: a12 :: a13 :: a14 :: a15 :: a16 :: a17 :: a18 :: a19 :: r) H N := q
instance : Step (gName 19 x (a0 :: a1 :: a2 :: a3 :: a4 :: a5 :: a6 :: a7 :: a8 :: a9 :: a10 :: a11 :: a12 :: a13 :: a14 :: a15 :: a16 :: a17 :: a18 :: a19 :: r) H N) (N (a0 :: a1 :: a2 :: a3 :: a4 :: a5 :: a6 :: a7 :: a8 :: a9 :: a10 :: a11 :: a12 :: a13 :: a14 :: a15 :: a16 :: a17 :: a18 :: some x :: r) H) := ⟨w_n19⟩ -- st
theorem w_v20 (q : Q x H) : tVar 20 (a0 :: a1 :: a2 :: a3 :: a4 :: a5 :: a6 :: a7 :: a8 :: a9 :: a10 :: a11 :: a12 :: a13 :: a14 :: a15 :: a16 :: a17 :: a18 :: a19 :: some x :: r) H Q := ⟨x, rfl, q⟩
instance : Step (tVar 20 (a0 :: a1 :: a2 :: a3 :: a4 :: a5 :: a6 :: a7 :: a8 :: a9 :: a10 :: a11 :: a12 :: a13 :: a14 :: a15 :: a16 :: a17 :: a18 :: a19 :: some x :: r) H Q) (Q x H) := ⟨w_v20⟩ -- st
theorem w_n20 (q : N (a0 :: a1 :: a2 :: a3 :: a4 :: a5 :: a6 :: a7 :: a8 :: a9 :: a10 :: a11 :: a12 :: a13 :: a14 :: a15 :: a16 :: a17 :: a18 :: a19 :: some x :: r) H) : gName 20 x (a0 :: a1 :: a2 :: a3 :: a4 :: a5 :: a6 :: a7 :: a8 :: a9 :: a10 :: a11 :: a12 :: a13 :: a14 :: a15 :: a16 :: a17 :: a18 :: a19 :: a20 :: r) H N := q
instance : Step (gName 20 x (a0 :: a1 :: a2 :: a3 :: a4 :: a5 :: a6 :: a7 :: a8 :: a9 :: a10 :: a11 :: a12 :: a13 :: a14 :: a15 :: a16 :: a17 :: a18 :: a19 :: a20 :: r) H N) (N (a0 :: a1 :: a2 :: a3 :: a4 :: a5 :: a6 :: a7 :: a8 :: a9 :: a10 :: a11 :: a12 :: a13 :: a14 :: a15 :: a16 :: a17 :: a18 :: a19 :: some x :: r) H) := ⟨w_n20⟩ -- st
theorem w_v21 (q : Q x H) : tVar 21 (a0 :: a1 :: a2 :: a3 :: a4 :: a5 :: a6 :: a7 :: a8 :: a9 :: a10 :: a11 :: a12 :: a13 :: a14 :: a15 :: a16 :: a17 :: a18 :: a19 :: a20 :: some x :: r) H Q := ⟨x, rfl, q⟩
instance : Step (tVar 21 (a0 :: a1 :: a2 :: a3 :: a4 :: a5 :: a6 :: a7 :: a8 :: a9 :: a10 :: a11 :: a12 :: a13 :: a14 :: a15 :: a16 :: a17 :: a18 :: a19 :: a20 :: some x :: r) H Q) (Q x H) := ⟨w_v21⟩ -- st
theorem w_n21 (q : N (a0 :: a1 :: a2 :: a3 :: a4 :: a5 :: a6 :: a7 :: a8 :: a9 :: a10 :: a11 :: a12 :: a13 :: a14 :: a15 :: a16 :: a17 :: a18 :: a19 :: a20 :: some x :: r) H) : gName 21 x (a0 :: a1 :: a2 :: a3 :: a4 :: a5 :: a6 :: a7 :: a8 :: a9 :: a10 :: a11 :: a12 :: a13 :: a14 :: a15 :: a16 :: a17 :: a18 :: a19 :: a20 :: a21 :: r) H N := q
instance : Step (gName 21 x (a0 :: a1 :: a2 :: a3 :: a4 :: a5 :: a6 :: a7 :: a8 :: a9 :: a10 :: a11 :: a12 :: a13 :: a14 :: a15 :: a16 :: a17 :: a18 :: a19 :: a20 :: a21 :: r) H N) (N (a0 :: a1 :: a2 :: a3 :: a4 :: a5 :: a6 :: a7 :: a8 :: a9 :: a10 :: a11 :: a12 :: a13 :: a14 :: a15 :: a16 :: a17 :: a18 :: a19 :: a20 :: some x :: r) H) := ⟨w_n21⟩ -- st
theorem w_v22 (q : Q x H) : tVar 22 (a0 :: a1 :: a2 :: a3 :: a4 :: a5 :: a6 :: a7 :: a8 :: a9 :: a10 :: a11 :: a12 :: a13 :: a14 :: a15 :: a16 :: a17 :: a18 :: a19 :: a20 :: a21 :: some x :: r) H Q := ⟨x, rfl, q⟩
instance : Step (tVar 22 (a0 :: a1 :: a2 :: a3 :: a4 :: a5 :: a6 :: a7 :: a8 :: a9 :: a10 :: a11 :: a12 :: a13 :: a14 :: a15 :: a16 :: a17 :: a18 :: a19 :: a20 :: a21 :: some x :: r) H Q) (Q x H) := ⟨w_v22⟩ -- st
theorem w_n22 (q : N (a0 :: a1 :: a2 :: a3 :: a4 :: a5 :: a6 :: a7 :: a8 :: a9 :: a10 :: a11 :: a12 :: a13 :: a14 :: a15 :: a16 :: a17 :: a18 :: a19 :: a20 :: a21 :: some x :: r) H) : gName 22 x (a0 :: a1 :: a2 :: a3 :: a4 :: a5 :: a6 :: a7 :: a8 :: a9 :: a10 :: a11 :: a12 :: a13 :: a14 :: a15 :: a16 :: a17 :: a18 :: a19 :: a20 :: a21 :: a22 :: r) H N := q
instance : Step (gName 22 x (a0 :: a1 :: a2 :: a3 :: a4 :: a5 :: a6 :: a7 :: a8 :: a9 :: a10 :: a11 :: a12 :: a13 :: a14 :: a15 :: a16 :: a17 :: a18 :: a19 :: a20 :: a21 :: a22 :: r) H N) (N (a0 :: a1 :: a2 :: a3 :: a4 :: a5 :: a6 :: a7 :: a8 :: a9 :: a10 :: a11 :: a12 :: a13 :: a14 :: a15 :: a16 :: a17 :: a18 :: a19 :: a20 :: a21 :: some x :: r) H) := ⟨w_n22⟩ -- st
theorem w_v23 (q : Q x H) : tVar 23 (a0 :: a1 :: a2 :: a3 :: a4 :: a5 :: a6 :: a7 :: a8 :: a9 :: a10 :: a11 :: a12 :: a13 :: a14 :: a15 :: a16 :: a17 :: a18 :: a19 :: a20 :: a21 :: a22 :: some x :: r) H Q := ⟨x, rfl, q⟩
instance : Step (tVar 23 (a0 :: a1 :: a2 :: a3 :: a4 :: a5 :: a6 :: a7 :: a8 :: a9 :: a10 :: a11 :: a12 :: a13 :: a14 :: a15 :: a16 :: a17 :: a18 :: a19 :: a20 :: a21 :: a22 :: some x :: r) H Q) (Q x H) := ⟨w_v23⟩ -- st
theorem w_n23 (q : N (a0 :: a1 :: a2 :: a3 :: a4 :: a5 :: a6 :: a7 :: a8 :: a9 :: a10 :: a11 :: a12 :: a13 :: a14 :: a15 :: a16 :: a17 :: a18 :: a19 :: a20 :: a21 :: a22 :: some x :: r) H) : gName 23 x (a0 :: a1 :: a2 :: a3 :: a4 :: a5 :: a6 :: a7 :: a8 :: a9 :: a10 :: a11 :: a12 :: a13 :: a14 :: a15 :: a16 :: a17 :: a18 :: a19 :: a20 :: a21 :: a22 :: a23 :: r) H N := q
instance : Step (gName 23 x (a0 :: a1 :: a2 :: a3 :: a4 :: a5 :: a6 :: a7 :: a8 :: a9 :: a10 :: a11 :: a12 :: a13 :: a14 :: a15 :: a16 :: a17 :: a18 :: a19 :: a20 :: a21 :: a22 :: a23 :: r) H N) (N (a0 :: a1 :: a2 :: a3 :: a4 :: a5 :: a6 :: a7 :: a8 :: a9 :: a10 :: a11 :: a12 :: a13 :: a14 :: a15 :: a16 :: a17 :: a18 :: a19 :: a20 :: a21 :: a22 :: some x :: r) H) := ⟨w_n23⟩ -- st
end
end R
namespace R
open PySem PySem.Spec PyProof.Rows L2
/-! ### rows of one cell, judged -/
theorem held_1 {xs ys : List V} {f : Int} (h : heldV xs f 1 = some ys) : ∃ (k : Nat) (v : V), f = (k : Nat) ∧ xs[k]? = some v ∧ v ≠ .non ∧ ys = [v] := by
  unfold heldV at h
  by_cases h1 : f < 0 ∨ (1 : Int) < 1 ∨ (xs.length : Int) < f + 1
  · rw [if_pos h1] at h; cases h
  · rw [if_neg h1] at h
    obtain ⟨k, rfl⟩ : ∃ k : Nat, f = (k : Nat) := ⟨f.toNat, by omega⟩
    have hl : k < xs.length := by omega
    have e : (xs.drop ((k : Nat) : Int).toNat).take (1 : Int).toNat = [xs[k]] := by
      rw [Int.toNat_natCast, show (1 : Int).toNat = 1 from rfl, List.drop_eq_getElem_cons hl]
      rfl
    rw [e] at h
    by_cases h2 : inV .non [xs[k]] = true
    · rw [if_pos h2] at h; cases h
    · rw [if_neg h2] at h
      refine ⟨k, xs[k], rfl, List.getElem?_eq_getElem hl, fun z => h2 ?_, (Option.some.inj h).symm⟩
      rw [z]
      rfl
theorem done_1 {r : JR} {cs ss : List V} {st : List V × List V} {v : V} (h : doneV r cs ss = some st) (hw : whatV cs ss r = some [v]) : ∃ k : Nat, r.to = (k : Nat) ∧ k < (goalV r cs ss).length ∧ st = if r.isK then (cs, ss.set k v) else (cs.set k v, ss) := by
  unfold doneV at h
  rw [hw] at h
  dsimp only at h
  by_cases h1 : r.to < 0 ∨ ((goalV r cs ss).length : Int) < r.to + (([v] : List V).length : Nat)
  · rw [if_pos h1] at h; cases h
  · rw [if_neg h1] at h
    have h1 : ¬ (r.to < 0 ∨ ((goalV r cs ss).length : Int) < r.to + ((1 : Nat) : Int)) := h1
    refine ⟨r.to.toNat, by omega, by omega, ?_⟩
    rw [← Option.some.inj h]
    unfold goalV at h1
    by_cases hk : r.isK = true
    · rw [if_pos hk] at h1
      rw [if_pos hk, if_pos hk, laid_one (by omega)]
    · rw [if_neg hk] at h1
      rw [if_neg hk, if_neg hk, laid_one (by omega)]
/-- a row of one cell that can be done -/
inductive D1 (cs ss : List V) : JR → List V × List V → Prop where
  | put (k c : Nat) : k < cs.length → c < 0x110000 → D1 cs ss (.put (k : Nat) ⟨#[c]⟩) (cs.set k (.str ⟨#[c]⟩), ss)
  | copy (k f : Nat) (v : V) : k < cs.length → cs[f]? = some v → v ≠ .non → k ≠ f → D1 cs ss (.copy (k : Nat) (f : Nat) 1) (cs.set k v, ss)
  | keep (k f : Nat) (v : V) : k < ss.length → cs[f]? = some v → v ≠ .non → D1 cs ss (.keep (k : Nat) (f : Nat) 1) (cs, ss.set k v)
  | lay (k f : Nat) (v : V) : k < cs.length → ss[f]? = some v → v ≠ .non → D1 cs ss (.lay (k : Nat) (f : Nat) 1) (cs.set k v, ss)
theorem d1_of {r : JR} {cs ss : List V} {st : List V × List V} (u : U1 r) (h : doneV r cs ss = some st) : D1 cs ss r st := by
  cases r with
  | put to s =>
    obtain ⟨c, rfl, hc⟩ := u
    obtain ⟨k, h1, h2, rfl⟩ := done_1 (v := .str ⟨#[c]⟩) h rfl
    obtain rfl : to = (k : Nat) := h1
    exact .put k c h2 hc
  | copy to f m =>
    obtain rfl : m = 1 := u
    cases e : whatV cs ss (.copy to f 1) with
    | none => unfold doneV at h; rw [e] at h; cases h
    | some ys =>
      have e2 : (if to = f then none else heldV cs f 1) = some ys := e
      by_cases hne : to = f
      · rw [if_pos hne] at e2; cases e2
      · rw [if_neg hne] at e2
        obtain ⟨k2, v, rfl, h3, h4, rfl⟩ := held_1 e2
        obtain ⟨k, h1, h2, rfl⟩ := done_1 h e
        obtain rfl : to = (k : Nat) := h1
        exact .copy k k2 v h2 h3 h4 fun z => hne (by rw [z])
  | keep to f m =>
    obtain rfl : m = 1 := u
    cases e : whatV cs ss (.keep to f 1) with
    | none => unfold doneV at h; rw [e] at h; cases h
    | some ys =>
      have e2 : heldV cs f 1 = some ys := e
      obtain ⟨k2, v, rfl, h3, h4, rfl⟩ := held_1 e2
      obtain ⟨k, h1, h2, rfl⟩ := done_1 h e
      obtain rfl : to = (k : Nat) := h1
      exact .keep k k2 v h2 h3 h4
  | lay to f m =>
    obtain rfl : m = 1 := u
    cases e : whatV cs ss (.lay to f 1) with
    | none => unfold doneV at h; rw [e] at h; cases h
    | some ys =>
      have e2 : heldV ss f 1 = some ys := e
      obtain ⟨k2, v, rfl, h3, h4, rfl⟩ := held_1 e2
      obtain ⟨k, h1, h2, rfl⟩ := done_1 h e
      obtain rfl : to = (k : Nat) := h1
      exact .lay k k2 v h2 h3 h4
theorem steps_pre {rows : List JR} {st0 st : List V × List V} (h : stepsJ rows st0 = some st) (j : Nat) : ∃ s, stepsJ (rows.take j) st0 = some s := by
  rw [← List.take_append_drop j rows, steps_app] at h
  cases e : stepsJ (rows.take j) st0 with
  | none => rw [e] at h; cases h
  | some s => exact ⟨s, rfl⟩
theorem n_ninF {K : PySem.W.Frag} {H : Hp} {Q : VK} {a : Addr} {xs : List V} {x : V} (hs : SqL K H a xs) (hx : flatV x = true) (hf : xs.all flatV = true) (hin : inV x xs = true) (q : Q (.bl false) H) : rIn K true x (.ref a) H Q := ⟨a, xs, rfl, .inl hs, hx, hf, by rw [hin]; exact q⟩
/-! ### promises -/
def φlrowdone (K : PySem.W.Frag) : V → V → V → Hp → VK → Prop := fun x y z H Q => ∃ (F : Hp) (a b : Addr) (cs ss : List V) (r : JR) (st : List V × List V), x = .ref a ∧ y = .ref b ∧ St F H [mu a (.lst cs), mu b (.lst ss)] ∧ Dp K F z r.d ∧ D1 cs ss r st ∧ (∀ v ∈ cs, FlatV v) ∧ (∀ v ∈ ss, FlatV v) ∧ cs.length ≤ 1000 ∧ ss.length ≤ 1000 ∧
  ∀ F2 H2, W [a, b] F H F2 H2 [mu a (.lst st.1), mu b (.lst st.2)] → Q (.bl true) H2
def φlwalked (K : PySem.W.Frag) : V → V → V → V → Hp → VK → Prop := fun x y z u H Q => ∃ (F : Hp) (a b : Addr) (cs vs : List V) (n extra : Nat) (js : List JR), x = .ref a ∧ y = .int (n : Nat) ∧ z = .ref b ∧ u = .int (extra : Nat) ∧ Same F H ∧ SqL K F a cs ∧ SqL K F b vs ∧ DpAll K F vs (js.map JR.d) ∧ (∀ v ∈ cs, CellOk n v) ∧ cs.length ≤ 400 ∧ n ≤ 400 ∧ extra ≤ 400 ∧ js.length ≤ 1000 ∧ (∀ r ∈ js, U1 r) ∧ (∃ st, stepsJ js (st0J n cs.length extra) = some st ∧ st.1.take cs.length = cs) ∧
  ∀ F2 H2, W [] F H F2 H2 [] → Q (.bl true) H2
theorem SgOk.le {cs : List V} {n extra : Nat} {js : List JR} (h : SgOk cs n extra js) (hl : cs.length ≤ 400) (hp : purC cs ≤ 400) : js.length ≤ 800 := by
  have := h.len
  have := ch_len cs
  omega
def φlasked (K : PySem.W.Frag) : V → V → V → Hp → VK → Prop := fun x y z H Q => ∃ (F : Hp) (n extra way : Nat) (rows : List CRow), y = .int (extra : Nat) ∧ z = .int (way : Nat) ∧ Same F H ∧ Chg K F x n rows ∧ RowsOk n rows ∧ n ≤ 400 ∧
  (¬ barC (cellsV rows) n extra → ∀ p pl vs js F2 H2, H p = none → H pl = none → W [] F H F2 H2 [mu p (.lst [.ref pl, .non]), mu pl (.lst vs), dpa K vs (js.map JR.d)] → SgOk (cellsV rows) n extra js → Q (.ref p) H2) ∧
  (barC (cellsV rows) n extra → ∀ p F2 H2, H p = none → W [] F H F2 H2 [mu p (.lst [.non, .int 1])] → Q (.ref p) H2)
/-- as many pure rings as cells at most -/
theorem cnt_le (g : Nat → Option Nat) (N : Nat) : ∀ (r l : List Nat), cntM g N l r ≤ r.length
  | [], _ => Nat.zero_le _
  | a :: r, l => by
    unfold cntM
    have := cnt_le g N r (l ++ [a])
    rw [List.length_cons]
    split <;> omega
theorem pur_le (cs : List V) : purC cs ≤ cs.length := by
  have := cnt_le (gC cs) cs.length (List.range cs.length) []
  rw [List.length_range] at this
  exact this
end R
namespace R
open PySem PySem.Spec PyProof.Rows L2
/-! ### a dict whose keys are tuples of None, ints and texts, and whose values are all True -/
def keyO : V → Option Key
  | .int i => some (.inl i)
  | .str z => some (.inr z)
  | _ => none
def KeyV (v : V) : Prop := v = .non ∨ (∃ i, v = .int i) ∨ ∃ z, v = .str z
theorem keyO_inj {a b : V} (ha : KeyV a) (hb : KeyV b) (e : keyO a = keyO b) : a = b := by
  rcases ha with rfl | ⟨i, rfl⟩ | ⟨z, rfl⟩ <;> rcases hb with rfl | ⟨j, rfl⟩ | ⟨y, rfl⟩
  · rfl
  · exact nomatch e
  · exact nomatch e
  · exact nomatch e
  · have := Sum.inl.inj (Option.some.inj e)
    rw [this]
  · exact nomatch Option.some.inj e
  · exact nomatch e
  · exact nomatch Option.some.inj e
  · have := Sum.inr.inj (Option.some.inj e)
    rw [this]
theorem keyL_inj : ∀ {a b : List V}, (∀ v ∈ a, KeyV v) → (∀ v ∈ b, KeyV v) → a.map keyO = b.map keyO → a = b
  | [], [], _, _, _ => rfl
  | [], _ :: _, _, _, e => by simp at e
  | _ :: _, [], _, _, e => by simp at e
  | x :: a, y :: b, ha, hb, e => by
    rw [List.map_cons, List.map_cons] at e
    injection e with e1 e2
    rw [keyO_inj (ha x (List.mem_cons_self ..)) (hb y (List.mem_cons_self ..)) e1, keyL_inj (fun v h => ha v (List.mem_cons_of_mem _ h)) (fun v h => hb v (List.mem_cons_of_mem _ h)) e2]
theorem keyO_is {a : V} {u : Value} (ha : KeyV a) (r : RelV a u) : nkIs (keyO a) u = true := by
  rcases ha with rfl | ⟨i, rfl⟩ | ⟨z, rfl⟩
  · cases (show u = .none from r)
    rfl
  · obtain ⟨t, q⟩ := (show ∃ t, u = Value.int i t from r)
    subst q
    exact keyIs_int i t
  · obtain ⟨t, q⟩ := (show ∃ t, u = Value.str z t from r)
    subst q
    exact keyIs_str z t
theorem keyN_items {P : Program} {w : World} : ∀ {ks : List V} {us : List Value}, (∀ v ∈ ks, KeyV v) → Vals ks us → ItemsAre (noneKind P w) (ks.map keyO) us
  | [], _, _, r => by cases r; exact .nil
  | k :: ks, _, h, r => by
    cases r with
    | cons h1 t => exact .cons (keyO_is (h k (List.mem_cons_self ..)) h1) (keyN_items (fun v z => h v (List.mem_cons_of_mem _ z)) t)
abbrev nKd (P : Program) (w : World) := tupleKind (noneKind P w)
def entN (xs : List (List V × Addr)) : List (List (Option Key) × Addr × Value) := xs.map fun p => (p.1.map keyO, p.2, .bool true)
def dnP (P : Program) (w : World) (a : Addr) (xs : List (List V × Addr)) (h : Heap) : Prop := xs.length ≤ sizeLine ∧ (a == sysModules) = false ∧ ∃ o es ep, h.get? a = some o ∧ o.ExactDict ∧ o.data = .dict es ep ∧ es.toList = (entN xs).map (entryOfKey (nKd P w))
def dnO (P : Program) (w : World) (a : Addr) (xs : List (List V × Addr)) : HO := .ext (dnP P w a xs)
structure DnOk (K : PySem.W.Frag) (H : Hp) (xs : List (List V × Addr)) : Prop where
  k : ∀ p ∈ xs, SqT K H p.2 p.1 ∧ ∀ v ∈ p.1, KeyV v
  n : (xs.map (·.1)).Nodup
theorem DnOk.same {K : PySem.W.Frag} {F H : Hp} {xs : List (List V × Addr)} (s : Same F H) (h : DnOk K F xs) : DnOk K H xs := ⟨fun p hp => ⟨sqT_same s (h.k p hp).1, (h.k p hp).2⟩, h.n⟩
def dnk (K : PySem.W.Frag) (xs : List (List V × Addr)) : Own := pur (fun F => DnOk K F xs) fun s h => h.same s
theorem dn_nil {K : PySem.W.Frag} {H : Hp} : DnOk K H [] := ⟨(fun _ h => nomatch h), .nil⟩
theorem DnOk.snoc {K : PySem.W.Frag} {H : Hp} {xs : List (List V × Addr)} {ks : List V} {b : Addr} (h : DnOk K H xs) (hb : SqT K H b ks) (hk : ∀ v ∈ ks, KeyV v) (hn : ks ∉ xs.map (·.1)) : DnOk K H (xs ++ [(ks, b)]) := by
  refine ⟨fun p hp => ?_, ?_⟩
  · rcases List.mem_append.mp hp with hp | hp
    · exact h.k p hp
    · rw [List.mem_singleton.mp hp]
      exact ⟨hb, hk⟩
  · rw [List.map_append]
    exact List.nodup_append.mpr ⟨h.n, by simp, fun x hx y hy e => hn (by rw [← (show y = ks from List.mem_singleton.mp hy), ← e]; exact hx)⟩
theorem ent_mem {xs : List (List V × Addr)} (h : ∀ p ∈ xs, ∀ v ∈ p.1, KeyV v) {ks : List V} (hk : ∀ v ∈ ks, KeyV v) : ks.map keyO ∈ (entN xs).map (·.1) ↔ ks ∈ xs.map (·.1) := by
  unfold entN
  rw [List.map_map, List.mem_map, List.mem_map]
  constructor
  · rintro ⟨p, hp, e⟩
    exact ⟨p, hp, keyL_inj (h p hp) hk e⟩
  · rintro ⟨p, hp, e⟩
    exact ⟨p, hp, by show p.1.map keyO = _; rw [e]⟩
theorem ent_nodup : ∀ {xs : List (List V × Addr)}, (∀ p ∈ xs, ∀ v ∈ p.1, KeyV v) → (xs.map (·.1)).Nodup → ((entN xs).map (·.1)).Nodup
  | [], _, _ => .nil
  | p :: xs, h, n => by
    have n : (p.1 :: xs.map (·.1)).Nodup := n
    obtain ⟨n1, n2⟩ := List.nodup_cons.mp n
    show ((p.1.map keyO) :: (entN xs).map (·.1)).Nodup
    have h2 : ∀ q ∈ xs, ∀ v ∈ q.1, KeyV v := fun q hq => h q (List.mem_cons_of_mem _ hq)
    exact List.nodup_cons.mpr ⟨fun z => n1 ((ent_mem h2 (h p (List.mem_cons_self ..))).mp z), ent_nodup h2 n2⟩
theorem at_mem {κ : Type} [DecidableEq κ] : ∀ {xs : List (κ × Addr × Value)} {k : κ}, (atKey xs k).isSome = true ↔ k ∈ xs.map (·.1)
  | [], k => ⟨(fun h => nomatch h), fun h => nomatch h⟩
  | p :: xs, k => by
    by_cases e : p.1 = k
    · have b : atKey (p :: xs) k = some p.2 := by simp [atKey, List.find?_cons, e]
      rw [b, List.map_cons, e]
      exact ⟨fun _ => List.mem_cons_self .., fun _ => rfl⟩
    · have b : atKey (p :: xs) k = atKey xs k := by simp [atKey, List.find?_cons, e]
      rw [b, at_mem, List.map_cons, List.mem_cons]
      exact ⟨.inr, fun z => z.resolve_left fun z => e z.symm⟩
theorem ent_at {xs : List (List V × Addr)} (h : ∀ p ∈ xs, ∀ v ∈ p.1, KeyV v) {ks : List V} (hk : ∀ v ∈ ks, KeyV v) : (atKey (entN xs) (ks.map keyO)).isSome = decide (ks ∈ xs.map (·.1)) := by
  rw [Bool.eq_iff_iff, decide_eq_true_eq]
  exact at_mem.trans (ent_mem h hk)
theorem dnP_stay {P : Program} {w : World} {a : Addr} {xs : List (List V × Addr)} (h1 h2 : Heap) (x : dnP P w a xs h1) (k : ∀ o, h1.get? a = some o → h2.get? a = some o) : dnP P w a xs h2 := by
  obtain ⟨z, y, o, es, ep, e, r⟩ := x
  exact ⟨z, y, o, es, ep, k _ e, r⟩
theorem dn_new {P : Program} {w : World} {H : Hp} {a : Addr} {xs : List (List V × Addr)} {h : Heap} (x : dnP P w a xs h) : ObjOk P w H h a (dnO P w a xs) :=
  ⟨x, let ⟨_, _, o, _, _, e, _⟩ := x; ⟨o, e⟩, dnP_stay⟩
section
variable {X : Cx} {pins : List (Addr × Obj)} {σ : L2.St} {H : Hp} {s : Shared} {a b : Addr} {xs : List (List V × Addr)} {ks : List V} {A : Around} {E : Value → Shared → Prop}
theorem keyN_of (I : Inv X pins σ H s) (h : SqT X.K H b ks) (hk : ∀ v ∈ ks, KeyV v) : (nKd X.prog X.w).is s.heap (ks.map keyO) b := by
  obtain ⟨its, r, ⟨o, e, c, n, d⟩, _⟩ := I.tuple h
  exact ⟨o, its.toArray, n, e, c, d, keyN_items hk r⟩
theorem dn_of (I : Inv X pins σ H s) (e : H a = some (dnO X.prog X.w a xs)) (k : DnOk X.K H xs) : xs.length ≤ sizeLine ∧ (a == sysModules) = false ∧ s.heap.DictOfH (nKd X.prog X.w) a (entN xs) := by
  obtain ⟨⟨z, y, o, es, ep, h1, h2, h3, h4⟩, _⟩ := (show ObjOk X.prog X.w H s.heap a (.ext (dnP X.prog X.w a xs)) from I.hok a _ e)
  refine ⟨z, y, o, es, ep, h1, h2, h3, h4, fun x hx => ?_, ent_nodup (fun p hp => (k.k p hp).2) k.n⟩
  obtain ⟨p, hp, rfl⟩ := List.mem_map.mp hx
  exact keyN_of I (k.k p hp).1 (k.k p hp).2
theorem ent_len : (entN xs).length = xs.length := List.length_map _
theorem dn_snoc {h : Heap} {t : Nat} (I : Inv X pins σ H s) (e : H a = some (dnO X.prog X.w a xs)) (k : DnOk X.K H xs) (hk : ∀ v ∈ ks, KeyV v) (hn : ks ∉ xs.map (·.1)) (hl : xs.length < sizeLine)
    (dd : h.DictOfH (nKd X.prog X.w) a (storedH (entN xs) (ks.map keyO) b (.bool true))) (hs : Heap.SameBut a s.heap h) : Inv X pins σ (upd H a (dnO X.prog X.w a (xs ++ [(ks, b)]))) { s with heap := h, toks := t } := by
  obtain ⟨_, hd, _⟩ := dn_of I e k
  have h0 : atKey (entN xs) (ks.map keyO) = none := by
    have := ent_at (fun p hp => (k.k p hp).2) hk
    rw [decide_eq_false hn] at this
    cases e2 : atKey (entN xs) (ks.map keyO) with
    | none => rfl
    | some x => rw [e2] at this; cases this
  rw [storedH_new h0] at dd
  obtain ⟨q, es, ep, hq, h2, h3, h4, _, h5⟩ := dd
  refine d_write I (by rw [e]; exact True.intro) hs ⟨q, hq⟩ (dn_new ⟨by rw [List.length_append]; exact hl, hd, q, es, ep, hq, h2, h3, ?_⟩)
  rw [h4]
  congr 1
  unfold entN
  rw [List.map_append]
  rfl
end
/-! ### readings -/
def gNNotIn (P : Program) (w : World) (K : PySem.W.Frag) (x y : V) (H : Hp) (Q : VK) : Prop := ∃ (a b : Addr) (xs : List (List V × Addr)) (ks : List V), x = .ref a ∧ y = .ref b ∧ H a = some (dnO P w a xs) ∧ DnOk K H xs ∧ SqT K H b ks ∧ (∀ v ∈ ks, KeyV v) ∧ Q (.bl (decide (ks ∉ xs.map (·.1)))) H
def gNPut (P : Program) (w : World) (K : PySem.W.Frag) (x y v : V) (H : Hp) (Z : Hp → Prop) : Prop := ∃ (a b : Addr) (xs : List (List V × Addr)) (ks : List V), x = .ref a ∧ y = .ref b ∧ v = .bl true ∧ H a = some (dnO P w a xs) ∧ DnOk K H xs ∧ SqT K H b ks ∧ (∀ v ∈ ks, KeyV v) ∧ ks ∉ xs.map (·.1) ∧ xs.length < sizeLine ∧
  Z (upd H a (dnO P w a (xs ++ [(ks, b)])))
def gNOne (P : Program) (w : World) (K : PySem.W.Frag) (p : Addr) (y v : V) (H : Hp) (Q : VK) : Prop := ∃ (b : Addr) (ks : List V), y = .ref b ∧ v = .bl true ∧ H p = some (dnO P w p []) ∧ SqT K H b ks ∧ (∀ v ∈ ks, KeyV v) ∧ Q (.ref p) (upd H p (dnO P w p [(ks, b)]))
def tNNotIn (P : Program) (w : World) (K : PySem.W.Frag) (ty td : TE) : TE := fun σ H Q => ty σ H fun y H1 => td σ H1 fun x H2 => gNNotIn P w K x y H2 Q
def sNPut (P : Program) (w : World) (K : PySem.W.Frag) (td ty tv : TE) : TS := fun D σ H => tv σ H fun v H1 => td σ H1 fun x H2 => ty σ H2 fun y H3 => gNPut P w K x y v H3 fun H4 => D.nx σ H4
def tNOne (P : Program) (w : World) (K : PySem.W.Frag) (ty tv : TE) : TE := fun σ H Q => ∀ p, H p = none → ty σ (upd H p (dnO P w p [])) fun y H1 => tv σ H1 fun v H2 => gNOne P w K p y v H2 Q
section
variable {X : Cx} {o i value : Expr} {pos pos' : Pos} {td ty tv : TE} {P : Program} {wd : World} {K : PySem.W.Frag}
theorem pc_nnotin (hu : X.A.units + 1 < cLine) (hi : PE X i ty) (ho : PE X o td) (eP : X.prog = P := by rfl) (ew : X.w = wd := by rfl) (eK : X.K = K := by rfl) : PC X .NotIn i o (tNNotIn P wd K ty td) := by
  subst eP ew eK
  refine ⟨fun pins s σ H Q I h => ?_⟩
  refine thn (hi.run pins s σ H _ I h) fun iv s1 ⟨y, H1, I1, ry, q1⟩ => thn (ho.run pins s1 σ H1 _ I1 q1) fun u s2 ⟨x, H2, I2, rx, a, b, xs, ks, ex, ey, e, k, hb, hk, q2⟩ => ?_
  subst ex ey
  obtain rfl : u = Value.ref a := rx
  obtain rfl : iv = Value.ref b := ry
  obtain ⟨_, hd, dd⟩ := dn_of I2 e k
  refine wpAny_notIn_heap (tupleKind_room_in1 hu) (keyN_of I2 hb hk) hd dd ?_
  rw [ent_at (fun p hp => (k.k p hp).2) hk, ← decide_not]
  refine ⟨_, H2, I2.tok _, ?_, q2⟩
  exact congrArg Value.bool (by congr)
theorem ps_nput (hu : X.A.units + 1 < cLine) (ho : PE X o td) (hi : PE X i ty) (hv : PE X value tv) (hs : swapsWith value (some (.Subscript o i pos')) pos.line X.env = pure false) (eP : X.prog = P := by rfl) (ew : X.w = wd := by rfl) (eK : X.K = K := by rfl) :
    PS X (.Assign [.Subscript o i pos'] value pos) (sNPut P wd K td ty tv) := by
  subst eP ew eK
  refine ⟨fun pins s σ H D I h => ?_⟩
  refine wpAny_Assign_Subscript (thn (hv.run pins s σ H _ I h) fun r s1 ⟨v, H1, I1, rv, q1⟩ => thn (ho.run pins s1 σ H1 _ I1 q1) fun u s2 ⟨x, H2, I2, rx, q2⟩ => thn (hi.run pins s2 σ H2 _ I2 q2) fun iv s3 ⟨y, H3, I3, ry, a, b, xs, ks, ex, ey, ev, e, k, hb, hk, hn, hl, q3⟩ => ?_) hs
  subst ex ey ev
  obtain rfl : u = Value.ref a := rx
  obtain rfl : iv = Value.ref b := ry
  obtain rfl : r = Value.bool true := rv
  obtain ⟨z, hd, dd⟩ := dn_of I3 e k
  exact wpAny_setItem_heap (hsz := by rw [ent_len]; exact z) (tupleKind_room_in1 hu) (keyN_of I3 hb hk) dd fun h' dd' hs => ⟨σ, _, dn_snoc I3 e k hk hn hl dd' hs, q3⟩
theorem pe_none1 (hu : X.A.units + 1 < cLine) (hk : PE X i ty) (hv : PE X value tv) (eP : X.prog = P := by rfl) (ew : X.w = wd := by rfl) (eK : X.K = K := by rfl) : PE X (.Dict [some i] [value] pos) (tNOne P wd K ty tv) := by
  subst eP ew eK
  refine ⟨fun pins s σ H Q I q => ?_⟩
  have hn := I.hok.fresh (Nat.le_refl s.heap.objs.size)
  have I1 := I.laid (a := s.heap.objs.size) (o := dnO X.prog X.w s.heap.objs.size []) (h' := s.heap.push { cls := .type "dict", data := .dict #[] }) (t' := s.toks) (fun _ _ q => Heap.get?_push_of_some _ q) (Nat.le_refl _)
    (dn_new ⟨Nat.zero_le _, beq_eq_false_iff_ne.mpr (Ne.symm (Nat.ne_of_lt I.big)), _, #[], 0, Heap.get?_push_size _ rfl, ⟨rfl, rfl, rfl⟩, rfl, rfl⟩)
  refine wpAny_Dict_any rfl rfl (fun z => nomatch z) (show 1 ≤ 15 by decide) (pairTrees_cons_walk (thn (hk.run pins _ σ _ _ I1 (q _ hn)) fun u s1 ⟨y, H1, I2, ry, q1⟩ => thn (hv.run pins s1 σ H1 _ I2 q1) fun r s2 ⟨v, H2, I3, rv, b, ks, ey, ev, e, hb, hk, q2⟩ => pairTrees_nil_walk ?_))
  subst ey ev
  obtain rfl : u = Value.ref b := ry
  obtain rfl : r = Value.bool true := rv
  obtain ⟨z, hd, dd⟩ := dn_of I3 e dn_nil
  unfold storeAll
  rw [List.forIn_cons]
  refine wpAny_bind (wpAny_bind (wpAny_dictSet_heap (hsz := Nat.zero_le _) (show X.A.units < cLine by omega) (keyN_of I3 hb hk) dd fun h' dd' hs => wpAny_pure ?_))
  show wpAny (model X.prog X.w) X.A (pure PUnit.unit) _ _ _
  exact wpAny_pure ⟨.ref s.heap.objs.size, _, dn_snoc I3 e dn_nil hk (fun z => nomatch z) (by decide) dd' hs, rfl, q2⟩
end
section
variable {P : Program} {wd : World} {K : PySem.W.Frag} {σ : L2.St} {H : Hp} {Q : VK} {td ty tv : TE} {nx bk ct : L2.St → Hp → Prop} {rt : VK} {M : List Addr} {F0 H0 F : Hp} {L Rs : List Own} {a b p : Addr} {xs : List (List V × Addr)} {ks : List V}
theorem w_nnotin (q : ty σ H fun y H1 => td σ H1 fun x H2 => gNNotIn P wd K x y H2 Q) : tNNotIn P wd K ty td σ H Q := q
instance : StepN (tNNotIn P wd K ty td σ H Q) (ty σ H fun y H1 => td σ H1 fun x H2 => gNNotIn P wd K x y H2 Q) := ⟨w_nnotin⟩
theorem w_nput (q : tv σ H fun v H1 => td σ H1 fun x H2 => ty σ H2 fun y H3 => gNPut P wd K x y v H3 fun H4 => nx σ H4) : sNPut P wd K td ty tv ⟨nx, rt, bk, ct⟩ σ H := q
instance : StepN (sNPut P wd K td ty tv ⟨nx, rt, bk, ct⟩ σ H) (tv σ H fun v H1 => td σ H1 fun x H2 => ty σ H2 fun y H3 => gNPut P wd K x y v H3 fun H4 => nx σ H4) := ⟨w_nput⟩
theorem n_nnotin (w : W M F0 H0 F H L) (md : mu a (dnO P wd a xs) ∈ L) (mk : dnk K xs ∈ L) (hb : SqT K H b ks) (hk : ∀ v ∈ ks, KeyV v) (q : Q (.bl (decide (ks ∉ xs.map (·.1)))) H) : gNNotIn P wd K (.ref a) (.ref b) H Q :=
  ⟨a, b, xs, ks, rfl, rfl, w.at_ md, DnOk.same w.fh (w.i _ mk), hb, hk, q⟩
theorem pick_skip {o : Own} : ∀ L : List Own, Pick (o :: L) L [o]
  | [] => .nil
  | _ :: L => .cons (.there .here) (pick_skip L)
theorem pick_allN : ∀ {L : List Own}, Pick L L []
  | [] => .nil
  | _ :: _ => .cons .here pick_allN
theorem n_nput {Z : Hp → Prop} (w : W M F0 H0 F H L) (k : Pick L [mu a (dnO P wd a xs), dnk K xs] Rs) (hb : SqT K F b ks) (hk : ∀ v ∈ ks, KeyV v) (hn : ks ∉ xs.map (·.1)) (hl : xs.length < sizeLine)
    (q : ∀ H2, W M F0 H0 F H2 (mu a (dnO P wd a (xs ++ [(ks, b)])) :: dnk K (xs ++ [(ks, b)]) :: Rs) → Z H2) : gNPut P wd K (.ref a) (.ref b) (.bl true) H Z := by
  have w := w.perm k.perm
  have d : DnOk K F xs := w.i (dnk K xs) (List.mem_cons_of_mem _ (List.mem_cons_self ..))
  refine ⟨a, b, xs, ks, rfl, rfl, rfl, w.at_ (List.mem_cons_self ..), d.same w.fh, sqT_same w.fh hb, hk, hn, hl, q _ ?_⟩
  have w2 := w.wr (u := dnO P wd a (xs ++ [(ks, b)])) (.cons .here .nil)
  have w3 := w2.push (dnk K (xs ++ [(ks, b)])) (d.snoc hb hk hn)
  exact w3.to (D := mu a (dnO P wd a (xs ++ [(ks, b)])) :: dnk K (xs ++ [(ks, b)]) :: Rs) (.cons (.there .here) (.cons .here (pick_skip Rs)))
theorem n_none1 (w : W M F0 H0 F H L) (h : ∀ p H1, W M F0 H0 F H1 (mu p (dnO P wd p []) :: L) → H0 p = none → ty σ H1 fun y H2 => tv σ H2 fun v H3 => gNOne P wd K p y v H3 Q) : tNOne P wd K ty tv σ H Q := fun p hp => h p _ (w.nw hp) (w.g.fresh hp)
theorem n_one {b : Addr} (w : W M F0 H0 F H L) (k : Pick L [mu p (dnO P wd p [])] Rs) (hb : SqT K F b ks) (hk : ∀ v ∈ ks, KeyV v) (q : ∀ H2, W M F0 H0 F H2 (mu p (dnO P wd p [(ks, b)]) :: dnk K [(ks, b)] :: Rs) → Q (.ref p) H2) : gNOne P wd K p (.ref b) (.bl true) H Q := by
  have w := w.perm k.perm
  refine ⟨b, ks, rfl, rfl, w.at_ (List.mem_cons_self ..), sqT_same w.fh hb, hk, q _ ?_⟩
  have w2 := w.wr (u := dnO P wd p [(ks, b)]) (.cons .here .nil)
  have w3 := w2.push (dnk K [(ks, b)]) (dn_nil.snoc (xs := []) hb hk (fun z => nomatch z))
  exact w3.to (D := mu p (dnO P wd p [(ks, b)]) :: dnk K [(ks, b)] :: Rs) (.cons (.there .here) (.cons .here pick_allN))
end
end R
namespace R
open PySem PySem.Spec PyProof.Rows L2
/-! ### sets of texts: set(xs), sorted(set) -/
def tkey (e : Int × Value) : Str := match e.2 with | .str k _ => k | _ => Str.empty
def GoodT (w : World) (e : Int × Value) : Prop := ∃ k tk, e.2 = Value.str k tk ∧ e.1 = hashStr w k
/-- the set of texts at a -/
def SetTx (w : World) (h : Heap) (a : Addr) (S : Str → Bool) (n : Nat) : Prop :=
  ∃ o es ep t, h.get? a = some o ∧ o.ExactSet ∧ o.data = .set es ep t ∧ (∀ e ∈ es.toList, GoodT w e) ∧ (es.toList.map tkey).Nodup ∧ (∀ k, S k = true ↔ k ∈ es.toList.map tkey) ∧
    es.size < scanBound ∧ t.fits es.size = true ∧ es.size = n ∧ Ris t.place.toList ∧ (w.params.followText "set-order" = true ∨ t.led = true)
section
variable {P : Program} {w : World} {h h' : Heap} {a : Addr} {S : Str → Bool} {n : Nat}
theorem SetTx.at (R : SetTx w h a S n) (k : ∀ o, h.get? a = some o → h'.get? a = some o) : SetTx w h' a S n := by
  obtain ⟨o, es, ep, t, ho, r⟩ := R
  exact ⟨o, es, ep, t, k o ho, r⟩
theorem SetTx.congr {S' : Str → Bool} (R : SetTx w h a S n) (e : ∀ k, S' k = S k) : SetTx w h a S' n := by
  have q : S' = S := funext e
  rw [q]; exact R
theorem goodT_elems {l : List (Int × Value)} (g : ∀ e ∈ l, GoodT w e) : ElemsOf (strKind P w) l := fun e he => by
  obtain ⟨k, tk, h1, h2⟩ := g e he
  exact ⟨⟨k, by rw [h1]; exact strKind_is P w k tk, h2⟩, by rw [h1] <;> rfl⟩
theorem goodT_is {e : Int × Value} (g : GoodT w e) (k : Str) : (strKind P w).is k e.2 = true ↔ tkey e = k := by
  obtain ⟨k0, tk, h1, _⟩ := g
  unfold tkey
  rw [h1]
  constructor
  · intro q
    exact ((strKind P w).inj (.str k0 tk) k k0 q (strKind_is P w k0 tk)).symm
  · intro q
    have q : k0 = k := q
    subst q
    exact strKind_is P w k0 tk
theorem goodT_mem {l : List (Int × Value)} (g : ∀ e ∈ l, GoodT w e) (k : Str) : k ∈ l.map tkey ↔ ∃ e ∈ l, (strKind P w).is k e.2 = true := by
  rw [List.mem_map]
  constructor
  · rintro ⟨e, he, q⟩
    exact ⟨e, he, (goodT_is (g e he) k).2 q⟩
  · rintro ⟨e, he, q⟩
    exact ⟨e, he, (goodT_is (g e he) k).1 q⟩
end
section
variable {P : Program} {w : World} {A : Around} {E : Value → Shared → Prop} {s : Shared} {a : Addr} {S : Str → Bool} {n : Nat}
theorem setT_add_tail {g : Bool → Sem Unit} (hg : ∀ (b : Bool) (s₁ : Shared) (Q' : Unit → Shared → Prop), Q' () s₁ → wpAny (model P w) A (g b) Q' E s₁)
    {o : Obj} {es : Array (Int × Value)} {ep : Nat} {t : SetTable} (ho : s.heap.get? a = some o) (hex : o.ExactSet) (hd : o.data = .set es ep t)
    {es1 : Array (Int × Value)} {t2 : SetTable} {S' : Str → Bool} (g1 : ∀ e ∈ es1.toList, GoodT w e) (nd1 : (es1.toList.map tkey).Nodup) (m1 : ∀ k, S' k = true ↔ k ∈ es1.toList.map tkey)
    (hb1 : es1.size < scanBound) (hf2 : t2.fits es1.size = true) (hr : Ris t2.place.toList) (hl : w.params.followText "set-order" = true ∨ t2.led = true) {wasDummy : Bool} {R : Option Bool → Shared → Prop}
    (hR : ∀ h', Heap.SameBut a s.heap h' → SetTx w h' a S' es1.size → R (some true) { s with heap := h' }) :
    wpAny (model P w) A (do
        storeSet a es1 t2
        if (!wasDummy && t2.tooFull) = true then do
            g (relayAll t2 es1 (SetTable.grown es1.size)).2.2
            storeSet a (relayAll t2 es1 (SetTable.grown es1.size)).1 (relayAll t2 es1 (SetTable.grown es1.size)).2.1
            pure (some true)
          else pure (some true)) R E s := by
  refine wpAny_bind (wpAny_storeSet_of ho hd ?_ (fits_of_scanBound hb1))
  have ho1 := store_at (es' := es1) (t' := t2) ho hd
  have sb1 := Heap.SameBut.update s.heap a (Obj.putSet es1 t2)
  split
  · have pm := relayAll_perm t2 es1 (SetTable.grown es1.size)
    have hf3 := relayAll_fits t2 es1 (SetTable.grown es1.size)
    have hr3 := relayAll_ris t2 es1 (SetTable.grown es1.size)
    have hl3 := relayAll_led t2 es1 (SetTable.grown es1.size)
    generalize relayAll t2 es1 (SetTable.grown es1.size) = Z at pm hf3 hr3 hl3 ⊢
    obtain ⟨es2, t3, gave⟩ := Z
    dsimp only at pm hf3 hr3 hl3 ⊢
    have hsz : es2.size = es1.size := by rw [← Array.length_toList, pm.length_eq, Array.length_toList]
    have hb2 : es2.size < scanBound := by rw [hsz]; exact hb1
    refine wpAny_bind (hg _ _ _ ?_)
    refine wpAny_bind (wpAny_storeSet_of ho1 rfl ?_ (fits_of_scanBound hb2))
    have ho2 := store_at (es' := es2) (t' := t3) ho1 rfl
    refine wpAny_pure (hR _ (sb1.trans (Heap.SameBut.update _ a _)) ?_)
    exact ⟨_, es2, _, t3, ho2, hex, rfl, fun e he => g1 e (pm.mem_iff.mp he), (pm.map tkey).nodup_iff.mpr nd1, fun k => (m1 k).trans (pm.map tkey).mem_iff.symm, hb2, hf3, hsz, hr3,
      hl.imp id fun z => by rw [hl3]; exact z⟩
  · exact wpAny_pure (hR _ sb1 ⟨_, es1, _, t2, ho1, hex, rfl, g1, nd1, m1, hb1, hf2, rfl, hr, hl⟩)
theorem setT_add_hashed {k : Str} {tk : Tok} {Q : Bool → Shared → Prop} (R : SetTx w s.heap a S n) (room : n + 1 < scanBound)
    (hQ : ∀ h', Heap.SameBut a s.heap h' → SetTx w h' a (fun j => S j || decide (j = k)) (if S k = true then n else n + 1) → Q (!S k) { s with heap := h' }) :
    wpAny (model P w) A (setAddHashed a (.str k tk) ((strKind P w).hash k)) Q E s := by
  obtain ⟨o, es, ep, t, ho, hex, hd, g, nd, hm, hb, hf, hn, hr, hl⟩ := R
  have hkey : (strKind P w).is k (.str k tk) = true := strKind_is P w k tk
  have hsc : (Value.str k tk).scannable = true := rfl
  have hel : ElemsOf (strKind P w) es.toList := goodT_elems g
  unfold setAddHashed setAddHashedIn
  refine wpAny_holding (wpAny_bind (wpAny_setState_of ho hd hf ?_))
  dsimp only
  rw [byScan_of hsc hb hel]
  simp only [↓reduceIte]
  unfold setAddByScan
  refine wpAny_bind ?_
  refine wpAny_bind (wpAny_rule ?_)
  refine wpAny_bind (wpAny_setScan_of hkey ho hd hf hel ?_)
  cases hfi : List.findIdx? (fun e => (strKind P w).is k e.2) es.toList with
  | some j =>
    dsimp only
    obtain ⟨hj, pj, _⟩ := List.findIdx?_eq_some_iff_getElem.mp hfi
    have hSk : S k = true := (hm k).2 ((goodT_mem (P := P) (w := w) g k).2 ⟨es.toList[j], List.getElem_mem hj, pj⟩)
    refine wpAny_pure (wpAny_pure ?_)
    have q := hQ s.heap (Heap.SameBut.refl a s.heap) ⟨o, es, ep, t, ho, hex, hd, g, nd, fun i => by
      rw [Bool.or_eq_true, decide_eq_true_eq, ← hm i]
      exact ⟨fun z => z.elim id (fun e => e ▸ hSk), .inl⟩, hb, hf, by rw [if_pos hSk]; exact hn, hr, hl⟩
    rw [hSk] at q
    exact q
  | none =>
    dsimp only
    have hnk : k ∉ es.toList.map tkey := fun z => by
      obtain ⟨e, he, q⟩ := (goodT_mem (P := P) (w := w) g k).1 z
      have c := List.findIdx?_eq_none_iff.mp hfi e he
      rw [q] at c
      cases c
    have hSk : S k = false := by
      cases q : S k with
      | false => rfl
      | true => exact absurd ((hm k).1 q) hnk
    have hgw : ∀ (b : Bool) {s₁ : Shared} {Q' : Unit → Shared → Prop}, Q' () s₁ → wpAny (model P w) A (match b with | true => rule "set.scan.the-table-gave-way" | false => pure ()) Q' E s₁ :=
      fun b s₁ Q' q => by cases b <;> first | exact wpAny_pure q | exact wpAny_rule q
    have pm := layNew_perm t es ((strKind P w).hash k) (.str k tk)
    have hf1 := layNew_fits t es ((strKind P w).hash k) (.str k tk)
    have hr1 := layNew_ris t es ((strKind P w).hash k) (.str k tk) hr
    have hl1 := layNew_led t es ((strKind P w).hash k) (.str k tk)
    generalize layNew t es ((strKind P w).hash k) (.str k tk) = Z at pm hf1 hr1 hl1 ⊢
    obtain ⟨es1, t1, wasDummy, gave⟩ := Z
    dsimp only at pm hf1 hr1 hl1 ⊢
    rw [Array.toList_push] at pm
    have pc : es1.toList.Perm (((strKind P w).hash k, Value.str k tk) :: es.toList) := pm.trans (List.perm_append_singleton _ _)
    have pk : (es1.toList.map tkey).Perm (k :: es.toList.map tkey) := pc.map tkey
    have g1 : ∀ e ∈ es1.toList, GoodT w e := fun e he => by
      rcases List.mem_cons.mp (pc.mem_iff.mp he) with z | z
      · rw [z]; exact ⟨k, tk, rfl, rfl⟩
      · exact g e z
    have nd1 : (es1.toList.map tkey).Nodup := pk.nodup_iff.mpr (List.nodup_cons.mpr ⟨hnk, nd⟩)
    have m1 : ∀ i, (S i || decide (i = k)) = true ↔ i ∈ es1.toList.map tkey := fun i => by
      rw [Bool.or_eq_true, decide_eq_true_eq, hm i, pk.mem_iff, List.mem_cons]
      exact Or.comm
    have hsz : es1.size = n + 1 := by rw [← Array.length_toList, pc.length_eq, List.length_cons, Array.length_toList, hn]
    have hb1 : es1.size < scanBound := by rw [hsz]; exact room
    have hled : w.params.followText "set-order" = true ∨ t1.led = true := hl.imp id fun z => by rw [hl1]; exact z
    have fin : ∀ h', Heap.SameBut a s.heap h' → SetTx w h' a (fun j => S j || decide (j = k)) es1.size → Q true { s with heap := h' } := fun h' sb r => by
      have q := hQ h' sb
      rw [hSk] at q
      rw [hsz] at r
      exact q r
    refine wpAny_bind (hgw _ ?_)
    split
    · refine wpAny_bind ?_
      rw [hashByValue_scannable 8 hsc]
      refine wpAny_pure ?_
      refine setT_add_tail ?_ ho hex hd g1 nd1 m1 hb1 ?_ ?_ ?_ ?_
      · intro b s₁ Q' q; cases b <;> first | exact wpAny_pure q | exact wpAny_rule q
      · first | (split <;> first | exact hf1 | exact SetTable.fits_plain_off hf1) | exact hf1
      · first | (split <;> exact hr1) | exact hr1
      · first | (split <;> exact hled) | exact hled
      · intro h' sb r; dsimp only; exact wpAny_pure (fin h' sb r)
    · refine wpAny_bind (wpAny_pure ?_)
      simp only [↓reduceIte]
      refine setT_add_tail ?_ ho hex hd g1 nd1 m1 hb1 hf1 hr1 hled ?_
      · intro b s₁ Q' q; cases b <;> first | exact wpAny_pure q | exact wpAny_rule q
      · intro h' sb r; dsimp only; exact wpAny_pure (fin h' sb r)
end
theorem setT_new_at {w : World} {h : Heap} {a : Addr} {ns : List Str} (ho : h.get? a = some { cls := .type "set", dict := none, data := .set #[] 0 (.fresh 0 0 (!w.params.followText "set-order")) }) : SetTx w h a (fun j => decide (j ∈ ns.take 0)) 0 :=
  ⟨_, #[], 0, _, ho, ⟨rfl, rfl, rfl⟩, rfl, (fun e he => by simp at he), (by simp), (fun k => by simp), (by decide), (by rfl), rfl, List.Pairwise.nil, by
    show _ ∨ (!w.params.followText "set-order") = true
    cases w.params.followText "set-order"
    · exact .inr rfl
    · exact .inl rfl⟩
section
variable {P : Program} {w : World} {A : Around} {E : Value → Shared → Prop} {s : Shared}
theorem set_update_strs {I : Addr} {fp wr : List Addr} {G : Array GenState → Array GenState → Prop} {n : Nat} {Pv : Nat → Value → Prop} {St : Nat → Shared → Prop} {R : Result → Shared → Prop}
    (W : WalksS P w A.in1 I fp wr G n Pv St) (S : Addr) (hSf : S ∉ fp) (ns : List Str) (hn : n = ns.length) (hb : ns.length + 1 < scanBound) (hval : ∀ i v, Pv i v → ∃ k t, ns[i]? = some k ∧ v = .str k t) :
    ∀ (k i : Nat) (s : Shared), n - i = k → i ≤ n → St i s → (∃ c, c ≤ i ∧ SetTx w s.heap S (fun j => decide (j ∈ ns.take i)) c) →
      (∀ s' c, Moved (S :: wr) G s s' → c ≤ n → SetTx w s'.heap S (fun j => decide (j ∈ ns)) c → R (.ok (.ret .none)) s') →
      codeAny (model P w) A (.builtin "set.update.loop" ⟨[.ref S, .ref I], []⟩) R s := by
  have hSw : S ∉ wr := fun h => hSf (W.sub _ h)
  have hsub : ∀ b ∈ wr, b ∈ S :: wr := fun b hb => List.mem_cons_of_mem _ hb
  intro k
  induction k with
  | zero =>
    intro i s hk' hi hst ⟨c, hc, hS⟩ hR
    have hin : i = n := by omega
    subst hin
    refine codeAny_builtin F.entry_set_update_loop ?_
    rw [Around.under_plainId F.plain_set_update_loop _]
    show wpAny _ A.in1 (pyNext (.ref I) >>= _) _ _ s
    refine wpAny_bind (W.done s _ _ hst fun s' hm => ?_)
    show wpAny _ A.in1 (ret Value.none) _ _ s'
    have e : ns.take i = ns := List.take_of_length_le (by omega)
    rw [e] at hS
    exact wpAny_pure (hR s' c (hm.mono hsub) hc (hS.at fun o e => hm.heap S o hSw e))
  | succ k ih =>
    intro i s hk' hi hst ⟨c, hc, hS⟩ hR
    have hlt : i < n := by omega
    refine codeAny_builtin F.entry_set_update_loop ?_
    rw [Around.under_plainId F.plain_set_update_loop _]
    show wpAny _ A.in1 (pyNext (.ref I) >>= _) _ _ s
    refine wpAny_bind (W.item i s _ _ hlt hst fun v s' hP hst' hm => ?_)
    obtain ⟨z, t, hz, rfl⟩ := hval i v hP
    have hS' : SetTx w s'.heap S (fun j => decide (j ∈ ns.take i)) c := hS.at fun o e => hm.heap S o hSw e
    show wpAny _ A.in1 (holding [Value.str z t] (setAdd S (.str z t)) >>= _) _ _ s'
    refine wpAny_bind (wpAny_holding ?_)
    unfold setAdd
    refine wpAny_holding ?_
    refine wpAny_bind ((strKind P w).pyHash (k := z) (strKind_is _ _ _ _) ?_)
    refine setT_add_hashed (s := { s' with toks := s'.toks + 1 }) hS' (by omega) fun h' hsb hS2 => ?_
    have hS3 : SetTx w h' S (fun j => decide (j ∈ ns.take (i + 1))) (if decide (z ∈ ns.take i) = true then c else c + 1) := hS2.congr fun j => by
      rw [List.take_add_one, hz]
      simp [List.mem_append]
    have hc3 : (if decide (z ∈ ns.take i) = true then c else c + 1) ≤ i + 1 := by
      split <;> omega
    refine wpAny_pure ⟨plainId_quiet F.plain_set_update_loop _, ih (i + 1) _ (by omega) hlt (W.frame _ s' _ _ hst' (Nat.le_succ _) fun b hb o e => ?_) ⟨_, hc3, hS3⟩ fun s'' c2 hm'' hc'' hS'' => ?_⟩
    · rw [hsb.2 b (fun h : b = S => hSf (by rw [← h]; exact hb))]; exact e
    · refine hR s'' c2 (Moved.trans W.gtrans ((hm.mono hsub).then_heap (Nat.le_succ _) fun b o hb e => ?_) hm'') hc'' hS''
      rw [hsb.2 b (fun h : b = S => hb (by rw [h]; exact List.mem_cons_self))]; exact e
/-- set(xs) of a list of texts -/
theorem set_listT {l : Addr} {items : Array Value} (ns : List Str) {Q : Value → Shared → Prop} (hh : A.handled = none) (hl : s.heap.IsList l items) (hit : StrsAre items.toList ns) (hb : ns.length + 1 < scanBound)
    (h : ∀ (h' : Heap) (tk c : Nat), SetTx w h' s.heap.objs.size (fun j => decide (j ∈ ns)) c → c ≤ ns.length → (∀ b o, s.heap.get? b = some o → h'.get? b = some o) → Q (.ref s.heap.objs.size) { s with heap := h', toks := tk }) :
    wpAny (model P w) A (call (.type "set") [.ref l]) Q E s := by
  have hisz : items.size = ns.length := by
    have q := StrsAre.len_eq hit
    rw [Array.length_toList] at q
    exact q
  obtain ⟨c, tl, hmro⟩ := F.called_set.mro
  have hmade := F.called_set.made
  have hsub := F.called_set.sub
  refine wpAny_call (codeAny_of_tree ?_)
  show wpAny _ _ (callAny (.type "set") _) _ _ _
  refine wpAny_pure ⟨Code.quiet_builtin _ (by decide +kernel), codeAny_builtin F.entry_type_call ?_⟩
  rw [Around.under_plain (weight_type_call_type "set" [.ref l] []) rfl]
  have h1 := F.called_set.notType
  have h2 := F.called_set.canCreate
  have hct := F.typeCall_set_1 (.ref l)
  repeat (any_goals (first | assumption | wp_step))
  refine codeAny_mono (code_set_led1 (.ref l) (E := E) (Q₁ := fun obj s₁ => obj = .ref s.heap.objs.size ∧ s₁ = { s with heap := s.heap.push { cls := .type "set", dict := none, data := .set #[] 0 (.fresh 0 0 (!w.params.followText "set-order")) } }) ⟨rfl, rfl⟩) fun r s₁ hr => ?_
  cases r with
  | error e => exact hr
  | ok fl =>
    cases fl with
    | ret obj =>
      obtain ⟨rfl, rfl⟩ := hr
      have hS : (s.heap.push { cls := .type "set", dict := none, data := .set #[] 0 (.fresh 0 0 (!w.params.followText "set-order")) }).get? s.heap.objs.size = some { cls := .type "set", dict := none, data := .set #[] 0 (.fresh 0 0 (!w.params.followText "set-order")) } := Heap.get?_push_size _ rfl
      have hT : Shared.TypeIs { s with heap := s.heap.push { cls := .type "set", dict := none, data := .set #[] 0 (.fresh 0 0 (!w.params.followText "set-order")) } } (.ref s.heap.objs.size) "set" := ⟨_, hS, rfl⟩
      have hli := F.called_set.init.lookup
      have hbi := F.called_set.init.bind (.ref s.heap.objs.size)
      repeat (any_goals (first | assumption | wp_step))
      refine codeAny_mono (codeAny_call_builtin (R := wants (fun r s₂ => r = .none ∧ ∃ h' tk c, s₂ = { s with heap := h', toks := tk } ∧ SetTx w h' s.heap.objs.size (fun j => decide (j ∈ ns)) c ∧ c ≤ ns.length ∧
          (∀ b o, s.heap.get? b = some o → h'.get? b = some o)) E) F.called_set.init.plain F.entry_set_init (check_set_init_1 hT ?_)) fun r₂ s₂ hr₂ => ?_
      · obtain ⟨ol, hol, hcl, nl, hdl⟩ := hl
        obtain ⟨ocls, odict, odata, oslots⟩ := ol
        simp only at hcl hdl
        subst hcl; subst hdl
        have hol' : (s.heap.push { cls := .type "set", dict := none, data := .set #[] 0 (.fresh 0 0 (!w.params.followText "set-order")) }).get? l = some { cls := .type "list", dict := odict, data := .seq items nl, slots := oslots } := Heap.get?_push_of_some _ hol
        have hsls := F.sub_list_set
        have hslf := F.sub_list_frozenset
        have hne : (Value.type "list" == Value.type "dict") = false := by decide
        have hl1 : (s.heap.push { cls := .type "set", dict := none, data := .set #[] 0 (.fresh 0 0 (!w.params.followText "set-order")) }).IsList l items := ⟨_, hol', rfl, nl, rfl⟩
        unfold Builtin.«set.__init__» noKeywords Builtin.Frozenset.updateFrom
        generalize hPI : pyIter = PI
        wp_walk
        subst hPI
        refine wpAny_pyIter_list hl1 ?_
        refine wpAny_bind (wpAny_runValue ?_)
        have hlS : l < s.heap.objs.size := Heap.lt_size hol
        have hh3 : A.in1.in1.in1.handled = none := by simp [hh]
        have hneI : l ≠ (s.heap.push { cls := .type "set", dict := none, data := .set #[] 0 (.fresh 0 0 (!w.params.followText "set-order")) }).objs.size := by
          rw [Heap.size_push]; exact Nat.ne_of_lt (Nat.lt_succ_of_lt hlS)
        have hSf : s.heap.objs.size ∉ [(s.heap.push { cls := .type "set", dict := none, data := .set #[] 0 (.fresh 0 0 (!w.params.followText "set-order")) }).objs.size, l] := by
          rw [Heap.size_push]; simp only [List.mem_cons, List.mem_singleton, List.not_mem_nil, or_false, not_or]
          exact ⟨Nat.ne_of_lt (Nat.lt_succ_self _), Nat.ne_of_gt hlS⟩
        have hval : ∀ (i : Nat) (v : Value), items[i]? = some v → ∃ k t, ns[i]? = some k ∧ v = .str k t := fun i v hv => by
          have hi : i < ns.length := by rw [← hisz]; exact (Array.getElem?_eq_some_iff.mp hv).1
          obtain ⟨t, e⟩ := SS.strs_at hit i v (by rw [Array.getElem?_toList]; exact hv)
          refine ⟨ns[i], t, List.getElem?_eq_getElem hi, ?_⟩
          rw [e, List.getD_eq_getElem?_getD, List.getElem?_eq_getElem hi] <;> rfl
        refine set_update_strs ((Walks.list hh3 _ l hneI items).toS) s.heap.objs.size
          hSf ns hisz hb hval (items.size - 0) 0 _ (by omega) (Nat.zero_le _)
          ⟨⟨_, Heap.get?_push_size _ rfl, rfl, rfl⟩, (hl1.push _)⟩ ?hS0 ?hR
        case hS0 =>
          have hget : ((s.heap.push { cls := .type "set", dict := none, data := .set #[] 0 (.fresh 0 0 (!w.params.followText "set-order")) }).push { cls := .type "list_iterator", data := .fields #[.ref l, .int 0 0] }).get? s.heap.objs.size
              = some { cls := .type "set", dict := none, data := .set #[] 0 (.fresh 0 0 (!w.params.followText "set-order")) } := Heap.get?_push_of_some _ hS
          exact ⟨0, Nat.le_refl 0, setT_new_at hget⟩
        case hR =>
          intro s' c' hm hc' hS'
          obtain ⟨h', g2, d', tk', os'⟩ := s'
          have eg : g2 = s.gens := hm.gens
          have ed : d' = s.drawn := hm.drawn
          have eo : os' = s.os := hm.os
          subst eg; subst ed; subst eo
          show wpAny _ _ _ _ _ _
          refine wpAny_pure ?_
          show wpAny _ _ (ret Value.none) _ _ _
          rw [hisz] at hc'
          refine wpAny_pure ⟨rfl, h', tk', c', rfl, hS', hc', fun b o e => ?_⟩
          have hb0 : b < s.heap.objs.size := Heap.lt_size e
          have hb1 : b ≠ s.heap.objs.size := Nat.ne_of_lt hb0
          have hb2 : b ≠ (s.heap.push { cls := .type "set", dict := none, data := .set #[] 0 (.fresh 0 0 (!w.params.followText "set-order")) }).objs.size := by
            rw [Heap.size_push]; exact Nat.ne_of_lt (Nat.lt_succ_of_lt hb0)
          exact hm.heap b o (by simp only [List.mem_cons, List.mem_singleton, List.not_mem_nil, or_false, not_or]; exact ⟨hb1, hb2⟩) (Heap.get?_push_of_some _ (Heap.get?_push_of_some _ e))
      · cases r₂ with
        | error e => exact hr₂
        | ok fl₂ =>
          cases fl₂ with
          | ret r =>
            obtain ⟨rfl, h', tk, c', rfl, hS', hc', hk'⟩ := hr₂
            repeat (any_goals (first | assumption | wp_step))
            exact h _ _ _ hS' hc' hk'
          | _ => exact hr₂.elim
    | _ => exact hr.elim
theorem strs_ofT : ∀ {us : List Value}, (∀ v ∈ us, ∃ k tk, v = Value.str k tk) → ∃ ys : List Str, StrsAre us ys ∧ ys = us.map fun v => tkey (0, v)
  | [], _ => ⟨[], .nil, rfl⟩
  | v :: us, h => by
    obtain ⟨ys, h1, h2⟩ := strs_ofT (us := us) fun v hv => h v (List.mem_cons_of_mem _ hv)
    obtain ⟨k, tk, rfl⟩ := h v (List.mem_cons_self ..)
    exact ⟨k :: ys, .cons k tk h1, by rw [List.map_cons, ← h2]; rfl⟩
/-- sorted of a set of fewer than 64 texts -/
theorem sorted_setT {a : Addr} {S : Str → Bool} {n : Nat} {Q : Value → Shared → Prop} (R : SetTx w s.heap a S n) (hh : A.handled = none) (hz : n < 64)
    (hQ : ∀ s' p (out : Array Value) (c : Nat) (ns : List Str), (∀ b o, s.heap.get? b = some o → s'.heap.get? b = some o) → s'.gens = s.gens → s'.os = s.os → s.heap.objs.size ≤ p →
      s'.heap.get? p = some (seqObj "list" out c) → StrsAre out.toList ns → (∀ k, k ∈ ns ↔ S k = true) → ns.length = n → Q (.ref p) s') :
    wpAny (model P w) A (call (.builtin "sorted") [.ref a]) Q E s := by
  obtain ⟨o, es, ep, t, ho, hex, hd, g, nd, hm, hb, hf, hn, hr, hl⟩ := R
  refine Calls.call_function_entry kind_sorted plain_sorted entry_sorted (args_sorted1 _) ?_
  unfold Builtin.«sorted»
  refine wpAny_bind (m := checkCount "sorted" 1 1 _) (wpAny_pure ?_)
  refine wpAny_bind (collect_set (A := A.in1) hh ⟨o, ho, hex.1, hd⟩ hf hb hr hl fun s1 vs k1 hzz g1 o1 pm => ?_)
  have hvl : vs.length = n := by rw [pm.length_eq, List.length_map, Array.length_toList]; exact hn
  obtain ⟨zs, hS, ez⟩ := strs_ofT (us := vs) fun v hv => by
    obtain ⟨e, he, q⟩ := List.mem_map.mp (pm.mem_iff.mp hv)
    obtain ⟨k, tk, h1, _⟩ := g e he
    exact ⟨k, tk, by rw [← q]; exact h1⟩
  have pk : zs.Perm (es.toList.map tkey) := by
    rw [ez]
    have q := pm.map fun v => tkey (0, v)
    rw [List.map_map] at q
    exact q
  have hz2 : vs.length ≤ sizeLine := by rw [hvl, sizeLine_eq]; omega
  refine wpAny_bind (wpAny_newList ?_ hz2)
  have hoL : (s1.heap.push (seqObj "list" vs.toArray 0)).get? s1.heap.objs.size = some (seqObj "list" vs.toArray 0) := Heap.get?_push_size _ rfl
  refine wpAny_bind (wpAny_holding (wpAny_call_entry slot_list_sort ⟨_, hoL, rfl⟩ entry_list_sort
    (list_sort_treeK strKind_oneLt hoL hS.keysOf (fun v₁ v₂ rest e => keyKind_strs (by rw [← e]; exact hS)) (by rw [hvl]; exact hz) fun st' hp hs => ⟨_, rfl, ?_⟩) (args_list_sort _)))
  obtain ⟨ys, g1', g2, g3⟩ := sorted_out_str hS hp hs
  obtain ⟨c, hc⟩ := PyProof.Rows.sortedHeap_at (vs := vs) (out := (arrOf st').map (·.2)) hoL
  have pn : ys.Perm (es.toList.map tkey) := g2.trans pk
  refine wpAny_pure ⟨_, rfl, hQ _ s1.heap.objs.size ((arrOf st').map (·.2)) c ys (fun b u e => ?_) g1 o1 hzz hc g1' (fun k => by rw [pn.mem_iff, ← hm k]) ?_⟩
  · have q := k1 b u e
    have hlt := Heap.lt_size q
    show (sortedHeap (s1.heap.push (seqObj "list" vs.toArray 0)) s1.heap.objs.size vs _).get? b = some u
    rw [sortedHeap_old (Nat.ne_of_lt hlt) (by rw [size_push']; exact Nat.lt_succ_of_lt hlt)]
    exact Heap.get?_push_of_some _ q
  · rw [pn.length_eq, List.length_map, Array.length_toList]; exact hn
end
section
def SetTO (w : World) (a : Addr) (S : Str → Bool) (n : Nat) : HO := .ext fun h => SetTx w h a S n
theorem setTO_new {w : World} {P : Program} {H : Hp} {h : Heap} {a : Addr} {S : Str → Bool} {n : Nat} (R : SetTx w h a S n) : ObjOk P w H h a (SetTO w a S n) :=
  ⟨R, let ⟨o, _, _, _, e, _⟩ := R; ⟨o, e⟩, fun _ _ r k => r.at k⟩
theorem setTO_get {X : Cx} {pins : List (Addr × Obj)} {σ : L2.St} {H : Hp} {s : Shared} {a : Addr} {S : Str → Bool} {n : Nat} (I : Inv X pins σ H s) (ha : H a = some (SetTO X.w a S n)) : SetTx X.w s.heap a S n := (I.hok a _ ha).1
variable {X : Cx} {K : PySem.W.Frag} {w : World}
def rSetT (K : PySem.W.Frag) (w : World) : List V → Hp → VK → Prop := fun xs H Q => ∃ (a : Addr) (ns : List Str), xs = [.ref a] ∧ SqL K H a (ns.map V.str) ∧ ns.length ≤ 4000 ∧ ∀ p c, c ≤ ns.length → H p = none → Q (.ref p) (upd H p (SetTO w p (fun j => decide (j ∈ ns)) c))
theorem clSetT (hc : X.calm = true := by rfl) (h : X.K = K := by rfl) (hw : X.w = w := by rfl) : CallR X (.type "set") (rSetT K w) := by
  subst h hw
  intro pins s σ H vs us Q I r h
  obtain ⟨a, ns, rfl, ha, hl, q⟩ := h
  obtain ⟨u, rfl, rx⟩ := vals1 r
  cases rx
  obtain ⟨its, rv, pl, hz⟩ := I.list ha
  have hi : StrsAre its.toArray.toList ns := strsAre_of rv
  refine set_listT ns (I.ok.hd hc) (let ⟨o, n, e, c, _, d⟩ := pl; ⟨o, e, c, n, d⟩) hi (by unfold scanBound; omega) fun h' tk c R1 hcn k => ?_
  exact ⟨.ref _, upd H s.heap.objs.size (SetTO X.w s.heap.objs.size (fun j => decide (j ∈ ns)) c), I.laid (t' := tk) k (Nat.le_refl _) (setTO_new R1), rfl, q _ _ hcn (I.hok.fresh (Nat.le_refl _))⟩
def rSortT (w : World) : List V → Hp → VK → Prop := fun vs H Q => ∃ (a : Addr) (S : Str → Bool) (n : Nat), vs = [V.ref a] ∧ H a = some (SetTO w a S n) ∧ n < 64 ∧
  ∀ (ns : List Str) (p : Addr), (∀ k, k ∈ ns ↔ S k = true) → ns.length = n → H p = none → Q (.ref p) (upd H p (.lst (ns.map V.str)))
theorem clSortT (hc : X.calm = true := by rfl) (hw : X.w = w := by rfl) : CallR X (.builtin "sorted") (rSortT w) := by
  subst hw
  intro pins s σ H vs us Q I r h
  obtain ⟨a, S, n, rfl, ha, hz, q⟩ := h
  have R := setTO_get I ha
  rw [Vals.ref1 r]
  refine sorted_setT R (I.ok.hd hc) hz fun s' p out c ks k g o hp hg hi hm hl => ?_
  have hlen : (ks.map V.str).length ≤ sizeLine := by rw [List.length_map, hl, sizeLine_eq]; omega
  have hn : H p = none := I.hok.fresh hp
  have J : Inv X pins σ (upd H p (.lst (ks.map V.str))) { s with heap := s'.heap, gens := s'.gens, drawn := s'.drawn, toks := s'.toks } :=
    I.call (ch := []) (Un.laid k hp hn) (I.hok.laid k hp ⟨hlen, out.toList, c, vals_of_strs hi, hg⟩) (by rw [g]; exact I.bare) (fun _ z => nomatch z)
  have e : s' = { s with heap := s'.heap, gens := s'.gens, drawn := s'.drawn, toks := s'.toks } := by
    cases s'
    cases s
    cases o
    rfl
  rw [e]
  exact ⟨.ref p, _, J, rfl, q ks p hm hl hn⟩
end
section
variable {K : PySem.W.Frag} {wd : World} {M : List Addr} {F0 H0 F H : Hp} {L : List Own} {Q : VK} {a : Addr}
theorem n_setT {ns : List Str} (w : W M F0 H0 F H L) (hs : SqL K H a (ns.map V.str)) (hl : ns.length ≤ 4000) (h : ∀ p c F2 H2, W M F0 H0 F2 H2 (mu p (SetTO wd p (fun j => decide (j ∈ ns)) c) :: L) → c ≤ ns.length → H0 p = none → Q (.ref p) H2) : rSetT K wd [.ref a] H Q :=
  ⟨a, ns, rfl, hs, hl, fun p c hc hp => h p c F _ (w.nw hp) hc (w.g.fresh hp)⟩
theorem n_sortT {S : Str → Bool} {n : Nat} (w : W M F0 H0 F H L) (hs : H a = some (SetTO wd a S n)) (hl : n < 64) (h : ∀ (ks : List Str) p F2 H2, W M F0 H0 F2 H2 (mu p (.lst (ks.map V.str)) :: L) → (∀ k, k ∈ ks ↔ S k = true) → ks.length = n → H0 p = none → Q (.ref p) H2) : rSortT wd [.ref a] H Q :=
  ⟨a, S, n, rfl, hs, hl, fun ns p h1 h2 hp => h ns p F _ (w.nw hp) h1 h2 (w.g.fresh hp)⟩
end
end R
namespace R
open PySem PySem.Spec PyProof.Rows L2
/-! ### the fewest rows, by trying: what they are -/
section
variable {cs signs s t s0 : List V} {n many : Nat}
/-- a sign that a row can bring to a place: room and slots lie in one list -/
def SrcV (many : Nat) (signs s : List V) (to : Nat) (v : V) : Prop := (∃ k : Nat, s[k]? = some v ∧ v ≠ .non ∧ (to < many ∨ k < many)) ∨ (to < many ∧ v ∈ signs)
def MvV (many : Nat) (signs s t : List V) : Prop := ∃ (to : Nat) (v : V), to < s.length ∧ SrcV many signs s to v ∧ t = s.set to v
inductive PathV (many : Nat) (signs s0 : List V) : Nat → List V → Prop where
  | nil : PathV many signs s0 0 s0
  | snoc {k : Nat} {s t : List V} : PathV many signs s0 k s → MvV many signs s t → PathV many signs s0 (k + 1) t
def GoalV (cs s : List V) : Prop := s.take cs.length = cs
/-- what is needed is held -/
def LiveV (cs s : List V) : Prop := ∀ q p : Nat, cs[q]? = some (.int (p : Nat)) → ∃ k : Nat, s[k]? = some (.int (p : Nat))
theorem MvV.len (h : MvV many signs s t) : t.length = s.length := by
  obtain ⟨to, v, _, _, rfl⟩ := h
  exact List.length_set
theorem PathV.len {k : Nat} (h : PathV many signs s0 k s) : s.length = s0.length := by
  induction h with
  | nil => rfl
  | snoc _ m ih => rw [m.len, ih]
theorem live_back (hs : ∀ v ∈ signs, ∃ z, v = .str z) (h : MvV many signs s t) (l : LiveV cs t) : LiveV cs s := by
  intro q p e
  obtain ⟨k, hk⟩ := l q p e
  obtain ⟨to, v, ht, hv, rfl⟩ := h
  by_cases hkt : to = k
  · subst hkt
    rw [List.getElem?_set_self ht] at hk
    cases hk
    rcases hv with ⟨k2, h2, _⟩ | ⟨_, h2⟩
    · exact ⟨k2, h2⟩
    · obtain ⟨z, hz⟩ := hs _ h2
      cases hz
  · rw [List.getElem?_set_ne hkt] at hk
    exact ⟨k, hk⟩
theorem goal_get (h : GoalV cs s) {q : Nat} (hq : q < cs.length) : s[q]? = cs[q]? := by
  unfold GoalV at h
  rw [← h, List.getElem?_take]
  rw [if_pos hq]
theorem live_goal (h : GoalV cs s) : LiveV cs s := by
  intro q p e
  exact ⟨q, by rw [goal_get h (List.getElem?_eq_some_iff.mp e).1]; exact e⟩
/-- the first places of the pure rings -/
theorem cnt_reps (g : Nat → Option Nat) (N : Nat) : ∀ (r l : List Nat), ∃ reps : List Nat, reps.length = cntM g N l r ∧ (∀ x ∈ reps, Pc g N x ∧ ∀ q ∈ l, ¬ Sm g x q) ∧ reps.Pairwise fun a b => ¬ Sm g b a
  | [], l => ⟨[], rfl, (fun _ h => nomatch h), .nil⟩
  | a :: r, l => by
    obtain ⟨reps, h1, h2, h3⟩ := cnt_reps g N r (l ++ [a])
    have h4 : ∀ x ∈ reps, Pc g N x ∧ ∀ q ∈ l, ¬ Sm g x q := fun x hx => ⟨(h2 x hx).1, fun q hq => (h2 x hx).2 q (List.mem_append_left _ hq)⟩
    by_cases hm : Mn g N l a
    · refine ⟨a :: reps, ?_, fun x hx => ?_, List.pairwise_cons.mpr ⟨fun b hb => (h2 b hb).2 a (List.mem_append_right _ (List.mem_singleton.mpr rfl)), h3⟩⟩
      · rw [cntM, if_pos hm, List.length_cons, h1, Nat.add_comm]
      · rcases List.mem_cons.mp hx with rfl | hx
        · exact hm
        · exact h4 x hx
    · exact ⟨reps, by rw [cntM, if_neg hm, Nat.zero_add]; exact h1, h4, h3⟩
/-- a pure ring untouched, and none of its signs anywhere else -/
def TgtV (cs s : List V) (x : Nat) : Prop := ∀ y, Sm (gC cs) x y → ∀ k : Nat, s[k]? = some (.int (y : Nat)) ↔ k = y
def wrgV (cs s : List V) : Nat := ((List.range cs.length).filter fun q => !decide (s[q]? = cs[q]?)).length
noncomputable def tgN (cs s : List V) (reps : List Nat) : Nat := (reps.filter fun x => @decide (TgtV cs s x) (Classical.propDecidable _)).length
theorem filt_one {α : Type} {P Q : α → Bool} : ∀ {l : List α}, l.Nodup → (∀ a ∈ l, ∀ b ∈ l, P a = true → Q a = false → P b = true → Q b = false → a = b) → (l.filter P).length ≤ (l.filter Q).length + 1
  | [], _, _ => Nat.zero_le _
  | a :: l, hn, h => by
    obtain ⟨n1, n2⟩ := List.nodup_cons.mp hn
    have ih := filt_one n2 fun x hx y hy => h x (List.mem_cons_of_mem _ hx) y (List.mem_cons_of_mem _ hy)
    cases ep : P a with
    | false =>
      rw [List.filter_cons_of_neg (by rw [ep]; decide)]
      cases eq : Q a with
      | true => rw [List.filter_cons_of_pos eq, List.length_cons]; omega
      | false => rw [List.filter_cons_of_neg (by rw [eq]; decide)]; exact ih
    | true =>
      rw [List.filter_cons_of_pos ep, List.length_cons]
      cases eq : Q a with
      | true => rw [List.filter_cons_of_pos eq, List.length_cons]; omega
      | false =>
        rw [List.filter_cons_of_neg (by rw [eq]; decide)]
        have : (l.filter P).length ≤ (l.filter Q).length := by
          rw [← List.countP_eq_length_filter, ← List.countP_eq_length_filter]
          refine List.countP_mono_left fun x hx hp => Classical.byContradiction fun z => ?_
          have e := h a (List.mem_cons_self ..) x (List.mem_cons_of_mem _ hx) ep eq hp (by cases e : Q x with | true => exact absurd e z | false => rfl)
          exact n1 (e ▸ hx)
        omega
theorem filt_sub {α : Type} {P Q : α → Bool} {l : List α} (h : ∀ a ∈ l, P a = true → Q a = true) : (l.filter P).length ≤ (l.filter Q).length := by
  rw [← List.countP_eq_length_filter, ← List.countP_eq_length_filter]
  exact List.countP_mono_left h
/-- rows still owed at least -/
noncomputable def oweV (cs : List V) (reps : List Nat) (s : List V) : Nat := wrgV cs s + tgN cs s reps
theorem pw_eq {g : Nat → Option Nat} {N : Nat} : ∀ {reps : List Nat}, (∀ x ∈ reps, Pc g N x) → (reps.Pairwise fun a b => ¬ Sm g b a) → ∀ {a b : Nat}, a ∈ reps → b ∈ reps → Sm g a b → a = b
  | [], _, _, a, b, h, _, _ => nomatch h
  | x :: reps, hp, hw, a, b, ha, hb, hs => by
    obtain ⟨w1, w2⟩ := List.pairwise_cons.mp hw
    rcases List.mem_cons.mp ha with ha1 | ha1
    · rcases List.mem_cons.mp hb with hb1 | hb1
      · rw [ha1, hb1]
      · refine absurd ?_ (w1 b hb1)
        rw [← ha1]
        exact (hp a ha).back hs
    · rcases List.mem_cons.mp hb with hb1 | hb1
      · refine absurd ?_ (w1 a ha1)
        rw [← hb1]
        exact hs
      · exact pw_eq (fun y hy => hp y (List.mem_cons_of_mem _ hy)) w2 ha1 hb1 hs
theorem sm_self {g : Nat → Option Nat} (x : Nat) : Sm g x x := ⟨0, rfl⟩
theorem pw_nd {g : Nat → Option Nat} {reps : List Nat} (h : reps.Pairwise fun a b => ¬ Sm g b a) : reps.Nodup := h.imp fun {a b} z e => z (by rw [e]; exact sm_self b)
/-- one row lowers what is owed by one at most -/
theorem owe_step (hc : ∀ v ∈ cs, CellOk n v) {reps : List Nat} (hp : ∀ x ∈ reps, Pc (gC cs) cs.length x) (hw : reps.Pairwise fun a b => ¬ Sm (gC cs) b a) (l : LiveV cs t) (h : MvV many signs s t) : oweV cs reps s ≤ oweV cs reps t + 1 := by
  obtain ⟨to, v, hto, hv, rfl⟩ := h
  by_cases hne : s[to]? = some v
  · rw [show s.set to v = s from List.ext_getElem? fun k => by
      by_cases e : to = k
      · subst e; rw [List.getElem?_set_self hto, hne]
      · rw [List.getElem?_set_ne e]]
    exact Nat.le_add_right ..
  have A : ∀ x ∈ reps, TgtV cs s x → ¬ Sm (gC cs) x to := fun x hx hT hS => by
    obtain ⟨q, hq, _⟩ := cy_pred (pc_cy ((hp x hx).to hS))
    obtain ⟨k, hk⟩ := l q to ((gC_some hc).mp hq).1
    by_cases e : to = k
    · subst e
      rw [List.getElem?_set_self hto] at hk
      exact hne (by rw [hk]; exact (hT to hS to).mpr rfl)
    · rw [List.getElem?_set_ne e] at hk
      exact e ((hT to hS k).mp hk).symm
  have B : ∀ x ∈ reps, TgtV cs s x → ¬ TgtV cs (s.set to v) x → ∃ y : Nat, Sm (gC cs) x y ∧ v = .int (y : Nat) := fun x hx hT hN => by
    refine Classical.byContradiction fun no => hN fun y hy k => ?_
    have hty : to ≠ y := fun e => A x hx hT (e ▸ hy)
    by_cases e : to = k
    · subst e
      rw [List.getElem?_set_self hto]
      exact ⟨fun z => absurd ⟨y, hy, Option.some.inj z⟩ no, fun z => absurd z hty⟩
    · rw [List.getElem?_set_ne e]
      exact hT y hy k
  have dP : ∀ {P : Prop} {d : Decidable P}, @decide P d = true ↔ P := fun {P d} => @decide_eq_true_iff P d
  have dF : ∀ {P : Prop} {d : Decidable P}, @decide P d = false ↔ ¬ P := fun {P d} => @decide_eq_false_iff_not P d
  have T1 : tgN cs s reps ≤ tgN cs (s.set to v) reps + 1 := filt_one (pw_nd hw) fun a ha b hb h1 h2 h3 h4 => by
    obtain ⟨y1, s1, e1⟩ := B a ha (dP.mp h1) (dF.mp h2)
    obtain ⟨y2, s2, e2⟩ := B b hb (dP.mp h3) (dF.mp h4)
    obtain rfl : y1 = y2 := by
      rw [e1] at e2
      have := V.int.inj e2
      omega
    exact pw_eq hp hw ha hb (s1.trans ((hp b hb).back s2))
  by_cases hD : to < cs.length ∧ cs[to]? = some v
  · have W : wrgV cs s ≤ wrgV cs (s.set to v) + 1 := filt_one List.nodup_range fun a ha b hb h1 h2 h3 h4 => by
      have key : ∀ x, (!decide (s[x]? = cs[x]?)) = true → (!decide ((s.set to v)[x]? = cs[x]?)) = false → x = to := fun x g1 g2 => by
        refine Classical.byContradiction fun z => ?_
        rw [List.getElem?_set_ne (fun e => z e.symm), g1] at g2
        cases g2
      rw [key a h1 h2, key b h3 h4]
    have T0 : tgN cs s reps ≤ tgN cs (s.set to v) reps := filt_sub fun x hx h1 => by
      refine dP.mpr (Classical.byContradiction fun hN => ?_)
      have hT := dP.mp h1
      obtain ⟨y, hy, rfl⟩ := B x hx hT hN
      have hyt : y ≠ to := fun e => A x hx hT (e ▸ hy)
      have hg : gC cs to = some y := (gC_some hc).mpr ⟨hD.2, hyt⟩
      have hpy := (hp x hx).to hy
      exact A x hx hT (hy.trans (Pc.pred (fun q p h => (gC_lt hc h).1) hpy hg).1)
    unfold oweV
    omega
  · have W : wrgV cs s ≤ wrgV cs (s.set to v) := filt_sub fun x hx h1 => by
      by_cases e : to = x
      · subst e
        rw [List.getElem?_set_self hto]
        have : ¬ (some v = cs[to]?) := fun z => hD ⟨List.mem_range.mp hx, z.symm⟩
        rw [decide_eq_false this]
        rfl
      · rw [List.getElem?_set_ne e]
        exact h1
    unfold oweV
    omega
theorem owe_path (hs : ∀ v ∈ signs, ∃ z, v = .str z) (hc : ∀ v ∈ cs, CellOk n v) {reps : List Nat} (hp : ∀ x ∈ reps, Pc (gC cs) cs.length x) (hw : reps.Pairwise fun a b => ¬ Sm (gC cs) b a) {k : Nat} (h : PathV many signs s0 k s) : LiveV cs s → oweV cs reps s0 ≤ oweV cs reps s + k := by
  induction h with
  | nil => exact fun _ => Nat.le_refl _
  | snoc h m ih =>
    intro l
    have := ih (live_back hs m l)
    have := owe_step hc hp hw l m
    omega
/-- where it begins -/
def s0V (n len extra : Nat) : List V := (List.range n).map (fun (k : Nat) => V.int (k : Nat)) ++ List.replicate (len - n) V.non ++ List.replicate extra V.non
theorem s0_get {len extra k : Nat} : (k < n → (s0V n len extra)[k]? = some (.int (k : Nat))) ∧ (n ≤ k → k < n + (len - n) + extra → (s0V n len extra)[k]? = some .non) := by
  constructor
  · intro h
    unfold s0V
    rw [List.append_assoc, List.getElem?_append_left (by rw [List.length_map, List.length_range]; exact h), List.getElem?_map, List.getElem?_range h]
    rfl
  · intro h1 h2
    unfold s0V
    rw [List.append_assoc, List.getElem?_append_right (by rw [List.length_map, List.length_range]; exact h1), List.replicate_append_replicate, List.getElem?_replicate, List.length_map, List.length_range, if_pos (by omega)]
theorem s0_len {len extra : Nat} : (s0V n len extra).length = n + (len - n) + extra := by
  unfold s0V
  rw [List.length_append, List.length_append, List.length_map, List.length_range, List.length_replicate, List.length_replicate]
theorem s0_int {len extra k y : Nat} (h : (s0V n len extra)[k]? = some (.int (y : Nat))) : k < n ∧ y = k := by
  by_cases hk : k < n
  · rw [s0_get.1 hk] at h
    have := V.int.inj (Option.some.inj h)
    exact ⟨hk, by omega⟩
  · have hl := (List.getElem?_eq_some_iff.mp h).1
    rw [s0_len] at hl
    rw [s0_get.2 (by omega) hl] at h
    cases h
theorem owe_start (hc : ∀ v ∈ cs, CellOk n v) {extra : Nat} {reps : List Nat} (hp : ∀ x ∈ reps, Pc (gC cs) cs.length x) : oweV cs reps (s0V n cs.length extra) = (chL cs).length + reps.length := by
  unfold oweV wrgV tgN chL
  congr 1
  · congr 1
    refine List.filter_congr fun q hq => ?_
    have hq := List.mem_range.mp hq
    unfold chgC
    congr 1
    rw [Bool.eq_iff_iff, decide_eq_true_eq, decide_eq_true_eq]
    by_cases h : q < n
    · rw [s0_get.1 h]
      exact eq_comm
    · rw [s0_get.2 (by omega) (by omega)]
      constructor
      · intro e
        rcases hc _ (List.mem_of_getElem? e.symm) with ⟨i, hi, _⟩ | ⟨c, hi, _⟩ <;> cases hi
      · intro e
        rcases hc _ (List.mem_of_getElem? e) with ⟨i, hi, hin⟩ | ⟨c, hi, _⟩
        · have := V.int.inj hi
          omega
        · cases hi
  · congr 1
    refine List.filter_eq_self.mpr fun x hx => (@decide_eq_true_iff _ (Classical.propDecidable _)).mpr fun y hy k => ?_
    obtain ⟨q, hq, _⟩ := cy_pred (pc_cy ((hp x hx).to hy))
    constructor
    · exact fun h => (s0_int h).2.symm
    · rintro rfl
      exact s0_get.1 (gC_lt hc hq).2
theorem owe_goal (hc : ∀ v ∈ cs, CellOk n v) {reps : List Nat} (hp : ∀ x ∈ reps, Pc (gC cs) cs.length x) (h : GoalV cs s) : oweV cs reps s = 0 := by
  unfold oweV wrgV tgN
  rw [Nat.add_eq_zero_iff]
  constructor
  · rw [List.length_eq_zero_iff, List.filter_eq_nil_iff]
    intro q hq
    rw [goal_get h (List.mem_range.mp hq), decide_eq_true rfl]
    decide
  · rw [List.length_eq_zero_iff, List.filter_eq_nil_iff]
    intro x hx hT
    have hT := (@decide_eq_true_iff _ (Classical.propDecidable _)).mp hT
    obtain ⟨k, hk, _⟩ := hp x hx
    obtain ⟨y, hy⟩ := it_some hk 1
    have hy : gC cs x = some y := hy
    have h1 := (hT x (sm_self x) x).mpr rfl
    rw [goal_get h (gC_lt hc hy).1, ((gC_some hc).mp hy).1] at h1
    have := V.int.inj (Option.some.inj h1)
    exact ((gC_some hc).mp hy).2 (by omega)
/-- no way is shorter -/
theorem few_ge (hs : ∀ v ∈ signs, ∃ z, v = .str z) (hc : ∀ v ∈ cs, CellOk n v) {extra k : Nat} (h : PathV many signs (s0V n cs.length extra) k s) (hg : GoalV cs s) : (chL cs).length + purC cs ≤ k := by
  obtain ⟨reps, h1, h2, h3⟩ := cnt_reps (gC cs) cs.length (List.range cs.length) []
  have hp : ∀ x ∈ reps, Pc (gC cs) cs.length x := fun x hx => (h2 x hx).1
  have := owe_path hs hc hp h3 h (live_goal hg)
  rw [owe_start hc hp, owe_goal hc hp hg] at this
  have e : reps.length = purC cs := h1
  omega
/-- refused: no way at all -/
theorem few_no (hs : ∀ v ∈ signs, ∃ z, v = .str z) (hc : ∀ v ∈ cs, CellOk n v) {extra k : Nat} (hb : barC cs n extra) (h : PathV (n + (cs.length - n)) signs (s0V n cs.length extra) k s) : ¬ GoalV cs s := by
  obtain ⟨rfl, hpu, hsp⟩ := hb
  have need : ∀ p, p < n + (cs.length - n) → p < n ∧ ∃ q : Nat, cs[q]? = some (.int (p : Nat)) := fun p hpl => by
    rcases spC_none hsp (p := p) (by omega) with ⟨h1, q, hq⟩ | ⟨h1, h2⟩
    · exact ⟨h1, q, ((gC_some hc).mp hq).1⟩
    · have e : cs[p]? = some (.int (p : Nat)) := by
        refine Classical.byContradiction fun z => h2 (ch_mem.mpr ⟨h1, ?_⟩)
        unfold chgC
        rw [decide_eq_false z]
        rfl
      refine ⟨?_, p, e⟩
      rcases hc _ (List.mem_of_getElem? e) with ⟨i, hi, hin⟩ | ⟨c, hi, _⟩
      · have := V.int.inj hi
        omega
      · cases hi
  have dead : ∀ (j : Nat) (u : List V), PathV (n + (cs.length - n)) signs (s0V n cs.length 0) j u → u = s0V n cs.length 0 ∨ ¬ LiveV cs u := by
    intro j u hu
    induction hu with
    | nil => exact .inl rfl
    | snoc h m ih =>
      rcases ih with rfl | ih
      · obtain ⟨to, v, hto, hv, rfl⟩ := m
        rw [s0_len, Nat.add_zero] at hto
        obtain ⟨h1, q, hq⟩ := need to hto
        by_cases e : v = .int (to : Nat)
        · refine .inl (List.ext_getElem? fun k => ?_)
          by_cases e2 : to = k
          · subst e2
            rw [List.getElem?_set_self (by rw [s0_len]; omega), s0_get.1 h1, e]
          · rw [List.getElem?_set_ne e2]
        · refine .inr fun l => ?_
          obtain ⟨k, hk⟩ := l q to hq
          by_cases e2 : to = k
          · subst e2
            rw [List.getElem?_set_self (by rw [s0_len]; omega)] at hk
            exact e (Option.some.inj hk)
          · rw [List.getElem?_set_ne e2] at hk
            exact e2 (s0_int hk).2
      · exact .inr fun l => ih (live_back hs m l)
  intro hg
  rcases dead k s h with rfl | hd
  · have := few_ge hs hc (PathV.nil (many := 0)) hg
    omega
  · exact hd (live_goal hg)
/-- the plan that is told is such a way -/
theorem path_d1 {xs ss : List V} {r : JR} {st : List V × List V} (hd : D1 xs ss r st) (hl : xs.length = many) (hp : ∀ to z, r = .put to z → V.str z ∈ signs) : MvV many signs (xs ++ ss) (st.1 ++ st.2) ∧ st.1.length = xs.length := by
  cases hd with
  | put k c h1 h2 => exact ⟨⟨k, .str ⟨#[c]⟩, by rw [List.length_append]; omega, .inr ⟨by omega, hp _ _ rfl⟩, (List.set_append_left _ _ h1).symm⟩, List.length_set⟩
  | copy k f v h1 h2 h3 h4 => exact ⟨⟨k, v, by rw [List.length_append]; omega, .inl ⟨f, by rw [List.getElem?_append_left (List.getElem?_eq_some_iff.mp h2).1]; exact h2, h3, .inl (by omega)⟩, (List.set_append_left _ _ h1).symm⟩, List.length_set⟩
  | keep k f v h1 h2 h3 => exact ⟨⟨xs.length + k, v, by rw [List.length_append]; omega, .inl ⟨f, by rw [List.getElem?_append_left (List.getElem?_eq_some_iff.mp h2).1]; exact h2, h3, .inr (by have := (List.getElem?_eq_some_iff.mp h2).1; omega)⟩, by
      rw [List.set_append_right _ _ (Nat.le_add_right ..), Nat.add_sub_cancel_left]⟩, rfl⟩
  | lay k f v h1 h2 h3 => exact ⟨⟨k, v, by rw [List.length_append]; omega, .inl ⟨xs.length + f, by rw [List.getElem?_append_right (Nat.le_add_right ..), Nat.add_sub_cancel_left]; exact h2, h3, .inl (by omega)⟩, (List.set_append_left _ _ h1).symm⟩, List.length_set⟩
theorem path_steps (hl : s0.length = s0.length) : ∀ (js : List JR) {k : Nat} {st0 st : List V × List V}, (∀ r ∈ js, U1 r) → (∀ r ∈ js, ∀ to z, r = .put to z → V.str z ∈ signs) → st0.1.length = many → stepsJ js st0 = some st → PathV many signs s0 k (st0.1 ++ st0.2) → PathV many signs s0 (k + js.length) (st.1 ++ st.2) ∧ st.1.length = many
  | [], k, st0, st, _, _, hm, h, hp => by
    cases h
    exact ⟨hp, hm⟩
  | r :: js, k, st0, st, hu, hz, hm, h, hp => by
    have e : (doneV r st0.1 st0.2).bind (stepsJ js) = some st := h
    cases e2 : doneV r st0.1 st0.2 with
    | none => rw [e2] at e; cases e
    | some s2 =>
      rw [e2] at e
      obtain ⟨m1, m2⟩ := path_d1 (signs := signs) (d1_of (hu r (List.mem_cons_self ..)) e2) hm (hz r (List.mem_cons_self ..))
      have := path_steps hl js (fun x hx => hu x (List.mem_cons_of_mem _ hx)) (fun x hx => hz x (List.mem_cons_of_mem _ hx)) (m2.trans hm) e (hp.snoc m1)
      rw [List.length_cons, show k + (js.length + 1) = k + 1 + js.length by omega]
      exact this
theorem few_le {extra : Nat} {js : List JR} (hs : ∀ z, V.str z ∈ cs → V.str z ∈ signs) (h : SgOk cs n extra js) : ∃ s, PathV (n + (cs.length - n)) signs (s0V n cs.length extra) ((chL cs).length + purC cs) s ∧ GoalV cs s := by
  obtain ⟨st, h1, h2⟩ := h.run
  have h3 := path_steps (s0 := s0V n cs.length extra) (signs := signs) (many := n + (cs.length - n)) rfl js (k := 0) h.u (fun r hr to z e => hs z (by
    have := h.pi r hr
    rw [e] at this
    exact this)) (by
      show ((List.range n).map (fun (k : Nat) => V.int (k : Nat)) ++ List.replicate (cs.length - n) V.non).length = _
      rw [List.length_append, List.length_map, List.length_range, List.length_replicate]) h1 .nil
  rw [Nat.zero_add, h.len] at h3
  refine ⟨_, h3.1, ?_⟩
  unfold GoalV
  rw [List.take_append_of_le_length (by rw [h3.2]; omega)]
  exact h2
/-! ### the trying: layer behind layer -/
def BdV (A : List V) (L : Nat) (s : List V) : Prop := s.length = L ∧ ∀ v ∈ s, v ∈ A
def allL (A : List V) : Nat → List (List V)
  | 0 => [[]]
  | L + 1 => (allL A L).flatMap fun s => A.map fun v => v :: s
theorem all_mem {A : List V} : ∀ {L : Nat} {s : List V}, BdV A L s → s ∈ allL A L
  | 0, s, h => by
    rw [List.length_eq_zero_iff.mp h.1]
    exact List.mem_singleton.mpr rfl
  | L + 1, [], h => nomatch h.1
  | L + 1, v :: s, h => List.mem_flatMap.mpr ⟨s, all_mem ⟨Nat.succ.inj h.1, fun x hx => h.2 x (List.mem_cons_of_mem _ hx)⟩, List.mem_map.mpr ⟨v, h.2 v (List.mem_cons_self ..), rfl⟩⟩
theorem flatm_len {α β : Type} {f : α → List β} {m : Nat} (hf : ∀ a, (f a).length = m) : ∀ (l : List α), (l.flatMap f).length = l.length * m
  | [] => by rw [List.flatMap_nil, List.length_nil, List.length_nil, Nat.zero_mul]
  | a :: l => by rw [List.flatMap_cons, List.length_append, hf, flatm_len hf l, List.length_cons, Nat.add_mul, Nat.one_mul, Nat.add_comm]
theorem all_len (A : List V) : ∀ L : Nat, (allL A L).length = A.length ^ L
  | 0 => rfl
  | L + 1 => by
    show ((allL A L).flatMap fun s => A.map fun v => v :: s).length = _
    rw [flatm_len (fun s => List.length_map _), all_len A L, Nat.pow_succ]
theorem nd_subV {α : Type} [DecidableEq α] : ∀ {a b : List α}, a.Nodup → (∀ x ∈ a, x ∈ b) → a.length ≤ b.length
  | [], _, _, _ => Nat.zero_le _
  | x :: a, b, hn, h => by
    have hx := h x (List.mem_cons_self ..)
    have h1 := nd_subV (a := a) (b := b.erase x) (List.nodup_cons.mp hn).2 fun y hy => (List.mem_erase_of_ne fun (e : y = x) => (List.nodup_cons.mp hn).1 (e ▸ hy)).mpr (h y (List.mem_cons_of_mem _ hy))
    rw [List.length_erase_of_mem hx] at h1
    have := List.length_pos_of_mem hx
    rw [List.length_cons]
    omega
theorem bd_le {A : List V} {L : Nat} {seen : List (List V)} (hn : seen.Nodup) (h : ∀ s ∈ seen, BdV A L s) : seen.length ≤ A.length ^ L := by
  rw [← all_len]
  exact nd_subV hn fun s hs => all_mem (h s hs)
theorem bd_mv {A : List V} {L : Nat} (hA : ∀ v ∈ signs, v ∈ A) (h : BdV A L s) (m : MvV many signs s t) : BdV A L t := by
  obtain ⟨to, v, hto, hv, rfl⟩ := m
  refine ⟨by rw [List.length_set]; exact h.1, fun x hx => ?_⟩
  rcases List.mem_or_eq_of_mem_set hx with hx | rfl
  · exact h.2 x hx
  · rcases hv with ⟨k, hk, _⟩ | ⟨_, hv⟩
    · exact h.2 _ (List.mem_of_getElem? hk)
    · exact hA _ hv
/-- behind it: no goal, and all that it leads to has been seen -/
def DoneV (many : Nat) (signs cs : List V) (seen : List (List V)) (s : List V) : Prop := ¬ GoalV cs s ∧ ∀ t, MvV many signs s t → t ∈ seen
/-- bs: what of the layer is left, later: the next layer -/
structure BfI (many : Nat) (signs cs s0 : List V) (A : List V) (L count : Nat) (bs later seen : List (List V)) : Prop where
  p1 : ∀ s ∈ bs, PathV many signs s0 count s
  p2 : ∀ s ∈ later, PathV many signs s0 (count + 1) s
  sn : ∀ s ∈ seen, s ∈ bs ∨ s ∈ later ∨ DoneV many signs cs seen s
  al : ∀ j s, j ≤ count → PathV many signs s0 j s → s ∈ seen
  no : ∀ j s, j < count → PathV many signs s0 j s → ¬ GoalV cs s
  nd : seen.Nodup
  bd : ∀ s ∈ seen, BdV A L s
  wi : ∀ s, s ∈ bs ∨ s ∈ later → s ∈ seen
  la : ∀ j s, j ≤ count → PathV many signs s0 j s → s ∉ later
variable {A : List V} {L count : Nat} {bs later seen : List (List V)}
theorem DoneV.mono {t : List V} (h : DoneV many signs cs seen s) : DoneV many signs cs (seen ++ [t]) s := ⟨h.1, fun u hu => List.mem_append_left _ (h.2 u hu)⟩
theorem bf_start (h : BdV A L s0) : BfI many signs cs s0 A L 0 [s0] [] [s0] := by
  refine ⟨fun s hs => ?_, (fun _ h => nomatch h), fun s hs => .inl hs, fun j s hj hp => ?_, (fun j s hj => absurd hj (Nat.not_lt_zero _)), by simp, fun s hs => ?_, fun s hs => ?_, fun j s _ _ => ?_⟩
  · rw [List.mem_singleton.mp hs]; exact .nil
  · obtain rfl : j = 0 := by omega
    cases hp
    exact List.mem_singleton.mpr rfl
  · rw [List.mem_singleton.mp hs]; exact h
  · exact hs.elim id fun z => nomatch z
  · exact fun z => nomatch z
/-- one more that had not been seen -/
theorem BfI.more (hA : ∀ v ∈ signs, v ∈ A) (I : BfI many signs cs s0 A L count (s :: bs) later seen) (m : MvV many signs s t) (hn : t ∉ seen) : BfI many signs cs s0 A L count (s :: bs) (later ++ [t]) (seen ++ [t]) := by
  refine ⟨I.p1, fun x hx => ?_, fun x hx => ?_, fun j x hj hp => List.mem_append_left _ (I.al j x hj hp), I.no, List.nodup_append.mpr ⟨I.nd, by simp, fun a ha b hb e => hn (by rw [← List.mem_singleton.mp hb, ← e]; exact ha)⟩, fun x hx => ?_, fun x hx => ?_, fun j x hj hp hx => ?_⟩
  · rcases List.mem_append.mp hx with hx | hx
    · exact I.p2 x hx
    · rw [List.mem_singleton.mp hx]
      exact (I.p1 s (List.mem_cons_self ..)).snoc m
  · rcases List.mem_append.mp hx with hx | hx
    · exact (I.sn x hx).imp id (Or.imp (List.mem_append_left _) DoneV.mono)
    · exact .inr (.inl (List.mem_append_right _ hx))
  · rcases List.mem_append.mp hx with hx | hx
    · exact I.bd x hx
    · rw [List.mem_singleton.mp hx]
      exact bd_mv hA (I.bd s (I.wi s (.inl (List.mem_cons_self ..)))) m
  · rcases hx with hx | hx
    · exact List.mem_append_left _ (I.wi x (.inl hx))
    · rcases List.mem_append.mp hx with hx | hx
      · exact List.mem_append_left _ (I.wi x (.inr hx))
      · exact List.mem_append_right _ hx
  · rcases List.mem_append.mp hx with hx | hx
    · exact I.la j x hj hp hx
    · rw [← List.mem_singleton.mp hx] at hn
      exact hn (I.al j x hj hp)
/-- a state of the layer is gone through -/
theorem BfI.past (I : BfI many signs cs s0 A L count (s :: bs) later seen) (hg : ¬ GoalV cs s) (h : ∀ t, MvV many signs s t → t ∈ seen) : BfI many signs cs s0 A L count bs later seen := by
  refine ⟨fun x hx => I.p1 x (List.mem_cons_of_mem _ hx), I.p2, fun x hx => ?_, I.al, I.no, I.nd, I.bd, fun x hx => I.wi x (hx.imp_left (List.mem_cons_of_mem _)), I.la⟩
  rcases I.sn x hx with h1 | h1
  · rcases List.mem_cons.mp h1 with rfl | h1
    · exact .inr (.inr ⟨hg, h⟩)
    · exact .inl h1
  · exact .inr h1
theorem later_past (I : BfI many signs cs s0 A L count [] later seen) {x : List V} (hp : PathV many signs s0 count x) (hl : x ∉ later) : DoneV many signs cs seen x := ((I.sn x (I.al count x (Nat.le_refl _) hp)).resolve_left (fun z => nomatch z)).resolve_left hl
/-- a whole layer is gone through -/
theorem BfI.turn (I : BfI many signs cs s0 A L count [] later seen) : BfI many signs cs s0 A L (count + 1) later [] seen := by
  refine ⟨I.p2, (fun _ h => nomatch h), fun x hx => ?_, fun j x hj hp => ?_, fun j x hj hp => ?_, I.nd, I.bd, fun x hx => I.wi x (hx.elim .inr fun z => nomatch z), fun j x _ _ z => nomatch z⟩
  · rcases I.sn x hx with h | h | h
    · cases h
    · exact .inl h
    · exact .inr (.inr h)
  · by_cases e : j = count + 1
    · subst e
      cases hp with
      | snoc h m => exact (later_past I h (I.la _ _ (Nat.le_refl _) h)).2 x m
    · exact I.al j x (by omega) hp
  · by_cases e : j = count
    · subst e
      exact (later_past I hp (I.la _ _ (Nat.le_refl _) hp)).1
    · exact I.no j x (by omega) hp
theorem bf_path (I : BfI many signs cs s0 A L count [] [] seen) : ∀ {j : Nat} {x : List V}, PathV many signs s0 j x → x ∈ seen := by
  intro j x h
  induction h with
  | nil => exact I.al 0 s0 (Nat.zero_le _) .nil
  | snoc h m ih => exact (((I.sn _ ih).resolve_left (fun z => nomatch z)).resolve_left fun z => nomatch z).2 _ m
/-- nothing more to try -/
theorem BfI.none {extra : Nat} {js : List JR} (hz : ∀ z, V.str z ∈ cs → V.str z ∈ signs) (I : BfI (n + (cs.length - n)) signs cs (s0V n cs.length extra) A L count [] [] seen) : ¬ SgOk cs n extra js := fun h => by
  obtain ⟨s, h1, h2⟩ := few_le hz h
  exact (((I.sn _ (bf_path I h1)).resolve_left (fun z => nomatch z)).resolve_left fun z => nomatch z).1 h2
/-- the new text stands -/
theorem BfI.found {extra : Nat} (hs : ∀ v ∈ signs, ∃ z, v = .str z) (hc : ∀ v ∈ cs, CellOk n v) (hz : ∀ z, V.str z ∈ cs → V.str z ∈ signs) (I : BfI (n + (cs.length - n)) signs cs (s0V n cs.length extra) A L count (s :: bs) later seen) (hg : GoalV cs s) : ¬ barC cs n extra ∧ ∀ js, SgOk cs n extra js → js.length = count := by
  have hp := I.p1 s (List.mem_cons_self ..)
  refine ⟨fun hb => few_no hs hc hb hp hg, fun js h => ?_⟩
  obtain ⟨u, h1, h2⟩ := few_le hz h
  have h3 := few_ge hs hc hp hg
  have h4 : ¬ (chL cs).length + purC cs < count := fun hlt => I.no _ u hlt h1 h2
  have := h.len
  omega
end
end R
namespace R
open PySem PySem.Spec PyProof.Rows L2
/-! ### tuples that are states -/
def StA (K : PySem.W.Frag) (F : Hp) (vs : List V) (us : List (List V)) : Prop := vs.length = us.length ∧ ∀ (i : Nat) (v : V) (u : List V), vs[i]? = some v → us[i]? = some u → ∃ q, v = .ref q ∧ SqT K F q u
theorem StA.same {K : PySem.W.Frag} {F H : Hp} {vs : List V} {us : List (List V)} (s : Same F H) (h : StA K F vs us) : StA K H vs us := ⟨h.1, fun i v u h1 h2 => let ⟨q, e, t⟩ := h.2 i v u h1 h2; ⟨q, e, sqT_same s t⟩⟩
def stA (K : PySem.W.Frag) (vs : List V) (us : List (List V)) : Own := pur (fun F => StA K F vs us) fun s h => h.same s
theorem stA_nil {K : PySem.W.Frag} {F : Hp} : StA K F [] [] := ⟨rfl, fun i v u h => nomatch h⟩
theorem stA_snoc {K : PySem.W.Frag} {F : Hp} {vs : List V} {us : List (List V)} {q : Addr} {u : List V} (h : StA K F vs us) (t : SqT K F q u) : StA K F (vs ++ [.ref q]) (us ++ [u]) := by
  have hvu := h.1
  refine ⟨by rw [List.length_append, List.length_append, h.1]; rfl, fun i v z h1 h2 => ?_⟩
  by_cases hi : i < vs.length
  · rw [List.getElem?_append_left hi] at h1
    rw [List.getElem?_append_left (by rw [← h.1]; exact hi)] at h2
    exact h.2 i v z h1 h2
  · rw [List.getElem?_append_right (by omega)] at h1 h2
    rw [← h.1] at h2
    cases e : i - vs.length with
    | zero =>
      rw [e] at h1 h2
      cases h1
      cases h2
      exact ⟨q, rfl, t⟩
    | succ k => rw [e] at h1; cases h1
def stD (u : List V) : PyData := .tuple (u.map flatD)
theorem stA_dpa {K : PySem.W.Frag} {F : Hp} : ∀ {vs : List V} {us : List (List V)}, StA K F vs us → (∀ u ∈ us, ∀ v ∈ u, FlatV v) → DpAll K F vs (us.map stD)
  | [], [], _, _ => .nil
  | [], _ :: _, h, _ => nomatch h.1
  | _ :: _, [], h, _ => nomatch h.1
  | v :: vs, u :: us, h, hf => by
    obtain ⟨q, rfl, t⟩ := h.2 0 v u rfl rfl
    exact .cons (.tup t (flat_dpa (hf u (List.mem_cons_self ..)))) (stA_dpa (vs := vs) (us := us) ⟨Nat.succ.inj h.1, fun i v u h1 h2 => h.2 (i + 1) v u h1 h2⟩ fun x hx => hf x (List.mem_cons_of_mem _ hx))
theorem st_good {us : List (List V)} (hf : ∀ u ∈ us, ∀ v ∈ u, FlatV v) (hl : us.length ≤ 100000) (hu : ∀ u ∈ us, u.length ≤ 100) : good (.list (us.map stD)) = true ∧ (PyData.list (us.map stD)).depth ≤ 64 := by
  have key : ∀ d ∈ us.map stD, good d = true ∧ d.depth ≤ 1 := fun d hd => by
    obtain ⟨u, hu2, rfl⟩ := List.mem_map.mp hd
    have hg : ∀ d ∈ u.map flatD, good d = true ∧ d.depth ≤ 0 := fun d hd => by
      obtain ⟨v, hv, rfl⟩ := List.mem_map.mp hd
      exact (flat_dp (K := []) (F := fun _ => none) (hf u hu2 v hv)).2
    exact ⟨good_tuple (by rw [List.length_map]; have := hu u hu2; omega) fun d hd => (hg d hd).1, depth_tuple fun d hd => (hg d hd).2⟩
  exact ⟨good_list (by rw [List.length_map]; exact hl) fun d hd => (key d hd).1, Nat.le_trans (depth_list fun d hd => (key d hd).2) (by decide)⟩
theorem n_neSt {K : PySem.W.Frag} {H : Hp} {Q : VK} {p r : Addr} {vs : List V} {us : List (List V)} (h1 : SqL K H p vs) (h2 : SqL K H r []) (d : StA K H vs us) (hf : ∀ u ∈ us, ∀ v ∈ u, FlatV v) (hl : us.length ≤ 100000) (hu : ∀ u ∈ us, u.length ≤ 100) (q : Q (.bl (decide (us ≠ []))) H) : rNeD K (.ref p) (.ref r) H Q := by
  have g := st_good hf hl hu
  refine ⟨_, _, .lst h1 (stA_dpa d hf), .lst h2 .nil, good_shaped g.1 g.2, good_shaped rfl (by decide), ?_⟩
  cases us <;> exact q
theorem flat_eqv {x y : V} (hx : FlatV x) (hy : FlatV y) : PyData.eqv (flatD x) (flatD y) = decide (x = y) := by
  rcases hx with rfl | ⟨i, rfl⟩ | ⟨z, rfl, h1, h2⟩ <;> rcases hy with rfl | ⟨j, rfl⟩ | ⟨c, rfl, h3, h4⟩
  · rfl
  · rfl
  · rfl
  · rfl
  · show (i == j) = _
    by_cases e : i = j
    · subst e; simp
    · rw [decide_eq_false (fun z => e (V.int.inj z))]; simp [e]
  · rfl
  · rfl
  · rfl
  · show (z == c) = _
    by_cases e : z = c
    · subst e; simp
    · rw [decide_eq_false (fun y => e (V.str.inj y))]; simp [e]
theorem flats_eqv : ∀ {xs ys : List V}, (∀ v ∈ xs, FlatV v) → (∀ v ∈ ys, FlatV v) → PyData.eqvAll (xs.map flatD) (ys.map flatD) = decide (xs = ys)
  | [], [], _, _ => by simp [PyData.eqvAll]
  | [], _ :: _, _, _ => by simp [PyData.eqvAll]
  | _ :: _, [], _, _ => by simp [PyData.eqvAll]
  | x :: xs, y :: ys, hx, hy => by
    rw [List.map_cons, List.map_cons, PyData.eqvAll, flats_eqv (fun v h => hx v (List.mem_cons_of_mem _ h)) (fun v h => hy v (List.mem_cons_of_mem _ h)), flat_eqv (hx x (List.mem_cons_self ..)) (hy y (List.mem_cons_self ..))]
    by_cases h : x = y
    · simp [h]
    · simp [h]
theorem n_eqFl {K : PySem.W.Frag} {H : Hp} {Q : VK} {p r : Addr} {xs ys : List V} (h1 : SqL K H p xs) (h2 : SqL K H r ys) (hx : ∀ v ∈ xs, FlatV v) (hy : ∀ v ∈ ys, FlatV v) (lx : xs.length ≤ 1000) (ly : ys.length ≤ 1000) (q : Q (.bl (decide (xs = ys))) H) : rEqD K (.ref p) (.ref r) H Q := by
  have g1 := flat_good hx (by omega)
  have g2 := flat_good hy (by omega)
  refine ⟨_, _, .lst h1 (flat_dpa hx), .lst h2 (flat_dpa hy), good_shaped g1.1 (Nat.le_trans g1.2 (by decide)), good_shaped g2.1 (Nat.le_trans g2.2 (by decide)), ?_⟩
  have e : PyData.eqv (.list (xs.map flatD)) (.list (ys.map flatD)) = decide (xs = ys) := flats_eqv hx hy
  rw [e]
  exact q
/-! ### tuple + tuple, slices of tuples -/
theorem opCatA {X : Cx} {K : PySem.W.Frag} (h : X.K = K := by rfl) : OpR X (binaryOp .Add) (rCatA K) := by subst h; exact op_catA
theorem n_catA {K : PySem.W.Frag} {M : List Addr} {F0 H0 F H : Hp} {L : List Own} {Q : VK} {a b : Addr} {xs ys : List V} (w : W M F0 H0 F H L) (ha : SqT K F a xs) (hb : SqT K F b ys) (hl : xs.length + ys.length ≤ sizeLine)
    (h : ∀ t F2 H2, W M F0 H0 F2 H2 (imT K t (xs ++ ys) :: L) → Q (.ref t) H2) : rCatA K (.ref a) (.ref b) H Q := by
  refine ⟨a, b, xs, ys, rfl, rfl, sqT_same w.fh ha, sqT_same w.fh hb, hl, fun e => ?_, fun _ e => ?_, fun _ _ p np => ?_⟩
  · subst e
    exact h b _ _ (w.push (imT K b ([] ++ ys)) hb)
  · subst e
    exact h a _ _ (w.push (imT K a (xs ++ [])) (by rw [List.append_nil]; exact ha))
  · exact h p _ _ ((w.im (u := .tup (xs ++ ys)) np).push (imT K p (xs ++ ys)) (sqT_of upd_same))
theorem opSlA {X : Cx} {K : PySem.W.Frag} (h : X.K = K := by rfl) : SlR X (rSlA K) := by subst h; exact sl_tupA
theorem n_slA {K : PySem.W.Frag} {M : List Addr} {F0 H0 F H : Hp} {L : List Own} {Q : VK} {p : Addr} {xs : List V} {lo hi : Option Int} (w : W M F0 H0 F H L) (hs : SqT K F p xs) (h : ∀ t F2 H2, W M F0 H0 F2 H2 (imT K t (cutV xs lo hi) :: L) → Q (.ref t) H2) : rSlA K (.ref p) lo hi H Q := by
  refine ⟨p, xs, rfl, sqT_same w.fh hs, fun e => ?_, fun _ l hl => ?_⟩
  · exact h p _ _ (w.push (imT K p (cutV xs lo hi)) (by
      rw [show cutV xs lo hi = xs by
        unfold cutV
        rw [e.1, e.2, List.drop_zero, Nat.sub_zero, List.take_length]]
      exact hs))
  · exact h l _ _ ((w.im (u := .tup (cutV xs lo hi)) hl).push (imT K l (cutV xs lo hi)) (sqT_of upd_same))
theorem n_tupOf34 {K : PySem.W.Frag} {M : List Addr} {F0 H0 F H : Hp} {L : List Own} {Q : VK} {p : Addr} {xs : List V} (w : W M F0 H0 F H L) (hs : SqL K H p xs) (h : ∀ t F2 H2, W M F0 H0 F2 H2 (imT K t xs :: L) → Q (.ref t) H2) : kTup K (.ref p) H Q :=
  .inl ⟨p, xs, rfl, hs, fun q nq => h q _ _ ((w.im (u := .tup xs) nq).push (imT K q xs) (sqT_of upd_same))⟩
theorem n_listOfT34 {K : PySem.W.Frag} {M : List Addr} {F0 H0 F H : Hp} {L : List Own} {Q : VK} {p : Addr} {xs : List V} (w : W M F0 H0 F H L) (hs : SqT K F p xs) (h : ∀ p F2 H2, W M F0 H0 F2 H2 (mu p (.lst xs) :: L) → H0 p = none → Q (.ref p) H2) : rListOf K [.ref p] H Q := ⟨p, xs, rfl, .inr (sqT_same w.fh hs), n_new w h⟩
theorem x_then34 {σ : L2.St} {H : Hp} {Q : VK} {ta : TE} {f : V → Hp → VK → Prop} (q : ta σ H fun x H1 => f x H1 Q) : tThen ta f σ H Q := q
instance {σ : L2.St} {H : Hp} {Q : VK} {ta : TE} {f : V → Hp → VK → Prop} : Step (tThen ta f σ H Q) (ta σ H fun x H1 => f x H1 Q) := ⟨x_then34⟩ -- st
abbrev kyN (xs : List (List V × Addr)) : List (List V) := xs.map (·.1)
theorem set_cut {s : List V} {to : Nat} {v : V} (h : to < s.length) : cutV s none (some (to : Int)) ++ [v] ++ cutV s (some ((to + 1 : Nat) : Int)) none = s.set to v := by
  rw [cut_to, cut_from, List.set_eq_take_append_cons_drop, if_pos h, List.append_assoc]
  rfl
theorem flat_key {v : V} (h : FlatV v) : KeyV v := h.imp id (Or.imp id fun ⟨z, e, _⟩ => ⟨z, e⟩)
/-! ### promises -/
def φlnext34 (K : PySem.W.Frag) : V → V → V → Hp → VK → Prop := fun x y z H Q => ∃ (F : Hp) (t a : Addr) (s signs : List V) (many : Nat), x = .ref t ∧ y = .int (many : Nat) ∧ z = .ref a ∧ Same F H ∧ SqT K F t s ∧ F a = some (.lst signs) ∧ s.length ≤ 10 ∧ signs.length ≤ 10 ∧
  ∀ p vs us F2 H2, H p = none → W [] F H F2 H2 [mu p (.lst vs), stA K vs us] → (∀ u, u ∈ us ↔ MvV many signs s u) → us.length ≤ 200 → Q (.ref p) H2
def φlcells34 (K : PySem.W.Frag) : V → V → V → V → Hp → VK → Prop := fun x y z u H Q => ∃ (F : Hp) (b : Addr) (way n : Nat) (few : Bool), x = .ref b ∧ y = .int (way : Nat) ∧ z = .int (n : Nat) ∧ u = .bl few ∧ St F H [bag K b] ∧ way < 5 ∧ 1 ≤ n ∧ n ≤ 400 ∧
  ∀ t p (m : Nat) cs F2 H2, H p = none → W [b] F H F2 H2 [fx t (.tup [.int (m : Nat), .ref p]), mu p (.lst cs), bag K b] → m ≤ n → cs.length ≤ 400 → (∀ v ∈ cs, CellOk m v) → Q (.ref t) H2
def φlfewest34 (K : PySem.W.Frag) : V → V → V → Hp → VK → Prop := fun x y z H Q => ∃ (F : Hp) (a : Addr) (cs : List V) (n extra : Nat), x = .ref a ∧ y = .int (n : Nat) ∧ z = .int (extra : Nat) ∧ Same F H ∧ SqL K F a cs ∧ (∀ v ∈ cs, CellOk n v) ∧ cs.length ≤ 4 ∧ n ≤ 4 ∧ n + (cs.length - n) + extra ≤ 5 ∧
  (∀ (c : Nat) F2 H2, W [] F H F2 H2 [] → ¬ barC cs n extra → (∀ js, SgOk cs n extra js → js.length = c) → Q (.int (c : Nat)) H2) ∧ (∀ F2 H2, W [] F H F2 H2 [] → (∀ js, ¬ SgOk cs n extra js) → Q .non H2)
end R
namespace Z
open PySem PySem.Spec PyProof.Rows L2 R
def topS (i : Nat) : Stmt := PySem.Challenge.pw_remadehere_k34_whole_fewest_by_trying.main.body.getD i (.Pass ⟨0, 0, 0, 0⟩)
abbrev s_gives : Stmt := topS 19
theorem sc_gives : FnScope ["row", "size"] ["row", "size"] (defScope s_gives) := ⟨rfl, rfl, rfl, by decide +kernel, rfl, by decide +kernel, by decide +kernel⟩
abbrev s_ChangeX_initX : Stmt := inClass (topS 21) 0
theorem sc_ChangeX_initX : FnScope ["self", "size", "rows", "many", "k", "more"] ["self", "size", "rows"] (defScope s_ChangeX_initX) := ⟨rfl, rfl, rfl, by decide +kernel, rfl, by decide +kernel, by decide +kernel⟩
abbrev s_Change_cells : Stmt := inClass (topS 21) 4
theorem sc_Change_cells : FnScope ["self", "found", "row"] ["self"] (defScope s_Change_cells) := ⟨rfl, rfl, rfl, by decide +kernel, rfl, by decide +kernel, by decide +kernel⟩
abbrev s_NoSpareX_initX : Stmt := inClass (topS 4) 0
theorem sc_NoSpareX_initX : FnScope ["self", "need"] ["self", "need"] (defScope s_NoSpareX_initX) := ⟨rfl, rfl, rfl, by decide +kernel, rfl, by decide +kernel, by decide +kernel⟩
abbrev s_gets : Stmt := topS 6
theorem sc_gets : FnScope ["cells", "place"] ["cells", "place"] (defScope s_gets) := ⟨rfl, rfl, rfl, by decide +kernel, rfl, by decide +kernel, by decide +kernel⟩
abbrev s_changing : Stmt := topS 7
theorem sc_changing : FnScope ["cells", "place"] ["cells"] (defScope s_changing) := ⟨rfl, rfl, rfl, by decide +kernel, rfl, by decide +kernel, by decide +kernel⟩
abbrev s_readers : Stmt := topS 8
theorem sc_readers : FnScope ["cells", "size", "found", "place"] ["cells", "size"] (defScope s_readers) := ⟨rfl, rfl, rfl, by decide +kernel, rfl, by decide +kernel, by decide +kernel⟩
abbrev s_all_rings : Stmt := topS 9
theorem sc_all_rings : FnScope ["cells", "seen", "found", "first", "way", "place"] ["cells"] (defScope s_all_rings) := ⟨rfl, rfl, rfl, by decide +kernel, rfl, by decide +kernel, by decide +kernel⟩
abbrev s_is_pure : Stmt := topS 10
theorem sc_is_pure : FnScope ["ring", "reads", "place"] ["ring", "reads"] (defScope s_is_pure) := ⟨rfl, rfl, rfl, by decide +kernel, rfl, by decide +kernel, by decide +kernel⟩
abbrev s_spared_cell : Stmt := topS 11
theorem sc_spared_cell : FnScope ["cells", "reads", "place", "unread"] ["cells", "reads"] (defScope s_spared_cell) := ⟨rfl, rfl, rfl, by decide +kernel, rfl, by decide +kernel, by decide +kernel⟩
abbrev s_round_rows : Stmt := topS 12
theorem sc_round_rows : FnScope ["ring", "k"] ["ring"] (defScope s_round_rows) := ⟨rfl, rfl, rfl, by decide +kernel, rfl, by decide +kernel, by decide +kernel⟩
abbrev s_pure_rows : Stmt := topS 13
theorem sc_pure_rows : FnScope ["pure", "spare", "cell", "rows", "ring"] ["pure", "spare", "cell"] (defScope s_pure_rows) := ⟨rfl, rfl, rfl, by decide +kernel, rfl, by decide +kernel, by decide +kernel⟩
abbrev s_unread_rows : Stmt := topS 14
theorem sc_unread_rows : FnScope ["cells", "reads", "held", "left", "rows", "ready", "place", "what"] ["cells", "reads", "held"] (defScope s_unread_rows) := ⟨rfl, rfl, rfl, by decide +kernel, rfl, by decide +kernel, by decide +kernel⟩
abbrev s_read_rows : Stmt := topS 15
theorem sc_read_rows : FnScope ["ring", "held", "k"] ["ring", "held"] (defScope s_read_rows) := ⟨rfl, rfl, rfl, by decide +kernel, rfl, by decide +kernel, by decide +kernel⟩
abbrev s_single_plan_r : Stmt := topS 16
theorem sc_single_plan_r : FnScope ["change", "spare", "cells", "reads", "rings", "pure", "cell", "held", "rows", "ring"] ["change", "spare"] (defScope s_single_plan_r) := ⟨rfl, rfl, rfl, by decide +kernel, rfl, by decide +kernel, by decide +kernel⟩
abbrev s_law_bag : Stmt := topS 23
theorem sc_law_bag : FnScope ["script", "stir", "cell"] ["script"] (defScope s_law_bag) := ⟨rfl, rfl, rfl, by decide +kernel, rfl, by decide +kernel, by decide +kernel⟩
abbrev s_law_stirred : Stmt := topS 24
theorem sc_law_stirred : FnScope ["bag", "many", "got", "k"] ["bag", "many"] (defScope s_law_stirred) := ⟨rfl, rfl, rfl, by decide +kernel, rfl, by decide +kernel, by decide +kernel⟩
abbrev s_law_draw : Stmt := topS 25
theorem sc_law_draw : FnScope ["bag", "many", "got"] ["bag", "many"] (defScope s_law_draw) := ⟨rfl, rfl, rfl, by decide +kernel, rfl, by decide +kernel, by decide +kernel⟩
abbrev s_law_sign : Stmt := topS 26
theorem sc_law_sign : FnScope ["bag", "few", "some"] ["bag", "few"] (defScope s_law_sign) := ⟨rfl, rfl, rfl, by decide +kernel, rfl, by decide +kernel, by decide +kernel⟩
abbrev s_law_ring_cells : Stmt := topS 27
theorem sc_law_ring_cells : FnScope ["bag", "n", "long", "left", "cells", "many", "ring", "k"] ["bag", "n"] (defScope s_law_ring_cells) := ⟨rfl, rfl, rfl, by decide +kernel, rfl, by decide +kernel, by decide +kernel⟩
abbrev s_law_cell : Stmt := topS 28
theorem sc_law_cell : FnScope ["bag", "size", "few"] ["bag", "size", "few"] (defScope s_law_cell) := ⟨rfl, rfl, rfl, by decide +kernel, rfl, by decide +kernel, by decide +kernel⟩
abbrev s_law_cells : Stmt := topS 29
theorem sc_law_cells : FnScope ["bag", "way", "n", "few", "size", "more", "cells", "k"] ["bag", "way", "n", "few"] (defScope s_law_cells) := ⟨rfl, rfl, rfl, by decide +kernel, rfl, by decide +kernel, by decide +kernel⟩
abbrev s_law_rows : Stmt := topS 30
theorem sc_law_rows : FnScope ["bag", "cells", "parted", "rows", "cell", "last"] ["bag", "cells"] (defScope s_law_rows) := ⟨rfl, rfl, rfl, by decide +kernel, rfl, by decide +kernel, by decide +kernel⟩
abbrev s_law_whole : Stmt := topS 31
theorem sc_law_whole : FnScope ["got"] ["got"] (defScope s_law_whole) := ⟨rfl, rfl, rfl, by decide +kernel, rfl, by decide +kernel, by decide +kernel⟩
abbrev s_law_row_done : Stmt := topS 32
theorem sc_law_row_done : FnScope ["room", "slots", "row", "target", "source"] ["room", "slots", "row"] (defScope s_law_row_done) := ⟨rfl, rfl, rfl, by decide +kernel, rfl, by decide +kernel, by decide +kernel⟩
abbrev s_law_walked : Stmt := topS 33
theorem sc_law_walked : FnScope ["cells", "size", "plan", "extra", "room", "slots", "row"] ["cells", "size", "plan", "extra"] (defScope s_law_walked) := ⟨rfl, rfl, rfl, by decide +kernel, rfl, by decide +kernel, by decide +kernel⟩
abbrev s_law_asked : Stmt := topS 34
theorem sc_law_asked : FnScope ["item", "extra", "way", "told", "e"] ["item", "extra", "way"] (defScope s_law_asked) := ⟨rfl, rfl, rfl, by decide +kernel, rfl, by decide +kernel, by decide +kernel⟩
abbrev s_law_next : Stmt := topS 35
theorem sc_law_next : FnScope ["state", "many", "signs", "got", "to", "some", "mark", "at"] ["state", "many", "signs"] (defScope s_law_next) := ⟨rfl, rfl, rfl, by decide +kernel, rfl, by decide +kernel, by decide +kernel⟩
abbrev s_law_fewest : Stmt := topS 36
theorem sc_law_fewest : FnScope ["cells", "size", "extra", "many", "signs", "layer", "seen", "count", "later", "state", "other", "cell"] ["cells", "size", "extra"] (defScope s_law_fewest) := ⟨rfl, rfl, rfl, by decide +kernel, rfl, by decide +kernel, by decide +kernel⟩
abbrev s_law : Stmt := topS 37
theorem sc_law : FnScope ["script", "bag", "way", "how", "n", "extra", "size", "cells", "told", "fewest", "cell"] ["script"] (defScope s_law) := ⟨rfl, rfl, rfl, by decide +kernel, rfl, by decide +kernel, by decide +kernel⟩
structure Txt (K : PySem.W.Frag) (mg : Str → Option Value) : Prop where
  b_LookupError : mg "LookupError" = none
  b_abs : mg "abs" = none
  b_all : mg "all" = none
  b_bool : mg "bool" = none
  b_int : mg "int" = none
  b_isinstance : mg "isinstance" = none
  b_len : mg "len" = none
  b_list : mg "list" = none
  b_max : mg "max" = none
  b_min : mg "min" = none
  b_range : mg "range" = none
  b_set : mg "set" = none
  b_sorted : mg "sorted" = none
  b_str : mg "str" = none
  b_tuple : mg "tuple" = none
  c_MOST : ∃ t, mg "MOST" = some (.int 400 t)
  k_Change : Cls K (He.ga K "Change")
  na_Change_size : NoAttr K (He.ga K "Change") "size"
  na_Change_rows : NoAttr K (He.ga K "Change") "rows"
  x_NoSpare : XF K mg "LookupError" "LookupError.__new__" "LookupError.__init__" leTail "NoSpare" "need"
def d_gives : He.DefD := ⟨("gives", none), "gives", "gives", defArgs s_gives, defBody s_gives, defScope s_gives, [], []⟩
def d_ChangeX_initX : He.DefD := ⟨("Change", some "__init__"), "__init__", "Change.__init__", defArgs s_ChangeX_initX, defBody s_ChangeX_initX, defScope s_ChangeX_initX, [], []⟩
def d_Change_cells : He.DefD := ⟨("Change", some "cells"), "cells", "Change.cells", defArgs s_Change_cells, defBody s_Change_cells, defScope s_Change_cells, [], []⟩
def d_NoSpareX_initX : He.DefD := ⟨("NoSpare", some "__init__"), "__init__", "NoSpare.__init__", defArgs s_NoSpareX_initX, defBody s_NoSpareX_initX, defScope s_NoSpareX_initX, [], []⟩
def d_gets : He.DefD := ⟨("gets", none), "gets", "gets", defArgs s_gets, defBody s_gets, defScope s_gets, [], []⟩
def d_changing : He.DefD := ⟨("changing", none), "changing", "changing", defArgs s_changing, defBody s_changing, defScope s_changing, [], []⟩
def d_readers : He.DefD := ⟨("readers", none), "readers", "readers", defArgs s_readers, defBody s_readers, defScope s_readers, [], []⟩
def d_all_rings : He.DefD := ⟨("all_rings", none), "all_rings", "all_rings", defArgs s_all_rings, defBody s_all_rings, defScope s_all_rings, [], []⟩
def d_is_pure : He.DefD := ⟨("is_pure", none), "is_pure", "is_pure", defArgs s_is_pure, defBody s_is_pure, defScope s_is_pure, [], []⟩
def d_spared_cell : He.DefD := ⟨("spared_cell", none), "spared_cell", "spared_cell", defArgs s_spared_cell, defBody s_spared_cell, defScope s_spared_cell, [], []⟩
def d_round_rows : He.DefD := ⟨("round_rows", none), "round_rows", "round_rows", defArgs s_round_rows, defBody s_round_rows, defScope s_round_rows, [], []⟩
def d_pure_rows : He.DefD := ⟨("pure_rows", none), "pure_rows", "pure_rows", defArgs s_pure_rows, defBody s_pure_rows, defScope s_pure_rows, [], []⟩
def d_unread_rows : He.DefD := ⟨("unread_rows", none), "unread_rows", "unread_rows", defArgs s_unread_rows, defBody s_unread_rows, defScope s_unread_rows, [], []⟩
def d_read_rows : He.DefD := ⟨("read_rows", none), "read_rows", "read_rows", defArgs s_read_rows, defBody s_read_rows, defScope s_read_rows, [], []⟩
def d_single_plan_r : He.DefD := ⟨("single_plan", none), "single_plan", "single_plan", defArgs s_single_plan_r, defBody s_single_plan_r, defScope s_single_plan_r, [.int 0], []⟩
def d_law_bag : He.DefD := ⟨("_law_bag", none), "_law_bag", "_law_bag", defArgs s_law_bag, defBody s_law_bag, defScope s_law_bag, [], []⟩
def d_law_stirred : He.DefD := ⟨("_law_stirred", none), "_law_stirred", "_law_stirred", defArgs s_law_stirred, defBody s_law_stirred, defScope s_law_stirred, [], []⟩
def d_law_draw : He.DefD := ⟨("_law_draw", none), "_law_draw", "_law_draw", defArgs s_law_draw, defBody s_law_draw, defScope s_law_draw, [], []⟩
def d_law_sign : He.DefD := ⟨("_law_sign", none), "_law_sign", "_law_sign", defArgs s_law_sign, defBody s_law_sign, defScope s_law_sign, [], []⟩
def d_law_ring_cells : He.DefD := ⟨("_law_ring_cells", none), "_law_ring_cells", "_law_ring_cells", defArgs s_law_ring_cells, defBody s_law_ring_cells, defScope s_law_ring_cells, [], []⟩
def d_law_cell : He.DefD := ⟨("_law_cell", none), "_law_cell", "_law_cell", defArgs s_law_cell, defBody s_law_cell, defScope s_law_cell, [], []⟩
def d_law_cells : He.DefD := ⟨("_law_cells", none), "_law_cells", "_law_cells", defArgs s_law_cells, defBody s_law_cells, defScope s_law_cells, [], []⟩
def d_law_rows : He.DefD := ⟨("_law_rows", none), "_law_rows", "_law_rows", defArgs s_law_rows, defBody s_law_rows, defScope s_law_rows, [], []⟩
def d_law_whole : He.DefD := ⟨("_law_whole", none), "_law_whole", "_law_whole", defArgs s_law_whole, defBody s_law_whole, defScope s_law_whole, [], []⟩
def d_law_row_done : He.DefD := ⟨("_law_row_done", none), "_law_row_done", "_law_row_done", defArgs s_law_row_done, defBody s_law_row_done, defScope s_law_row_done, [], []⟩
def d_law_walked : He.DefD := ⟨("_law_walked", none), "_law_walked", "_law_walked", defArgs s_law_walked, defBody s_law_walked, defScope s_law_walked, [], []⟩
def d_law_asked : He.DefD := ⟨("_law_asked", none), "_law_asked", "_law_asked", defArgs s_law_asked, defBody s_law_asked, defScope s_law_asked, [], []⟩
def d_law_next : He.DefD := ⟨("_law_next", none), "_law_next", "_law_next", defArgs s_law_next, defBody s_law_next, defScope s_law_next, [], []⟩
def d_law_fewest : He.DefD := ⟨("_law_fewest", none), "_law_fewest", "_law_fewest", defArgs s_law_fewest, defBody s_law_fewest, defScope s_law_fewest, [], []⟩
def d_law : He.DefD := ⟨("law", none), "law", "law", defArgs s_law, defBody s_law, defScope s_law, [], []⟩
def fn : List He.DefD := [d_gives, d_ChangeX_initX, d_Change_cells, d_NoSpareX_initX, d_gets, d_changing, d_readers, d_all_rings, d_is_pure, d_spared_cell, d_round_rows, d_pure_rows, d_unread_rows, d_read_rows, d_single_plan_r, d_law_bag, d_law_stirred, d_law_draw, d_law_sign, d_law_ring_cells, d_law_cell, d_law_cells, d_law_rows, d_law_whole, d_law_row_done, d_law_walked, d_law_asked, d_law_next, d_law_fewest, d_law]
def fa : List He.Fa := [.free "LookupError", .free "abs", .free "all", .free "bool", .free "int", .free "isinstance", .free "len", .free "list", .free "max", .free "min", .free "range", .free "set", .free "sorted", .free "str", .free "tuple", .int "MOST" 400, .glo "gives", .glo "gets", .glo "changing", .glo "readers", .glo "all_rings", .glo "is_pure", .glo "spared_cell", .glo "round_rows", .glo "pure_rows", .glo "unread_rows", .glo "read_rows", .glo "single_plan", .glo "_law_bag", .glo "_law_stirred", .glo "_law_draw", .glo "_law_sign", .glo "_law_ring_cells", .glo "_law_cell", .glo "_law_cells", .glo "_law_rows", .glo "_law_whole", .glo "_law_row_done", .glo "_law_walked", .glo "_law_asked", .glo "_law_next", .glo "_law_fewest", .glo "law", .glo "Change", .cls "Change", .mkr "Change", .noat "Change" "size", .noat "Change" "rows", .meth "Change" "cells", .glo "NoSpare"]
abbrev RR : PySem.W.OpenRow := PySem.W.OpenLaw.row PySem.Challenge.rw_remadehere_k34_whole_fewest_by_trying
def exB (K : PySem.W.Frag) : Bool := (xfB K "LookupError" "LookupError.__new__" "LookupError.__init__" leTail "NoSpare" "need" && true)
abbrev hk : PySem.W.Hook := hookE 4 fa fn exB
def ob (s : PySem.W.SharedT) : He.AlD × Bool := obsEG 4 fa fn exB (HandSHeadRun.getT s)
theorem ob_eq (s : PySem.W.SharedT) : ob s = hk.obs s.abs := obsEG_eq (HandSHeadRun.getT_eq s)
theorem run (w : World) : HandSHeadRun.RunEq RR (PySem.W.view RR.prog [37]) hk ob 3000 ("_wall" :: "BadRow" :: "BadSize" :: "NoSpare" :: "gets" :: "changing" :: "readers" :: "all_rings" :: "is_pure" :: "spared_cell" :: "round_rows" :: "pure_rows" :: "unread_rows" :: "read_rows" :: "single_plan" :: "MOST" :: "gives" :: "row_text" :: "Change" :: "_law_bag" :: "_law_stirred" :: "_law_draw" :: "_law_sign" :: "_law_ring_cells" :: "_law_cell" :: "_law_cells" :: "_law_rows" :: "_law_whole" :: "_law_row_done" :: "_law_walked" :: "_law_asked" :: "_law_next" :: "_law_fewest" :: []) w := by
  intro os
  kernel_rfl
def FactsP : Prop := ∀ (P : Program) (w : World) (K : PySem.W.Frag) (mg : Str → Option Value) (h : Heap) (f : Addr), K.In h → h.Ns mainGlobals mg → mg ("law" : Str) = some (.ref f) → He.SaysD fa fn K → exB K = true → ∃ fd : FuncData, (∀ (s : Shared) (v : Value), BindsTo s fd ⟨[v], []⟩ [("script", v)]) ∧ ∀ base : Heap, K.In base → base.Ns mainGlobals mg → FnOk P w K mg base CX0 14 f fd ["script"] (S1 (φlaw K))
end Z
section
open PySem PySem.W PySem.Calls PyProof.Rows
theorem Z.close (HF : Z.FactsP) : PySem.Challenge.rw_remadehere_k34_whole_fewest_by_trying.Holds := by
  w_on; o_law
  refine HandSHeadRun.head_any (r := OpenLaw.row PySem.Challenge.rw_remadehere_k34_whole_fewest_by_trying) (q := view (OpenLaw.row PySem.Challenge.rw_remadehere_k34_whole_fewest_by_trying).prog [37]) (H := Z.hk) (ob := Z.ob) (M := 3000) (loose := ("_wall" :: "BadRow" :: "BadSize" :: "NoSpare" :: "gets" :: "changing" :: "readers" :: "all_rings" :: "is_pure" :: "spared_cell" :: "round_rows" :: "pure_rows" :: "unread_rows" :: "read_rows" :: "single_plan" :: "MOST" :: "gives" :: "row_text" :: "Change" :: "_law_bag" :: "_law_stirred" :: "_law_draw" :: "_law_sign" :: "_law_ring_cells" :: "_law_cell" :: "_law_cells" :: "_law_rows" :: "_law_whole" :: "_law_row_done" :: "_law_walked" :: "_law_asked" :: "_law_next" :: "_law_fewest" :: [])) (d := HandSHeadRun.topDef (OpenLaw.row PySem.Challenge.rw_remadehere_k34_whole_fewest_by_trying).prog 37) (kwd := []) Z.ob_eq
    (by kernel_rfl) (fun s => by kernel_rfl) Z.run (by kernel_rfl) (by kernel_rfl) (by kernel_rfl) (by rfl) (by first | assumption | decide +kernel) (by decide +kernel) ⟨rfl, rfl, rfl, rfl, rfl, by decide +kernel⟩ ?hw ?hc
  case hw => w_witness2
  case hc =>
    refine L2.walk_ofE (l := PySem.Challenge.rw_remadehere_k34_whole_fewest_by_trying) (n := 63) (k := 14) (x := "script") (CX := L2.CX0) rfl (by decide) (by kernel_rfl) ⟨rfl, by decide, by decide⟩ ?F (fun _ _ _ _ z => z)
    intro w mg fa h Y G hmg0
    obtain ⟨K, KX, c, ex⟩ := Y
    have hmg : mg ("law" : PySem.Str) = some (.ref fa) := by
      have e : (HandSHeadRun.topDef (OpenLaw.row PySem.Challenge.rw_remadehere_k34_whole_fewest_by_trying).prog 37).name = ("law" : PySem.Str) := by kernel_rfl
      rw [← e]
      exact hmg0
    obtain ⟨fd, hb, hF⟩ := HF _ w K mg _ fa KX G hmg c ex
    exact ⟨K, fd, (R.S1 (R.φlaw K)), KX, hb, fun H a ns hl hO hS => R.law_start a ns hl hO hS, hF⟩
end
namespace Z
open PySem PySem.Spec PyProof.Rows L2 R
local macro_rules | `(tactic| walk_at "osq") => `(tactic| first
  | assumption
  | exact sqL_of upd_same
  | exact sqL_of (by assumption)
  | exact sqL_same (by assumption) (by assumption)
  | exact Mu.sq (by assumption)
  | exact sqL_same (Gr.ws (by assumption)) (by assumption)
  | exact sqL_same (Gr.fh (by assumption)) (by assumption))
local macro_rules | `(tactic| walk_at "ost") => `(tactic| first
  | assumption
  | exact sqT_of upd_same
  | exact sqT_of (by assumption)
  | exact sqT_same (by assumption) (by assumption)
  | exact sqT_same (Gr.ws (by assumption)) (by assumption)
  | exact sqT_same (Gr.fh (by assumption)) (by assumption))
local macro_rules | `(tactic| walk_at "owp") => `(tactic| dsimp only [wipe, List.map, List.set_cons_succ, List.set_cons_zero])
local macro_rules | `(tactic| walk_at "s1") => `(tactic| first
  | ((with_reducible refine w_mul ?c ?_); (case c => first | exact .inl ⟨by omega, by omega⟩ | exact .inr ⟨by omega, by omega⟩))
  | ((with_reducible refine w_mod ?c ?_); (case c => first | omega | decide))
  | ((with_reducible refine w_fdiv ?c ?_); (case c => exact divw_ok (by omega) (by omega)))
  | ((with_reducible refine w_pow ?c ?_); (case c => exact ⟨by omega, by omega, by omega⟩)))
local macro_rules | `(tactic| walk_at "os2") => `(tactic| first
  | ((with_reducible apply w_ixL _ _ ?c ?d); (case c => walk_at "osq"); (case d => rfl))
  | ((with_reducible apply w_lenQ _ ?c); (case c => walk_at "osq"))
  | ((with_reducible apply w_ixT _ _ ?c ?d); (case c => walk_at "ost"); (case d => rfl))
  | ((with_reducible apply w_lenS ?c); (case c => first | assumption | exact szle (by omega)))
  | ((with_reducible apply w_lenQT _ ?c); (case c => walk_at "ost"))
  | ((with_reducible apply w_tyL _ ?c); (case c => walk_at "osq")))
local macro_rules | `(tactic| walk_at "os3") => `(tactic| first
  | ((with_reducible apply w_b1 _ _ _ _ _ ?c); (case c => first | exact upd_same | assumption))
  | ((with_reducible apply w_b2 _ _ _ _ _ ?c); (case c => first | exact upd_same | assumption))
  | ((with_reducible apply w_b3 _ _ _ _ _ ?c); (case c => first | exact upd_same | assumption))
  | ((with_reducible apply w_b4 _ _ _ _ _ ?c); (case c => first | exact upd_same | assumption))
  | ((with_reducible apply w_setL _ _ ?c ?d); (case c => first | exact upd_same | assumption); (case d => rfl))
  | ((with_reducible apply w_app _ ?c ?d); (case c => first | exact upd_same | assumption | exact Mu.h (by assumption)); (case d => first | exact small_lt (by omega) | assumption))
  | ((with_reducible apply w_slL _ ?c); (case c => walk_at "osq"))
  | ((with_reducible apply w_listOf _ ?c); (case c => walk_at "osq")))
local macro_rules | `(tactic| walk_at "s6") => `(tactic| first
  | ((with_reducible refine w_iteF ?c ?_); (case c => decide +kernel))
  | ((with_reducible refine w_iteT ?c ?_); (case c => decide +kernel)))
local macro_rules | `(tactic| walk_at "og1") => `(tactic| first
  | refine goOS ?_
  | refine goOO ?_
  | ((refine sideI 2 ?_); walk_at "os2")
  | ((refine sideI 1 ?_); walk_at "s1")
  | ((refine sideI 3 ?_); walk_at "os3")
  | ((refine sideI 5 ?_); (with_reducible apply w_tgt _ ?c ?d); (case c => walk_at "ost"); (case d => rfl))
  | ((refine sideI 6 ?_); walk_at "s6"))
local macro_rules | `(tactic| walk_at "og") => `(tactic| repeat walk_at "og1")
local macro_rules | `(tactic| walk_at "memr") => `(tactic| first | with_reducible exact List.mem_cons_self .. | ((with_reducible refine List.mem_cons_of_mem _ ?_); walk_at "memr"))
local macro_rules | `(tactic| walk_at "memd") => `(tactic| first | exact List.mem_cons_self .. | ((with_reducible refine List.mem_cons_of_mem _ ?_); walk_at "memd"))
local macro_rules | `(tactic| walk_at "mem") => `(tactic| first | walk_at "memr" | walk_at "memd")
local macro_rules | `(tactic| walk_at "rm") => `(tactic| first | with_reducible exact Rm.here | ((with_reducible apply Rm.there); walk_at "rm"))
local macro_rules | `(tactic| walk_at "rmd") => `(tactic| first | exact Rm.here | ((with_reducible apply Rm.there); walk_at "rmd"))
local macro_rules | `(tactic| walk_at "pick") => `(tactic| first | with_reducible exact Pick.nil | ((with_reducible apply Pick.cons); (first | walk_at "rm" | walk_at "rmd"); walk_at "pick"))
local macro_rules | `(tactic| walk_at "pk") => `(tactic| exact ⟨_, by walk_at "pick"⟩)
local macro_rules | `(tactic| walk_at "app") => `(tactic| first | with_reducible exact App.nil | ((with_reducible apply App.cons); walk_at "app"))
local macro_rules | `(tactic| walk_at "w") => `(tactic| first | assumption | exact W.to (by assumption) (by walk_at "pick"))
local macro_rules | `(tactic| walk_at "lb") => `(tactic| first | assumption | omega | exact szle (by simp) | exact szle (by omega) | exact szle (by simp; omega) | exact small_lt (by omega) | exact small_lt (by simp; omega))
local macro_rules | `(tactic| walk_at "sq") => `(tactic| first
  | assumption
  | exact W.sqM (by assumption) (by walk_at "mem")
  | exact W.sqF (by assumption) (by walk_at "mem")
  | exact W.sqI (by assumption) (by walk_at "mem")
  | exact W.sq0 (by assumption) (by assumption))
local macro_rules | `(tactic| walk_at "st") => `(tactic| first
  | assumption
  | exact W.stF (by assumption) (by walk_at "mem")
  | exact W.stI (by assumption) (by walk_at "mem")
  | exact W.st0 (by assumption) (by assumption))
local macro_rules | `(tactic| walk_at "at") => `(tactic| first
  | assumption
  | exact W.at_ (by assumption) (by walk_at "mem")
  | exact W.fx (by assumption) (by walk_at "mem"))
local macro_rules | `(tactic| walk_at "wp") => `(tactic| dsimp only [wipe, List.map, List.set_cons_succ, List.set_cons_zero])
local macro_rules | `(tactic| walk_at "s2") => `(tactic| first
  | ((with_reducible apply w_ixL _ _ ?c ?d); (case c => walk_at "sq"); (case d => rfl))
  | ((with_reducible apply w_lenQ _ ?c); (case c => walk_at "sq"))
  | ((with_reducible apply w_ixT _ _ ?c ?d); (case c => walk_at "st"); (case d => rfl))
  | ((with_reducible apply w_lenS ?c); (case c => first | assumption | exact szle (by omega)))
  | ((with_reducible apply w_lenQT _ ?c); (case c => walk_at "st"))
  | ((with_reducible apply w_tyL _ ?c); (case c => walk_at "sq")))
local macro_rules | `(tactic| walk_at "s4") => `(tactic| first
  | ((with_reducible apply n_fld ?c ?d ?a ?b); (case c => walk_at "at"); (case d => rfl); (case a => assumption); (case b => assumption))
  | ((with_reducible apply n_meth ?c ?d); (case c => walk_at "at"); (case d => rfl))
  | ((with_reducible apply x_aug ?c ?_); (case c => rfl))
  | ((with_reducible apply n_il ?c ?_); (case c => walk_at "sq"))
  | ((with_reducible apply n_it ?c ?_); (case c => walk_at "st")))
local macro_rules | `(tactic| walk_at "s5") => `(tactic| first
  | ((with_reducible refine n_rng1 ?c ?d ?_); (case c => omega); (case d => omega))
  | ((with_reducible refine n_rng2 ?c ?d ?e ?f ?_); (case c => omega); (case d => omega); (case e => omega); (case f => omega))
  | ((with_reducible apply w_tgt _ ?c ?d); (case c => walk_at "st"); (case d => rfl))
  | ((with_reducible refine n_ipI ?_); (try dsimp only [List.set_cons_succ, List.set_cons_zero]))
  | ((with_reducible refine n_adds ?c ?_); (case c => first | exact szle (by decide +kernel) | exact szle (by omega))))
local macro_rules | `(tactic| walk_at "s7") => `(tactic| first
  | walk_at "s6"
  | ((with_reducible refine x_wp ?c ?_); (case c => rfl)))
local macro_rules | `(tactic| walk_at "go1") => `(tactic| first
  | refine goNS ?_
  | refine goNN ?_
  | ((refine sideI 2 ?_); walk_at "s2")
  | ((refine sideI 4 ?_); walk_at "s4")
  | ((refine sideI 5 ?_); walk_at "s5")
  | ((refine sideI 1 ?_); walk_at "s1")
  | ((refine sideI 6 ?_); walk_at "s7")
  | walk_at "wp")
local macro_rules | `(tactic| walk_at "go") => `(tactic| repeat walk_at "go1")
section
variable {P : Program} {w : World} {K : PySem.W.Frag} {mg : Str → Option Value} {base : Heap}
-- gives
theorem ok_gives {f : Addr} {fd : FuncData} (F : FunD K "gives" "gives" (defArgs s_gives) (defBody s_gives) (defScope s_gives) [] [] f fd) (T : Txt K mg)  : FnOk P w K mg base CX0 1 f fd ["row", "size"] (S2 (φgives K)) := by
  refine F.ok sc_gives (fun vs H Q E h => ?_) (fun cdv A outer s H vs Q E hr h => ?_)
  · exact S2.len h
  · match vs, h with
    | [v0, v1], h =>
    have hu := hu_of hr
    refine ⟨_, PSs.nox (pss_cons (ps_if (pt_cmpR op_eq (pe_ix (ixT (K := K)) (pv 0) pe_int (fun _ _ => rfl)) pe_str (nomark _)) (pss_one (ps_ret (pe_callB clLenS (by rfl) T.b_len (by decide +kernel) (pa_cons (pe_ix (ixT (K := K)) (pv 0) pe_int (fun _ _ => rfl)) pa_nil)))) pss_nil)
      (pss_cons (ps_if (PW.pt (pw_or (pt_cmpR op_lt (pe_ix (ixT (K := K)) (pv 0) pe_int (fun _ _ => rfl)) pe_int (nomark _)) (pw_or (pt_cmpR op_lt (pe_ix (ixT (K := K)) (pv 0) pe_int (fun _ _ => rfl)) pe_int (nomark _)) (pw_or1 (pt_cmpR op_gt (pe_op op_add (pe_ix (ixT (K := K)) (pv 0) pe_int (fun _ _ => rfl)) (pe_ix (ixT (K := K)) (pv 0) pe_int (fun _ _ => rfl))) (pv 1) (nomark _)))))) (pss_one (ps_ret pe_int)) pss_nil)
      (pss_one (ps_ret (pe_ix (ixT (K := K)) (pv 0) pe_int (fun _ _ => rfl)))))), ?_⟩
    rw [show start ["row", "size"] [v0, v1] = [some v0, some v1] from rfl]
    obtain ⟨F, r, n, rfl, hw, hx, hok, q⟩ := h
    have w := W.start (M := []) hw
    cases r with
    | put s =>
      obtain ⟨a, rfl, hT⟩ := dp_cput hx
      have hl := hok.s.2
      walk_at "go"
      exact q _ _ w
    | copy a k =>
      obtain ⟨p, rfl, hT⟩ := dp_ccopy hx
      have hp : 1 ≤ k := hok.p
      have hh : a + k ≤ n := hok.h
      walk_at "go"
      refine w_iteF (by omega) ?_
      walk_at "go"
      refine w_iteF (by omega) ?_
      walk_at "go"
      refine w_iteF (by omega) ?_
      walk_at "go"
      exact q _ _ w
-- Change.__init__
theorem ok_ChangeX_initX {f : Addr} {fd : FuncData} (F : FunD K "__init__" "Change.__init__" (defArgs s_ChangeX_initX) (defBody s_ChangeX_initX) (defScope s_ChangeX_initX) [] [] f fd) (T : Txt K mg) (D_gives : DO P w K mg base 1 "gives" ["row", "size"] [] (S2 (φgives K))) : FnOk P w K mg base CX0 2 f fd ["self", "size", "rows"] (S3 (φinit K)) := by
  refine F.ok sc_ChangeX_initX (fun vs H Q E h => ?_) (fun cdv A outer s H vs Q E hr h => ?_)
  · exact S3.len h
  · match vs, h with
    | [v0, v1, v2], h =>
    have hu := hu_of hr
    refine ⟨_, PSs.nox (pss_cons (ps_if (PW.pt (pw_or (pt_cmpR op_lt (pv 1) pe_int (nomark _)) (pw_or1 (pt_cmpR op_gt (pv 1) (pe_gint (by rfl) T.c_MOST) (nomark _))))) (pss_one ps_never) pss_nil)
      (pss_cons (ps_set (i := 3) sc_ChangeX_initX.nd rfl (.inl rfl) pe_int)
      (pss_cons (ps_for PassesOwn.never rfl (pi_range1 rfl T.b_range (pa_cons (pe_callB (clLenQ (K := K)) (by rfl) T.b_len (by decide +kernel) (pa_cons (pv 2) pa_nil)) pa_nil)) (pg_name (i := 4) sc_ChangeX_initX.nd rfl (.inl rfl)) (pss_cons (ps_set (i := 5) sc_ChangeX_initX.nd rfl (.inl rfl) (pcall D_gives hr (pa_cons (pe_ix (ixL (K := K)) (pv 2) (pv 4) (fun _ _ => rfl)) (pa_cons (pv 1) pa_nil))))
      (pss_cons (ps_set (i := 3) sc_ChangeX_initX.nd rfl (.inl rfl) (pe_op op_add (pv 3) (pv 5)))
      (pss_one (ps_if (PW.pt (pw_or (pt_cmpR op_eq (pv 5) pe_int (nomark _)) (pw_or1 (pt_cmpR op_gt (pv 3) (pe_gint (by rfl) T.c_MOST) (nomark _))))) (pss_one ps_never) pss_nil)))))
      (pss_cons (psFld (K := K) (pv 0) (pv 1) rfl)
      (pss_one (psFld (K := K) (pv 0) (pe_callTy (clListOf (K := K)) (by rfl) T.b_list (by decide +kernel) (pa_cons (pv 2) pa_nil)) rfl)))))), ?_⟩
    rw [show start ["self", "size", "rows", "many", "k", "more"] [v0, v1, v2] = [some v0, some v1, some v2, none, none, none] from rfl]
    have kC := T.k_Change
    have kS := T.na_Change_size
    have kR := T.na_Change_rows
    
    obtain ⟨F, c, dx, a, vs, n, rows, rfl, rfl, rfl, s0, hS, hD, hn, hok, q⟩ := h
    have w := s0.w (M := [c])
    have hrl := hok.len
    have hvl : vs.length = rows.length := by rw [dpa_len hD, List.length_map]
    obtain ⟨tM, eM⟩ := T.c_MOST
    walk_at "go"
    refine w_iteF (by omega) ?_
    walk_at "go"
    refine w_iteF (by omega) ?_
    walk_at "go"
    refine n_forR w (fun i σ L => ∃ y4 y5, σ = [some (.ref c), some (.int (n : Nat)), some (.ref a), some (.int ((givesL (rows.take i) : Nat) : Int)), y4, y5] ∧ L = [mu c (.ins (He.ga K "Change") dx [])]) ⟨none, none, rfl, rfl⟩ (fun i σ L F' H' hi hp w => ?_) (fun σ L F' H' hp w => ?_)
    · obtain ⟨y4, y5, rfl, rfl⟩ := hp
      have hi2 : i < vs.length := by omega
      obtain ⟨r, hr, dr⟩ := dpa_at hD (getD_of hi2)
      have ro := hok.ok r (List.mem_of_getElem? hr)
      have g1 := gives_take hr
      have g2 := gives_le rows (i + 1)
      have g3 := hok.sum
      have g4 := ro.p
      walk_at "go"
      refine w_ixL _ _ (by walk_at "sq") (atI_nat (getD_of hi2)) ?_
      walk_at "go"
      refine ⟨F', r, n, rfl, w.fh, w.dp0 dr, ro, fun F2 H2 w2 => ?_⟩
      replace w := w.cal .nil w2 (by walk_at "app")
      walk_at "go"
      refine w_iteF (by omega) ?_
      walk_at "go"
      refine w_iteF (by omega) ?_
      walk_at "go"
      exact nx_mk w ⟨_, _, by rw [g1]; rfl, rfl⟩ (by walk_at "pk")
    · obtain ⟨y4, y5, rfl, rfl⟩ := hp
      walk_at "go"
      refine n_sfld w (by walk_at "pick") kC kS (by show (0 : Nat) < 1000; decide) fun H2 w => ?_
      walk_at "go"
      refine n_listOf w (by walk_at "sq") fun r F3 H3 w hr => ?_
      walk_at "go"
      refine n_sfld w (by walk_at "pick") kC kR (by show (1 : Nat) < 1000; decide) fun H4 w => ?_
      exact q r F3 H4 hr (by walk_at "w")
-- Change.cells
theorem ok_Change_cells {f : Addr} {fd : FuncData} (F : FunD K "cells" "Change.cells" (defArgs s_Change_cells) (defBody s_Change_cells) (defScope s_Change_cells) [] [] f fd) (T : Txt K mg)  : FnOk P w K mg base CX0 1 f fd ["self"] (S1 (φcells K)) := by
  refine F.ok sc_Change_cells (fun vs H Q E h => ?_) (fun cdv A outer s H vs Q E hr h => ?_)
  · exact S1.len h
  · match vs, h with
    | [v0], h =>
    have hu := hu_of hr
    refine ⟨_, PSs.nox (pss_cons (ps_set (i := 1) sc_Change_cells.nd rfl (.inl rfl) (pe_lst pa_nil))
      (pss_cons (ps_for PassesOwn.never rfl (pi_list (peFld (K := K) (pv 0))) (pg_name (i := 2) sc_Change_cells.nd rfl (.inl rfl)) (pss_one (ps_if (pt_cmpR op_eq (pe_ix (ixT (K := K)) (pv 2) pe_int (fun _ _ => rfl)) pe_str (nomark _)) (pss_one (ps_expr (peBM (K := K) PySem.F.plainAttrs_list PySem.F.slot_list_extend PySem.F.type_list_extend mt_extend (pv 1) (pa_cons (pe_callTy clListS (by rfl) T.b_list (by decide +kernel) (pa_cons (pe_ix (ixT (K := K)) (pv 2) pe_int (fun _ _ => rfl)) pa_nil)) pa_nil)))) (pss_one (ps_expr (peBM (K := K) PySem.F.plainAttrs_list PySem.F.slot_list_extend PySem.F.type_list_extend mt_extend (pv 1) (pa_cons (pe_listRg rfl (by rfl) T.b_list (prg_2 (by rfl) T.b_range (pe_ix (ixT (K := K)) (pv 2) pe_int (fun _ _ => rfl)) (pe_op op_add (pe_ix (ixT (K := K)) (pv 2) pe_int (fun _ _ => rfl)) (pe_ix (ixT (K := K)) (pv 2) pe_int (fun _ _ => rfl))))) pa_nil)))))))
      (pss_one (ps_ret (pv 1))))), ?_⟩
    rw [show start ["self", "found", "row"] [v0] = [some v0, none, none] from rfl]
    have kC := T.k_Change
    have kS := T.na_Change_size
    have kR := T.na_Change_rows
    
    obtain ⟨F, n, rows, hw, hC, hok, hn, q⟩ := h
    obtain ⟨c, dx, r, vs, rfl, hc, hr, hD⟩ := hC
    have w := ((W.start (M := []) hw).push (fx c _) hc).push (fx r (.lst vs)) hr
    unfold insC at w
    walk_at "go"
    refine n_lst w (szle (by simp)) fun f F1 H1 w hf => ?_
    walk_at "go"
    refine n_forL vs w (fun i σ L => ∃ y2, σ = [some (.ref c), some (.ref f), y2] ∧ L = [mu f (.lst (cellsV (rows.take i))), fx r (.lst vs)]) ⟨none, rfl, rfl⟩ (fun i σ L F' H' hp w => ?_) (fun i x σ L F' H' hx hp w => ?_) (fun σ L F' H' hp w => ?_)
    · obtain ⟨y2, rfl, rfl⟩ := hp
      walk_at "sq"
    · obtain ⟨y2, rfl, rfl⟩ := hp
      obtain ⟨m, hm, dm⟩ := dpa_at hD hx
      have mo := hok.ok m (List.mem_of_getElem? hm)
      have e1 : cellsV (rows.take (i + 1)) = cellsV (rows.take i) ++ m.cellV := by
        unfold cellsV
        rw [List.take_add_one, hm, List.flatMap_append]
        simp
      have l1 := cells_len (rows.take i)
      have l2 := gives_le rows i
      have l3 := hok.sum
      cases m with
      | put s =>
        obtain ⟨pm, rfl, hT⟩ := dp_cput dm
        have hT := sqT_same (K := K) w.ws hT
        have hsl := mo.s.2
        walk_at "go"
        refine n_listS w (szle (by omega)) fun p2 F2 H2 w hp2 => ?_
        walk_at "go"
        refine n_ext w (by walk_at "at") (by walk_at "pick") (szle (by rw [chars_len]; omega)) fun H3 w => ?_
        rw [show chars s = (CRow.put s).cellV from rfl] at w
        rw [← e1] at w
        exact nx_mk w ⟨_, rfl, rfl⟩ (by walk_at "pk")
      | copy a k =>
        obtain ⟨pm, rfl, hT⟩ := dp_ccopy dm
        have hT := sqT_same (K := K) w.ws hT
        have hh : a + k ≤ n := mo.h
        have hk : 1 ≤ k := mo.p
        have hk2 := gives_take hm
        have hk3 := gives_le rows (i + 1)
        replace hk2 : givesL (rows.take (i + 1)) = givesL (rows.take i) + k := hk2
        walk_at "go"
        refine ⟨_, _, rfl, rfl, ?_⟩
        refine n_lstRg w (RgOk.of_le (by omega) (by omega) (by omega) (by omega)) fun p2 F2 H2 w hp2 => ?_
        rw [show rgV (a : Int) ((a : Int) + (k : Nat)) = CRow.cellV (.copy a k) by unfold rgV CRow.cellV; rw [show ((a : Int) + (k : Nat) - (a : Int)).toNat = k by omega]; rfl] at w
        walk_at "go"
        refine n_ext w (by walk_at "at") (by walk_at "pick") (szle (by rw [cellV_len]; show _ + k ≤ _; omega)) fun H3 w => ?_
        rw [← e1] at w
        exact nx_mk w ⟨_, rfl, rfl⟩ (by walk_at "pk")
    · obtain ⟨y2, rfl, rfl⟩ := hp
      rw [List.take_of_length_le (by rw [dpa_len hD, List.length_map]; exact Nat.le_refl _)] at w
      walk_at "go"
      exact q f F' H' hf (by walk_at "w")
-- NoSpare.__init__
theorem ok_NoSpareX_initX {f : Addr} {fd : FuncData} (F : FunD K "__init__" "NoSpare.__init__" (defArgs s_NoSpareX_initX) (defBody s_NoSpareX_initX) (defScope s_NoSpareX_initX) [] [] f fd) (T : Txt K mg)  : FnOk P w K mg base CX0 1 f fd ["self", "need"] (S2 (φxinit K "NoSpare" "need")) := by
  refine F.ok sc_NoSpareX_initX (fun vs H Q E h => ?_) (fun cdv A outer s H vs Q E hr h => ?_)
  · exact S2.len h
  · match vs, h with
    | [v0, v1], h =>
    have hu := hu_of hr
    refine ⟨_, PSs.nox (pss_cons (ps_expr (pe_xi xb_LookupError rfl T.b_LookupError PyProof.Rows.Boot.«LookupError» (by kernel_rfl) (by decide +kernel) T.x_NoSpare.b (by decide +kernel) (pa_cons (pv 0) (pa_cons pe_str pa_nil))))
      (pss_one (ps_xo xb_LookupError (pv 0) (pv 1)))), ?_⟩
    rw [show start ["self", "need"] [v0, v1] = [some v0, some v1] from rfl]
    obtain ⟨a, rfl, ha, q⟩ := h
    walk_at "go"
    refine ⟨a, _, [.str "no slot to spare"], rfl, by decide, T.x_NoSpare.c, ha, ?_⟩
    walk_at "go"
    exact ⟨a, _, rfl, T.x_NoSpare.c, T.x_NoSpare.no, ha, fun dx n ne => q dx n ne⟩
-- gets
theorem ok_gets {f : Addr} {fd : FuncData} (F : FunD K "gets" "gets" (defArgs s_gets) (defBody s_gets) (defScope s_gets) [] [] f fd) (T : Txt K mg)  : FnOk P w K mg base CX0 1 f fd ["cells", "place"] (S2 (φgets31 K)) := by
  refine F.ok sc_gets (fun vs H Q E h => ?_) (fun cdv A outer s H vs Q E hr h => ?_)
  · exact S2.len h
  · match vs, h with
    | [v0, v1], h =>
    have hu := hu_of hr
    refine ⟨_, PSs.nox (pss_one (ps_ret (pe_and (pe_cmpR op_lt (pv 1) (pe_callB (clLenQ (K := K)) (by rfl) T.b_len (by decide +kernel) (pa_cons (pv 0) pa_nil)) (nomark _)) (pe_and (pe_callB (clIsi (K := K)) (by rfl) T.b_isinstance (by decide +kernel) (pa_cons (pe_ix (ixL (K := K)) (pv 0) (pv 1) (fun _ _ => rfl)) (pa_cons (pe_bltn (v := .ty "int") (by rfl) T.b_int (by decide +kernel) rfl) pa_nil))) (pe_one (pe_cmpR op_ne (pe_ix (ixL (K := K)) (pv 0) (pv 1) (fun _ _ => rfl)) (pv 1) (nomark _))))))), ?_⟩
    rw [show start ["cells", "place"] [v0, v1] = [some v0, some v1] from rfl]
    obtain ⟨F, a, cs, p, rfl, rfl, hw, hS, hf, hl, q⟩ := h
    have w := (W.start (M := []) hw).push (imL K a cs) hS
    walk_at "go"
    by_cases hp : p < cs.length
    · rw [if_pos (decide_eq_true (by omega))]
      obtain ⟨v, hv⟩ : ∃ v, cs[p]? = some v := ⟨_, List.getElem?_eq_getElem hp⟩
      have he := gC_isSome hv
      rcases hf v (List.mem_of_getElem? hv) with rfl | ⟨i, rfl⟩ | ⟨z, rfl, hz⟩
      · walk_at "go"
        refine w_ixL _ _ (by walk_at "sq") (atI_nat hv) ?_
        walk_at "go"
        refine u_isi (F := H) (d := .none) .non (Same.refl _) (k_int _) ?_
        walk_at "go"
        refine w_is (c := false) rfl ?_
        walk_at "go"
        rw [he] at q
        exact q _ _ (w.to .nil)
      · walk_at "go"
        refine w_ixL _ _ (by walk_at "sq") (atI_nat hv) ?_
        walk_at "go"
        refine u_isi (F := H) (d := .int i) (.int _) (Same.refl _) (k_int _) ?_
        walk_at "go"
        refine w_is (c := true) rfl ?_
        walk_at "go"
        refine w_ixL _ _ (by walk_at "sq") (atI_nat hv) ?_
        walk_at "go"
        rw [he] at q
        exact q _ _ (w.to .nil)
      · walk_at "go"
        refine w_ixL _ _ (by walk_at "sq") (atI_nat hv) ?_
        walk_at "go"
        refine u_isi (F := H) (d := .str z) (.str _) (Same.refl _) (k_int _) ?_
        walk_at "go"
        refine w_is (c := false) rfl ?_
        walk_at "go"
        rw [he] at q
        exact q _ _ (w.to .nil)
    · rw [if_neg (fun e => hp (by have := of_decide_eq_true e; omega))]
      rw [gC_out (by omega)] at q
      exact q _ _ (w.to .nil)
-- changing
theorem ok_changing {f : Addr} {fd : FuncData} (F : FunD K "changing" "changing" (defArgs s_changing) (defBody s_changing) (defScope s_changing) [] [] f fd) (T : Txt K mg)  : FnOk P w K mg base CX0 1 f fd ["cells"] (S1 (φchanging K)) := by
  refine F.ok sc_changing (fun vs H Q E h => ?_) (fun cdv A outer s H vs Q E hr h => ?_)
  · exact S1.len h
  · match vs, h with
    | [v0], h =>
    have hu := hu_of hr
    refine ⟨_, PSs.nox (pss_one (ps_ret (pe_lc (own := [("place", 1)]) (g := gName 1) rfl sc_changing.nd (pi_range1 rfl T.b_range (pa_cons (pe_callB (clLenQ (K := K)) (by rfl) T.b_len (by decide +kernel) (pa_cons (pv 0) pa_nil)) pa_nil)) (blkOk_by (own := [("place", 1)]) (N := ["cells", "place"]) (sc := defScope s_changing) (by decide +kernel)) (fun _ _ _ _ _ => pg_name (i := 1) sc_changing.nd rfl (Or.inl rfl)) (fun _ _ _ _ _ => pts_one (pt_cmpR op_ne (pe_ix (ixL (K := K)) (pv 0) (pv 1) (fun _ _ => rfl)) (pv 1) (nomark _))) (fun _ _ _ _ _ => (pv 1))))), ?_⟩
    rw [show start ["cells", "place"] [v0] = [some v0, none] from rfl]
    obtain ⟨F, a, cs, rfl, hw, hS, hf, hl, q⟩ := h
    have w := (W.start (M := []) hw).push (imL K a cs) hS
    walk_at "go"
    refine n_lcR w (fun j ys L => ys = ((List.range j).filter (chgC cs)).map (fun (k : Nat) => V.int (k : Nat)) ∧ L = [imL K a cs]) ⟨rfl, rfl⟩ (fun j ys L F' H' D hj hp w hD => ?_) (fun D ys L F' H' hp w hD => ?_)
    · obtain ⟨rfl, rfl⟩ := hp
      have hj : j < cs.length := by omega
      obtain ⟨v, hv⟩ : ∃ v, cs[j]? = some v := ⟨_, List.getElem?_eq_getElem hj⟩
      walk_at "wp"
      walk_at "go"
      refine w_ixL _ _ (by walk_at "sq") (atI_nat hv) ?_
      walk_at "go"
      refine ⟨scal_flat (hf v (List.mem_of_getElem? hv)) (.inr (.inl ⟨_, rfl⟩)), ?_⟩
      have ec : chgC cs j = !decide (v = .int (j : Nat)) := by
        unfold chgC
        rw [hv]
        congr 1
        exact decide_eq_decide.mpr ⟨fun e => Option.some.inj e, fun e => by rw [e]⟩
      rw [← ec]
      cases e : chgC cs j with
      | true =>
        walk_at "go"
        refine n_acc _ w ⟨by rw [List.range_succ]; exact filtN_yes e, rfl⟩ (by walk_at "pk") (small_lt (by rw [List.length_map]; have := List.length_filter_le (chgC cs) (List.range j); rw [List.length_range] at this; omega))
      | false =>
        walk_at "go"
        exact ⟨_, _, _, ⟨by rw [List.range_succ]; exact filtN_no e, rfl⟩, w⟩
    · obtain ⟨rfl, rfl⟩ := hp
      walk_at "go"
      exact q D _ _ hD ((w.to (D := [mu D (lstN (chL cs))]) (by walk_at "pick")))
-- readers
theorem ok_readers {f : Addr} {fd : FuncData} (F : FunD K "readers" "readers" (defArgs s_readers) (defBody s_readers) (defScope s_readers) [] [] f fd) (T : Txt K mg) (D_changing : DO P w K mg base 1 "changing" ["cells"] [] (S1 (φchanging K))) (D_gets : DO P w K mg base 1 "gets" ["cells", "place"] [] (S2 (φgets31 K))) : FnOk P w K mg base CX0 2 f fd ["cells", "size"] (S2 (φreaders K)) := by
  refine F.ok sc_readers (fun vs H Q E h => ?_) (fun cdv A outer s H vs Q E hr h => ?_)
  · exact S2.len h
  · match vs, h with
    | [v0, v1], h =>
    have hu := hu_of hr
    refine ⟨_, PSs.nox (pss_cons (ps_set (i := 2) sc_readers.nd rfl (.inl rfl) (pe_op op_rep (pe_lst (pa_cons pe_int pa_nil)) (pv 1)))
      (pss_cons (ps_for PassesOwn.never rfl (pi_list (pcall D_changing hr (pa_cons (pv 0) pa_nil))) (pg_name (i := 3) sc_readers.nd rfl (.inl rfl)) (pss_one (ps_if (pt_val (pcall D_gets hr (pa_cons (pv 0) (pa_cons (pv 3) pa_nil)))) (pss_one (ps_augS (pv 2) (pe_ix (ixL (K := K)) (pv 0) (pv 3) (fun _ _ => rfl)) (pgL (K := K)) pe_int ip_add set_list)) pss_nil)))
      (pss_one (ps_ret (pv 2))))), ?_⟩
    rw [show start ["cells", "size", "found", "place"] [v0, v1] = [some v0, some v1, none, none] from rfl]
    obtain ⟨F, a, cs, n, rfl, rfl, hw, hS, hc, hcl, hn, q⟩ := h
    have w := (W.start (M := []) hw).push (imL K a cs) hS
    have hcf : ∀ v ∈ cs, FlatV v := fun v hv => (hc v hv).flat
    walk_at "go"
    refine n_lst w (szle (by simp)) fun p2 F1 H1 w hp2 => ?_
    walk_at "go"
    refine n_rep w (by walk_at "at") (by omega) (by omega) (szle (by show 1 * _ ≤ _; omega)) fun pf F1 H1 w hpf => ?_
    rw [show (List.replicate (((n : Nat) : Int)).toNat [V.int 0]).flatten = (rdT cs n []).map fun (k : Nat) => V.int (k : Nat) by rw [rdT_nil, Int.toNat_natCast, List.flatten_replicate_singleton, List.map_replicate]; rfl] at w
    walk_at "go"
    refine ⟨_, a, cs, rfl, w.fh, w.imL (by walk_at "mem"), hcf, by omega, fun pc F1 H1 hpc w1 => ?_⟩
    replace w := w.cal .nil w1 (by walk_at "app")
    unfold lstN at w
    walk_at "go"
    refine n_forL ((chL cs).map fun (k : Nat) => V.int (k : Nat)) w (fun i σ L => ∃ y3, σ = [some (.ref a), some (.int (n : Nat)), some (.ref pf), y3] ∧ L = [mu pc (.lst ((chL cs).map fun (k : Nat) => V.int (k : Nat))), mu pf (.lst ((rdT cs n ((chL cs).take i)).map fun (k : Nat) => V.int (k : Nat))), imL K a cs]) ⟨_, rfl, rfl⟩ (fun i σ L F' H' hp w => ?_) (fun i x σ L F' H' hx hp w => ?_) (fun σ L F' H' hp w => ?_)
    · obtain ⟨y3, rfl, rfl⟩ := hp
      walk_at "sq"
    · obtain ⟨y3, rfl, rfl⟩ := hp
      obtain ⟨c, hcc, rfl⟩ := map_at hx
      obtain ⟨hc1, hc2⟩ := ch_mem.mp (List.mem_of_getElem? hcc)
      have et : (chL cs).take (i + 1) = (chL cs).take i ++ [c] := by rw [List.take_add_one, hcc]; rfl
      have hgl := rdT_len cs n ((chL cs).take i)
      walk_at "go"
      refine ⟨H', a, cs, c, rfl, rfl, Same.refl _, by walk_at "sq", hcf, by omega, fun F2 H2 w2 => ?_⟩
      replace w := w.ro0 w2
      cases eg : gC cs c with
      | none =>
        rw [show (none : Option Nat).isSome = false from rfl]
        walk_at "go"
        refine nx_mk w ⟨_, rfl, rfl⟩ ?_
        rw [et, rdT_no eg]
        walk_at "pk"
      | some p =>
        obtain ⟨hv, hne⟩ := (gC_some hc).mp eg
        obtain ⟨_, hpn⟩ := gC_lt hc eg
        have hgp : ((rdT cs n ((chL cs).take i)).map fun (k : Nat) => V.int (k : Nat))[p]? = some (.int (((chL cs).take i).filter fun q => decide (gC cs q = some p)).length) := by rw [List.getElem?_map, rdT_get _ _ hpn]; rfl
        rw [show (some p : Option Nat).isSome = true from rfl]
        walk_at "go"
        refine w_ixL _ _ (by walk_at "sq") (atI_nat hv) ?_
        walk_at "go"
        refine w_ixL _ _ (by walk_at "sq") (atI_nat hgp) ?_
        walk_at "go"
        refine n_setL w (by walk_at "pick") p (ixNat (by rw [List.length_map]; omega)) fun H5 w => ?_
        rw [show (((((chL cs).take i).filter fun q => decide (gC cs q = some p)).length : Nat) : Int) + 1 = (((((chL cs).take i).filter fun q => decide (gC cs q = some p)).length + 1 : Nat) : Int) from rfl, ← List.map_set, ← rdT_yes eg hpn, ← et] at w
        exact nx_mk w ⟨_, rfl, rfl⟩ (by walk_at "pk")
    · obtain ⟨y3, rfl, rfl⟩ := hp
      rw [List.length_map, List.take_length, rdT_chL hc] at w
      walk_at "go"
      exact q pf _ _ (by assumption) (w.to (D := [mu pf (lstN (rdN cs n))]) (by walk_at "pick"))
-- all_rings
theorem ok_all_rings {f : Addr} {fd : FuncData} (F : FunD K "all_rings" "all_rings" (defArgs s_all_rings) (defBody s_all_rings) (defScope s_all_rings) [] [] f fd) (T : Txt K mg) (D_changing : DO P w K mg base 1 "changing" ["cells"] [] (S1 (φchanging K))) (D_gets : DO P w K mg base 1 "gets" ["cells", "place"] [] (S2 (φgets31 K))) : FnOk P w K mg base CX0 2 f fd ["cells"] (S1 (φrings K)) := by
  refine F.ok sc_all_rings (fun vs H Q E h => ?_) (fun cdv A outer s H vs Q E hr h => ?_)
  · exact S1.len h
  · match vs, h with
    | [v0], h =>
    have hu := hu_of hr
    refine ⟨_, PSs.nox (pss_cons (ps_set (i := 1) sc_all_rings.nd rfl (.inl rfl) pe_dnewK)
      (pss_cons (ps_set (i := 2) sc_all_rings.nd rfl (.inl rfl) (pe_lst pa_nil))
      (pss_cons (ps_for PassesOwn.never rfl (pi_list (pcall D_changing hr (pa_cons (pv 0) pa_nil))) (pg_name (i := 3) sc_all_rings.nd rfl (.inl rfl)) (pss_cons (ps_set (i := 4) sc_all_rings.nd rfl (.inl rfl) (pe_lst pa_nil))
      (pss_cons (ps_set (i := 5) sc_all_rings.nd rfl (.inl rfl) (pv 3))
      (pss_cons (ps_while PassesOwn.never (PW.pt (pw_and (pt_val (pcall D_gets hr (pa_cons (pv 0) (pa_cons (pv 5) pa_nil)))) (pw_and1 (pt_cmp (pc_dnotin hu (pv 5) (pv 1)))))) (pss_cons (ps_dput hu (pv 1) (pv 5) (pe_callB (clLenQ (K := K)) (by rfl) T.b_len (by decide +kernel) (pa_cons (pv 4) pa_nil)) rfl)
      (pss_cons (ps_expr (peBM (K := K) PySem.F.plainAttrs_list PySem.F.slot_list_append PySem.F.type_list_append mt_append (pv 4) (pa_cons (pv 5) pa_nil)))
      (pss_one (ps_set (i := 5) sc_all_rings.nd rfl (.inl rfl) (pe_ix (ixL (K := K)) (pv 0) (pv 5) (fun _ _ => rfl)))))))
      (pss_one (ps_if (pt_cmpR (opIn (K := K)) (pv 5) (pv 4) (by rfl)) (pss_one (ps_expr (peBM (K := K) PySem.F.plainAttrs_list PySem.F.slot_list_append PySem.F.type_list_append mt_append (pv 2) (pa_cons (pe_slice (slL (K := K)) (pv 4) (po_some (pe_dget hu (pv 1) (pv 5) (fun _ _ => rfl))) po_none) pa_nil)))) pss_nil))))))
      (pss_one (ps_ret (pv 2)))))), ?_⟩
    rw [show start ["cells", "seen", "found", "first", "way", "place"] [v0] = [some v0, none, none, none, none, none] from rfl]
    obtain ⟨F, a, cs, n, rfl, hw, hS, hc, hcl, q⟩ := h
    have w := (W.start (M := []) hw).push (imL K a cs) hS
    have hcf : ∀ v ∈ cs, FlatV v := fun v hv => (hc v hv).flat
    
    walk_at "go"
    intro D nD
    replace w := w.nw (u := .dK []) nD
    walk_at "go"
    refine n_lst w (szle (by simp)) fun fp F1 H1 w hfp' => ?_
    walk_at "go"
    refine ⟨_, a, cs, rfl, w.fh, w.imL (by walk_at "mem"), hcf, by omega, fun pc F1 H1 hpc w1 => ?_⟩
    replace w := w.cal .nil w1 (by walk_at "app")
    unfold lstN at w
    replace w := w.push (dpa K [] (([] : List (List Nat)).map rngD)) .nil
    walk_at "go"
    refine n_forL ((chL cs).map fun (k : Nat) => V.int (k : Nat)) w (fun i σ L => ∃ (rs : List (List Nat)) (sl : List Nat) (kvs : List (Key × V)) (vs : List V), ∃ y3 y4 y5, σ = [some (.ref a), some (.ref D), some (.ref fp), y3, y4, y5] ∧ RgI cs ((chL cs).take i) rs (fun x => x ∈ sl) ∧ (sl, rs) = ((chL cs).take i).foldl (ringStep cs) ([], []) ∧ SnOk cs kvs sl ∧ rs.length ≤ i ∧ L = [mu D (.dK kvs), mu fp (.lst vs), dpa K vs (rs.map rngD), mu pc (.lst ((chL cs).map fun (k : Nat) => V.int (k : Nat))), imL K a cs]) ⟨[], [], [], [], _, _, _, rfl, by rw [way_nil0]; exact rgI_nil cs, rfl, snOk_nil cs, Nat.le_refl _, rfl⟩ (fun i σ L F' H' hp w => ?_) (fun i x σ L F' H' hx hp w => ?_) (fun σ L F' H' hp w => ?_)
    · obtain ⟨rs, sl, kvs, vs, y3, y4, y5, rfl, hrg, h0r, hsn, hrl, rfl⟩ := hp
      walk_at "sq"
    · obtain ⟨rs, sl, kvs, vs, y3, y4, y5, rfl, hrg, h0r, hsn, hrl, rfl⟩ := hp
      obtain ⟨c, hcc, rfl⟩ := map_at hx
      obtain ⟨hc1, hc2⟩ := ch_mem.mp (List.mem_of_getElem? hcc)
      have et : (chL cs).take (i + 1) = (chL cs).take i ++ [c] := by rw [List.take_add_one, hcc]; rfl
      have hvl2 : vs.length = rs.length := by rw [dpa_len (w.dpa (K := K) (xs := vs) (ds := rs.map rngD) (by walk_at "mem")), List.length_map]
      have hil := (List.getElem?_eq_some_iff.mp hcc).1
      have hcl2 := ch_len cs
      walk_at "go"
      refine n_lst w (szle (by simp)) fun wp F3 H3 w hwp => ?_
      walk_at "go"
      refine n_while w (fun m σ L => ∃ (way : List Nat) (p : Nat) (kv2 : List (Key × V)), σ = [some (.ref a), some (.ref D), some (.ref fp), some (.int (c : Nat)), some (.ref wp), some (.int (p : Nat))] ∧ WayOk (gC cs) (fun x => x ∈ sl) c way p ∧ SnW cs kv2 sl way ∧ wayF cs m sl way p = wayF cs (cs.length - sl.length) sl [] c ∧ m + (sl ++ way).length = cs.length ∧ L = [mu wp (.lst (way.map fun (k : Nat) => V.int (k : Nat))), mu D (.dK kv2), mu fp (.lst vs), dpa K vs (rs.map rngD), mu pc (.lst ((chL cs).map fun (k : Nat) => V.int (k : Nat))), imL K a cs]) (m0 := cs.length - sl.length) ⟨[], c, kvs, rfl, way_nil _ _ _, hsn.way, rfl, by rw [List.append_nil]; have := hsn.le; omega, rfl⟩ (fun m σ L F' H' hp w => ?_)
      obtain ⟨way, p, kv2, rfl, hw2, hsw, hwf, hm, rfl⟩ := hp
      walk_at "go"
      refine ⟨H', a, cs, p, rfl, rfl, Same.refl _, by walk_at "sq", hcf, by omega, fun F2 H2 w2 => ?_⟩
      replace w := w.ro0 w2
      cases eg : gC cs p with
      | none =>
        rw [show (none : Option Nat).isSome = false from rfl]
        walk_at "go"
        have he : gC cs p = none ∨ p ∈ sl ∨ p ∈ way := .inl eg
        obtain ⟨st1, st2⟩ := hrg.step hc hw2 he
        rw [way_seen, ← et] at st1 st2
        have hstp := step_in h0r et ((wayF_stop he).symm.trans hwf)
        walk_at "go"
        refine n_inN (by walk_at "sq") ?_
        by_cases e : p ∈ way
        · rw [decide_eq_true e]
          obtain ⟨k, ek, hk⟩ : ∃ k, k = way.idxOf p ∧ way[k]? = some p := ⟨_, rfl, idx_get e⟩
          walk_at "go"
          refine n_dgetV (by walk_at "at") (hsw.w k p hk) ?_
          walk_at "go"
          refine n_slL w (by walk_at "sq") fun s1 F3 H3 w hs1 => ?_
          rw [cut_from, ← List.map_drop] at w
          obtain ⟨F4, w⟩ := w.fzL (p := s1) (by walk_at "pick") hs1
          walk_at "go"
          refine n_app (p := fp) w (by walk_at "pick") (small_lt (by rw [← hvl2] at hrl; omega)) fun H5 w => ?_
          have w := w.push (dpa K (vs ++ [.ref s1]) ((rs ++ [way.drop k]).map rngD)) (by
            rw [List.map_append]
            exact dpa_snoc (w.dpa (by walk_at "mem")) (.lst (sqL_of (w.i (fx s1 _) (by walk_at "mem"))) (dpa_nums _)))
          exact nx_mk w ⟨rs ++ [way.drop k], sl ++ way, kv2, vs ++ [.ref s1], _, _, _, rfl, st2 k hk, by rw [ek]; exact hstp.2 e, hsw.s, by rw [List.length_append]; show _ + 1 ≤ _; omega, rfl⟩ (by walk_at "pk")
        · rw [decide_eq_false e]
          walk_at "go"
          exact nx_mk w ⟨rs, sl ++ way, kv2, vs, _, _, _, rfl, st1 e, hstp.1 e, hsw.s, by omega, rfl⟩ (by walk_at "pk")
      | some y =>
        obtain ⟨hv, hne⟩ := (gC_some hc).mp eg
        rw [show (some y : Option Nat).isSome = true from rfl]
        walk_at "go"
        refine n_dnin (by walk_at "at") ?_
        rw [hsw.s.k]
        by_cases hps : p ∈ sl ++ way
        · rw [decide_eq_true hps]
          have he : gC cs p = none ∨ p ∈ sl ∨ p ∈ way := .inr (List.mem_append.mp hps)
          walk_at "go"
          obtain ⟨st1, st2⟩ := hrg.step hc hw2 he
          rw [way_seen, ← et] at st1 st2
          have hstp := step_in h0r et ((wayF_stop he).symm.trans hwf)
          walk_at "go"
          refine n_inN (by walk_at "sq") ?_
          by_cases e : p ∈ way
          · rw [decide_eq_true e]
            obtain ⟨k, ek, hk⟩ : ∃ k, k = way.idxOf p ∧ way[k]? = some p := ⟨_, rfl, idx_get e⟩
            walk_at "go"
            refine n_dgetV (by walk_at "at") (hsw.w k p hk) ?_
            walk_at "go"
            refine n_slL w (by walk_at "sq") fun s1 F3 H3 w hs1 => ?_
            rw [cut_from, ← List.map_drop] at w
            obtain ⟨F4, w⟩ := w.fzL (p := s1) (by walk_at "pick") hs1
            walk_at "go"
            refine n_app (p := fp) w (by walk_at "pick") (small_lt (by rw [← hvl2] at hrl; omega)) fun H5 w => ?_
            have w := w.push (dpa K (vs ++ [.ref s1]) ((rs ++ [way.drop k]).map rngD)) (by
              rw [List.map_append]
              exact dpa_snoc (w.dpa (by walk_at "mem")) (.lst (sqL_of (w.i (fx s1 _) (by walk_at "mem"))) (dpa_nums _)))
            exact nx_mk w ⟨rs ++ [way.drop k], sl ++ way, kv2, vs ++ [.ref s1], _, _, _, rfl, st2 k hk, by rw [ek]; exact hstp.2 e, hsw.s, by rw [List.length_append]; show _ + 1 ≤ _; omega, rfl⟩ (by walk_at "pk")
          · rw [decide_eq_false e]
            walk_at "go"
            exact nx_mk w ⟨rs, sl ++ way, kv2, vs, _, _, _, rfl, st1 e, hstp.1 e, hsw.s, by omega, rfl⟩ (by walk_at "pk")
        · rw [decide_eq_false hps]
          walk_at "go"
          refine n_turn ?_
          walk_at "go"
          have hp1 : p ∉ sl := fun z => hps (List.mem_append_left _ z)
          have hp2 : p ∉ way := fun z => hps (List.mem_append_right _ z)
          have hswn := hsw.next (gC_lt hc eg).1 hps
          have hle := hswn.s.le
          rw [List.length_append, List.length_append] at hle
          have hle : sl.length + (way.length + 1) ≤ cs.length := hle
          rw [List.length_append] at hm
          refine w_dputI (by walk_at "at") (small_lt (by have := hsw.s.len; rw [List.length_append] at this; omega)) ?_
          rw [List.length_map]
          replace w := w.wr (p := D) (u := .dK (putK kv2 (.inl (p : Int)) (.int (way.length : Nat)))) (k := by walk_at "pick")
          walk_at "go"
          refine n_app (p := wp) w (by walk_at "pick") (small_lt (by rw [List.length_map]; omega)) fun H5 w => ?_
          rw [show (way.map fun (k : Nat) => V.int (k : Nat)) ++ [V.int (p : Nat)] = (way ++ [p]).map fun (k : Nat) => V.int (k : Nat) by rw [List.map_append]; rfl] at w
          walk_at "go"
          refine w_ixL _ _ (by walk_at "sq") (atI_nat hv) ?_
          walk_at "go"
          exact nxm_mk w (m' := m - 1) (by omega) ⟨way ++ [p], y, _, rfl, hw2.next eg hp1 hp2, hswn, by rw [← hwf, ← wayF_next eg hps]; congr 1; omega, by rw [List.length_append, List.length_append]; show m - 1 + (_ + (way.length + 1)) = _; omega, rfl⟩ (by walk_at "pk")
    · obtain ⟨rs, sl, kvs, vs, y3, y4, y5, rfl, hrg, h0r, hsn, hrl, rfl⟩ := hp
      rw [List.length_map, List.take_length] at hrg h0r
      rw [List.length_map] at hrl
      have hcl2 := ch_len cs
      walk_at "go"
      obtain ⟨F2, w⟩ := w.fzD (p := fp) (by walk_at "pick") hfp' (w.dpa (K := K) (ds := rs.map rngD) (by walk_at "mem"))
      exact q (.ref fp) rs _ _ (w.to (by walk_at "pick")) (hrg.done hc (congrArg Prod.snd h0r)) (by omega)
-- is_pure
theorem ok_is_pure {f : Addr} {fd : FuncData} (F : FunD K "is_pure" "is_pure" (defArgs s_is_pure) (defBody s_is_pure) (defScope s_is_pure) [] [] f fd) (T : Txt K mg)  : FnOk P w K mg base CX0 1 f fd ["ring", "reads"] (S2 (φis_pure K)) := by
  refine F.ok sc_is_pure (fun vs H Q E h => ?_) (fun cdv A outer s H vs Q E hr h => ?_)
  · exact S2.len h
  · match vs, h with
    | [v0, v1], h =>
    have hu := hu_of hr
    refine ⟨_, PSs.nox (pss_one (ps_ret (pe_callB (clAll (K := K)) (by rfl) T.b_all (by decide +kernel) (pa_cons (pe_lc (own := [("place", 2)]) (g := gName 2) rfl sc_is_pure.nd (pi_list (pv 0)) (blkOk_by (own := [("place", 2)]) (N := ["ring", "reads", "place"]) (sc := defScope s_is_pure) (by decide +kernel)) (fun _ _ _ _ _ => pg_name (i := 2) sc_is_pure.nd rfl (Or.inl rfl)) (fun _ _ _ _ _ => pts_nil) (fun _ _ _ _ _ => (pe_cmpR op_eq (pe_ix (ixL (K := K)) (pv 1) (pv 2) (fun _ _ => rfl)) pe_int (nomark _)))) pa_nil)))), ?_⟩
    rw [show start ["ring", "reads", "place"] [v0, v1] = [some v0, some v1, none] from rfl]
    obtain ⟨F, a, b, cs, n, r, rfl, rfl, hw, hA, hB, hr, hn, hcl, hrl, q⟩ := h
    have w := ((W.start (M := []) hw).push (imL K a _) hA).push (imL K b _) hB
    have hrdl := rdN_len cs n
    walk_at "go"
    refine n_lcL (r.map fun (k : Nat) => V.int (k : Nat)) w (fun j ys L => ys = ((r.take j).map fun x => decide (indG (gC cs) cs.length x = 1)).map V.bl ∧ L = [imL K a (r.map fun (k : Nat) => V.int (k : Nat)), imL K b ((rdN cs n).map fun (k : Nat) => V.int (k : Nat))]) ⟨rfl, rfl⟩ (fun j ys L F' H' D hp w => ?_) (fun j z ys L F' H' D hz hp w hD => ?_) (fun D ys L F' H' hp w hD => ?_)
    · obtain ⟨rfl, rfl⟩ := hp
      walk_at "sq"
    · obtain ⟨rfl, rfl⟩ := hp
      obtain ⟨x, hx, rfl⟩ := map_at hz
      have hjl := (List.getElem?_eq_some_iff.mp hx).1
      have hg : ((rdN cs n).map fun (k : Nat) => V.int (k : Nat))[x]? = some (.int (indG (gC cs) cs.length x : Nat)) := by rw [List.getElem?_map, rdN_get _ (hr x (List.mem_of_getElem? hx))]; rfl
      have et : r.take (j + 1) = r.take j ++ [x] := by rw [List.take_add_one, hx]; rfl
      walk_at "wp"
      walk_at "go"
      refine w_ixL _ _ (by walk_at "sq") (atI_nat hg) ?_
      walk_at "go"
      refine n_acc _ w ⟨by rw [et, List.map_append, List.map_append, show decide (((indG (gC cs) cs.length x : Nat) : Int) = 1) = decide (indG (gC cs) cs.length x = 1) from decide_eq_decide.mpr (by omega)]; rfl, rfl⟩ (by walk_at "pk") (small_lt (by rw [List.length_map, List.length_map, List.length_take]; omega))
    · obtain ⟨rfl, rfl⟩ := hp
      rw [List.length_map, List.take_length] at w
      walk_at "go"
      refine ⟨D, r.map fun x => decide (indG (gC cs) cs.length x = 1), rfl, by walk_at "sq", ?_⟩
      rw [show (r.map fun x => decide (indG (gC cs) cs.length x = 1)).all id = pureB cs r by unfold pureB; rw [List.all_map]; rfl]
      exact q _ _ (w.to .nil)
-- spared_cell
theorem ok_spared_cell {f : Addr} {fd : FuncData} (F : FunD K "spared_cell" "spared_cell" (defArgs s_spared_cell) (defBody s_spared_cell) (defScope s_spared_cell) [] [] f fd) (T : Txt K mg)  : FnOk P w K mg base CX0 1 f fd ["cells", "reads"] (S2 (φspared K)) := by
  refine F.ok sc_spared_cell (fun vs H Q E h => ?_) (fun cdv A outer s H vs Q E hr h => ?_)
  · exact S2.len h
  · match vs, h with
    | [v0, v1], h =>
    have hu := hu_of hr
    refine ⟨_, PSs.nox (pss_cons (ps_for PassesOwn.never rfl (pi_range1 rfl T.b_range (pa_cons (pe_callB clMax2 (by rfl) T.b_max (by decide +kernel) (pa_cons (pe_callB (clLenQ (K := K)) (by rfl) T.b_len (by decide +kernel) (pa_cons (pv 1) pa_nil)) (pa_cons (pe_callB (clLenQ (K := K)) (by rfl) T.b_len (by decide +kernel) (pa_cons (pv 0) pa_nil)) pa_nil))) pa_nil)) (pg_name (i := 2) sc_spared_cell.nd rfl (.inl rfl)) (pss_cons (ps_set (i := 3) sc_spared_cell.nd rfl (.inl rfl) (pe_or (pe_cmpR op_ge (pv 2) (pe_callB (clLenQ (K := K)) (by rfl) T.b_len (by decide +kernel) (pa_cons (pv 1) pa_nil)) (nomark _)) (pe_one (pe_cmpR op_eq (pe_ix (ixL (K := K)) (pv 1) (pv 2) (fun _ _ => rfl)) pe_int (nomark _)))))
      (pss_one (ps_if (PW.pt (pw_and (pt_val (pv 3)) (pw_and1 (PW.pt (pw_or (pt_cmpR op_ge (pv 2) (pe_callB (clLenQ (K := K)) (by rfl) T.b_len (by decide +kernel) (pa_cons (pv 0) pa_nil)) (nomark _)) (pw_or1 (pt_cmpR op_ne (pe_ix (ixL (K := K)) (pv 0) (pv 2) (fun _ _ => rfl)) (pv 2) (nomark _)))))))) (pss_one (ps_ret (pv 2))) pss_nil))))
      (pss_one (ps_ret pe_non))), ?_⟩
    rw [show start ["cells", "reads", "place", "unread"] [v0, v1] = [some v0, some v1, none, none] from rfl]
    obtain ⟨F, a, b, cs, n, rfl, rfl, hw, hA, hB, hc, hcl, hn, q⟩ := h
    have w := ((W.start (M := []) hw).push (imL K a cs) hA).push (imL K b _) hB
    have hrdl := rdN_len cs n
    have hcf : ∀ v ∈ cs, FlatV v := fun v hv => (hc v hv).flat
    walk_at "go"
    rw [List.length_map, hrdl]
    obtain ⟨mm, emm⟩ : ∃ m : Nat, m = max n cs.length := ⟨_, rfl⟩
    rw [show (if (cs.length : Int) > (n : Nat) then (cs.length : Int) else (n : Nat)) = (mm : Nat) by split <;> omega]
    walk_at "go"
    refine n_forR (n := mm) w (fun i σ L => ∃ y2 y3, σ = [some (.ref a), some (.ref b), y2, y3] ∧ (∀ p, p < i → spB cs n p = false) ∧ L = [imL K a cs, imL K b ((rdN cs n).map fun (k : Nat) => V.int (k : Nat))]) ⟨_, _, rfl, fun p h => absurd h (Nat.not_lt_zero _), rfl⟩ (fun i σ L F' H' hi hp w => ?_) (fun σ L F' H' hp w => ?_)
    · obtain ⟨y2, y3, rfl, hno, rfl⟩ := hp
      walk_at "go"
      rw [List.length_map, hrdl]
      have step : ∀ m, m < i + 1 → m = i ∨ m < i := fun m h => by omega
      have skip : spB cs n i = false → ∀ p, p < i + 1 → spB cs n p = false := fun e p hp => (step p hp).elim (fun z => z ▸ e) (hno p)
      have hit : spB cs n i = true → spC cs n = some i := fun e => List.find?_range_eq_some.mpr ⟨e, List.mem_range.mpr (by omega), fun j hj => by rw [hno j hj]; rfl⟩
      have hdec : (decide ((n : Int) ≤ (i : Nat))) = decide (n ≤ i) := decide_eq_decide.mpr (by omega)
      rw [hdec]
      by_cases h1 : n ≤ i
      · rw [decide_eq_true h1]
        have hu : (decide (n ≤ i) || decide (indG (gC cs) cs.length i = 0)) = true := by rw [decide_eq_true h1]; rfl
        walk_at "go"
        rw [show decide ((cs.length : Int) ≤ (i : Nat)) = decide (cs.length ≤ i) from decide_eq_decide.mpr (by omega)]
        by_cases h3 : cs.length ≤ i
        · rw [decide_eq_true h3]
          walk_at "go"
          rw [hit (by unfold spB; rw [hu, decide_eq_true h3]; rfl)] at q
          exact q _ _ (w.to .nil)
        · rw [decide_eq_false h3]
          obtain ⟨v, hv⟩ : ∃ v, cs[i]? = some v := ⟨_, List.getElem?_eq_getElem (by omega)⟩
          walk_at "go"
          refine w_ixL _ _ (by walk_at "sq") (atI_nat hv) ?_
          walk_at "go"
          refine ⟨scal_flat (hcf v (List.mem_of_getElem? hv)) (.inr (.inl ⟨_, rfl⟩)), ?_⟩
          have ec : chgC cs i = !decide (v = .int (i : Nat)) := by
            unfold chgC
            rw [hv]
            congr 1
            exact decide_eq_decide.mpr ⟨fun e => Option.some.inj e, fun e => by rw [e]⟩
          rw [← ec]
          cases e : chgC cs i with
          | true =>
            walk_at "go"
            rw [hit (by unfold spB; rw [hu, decide_eq_false h3, e]; rfl)] at q
            exact q _ _ (w.to .nil)
          | false =>
            walk_at "go"
            exact nx_mk w ⟨_, _, rfl, skip (by unfold spB; rw [hu, decide_eq_false h3, e]; rfl), rfl⟩ (by walk_at "pk")
      · rw [decide_eq_false h1]
        have hg : ((rdN cs n).map fun (k : Nat) => V.int (k : Nat))[i]? = some (.int (indG (gC cs) cs.length i : Nat)) := by rw [List.getElem?_map, rdN_get _ (by omega)]; rfl
        walk_at "go"
        refine w_ixL _ _ (by walk_at "sq") (atI_nat hg) ?_
        walk_at "go"
        rw [show decide (((indG (gC cs) cs.length i : Nat) : Int) = 0) = decide (indG (gC cs) cs.length i = 0) from decide_eq_decide.mpr (by omega)]
        by_cases h2 : indG (gC cs) cs.length i = 0
        · rw [decide_eq_true h2]
          have hu : (decide (n ≤ i) || decide (indG (gC cs) cs.length i = 0)) = true := by rw [decide_eq_true h2, Bool.or_true]
          walk_at "go"
          rw [show decide ((cs.length : Int) ≤ (i : Nat)) = decide (cs.length ≤ i) from decide_eq_decide.mpr (by omega)]
          by_cases h3 : cs.length ≤ i
          · rw [decide_eq_true h3]
            walk_at "go"
            rw [hit (by unfold spB; rw [hu, decide_eq_true h3]; rfl)] at q
            exact q _ _ (w.to .nil)
          · rw [decide_eq_false h3]
            obtain ⟨v, hv⟩ : ∃ v, cs[i]? = some v := ⟨_, List.getElem?_eq_getElem (by omega)⟩
            walk_at "go"
            refine w_ixL _ _ (by walk_at "sq") (atI_nat hv) ?_
            walk_at "go"
            refine ⟨scal_flat (hcf v (List.mem_of_getElem? hv)) (.inr (.inl ⟨_, rfl⟩)), ?_⟩
            have ec : chgC cs i = !decide (v = .int (i : Nat)) := by
              unfold chgC
              rw [hv]
              congr 1
              exact decide_eq_decide.mpr ⟨fun e => Option.some.inj e, fun e => by rw [e]⟩
            rw [← ec]
            cases e : chgC cs i with
            | true =>
              walk_at "go"
              rw [hit (by unfold spB; rw [hu, decide_eq_false h3, e]; rfl)] at q
              exact q _ _ (w.to .nil)
            | false =>
              walk_at "go"
              exact nx_mk w ⟨_, _, rfl, skip (by unfold spB; rw [hu, decide_eq_false h3, e]; rfl), rfl⟩ (by walk_at "pk")
        · rw [decide_eq_false h2]
          have hu : (decide (n ≤ i) || decide (indG (gC cs) cs.length i = 0)) = false := by rw [decide_eq_false h1, decide_eq_false h2]; rfl
          walk_at "go"
          exact nx_mk w ⟨_, _, rfl, skip (by unfold spB; rw [hu]; rfl), rfl⟩ (by walk_at "pk")
    · obtain ⟨y2, y3, rfl, hno, rfl⟩ := hp
      have e : spC cs n = none := List.find?_eq_none.mpr fun p hp => by
        have := List.mem_range.mp hp
        rw [hno p (by omega)]
        decide
      walk_at "go"
      rw [e] at q
      exact q _ _ (w.to .nil)
-- round_rows
theorem ok_round_rows {f : Addr} {fd : FuncData} (F : FunD K "round_rows" "round_rows" (defArgs s_round_rows) (defBody s_round_rows) (defScope s_round_rows) [] [] f fd) (T : Txt K mg)  : FnOk P w K mg base CX0 1 f fd ["ring"] (S1 (φround K)) := by
  refine F.ok sc_round_rows (fun vs H Q E h => ?_) (fun cdv A outer s H vs Q E hr h => ?_)
  · exact S1.len h
  · match vs, h with
    | [v0], h =>
    have hu := hu_of hr
    refine ⟨_, PSs.nox (pss_one (ps_ret (pe_lc (own := [("k", 1)]) (g := gName 1) rfl sc_round_rows.nd (pi_range1 rfl T.b_range (pa_cons (pe_op op_sub (pe_callB (clLenQ (K := K)) (by rfl) T.b_len (by decide +kernel) (pa_cons (pv 0) pa_nil)) pe_int) pa_nil)) (blkOk_by (own := [("k", 1)]) (N := ["ring", "k"]) (sc := defScope s_round_rows) (by decide +kernel)) (fun _ _ _ _ _ => pg_name (i := 1) sc_round_rows.nd rfl (Or.inl rfl)) (fun _ _ _ _ _ => pts_nil) (fun _ _ _ _ _ => (pe_tup (pa_cons pe_str (pa_cons (pe_ix (ixL (K := K)) (pv 0) (pv 1) (fun _ _ => rfl)) (pa_cons (pe_ix (ixL (K := K)) (pv 0) (pe_op op_add (pv 1) pe_int) (fun _ _ => rfl)) (pa_cons pe_int pa_nil))))))))), ?_⟩
    rw [show start ["ring", "k"] [v0] = [some v0, none] from rfl]
    obtain ⟨F, a, r, rfl, hw, hA, hl, h1, q⟩ := h
    have w := (W.start (M := []) hw).push (imL K a _) hA
    walk_at "go"
    rw [List.length_map]
    obtain ⟨mm, emm⟩ : ∃ m : Nat, m + 1 = r.length := ⟨r.length - 1, by omega⟩
    rw [show ((r.length : Nat) : Int) - 1 = (mm : Nat) by omega]
    replace w := w.push (dpa K [] (((rndR r).take 0).map JR.d)) .nil
    have hrl := rnd_len r
    walk_at "go"
    refine n_lcR (n := mm) w (fun j ys L => ys.length = j ∧ L = [dpa K ys (((rndR r).take j).map JR.d), imL K a (r.map fun (k : Nat) => V.int (k : Nat))]) ⟨rfl, rfl⟩ (fun j ys L F' H' D hj hp w hD => ?_) (fun D ys L F' H' hp w hD => ?_)
    · obtain ⟨hyl, rfl⟩ := hp
      obtain ⟨x, hx⟩ : ∃ x, r[j]? = some x := ⟨_, List.getElem?_eq_getElem (by omega)⟩
      obtain ⟨y, hy⟩ : ∃ y, r[j + 1]? = some y := ⟨_, List.getElem?_eq_getElem (by omega)⟩
      have gx : (r.map fun (k : Nat) => V.int (k : Nat))[j]? = some (.int (x : Nat)) := by rw [List.getElem?_map, hx]; rfl
      have gy : (r.map fun (k : Nat) => V.int (k : Nat))[j + 1]? = some (.int (y : Nat)) := by rw [List.getElem?_map, hy]; rfl
      have gr := rnd_get r hx hy
      walk_at "wp"
      walk_at "go"
      refine w_ixL _ _ (by walk_at "sq") (atI_nat gx) ?_
      walk_at "go"
      refine w_ixL _ _ (by walk_at "sq") (atI_nat gy) ?_
      walk_at "go"
      refine n_tup w (szle (by simp)) fun t F2 H2 w => ?_
      have d2 := dpa_snoc (w.dpa (K := K) (xs := ys) (ds := ((rndR r).take j).map JR.d) (by walk_at "mem")) (d := (JR.copy (x : Nat) (y : Nat) 1).d) (.tup (sqT_of (w.i (fx t _) (by walk_at "mem"))) (.cons (.str _) (.cons (.int _) (.cons (.int _) (.cons (.int _) .nil)))))
      rw [show ((rndR r).take j).map JR.d ++ [(JR.copy (x : Nat) (y : Nat) 1).d] = ((rndR r).take (j + 1)).map JR.d by rw [List.take_add_one, gr, List.map_append]; rfl] at d2
      replace w := w.push (dpa K (ys ++ [V.ref t]) (((rndR r).take (j + 1)).map JR.d)) d2
      walk_at "go"
      exact n_acc ys w ⟨by rw [List.length_append, hyl]; rfl, rfl⟩ (by walk_at "pk") (small_lt (by omega))
    · obtain ⟨hyl, rfl⟩ := hp
      rw [List.take_of_length_le (by omega)] at w
      exact q D ys _ _ hD (w.to (by walk_at "pick"))
-- pure_rows
theorem ok_pure_rows {f : Addr} {fd : FuncData} (F : FunD K "pure_rows" "pure_rows" (defArgs s_pure_rows) (defBody s_pure_rows) (defScope s_pure_rows) [] [] f fd) (T : Txt K mg) (D_round_rows : DO P w K mg base 1 "round_rows" ["ring"] [] (S1 (φround K))) : FnOk P w K mg base CX0 2 f fd ["pure", "spare", "cell"] (S3 (φpurerows K)) := by
  refine F.ok sc_pure_rows (fun vs H Q E h => ?_) (fun cdv A outer s H vs Q E hr h => ?_)
  · exact S3.len h
  · match vs, h with
    | [v0, v1, v2], h =>
    have hu := hu_of hr
    refine ⟨_, PSs.nox (pss_cons (ps_set (i := 3) sc_pure_rows.nd rfl (.inl rfl) (pe_lst pa_nil))
      (pss_cons (ps_for PassesOwn.never rfl (pi_list (pv 0)) (pg_name (i := 4) sc_pure_rows.nd rfl (.inl rfl)) (pss_one (ps_if (pt_cmpR op_gt (pv 1) pe_int (nomark _)) (pss_cons (ps_expr (peBM (K := K) PySem.F.plainAttrs_list PySem.F.slot_list_append PySem.F.type_list_append mt_append (pv 3) (pa_cons (pe_tup (pa_cons pe_str (pa_cons pe_int (pa_cons (pe_ix (ixL (K := K)) (pv 4) pe_int (fun _ _ => rfl)) (pa_cons pe_int pa_nil))))) pa_nil)))
      (pss_one (ps_set (i := 3) sc_pure_rows.nd rfl (.inl rfl) (pe_op op_cat (pe_op op_cat (pv 3) (pcall D_round_rows hr (pa_cons (pv 4) pa_nil))) (pe_lst (pa_cons (pe_tup (pa_cons pe_str (pa_cons (pe_ix (ixL (K := K)) (pv 4) (pe_un un_neg pe_int) (fun _ _ => rfl)) (pa_cons pe_int (pa_cons pe_int pa_nil))))) pa_nil)))))) (pss_cons (ps_expr (peBM (K := K) PySem.F.plainAttrs_list PySem.F.slot_list_append PySem.F.type_list_append mt_append (pv 3) (pa_cons (pe_tup (pa_cons pe_str (pa_cons (pv 2) (pa_cons (pe_ix (ixL (K := K)) (pv 4) pe_int (fun _ _ => rfl)) (pa_cons pe_int pa_nil))))) pa_nil)))
      (pss_one (ps_set (i := 3) sc_pure_rows.nd rfl (.inl rfl) (pe_op op_cat (pe_op op_cat (pv 3) (pcall D_round_rows hr (pa_cons (pv 4) pa_nil))) (pe_lst (pa_cons (pe_tup (pa_cons pe_str (pa_cons (pe_ix (ixL (K := K)) (pv 4) (pe_un un_neg pe_int) (fun _ _ => rfl)) (pa_cons (pv 2) (pa_cons pe_int pa_nil))))) pa_nil)))))))))
      (pss_one (ps_ret (pv 3))))), ?_⟩
    rw [show start ["pure", "spare", "cell", "rows", "ring"] [v0, v1, v2] = [some v0, some v1, some v2, none, none] from rfl]
    obtain ⟨F, a, us, as, spare, c, rfl, rfl, rfl, hw, hA, hD, hr, hal, hsp, q⟩ := h
    have w := ((W.start (M := []) hw).push (imL K a us) hA).push (dpa K us (as.map rngD)) hD
    have hul : us.length = as.length := by rw [dpa_len hD, List.length_map]
    walk_at "go"
    refine n_lst w (szle (by simp)) fun fp F1 H1 w hfp => ?_
    replace w := w.push (dpa K [] (([] : List JR).map JR.d)) .nil
    walk_at "go"
    refine n_forL us w (fun i σ L => ∃ p vs y4, σ = [some (.ref a), some (.int (spare : Nat)), some (spV c), some (.ref p), y4] ∧ H p = none ∧ vs.length ≤ i * 401 ∧ L = [mu p (.lst vs), dpa K vs (((as.take i).flatMap (onePur (decide (0 < spare)) (c.getD 0))).map JR.d), imL K a us, dpa K us (as.map rngD)]) ⟨fp, [], _, rfl, hfp, Nat.zero_le _, rfl⟩ (fun i σ L F' H' hp w => ?_) (fun i x σ L F' H' hx hp w => ?_) (fun σ L F' H' hp w => ?_)
    · obtain ⟨p, vs, y4, rfl, hpn, hvl, rfl⟩ := hp
      walk_at "sq"
    · obtain ⟨p, vs, y4, rfl, hpn, hvl, rfl⟩ := hp
      obtain ⟨r, hra, dr⟩ := dpa_at (w.dpa (K := K) (xs := us) (ds := as.map rngD) (by walk_at "mem")) hx
      have hil := (List.getElem?_eq_some_iff.mp hra).1
      obtain ⟨hr1, hr2⟩ := hr r (List.mem_of_getElem? hra)
      obtain ⟨ra, ws, rfl, hrS, hrD⟩ := dp_list dr
      obtain rfl := dpa_numsI hrD
      replace w := w.push (imL K ra _) hrS
      have hrne : r ≠ [] := fun e => by rw [e] at hr1; simp at hr1
      have et : as.take (i + 1) = as.take i ++ [r] := by rw [List.take_add_one, hra]; rfl
      have g0 : (r.map fun (k : Nat) => V.int (k : Nat))[0]? = some (.int (frstN r : Nat)) := by rw [List.getElem?_map, frst_get hrne]; rfl
      have g1 : atI (r.map fun (k : Nat) => V.int (k : Nat)) (-1) = some (.int (lastN r : Nat)) := lastS (by rw [List.length_map, List.getElem?_map, last_get hrne]; rfl)
      by_cases hs : 0 < spare
      · rw [decide_eq_true hs] at w
        walk_at "go"
        rw [decide_eq_true (show (0 : Int) < (spare : Nat) by omega)]
        walk_at "go"
        refine w_ixL _ _ (by walk_at "sq") (atI_nat g0) ?_
        walk_at "go"
        refine n_tup w (szle (by simp)) fun t1 F2 H2 w => ?_
        walk_at "go"
        refine n_app (p := p) w (by walk_at "pick") (small_lt (by omega)) fun H3 w => ?_
        walk_at "go"
        refine ⟨_, ra, r, rfl, w.fh, w.imL (by walk_at "mem"), hr2, hr1, fun p2 v2 F4 H4 hp2 w2 => ?_⟩
        have hp2' := w.g.fresh hp2
        replace w := w.cal .nil w2 (by walk_at "app")
        have hv2 : v2.length = r.length - 1 := by rw [dpa_len (w.dpa (K := K) (xs := v2) (ds := (rndR r).map JR.d) (by walk_at "mem")), List.length_map, rnd_len]
        walk_at "go"
        refine n_cat (p := p) (q := p2) w (by walk_at "at") (by walk_at "at") (szle (by rw [List.length_append, List.length_singleton]; omega)) fun p3 F5 H5 w hp3 => ?_
        walk_at "go"
        refine w_ixL _ _ (by walk_at "sq") g1 ?_
        walk_at "go"
        refine n_tup w (szle (by simp)) fun t2 F6 H6 w => ?_
        walk_at "go"
        refine n_lst w (szle (by simp)) fun p4 F7 H7 w hp4 => ?_
        walk_at "go"
        refine n_cat (p := p3) (q := p4) w (by walk_at "at") (by walk_at "at") (szle (by rw [List.length_append, List.length_append, List.length_singleton, List.length_singleton]; omega)) fun p5 F8 H8 w hp5 => ?_
        have d1 : Dp K F8 (.ref t1) (JR.keep 0 (frstN r : Nat) 1).d := .tup (sqT_of (w.i (fx t1 _) (by walk_at "mem"))) (.cons (.str _) (.cons (.int _) (.cons (.int _) (.cons (.int _) .nil))))
        have d2 : Dp K F8 (.ref t2) (JR.lay (lastN r : Nat) 0 1).d := .tup (sqT_of (w.i (fx t2 _) (by walk_at "mem"))) (.cons (.str _) (.cons (.int _) (.cons (.int _) (.cons (.int _) .nil))))
        have d9 := dpa_snoc (dpa_app (dpa_snoc (w.dpa (K := K) (xs := vs) (by walk_at "mem")) d1) (w.dpa (K := K) (xs := v2) (ds := (rndR r).map JR.d) (by walk_at "mem"))) d2
        rw [show ((as.take i).flatMap (onePur true (c.getD 0))).map JR.d ++ [(JR.keep 0 (frstN r : Nat) 1).d] ++ (rndR r).map JR.d ++ [(JR.lay (lastN r : Nat) 0 1).d] = ((as.take (i + 1)).flatMap (onePur (decide (0 < spare)) (c.getD 0))).map JR.d by rw [decide_eq_true hs, et, List.flatMap_append, List.map_append, List.flatMap_singleton]; simp [onePur, List.map_append]] at d9
        replace w := w.push (dpa K (vs ++ [V.ref t1] ++ v2 ++ [V.ref t2]) (((as.take (i + 1)).flatMap (onePur (decide (0 < spare)) (c.getD 0))).map JR.d)) d9
        walk_at "go"
        exact nx_mk w ⟨p5, vs ++ [V.ref t1] ++ v2 ++ [V.ref t2], _, rfl, hp5, by rw [List.length_append, List.length_append, List.length_append, List.length_singleton, List.length_singleton]; omega, rfl⟩ (by walk_at "pk")
      · rw [decide_eq_false hs] at w
        obtain ⟨c0, rfl⟩ : ∃ c0, c = some c0 := by
          rcases hsp (by omega) with h | h
          · rw [h] at hra
            simp at hra
          · cases c with
            | none => exact absurd rfl h
            | some c0 => exact ⟨c0, rfl⟩
        walk_at "go"
        rw [decide_eq_false (show ¬ (0 : Int) < (spare : Nat) by omega)]
        walk_at "go"
        refine w_ixL _ _ (by walk_at "sq") (atI_nat g0) ?_
        walk_at "go"
        refine n_tup w (szle (by simp)) fun t1 F2 H2 w => ?_
        walk_at "go"
        refine n_app (p := p) w (by walk_at "pick") (small_lt (by omega)) fun H3 w => ?_
        walk_at "go"
        refine ⟨_, ra, r, rfl, w.fh, w.imL (by walk_at "mem"), hr2, hr1, fun p2 v2 F4 H4 hp2 w2 => ?_⟩
        have hp2' := w.g.fresh hp2
        replace w := w.cal .nil w2 (by walk_at "app")
        have hv2 : v2.length = r.length - 1 := by rw [dpa_len (w.dpa (K := K) (xs := v2) (ds := (rndR r).map JR.d) (by walk_at "mem")), List.length_map, rnd_len]
        walk_at "go"
        refine n_cat (p := p) (q := p2) w (by walk_at "at") (by walk_at "at") (szle (by rw [List.length_append, List.length_singleton]; omega)) fun p3 F5 H5 w hp3 => ?_
        walk_at "go"
        refine w_ixL _ _ (by walk_at "sq") g1 ?_
        walk_at "go"
        refine n_tup w (szle (by simp)) fun t2 F6 H6 w => ?_
        walk_at "go"
        refine n_lst w (szle (by simp)) fun p4 F7 H7 w hp4 => ?_
        walk_at "go"
        refine n_cat (p := p3) (q := p4) w (by walk_at "at") (by walk_at "at") (szle (by rw [List.length_append, List.length_append, List.length_singleton, List.length_singleton]; omega)) fun p5 F8 H8 w hp5 => ?_
        have d1 : Dp K F8 (.ref t1) (JR.copy (c0 : Nat) (frstN r : Nat) 1).d := .tup (sqT_of (w.i (fx t1 _) (by walk_at "mem"))) (.cons (.str _) (.cons (.int _) (.cons (.int _) (.cons (.int _) .nil))))
        have d2 : Dp K F8 (.ref t2) (JR.copy (lastN r : Nat) (c0 : Nat) 1).d := .tup (sqT_of (w.i (fx t2 _) (by walk_at "mem"))) (.cons (.str _) (.cons (.int _) (.cons (.int _) (.cons (.int _) .nil))))
        have d9 := dpa_snoc (dpa_app (dpa_snoc (w.dpa (K := K) (xs := vs) (by walk_at "mem")) d1) (w.dpa (K := K) (xs := v2) (ds := (rndR r).map JR.d) (by walk_at "mem"))) d2
        rw [show ((as.take i).flatMap (onePur false ((some c0 : Option Nat).getD 0))).map JR.d ++ [(JR.copy (c0 : Nat) (frstN r : Nat) 1).d] ++ (rndR r).map JR.d ++ [(JR.copy (lastN r : Nat) (c0 : Nat) 1).d] = ((as.take (i + 1)).flatMap (onePur (decide (0 < spare)) ((some c0 : Option Nat).getD 0))).map JR.d by rw [decide_eq_false hs, et, List.flatMap_append, List.map_append, List.flatMap_singleton]; simp [onePur, List.map_append]] at d9
        replace w := w.push (dpa K (vs ++ [V.ref t1] ++ v2 ++ [V.ref t2]) (((as.take (i + 1)).flatMap (onePur (decide (0 < spare)) ((some c0 : Option Nat).getD 0))).map JR.d)) d9
        walk_at "go"
        exact nx_mk w ⟨p5, vs ++ [V.ref t1] ++ v2 ++ [V.ref t2], _, rfl, hp5, by rw [List.length_append, List.length_append, List.length_append, List.length_singleton, List.length_singleton]; omega, rfl⟩ (by walk_at "pk")
    · obtain ⟨p, vs, y4, rfl, hpn, hvl, rfl⟩ := hp
      rw [hul, List.take_length] at w
      walk_at "go"
      exact q p vs _ _ hpn (w.to (by walk_at "pick"))
-- unread_rows
theorem ok_unread_rows {f : Addr} {fd : FuncData} (F : FunD K "unread_rows" "unread_rows" (defArgs s_unread_rows) (defBody s_unread_rows) (defScope s_unread_rows) [] [] f fd) (T : Txt K mg) (D_changing : DO P w K mg base 1 "changing" ["cells"] [] (S1 (φchanging K))) : FnOk P w K mg base CX0 2 f fd ["cells", "reads", "held"] (S3 (φunread K)) := by
  refine F.ok sc_unread_rows (fun vs H Q E h => ?_) (fun cdv A outer s H vs Q E hr h => ?_)
  · exact S3.len h
  · match vs, h with
    | [v0, v1, v2], h =>
    have hu := hu_of hr
    refine ⟨_, PSs.nox (pss_cons (ps_set (i := 3) sc_unread_rows.nd rfl (.inr rfl) (pe_callTy (clListOf (K := K)) (by rfl) T.b_list (by decide +kernel) (pa_cons (pv 1) pa_nil)))
      (pss_cons (ps_set (i := 4) sc_unread_rows.nd rfl (.inl rfl) (pe_lst pa_nil))
      (pss_cons (ps_setLc (i := 5) (own := [("place", 6)]) (g := gName 6) rfl sc_unread_rows.nd rfl rfl (sw_true rfl rfl rfl (by decide +kernel)) (pi_list (pcall D_changing hr (pa_cons (pv 0) pa_nil))) (blkOk_by (own := [("place", 6)]) (N := ["cells", "reads", "held", "left", "rows", "ready", "place", "what"]) (sc := defScope s_unread_rows) (by decide +kernel)) (fun _ _ _ _ _ => pg_name (i := 6) sc_unread_rows.nd rfl (Or.inl rfl)) (fun _ _ _ _ _ => pts_one (PW.pt (pw_or (pt_cmpR op_ge (pv 6) (pe_callB (clLenQ (K := K)) (by rfl) T.b_len (by decide +kernel) (pa_cons (pv 3) pa_nil)) (nomark _)) (pw_or1 (pt_cmpR op_eq (pe_ix (ixL (K := K)) (pv 3) (pv 6) (fun _ _ => rfl)) pe_int (nomark _)))))) (fun _ _ _ _ _ => (pv 6)))
      (pss_cons (ps_while PassesOwn.never (pt_cmpR (opNeD (K := K) hr.units) (pv 5) (pe_lst pa_nil) (nomark _)) (pss_cons (ps_set (i := 6) sc_unread_rows.nd rfl (.inl rfl) (peBM0 (K := K) PySem.F.plainAttrs_list PySem.F.slot_list_pop PySem.F.type_list_pop mt_pop (pv 5)))
      (pss_cons (ps_set (i := 7) sc_unread_rows.nd rfl (.inl rfl) (pe_ix (ixL (K := K)) (pv 0) (pv 6) (fun _ _ => rfl)))
      (pss_cons (ps_if (pt_not (pt_val (pe_callB (clIsi (K := K)) (by rfl) T.b_isinstance (by decide +kernel) (pa_cons (pv 7) (pa_cons (pe_bltn (v := .ty "int") (by rfl) T.b_int (by decide +kernel) rfl) pa_nil))))) (pss_cons (ps_expr (peBM (K := K) PySem.F.plainAttrs_list PySem.F.slot_list_append PySem.F.type_list_append mt_append (pv 4) (pa_cons (pe_tup (pa_cons pe_str (pa_cons (pv 6) (pa_cons (pv 7) pa_nil)))) pa_nil)))
      (pss_one ps_continue)) pss_nil)
      (pss_cons (ps_expr (peBM (K := K) PySem.F.plainAttrs_list PySem.F.slot_list_append PySem.F.type_list_append mt_append (pv 4) (pa_cons (pe_tup (pa_cons pe_str (pa_cons (pv 6) (pa_cons (pv 7) (pa_cons pe_int pa_nil))))) pa_nil)))
      (pss_cons (ps_dput hu (pv 2) (pv 7) (pv 6) rfl)
      (pss_cons (ps_augS (pv 3) (pv 7) (pgL (K := K)) pe_int ip_sub set_list)
      (pss_one (ps_if (PW.pt (pw_and (pt_cmpR op_eq (pe_ix (ixL (K := K)) (pv 3) (pv 7) (fun _ _ => rfl)) pe_int (nomark _)) (pw_and (pt_cmpR op_lt (pv 7) (pe_callB (clLenQ (K := K)) (by rfl) T.b_len (by decide +kernel) (pa_cons (pv 0) pa_nil)) (nomark _)) (pw_and1 (pt_cmpR op_ne (pe_ix (ixL (K := K)) (pv 0) (pv 7) (fun _ _ => rfl)) (pv 7) (nomark _)))))) (pss_one (ps_expr (peBM (K := K) PySem.F.plainAttrs_list PySem.F.slot_list_append PySem.F.type_list_append mt_append (pv 5) (pa_cons (pv 7) pa_nil)))) pss_nil)))))))))
      (pss_one (ps_ret (pv 4))))))), ?_⟩
    rw [show start ["cells", "reads", "held", "left", "rows", "ready", "place", "what"] [v0, v1, v2] = [some v0, some v1, some v2, none, none, none, none, none] from rfl]
    obtain ⟨F, a, b, d, cs, n, rfl, rfl, rfl, s0, hA, hB, hc, hcl, hn, q⟩ := h
    have w := ((s0.w (M := [d])).push (imL K a cs) hA).push (imL K b _) hB
    have hcf : ∀ v ∈ cs, FlatV v := fun v hv => (hc v hv).flat
    have hchl := ch_len cs
    walk_at "go"
    refine n_listOf w (by walk_at "sq") fun pl F1 H1 w hpl => ?_
    rw [← lf_nil hc] at w
    walk_at "go"
    refine n_lst w (szle (by simp)) fun pr F1 H1 w hpr => ?_
    walk_at "go"
    refine ⟨_, a, cs, rfl, w.fh, w.imL (by walk_at "mem"), hcf, by omega, fun pc F2 H2 hpc w2 => ?_⟩
    have hpc' := w.g.fresh hpc
    replace w := w.cal .nil w2 (by walk_at "app")
    obtain ⟨F2, w⟩ := w.fzL (p := pc) (by walk_at "pick") hpc'
    walk_at "go"
    refine n_lcL ((chL cs).map fun (k : Nat) => V.int (k : Nat)) w (fun j ys L => ys = (((chL cs).take j).filter fun p => decide (n ≤ p) || decide (lfC cs [] p = 0)).map (fun (k : Nat) => V.int (k : Nat)) ∧ L = [fx pc (.lst ((chL cs).map fun (k : Nat) => V.int (k : Nat))), mu pr (.lst []), mu pl (.lst ((lfN cs n []).map fun (k : Nat) => V.int (k : Nat))), imL K a cs, mu d (.dK [])]) ⟨rfl, rfl⟩ (fun j ys L F' H' D hp w => ?_) (fun j x ys L F' H' D hx hp w hD => ?_) (fun D ys L F' H' hp w hD => ?_)
    · obtain ⟨rfl, rfl⟩ := hp
      walk_at "sq"
    · obtain ⟨rfl, rfl⟩ := hp
      obtain ⟨p, hp, rfl⟩ := map_at hx
      have hjl := (List.getElem?_eq_some_iff.mp hp).1
      have et : (chL cs).take (j + 1) = (chL cs).take j ++ [p] := by rw [List.take_add_one, hp]; rfl
      have hyl := List.length_filter_le (fun p => decide (n ≤ p) || decide (lfC cs [] p = 0)) ((chL cs).take j)
      rw [List.length_take] at hyl
      have keep : (decide (n ≤ p) || decide (lfC cs [] p = 0)) = true → (((chL cs).take j).filter fun p => decide (n ≤ p) || decide (lfC cs [] p = 0)).map (fun (k : Nat) => V.int (k : Nat)) ++ [V.int (p : Nat)] = (((chL cs).take (j + 1)).filter fun p => decide (n ≤ p) || decide (lfC cs [] p = 0)).map (fun (k : Nat) => V.int (k : Nat)) := fun e => by
        rw [et, List.filter_append, List.map_append, List.filter_cons_of_pos (p := fun p => decide (n ≤ p) || decide (lfC cs [] p = 0)) e]; rfl
      have drop : (decide (n ≤ p) || decide (lfC cs [] p = 0)) = false → (((chL cs).take j).filter fun p => decide (n ≤ p) || decide (lfC cs [] p = 0)).map (fun (k : Nat) => V.int (k : Nat)) = (((chL cs).take (j + 1)).filter fun p => decide (n ≤ p) || decide (lfC cs [] p = 0)).map (fun (k : Nat) => V.int (k : Nat)) := fun e => by
        rw [et, List.filter_append, List.filter_cons_of_neg (p := fun p => decide (n ≤ p) || decide (lfC cs [] p = 0)) (by rw [e]; decide), List.filter_nil, List.append_nil]
      walk_at "wp"
      walk_at "go"
      rw [List.length_map, lfN_len, show decide ((n : Int) ≤ (p : Nat)) = decide (n ≤ p) from decide_eq_decide.mpr (by omega)]
      by_cases h1 : n ≤ p
      · rw [decide_eq_true h1]
        walk_at "go"
        refine n_acc _ w ⟨keep (by rw [decide_eq_true h1]; rfl), rfl⟩ (by walk_at "pk") (small_lt (by rw [List.length_map]; omega))
      · rw [decide_eq_false h1]
        walk_at "go"
        refine w_ixL _ _ (by walk_at "sq") (atI_nat (v := .int (lfC cs [] p : Nat)) (by rw [List.getElem?_map, lfN_get (by omega)]; rfl)) ?_
        walk_at "go"
        rw [show decide (((lfC cs [] p : Nat) : Int) = 0) = decide (lfC cs [] p = 0) from decide_eq_decide.mpr (by omega)]
        by_cases h2 : lfC cs [] p = 0
        · rw [decide_eq_true h2]
          walk_at "go"
          refine n_acc _ w ⟨keep (by rw [decide_eq_true h2, Bool.or_true]), rfl⟩ (by walk_at "pk") (small_lt (by rw [List.length_map]; omega))
        · rw [decide_eq_false h2]
          walk_at "go"
          exact ⟨_, _, _, ⟨drop (by rw [decide_eq_false h1, decide_eq_false h2]; rfl), rfl⟩, w.to (by walk_at "pick")⟩
    · obtain ⟨rfl, rfl⟩ := hp
      rw [List.length_map, List.take_length] at w
      rw [show (chL cs).filter (fun p => decide (n ≤ p) || decide (lfC cs [] p = 0)) = readyL cs n from rfl] at w
      replace w := w.push (dpa K [] ((([] : List Nat).map (rowU cs)).map JR.d)) .nil
      walk_at "go"
      refine n_while w (fun m σ L => ∃ (P Rd : List Nat) (kvs : List (Key × V)) (vs : List V), ∃ y6 y7, σ = [some (.ref a), some (.ref b), some (.ref d), some (.ref pl), some (.ref pr), some (.ref D), y6, y7] ∧ UnI cs P Rd ∧ HdOk cs P kvs ∧ m + P.length = (chL cs).length ∧ unF cs m P Rd = unP cs n ∧ L = [mu pr (.lst vs), dpa K vs ((P.map (rowU cs)).map JR.d), mu pl (.lst ((lfN cs n P).map fun (k : Nat) => V.int (k : Nat))), mu D (.lst (Rd.map fun (k : Nat) => V.int (k : Nat))), mu d (.dK kvs), imL K a cs]) (m0 := (chL cs).length) ⟨[], readyL cs n, [], [], _, _, rfl, un_start hc, hd_nil, rfl, rfl, rfl⟩ (fun m σ L F' H' hp w => ?_)
      obtain ⟨P, Rd, kvs, vs, y6, y7, rfl, U, hk, hm, hun, rfl⟩ := hp
      have hvl : vs.length = P.length := by rw [dpa_len (w.dpa (K := K) (xs := vs) (ds := (P.map (rowU cs)).map JR.d) (by walk_at "mem")), List.length_map, List.length_map]
      have hrl : Rd.length ≤ 400 := Nat.le_trans (nd_sub U.rn fun x hx => ((U.rd x).mp hx).1) (by omega)
      walk_at "go"
      refine n_lst w (szle (by simp)) fun pe F3 H3 w hpe => ?_
      walk_at "go"
      refine n_neI (by walk_at "sq") (by walk_at "sq") hrl ?_
      by_cases he : Rd = []
      · subst he
        rw [decide_eq_true rfl]
        walk_at "go"
        exact q pr vs P kvs _ _ hpr (w.to (by walk_at "pick")) U hk (unF_nil.symm.trans hun)
      · rw [decide_eq_false he]
        obtain ⟨R0, p, rfl⟩ := snoc_of he
        have hpR : p ∈ R0 ++ [p] := List.mem_append_right _ (List.mem_singleton.mpr rfl)
        obtain ⟨hp1, hp2, hp3⟩ := (U.rd p).mp hpR
        have hlt := U.lt hpR
        obtain ⟨m1, rfl⟩ : ∃ m1, m = m1 + 1 := ⟨m - 1, by omega⟩
        rw [List.map_append] at w
        walk_at "go"
        refine n_turn ?_
        walk_at "go"
        refine n_pop (p := D) (y := .int (p : Nat)) w (by walk_at "pick") fun H4 w => ?_
        walk_at "go"
        rcases ch_two hc hp1 with ⟨wh, e1, e2, e3, e4⟩ | ⟨e1, ch, e2, e3, e4⟩
        · refine w_ixL _ _ (by walk_at "sq") (atI_nat e2) ?_
          walk_at "go"
          refine u_isi (F := H4) (d := .int _) (.int _) (Same.refl _) (k_int _) ?_
          walk_at "go"
          refine w_is (c := false) rfl ?_
          walk_at "go"
          have hwn := (gC_lt hc e1).2
          have hlc := lf_copy hp1 hp2 e1
          refine n_tup w (szle (by simp)) fun t1 F5 H5 w => ?_
          walk_at "go"
          have d1 := dpa_snoc (w.dpa (K := K) (xs := vs) (ds := (P.map (rowU cs)).map JR.d) (by walk_at "mem")) (d := (rowU cs p).d) (by rw [e4]; exact .tup (sqT_of (w.i (fx t1 _) (by walk_at "mem"))) (.cons (.str _) (.cons (.int _) (.cons (.int _) (.cons (.int _) .nil)))))
          rw [show (P.map (rowU cs)).map JR.d ++ [(rowU cs p).d] = ((P ++ [p]).map (rowU cs)).map JR.d by rw [List.map_append, List.map_append]; rfl] at d1
          replace w := w.push (dpa K (vs ++ [V.ref t1]) (((P ++ [p]).map (rowU cs)).map JR.d)) d1
          refine n_app (p := pr) w (by walk_at "pick") (small_lt (by omega)) fun H6 w => ?_
          walk_at "go"
          refine w_dputI (by walk_at "at") (small_lt (by have := hk.len; omega)) ?_
          replace w := w.wr (p := d) (u := .dK (putK kvs (.inl (wh : Int)) (.int (p : Nat)))) (k := by walk_at "pick")
          walk_at "go"
          refine w_ixL _ _ (by walk_at "sq") (atI_nat (v := .int (lfC cs P wh : Nat)) (by rw [List.getElem?_map, lfN_get hwn]; rfl)) ?_
          walk_at "go"
          refine n_setL w (by walk_at "pick") wh (ixNat (by rw [List.length_map, lfN_len]; omega)) fun H7 w => ?_
          rw [show ((lfC cs P wh : Nat) : Int) - 1 = ((lfC cs P wh - 1 : Nat) : Int) by omega, ← List.map_set, lf_set hp1 hp2 e1] at w
          have hHd := hk.put e1
          have hnd := (List.nodup_append.mp U.rn).1
          have hw0 : wh ∉ R0 := fun z => by
            obtain ⟨_, _, z3⟩ := (U.rd wh).mp (List.mem_append_left _ z)
            exact hp2 (z3 p e1)
          have no : (wh ∈ chL cs → ¬ Fr cs (P ++ [p]) wh) → ∀ x, x ∈ R0 ↔ (x ∈ R0 ∨ (gC cs p = some x ∧ x ∈ chL cs ∧ Fr cs (P ++ [p]) x)) := fun g x => ⟨.inl, fun z => z.elim id fun ⟨z1, z2, z3⟩ => by
            rw [e1] at z1
            cases z1
            exact absurd z3 (g z2)⟩
          walk_at "go"
          refine w_ixL _ _ (by walk_at "sq") (atI_nat (v := .int (lfC cs (P ++ [p]) wh : Nat)) (by rw [List.getElem?_map, lfN_get hwn]; rfl)) ?_
          walk_at "go"
          rw [show decide (((lfC cs (P ++ [p]) wh : Nat) : Int) = 0) = decide (lfC cs (P ++ [p]) wh = 0) from decide_eq_decide.mpr (by omega)]
          by_cases h1 : lfC cs (P ++ [p]) wh = 0
          · rw [decide_eq_true h1]
            walk_at "go"
            rw [show decide ((wh : Nat) < (cs.length : Int)) = decide (wh < cs.length) from decide_eq_decide.mpr (by omega)]
            by_cases h2 : wh < cs.length
            · rw [decide_eq_true h2]
              obtain ⟨v, hv⟩ : ∃ v, cs[wh]? = some v := ⟨_, List.getElem?_eq_getElem h2⟩
              walk_at "go"
              refine w_ixL _ _ (by walk_at "sq") (atI_nat hv) ?_
              walk_at "go"
              refine ⟨scal_flat (hcf v (List.mem_of_getElem? hv)) (.inr (.inl ⟨_, rfl⟩)), ?_⟩
              have ec : chgC cs wh = !decide (v = .int (wh : Nat)) := by
                unfold chgC
                rw [hv]
                congr 1
                exact decide_eq_decide.mpr ⟨fun e => Option.some.inj e, fun e => by rw [e]⟩
              rw [← ec]
              cases e : chgC cs wh with
              | true =>
                walk_at "go"
                refine n_app (p := D) w (by walk_at "pick") (small_lt (by rw [List.length_map]; rw [List.length_append] at hrl; omega)) fun H8 w => ?_
                rw [show (R0.map fun (k : Nat) => V.int (k : Nat)) ++ [V.int (wh : Nat)] = (R0 ++ [wh]).map fun (k : Nat) => V.int (k : Nat) by rw [List.map_append]; rfl] at w
                walk_at "go"
                refine nxm_mk w (m' := m1) (by omega) ⟨P ++ [p], R0 ++ [wh], _, vs ++ [V.ref t1], _, _, rfl, U.next (List.nodup_append.mpr ⟨hnd, by simp, fun x hx y hy e => hw0 (by rw [← List.mem_singleton.mp hy, ← e]; exact hx)⟩) (fun x => ?_), hHd, by rw [List.length_append, List.length_singleton]; omega, by rw [← hun, unF_go (unE_some e1 h1 (ch_mem.mpr ⟨h2, e⟩))], rfl⟩ (by walk_at "pk")
                rw [List.mem_append, List.mem_singleton, e1]
                constructor
                · rintro (z | rfl)
                  · exact .inl z
                  · exact .inr ⟨rfl, ch_mem.mpr ⟨h2, e⟩, (fr_lf hc).mpr h1⟩
                · rintro (z | ⟨z, _⟩)
                  · exact .inl z
                  · exact .inr (Option.some.inj z).symm
              | false =>
                walk_at "go"
                exact nxm_mk w (m' := m1) (by omega) ⟨P ++ [p], R0, _, vs ++ [V.ref t1], _, _, rfl, U.next hnd (no (fun z => by rw [(ch_mem.mp z).2] at e; cases e)), hHd, by rw [List.length_append, List.length_singleton]; omega, by rw [← hun, unF_go (unE_no e1 fun z => by rw [(ch_mem.mp z.2).2] at e; cases e), List.append_nil], rfl⟩ (by walk_at "pk")
            · rw [decide_eq_false h2]
              walk_at "go"
              exact nxm_mk w (m' := m1) (by omega) ⟨P ++ [p], R0, _, vs ++ [V.ref t1], _, _, rfl, U.next hnd (no (fun z => absurd (ch_mem.mp z).1 h2)), hHd, by rw [List.length_append, List.length_singleton]; omega, by rw [← hun, unF_go (unE_no e1 fun z => absurd (ch_mem.mp z.2).1 h2), List.append_nil], rfl⟩ (by walk_at "pk")
          · rw [decide_eq_false h1]
            walk_at "go"
            exact nxm_mk w (m' := m1) (by omega) ⟨P ++ [p], R0, _, vs ++ [V.ref t1], _, _, rfl, U.next hnd (no (fun _ z => h1 ((fr_lf hc).mp z))), hHd, by rw [List.length_append, List.length_singleton]; omega, by rw [← hun, unF_go (unE_no e1 fun z => h1 z.1), List.append_nil], rfl⟩ (by walk_at "pk")
        · refine w_ixL _ _ (by walk_at "sq") (atI_nat e2) ?_
          walk_at "go"
          refine u_isi (F := H4) (d := .str _) (.str _) (Same.refl _) (k_int _) ?_
          walk_at "go"
          refine w_is (c := true) rfl ?_
          walk_at "go"
          refine n_tup w (szle (by simp)) fun t1 F5 H5 w => ?_
          walk_at "go"
          have d1 := dpa_snoc (w.dpa (K := K) (xs := vs) (ds := (P.map (rowU cs)).map JR.d) (by walk_at "mem")) (d := (rowU cs p).d) (by rw [e4]; exact .tup (sqT_of (w.i (fx t1 _) (by walk_at "mem"))) (.cons (.str _) (.cons (.int _) (.cons (.str _) .nil))))
          rw [show (P.map (rowU cs)).map JR.d ++ [(rowU cs p).d] = ((P ++ [p]).map (rowU cs)).map JR.d by rw [List.map_append, List.map_append]; rfl] at d1
          replace w := w.push (dpa K (vs ++ [V.ref t1]) (((P ++ [p]).map (rowU cs)).map JR.d)) d1
          refine n_app (p := pr) w (by walk_at "pick") (small_lt (by omega)) fun H6 w => ?_
          rw [show lfN cs n P = lfN cs n (P ++ [p]) from List.map_congr_left fun x _ => (lf_put e1 x).symm] at w
          walk_at "go"
          exact nxm_mk w (m' := m1) (by omega) ⟨P ++ [p], R0, kvs, vs ++ [V.ref t1], _, _, rfl, U.next (List.nodup_append.mp U.rn).1 (fun x => ⟨.inl, fun z => z.elim id fun z => by rw [e1] at z; cases z.1⟩), hk.no e1, by rw [List.length_append, List.length_singleton]; omega, by rw [← hun, unF_go (unE_none e1), List.append_nil], rfl⟩ (by walk_at "pk")
-- read_rows
theorem ok_read_rows {f : Addr} {fd : FuncData} (F : FunD K "read_rows" "read_rows" (defArgs s_read_rows) (defBody s_read_rows) (defScope s_read_rows) [] [] f fd) (T : Txt K mg) (D_round_rows : DO P w K mg base 1 "round_rows" ["ring"] [] (S1 (φround K))) : FnOk P w K mg base CX0 2 f fd ["ring", "held"] (S2 (φreadrows K)) := by
  refine F.ok sc_read_rows (fun vs H Q E h => ?_) (fun cdv A outer s H vs Q E hr h => ?_)
  · exact S2.len h
  · match vs, h with
    | [v0, v1], h =>
    have hu := hu_of hr
    refine ⟨_, PSs.nox (pss_cons (ps_set (i := 2) sc_read_rows.nd rfl (.inl rfl) pe_int)
      (pss_cons (ps_while PassesOwn.never (pt_cmp (pc_dnotin hu (pe_ix (ixL (K := K)) (pv 0) (pv 2) (fun _ _ => rfl)) (pv 1))) (pss_one (ps_set (i := 2) sc_read_rows.nd rfl (.inl rfl) (pe_op op_add (pv 2) pe_int))))
      (pss_cons (ps_set (i := 0) sc_read_rows.nd rfl (.inl rfl) (pe_op op_cat (pe_slice (slL (K := K)) (pv 0) (po_some (pv 2)) po_none) (pe_slice (slL (K := K)) (pv 0) po_none (po_some (pv 2)))))
      (pss_one (ps_ret (pe_op op_cat (pcall D_round_rows hr (pa_cons (pv 0) pa_nil)) (pe_lst (pa_cons (pe_tup (pa_cons pe_str (pa_cons (pe_ix (ixL (K := K)) (pv 0) (pe_un un_neg pe_int) (fun _ _ => rfl)) (pa_cons (pe_dget hu (pv 1) (pe_ix (ixL (K := K)) (pv 0) pe_int (fun _ _ => rfl)) (fun _ _ => rfl)) (pa_cons pe_int pa_nil))))) pa_nil)))))))), ?_⟩
    rw [show start ["ring", "held", "k"] [v0, v1] = [some v0, some v1, none] from rfl]
    obtain ⟨F, a, d, cs, r, P, kvs, rfl, rfl, hw, hA, hd, hk, hl, hex, q⟩ := h
    have w := ((W.start (M := []) hw).push (imL K a _) hA).push (fx d (.dK kvs)) hd
    have hin : ∃ k x : Nat, r[k]? = some x ∧ (valV kvs (.inl (x : Int))).isSome = true := by
      obtain ⟨x, hx, q0, hq0, hg⟩ := hex
      obtain ⟨k, hk0⟩ := List.mem_iff_getElem?.mp hx
      exact ⟨k, x, hk0, hk.all q0 hq0 x hg⟩
    walk_at "go"
    refine n_while w (fun m σ L => ∃ k : Nat, σ = [some (.ref a), some (.ref d), some (.int (k : Nat))] ∧ m + k = r.length ∧ (∀ (j x : Nat), j < k → r[j]? = some x → (valV kvs (.inl (x : Int))).isSome = false) ∧ L = [imL K a (r.map fun (k : Nat) => V.int (k : Nat)), fx d (.dK kvs)]) (m0 := r.length) ⟨0, rfl, rfl, fun j x h => absurd h (Nat.not_lt_zero _), rfl⟩ (fun m σ L F' H' hp w => ?_)
    obtain ⟨k, rfl, hm, hno, rfl⟩ := hp
    have hkl : k < r.length := by
      obtain ⟨k0, x0, hx0, hs0⟩ := hin
      have := (List.getElem?_eq_some_iff.mp hx0).1
      refine Classical.byContradiction fun z => ?_
      rw [hno k0 x0 (by omega) hx0] at hs0
      cases hs0
    obtain ⟨f, hf⟩ : ∃ f, r[k]? = some f := ⟨_, List.getElem?_eq_getElem hkl⟩
    have gf : (r.map fun (k : Nat) => V.int (k : Nat))[k]? = some (.int (f : Nat)) := by rw [List.getElem?_map, hf]; rfl
    walk_at "go"
    refine w_ixL _ _ (by walk_at "sq") (atI_nat gf) ?_
    walk_at "go"
    refine n_dnin (by walk_at "at") ?_
    cases e : (valV kvs (.inl (f : Int))).isSome with
    | false =>
      walk_at "go"
      refine n_turn ?_
      walk_at "go"
      refine nxm_mk w (m' := m - 1) (by omega) ⟨k + 1, rfl, by omega, fun j x hj hx => ?_, rfl⟩ (by walk_at "pk")
      by_cases hjk : j = k
      · subst hjk
        rw [hf] at hx
        cases hx
        exact e
      · exact hno j x (by omega) hx
    | true =>
      obtain ⟨qv, hqv⟩ := Option.isSome_iff_exists.mp e
      obtain ⟨q0, hq0, rfl, hg0⟩ := hk.ok f qv hqv
      have hrne : r ≠ [] := fun z => by rw [z] at hkl; simp at hkl
      walk_at "go"
      refine n_slL w (by walk_at "sq") fun s1 F1 H1 w hs1 => ?_
      rw [cut_from, ← List.map_drop] at w
      walk_at "go"
      refine n_slL w (by walk_at "sq") fun s2 F2 H2 w hs2 => ?_
      rw [cut_to, ← List.map_take] at w
      walk_at "go"
      refine n_cat (p := s1) (q := s2) w (by walk_at "at") (by walk_at "at") (szle (by rw [List.length_map, List.length_map, List.length_drop, List.length_take]; omega)) fun s3 F3 H3 w hs3 => ?_
      rw [← List.map_append] at w
      obtain ⟨F3, w⟩ := w.fzL (p := s3) (by walk_at "pick") hs3
      have tl := turn_len (r := r) (k := k)
      have tg0 := turn_get (r := r) (j := 0) hkl (by omega)
      rw [Nat.zero_add, Nat.mod_eq_of_lt hkl, hf] at tg0
      obtain ⟨l, hlst⟩ : ∃ l, (r.drop k ++ r.take k)[r.length - 1]? = some l := ⟨_, List.getElem?_eq_getElem (by rw [tl]; omega)⟩
      walk_at "go"
      refine ⟨_, s3, r.drop k ++ r.take k, rfl, w.fh, sqL_of (w.i (fx s3 _) (by walk_at "mem")), by rw [tl]; exact hl, by rw [tl]; omega, fun p2 v2 F4 H4 hp2 w2 => ?_⟩
      replace w := w.cal .nil w2 (by walk_at "app")
      have hv2 : v2.length = r.length - 1 := by rw [dpa_len (w.dpa (K := K) (xs := v2) (ds := (rndR (r.drop k ++ r.take k)).map JR.d) (by walk_at "mem")), List.length_map, rnd_len, tl]
      walk_at "go"
      refine w_ixL ((r.drop k ++ r.take k).map fun (k : Nat) => V.int (k : Nat)) (.int (l : Nat)) (by walk_at "sq") (lastS (by rw [List.length_map, List.getElem?_map, tl, hlst]; rfl)) ?_
      walk_at "go"
      refine w_ixL ((r.drop k ++ r.take k).map fun (k : Nat) => V.int (k : Nat)) (.int (f : Nat)) (by walk_at "sq") (atI_nat (by rw [List.getElem?_map, tg0]; rfl)) ?_
      walk_at "go"
      refine n_dgetV (by walk_at "at") hqv ?_
      walk_at "go"
      refine n_tup w (szle (by simp)) fun t2 F6 H6 w => ?_
      walk_at "go"
      refine n_lst w (szle (by simp)) fun p4 F7 H7 w hp4 => ?_
      walk_at "go"
      refine n_cat (p := p2) (q := p4) w (by walk_at "at") (by walk_at "at") (szle (by rw [List.length_singleton]; omega)) fun p5 F8 H8 w hp5 => ?_
      have d2 : Dp K F8 (.ref t2) (JR.copy (l : Nat) (q0 : Nat) 1).d := .tup (sqT_of (w.i (fx t2 _) (by walk_at "mem"))) (.cons (.str _) (.cons (.int _) (.cons (.int _) (.cons (.int _) .nil))))
      have d9 := dpa_snoc (w.dpa (K := K) (xs := v2) (ds := (rndR (r.drop k ++ r.take k)).map JR.d) (by walk_at "mem")) d2
      rw [show (rndR (r.drop k ++ r.take k)).map JR.d ++ [(JR.copy (l : Nat) (q0 : Nat) 1).d] = (rndR (r.drop k ++ r.take k) ++ [JR.copy (l : Nat) (q0 : Nat) 1]).map JR.d by rw [List.map_append]; rfl] at d9
      replace w := w.push (dpa K (v2 ++ [V.ref t2]) ((rndR (r.drop k ++ r.take k) ++ [JR.copy (l : Nat) (q0 : Nat) 1]).map JR.d)) d9
      exact q p5 _ k f l q0 _ _ hp5 hf hlst hq0 hg0 (rdF_eq hf (fun j x hj hx => by have z := hno j x hj hx; rw [hk.fn x, Option.isSome_map] at z; exact z) (by have z := hk.fn f; rw [hqv] at z; cases e9 : hdF cs P f with | none => rw [e9] at z; cases z | some q9 => rw [e9] at z; have z2 := V.int.inj (Option.some.inj z); rw [show q9 = q0 by omega]) hlst tg0) (w.to (by walk_at "pick"))
-- single_plan!
theorem ok_single_plan_r {f : Addr} {fd : FuncData} (F : FunD K "single_plan" "single_plan" (defArgs s_single_plan_r) (defBody s_single_plan_r) (defScope s_single_plan_r) [.int 0] [] f fd) (T : Txt K mg) (D_all_rings : DO P w K mg base 2 "all_rings" ["cells"] [] (S1 (φrings K))) (D_is_pure : DO P w K mg base 1 "is_pure" ["ring", "reads"] [] (S2 (φis_pure K))) (D_pure_rows : DO P w K mg base 2 "pure_rows" ["pure", "spare", "cell"] [] (S3 (φpurerows K))) (D_read_rows : DO P w K mg base 2 "read_rows" ["ring", "held"] [] (S2 (φreadrows K))) (D_readers : DO P w K mg base 2 "readers" ["cells", "size"] [] (S2 (φreaders K))) (D_spared_cell : DO P w K mg base 1 "spared_cell" ["cells", "reads"] [] (S2 (φspared K))) (D_unread_rows : DO P w K mg base 2 "unread_rows" ["cells", "reads", "held"] [] (S3 (φunread K))) (DM_Change_cells : DM P w K mg base 1 "Change" "cells" ["self"] [] (S1 (φcells K))) (DXI_NoSpare : DXI P w K mg base 1 "NoSpare" "need" ["self", "need"]) : FnOk P w K mg base (L2.CX P w) 4 f fd ["change", "spare"] (SX2 (φsingleX K)) := by
  refine F.ok sc_single_plan_r (fun vs H Q E h => ?_) (fun cdv A outer s H vs Q E hr h => ?_)
  · exact SX2.len h
  · match vs, h with
    | [v0, v1], h =>
    have hu := hu_of hr
    refine ⟨_, (pss_cons (PS.nox (ps_set (i := 2) sc_single_plan_r.nd rfl (.inl rfl) (pmeth0 DM_Change_cells hr (pv 0))))
      (pss_cons (PS.nox (ps_set (i := 3) sc_single_plan_r.nd rfl (.inr rfl) (pcall D_readers hr (pa_cons (pv 2) (pa_cons (peFld (K := K) (pv 0)) pa_nil)))))
      (pss_cons (PS.nox (ps_set (i := 4) sc_single_plan_r.nd rfl (.inl rfl) (pcall D_all_rings hr (pa_cons (pv 2) pa_nil))))
      (pss_cons (PS.nox (ps_setLc (i := 5) (own := [("ring", 9)]) (g := gName 9) rfl sc_single_plan_r.nd rfl rfl (sw_true rfl rfl rfl (by decide +kernel)) (pi_list (pv 4)) (blkOk_by (own := [("ring", 9)]) (N := ["change", "spare", "cells", "reads", "rings", "pure", "cell", "held", "rows", "ring"]) (sc := defScope s_single_plan_r) (by decide +kernel)) (fun _ _ _ _ _ => pg_name (i := 9) sc_single_plan_r.nd rfl (Or.inl rfl)) (fun _ _ _ _ _ => pts_one (pt_val (pcall D_is_pure hr (pa_cons (pv 9) (pa_cons (pv 3) pa_nil))))) (fun _ _ _ _ _ => (pv 9))))
      (pss_cons (PS.nox (ps_set (i := 6) sc_single_plan_r.nd rfl (.inl rfl) (pcall D_spared_cell hr (pa_cons (pv 2) (pa_cons (pv 3) pa_nil)))))
      (pss_cons (ps_if (PT.nox (PW.pt (pw_and (pt_cmpR (opNeD (K := K) hr.units) (pv 5) (pe_lst pa_nil) (nomark _)) (pw_and (pt_cmpR op_lt (pv 1) pe_int (nomark _)) (pw_and1 (pt_cmp (pc_isN (pv 6)) (by rfl))))))) (pss_one (ps_raiseF xb_LookupError rfl T.x_NoSpare DXI_NoSpare hr (takes_of rfl rfl rfl rfl) (pa_cons pe_int pa_nil))) pss_nil)
      (pss_cons (PS.nox (ps_set (i := 7) sc_single_plan_r.nd rfl (.inl rfl) pe_dnewK))
      (pss_cons (PS.nox (ps_set (i := 8) sc_single_plan_r.nd rfl (.inl rfl) (pe_op op_cat (pcall D_pure_rows hr (pa_cons (pv 5) (pa_cons (pv 1) (pa_cons (pv 6) pa_nil)))) (pcall D_unread_rows hr (pa_cons (pv 2) (pa_cons (pv 3) (pa_cons (pv 7) pa_nil)))))))
      (pss_cons (PS.nox (ps_for PassesOwn.never rfl (pi_list (pv 4)) (pg_name (i := 9) sc_single_plan_r.nd rfl (.inl rfl)) (pss_one (ps_if (pt_not (pt_val (pcall D_is_pure hr (pa_cons (pv 9) (pa_cons (pv 3) pa_nil))))) (pss_one (ps_set (i := 8) sc_single_plan_r.nd rfl (.inl rfl) (pe_op op_cat (pv 8) (pcall D_read_rows hr (pa_cons (pv 9) (pa_cons (pv 7) pa_nil)))))) pss_nil))))
      (pss_one (PS.nox (ps_ret (pv 8))))))))))))), ?_⟩
    rw [show start ["change", "spare", "cells", "reads", "rings", "pure", "cell", "held", "rows", "ring"] [v0, v1] = [some v0, some v1, none, none, none, none, none, none, none, none] from rfl]
    have kC := T.k_Change
    have kS := T.na_Change_size
    have kR := T.na_Change_rows
    
    obtain ⟨F, n, extra, rows, rfl, hw, hC, hok, hn, q1, q2⟩ := h
    obtain ⟨c, dx, rr, vs0, rfl, hcc, hrr, hD0⟩ := id hC
    have w := ((W.start (M := []) hw).push (chg K (.ref c) n rows) hC).push (fx c _) hcc
    unfold insC at w
    have hcl : (cellsV rows).length ≤ 400 := by rw [cells_len]; exact hok.sum
    have hco : ∀ v ∈ cellsV rows, CellOk n v := cells_ok hok.ok
    walk_at "go"
    refine ⟨_, n, rows, w.fh, w.i (chg K (.ref c) n rows) (by walk_at "mem"), hok, by omega, fun pd F1 H1 hpd w1 => ?_⟩
    have hpd' := w.g.fresh hpd
    replace w := w.cal .nil w1 (by walk_at "app")
    obtain ⟨F1, w⟩ := w.fzL (p := pd) (by walk_at "pick") hpd'
    obtain ⟨cs, ecs⟩ : ∃ cs, cs = cellsV rows := ⟨_, rfl⟩
    rw [← ecs] at hcl hco q1 q2 w
    walk_at "go"
    refine ⟨_, pd, cs, n, rfl, rfl, w.fh, sqL_of (w.i (fx pd _) (by walk_at "mem")), hco, hcl, hn, fun pr F1 H1 hpr w1 => ?_⟩
    have hpr' := w.g.fresh hpr
    replace w := w.cal .nil w1 (by walk_at "app")
    obtain ⟨F1, w⟩ := w.fzL (p := pr) (by walk_at "pick") hpr'
    walk_at "go"
    refine ⟨_, pd, cs, n, rfl, w.fh, sqL_of (w.i (fx pd _) (by walk_at "mem")), hco, hcl, fun v rs F1 H1 w1 hrs hrl => ?_⟩
    replace w := w.cal .nil w1 (by walk_at "app")
    obtain ⟨vp, us, rfl, w⟩ := w.open (ds := rs.map rngD) (w.i (dat K v (rgD rs)) (by walk_at "mem"))
    have hul : us.length = rs.length := by rw [dpa_len (w.dpa (K := K) (xs := us) (ds := rs.map rngD) (by walk_at "mem")), List.length_map]
    have hrlen : ∀ r ∈ rs, r.length ≤ 400 := fun r hr => nodup_lt 400 r (hrs.ok.nd r hr) fun x hx => by have := (hrs.lt hco hr hx).2; omega
    have hrdl := rdN_len cs n
    replace w := w.push (dpa K [] ((([] : List (List Nat)).filter (pureB cs)).map rngD)) .nil
    walk_at "go"
    refine n_lcL us w (fun j ys L => L = [dpa K ys (((rs.take j).filter (pureB cs)).map rngD), imL K vp us, dpa K us (rs.map rngD), fx pr (.lst ((rdN cs n).map fun (k : Nat) => V.int (k : Nat))), fx pd (.lst cs)]) rfl (fun j ys L F' H' D hp w => ?_) (fun j z ys L F' H' D hz hp w hD => ?_) (fun D1 ys L F' H' hp w hD1 => ?_)
    · subst hp
      walk_at "sq"
    · subst hp
      obtain ⟨r, hr, dr⟩ := dpa_at (w.dpa (K := K) (xs := us) (ds := rs.map rngD) (by walk_at "mem")) hz
      have hrm := List.mem_of_getElem? hr
      have hjl := (List.getElem?_eq_some_iff.mp hr).1
      have et : rs.take (j + 1) = rs.take j ++ [r] := by rw [List.take_add_one, hr]; rfl
      have hyl : ys.length ≤ 400 := by
        rw [dpa_len (w.dpa (K := K) (xs := ys) (by walk_at "mem")), List.length_map]
        have h5 := List.length_filter_le (pureB cs) (rs.take j)
        rw [List.length_take] at h5
        omega
      have dr2 := dr
      obtain ⟨ra, ws, rfl, hrS, hrD⟩ := dp_list dr2
      obtain rfl := dpa_numsI hrD
      replace w := w.push (imL K ra _) hrS
      walk_at "wp"
      walk_at "go"
      refine ⟨H', ra, pr, cs, n, r, rfl, rfl, Same.refl _, by walk_at "sq", by walk_at "sq", fun x hx => (hrs.lt hco hrm hx).1, hn, hcl, hrlen r hrm, fun F2 H2 w2 => ?_⟩
      replace w := w.ro0 w2
      cases e : pureB cs r with
      | true =>
        have d2 := dpa_snoc (w.dpa (K := K) (xs := ys) (by walk_at "mem")) dr
        rw [show ((rs.take j).filter (pureB cs)).map rngD ++ [rngD r] = ((rs.take (j + 1)).filter (pureB cs)).map rngD by rw [et, List.filter_append, List.map_append, List.filter_cons_of_pos e]; rfl] at d2
        replace w := w.push (dpa K (ys ++ [V.ref ra]) (((rs.take (j + 1)).filter (pureB cs)).map rngD)) d2
        walk_at "go"
        exact n_acc ys w rfl (by walk_at "pk") (small_lt (by omega))
      | false =>
        rw [show ((rs.take j).filter (pureB cs)).map rngD = ((rs.take (j + 1)).filter (pureB cs)).map rngD by rw [et, List.filter_append, List.filter_cons_of_neg (by rw [e]; decide), List.filter_nil, List.append_nil]] at w
        walk_at "go"
        exact ⟨ys, _, _, rfl, w.to (by walk_at "pick")⟩
    · subst hp
      rw [hul, List.take_length] at w
      obtain ⟨F2, w⟩ := w.fzL (p := D1) (by walk_at "pick") hD1
      walk_at "go"
      refine ⟨_, pd, pr, cs, n, rfl, rfl, w.fh, sqL_of (w.i (fx pd _) (by walk_at "mem")), sqL_of (w.i (fx pr _) (by walk_at "mem")), hco, hcl, hn, fun F3 H3 w3 => ?_⟩
      replace w := w.cal .nil w3 (by walk_at "app")
      obtain ⟨so, eso⟩ : ∃ so, so = spC cs n := ⟨_, rfl⟩
      rw [← eso]
      walk_at "go"
      refine n_lst w (szle (by simp)) fun pe F3 H3 w hpe => ?_
      walk_at "go"
      have hpl : (rs.filter (pureB cs)).length ≤ 400 := Nat.le_trans (List.length_filter_le _ _) hrl
      refine n_neRg (as := rs.filter (pureB cs)) (by walk_at "sq") (by walk_at "sq") (dpa_same w.fh _ _ (w.dpa (K := K) (xs := ys) (by walk_at "mem"))) (fun r hr => hrlen r (List.mem_filter.mp hr).1) hpl ?_
      have hpur : purC cs = (rs.filter (pureB cs)).length := hrs.pur.symm
      by_cases hp0 : rs.filter (pureB cs) = []
      · rw [decide_eq_true hp0]
        have hsp0 : extra = 0 → rs.filter (pureB cs) = [] ∨ so ≠ none := fun _ => .inl hp0
        have hsp1 : decide (0 < extra) = false → spC cs n = some (so.getD 0) ∨ rs.filter (pureB cs) = [] := fun _ => .inr hp0
        have hnb : ¬ barC cs n extra := fun z => z.2.1 (by rw [hpur, hp0]; rfl)
        walk_at "go"
        intro D nD
        have hnD := w.g.fresh nD
        replace w := w.nw (u := .dK []) nD
        walk_at "go"
        refine ⟨_, D1, ys, rs.filter (pureB cs), extra, so, rfl, rfl, rfl, w.fh, sqL_of (w.i (fx D1 (.lst ys)) (by walk_at "mem")), w.dpa (by walk_at "mem"), fun r hr => ⟨List.length_pos_iff.mpr (hrs.ok.ne r (List.mem_filter.mp hr).1), hrlen r (List.mem_filter.mp hr).1⟩, Nat.le_trans (List.length_filter_le _ _) hrl, hsp0, fun p1 v1 F4 H4 hp1 w1 => ?_⟩
        have hp1' := w.g.fresh hp1
        replace w := w.cal .nil w1 (by walk_at "app")
        walk_at "go"
        refine ⟨_, pd, pr, D, cs, n, rfl, rfl, rfl, w.st (by walk_at "pick"), sqL_of (w.i (fx pd (.lst cs)) (by walk_at "mem")), sqL_of (w.i (fx pr _) (by walk_at "mem")), hco, hcl, hn, fun p2 v2 P kvs F5 H5 hp2 w2 U hk hP => ?_⟩
        replace w := w.cal (D := [mu D (.dK [])]) (by walk_at "pick") w2 (by walk_at "app") rfl
        have hsplit := ch_split hco hrs U
        have hchl := ch_len cs
        have hf1 := filt_flat (pureB cs) rs
        have hf2 : (rs.filter (pureB cs)).length ≤ 400 := Nat.le_trans (List.length_filter_le _ _) hrl
        have hv1 : v1.length = (rs.filter (pureB cs)).flatten.length + (rs.filter (pureB cs)).length := by
          rw [dpa_len (w.dpa (K := K) (xs := v1) (by walk_at "mem")), List.length_map, purs_len fun r hr => hrs.ok.ne r (List.mem_filter.mp hr).1]
        have hv2 : v2.length = P.length := by rw [dpa_len (w.dpa (K := K) (xs := v2) (by walk_at "mem")), List.length_map, List.length_map]
        walk_at "go"
        refine n_cat (p := p1) (q := p2) w (by walk_at "at") (by walk_at "at") (szle (by omega)) fun p3 F6 H6 w hp3 => ?_
        have hS0 := sg_start (extra := extra) hco hrs U (slot := decide (0 < extra)) (c := (so).getD 0) of_decide_eq_true hsp1
        have d9 := dpa_app (w.dpa (K := K) (xs := v1) (by walk_at "mem")) (w.dpa (K := K) (xs := v2) (by walk_at "mem"))
        rw [← List.map_append] at d9
        replace w := w.push (dpa K (v1 ++ v2) (((rs.filter (pureB cs)).flatMap (onePur (decide (0 < extra)) ((so).getD 0)) ++ P.map (rowU cs)).map JR.d)) d9
        replace w := (w.fz (p := D) (by walk_at "pick") hnD).push (fx D (.dK kvs)) upd_same
        have hsp9 : ∀ x q, gC cs q = some x → (if decide (0 < extra) then none else spC cs n) ≠ some x := fun x q hq e => by
          split at e
          · cases e
          · exact (spC_some hco e).2.1 q hq
        walk_at "go"
        refine n_forL us w (fun i σ L => ∃ (p : Addr) (vs : List V) (js : List JR), ∃ y9, σ = [some (.ref c), some (.int (extra : Nat)), some (.ref pd), some (.ref pr), some (.ref vp), some (.ref D1), some (spV (so)), some (.ref D), some (.ref p), y9] ∧ H p = none ∧ SgI cs n (n + (cs.length - n)) (if decide (0 < extra) then none else spC cs n) (st0J n cs.length extra) P rs (rs.take i) js ∧ js.length ≤ 1200 + i * 400 ∧ js = ((rs.filter (pureB cs)).flatMap (onePur (decide (0 < extra)) ((so).getD 0)) ++ P.map (rowU cs)) ++ ((rs.take i).filter fun r => !pureB cs r).flatMap (rdF cs P) ∧ L = [mu p (.lst vs), dpa K vs (js.map JR.d), fx D (.dK kvs), fx pd (.lst cs), fx pr (.lst ((rdN cs n).map fun (k : Nat) => V.int (k : Nat))), imL K vp us, dpa K us (rs.map rngD)]) ⟨p3, v1 ++ v2, _, _, rfl, hp3, hS0, by rw [hS0.len]; show _ + 0 ≤ _; omega, (List.append_nil _).symm, rfl⟩ (fun i σ L F' H' hp w => ?_) (fun i x σ L F' H' hx hp w => ?_) (fun σ L F' H' hp w => ?_)
        · obtain ⟨p, vs, js, y9, rfl, hpn, hI, hjl, hje, rfl⟩ := hp
          walk_at "sq"
        · obtain ⟨p, vs, js, y9, rfl, hpn, hI, hjl, hje, rfl⟩ := hp
          obtain ⟨r, hr, dr⟩ := dpa_at (w.dpa (K := K) (xs := us) (ds := rs.map rngD) (by walk_at "mem")) hx
          have hrm := List.mem_of_getElem? hr
          have hil := (List.getElem?_eq_some_iff.mp hr).1
          obtain ⟨ra, ws, rfl, hrS, hrD⟩ := dp_list dr
          obtain rfl := dpa_numsI hrD
          replace w := w.push (imL K ra _) hrS
          have et : rs.take (i + 1) = rs.take i ++ [r] := by rw [List.take_add_one, hr]; rfl
          have hrl9 := hrlen r hrm
          have hvs : vs.length = js.length := by rw [dpa_len (w.dpa (K := K) (xs := vs) (ds := js.map JR.d) (by walk_at "mem")), List.length_map]
          walk_at "go"
          refine ⟨H', ra, pr, cs, n, r, rfl, rfl, Same.refl _, by walk_at "sq", by walk_at "sq", fun x hx => (hrs.lt hco hrm hx).1, hn, hcl, hrl9, fun F7 H7 w7 => ?_⟩
          replace w := w.ro0 w7
          cases e : pureB cs r with
          | true =>
            walk_at "go"
            exact nx_mk w ⟨p, vs, js, _, rfl, hpn, by rw [et]; exact hI.skip e, by omega, by rw [et, List.filter_append, List.filter_cons_of_neg (by rw [e]; decide), List.filter_nil, List.append_nil]; exact hje, rfl⟩ (by walk_at "pk")
          | false =>
            walk_at "go"
            obtain ⟨f0, hf0, q0, hq0, hq9⟩ := rd_got hco hrs hrm e
            have hbs : ∃ bs, rs = rs.take i ++ r :: bs := ⟨rs.drop (i + 1), by
              have h5 := List.drop_eq_getElem_cons hil
              rw [(List.getElem?_eq_some_iff.mp hr).2] at h5
              rw [← h5, List.take_append_drop]⟩
            refine ⟨_, ra, D, cs, r, P, kvs, rfl, rfl, w.fh, w.imL (by walk_at "mem"), w.i (fx D (.dK kvs)) (by walk_at "mem"), hk, hrl9, ⟨f0, hf0, q0, (U.done hco).mpr ⟨gC_ch hco hq0, hq9⟩, hq0⟩, fun p4 v4 k f l q5 F8 H8 hp4 g1 g2 g3 g4 g5 w8 => ?_⟩
            replace w := w.cal .nil w8 (by walk_at "app")
            have hv4 : v4.length = r.length - 1 + 1 := by rw [dpa_len (w.dpa (K := K) (xs := v4) (by walk_at "mem")), List.length_map, List.length_append, rnd_len, turn_len]; rfl
            have hr0 := List.length_pos_iff.mpr (hrs.ok.ne r hrm)
            walk_at "go"
            refine n_cat (p := p) (q := p4) w (by walk_at "at") (by walk_at "at") (szle (by omega)) fun p5 F9 H9 w hp5 => ?_
            have d9 := dpa_app (w.dpa (K := K) (xs := vs) (ds := js.map JR.d) (by walk_at "mem")) (w.dpa (K := K) (xs := v4) (by walk_at "mem"))
            rw [← List.map_append] at d9
            replace w := w.push (dpa K (vs ++ v4) ((js ++ (rndR (r.drop k ++ r.take k) ++ [JR.copy (l : Nat) (q5 : Nat) 1])).map JR.d)) d9
            walk_at "go"
            refine nx_mk w ⟨p5, vs ++ v4, _, _, rfl, hp5, by rw [et]; exact hI.more hco (Nat.le_add_right ..) hrs U e hbs hsp9 g1 g2 g3 g4, by rw [List.length_append, List.length_append, rnd_len, turn_len, List.length_singleton]; omega, by rw [et, List.filter_append, List.filter_cons_of_pos (by rw [e]; rfl), List.filter_nil, List.flatMap_append, g5, List.flatMap_cons, List.flatMap_nil, List.append_nil, ← List.append_assoc, ← hje], rfl⟩ (by walk_at "pk")
        · obtain ⟨p, vs, js, y9, rfl, hpn, hI, hjl, hje, rfl⟩ := hp
          rw [hul, List.take_length] at hI hje
          walk_at "go"
          exact q1 hnb p vs js _ _ hpn (w.to (by walk_at "pick")) (hI.done hco hrs U (by rw [hje]; unfold sgF; rw [← hrs.ex, ← hP, ← eso]))
      · rw [decide_eq_false hp0]
        walk_at "go"
        rw [show decide ((extra : Int) < 1) = decide (extra = 0) from decide_eq_decide.mpr (by omega)]
        by_cases he : extra = 0
        · rw [decide_eq_true he]
          cases so with
          | none =>
            rw [show spV none = V.non from rfl]
            walk_at "go"
            refine ⟨.int 1, rfl, fun dd nd => ?_⟩
            exact q2 ⟨he, fun z => hp0 (List.length_eq_zero_iff.mp (by rw [← hpur, z])), eso.symm⟩ dd _ _ (w.g.fresh nd) (((w.im (u := .xd [("need", .int 1)]) nd).push (fx dd (.xd [("need", .int 1)])) upd_same).to (by walk_at "pick"))
          | some c1 =>
            have hsp0 : extra = 0 → rs.filter (pureB cs) = [] ∨ (some c1 : Option Nat) ≠ none := fun _ => .inr (by simp)
            have hsp1 : decide (0 < extra) = false → spC cs n = some ((some c1 : Option Nat).getD 0) ∨ rs.filter (pureB cs) = [] := fun _ => .inl eso.symm
            have hnb : ¬ barC cs n extra := fun z => by rw [z.2.2] at eso; cases eso
            rw [show spV (some c1) = V.int (c1 : Nat) from rfl]
            walk_at "go"
            rw [show V.int (c1 : Nat) = spV (some c1) from rfl]
            walk_at "go"
            intro D nD
            have hnD := w.g.fresh nD
            replace w := w.nw (u := .dK []) nD
            walk_at "go"
            refine ⟨_, D1, ys, rs.filter (pureB cs), extra, (some c1 : Option Nat), rfl, rfl, rfl, w.fh, sqL_of (w.i (fx D1 (.lst ys)) (by walk_at "mem")), w.dpa (by walk_at "mem"), fun r hr => ⟨List.length_pos_iff.mpr (hrs.ok.ne r (List.mem_filter.mp hr).1), hrlen r (List.mem_filter.mp hr).1⟩, Nat.le_trans (List.length_filter_le _ _) hrl, hsp0, fun p1 v1 F4 H4 hp1 w1 => ?_⟩
            have hp1' := w.g.fresh hp1
            replace w := w.cal .nil w1 (by walk_at "app")
            walk_at "go"
            refine ⟨_, pd, pr, D, cs, n, rfl, rfl, rfl, w.st (by walk_at "pick"), sqL_of (w.i (fx pd (.lst cs)) (by walk_at "mem")), sqL_of (w.i (fx pr _) (by walk_at "mem")), hco, hcl, hn, fun p2 v2 P kvs F5 H5 hp2 w2 U hk hP => ?_⟩
            replace w := w.cal (D := [mu D (.dK [])]) (by walk_at "pick") w2 (by walk_at "app") rfl
            have hsplit := ch_split hco hrs U
            have hchl := ch_len cs
            have hf1 := filt_flat (pureB cs) rs
            have hf2 : (rs.filter (pureB cs)).length ≤ 400 := Nat.le_trans (List.length_filter_le _ _) hrl
            have hv1 : v1.length = (rs.filter (pureB cs)).flatten.length + (rs.filter (pureB cs)).length := by
              rw [dpa_len (w.dpa (K := K) (xs := v1) (by walk_at "mem")), List.length_map, purs_len fun r hr => hrs.ok.ne r (List.mem_filter.mp hr).1]
            have hv2 : v2.length = P.length := by rw [dpa_len (w.dpa (K := K) (xs := v2) (by walk_at "mem")), List.length_map, List.length_map]
            walk_at "go"
            refine n_cat (p := p1) (q := p2) w (by walk_at "at") (by walk_at "at") (szle (by omega)) fun p3 F6 H6 w hp3 => ?_
            have hS0 := sg_start (extra := extra) hco hrs U (slot := decide (0 < extra)) (c := ((some c1 : Option Nat)).getD 0) of_decide_eq_true hsp1
            have d9 := dpa_app (w.dpa (K := K) (xs := v1) (by walk_at "mem")) (w.dpa (K := K) (xs := v2) (by walk_at "mem"))
            rw [← List.map_append] at d9
            replace w := w.push (dpa K (v1 ++ v2) (((rs.filter (pureB cs)).flatMap (onePur (decide (0 < extra)) (((some c1 : Option Nat)).getD 0)) ++ P.map (rowU cs)).map JR.d)) d9
            replace w := (w.fz (p := D) (by walk_at "pick") hnD).push (fx D (.dK kvs)) upd_same
            have hsp9 : ∀ x q, gC cs q = some x → (if decide (0 < extra) then none else spC cs n) ≠ some x := fun x q hq e => by
              split at e
              · cases e
              · exact (spC_some hco e).2.1 q hq
            walk_at "go"
            refine n_forL us w (fun i σ L => ∃ (p : Addr) (vs : List V) (js : List JR), ∃ y9, σ = [some (.ref c), some (.int (extra : Nat)), some (.ref pd), some (.ref pr), some (.ref vp), some (.ref D1), some (spV ((some c1 : Option Nat))), some (.ref D), some (.ref p), y9] ∧ H p = none ∧ SgI cs n (n + (cs.length - n)) (if decide (0 < extra) then none else spC cs n) (st0J n cs.length extra) P rs (rs.take i) js ∧ js.length ≤ 1200 + i * 400 ∧ js = ((rs.filter (pureB cs)).flatMap (onePur (decide (0 < extra)) (((some c1 : Option Nat)).getD 0)) ++ P.map (rowU cs)) ++ ((rs.take i).filter fun r => !pureB cs r).flatMap (rdF cs P) ∧ L = [mu p (.lst vs), dpa K vs (js.map JR.d), fx D (.dK kvs), fx pd (.lst cs), fx pr (.lst ((rdN cs n).map fun (k : Nat) => V.int (k : Nat))), imL K vp us, dpa K us (rs.map rngD)]) ⟨p3, v1 ++ v2, _, _, rfl, hp3, hS0, by rw [hS0.len]; show _ + 0 ≤ _; omega, (List.append_nil _).symm, rfl⟩ (fun i σ L F' H' hp w => ?_) (fun i x σ L F' H' hx hp w => ?_) (fun σ L F' H' hp w => ?_)
            · obtain ⟨p, vs, js, y9, rfl, hpn, hI, hjl, hje, rfl⟩ := hp
              walk_at "sq"
            · obtain ⟨p, vs, js, y9, rfl, hpn, hI, hjl, hje, rfl⟩ := hp
              obtain ⟨r, hr, dr⟩ := dpa_at (w.dpa (K := K) (xs := us) (ds := rs.map rngD) (by walk_at "mem")) hx
              have hrm := List.mem_of_getElem? hr
              have hil := (List.getElem?_eq_some_iff.mp hr).1
              obtain ⟨ra, ws, rfl, hrS, hrD⟩ := dp_list dr
              obtain rfl := dpa_numsI hrD
              replace w := w.push (imL K ra _) hrS
              have et : rs.take (i + 1) = rs.take i ++ [r] := by rw [List.take_add_one, hr]; rfl
              have hrl9 := hrlen r hrm
              have hvs : vs.length = js.length := by rw [dpa_len (w.dpa (K := K) (xs := vs) (ds := js.map JR.d) (by walk_at "mem")), List.length_map]
              walk_at "go"
              refine ⟨H', ra, pr, cs, n, r, rfl, rfl, Same.refl _, by walk_at "sq", by walk_at "sq", fun x hx => (hrs.lt hco hrm hx).1, hn, hcl, hrl9, fun F7 H7 w7 => ?_⟩
              replace w := w.ro0 w7
              cases e : pureB cs r with
              | true =>
                walk_at "go"
                exact nx_mk w ⟨p, vs, js, _, rfl, hpn, by rw [et]; exact hI.skip e, by omega, by rw [et, List.filter_append, List.filter_cons_of_neg (by rw [e]; decide), List.filter_nil, List.append_nil]; exact hje, rfl⟩ (by walk_at "pk")
              | false =>
                walk_at "go"
                obtain ⟨f0, hf0, q0, hq0, hq9⟩ := rd_got hco hrs hrm e
                have hbs : ∃ bs, rs = rs.take i ++ r :: bs := ⟨rs.drop (i + 1), by
                  have h5 := List.drop_eq_getElem_cons hil
                  rw [(List.getElem?_eq_some_iff.mp hr).2] at h5
                  rw [← h5, List.take_append_drop]⟩
                refine ⟨_, ra, D, cs, r, P, kvs, rfl, rfl, w.fh, w.imL (by walk_at "mem"), w.i (fx D (.dK kvs)) (by walk_at "mem"), hk, hrl9, ⟨f0, hf0, q0, (U.done hco).mpr ⟨gC_ch hco hq0, hq9⟩, hq0⟩, fun p4 v4 k f l q5 F8 H8 hp4 g1 g2 g3 g4 g5 w8 => ?_⟩
                replace w := w.cal .nil w8 (by walk_at "app")
                have hv4 : v4.length = r.length - 1 + 1 := by rw [dpa_len (w.dpa (K := K) (xs := v4) (by walk_at "mem")), List.length_map, List.length_append, rnd_len, turn_len]; rfl
                have hr0 := List.length_pos_iff.mpr (hrs.ok.ne r hrm)
                walk_at "go"
                refine n_cat (p := p) (q := p4) w (by walk_at "at") (by walk_at "at") (szle (by omega)) fun p5 F9 H9 w hp5 => ?_
                have d9 := dpa_app (w.dpa (K := K) (xs := vs) (ds := js.map JR.d) (by walk_at "mem")) (w.dpa (K := K) (xs := v4) (by walk_at "mem"))
                rw [← List.map_append] at d9
                replace w := w.push (dpa K (vs ++ v4) ((js ++ (rndR (r.drop k ++ r.take k) ++ [JR.copy (l : Nat) (q5 : Nat) 1])).map JR.d)) d9
                walk_at "go"
                refine nx_mk w ⟨p5, vs ++ v4, _, _, rfl, hp5, by rw [et]; exact hI.more hco (Nat.le_add_right ..) hrs U e hbs hsp9 g1 g2 g3 g4, by rw [List.length_append, List.length_append, rnd_len, turn_len, List.length_singleton]; omega, by rw [et, List.filter_append, List.filter_cons_of_pos (by rw [e]; rfl), List.filter_nil, List.flatMap_append, g5, List.flatMap_cons, List.flatMap_nil, List.append_nil, ← List.append_assoc, ← hje], rfl⟩ (by walk_at "pk")
            · obtain ⟨p, vs, js, y9, rfl, hpn, hI, hjl, hje, rfl⟩ := hp
              rw [hul, List.take_length] at hI hje
              walk_at "go"
              exact q1 hnb p vs js _ _ hpn (w.to (by walk_at "pick")) (hI.done hco hrs U (by rw [hje]; unfold sgF; rw [← hrs.ex, ← hP, ← eso]))
        · rw [decide_eq_false he]
          have hsp0 : extra = 0 → rs.filter (pureB cs) = [] ∨ so ≠ none := fun e => absurd e he
          have hsp1 : decide (0 < extra) = false → spC cs n = some (so.getD 0) ∨ rs.filter (pureB cs) = [] := fun e => absurd (of_decide_eq_false e) (by omega)
          have hnb : ¬ barC cs n extra := fun z => he z.1
          walk_at "go"
          intro D nD
          have hnD := w.g.fresh nD
          replace w := w.nw (u := .dK []) nD
          walk_at "go"
          refine ⟨_, D1, ys, rs.filter (pureB cs), extra, so, rfl, rfl, rfl, w.fh, sqL_of (w.i (fx D1 (.lst ys)) (by walk_at "mem")), w.dpa (by walk_at "mem"), fun r hr => ⟨List.length_pos_iff.mpr (hrs.ok.ne r (List.mem_filter.mp hr).1), hrlen r (List.mem_filter.mp hr).1⟩, Nat.le_trans (List.length_filter_le _ _) hrl, hsp0, fun p1 v1 F4 H4 hp1 w1 => ?_⟩
          have hp1' := w.g.fresh hp1
          replace w := w.cal .nil w1 (by walk_at "app")
          walk_at "go"
          refine ⟨_, pd, pr, D, cs, n, rfl, rfl, rfl, w.st (by walk_at "pick"), sqL_of (w.i (fx pd (.lst cs)) (by walk_at "mem")), sqL_of (w.i (fx pr _) (by walk_at "mem")), hco, hcl, hn, fun p2 v2 P kvs F5 H5 hp2 w2 U hk hP => ?_⟩
          replace w := w.cal (D := [mu D (.dK [])]) (by walk_at "pick") w2 (by walk_at "app") rfl
          have hsplit := ch_split hco hrs U
          have hchl := ch_len cs
          have hf1 := filt_flat (pureB cs) rs
          have hf2 : (rs.filter (pureB cs)).length ≤ 400 := Nat.le_trans (List.length_filter_le _ _) hrl
          have hv1 : v1.length = (rs.filter (pureB cs)).flatten.length + (rs.filter (pureB cs)).length := by
            rw [dpa_len (w.dpa (K := K) (xs := v1) (by walk_at "mem")), List.length_map, purs_len fun r hr => hrs.ok.ne r (List.mem_filter.mp hr).1]
          have hv2 : v2.length = P.length := by rw [dpa_len (w.dpa (K := K) (xs := v2) (by walk_at "mem")), List.length_map, List.length_map]
          walk_at "go"
          refine n_cat (p := p1) (q := p2) w (by walk_at "at") (by walk_at "at") (szle (by omega)) fun p3 F6 H6 w hp3 => ?_
          have hS0 := sg_start (extra := extra) hco hrs U (slot := decide (0 < extra)) (c := (so).getD 0) of_decide_eq_true hsp1
          have d9 := dpa_app (w.dpa (K := K) (xs := v1) (by walk_at "mem")) (w.dpa (K := K) (xs := v2) (by walk_at "mem"))
          rw [← List.map_append] at d9
          replace w := w.push (dpa K (v1 ++ v2) (((rs.filter (pureB cs)).flatMap (onePur (decide (0 < extra)) ((so).getD 0)) ++ P.map (rowU cs)).map JR.d)) d9
          replace w := (w.fz (p := D) (by walk_at "pick") hnD).push (fx D (.dK kvs)) upd_same
          have hsp9 : ∀ x q, gC cs q = some x → (if decide (0 < extra) then none else spC cs n) ≠ some x := fun x q hq e => by
            split at e
            · cases e
            · exact (spC_some hco e).2.1 q hq
          walk_at "go"
          refine n_forL us w (fun i σ L => ∃ (p : Addr) (vs : List V) (js : List JR), ∃ y9, σ = [some (.ref c), some (.int (extra : Nat)), some (.ref pd), some (.ref pr), some (.ref vp), some (.ref D1), some (spV (so)), some (.ref D), some (.ref p), y9] ∧ H p = none ∧ SgI cs n (n + (cs.length - n)) (if decide (0 < extra) then none else spC cs n) (st0J n cs.length extra) P rs (rs.take i) js ∧ js.length ≤ 1200 + i * 400 ∧ js = ((rs.filter (pureB cs)).flatMap (onePur (decide (0 < extra)) ((so).getD 0)) ++ P.map (rowU cs)) ++ ((rs.take i).filter fun r => !pureB cs r).flatMap (rdF cs P) ∧ L = [mu p (.lst vs), dpa K vs (js.map JR.d), fx D (.dK kvs), fx pd (.lst cs), fx pr (.lst ((rdN cs n).map fun (k : Nat) => V.int (k : Nat))), imL K vp us, dpa K us (rs.map rngD)]) ⟨p3, v1 ++ v2, _, _, rfl, hp3, hS0, by rw [hS0.len]; show _ + 0 ≤ _; omega, (List.append_nil _).symm, rfl⟩ (fun i σ L F' H' hp w => ?_) (fun i x σ L F' H' hx hp w => ?_) (fun σ L F' H' hp w => ?_)
          · obtain ⟨p, vs, js, y9, rfl, hpn, hI, hjl, hje, rfl⟩ := hp
            walk_at "sq"
          · obtain ⟨p, vs, js, y9, rfl, hpn, hI, hjl, hje, rfl⟩ := hp
            obtain ⟨r, hr, dr⟩ := dpa_at (w.dpa (K := K) (xs := us) (ds := rs.map rngD) (by walk_at "mem")) hx
            have hrm := List.mem_of_getElem? hr
            have hil := (List.getElem?_eq_some_iff.mp hr).1
            obtain ⟨ra, ws, rfl, hrS, hrD⟩ := dp_list dr
            obtain rfl := dpa_numsI hrD
            replace w := w.push (imL K ra _) hrS
            have et : rs.take (i + 1) = rs.take i ++ [r] := by rw [List.take_add_one, hr]; rfl
            have hrl9 := hrlen r hrm
            have hvs : vs.length = js.length := by rw [dpa_len (w.dpa (K := K) (xs := vs) (ds := js.map JR.d) (by walk_at "mem")), List.length_map]
            walk_at "go"
            refine ⟨H', ra, pr, cs, n, r, rfl, rfl, Same.refl _, by walk_at "sq", by walk_at "sq", fun x hx => (hrs.lt hco hrm hx).1, hn, hcl, hrl9, fun F7 H7 w7 => ?_⟩
            replace w := w.ro0 w7
            cases e : pureB cs r with
            | true =>
              walk_at "go"
              exact nx_mk w ⟨p, vs, js, _, rfl, hpn, by rw [et]; exact hI.skip e, by omega, by rw [et, List.filter_append, List.filter_cons_of_neg (by rw [e]; decide), List.filter_nil, List.append_nil]; exact hje, rfl⟩ (by walk_at "pk")
            | false =>
              walk_at "go"
              obtain ⟨f0, hf0, q0, hq0, hq9⟩ := rd_got hco hrs hrm e
              have hbs : ∃ bs, rs = rs.take i ++ r :: bs := ⟨rs.drop (i + 1), by
                have h5 := List.drop_eq_getElem_cons hil
                rw [(List.getElem?_eq_some_iff.mp hr).2] at h5
                rw [← h5, List.take_append_drop]⟩
              refine ⟨_, ra, D, cs, r, P, kvs, rfl, rfl, w.fh, w.imL (by walk_at "mem"), w.i (fx D (.dK kvs)) (by walk_at "mem"), hk, hrl9, ⟨f0, hf0, q0, (U.done hco).mpr ⟨gC_ch hco hq0, hq9⟩, hq0⟩, fun p4 v4 k f l q5 F8 H8 hp4 g1 g2 g3 g4 g5 w8 => ?_⟩
              replace w := w.cal .nil w8 (by walk_at "app")
              have hv4 : v4.length = r.length - 1 + 1 := by rw [dpa_len (w.dpa (K := K) (xs := v4) (by walk_at "mem")), List.length_map, List.length_append, rnd_len, turn_len]; rfl
              have hr0 := List.length_pos_iff.mpr (hrs.ok.ne r hrm)
              walk_at "go"
              refine n_cat (p := p) (q := p4) w (by walk_at "at") (by walk_at "at") (szle (by omega)) fun p5 F9 H9 w hp5 => ?_
              have d9 := dpa_app (w.dpa (K := K) (xs := vs) (ds := js.map JR.d) (by walk_at "mem")) (w.dpa (K := K) (xs := v4) (by walk_at "mem"))
              rw [← List.map_append] at d9
              replace w := w.push (dpa K (vs ++ v4) ((js ++ (rndR (r.drop k ++ r.take k) ++ [JR.copy (l : Nat) (q5 : Nat) 1])).map JR.d)) d9
              walk_at "go"
              refine nx_mk w ⟨p5, vs ++ v4, _, _, rfl, hp5, by rw [et]; exact hI.more hco (Nat.le_add_right ..) hrs U e hbs hsp9 g1 g2 g3 g4, by rw [List.length_append, List.length_append, rnd_len, turn_len, List.length_singleton]; omega, by rw [et, List.filter_append, List.filter_cons_of_pos (by rw [e]; rfl), List.filter_nil, List.flatMap_append, g5, List.flatMap_cons, List.flatMap_nil, List.append_nil, ← List.append_assoc, ← hje], rfl⟩ (by walk_at "pk")
          · obtain ⟨p, vs, js, y9, rfl, hpn, hI, hjl, hje, rfl⟩ := hp
            rw [hul, List.take_length] at hI hje
            walk_at "go"
            exact q1 hnb p vs js _ _ hpn (w.to (by walk_at "pick")) (hI.done hco hrs U (by rw [hje]; unfold sgF; rw [← hrs.ex, ← hP, ← eso]))
-- _law_bag
theorem ok_law_bag {f : Addr} {fd : FuncData} (F : FunD K "_law_bag" "_law_bag" (defArgs s_law_bag) (defBody s_law_bag) (defScope s_law_bag) [] [] f fd) (T : Txt K mg)  : FnOk P w K mg base CX0 1 f fd ["script"] (S1 (φbag K)) := by
  refine F.ok sc_law_bag (fun vs H Q E h => ?_) (fun cdv A outer s H vs Q E hr h => ?_)
  · exact S1.len h
  · match vs, h with
    | [v0], h =>
    have hu := hu_of hr
    refine ⟨_, PSs.nox (pss_cons (ps_set (i := 1) sc_law_bag.nd rfl (.inl rfl) pe_int)
      (pss_cons (ps_for PassesOwn.never rfl (pi_list (pe_slice (slL (K := K)) (pv 0) po_none (po_some pe_int))) (pg_name (i := 2) sc_law_bag.nd rfl (.inl rfl)) (pss_one (ps_set (i := 1) sc_law_bag.nd rfl (.inl rfl) (pe_op op_mod (pe_op op_add (pe_op op_add (pe_op op_mul (pv 1) pe_int) (pe_op op_mod (pv 2) pe_int)) pe_int) pe_int))))
      (pss_one (ps_ret (pe_lst (pa_cons (pe_lc (own := [("cell", 2)]) (g := gName 2) rfl sc_law_bag.nd (pi_list (pe_slice (slL (K := K)) (pv 0) po_none (po_some pe_int))) (blkOk_by (own := [("cell", 2)]) (N := ["script", "stir", "cell"]) (sc := defScope s_law_bag) (by decide +kernel)) (fun _ _ _ _ _ => pg_name (i := 2) sc_law_bag.nd rfl (Or.inl rfl)) (fun _ _ _ _ _ => pts_nil) (fun _ _ _ _ _ => (pe_op op_mod (pe_callB clAbs (by rfl) T.b_abs (by decide +kernel) (pa_cons (pv 2) pa_nil)) (pe_op op_pow pe_int pe_int)))) (pa_cons pe_int (pa_cons pe_int (pa_cons (pv 1) (pa_cons pe_int pa_nil)))))))))), ?_⟩
    rw [show start ["script", "stir", "cell"] [v0] = [some v0, none, none] from rfl]
    obtain ⟨a, ns, rfl, hS, hl, q⟩ := h
    walk_at "og"
    intro l nl
    rw [cut63 hl]
    refine ⟨l, rfl, ⟨_, sqL_of upd_same⟩, f_list (xs := ns.map V.int) (fun i σ H' => ∃ (st : Int) (y : Option V), σ = [some (.ref a), some (.int st), y] ∧ 0 ≤ st ∧ st < 2147483647 ∧ H' = upd H l (.lst (ns.map V.int))) ⟨19, none, rfl, by decide, by decide, rfl⟩ (fun i σ H' _ hp => ?_) (fun i x σ H' hx hp => ?_) (fun σ H' hp => ?_)⟩
    · obtain ⟨st, y, _, _, _, rfl⟩ := hp
      exact sqL_of upd_same
    · obtain ⟨st, y, rfl, s0, s1, rfl⟩ := hp
      obtain ⟨z, rfl⟩ := map_get hx
      walk_at "og"
      exact ⟨_, _, rfl, mod_nn (by decide), mod_lt (by decide), rfl⟩
    · obtain ⟨st, y, rfl, s0, s1, rfl⟩ := hp
      have hS2 : SqL K (upd H l (.lst (ns.map V.int))) a (ns.map V.int) := sqL_same (Same.new nl) hS
      walk_at "og"
      intro l2 nl2
      rw [cut63 hl]
      have g0 : Gr [] H H H (upd H l (.lst (ns.map V.int))) := .new (Same.refl H) nl
      have g1 := g0.add (o := .lst (ns.map V.int)) nl2
      refine ⟨l2, rfl, ⟨_, sqL_of upd_same⟩, fun D nD => ?_⟩
      have g2 := g1.addm (o := .lst []) nD
      refine lc_list (xs := ns.map V.int) (fun i H' => ∃ vs : List Int, Gr [] H H (upd H l2 (.lst (ns.map V.int))) H' ∧ Mu (upd H l2 (.lst (ns.map V.int))) H' D (.lst (vs.map V.int)) ∧ (∀ x ∈ vs, 0 ≤ x ∧ x < 10 ^ 60) ∧ vs.length = i) ⟨[], g2, Mu.new g1.fh nD, by simp, rfl⟩ (fun i H' _ hp => ?_) (fun i x H' hx hp => ?_) (fun H' hp => ?_)
      · obtain ⟨vs, g, _⟩ := hp
        exact sqL_same g.fh (sqL_of upd_same)
      · obtain ⟨vs, g, mu, hv, hn⟩ := hp
        obtain ⟨z, rfl⟩ := map_get hx
        have hi : i < ns.length := by
          have := (List.getElem?_eq_some_iff.mp hx).1
          rwa [List.length_map] at this
        show gName 2 _ [some (.ref a), some (.int st), none] H' _
        walk_at "og"
        refine ⟨rfl, ?_⟩
        walk_at "og"
        refine ⟨_, mu.h, small1000 (by rw [List.length_map]; omega), vs ++ [_], g.wrn mu.n (g1.fresh nD), by rw [List.map_append]; exact mu.wr, ?_, by simp [hn]⟩
        intro x hx
        rcases List.mem_append.mp hx with hx | hx
        · exact hv x hx
        · rw [List.mem_singleton.mp hx]
          exact ⟨mod_nn (by decide), mod_lt (by decide)⟩
      · obtain ⟨vs, g, mu, hv, hn⟩ := hp
        walk_at "og"
        refine ⟨le1000 (by simp), fun p np => ?_⟩
        have g5 := (g.frz (g1.fresh nD) mu).addm (o := .lst [.ref D, .int 0, .int 0, .int st, .int 0]) np
        refine q p _ _ g5 ⟨D, vs, 0, 0, st, 0, ?_, upd_same, sqL_of upd_same, by rw [hn, List.length_map]; exact hl, hv, by decide, by decide, by decide, s0, s1⟩
        have nF := g.fh.free np
        rw [upd_ne (mu.ne_new np).symm]
        exact nF
-- _law_stirred
theorem ok_law_stirred {f : Addr} {fd : FuncData} (F : FunD K "_law_stirred" "_law_stirred" (defArgs s_law_stirred) (defBody s_law_stirred) (defScope s_law_stirred) [] [] f fd) (T : Txt K mg)  : FnOk P w K mg base CX0 1 f fd ["bag", "many"] (S2 (φdraw K)) := by
  refine F.ok sc_law_stirred (fun vs H Q E h => ?_) (fun cdv A outer s H vs Q E hr h => ?_)
  · exact S2.len h
  · match vs, h with
    | [v0, v1], h =>
    have hu := hu_of hr
    refine ⟨_, PSs.nox (pss_cons (ps_set (i := 2) sc_law_stirred.nd rfl (.inl rfl) pe_int)
      (pss_cons (ps_for PassesOwn.never rfl (pi_range1 rfl T.b_range (pa_cons (pe_op op_add pe_int (pe_op op_fdivW (pe_bits (pv 1)) pe_int)) pa_nil)) (pg_name (i := 3) sc_law_stirred.nd rfl (.inl rfl)) (pss_cons (ps_asg (pe_op op_add (pe_ix (ixL (K := K)) (pv 0) pe_int (fun _ _ => rfl)) pe_int) (pg_sub (pv 0) pe_int set_list))
      (pss_cons (ps_asg (pe_op op_mod (pe_op op_add (pe_op op_add (pe_op op_add (pe_op op_pow (pe_ix (ixL (K := K)) (pv 0) pe_int (fun _ _ => rfl)) pe_int) (pe_op op_mul pe_int (pe_ix (ixL (K := K)) (pv 0) pe_int (fun _ _ => rfl)))) (pe_op op_mul pe_int (pe_ix (ixL (K := K)) (pv 0) pe_int (fun _ _ => rfl)))) pe_int) pe_int) (pg_sub (pv 0) pe_int set_list))
      (pss_one (ps_set (i := 2) sc_law_stirred.nd rfl (.inl rfl) (pe_op op_add (pe_op op_mul (pv 2) pe_int) (pe_op op_fdivW (pe_ix (ixL (K := K)) (pv 0) pe_int (fun _ _ => rfl)) pe_int)))))))
      (pss_one (ps_ret (pe_op op_mod (pv 2) (pv 1)))))), ?_⟩
    rw [show start ["bag", "many", "got", "k"] [v0, v1] = [some v0, some v1, none, none] from rfl]
    obtain ⟨b, m, F, rfl, rfl, hw, hb, h0, h1, q⟩ := h
    have hbits := bits_le h0 h1
    have hb0 : (0 : Int) ≤ (Builtin.Int.intBits m : Nat) := Int.natCast_nonneg _
    have hd0 : (0 : Int) ≤ (Builtin.Int.intBits m : Nat) / 27 := div_nn hb0 (by decide)
    have hd1 : (Builtin.Int.intBits m : Int) / 27 ≤ (Builtin.Int.intBits m : Nat) := div_le' hb0 (by decide)
    walk_at "og"
    refine ⟨_, rfl, by omega, by omega, f_range0 (fun i σ H' => ∃ (f : Int) (y : Option V) (F2 : Hp), σ = [some (.ref b), some (.int m), some (.int f), y] ∧ Gr [b] F H F2 H' ∧ Bag K F2 H' b) ⟨0, none, F, rfl, .refl hw, hb⟩ (fun i σ H' hi hp => ?_) (fun σ H' hp => ?_)⟩
    · obtain ⟨f, y, F2, rfl, g, hB⟩ := hp
      obtain ⟨c, cells, i1, cur, st, n, e1, e2, e3, e4, e5, e6, e7, e8, e9, e10⟩ := hB.ex
      walk_at "og"
      exact ⟨_, _, F2, rfl, (g.put e1 (by simp)).put e1 (by simp), ⟨c, cells, i1, cur, _, _, e1, upd_same, e3, e4, e5, e6, e7, e8, mod_nn (by decide), mod_lt (by decide)⟩⟩
    · obtain ⟨f, y, F2, rfl, g, hB⟩ := hp
      walk_at "og"
      exact q _ F2 H' g hB (mod_nn h0) (mod_lt h0)
-- _law_draw
theorem ok_law_draw {f : Addr} {fd : FuncData} (F : FunD K "_law_draw" "_law_draw" (defArgs s_law_draw) (defBody s_law_draw) (defScope s_law_draw) [] [] f fd) (T : Txt K mg) (D_law_stirred : DO P w K mg base 1 "_law_stirred" ["bag", "many"] [] (S2 (φdraw K))) : FnOk P w K mg base CX0 2 f fd ["bag", "many"] (S2 (φdraw K)) := by
  refine F.ok sc_law_draw (fun vs H Q E h => ?_) (fun cdv A outer s H vs Q E hr h => ?_)
  · exact S2.len h
  · match vs, h with
    | [v0, v1], h =>
    have hu := hu_of hr
    refine ⟨_, PSs.nox (pss_cons (ps_if (PW.pt (pw_and (pt_cmpR op_eq (pe_ix (ixL (K := K)) (pv 0) pe_int (fun _ _ => rfl)) pe_int (nomark _)) (pw_and1 (pt_cmpR op_lt (pe_ix (ixL (K := K)) (pv 0) pe_int (fun _ _ => rfl)) (pe_callB (clLenQ (K := K)) (by rfl) T.b_len (by decide +kernel) (pa_cons (pe_ix (ixL (K := K)) (pv 0) pe_int (fun _ _ => rfl)) pa_nil)) (nomark _))))) (pss_cons (ps_asg (pe_ix (ixL (K := K)) (pe_ix (ixL (K := K)) (pv 0) pe_int (fun _ _ => rfl)) (pe_ix (ixL (K := K)) (pv 0) pe_int (fun _ _ => rfl)) (fun _ _ => rfl)) (pg_sub (pv 0) pe_int set_list))
      (pss_one (ps_asg (pe_op op_add (pe_ix (ixL (K := K)) (pv 0) pe_int (fun _ _ => rfl)) pe_int) (pg_sub (pv 0) pe_int set_list)))) (pss_one (ps_if (pt_cmpR op_eq (pe_ix (ixL (K := K)) (pv 0) pe_int (fun _ _ => rfl)) pe_int (nomark _)) (pss_one (ps_ret (pcall D_law_stirred hr (pa_cons (pv 0) (pa_cons (pv 1) pa_nil))))) pss_nil)))
      (pss_cons (ps_set (i := 2) sc_law_draw.nd rfl (.inl rfl) (pe_op op_mod (pe_ix (ixL (K := K)) (pv 0) pe_int (fun _ _ => rfl)) (pv 1)))
      (pss_cons (ps_asg (pe_op op_fdivW (pe_ix (ixL (K := K)) (pv 0) pe_int (fun _ _ => rfl)) (pv 1)) (pg_sub (pv 0) pe_int set_list))
      (pss_one (ps_ret (pv 2)))))), ?_⟩
    rw [show start ["bag", "many", "got"] [v0, v1] = [some v0, some v1, none] from rfl]
    obtain ⟨b, m, F, rfl, rfl, hw, hb, h0, h1, q⟩ := h
    obtain ⟨c, cells, i1, cur, st, n, e1, e2, e3, e4, e5, e6, e7, e8, e9, e10⟩ := hb.ex
    have e3' := sqL_same hw e3
    have gr := Gr.refl (M := [b]) hw
    walk_at "og"
    refine w_ite (fun hc => ?_) (fun hc => ?_)
    · walk_at "og"
      refine w_ite (fun hd => ?_) (fun hd => ?_)
      · obtain ⟨x, hx, ex⟩ := cell_at e6 hd
        have bx := e5 x hx
        walk_at "og"
        refine w_ixL _ _ e3' ex ?_
        walk_at "og"
        exact q _ F _ (((gr.put e1 (by simp)).put e1 (by simp)).put e1 (by simp)) ⟨c, cells, i1 + 1, x / m, st, n, e1, upd_same, e3, e4, e5, by omega, div_nn bx.1 h0, Int.lt_of_le_of_lt (div_le' bx.1 h0) bx.2, e9, e10⟩ (mod_nn h0) (mod_lt h0)
      · walk_at "og"
        refine w_iteT hc ?_
        walk_at "og"
        exact ⟨b, m, F, rfl, rfl, hw, hb, h0, h1, q⟩
    · walk_at "og"
      refine w_iteF hc ?_
      walk_at "og"
      exact q _ F _ (gr.put e1 (by simp)) ⟨c, cells, i1, cur / m, st, n, e1, upd_same, e3, e4, e5, e6, div_nn e7 h0, Int.lt_of_le_of_lt (div_le' e7 h0) e8, e9, e10⟩ (mod_nn h0) (mod_lt h0)
-- _law_sign
theorem ok_law_sign {f : Addr} {fd : FuncData} (F : FunD K "_law_sign" "_law_sign" (defArgs s_law_sign) (defBody s_law_sign) (defScope s_law_sign) [] [] f fd) (T : Txt K mg) (D_law_draw : DO P w K mg base 2 "_law_draw" ["bag", "many"] [] (S2 (φdraw K))) : FnOk P w K mg base CX0 3 f fd ["bag", "few"] (S2 (φlsign K)) := by
  refine F.ok sc_law_sign (fun vs H Q E h => ?_) (fun cdv A outer s H vs Q E hr h => ?_)
  · exact S2.len h
  · match vs, h with
    | [v0, v1], h =>
    have hu := hu_of hr
    refine ⟨_, PSs.nox (pss_cons (ps_set (i := 2) sc_law_sign.nd rfl (.inl rfl) pe_str)
      (pss_one (ps_ret (pe_ifExp (pt_val (pv 1)) (pe_ix ix_str pe_str (pcall D_law_draw hr (pa_cons (pv 0) (pa_cons pe_int pa_nil))) (fun _ _ => rfl)) (pe_ix ix_str (pv 2) (pcall D_law_draw hr (pa_cons (pv 0) (pa_cons pe_int pa_nil))) (fun _ _ => rfl)))))), ?_⟩
    rw [show start ["bag", "few", "some"] [v0, v1] = [some v0, some v1, none] from rfl]
    obtain ⟨F, b, few, rfl, rfl, s0, q⟩ := h
    have w := s0.w (M := [b])
    walk_at "go"
    cases few with
    | true =>
      walk_at "go"
      refine n_draw w (by walk_at "pick") (by decide) (by decide) fun r F1 H1 w r0 r1 => ?_
      obtain ⟨c, hc, hcc⟩ := sig_pick (z := Str.ofString "ab") (by decide +kernel) r0 (by rw [show (Str.ofString "ab").length = 2 by decide +kernel]; exact r1)
      refine w_ixS (by rw [show (Str.ofString "ab").length = 2 by decide +kernel]; decide) hc ?_
      exact q c _ _ (w.to (by walk_at "pick")) hcc
    | false =>
      walk_at "go"
      have h93 : (Str.ofString "!\"#$&'()*+,-./0123456789:;<=>?@ABCDEFGHIJKLMNOPQRSTUVWXYZ[\\]^_`abcdefghijklmnopqrstuvwxyz{|}~") = sig93 := by decide +kernel
      rw [h93]
      refine n_draw w (by walk_at "pick") (by decide) (by decide) fun r F1 H1 w r0 r1 => ?_
      obtain ⟨c, hc, hcc⟩ := sig_pick (z := sig93) sig_ok r0 (by rw [sig_len]; exact r1)
      refine w_ixS (by rw [sig_len]; decide) hc ?_
      exact q c _ _ (w.to (by walk_at "pick")) hcc
-- _law_ring_cells
theorem ok_law_ring_cells {f : Addr} {fd : FuncData} (F : FunD K "_law_ring_cells" "_law_ring_cells" (defArgs s_law_ring_cells) (defBody s_law_ring_cells) (defScope s_law_ring_cells) [] [] f fd) (T : Txt K mg) (D_law_draw : DO P w K mg base 2 "_law_draw" ["bag", "many"] [] (S2 (φdraw K))) : FnOk P w K mg base CX0 3 f fd ["bag", "n"] (S2 (φlringcells K)) := by
  refine F.ok sc_law_ring_cells (fun vs H Q E h => ?_) (fun cdv A outer s H vs Q E hr h => ?_)
  · exact S2.len h
  · match vs, h with
    | [v0, v1], h =>
    have hu := hu_of hr
    refine ⟨_, PSs.nox (pss_cons (ps_set (i := 2) sc_law_ring_cells.nd rfl (.inl rfl) (pe_ix (ixL (K := K)) (pe_lst (pa_cons pe_int (pa_cons pe_int (pa_cons pe_int (pa_cons pe_int pa_nil))))) (pcall D_law_draw hr (pa_cons (pv 0) (pa_cons pe_int pa_nil))) (fun _ _ => rfl)))
      (pss_cons (ps_set (i := 3) sc_law_ring_cells.nd rfl (.inr rfl) (pe_listRg rfl (by rfl) T.b_list (prg_1 (by rfl) T.b_range (pv 1))))
      (pss_cons (ps_set (i := 4) sc_law_ring_cells.nd rfl (.inl rfl) (pe_op op_rep (pe_lst (pa_cons pe_int pa_nil)) (pv 1)))
      (pss_cons (ps_while PassesOwn.never (pt_cmpR (opNeD (K := K) hr.units) (pv 3) (pe_lst pa_nil) (nomark _)) (pss_cons (ps_set (i := 5) sc_law_ring_cells.nd rfl (.inl rfl) (pe_op op_add pe_int (pcall D_law_draw hr (pa_cons (pv 0) (pa_cons (pe_callB clMin2 (by rfl) T.b_min (by decide +kernel) (pa_cons (pe_callB (clLenQ (K := K)) (by rfl) T.b_len (by decide +kernel) (pa_cons (pv 3) pa_nil)) (pa_cons (pv 2) pa_nil))) pa_nil)))))
      (pss_cons (ps_setLc (i := 6) (own := [("k", 7)]) (g := gName 7) rfl sc_law_ring_cells.nd rfl rfl (sw_true rfl rfl rfl (by decide +kernel)) (pi_range1 rfl T.b_range (pa_cons (pv 5) pa_nil)) (blkOk_by (own := [("k", 7)]) (N := ["bag", "n", "long", "left", "cells", "many", "ring", "k"]) (sc := defScope s_law_ring_cells) (by decide +kernel)) (fun _ _ _ _ _ => pg_name (i := 7) sc_law_ring_cells.nd rfl (Or.inl rfl)) (fun _ _ _ _ _ => pts_nil) (fun _ _ _ _ _ => (peBM (K := K) PySem.F.plainAttrs_list PySem.F.slot_list_pop PySem.F.type_list_pop mt_popAt (pv 3) (pa_cons (pcall D_law_draw hr (pa_cons (pv 0) (pa_cons (pe_callB (clLenQ (K := K)) (by rfl) T.b_len (by decide +kernel) (pa_cons (pv 3) pa_nil)) pa_nil))) pa_nil))))
      (pss_one (ps_for PassesOwn.never rfl (pi_range1 rfl T.b_range (pa_cons (pv 5) pa_nil)) (pg_name (i := 7) sc_law_ring_cells.nd rfl (.inl rfl)) (pss_one (ps_asg (pe_ix (ixL (K := K)) (pv 6) (pe_op op_mod (pe_op op_add (pv 7) pe_int) (pv 5)) (fun _ _ => rfl)) (pg_sub (pv 4) (pe_ix (ixL (K := K)) (pv 6) (pv 7) (fun _ _ => rfl)) set_list))))))))
      (pss_one (ps_ret (pv 4))))))), ?_⟩
    rw [show start ["bag", "n", "long", "left", "cells", "many", "ring", "k"] [v0, v1] = [some v0, some v1, none, none, none, none, none, none] from rfl]
    obtain ⟨F, b, n, rfl, rfl, s0, hn, q⟩ := h
    have w := s0.w (M := [b])
    walk_at "go"
    refine n_lst w (szle (by simp)) fun p1 F1 H1 w hp1 => ?_
    walk_at "go"
    refine n_draw w (by walk_at "pick") (by decide) (by decide) fun r F1 H1 w r0 r1 => ?_
    obtain ⟨wd, ew, wd0, wd1⟩ := pick_ix (ns := [2, 3, 6, 400]) (lo := 2) (hi := 400) r0 r1 (by decide)
    refine w_ixL _ _ (by walk_at "sq") ew ?_
    walk_at "go"
    refine n_lstRg w (RgOk.of_le (by omega) (by omega) (by omega) (by omega)) fun pl F1 H1 w hpl => ?_
    rw [show rgV 0 ((n : Nat) : Int) = (List.range n).map fun (k : Nat) => V.int (k : Nat) by rw [rgV0]; rfl] at w
    walk_at "go"
    refine n_lst w (szle (by simp)) fun p2 F1 H1 w hp2 => ?_
    walk_at "go"
    refine n_rep w (by walk_at "at") (by omega) (by omega) (szle (by show 1 * _ ≤ _; omega)) fun pc F1 H1 w hpc => ?_
    rw [show (List.replicate (((n : Nat) : Int)).toNat [V.int 0]).flatten = (List.replicate n 0).map fun (k : Nat) => V.int (k : Nat) by rw [Int.toNat_natCast, List.flatten_replicate_singleton, List.map_replicate]; rfl] at w
    walk_at "go"
    refine n_while w (fun m σ L => ∃ (ls zs : List Nat), ∃ y5 y6 y7, σ = [some (.ref b), some (.int (n : Nat)), some (.int wd), some (.ref pl), some (.ref pc), y5, y6, y7] ∧ zs.length = n ∧ (∀ z ∈ zs, z < n ∨ z = 0) ∧ (∀ x ∈ ls, x < n) ∧ ls.length = m ∧ m ≤ n ∧ L = [mu pl (.lst (ls.map fun (k : Nat) => V.int (k : Nat))), mu pc (.lst (zs.map fun (k : Nat) => V.int (k : Nat))), bag K b]) (m0 := n) ⟨List.range n, List.replicate n 0, _, _, _, rfl, List.length_replicate, fun z hz => .inr (List.eq_of_mem_replicate hz), fun x hx => List.mem_range.mp hx, List.length_range, Nat.le_refl _, rfl⟩ (fun m σ L F' H' hp w => ?_)
    obtain ⟨ls, zs, y5, y6, y7, rfl, hzl, hz, hls, hm, hmn, rfl⟩ := hp
    walk_at "go"
    refine n_lst w (szle (by simp)) fun p3 F1 H1 w hp3 => ?_
    walk_at "go"
    refine n_neN (ls := []) (by walk_at "sq") (by walk_at "sq") (by omega) (by decide) ?_
    by_cases h0 : ls = []
    · rw [decide_eq_true h0]
      walk_at "go"
      exact q pc zs _ _ hpc (w.to (D := [mu pc (lstN zs), bag K b]) (by walk_at "pick")) hzl hz
    · rw [decide_eq_false h0]
      have hll : 0 < ls.length := List.length_pos_iff.mpr h0
      walk_at "go"
      refine n_turn ?_
      walk_at "go"
      obtain ⟨mm, emm⟩ : ∃ mm, mm = (if wd < (((ls.map fun (k : Nat) => V.int (k : Nat)).length : Nat) : Int) then wd else (((ls.map fun (k : Nat) => V.int (k : Nat)).length : Nat) : Int)) := ⟨_, rfl⟩
      have hm1 : 0 < mm ∧ mm ≤ (ls.length : Int) := by rw [List.length_map] at emm; split at emm <;> omega
      rw [← emm]
      refine n_draw w (by walk_at "pick") (by omega) (by omega) fun r2 F1 H1 w r20 r21 => ?_
      obtain ⟨many, emy⟩ : ∃ many : Nat, (many : Int) = 1 + r2 := ⟨(1 + r2).toNat, by omega⟩
      walk_at "go"
      rw [← emy]
      refine n_lcR (n := many) w (fun j ys L => ∃ (l2 rs : List Nat), ys = rs.map (fun (k : Nat) => V.int (k : Nat)) ∧ rs.length = j ∧ (∀ x ∈ rs, x < n) ∧ (∀ x ∈ l2, x < n) ∧ l2.length + j = ls.length ∧ L = [mu pl (.lst (l2.map fun (k : Nat) => V.int (k : Nat))), mu pc (.lst (zs.map fun (k : Nat) => V.int (k : Nat))), bag K b]) ⟨ls, [], rfl, rfl, (fun _ h => nomatch h), hls, rfl, rfl⟩ (fun j ys L F' H' D hj hp w hD => ?_) (fun D ys L F' H' hp w hD => ?_)
      · obtain ⟨l2, rs, rfl, hrl, hrs, hl2, hlj, rfl⟩ := hp
        walk_at "wp"
        walk_at "go"
        rw [List.length_map]
        refine n_draw w (by walk_at "pick") (by omega) (by omega) fun r3 F1 H1 w r30 r31 => ?_
        obtain ⟨rn, rfl⟩ : ∃ rn : Nat, r3 = (rn : Int) := ⟨r3.toNat, by omega⟩
        have hrn : rn < l2.length := by omega
        have hy : (l2.map fun (k : Nat) => V.int (k : Nat))[rn]? = some (.int (l2[rn] : Nat)) := by rw [List.getElem?_map, List.getElem?_eq_getElem hrn]; rfl
        walk_at "go"
        refine n_popAt w (by walk_at "pick") rn rfl (by rw [List.length_map]; omega) hy fun H9 w => ?_
        rw [map_eraseN] at w
        have hel : (l2.eraseIdx rn).length = l2.length - 1 := List.length_eraseIdx_of_lt hrn
        refine n_acc (rs.map fun (k : Nat) => V.int (k : Nat)) w ⟨l2.eraseIdx rn, rs ++ [l2[rn]], by rw [List.map_append]; rfl, by rw [List.length_append, hrl]; rfl, fun x hx => ?_, fun x hx => hl2 x (List.mem_of_mem_eraseIdx hx), by omega, rfl⟩ (by walk_at "pk") (small_lt (by rw [List.length_map]; omega))
        rcases List.mem_append.mp hx with hx | hx
        · exact hrs x hx
        · rw [List.mem_singleton.mp hx]; exact hl2 _ (List.getElem_mem hrn)
      · obtain ⟨l2, rs, rfl, hrl, hrs, hl2, hlj, rfl⟩ := hp
        walk_at "go"
        refine n_forR (n := many) w (fun j σ L => ∃ (z2 : List Nat), ∃ y7, σ = [some (.ref b), some (.int (n : Nat)), some (.int wd), some (.ref pl), some (.ref pc), some (.int (many : Nat)), some (.ref D), y7] ∧ z2.length = n ∧ (∀ z ∈ z2, z < n ∨ z = 0) ∧ L = [mu D (.lst (rs.map fun (k : Nat) => V.int (k : Nat))), mu pl (.lst (l2.map fun (k : Nat) => V.int (k : Nat))), mu pc (.lst (z2.map fun (k : Nat) => V.int (k : Nat))), bag K b]) ⟨zs, _, rfl, hzl, hz, rfl⟩ (fun j σ L F' H' hj hp w => ?_) (fun σ L F' H' hp w => ?_)
        · obtain ⟨z2, y7, rfl, hz2l, hz2, rfl⟩ := hp
          have hj2 : j < rs.length := by omega
          have hrj : (rs.map fun (k : Nat) => V.int (k : Nat))[j]? = some (.int (rs[j] : Nat)) := by rw [List.getElem?_map, List.getElem?_eq_getElem hj2]; rfl
          have hrn := hrs _ (List.getElem_mem hj2)
          obtain ⟨x, hx, ex⟩ := pick_nat (rs := rs) (i := ((j : Int) + 1) % (many : Int)) (Int.emod_nonneg _ (by omega)) (by have := Int.emod_lt_of_pos ((j : Int) + 1) (b := (many : Int)) (by omega); omega)
          walk_at "go"
          refine w_ixL _ _ (by walk_at "sq") ex ?_
          walk_at "go"
          refine w_ixL _ _ (by walk_at "sq") (atI_nat hrj) ?_
          walk_at "go"
          refine n_setL w (by walk_at "pick") rs[j] (ixNat (by rw [List.length_map]; omega)) fun H5 w => ?_
          rw [← List.map_set] at w
          refine nx_mk w ⟨z2.set rs[j] x, _, rfl, by rw [List.length_set]; exact hz2l, fun z hz => ?_, rfl⟩ (by walk_at "pk")
          rcases List.mem_or_eq_of_mem_set hz with hz | hz
          · exact hz2 z hz
          · rw [hz]; exact .inl (hrs x hx)
        · obtain ⟨z2, y7, rfl, hz2l, hz2, rfl⟩ := hp
          exact nxm_mk w (m' := l2.length) (by omega) ⟨l2, z2, _, _, _, rfl, hz2l, hz2, hl2, rfl, by omega, rfl⟩ (by walk_at "pk")
-- _law_cell
theorem ok_law_cell {f : Addr} {fd : FuncData} (F : FunD K "_law_cell" "_law_cell" (defArgs s_law_cell) (defBody s_law_cell) (defScope s_law_cell) [] [] f fd) (T : Txt K mg) (D_law_draw : DO P w K mg base 2 "_law_draw" ["bag", "many"] [] (S2 (φdraw K))) (D_law_sign : DO P w K mg base 3 "_law_sign" ["bag", "few"] [] (S2 (φlsign K))) : FnOk P w K mg base CX0 4 f fd ["bag", "size", "few"] (S3 (φlcell K)) := by
  refine F.ok sc_law_cell (fun vs H Q E h => ?_) (fun cdv A outer s H vs Q E hr h => ?_)
  · exact S3.len h
  · match vs, h with
    | [v0, v1, v2], h =>
    have hu := hu_of hr
    refine ⟨_, PSs.nox (pss_cons (ps_if (PW.pt (pw_or (pt_cmpR op_eq (pv 1) pe_int (nomark _)) (pw_or1 (pt_cmpR op_eq (pcall D_law_draw hr (pa_cons (pv 0) (pa_cons pe_int pa_nil))) pe_int (nomark _))))) (pss_one (ps_ret (pcall D_law_sign hr (pa_cons (pv 0) (pa_cons (pv 2) pa_nil))))) pss_nil)
      (pss_one (ps_ret (pcall D_law_draw hr (pa_cons (pv 0) (pa_cons (pv 1) pa_nil)))))), ?_⟩
    rw [show start ["bag", "size", "few"] [v0, v1, v2] = [some v0, some v1, some v2] from rfl]
    obtain ⟨F, b, n, few, rfl, rfl, rfl, s0, hn, q⟩ := h
    have w := s0.w (M := [b])
    walk_at "go"
    by_cases h0 : n = 0
    · rw [decide_eq_true (show ((n : Nat) : Int) = 0 by omega)]
      walk_at "go"
      refine ⟨_, b, few, rfl, rfl, w.st (by walk_at "pick"), fun c F2 H2 w2 hc => ?_⟩
      exact q _ _ _ w2 (.inr ⟨c, rfl, hc⟩)
    · rw [decide_eq_false (show ¬ ((n : Nat) : Int) = 0 by omega)]
      walk_at "go"
      refine n_draw w (by walk_at "pick") (by decide) (by decide) fun r F1 H1 w r0 r1 => ?_
      walk_at "go"
      by_cases h3 : r = 3
      · rw [decide_eq_true h3]
        walk_at "go"
        refine ⟨_, b, few, rfl, rfl, w.st (by walk_at "pick"), fun c F2 H2 w2 hc => ?_⟩
        replace w := w.calB (by walk_at "pick") w2 (by walk_at "app")
        exact q _ _ _ (w.to (by walk_at "pick")) (.inr ⟨c, rfl, hc⟩)
      · rw [decide_eq_false h3]
        walk_at "go"
        refine n_draw w (by walk_at "pick") (by omega) (by omega) fun r2 F1 H1 w r20 r21 => ?_
        walk_at "go"
        exact q _ _ _ (w.to (by walk_at "pick")) (.inl ⟨r2.toNat, by rw [Int.toNat_of_nonneg r20], by omega⟩)
-- _law_cells
theorem ok_law_cells {f : Addr} {fd : FuncData} (F : FunD K "_law_cells" "_law_cells" (defArgs s_law_cells) (defBody s_law_cells) (defScope s_law_cells) [] [] f fd) (T : Txt K mg) (D_law_cell : DO P w K mg base 4 "_law_cell" ["bag", "size", "few"] [] (S3 (φlcell K))) (D_law_draw : DO P w K mg base 2 "_law_draw" ["bag", "many"] [] (S2 (φdraw K))) (D_law_ring_cells : DO P w K mg base 3 "_law_ring_cells" ["bag", "n"] [] (S2 (φlringcells K))) : FnOk P w K mg base CX0 5 f fd ["bag", "way", "n", "few"] (S4 (φlcells34 K)) := by
  refine F.ok sc_law_cells (fun vs H Q E h => ?_) (fun cdv A outer s H vs Q E hr h => ?_)
  · exact S4.len h
  · match vs, h with
    | [v0, v1, v2, v3], h =>
    have hu := hu_of hr
    refine ⟨_, PSs.nox (pss_cons (ps_if (pt_cmpR op_eq (pv 1) pe_int (nomark _)) (pss_cons (ps_set (i := 4) sc_law_cells.nd rfl (.inr rfl) (pcall D_law_draw hr (pa_cons (pv 0) (pa_cons (pe_op op_add (pv 2) pe_int) pa_nil))))
      (pss_one (ps_ret (pe_tup (pa_cons (pv 4) (pa_cons (pe_lc (own := [("k", 7)]) (g := gName 7) rfl sc_law_cells.nd (pi_range1 rfl T.b_range (pa_cons (pcall D_law_draw hr (pa_cons (pv 0) (pa_cons (pe_op op_add (pv 2) pe_int) pa_nil))) pa_nil)) (blkOk_by (own := [("k", 7)]) (N := ["bag", "way", "n", "few", "size", "more", "cells", "k"]) (sc := defScope s_law_cells) (by decide +kernel)) (fun _ _ _ _ _ => pg_name (i := 7) sc_law_cells.nd rfl (Or.inl rfl)) (fun _ _ _ _ _ => pts_nil) (fun _ _ _ _ _ => (pcall D_law_cell hr (pa_cons (pv 0) (pa_cons (pv 4) (pa_cons (pv 3) pa_nil)))))) pa_nil)))))) pss_nil)
      (pss_cons (ps_set (i := 5) sc_law_cells.nd rfl (.inl rfl) (pcall D_law_draw hr (pa_cons (pv 0) (pa_cons pe_int pa_nil))))
      (pss_cons (ps_set (i := 6) sc_law_cells.nd rfl (.inl rfl) (pcall D_law_ring_cells hr (pa_cons (pv 0) (pa_cons (pv 2) pa_nil))))
      (pss_cons (ps_for PassesOwn.never rfl (pi_range1 rfl T.b_range (pa_cons (pe_ix (ixL (K := K)) (pe_lst (pa_cons pe_int (pa_cons pe_int (pa_cons (pe_op op_add pe_int (pv 5)) (pa_cons (pv 5) (pa_cons (pe_op op_add (pe_op op_fdivW (pv 2) pe_int) (pv 5)) pa_nil)))))) (pv 1) (fun _ _ => rfl)) pa_nil)) (pg_name (i := 7) sc_law_cells.nd rfl (.inl rfl)) (pss_one (ps_asg (pcall D_law_cell hr (pa_cons (pv 0) (pa_cons (pv 2) (pa_cons (pv 3) pa_nil)))) (pg_sub (pv 6) (pcall D_law_draw hr (pa_cons (pv 0) (pa_cons (pv 2) pa_nil))) set_list))))
      (pss_cons (ps_if (PW.pt (pw_and (pt_cmpR op_eq (pv 1) pe_int (nomark _)) (pw_and1 (pt_cmpR op_eq (pcall D_law_draw hr (pa_cons (pv 0) (pa_cons pe_int pa_nil))) pe_int (nomark _))))) (pss_one (ps_ret (pe_tup (pa_cons (pv 2) (pa_cons (pe_slice (slL (K := K)) (pv 6) po_none (po_some (pe_op op_sub (pe_op op_sub (pv 2) pe_int) (pcall D_law_draw hr (pa_cons (pv 0) (pa_cons (pv 2) pa_nil)))))) pa_nil))))) pss_nil)
      (pss_cons (ps_if (pt_cmpR op_eq (pv 1) pe_int (nomark _)) (pss_one (ps_ret (pe_tup (pa_cons (pv 2) (pa_cons (pe_op op_cat (pv 6) (pe_lc (own := [("k", 7)]) (g := gName 7) rfl sc_law_cells.nd (pi_range1 rfl T.b_range (pa_cons (pe_callB clMin2 (by rfl) T.b_min (by decide +kernel) (pa_cons (pe_op op_add pe_int (pv 5)) (pa_cons (pe_op op_sub pe_int (pv 2)) pa_nil))) pa_nil)) (blkOk_by (own := [("k", 7)]) (N := ["bag", "way", "n", "few", "size", "more", "cells", "k"]) (sc := defScope s_law_cells) (by decide +kernel)) (fun _ _ _ _ _ => pg_name (i := 7) sc_law_cells.nd rfl (Or.inl rfl)) (fun _ _ _ _ _ => pts_nil) (fun _ _ _ _ _ => (pcall D_law_cell hr (pa_cons (pv 0) (pa_cons (pv 2) (pa_cons (pv 3) pa_nil))))))) pa_nil))))) pss_nil)
      (pss_one (ps_ret (pe_tup (pa_cons (pv 2) (pa_cons (pv 6) pa_nil))))))))))), ?_⟩
    rw [show start ["bag", "way", "n", "few", "size", "more", "cells", "k"] [v0, v1, v2, v3] = [some v0, some v1, some v2, some v3, none, none, none, none] from rfl]
    obtain ⟨F, b, way, n, few, rfl, rfl, rfl, rfl, s0, hway, hn1, hn, q⟩ := h
    have w := s0.w (M := [b])
    walk_at "go"
    by_cases h0 : way = 0
    · rw [decide_eq_true (show ((way : Nat) : Int) = 0 by omega)]
      walk_at "go"
      refine n_draw w (by walk_at "pick") (by omega) (by omega) fun r F1 H1 w r0 r1 => ?_
      obtain ⟨sz, rfl⟩ : ∃ sz : Nat, r = (sz : Int) := ⟨r.toNat, by omega⟩
      walk_at "go"
      refine n_draw w (by walk_at "pick") (by omega) (by omega) fun r2 F1 H1 w r20 r21 => ?_
      obtain ⟨cn, rfl⟩ : ∃ cn : Nat, r2 = (cn : Int) := ⟨r2.toNat, by omega⟩
      walk_at "go"
      refine n_lcR (n := cn) w (fun j ys L => ys.length = j ∧ (∀ v ∈ ys, CellOk sz v) ∧ L = [bag K b]) ⟨rfl, (fun _ h => nomatch h), rfl⟩ (fun j ys L F' H' D hj hp w hD => ?_) (fun D ys L F' H' hp w hD => ?_)
      · obtain ⟨hyl, hyc, rfl⟩ := hp
        walk_at "wp"
        walk_at "go"
        refine ⟨_, b, sz, few, rfl, rfl, rfl, w.st (by walk_at "pick"), by omega, fun v F2 H2 w2 hv => ?_⟩
        replace w := w.calB (by walk_at "pick") w2 (by walk_at "app")
        refine n_acc ys w ⟨by rw [List.length_append, hyl]; rfl, fun u hu => ?_, rfl⟩ (by walk_at "pk") (small_lt (by omega))
        rcases List.mem_append.mp hu with hu | hu
        · exact hyc u hu
        · rw [List.mem_singleton.mp hu]; exact hv
      · obtain ⟨hyl, hyc, rfl⟩ := hp
        walk_at "go"
        refine n_tup w (szle (by simp)) fun t F3 H3 w => ?_
        exact q t D sz ys _ _ hD (w.to (by walk_at "pick")) (by omega) (by omega) hyc
    · rw [decide_eq_false (show ¬ ((way : Nat) : Int) = 0 by omega)]
      walk_at "go"
      refine n_draw w (by walk_at "pick") (by decide) (by decide) fun more F1 H1 w r0 r1 => ?_
      walk_at "go"
      refine ⟨_, b, n, rfl, rfl, w.st (by walk_at "pick"), hn, fun pc zs F2 H2 hpc w2 hzl hz => ?_⟩
      have hpc' := w.g.fresh hpc
      replace w := w.cal (D := [bag K b]) (by walk_at "pick") w2 (by walk_at "app") rfl
      unfold lstN at w
      have hz3 : ∀ v ∈ zs.map (fun (k : Nat) => V.int (k : Nat)), CellOk n v := fun v hv => by
        obtain ⟨z, hz2, rfl⟩ := List.mem_map.mp hv
        exact .inl ⟨z, rfl, by rcases hz z hz2 with h | h <;> omega⟩
      have hzl3 : (zs.map fun (k : Nat) => V.int (k : Nat)).length = n := by rw [List.length_map]; exact hzl
      obtain ⟨xs0, exs⟩ : ∃ xs0, xs0 = zs.map fun (k : Nat) => V.int (k : Nat) := ⟨_, rfl⟩
      rw [← exs] at w hz3 hzl3
      walk_at "go"
      refine n_lst w (szle (by simp)) fun p1 F1 H1 w hp1 => ?_
      obtain ⟨wd, ew, wd0, wd1⟩ := pick_ix (ns := [0, 0, 1 + more, more, (n : Int) / 4 + more]) (i := (way : Nat)) (lo := 0) (hi := 500) (by omega) (by show ((way : Nat) : Int) < 5; omega) (fun x hx => by simp at hx; omega)
      walk_at "go"
      refine w_ixL _ _ (by walk_at "sq") ew ?_
      walk_at "go"
      refine n_forR w (fun i σ L => ∃ (xs : List V), ∃ y7, σ = [some (.ref b), some (.int (way : Nat)), some (.int (n : Nat)), some (.bl few), none, some (.int more), some (.ref pc), y7] ∧ xs.length = n ∧ (∀ v ∈ xs, CellOk n v) ∧ L = [mu pc (.lst xs), bag K b]) ⟨xs0, _, rfl, hzl3, hz3, rfl⟩ (fun i σ L F' H' hi hp w => ?_) (fun σ L F' H' hp w => ?_)
      · obtain ⟨xs, y7, rfl, hxl, hxc, rfl⟩ := hp
        walk_at "go"
        refine ⟨_, b, n, few, rfl, rfl, rfl, w.st (by walk_at "pick"), hn, fun v F2 H2 w2 hv => ?_⟩
        replace w := w.calB (by walk_at "pick") w2 (by walk_at "app")
        walk_at "go"
        refine n_draw w (by walk_at "pick") (by omega) (by omega) fun r F1 H1 w r0 r1 => ?_
        walk_at "go"
        refine n_setL w (by walk_at "pick") r.toNat (ixN_in r0 (by omega)) fun H5 w => ?_
        refine nx_mk w ⟨xs.set r.toNat v, _, rfl, by rw [List.length_set]; exact hxl, fun u hu => ?_, rfl⟩ (by walk_at "pk")
        rcases List.mem_or_eq_of_mem_set hu with hu | hu
        · exact hxc u hu
        · rw [hu]; exact hv
      · obtain ⟨xs, y7, rfl, hxl, hxc, rfl⟩ := hp
        have fin0 : ∀ {F1 H1 L} (pz : Addr) (ys : List V), W [b] F H F1 H1 L → Pk L [mu pz (.lst ys), bag K b] → H pz = none → ys.length ≤ 400 → (∀ v ∈ ys, CellOk n v) → mkT [.int (n : Nat), .ref pz] H1 Q := fun pz ys w k hpz hl hy => by
          obtain ⟨Rs, k⟩ := k
          exact n_tup (w.to k) (szle (by simp)) fun t F3 H3 w => q t pz n ys _ _ hpz (w.to (by walk_at "pick")) (Nat.le_refl _) hl hy
        walk_at "go"
        by_cases h3 : way = 3
        · rw [decide_eq_true (show ((way : Nat) : Int) = 3 by omega)]
          walk_at "go"
          refine n_draw w (by walk_at "pick") (by decide) (by decide) fun r F1 H1 w r0 r1 => ?_
          walk_at "go"
          by_cases h4 : r = 1
          · rw [decide_eq_true h4]
            walk_at "go"
            refine n_draw w (by walk_at "pick") (by omega) (by omega) fun r F1 H1 w r0 r1 => ?_
            walk_at "go"
            obtain ⟨kn, ekn⟩ : ∃ kn : Nat, (kn : Int) = (n : Nat) - 1 - r := ⟨((n : Nat) - 1 - r : Int).toNat, by omega⟩
            rw [← ekn]
            refine n_slL w (by walk_at "sq") fun s1 F3 H3 w hs1 => ?_
            rw [cut_to] at w
            walk_at "go"
            exact fin0 s1 (xs.take kn) w (by walk_at "pk") hs1 (by rw [List.length_take]; omega) fun v hv => hxc v (List.mem_of_mem_take hv)
          · rw [decide_eq_false h4]
            walk_at "go"
            rw [decide_eq_true (show ((way : Nat) : Int) = 3 by omega)]
            walk_at "go"
            obtain ⟨mm, emm⟩ : ∃ mm : Nat, (mm : Int) = (if (400 : Int) - (n : Nat) < 1 + more then (400 : Int) - (n : Nat) else 1 + more) := ⟨(if (400 : Int) - (n : Nat) < 1 + more then (400 : Int) - (n : Nat) else 1 + more).toNat, by split <;> omega⟩
            rw [← emm]
            have hmm : mm + n ≤ 400 := by split at emm <;> omega
            refine n_lcR (n := mm) w (fun j ys L => ys.length = j ∧ (∀ v ∈ ys, CellOk n v) ∧ L = [mu pc (.lst xs), bag K b]) ⟨rfl, (fun _ h => nomatch h), rfl⟩ (fun j ys L F' H' D hj hp w hD => ?_) (fun D ys L F' H' hp w hD => ?_)
            · obtain ⟨hyl, hyc, rfl⟩ := hp
              walk_at "wp"
              walk_at "go"
              refine ⟨_, b, n, few, rfl, rfl, rfl, w.st (by walk_at "pick"), hn, fun v F2 H2 w2 hv => ?_⟩
              replace w := w.calB (by walk_at "pick") w2 (by walk_at "app")
              refine n_acc ys w ⟨by rw [List.length_append, hyl]; rfl, fun u hu => ?_, rfl⟩ (by walk_at "pk") (small_lt (by omega))
              rcases List.mem_append.mp hu with hu | hu
              · exact hyc u hu
              · rw [List.mem_singleton.mp hu]; exact hv
            · obtain ⟨hyl, hyc, rfl⟩ := hp
              walk_at "go"
              refine n_cat w (by walk_at "at") (by walk_at "at") (szle (by omega)) fun p9 F9 H9 w hp9 => ?_
              walk_at "go"
              exact fin0 p9 (xs ++ ys) w (by walk_at "pk") hp9 (by rw [List.length_append]; omega) fun v hv => (List.mem_append.mp hv).elim (hxc v) (hyc v)
        · rw [decide_eq_false (show ¬ ((way : Nat) : Int) = 3 by omega)]
          walk_at "go"
          rw [decide_eq_false (show ¬ ((way : Nat) : Int) = 3 by omega)]
          walk_at "go"
          exact fin0 pc xs w (by walk_at "pk") hpc' (by omega) hxc
-- _law_rows
theorem ok_law_rows {f : Addr} {fd : FuncData} (F : FunD K "_law_rows" "_law_rows" (defArgs s_law_rows) (defBody s_law_rows) (defScope s_law_rows) [] [] f fd) (T : Txt K mg) (D_law_draw : DO P w K mg base 2 "_law_draw" ["bag", "many"] [] (S2 (φdraw K))) : FnOk P w K mg base CX0 3 f fd ["bag", "cells"] (S2 (φlrows31 K)) := by
  refine F.ok sc_law_rows (fun vs H Q E h => ?_) (fun cdv A outer s H vs Q E hr h => ?_)
  · exact S2.len h
  · match vs, h with
    | [v0, v1], h =>
    have hu := hu_of hr
    refine ⟨_, PSs.nox (pss_cons (ps_set (i := 2) sc_law_rows.nd rfl (.inl rfl) (pcall D_law_draw hr (pa_cons (pv 0) (pa_cons pe_int pa_nil))))
      (pss_cons (ps_set (i := 3) sc_law_rows.nd rfl (.inl rfl) (pe_lst pa_nil))
      (pss_cons (ps_for PassesOwn.never rfl (pi_list (pv 1)) (pg_name (i := 4) sc_law_rows.nd rfl (.inl rfl)) (C8.pss_cut (ps_set (i := 5) sc_law_rows.nd rfl (.inl rfl) (pe_ifExp (PW.pt (pw_and (pt_cmpR (opNeD (K := K) hr.units) (pv 3) (pe_lst pa_nil) (nomark _)) (pw_and1 (PW.pt (pw_or (pt_cmpR op_eq (pv 2) pe_int (nomark _)) (pw_or1 (pt_cmpR op_gt (pcall D_law_draw hr (pa_cons (pv 0) (pa_cons pe_int pa_nil))) pe_int (nomark _)))))))) (pe_ix (ixL (K := K)) (pv 3) (pe_un un_neg pe_int) (fun _ _ => rfl)) (pe_tup (pa_cons pe_str (pa_cons pe_int (pa_cons pe_int pa_nil))))))
      (pss_one (ps_if (PW.pt (pw_and (pt_val (pe_callB (clIsi (K := K)) (by rfl) T.b_isinstance (by decide +kernel) (pa_cons (pv 4) (pa_cons (pe_bltn (v := .ty "str") (by rfl) T.b_str (by decide +kernel) rfl) pa_nil)))) (pw_and1 (pt_cmpR op_eq (pe_ix (ixQ (K := K)) (pv 5) pe_int (fun _ _ => rfl)) pe_str (nomark _))))) (pss_one (ps_asg (pe_tup (pa_cons pe_str (pa_cons (pe_op opAddS (pe_ix (ixQ (K := K)) (pv 5) pe_int (fun _ _ => rfl)) (pv 4)) pa_nil))) (pg_sub (pv 3) (pe_un un_neg pe_int) set_list))) (pss_one (ps_if (pt_val (pe_callB (clIsi (K := K)) (by rfl) T.b_isinstance (by decide +kernel) (pa_cons (pv 4) (pa_cons (pe_bltn (v := .ty "str") (by rfl) T.b_str (by decide +kernel) rfl) pa_nil)))) (pss_one (ps_expr (peBM (K := K) PySem.F.plainAttrs_list PySem.F.slot_list_append PySem.F.type_list_append mt_append (pv 3) (pa_cons (pe_tup (pa_cons pe_str (pa_cons (pv 4) pa_nil))) pa_nil)))) (pss_one (ps_if (PW.pt (pw_and (pt_cmpR op_eq (pe_ix (ixQ (K := K)) (pv 5) pe_int (fun _ _ => rfl)) pe_str (nomark _)) (pw_and1 (pt_cmpR op_eq (pe_op op_add (pe_ix (ixQ (K := K)) (pv 5) pe_int (fun _ _ => rfl)) (pe_ix (ixQ (K := K)) (pv 5) pe_int (fun _ _ => rfl))) (pv 4) (nomark _))))) (pss_one (ps_asg (pe_tup (pa_cons pe_str (pa_cons (pe_ix (ixQ (K := K)) (pv 5) pe_int (fun _ _ => rfl)) (pa_cons (pe_op op_add (pe_ix (ixQ (K := K)) (pv 5) pe_int (fun _ _ => rfl)) pe_int) pa_nil)))) (pg_sub (pv 3) (pe_un un_neg pe_int) set_list))) (pss_one (ps_expr (peBM (K := K) PySem.F.plainAttrs_list PySem.F.slot_list_append PySem.F.type_list_append mt_append (pv 3) (pa_cons (pe_tup (pa_cons pe_str (pa_cons (pv 4) (pa_cons pe_int pa_nil)))) pa_nil))))))))))))
      (pss_one (ps_ret (pv 3)))))), ?_⟩
    rw [show start ["bag", "cells", "parted", "rows", "cell", "last"] [v0, v1] = [some v0, some v1, none, none, none, none] from rfl]
    obtain ⟨F, b, a, cs, n, rfl, rfl, s0, hS, hc, hcl, q⟩ := h
    have w := (s0.w (M := [b])).push (imL K a cs) hS
    walk_at "go"
    refine n_draw w (by walk_at "pick") (by decide) (by decide) fun pa F1 H1 w r0 r1 => ?_
    walk_at "go"
    refine n_lst w (szle (by simp)) fun pr F1 H1 w hpr => ?_
    replace w := w.push (dpa K [] (([] : List CRow).map CRow.d)) .nil
    walk_at "go"
    refine n_forL cs w (fun i σ L => ∃ (rows : List CRow) (ys : List V), ∃ y4 y5, σ = [some (.ref b), some (.ref a), some (.int pa), some (.ref pr), y4, y5] ∧ (∀ r ∈ rows, CRowOk n r) ∧ cellsV rows = cs.take i ∧ L = [mu pr (.lst ys), dpa K ys (rows.map CRow.d), bag K b, imL K a cs]) ⟨[], [], _, _, rfl, (fun _ h => nomatch h), rfl, rfl⟩ (fun i σ L F' H' hp w => ?_) (fun i x σ L F' H' hx hp w => ?_) (fun σ L F' H' hp w => ?_)
    · obtain ⟨rows, ys, y4, y5, rfl, hro, hce, rfl⟩ := hp
      walk_at "sq"
    · obtain ⟨rows, ys, y4, y5, rfl, hro, hce, rfl⟩ := hp
      have et : cs.take (i + 1) = cs.take i ++ [x] := by rw [List.take_add_one, hx]; rfl
      have hil := (List.getElem?_eq_some_iff.mp hx).1
      have hcx := hc x (List.mem_of_getElem? hx)
      have hyl : ys.length = rows.length := by rw [dpa_len (w.dpa (K := K) (xs := ys) (ds := rows.map CRow.d) (by walk_at "mem")), List.length_map]
      have hrl : rows.length ≤ 400 := by
        have h1 := rows_len fun r hr => (hro r hr).p
        rw [← cells_len, hce, List.length_take] at h1
        omega
      walk_at "go"
      refine n_cut w (fun σ L => ∃ v, σ = [some (.ref b), some (.ref a), some (.int pa), some (.ref pr), some x, some v] ∧ ((∃ t, v = .ref t ∧ L = [fx t (.tup [.str (Str.ofString ""), .int 0, .int 0]), mu pr (.lst ys), dpa K ys (rows.map CRow.d), bag K b, imL K a cs]) ∨ ∃ r rows0, rows = rows0 ++ [r] ∧ L = [dat K v r.d, mu pr (.lst ys), dpa K ys (rows.map CRow.d), bag K b, imL K a cs])) ?_ (fun σ L F' H' hp w => ?_)
      · walk_at "go"
        refine n_lst w (szle (by simp)) fun p3 F3 H3 w hp3 => ?_
        by_cases hne : rows = []
        · subst hne
          have hy0 : ys = [] := List.length_eq_zero_iff.mp hyl
          subst hy0
          refine u_neD (Same.refl _) (d := .list []) (.lst (by walk_at "sq") .nil) (.lst (by walk_at "sq") .nil) rfl (by decide) ?_
          walk_at "go"
          refine n_tup w (szle (by simp)) fun t F3 H3 w => ?_
          walk_at "go"
          exact nx_mk w ⟨_, rfl, .inl ⟨t, rfl, rfl⟩⟩ (by walk_at "pk")
        · obtain ⟨rows0, r, hrr⟩ := snoc_of hne
          obtain ⟨ys0, v, hyv⟩ := snoc_of (l := ys) fun e => by rw [e] at hyl; exact hne (List.length_eq_zero_iff.mp hyl.symm)
          have hg := crows_good (ms := rows) (fun r hr => (hro r hr).s) (by omega)
          have hdv : ∀ {F1}, DpAll K F1 ys (rows.map CRow.d) → Dp K F1 v r.d := fun {F1} h => by
            have e1 : ys0.length = rows0.length := by
              have := hyl
              rw [hrr, hyv, List.length_append, List.length_append] at this
              simpa using this
            obtain ⟨r2, h1, h2⟩ := dpa_at h (i := ys0.length) (y := v) (by rw [hyv, List.getElem?_append_right (Nat.le_refl _), Nat.sub_self]; rfl)
            rw [hrr, e1, List.getElem?_append_right (Nat.le_refl _), Nat.sub_self] at h1
            cases h1
            exact h2
          refine ⟨.list (rows.map CRow.d), .list [], .lst (by walk_at "sq") (dpa_same w.fh _ _ (w.dpa (by walk_at "mem"))), .lst (by walk_at "sq") .nil, good_shaped hg.1 (Nat.le_trans hg.2 (by decide)), good_shaped rfl (by decide), ?_⟩
          rw [show PyData.eqv (.list (rows.map CRow.d)) (.list []) = false by cases rows with | nil => exact absurd rfl hne | cons a b => rfl]
          walk_at "go"
          by_cases hp0 : pa = 0
          · rw [decide_eq_true hp0]
            walk_at "go"
            refine w_ixL _ _ (by walk_at "sq") (by rw [hyv]; exact atI_last) ?_
            walk_at "go"
            replace w := w.push (dat K v r.d) (hdv (w.dpa (by walk_at "mem")))
            exact nx_mk w ⟨_, rfl, .inr ⟨r, rows0, hrr, rfl⟩⟩ (by walk_at "pk")
          · rw [decide_eq_false hp0]
            walk_at "go"
            refine n_draw w (by walk_at "pick") (by decide) (by decide) fun r7 F1 H1 w r70 r71 => ?_
            walk_at "go"
            by_cases hp1 : 0 < r7
            · rw [decide_eq_true hp1]
              walk_at "go"
              refine w_ixL _ _ (by walk_at "sq") (by rw [hyv]; exact atI_last) ?_
              walk_at "go"
              replace w := w.push (dat K v r.d) (hdv (w.dpa (by walk_at "mem")))
              exact nx_mk w ⟨_, rfl, .inr ⟨r, rows0, hrr, rfl⟩⟩ (by walk_at "pk")
            · rw [decide_eq_false hp1]
              walk_at "go"
              refine n_tup w (szle (by simp)) fun t F3 H3 w => ?_
              walk_at "go"
              exact nx_mk w ⟨_, rfl, .inl ⟨t, rfl, rfl⟩⟩ (by walk_at "pk")
      · obtain ⟨v, rfl, hp⟩ := hp
        rcases hcx with ⟨k, rfl, hk⟩ | ⟨c, rfl, hcc⟩
        · rcases hp with ⟨t, rfl, rfl⟩ | ⟨r, rows0, hrr, rfl⟩
          · walk_at "go"
            refine u_isi (F := H') (d := .int _) (.int _) (Same.refl _) (k_str _) ?_
            walk_at "go"
            refine w_is (c := false) rfl ?_
            walk_at "go"
            refine u_isi (F := H') (d := .int _) (.int _) (Same.refl _) (k_str _) ?_
            walk_at "go"
            refine w_is (c := false) rfl ?_
            walk_at "go"
            refine w_ixQ [.str (Str.ofString ""), .int 0, .int 0] _ (.inr (by walk_at "st")) rfl ?_
            walk_at "go"
            refine n_tup w (szle (by simp)) fun t9 F9 H9 w => ?_
            walk_at "go"
            have d9 := dpa_snoc (w.dpa (K := K) (xs := ys) (ds := rows.map CRow.d) (by walk_at "mem")) (dp_ccopy' (K := K) (a := k) (n := 1) (sqT_of (w.i (fx t9 _) (by walk_at "mem"))))
            rw [show rows.map CRow.d ++ [(CRow.copy k 1).d] = (rows ++ [CRow.copy k 1]).map CRow.d by rw [List.map_append]; rfl] at d9
            replace w := w.push (dpa K (ys ++ [V.ref t9]) ((rows ++ [CRow.copy k 1]).map CRow.d)) d9
            refine n_app w (by walk_at "pick") (small_lt (by omega)) fun H5 w => ?_
            walk_at "go"
            exact nx_mk w ⟨rows ++ [CRow.copy k 1], ys ++ [V.ref t9], _, _, rfl, fun r2 hr2 => (List.mem_append.mp hr2).elim (hro r2) fun h2 => by rw [List.mem_singleton.mp h2]; exact rowok_one hk, by rw [cells_snoc, hce, et]; rfl, rfl⟩ (by walk_at "pk")
          · cases r with
            | put s =>
              obtain ⟨pm, rfl, hT⟩ := dp_cput (w.dat (K := K) (d := CRow.d (.put s)) (by walk_at "mem"))
              replace w := w.push (imT K pm [.str "put", .str s]) hT
              walk_at "go"
              refine u_isi (F := H') (d := .int _) (.int _) (Same.refl _) (k_str _) ?_
              walk_at "go"
              refine w_is (c := false) rfl ?_
              walk_at "go"
              refine u_isi (F := H') (d := .int _) (.int _) (Same.refl _) (k_str _) ?_
              walk_at "go"
              refine w_is (c := false) rfl ?_
              walk_at "go"
              refine w_ixQ [.str "put", .str s] _ (.inr (by walk_at "st")) rfl ?_
              walk_at "go"
              refine n_tup w (szle (by simp)) fun t9 F9 H9 w => ?_
              walk_at "go"
              have d9 := dpa_snoc (w.dpa (K := K) (xs := ys) (ds := rows.map CRow.d) (by walk_at "mem")) (dp_ccopy' (K := K) (a := k) (n := 1) (sqT_of (w.i (fx t9 _) (by walk_at "mem"))))
              rw [show rows.map CRow.d ++ [(CRow.copy k 1).d] = (rows ++ [CRow.copy k 1]).map CRow.d by rw [List.map_append]; rfl] at d9
              replace w := w.push (dpa K (ys ++ [V.ref t9]) ((rows ++ [CRow.copy k 1]).map CRow.d)) d9
              refine n_app w (by walk_at "pick") (small_lt (by omega)) fun H5 w => ?_
              walk_at "go"
              exact nx_mk w ⟨rows ++ [CRow.copy k 1], ys ++ [V.ref t9], _, _, rfl, fun r2 hr2 => (List.mem_append.mp hr2).elim (hro r2) fun h2 => by rw [List.mem_singleton.mp h2]; exact rowok_one hk, by rw [cells_snoc, hce, et]; rfl, rfl⟩ (by walk_at "pk")
            | copy a0 m =>
              obtain ⟨pm, rfl, hT⟩ := dp_ccopy (w.dat (K := K) (d := CRow.d (.copy a0 m)) (by walk_at "mem"))
              replace w := w.push (imT K pm [.str "copy", .int a0, .int m]) hT
              walk_at "go"
              refine u_isi (F := H') (d := .int _) (.int _) (Same.refl _) (k_str _) ?_
              walk_at "go"
              refine w_is (c := false) rfl ?_
              walk_at "go"
              refine u_isi (F := H') (d := .int _) (.int _) (Same.refl _) (k_str _) ?_
              walk_at "go"
              refine w_is (c := false) rfl ?_
              walk_at "go"
              refine w_ixQ [.str "copy", .int a0, .int m] _ (.inr (by walk_at "st")) rfl ?_
              walk_at "go"
              refine w_ixQ [.str "copy", .int a0, .int m] _ (.inr (by walk_at "st")) rfl ?_
              walk_at "go"
              refine w_ixQ [.str "copy", .int a0, .int m] _ (.inr (by walk_at "st")) rfl ?_
              walk_at "go"
              by_cases hkk : a0 + m = k
              · rw [decide_eq_true (show ((a0 : Nat) : Int) + (m : Nat) = (k : Nat) by omega)]
                walk_at "go"
                have hdl : rows.map CRow.d = rows0.map CRow.d ++ [(CRow.copy a0 m).d] := by rw [hrr, List.map_append]; rfl
                have hy1 : 0 < ys.length := by rw [hyl, hrr, List.length_append]; exact Nat.succ_pos _
                refine w_ixQ [.str "copy", .int a0, .int m] _ (.inr (by walk_at "st")) rfl ?_
                walk_at "go"
                refine w_ixQ [.str "copy", .int a0, .int m] _ (.inr (by walk_at "st")) rfl ?_
                walk_at "go"
                refine n_tup w (szle (by simp)) fun t9 F9 H9 w => ?_
                walk_at "go"
                have d9 := dpa_setL (hdl ▸ w.dpa (K := K) (xs := ys) (ds := rows.map CRow.d) (by walk_at "mem")) (dp_ccopy' (K := K) (a := a0) (n := m + 1) (sqT_of (w.i (fx t9 _) (by walk_at "mem"))))
                rw [show rows0.map CRow.d ++ [(CRow.copy a0 (m + 1)).d] = (rows0 ++ [CRow.copy a0 (m + 1)]).map CRow.d by rw [List.map_append]; rfl] at d9
                replace w := w.push (dpa K (ys.set (ys.length - 1) (V.ref t9)) ((rows0 ++ [CRow.copy a0 (m + 1)]).map CRow.d)) d9
                refine n_setL w (by walk_at "pick") (ys.length - 1) (ixN_m1 hy1) fun H5 w => ?_
                walk_at "go"
                exact nx_mk w ⟨rows0 ++ [CRow.copy a0 (m + 1)], ys.set (ys.length - 1) (V.ref t9), _, _, rfl, fun r2 hr2 => (List.mem_append.mp hr2).elim (fun h2 => hro r2 (by rw [hrr]; exact List.mem_append_left _ h2)) fun h2 => by rw [List.mem_singleton.mp h2]; exact rowok_more (hro _ (by rw [hrr]; exact List.mem_append_right _ (List.mem_singleton.mpr rfl))) (by omega), by rw [cells_snoc, cell_more, hkk, ← List.append_assoc, ← cells_snoc, ← hrr, hce, et], rfl⟩ (by walk_at "pk")
              · rw [decide_eq_false (show ¬ ((a0 : Nat) : Int) + (m : Nat) = (k : Nat) by omega)]
                walk_at "go"
                refine n_tup w (szle (by simp)) fun t9 F9 H9 w => ?_
                walk_at "go"
                have d9 := dpa_snoc (w.dpa (K := K) (xs := ys) (ds := rows.map CRow.d) (by walk_at "mem")) (dp_ccopy' (K := K) (a := k) (n := 1) (sqT_of (w.i (fx t9 _) (by walk_at "mem"))))
                rw [show rows.map CRow.d ++ [(CRow.copy k 1).d] = (rows ++ [CRow.copy k 1]).map CRow.d by rw [List.map_append]; rfl] at d9
                replace w := w.push (dpa K (ys ++ [V.ref t9]) ((rows ++ [CRow.copy k 1]).map CRow.d)) d9
                refine n_app w (by walk_at "pick") (small_lt (by omega)) fun H5 w => ?_
                walk_at "go"
                exact nx_mk w ⟨rows ++ [CRow.copy k 1], ys ++ [V.ref t9], _, _, rfl, fun r2 hr2 => (List.mem_append.mp hr2).elim (hro r2) fun h2 => by rw [List.mem_singleton.mp h2]; exact rowok_one hk, by rw [cells_snoc, hce, et]; rfl, rfl⟩ (by walk_at "pk")
        · rcases hp with ⟨t, rfl, rfl⟩ | ⟨r, rows0, hrr, rfl⟩
          · walk_at "go"
            refine u_isi (F := H') (d := .str _) (.str _) (Same.refl _) (k_str _) ?_
            walk_at "go"
            refine w_is (c := true) rfl ?_
            walk_at "go"
            refine w_ixQ [.str (Str.ofString ""), .int 0, .int 0] _ (.inr (by walk_at "st")) rfl ?_
            walk_at "go"
            refine u_isi (F := H') (d := .str _) (.str _) (Same.refl _) (k_str _) ?_
            walk_at "go"
            refine w_is (c := true) rfl ?_
            walk_at "go"
            refine n_tup w (szle (by simp)) fun t9 F9 H9 w => ?_
            walk_at "go"
            have d9 := dpa_snoc (w.dpa (K := K) (xs := ys) (ds := rows.map CRow.d) (by walk_at "mem")) (dp_cput' (K := K) (s := ⟨#[c]⟩) (sqT_of (w.i (fx t9 _) (by walk_at "mem"))))
            rw [show rows.map CRow.d ++ [(CRow.put ⟨#[c]⟩).d] = (rows ++ [CRow.put ⟨#[c]⟩]).map CRow.d by rw [List.map_append]; rfl] at d9
            replace w := w.push (dpa K (ys ++ [V.ref t9]) ((rows ++ [CRow.put ⟨#[c]⟩]).map CRow.d)) d9
            refine n_app w (by walk_at "pick") (small_lt (by omega)) fun H5 w => ?_
            walk_at "go"
            exact nx_mk w ⟨rows ++ [CRow.put ⟨#[c]⟩], ys ++ [V.ref t9], _, _, rfl, fun r2 hr2 => (List.mem_append.mp hr2).elim (hro r2) fun h2 => by rw [List.mem_singleton.mp h2]; exact rowok_char hcc, by rw [cells_snoc, hce, et]; rfl, rfl⟩ (by walk_at "pk")
          · cases r with
            | put s =>
              obtain ⟨pm, rfl, hT⟩ := dp_cput (w.dat (K := K) (d := CRow.d (.put s)) (by walk_at "mem"))
              replace w := w.push (imT K pm [.str "put", .str s]) hT
              walk_at "go"
              refine u_isi (F := H') (d := .str _) (.str _) (Same.refl _) (k_str _) ?_
              walk_at "go"
              refine w_is (c := true) rfl ?_
              walk_at "go"
              refine w_ixQ [.str "put", .str s] _ (.inr (by walk_at "st")) rfl ?_
              walk_at "go"
              have hsl : s.length ≤ 400 := by
                have h1 : (cellsV rows).length ≤ 400 := by rw [hce, List.length_take]; omega
                rw [hrr, cells_snoc, List.length_append] at h1
                have h2 : (CRow.put s).cellV.length = s.length := chars_len s
                omega
              have hso := hro (.put s) (by rw [hrr]; exact List.mem_append_right _ (List.mem_singleton.mpr rfl))
              have hcl1 : (⟨#[c]⟩ : Str).length = 1 := rfl
              have hdl : rows.map CRow.d = rows0.map CRow.d ++ [(CRow.put s).d] := by rw [hrr, List.map_append]; rfl
              have hy1 : 0 < ys.length := by rw [hyl, hrr, List.length_append]; exact Nat.succ_pos _
              refine w_ixQ [.str "put", .str s] _ (.inr (by walk_at "st")) rfl ?_
              walk_at "go"
              walk_at "go"
              refine n_tup w (szle (by simp)) fun t9 F9 H9 w => ?_
              walk_at "go"
              have d9 := dpa_setL (hdl ▸ w.dpa (K := K) (xs := ys) (ds := rows.map CRow.d) (by walk_at "mem")) (dp_cput' (K := K) (s := s ++ ⟨#[c]⟩) (sqT_of (w.i (fx t9 _) (by walk_at "mem"))))
              rw [show rows0.map CRow.d ++ [(CRow.put (s ++ ⟨#[c]⟩)).d] = (rows0 ++ [CRow.put (s ++ ⟨#[c]⟩)]).map CRow.d by rw [List.map_append]; rfl] at d9
              replace w := w.push (dpa K (ys.set (ys.length - 1) (V.ref t9)) ((rows0 ++ [CRow.put (s ++ ⟨#[c]⟩)]).map CRow.d)) d9
              refine n_setL w (by walk_at "pick") (ys.length - 1) (ixN_m1 hy1) fun H5 w => ?_
              walk_at "go"
              exact nx_mk w ⟨rows0 ++ [CRow.put (s ++ ⟨#[c]⟩)], ys.set (ys.length - 1) (V.ref t9), _, _, rfl, fun r2 hr2 => (List.mem_append.mp hr2).elim (fun h2 => hro r2 (by rw [hrr]; exact List.mem_append_left _ h2)) fun h2 => by rw [List.mem_singleton.mp h2]; exact ⟨⟨ok_cat hso.s.1 (one_ok hcc), by rw [len_app]; omega⟩, by show 1 ≤ (s ++ (⟨#[c]⟩ : Str)).length; rw [len_app]; omega, Nat.zero_le _⟩, by rw [cells_snoc, cell_cat, ← List.append_assoc, ← cells_snoc, ← hrr, hce, et], rfl⟩ (by walk_at "pk")
            | copy a0 m =>
              obtain ⟨pm, rfl, hT⟩ := dp_ccopy (w.dat (K := K) (d := CRow.d (.copy a0 m)) (by walk_at "mem"))
              replace w := w.push (imT K pm [.str "copy", .int a0, .int m]) hT
              walk_at "go"
              refine u_isi (F := H') (d := .str _) (.str _) (Same.refl _) (k_str _) ?_
              walk_at "go"
              refine w_is (c := true) rfl ?_
              walk_at "go"
              refine w_ixQ [.str "copy", .int a0, .int m] _ (.inr (by walk_at "st")) rfl ?_
              walk_at "go"
              refine u_isi (F := H') (d := .str _) (.str _) (Same.refl _) (k_str _) ?_
              walk_at "go"
              refine w_is (c := true) rfl ?_
              walk_at "go"
              refine n_tup w (szle (by simp)) fun t9 F9 H9 w => ?_
              walk_at "go"
              have d9 := dpa_snoc (w.dpa (K := K) (xs := ys) (ds := rows.map CRow.d) (by walk_at "mem")) (dp_cput' (K := K) (s := ⟨#[c]⟩) (sqT_of (w.i (fx t9 _) (by walk_at "mem"))))
              rw [show rows.map CRow.d ++ [(CRow.put ⟨#[c]⟩).d] = (rows ++ [CRow.put ⟨#[c]⟩]).map CRow.d by rw [List.map_append]; rfl] at d9
              replace w := w.push (dpa K (ys ++ [V.ref t9]) ((rows ++ [CRow.put ⟨#[c]⟩]).map CRow.d)) d9
              refine n_app w (by walk_at "pick") (small_lt (by omega)) fun H5 w => ?_
              walk_at "go"
              exact nx_mk w ⟨rows ++ [CRow.put ⟨#[c]⟩], ys ++ [V.ref t9], _, _, rfl, fun r2 hr2 => (List.mem_append.mp hr2).elim (hro r2) fun h2 => by rw [List.mem_singleton.mp h2]; exact rowok_char hcc, by rw [cells_snoc, hce, et]; rfl, rfl⟩ (by walk_at "pk")
    · obtain ⟨rows, ys, y4, y5, rfl, hro, hce, rfl⟩ := hp
      rw [List.take_length] at hce
      walk_at "go"
      exact q pr ys rows _ _ hpr (w.to (by walk_at "pick")) ⟨hro, by rw [← cells_len, hce]; exact hcl⟩ hce
-- _law_whole
theorem ok_law_whole {f : Addr} {fd : FuncData} (F : FunD K "_law_whole" "_law_whole" (defArgs s_law_whole) (defBody s_law_whole) (defScope s_law_whole) [] [] f fd) (T : Txt K mg)  : FnOk P w K mg base CX0 1 f fd ["got"] (S1 φwholeI) := by
  refine F.ok sc_law_whole (fun vs H Q E h => ?_) (fun cdv A outer s H vs Q E hr h => ?_)
  · exact S1.len h
  · match vs, h with
    | [v0], h =>
    have hu := hu_of hr
    refine ⟨_, PSs.nox (pss_one (ps_ret (pe_and (pe_callB (clIsi (K := K)) (by rfl) T.b_isinstance (by decide +kernel) (pa_cons (pv 0) (pa_cons (pe_bltn (v := .ty "int") (by rfl) T.b_int (by decide +kernel) rfl) pa_nil))) (pe_one (pe_not (pe_callB (clIsi (K := K)) (by rfl) T.b_isinstance (by decide +kernel) (pa_cons (pv 0) (pa_cons (pe_bltn (v := .ty "bool") (by rfl) T.b_bool (by decide +kernel) rfl) pa_nil)))))))), ?_⟩
    rw [show start ["got"] [v0] = [some v0] from rfl]
    obtain ⟨i, rfl, q⟩ := h
    walk_at "go"
    refine u_isi (F := H) (d := .int i) (.int _) (Same.refl _) (k_int _) ?_
    walk_at "go"
    refine w_is (c := true) rfl ?_
    walk_at "go"
    refine u_isi (F := H) (d := .int i) (.int _) (Same.refl _) (k_bool _) ?_
    walk_at "go"
    exact q
-- _law_row_done
theorem ok_law_row_done {f : Addr} {fd : FuncData} (F : FunD K "_law_row_done" "_law_row_done" (defArgs s_law_row_done) (defBody s_law_row_done) (defScope s_law_row_done) [] [] f fd) (T : Txt K mg) (D_law_whole : DO P w K mg base 1 "_law_whole" ["got"] [] (S1 φwholeI)) : FnOk P w K mg base CX0 2 f fd ["room", "slots", "row"] (S3 (φlrowdone K)) := by
  refine F.ok sc_law_row_done (fun vs H Q E h => ?_) (fun cdv A outer s H vs Q E hr h => ?_)
  · exact S3.len h
  · match vs, h with
    | [v0, v1, v2], h =>
    have hu := hu_of hr
    refine ⟨_, PSs.nox (pss_cons (ps_if (PW.pt (pw_or (pt_not (pt_val (pe_callB (clIsi (K := K)) (by rfl) T.b_isinstance (by decide +kernel) (pa_cons (pv 2) (pa_cons (pe_bltn (v := .ty "tuple") (by rfl) T.b_tuple (by decide +kernel) rfl) pa_nil))))) (pw_or (pt_cmpR (opNotIn (K := K)) (pe_callB (clLenQ (K := K)) (by rfl) T.b_len (by decide +kernel) (pa_cons (pv 2) pa_nil)) (pe_lst (pa_cons pe_int (pa_cons pe_int pa_nil))) (by rfl)) (pw_or1 (pt_not (pt_val (pe_callB (clIsi (K := K)) (by rfl) T.b_isinstance (by decide +kernel) (pa_cons (pe_ix (ixT (K := K)) (pv 2) pe_int (fun _ _ => rfl)) (pa_cons (pe_bltn (v := .ty "str") (by rfl) T.b_str (by decide +kernel) rfl) pa_nil))))))))) (pss_one (ps_ret pe_bl)) pss_nil)
      (pss_cons (ps_if (PW.pt (pw_or (pt_not (pt_val (pcall D_law_whole hr (pa_cons (pe_ix (ixT (K := K)) (pv 2) pe_int (fun _ _ => rfl)) pa_nil)))) (pw_or (pt_cmpR op_lt (pe_ix (ixT (K := K)) (pv 2) pe_int (fun _ _ => rfl)) pe_int (nomark _)) (pw_or1 (pt_cmpR (opNotIn (K := K)) (pe_ix (ixT (K := K)) (pv 2) pe_int (fun _ _ => rfl)) (pe_lst (pa_cons pe_str (pa_cons pe_str (pa_cons pe_str (pa_cons pe_str pa_nil))))) (by rfl)))))) (pss_one (ps_ret pe_bl)) pss_nil)
      (pss_cons (ps_set (i := 3) sc_law_row_done.nd rfl (.inl rfl) (pe_ifExp (pt_cmpR op_eq (pe_ix (ixT (K := K)) (pv 2) pe_int (fun _ _ => rfl)) pe_str (nomark _)) (pv 1) (pv 0)))
      (pss_cons (ps_if (PW.pt (pw_or (pt_cmpR op_ge (pe_ix (ixT (K := K)) (pv 2) pe_int (fun _ _ => rfl)) (pe_callB (clLenQ (K := K)) (by rfl) T.b_len (by decide +kernel) (pa_cons (pv 3) pa_nil)) (nomark _)) (pw_or1 (pt_cmpR op_ne (pe_cmpR op_eq (pe_ix (ixT (K := K)) (pv 2) pe_int (fun _ _ => rfl)) pe_str (nomark _)) (pe_cmpR op_eq (pe_callB (clLenQ (K := K)) (by rfl) T.b_len (by decide +kernel) (pa_cons (pv 2) pa_nil)) pe_int (nomark _)) (nomark _))))) (pss_one (ps_ret pe_bl)) pss_nil)
      (pss_cons (ps_if (pt_cmpR op_eq (pe_ix (ixT (K := K)) (pv 2) pe_int (fun _ _ => rfl)) pe_str (nomark _)) (pss_cons (ps_asg (pe_ix (ixT (K := K)) (pv 2) pe_int (fun _ _ => rfl)) (pg_sub (pv 3) (pe_ix (ixT (K := K)) (pv 2) pe_int (fun _ _ => rfl)) set_list))
      (pss_one (ps_ret (pe_and (pe_callB (clIsi (K := K)) (by rfl) T.b_isinstance (by decide +kernel) (pa_cons (pe_ix (ixT (K := K)) (pv 2) pe_int (fun _ _ => rfl)) (pa_cons (pe_bltn (v := .ty "str") (by rfl) T.b_str (by decide +kernel) rfl) pa_nil))) (pe_one (pe_cmpR op_eq (pe_callB clLenS (by rfl) T.b_len (by decide +kernel) (pa_cons (pe_ix (ixT (K := K)) (pv 2) pe_int (fun _ _ => rfl)) pa_nil)) pe_int (nomark _))))))) pss_nil)
      (pss_cons (ps_set (i := 4) sc_law_row_done.nd rfl (.inl rfl) (pe_ifExp (pt_cmpR op_eq (pe_ix (ixT (K := K)) (pv 2) pe_int (fun _ _ => rfl)) pe_str (nomark _)) (pv 1) (pv 0)))
      (pss_cons (ps_if (PW.pt (pw_or (pt_not (pt_val (pcall D_law_whole hr (pa_cons (pe_ix (ixT (K := K)) (pv 2) pe_int (fun _ _ => rfl)) pa_nil)))) (pw_or (pt_cmpR op_lt (pe_ix (ixT (K := K)) (pv 2) pe_int (fun _ _ => rfl)) pe_int (nomark _)) (pw_or (pt_cmpR op_ge (pe_ix (ixT (K := K)) (pv 2) pe_int (fun _ _ => rfl)) (pe_callB (clLenQ (K := K)) (by rfl) T.b_len (by decide +kernel) (pa_cons (pv 4) pa_nil)) (nomark _)) (pw_or (pt_not (pt_val (pcall D_law_whole hr (pa_cons (pe_ix (ixT (K := K)) (pv 2) pe_int (fun _ _ => rfl)) pa_nil)))) (pw_or1 (pt_cmpR op_ne (pe_ix (ixT (K := K)) (pv 2) pe_int (fun _ _ => rfl)) pe_int (nomark _)))))))) (pss_one (ps_ret pe_bl)) pss_nil)
      (pss_cons (ps_if (PW.pt (pw_or (pt_cmp (pc_isN (pe_ix (ixL (K := K)) (pv 4) (pe_ix (ixT (K := K)) (pv 2) pe_int (fun _ _ => rfl)) (fun _ _ => rfl))) (by rfl)) (pw_or1 (PW.pt (pw_and (pt_cmpR op_eq (pe_ix (ixT (K := K)) (pv 2) pe_int (fun _ _ => rfl)) pe_str (nomark _)) (pw_and1 (pt_cmpR op_eq (pe_ix (ixT (K := K)) (pv 2) pe_int (fun _ _ => rfl)) (pe_ix (ixT (K := K)) (pv 2) pe_int (fun _ _ => rfl)) (nomark _)))))))) (pss_one (ps_ret pe_bl)) pss_nil)
      (pss_cons (ps_asg (pe_ix (ixL (K := K)) (pv 4) (pe_ix (ixT (K := K)) (pv 2) pe_int (fun _ _ => rfl)) (fun _ _ => rfl)) (pg_sub (pv 3) (pe_ix (ixT (K := K)) (pv 2) pe_int (fun _ _ => rfl)) set_list))
      (pss_one (ps_ret pe_bl))))))))))), ?_⟩
    rw [show start ["room", "slots", "row", "target", "source"] [v0, v1, v2] = [some v0, some v1, some v2, none, none] from rfl]
    obtain ⟨F, a, b, cs, ss, r, st, rfl, rfl, s0, hd, hd1, hcf, hsf, hcl, hsl, q⟩ := h
    have w := s0.w (M := [a, b])
    cases hd1 with
    | put k c hk hcc =>
      obtain ⟨t, rfl, hT⟩ := dp_jput hd
      replace w := w.push (imT K t _) hT
      walk_at "go"
      refine u_isi (F := F) hd w.fh (k_tuple _) ?_
      walk_at "go"
      refine w_is (c := false) rfl ?_
      walk_at "go"
      refine n_lst w (szle (by simp)) fun p1 F1 H1 w hp1 => ?_
      walk_at "go"
      refine n_ninF (by walk_at "sq") rfl rfl rfl ?_
      walk_at "go"
      refine u_isi (d := .str _) (.str _) w.fh (k_str _) ?_
      walk_at "go"
      refine w_is (c := false) rfl ?_
      walk_at "go"
      refine ⟨_, rfl, ?_⟩
      walk_at "go"
      refine w_iteF (by omega) ?_
      walk_at "go"
      refine n_lst w (szle (by simp)) fun p2 F2 H2 w hp2 => ?_
      walk_at "go"
      refine n_ninF (by walk_at "sq") rfl rfl (by decide +kernel) ?_
      walk_at "go"
      refine w_iteF (by omega) ?_
      walk_at "go"
      refine w_is (c := false) rfl ?_
      walk_at "go"
      refine n_setL w (by walk_at "pick") k (ixNat (by omega)) fun H3 w => ?_
      walk_at "go"
      refine u_isi (d := .str _) (.str _) w.fh (k_str _) ?_
      walk_at "go"
      refine w_is (c := true) rfl ?_
      walk_at "go"
      refine w_lenS (szle (show (1 : Nat) ≤ 1000000 by decide)) ?_
      walk_at "go"
      exact q _ _ (w.to (by walk_at "pick"))
    | copy k f v hk hf hv hne =>
      obtain ⟨t, rfl, hT⟩ := dp_j4 hd
      replace w := w.push (imT K t _) hT
      walk_at "go"
      refine u_isi (F := F) hd w.fh (k_tuple _) ?_
      walk_at "go"
      refine w_is (c := false) rfl ?_
      walk_at "go"
      refine n_lst w (szle (by simp)) fun p1 F1 H1 w hp1 => ?_
      walk_at "go"
      refine n_ninF (by walk_at "sq") rfl rfl rfl ?_
      walk_at "go"
      refine u_isi (d := .str _) (.str _) w.fh (k_str _) ?_
      walk_at "go"
      refine w_is (c := false) rfl ?_
      walk_at "go"
      refine ⟨_, rfl, ?_⟩
      walk_at "go"
      refine w_iteF (by omega) ?_
      walk_at "go"
      refine n_lst w (szle (by simp)) fun p2 F2 H2 w hp2 => ?_
      walk_at "go"
      refine n_ninF (by walk_at "sq") rfl rfl (by decide +kernel) ?_
      walk_at "go"
      walk_at "go"
      refine w_iteF (by omega) ?_
      walk_at "go"
      refine w_is (c := false) rfl ?_
      walk_at "go"
      refine ⟨_, rfl, ?_⟩
      walk_at "go"
      refine w_iteF (by omega) ?_
      walk_at "go"
      refine w_iteF (by have := (List.getElem?_eq_some_iff.mp hf).1; omega) ?_
      walk_at "go"
      refine ⟨_, rfl, ?_⟩
      walk_at "go"
      refine w_ixL _ _ (by walk_at "sq") (atI_nat hf) ?_
      walk_at "go"
      rcases hcf v (List.mem_of_getElem? hf) with rfl | ⟨i, rfl⟩ | ⟨z, rfl, hz⟩
      · exact absurd rfl hv
      · walk_at "go"
        refine w_iteF (by intro z; cases z) ?_
        walk_at "go"
        refine w_iteF (by omega) ?_
        walk_at "go"
        refine w_ixL _ _ (by walk_at "sq") (atI_nat hf) ?_
        walk_at "go"
        refine n_setL w (by walk_at "pick") k (ixNat (by omega)) fun H3 w => ?_
        walk_at "go"
        exact q _ _ (w.to (by walk_at "pick"))
      · walk_at "go"
        refine w_iteF (by intro z; cases z) ?_
        walk_at "go"
        refine w_iteF (by omega) ?_
        walk_at "go"
        refine w_ixL _ _ (by walk_at "sq") (atI_nat hf) ?_
        walk_at "go"
        refine n_setL w (by walk_at "pick") k (ixNat (by omega)) fun H3 w => ?_
        walk_at "go"
        exact q _ _ (w.to (by walk_at "pick"))
    | keep k f v hk hf hv =>
      obtain ⟨t, rfl, hT⟩ := dp_j4 hd
      replace w := w.push (imT K t _) hT
      walk_at "go"
      refine u_isi (F := F) hd w.fh (k_tuple _) ?_
      walk_at "go"
      refine w_is (c := false) rfl ?_
      walk_at "go"
      refine n_lst w (szle (by simp)) fun p1 F1 H1 w hp1 => ?_
      walk_at "go"
      refine n_ninF (by walk_at "sq") rfl rfl rfl ?_
      walk_at "go"
      refine u_isi (d := .str _) (.str _) w.fh (k_str _) ?_
      walk_at "go"
      refine w_is (c := false) rfl ?_
      walk_at "go"
      refine ⟨_, rfl, ?_⟩
      walk_at "go"
      refine w_iteF (by omega) ?_
      walk_at "go"
      refine n_lst w (szle (by simp)) fun p2 F2 H2 w hp2 => ?_
      walk_at "go"
      refine n_ninF (by walk_at "sq") rfl rfl (by decide +kernel) ?_
      walk_at "go"
      walk_at "go"
      refine w_iteF (by omega) ?_
      walk_at "go"
      refine w_is (c := false) rfl ?_
      walk_at "go"
      refine ⟨_, rfl, ?_⟩
      walk_at "go"
      refine w_iteF (by omega) ?_
      walk_at "go"
      refine w_iteF (by have := (List.getElem?_eq_some_iff.mp hf).1; omega) ?_
      walk_at "go"
      refine ⟨_, rfl, ?_⟩
      walk_at "go"
      refine w_ixL _ _ (by walk_at "sq") (atI_nat hf) ?_
      walk_at "go"
      rcases hcf v (List.mem_of_getElem? hf) with rfl | ⟨i, rfl⟩ | ⟨z, rfl, hz⟩
      · exact absurd rfl hv
      · walk_at "go"
        refine w_iteF (by intro z; cases z) ?_
        walk_at "go"
        refine w_ixL _ _ (by walk_at "sq") (atI_nat hf) ?_
        walk_at "go"
        refine n_setL w (by walk_at "pick") k (ixNat (by omega)) fun H3 w => ?_
        walk_at "go"
        exact q _ _ (w.to (by walk_at "pick"))
      · walk_at "go"
        refine w_iteF (by intro z; cases z) ?_
        walk_at "go"
        refine w_ixL _ _ (by walk_at "sq") (atI_nat hf) ?_
        walk_at "go"
        refine n_setL w (by walk_at "pick") k (ixNat (by omega)) fun H3 w => ?_
        walk_at "go"
        exact q _ _ (w.to (by walk_at "pick"))
    | lay k f v hk hf hv =>
      obtain ⟨t, rfl, hT⟩ := dp_j4 hd
      replace w := w.push (imT K t _) hT
      walk_at "go"
      refine u_isi (F := F) hd w.fh (k_tuple _) ?_
      walk_at "go"
      refine w_is (c := false) rfl ?_
      walk_at "go"
      refine n_lst w (szle (by simp)) fun p1 F1 H1 w hp1 => ?_
      walk_at "go"
      refine n_ninF (by walk_at "sq") rfl rfl rfl ?_
      walk_at "go"
      refine u_isi (d := .str _) (.str _) w.fh (k_str _) ?_
      walk_at "go"
      refine w_is (c := false) rfl ?_
      walk_at "go"
      refine ⟨_, rfl, ?_⟩
      walk_at "go"
      refine w_iteF (by omega) ?_
      walk_at "go"
      refine n_lst w (szle (by simp)) fun p2 F2 H2 w hp2 => ?_
      walk_at "go"
      refine n_ninF (by walk_at "sq") rfl rfl (by decide +kernel) ?_
      walk_at "go"
      walk_at "go"
      refine w_iteF (by omega) ?_
      walk_at "go"
      refine w_is (c := false) rfl ?_
      walk_at "go"
      refine ⟨_, rfl, ?_⟩
      walk_at "go"
      refine w_iteF (by omega) ?_
      walk_at "go"
      refine w_iteF (by have := (List.getElem?_eq_some_iff.mp hf).1; omega) ?_
      walk_at "go"
      refine ⟨_, rfl, ?_⟩
      walk_at "go"
      refine w_ixL _ _ (by walk_at "sq") (atI_nat hf) ?_
      walk_at "go"
      rcases hsf v (List.mem_of_getElem? hf) with rfl | ⟨i, rfl⟩ | ⟨z, rfl, hz⟩
      · exact absurd rfl hv
      · walk_at "go"
        refine w_iteF (by intro z; cases z) ?_
        walk_at "go"
        refine w_ixL _ _ (by walk_at "sq") (atI_nat hf) ?_
        walk_at "go"
        refine n_setL w (by walk_at "pick") k (ixNat (by omega)) fun H3 w => ?_
        walk_at "go"
        exact q _ _ (w.to (by walk_at "pick"))
      · walk_at "go"
        refine w_iteF (by intro z; cases z) ?_
        walk_at "go"
        refine w_ixL _ _ (by walk_at "sq") (atI_nat hf) ?_
        walk_at "go"
        refine n_setL w (by walk_at "pick") k (ixNat (by omega)) fun H3 w => ?_
        walk_at "go"
        exact q _ _ (w.to (by walk_at "pick"))
-- _law_walked
theorem ok_law_walked {f : Addr} {fd : FuncData} (F : FunD K "_law_walked" "_law_walked" (defArgs s_law_walked) (defBody s_law_walked) (defScope s_law_walked) [] [] f fd) (T : Txt K mg) (D_law_row_done : DO P w K mg base 2 "_law_row_done" ["room", "slots", "row"] [] (S3 (φlrowdone K))) : FnOk P w K mg base CX0 3 f fd ["cells", "size", "plan", "extra"] (S4 (φlwalked K)) := by
  refine F.ok sc_law_walked (fun vs H Q E h => ?_) (fun cdv A outer s H vs Q E hr h => ?_)
  · exact S4.len h
  · match vs, h with
    | [v0, v1, v2, v3], h =>
    have hu := hu_of hr
    refine ⟨_, PSs.nox (pss_cons (ps_if (pt_not (pt_val (pe_callB (clIsi (K := K)) (by rfl) T.b_isinstance (by decide +kernel) (pa_cons (pv 2) (pa_cons (pe_bltn (v := .ty "list") (by rfl) T.b_list (by decide +kernel) rfl) pa_nil))))) (pss_one (ps_ret pe_bl)) pss_nil)
      (pss_cons (ps_set (i := 4) sc_law_walked.nd rfl (.inr rfl) (pe_op op_cat (pe_listRg rfl (by rfl) T.b_list (prg_1 (by rfl) T.b_range (pv 1))) (pe_op op_rep (pe_lst (pa_cons pe_non pa_nil)) (pe_callB clMax2 (by rfl) T.b_max (by decide +kernel) (pa_cons pe_int (pa_cons (pe_op op_sub (pe_callB (clLenQ (K := K)) (by rfl) T.b_len (by decide +kernel) (pa_cons (pv 0) pa_nil)) (pv 1)) pa_nil))))))
      (pss_cons (ps_set (i := 5) sc_law_walked.nd rfl (.inr rfl) (pe_op op_rep (pe_lst (pa_cons pe_non pa_nil)) (pv 3)))
      (pss_cons (ps_if (pt_not (pt_val (pe_callB (clAll (K := K)) (by rfl) T.b_all (by decide +kernel) (pa_cons (pe_lc (own := [("row", 6)]) (g := gName 6) rfl sc_law_walked.nd (pi_list (pv 2)) (blkOk_by (own := [("row", 6)]) (N := ["cells", "size", "plan", "extra", "room", "slots", "row"]) (sc := defScope s_law_walked) (by decide +kernel)) (fun _ _ _ _ _ => pg_name (i := 6) sc_law_walked.nd rfl (Or.inl rfl)) (fun _ _ _ _ _ => pts_nil) (fun _ _ _ _ _ => (pcall D_law_row_done hr (pa_cons (pv 4) (pa_cons (pv 5) (pa_cons (pv 6) pa_nil)))))) pa_nil)))) (pss_one (ps_ret pe_bl)) pss_nil)
      (pss_one (ps_ret (pe_cmpR (opEqD (K := K) hr.units) (pe_slice (slL (K := K)) (pv 4) po_none (po_some (pe_callB (clLenQ (K := K)) (by rfl) T.b_len (by decide +kernel) (pa_cons (pv 0) pa_nil)))) (pv 0) (nomark _)))))))), ?_⟩
    rw [show start ["cells", "size", "plan", "extra", "room", "slots", "row"] [v0, v1, v2, v3] = [some v0, some v1, some v2, some v3, none, none, none] from rfl]
    obtain ⟨F, a, b, cs, vs, n, extra, js, rfl, rfl, rfl, rfl, hw, hA, hB, hD, hc, hcl, hn, hx, hjl, hu, ⟨stE, hrun, hend⟩, q⟩ := h
    have w := (((W.start (M := []) hw).push (imL K a cs) hA).push (imL K b vs) hB).push (dpa K vs (js.map JR.d)) hD
    have hvl : vs.length = js.length := by rw [dpa_len hD, List.length_map]
    walk_at "go"
    refine u_isi (d := .list (js.map JR.d)) (.lst hB hD) w.ws (k_list _) ?_
    walk_at "go"
    refine w_is (c := false) rfl ?_
    walk_at "go"
    refine n_lstRg w (RgOk.of_le (by omega) (by omega) (by omega) (by omega)) fun p1 F1 H1 w hp1 => ?_
    walk_at "go"
    refine n_lst w (szle (by simp)) fun p2 F1 H1 w hp2 => ?_
    walk_at "go"
    rw [show (if ((cs.length : Nat) : Int) - ((n : Nat) : Int) > 0 then ((cs.length : Nat) : Int) - ((n : Nat) : Int) else 0) = ((cs.length - n : Nat) : Int) by split <;> omega]
    refine n_rep w (by walk_at "at") (by omega) (by omega) (szle (by show 1 * _ ≤ _; omega)) fun p3 F1 H1 w hp3 => ?_
    rw [show (List.replicate (((cs.length - n : Nat) : Int)).toNat [V.non]).flatten = List.replicate (cs.length - n) V.non by rw [Int.toNat_natCast, List.flatten_replicate_singleton]] at w
    walk_at "go"
    refine n_cat (p := p1) (q := p3) w (by walk_at "at") (by walk_at "at") (szle (by rw [rgV_length, List.length_replicate]; omega)) fun pc F1 H1 w hpc => ?_
    rw [show rgV 0 ((n : Nat) : Int) ++ List.replicate (cs.length - n) V.non = (st0J n cs.length extra).1 by rw [rgV0]; rfl] at w
    walk_at "go"
    refine n_lst w (szle (by simp)) fun p4 F1 H1 w hp4 => ?_
    walk_at "go"
    refine n_rep w (by walk_at "at") (by omega) (by omega) (szle (by show 1 * _ ≤ _; omega)) fun ps F1 H1 w hps => ?_
    rw [show (List.replicate (((extra : Nat) : Int)).toNat [V.non]).flatten = (st0J n cs.length extra).2 by rw [Int.toNat_natCast, List.flatten_replicate_singleton]; rfl] at w
    have hso : ∀ r ∈ js, r.sOk := fun r hr => (hu r hr).s
    walk_at "go"
    refine n_lcL vs w (fun j ys L => ∃ st, stepsJ (js.take j) (st0J n cs.length extra) = some st ∧ ys = (List.replicate j true).map V.bl ∧ L = [mu pc (.lst st.1), mu ps (.lst st.2), imL K a cs, imL K b vs, dpa K vs (js.map JR.d)]) ⟨_, rfl, rfl, rfl⟩ (fun j ys L F' H' D hp w => ?_) (fun j x ys L F' H' D hx2 hp w hD => ?_) (fun D ys L F' H' hp w hD => ?_)
    · obtain ⟨st, hst, rfl, rfl⟩ := hp
      walk_at "sq"
    · obtain ⟨st, hst, rfl, rfl⟩ := hp
      obtain ⟨r, hr, dr⟩ := dpa_at (f := JR.d) (w.dpa (K := K) (xs := vs) (ds := js.map JR.d) (by walk_at "mem")) hx2
      have hjl2 := (List.getElem?_eq_some_iff.mp hr).1
      obtain ⟨st2, hst2⟩ := steps_pre hrun (j + 1)
      have hd := hst2
      rw [steps_take hr hst] at hd
      have hJ := (st0_ok n cs.length extra).steps (fun r hr => hso r (List.mem_of_mem_take hr)) hst
      have h1 := hJ.c
      have h2 := hJ.s
      walk_at "wp"
      walk_at "go"
      refine ⟨_, pc, ps, st.1, st.2, r, st2, rfl, rfl, w.st (by walk_at "pick"), dr, d1_of (hu r (List.mem_of_getElem? hr)) hd, hJ.fc, hJ.fs, by omega, by omega, fun F2 H2 w2 => ?_⟩
      replace w := w.cal (D := [mu pc (.lst st.1), mu ps (.lst st.2)]) (by walk_at "pick") w2 (by walk_at "app") rfl
      walk_at "go"
      exact n_acc _ w ⟨st2, hst2, by rw [List.replicate_succ', List.map_append]; rfl, rfl⟩ (by walk_at "pk") (small_lt (by rw [List.length_map, List.length_replicate]; omega))
    · obtain ⟨st, hst, rfl, rfl⟩ := hp
      rw [hvl, List.take_length, hrun] at hst
      cases hst
      have hJ := (st0_ok n cs.length extra).steps hso hrun
      have h1 := hJ.c
      walk_at "go"
      refine ⟨D, List.replicate vs.length true, rfl, by walk_at "sq", ?_⟩
      rw [all_rep]
      walk_at "go"
      refine n_slL w (by walk_at "sq") fun s1 F2 H2 w hs1 => ?_
      rw [cut_to, hend] at w
      have hcf : ∀ v ∈ cs, FlatV v := fun v hv => (hc v hv).flat
      have gf := flat_good hcf (by omega)
      obtain ⟨F2, w⟩ := w.fzL (p := s1) (by walk_at "pick") hs1
      walk_at "go"
      refine u_eqD w.fh (.lst (sqL_of (w.i (fx s1 (.lst cs)) (by walk_at "mem"))) (flat_dpa hcf)) (.lst (w.imL (p := a) (by walk_at "mem")) (flat_dpa hcf)) gf.1 (Nat.le_trans gf.2 (by decide)) ?_
      walk_at "go"
      exact q _ _ (w.to .nil)
-- _law_asked
theorem ok_law_asked {f : Addr} {fd : FuncData} (F : FunD K "_law_asked" "_law_asked" (defArgs s_law_asked) (defBody s_law_asked) (defScope s_law_asked) [] [] f fd) (T : Txt K mg)  (DXD_single_plan_r_1 : DOXd P w K mg base 4 "single_plan" ["change", "spare"] [.int 0] (SX2 (φsingleX K))) (DXD_single_plan_r_2 : DOXd P w K mg base 4 "single_plan" ["change", "spare"] [] (SX2 (φsingleX K))) (DKX_single_plan_r_0_change_spare : DKX P w K mg base 4 "single_plan" ["change", "spare"] 0 ["change", "spare"] [(1, 0), (1, 1)] [.int 0] (SX2 (φsingleX K))) : FnOk P w K mg base CX0 6 f fd ["item", "extra", "way"] (S3 (φlasked K)) := by
  refine F.ok sc_law_asked (fun vs H Q E h => ?_) (fun cdv A outer s H vs Q E hr h => ?_)
  · exact S3.len h
  · match vs, h with
    | [v0, v1, v2], h =>
    have hu := hu_of hr
    refine' ⟨_, PSs.nox (pss_cons (ps_set (i := 3) sc_law_asked.nd rfl (.inl rfl) (pe_lst (pa_cons pe_non (pa_cons pe_non pa_nil))))
      (pss_cons (ps_tryA (i := 4) T.x_NoSpare.g sc_law_asked.nd rfl rfl rfl rfl rfl ?tr1 (fun a oe cls d pn hz hf => (pss_one (ps_set (i := 3) sc_law_asked.nd rfl (.inl rfl) (pe_lst (pa_cons pe_non (pa_cons (pe_xff T.x_NoSpare hz hf (pv 4)) pa_nil)))))))
      (pss_one (ps_ret (pv 3))))), ?_⟩
    case tr1 => exact fun _ _ _ tk => (pss_one (ps_if (PT.nox (PW.pt (pw_and (pt_cmpR op_eq (pv 2) pe_int (nomark _)) (pw_and1 (pt_cmpR op_eq (pv 1) pe_int (nomark _)))))) (pss_one (ps_set (i := 3) sc_law_asked.nd rfl (.inl rfl) (pe_lst (pa_cons (pcallXd DXD_single_plan_r_1 hr tk (pa_cons (pv 0) pa_nil)) (pa_cons pe_non pa_nil))))) (pss_one (ps_if (PT.nox (pt_cmpR op_eq (pv 2) pe_int (nomark _))) (pss_one (ps_set (i := 3) sc_law_asked.nd rfl (.inl rfl) (pe_lst (pa_cons (pcallKX0 DKX_single_plan_r_0_change_spare hr tk (pk_cons (pv 0) (pk_cons (pv 1) pk_nil))) (pa_cons pe_non pa_nil))))) (pss_one (ps_set (i := 3) sc_law_asked.nd rfl (.inl rfl) (pe_lst (pa_cons (pcallXd DXD_single_plan_r_2 hr tk (pa_cons (pv 0) (pa_cons (pv 1) pa_nil))) (pa_cons pe_non pa_nil)))))))))
    rw [show start ["item", "extra", "way", "told", "e"] [v0, v1, v2] = [some v0, some v1, some v2, none, none] from rfl]
    obtain ⟨F, n, extra, way, rows, rfl, rfl, hw, hC, hok, hn, q1, q2⟩ := h
    have w := (W.start (M := []) hw).push (chg K v0 n rows) hC
    walk_at "go"
    refine n_lst w (szle (by simp)) fun p0 F1 H1 w hp0 => ?_
    walk_at "go"
    by_cases h1 : way = 0
    · rw [decide_eq_true (show ((way : Nat) : Int) = 0 by omega)]
      walk_at "go"
      by_cases h2 : extra = 0
      · subst h2
        rw [decide_eq_true (show (((0 : Nat) : Nat) : Int) = 0 from rfl)]
        walk_at "go"
        refine ⟨_, n, 0, rows, rfl, w.fh, w.i (chg K v0 n rows) (by walk_at "mem"), hok, hn, fun hnb pl vs js F2 H2 hpl w2 hsg => ?_, fun hbar dd F2 H2 hdd w2 => ?_⟩
        · have hpl' := w.g.fresh hpl
          replace w := w.cal .nil w2 (by walk_at "app")
          walk_at "go"
          refine n_lst w (szle (by simp)) fun p9 F3 H3 w hp9 => ?_
          walk_at "go"
          exact q1 hnb p9 pl vs js _ _ hp9 hpl' (w.to (by walk_at "pick")) hsg
        · replace w := w.cal .nil w2 (by walk_at "app")
          refine w_caughtA T.x_NoSpare.m fun xa hxa => ?_
          try dsimp only [List.set_cons_succ, List.set_cons_zero]
          walk_at "go"
          refine n_xf (f := "need") (v := .int 1) (by walk_at "at") (by rfl) ?_
          walk_at "go"
          refine n_lst w (szle (by simp)) fun p9 F3 H3 w hp9 => ?_
          walk_at "go"
          try dsimp only [List.set_cons_succ, List.set_cons_zero]
          walk_at "go"
          exact q2 hbar p9 _ _ hp9 (w.to (by walk_at "pick"))
      · rw [decide_eq_false (show ¬ ((extra : Nat) : Int) = 0 by omega)]
        walk_at "go"
        rw [decide_eq_false (show ¬ ((way : Nat) : Int) = 1 by omega)]
        walk_at "go"
        refine ⟨_, n, extra, rows, rfl, w.fh, w.i (chg K v0 n rows) (by walk_at "mem"), hok, hn, fun hnb pl vs js F2 H2 hpl w2 hsg => ?_, fun hbar dd F2 H2 hdd w2 => ?_⟩
        · have hpl' := w.g.fresh hpl
          replace w := w.cal .nil w2 (by walk_at "app")
          walk_at "go"
          refine n_lst w (szle (by simp)) fun p9 F3 H3 w hp9 => ?_
          walk_at "go"
          exact q1 hnb p9 pl vs js _ _ hp9 hpl' (w.to (by walk_at "pick")) hsg
        · replace w := w.cal .nil w2 (by walk_at "app")
          refine w_caughtA T.x_NoSpare.m fun xa hxa => ?_
          try dsimp only [List.set_cons_succ, List.set_cons_zero]
          walk_at "go"
          refine n_xf (f := "need") (v := .int 1) (by walk_at "at") (by rfl) ?_
          walk_at "go"
          refine n_lst w (szle (by simp)) fun p9 F3 H3 w hp9 => ?_
          walk_at "go"
          try dsimp only [List.set_cons_succ, List.set_cons_zero]
          walk_at "go"
          exact q2 hbar p9 _ _ hp9 (w.to (by walk_at "pick"))
    · rw [decide_eq_false (show ¬ ((way : Nat) : Int) = 0 by omega)]
      walk_at "go"
      by_cases h3 : way = 1
      · rw [decide_eq_true (show ((way : Nat) : Int) = 1 by omega)]
        walk_at "go"
        refine ⟨rfl, rfl, _, n, extra, rows, rfl, w.fh, w.i (chg K v0 n rows) (by walk_at "mem"), hok, hn, fun hnb pl vs js F2 H2 hpl w2 hsg => ?_, fun hbar dd F2 H2 hdd w2 => ?_⟩
        · have hpl' := w.g.fresh hpl
          replace w := w.cal .nil w2 (by walk_at "app")
          walk_at "go"
          refine n_lst w (szle (by simp)) fun p9 F3 H3 w hp9 => ?_
          walk_at "go"
          exact q1 hnb p9 pl vs js _ _ hp9 hpl' (w.to (by walk_at "pick")) hsg
        · replace w := w.cal .nil w2 (by walk_at "app")
          refine w_caughtA T.x_NoSpare.m fun xa hxa => ?_
          try dsimp only [List.set_cons_succ, List.set_cons_zero]
          walk_at "go"
          refine n_xf (f := "need") (v := .int 1) (by walk_at "at") (by rfl) ?_
          walk_at "go"
          refine n_lst w (szle (by simp)) fun p9 F3 H3 w hp9 => ?_
          walk_at "go"
          try dsimp only [List.set_cons_succ, List.set_cons_zero]
          walk_at "go"
          exact q2 hbar p9 _ _ hp9 (w.to (by walk_at "pick"))
      · rw [decide_eq_false (show ¬ ((way : Nat) : Int) = 1 by omega)]
        walk_at "go"
        refine ⟨_, n, extra, rows, rfl, w.fh, w.i (chg K v0 n rows) (by walk_at "mem"), hok, hn, fun hnb pl vs js F2 H2 hpl w2 hsg => ?_, fun hbar dd F2 H2 hdd w2 => ?_⟩
        · have hpl' := w.g.fresh hpl
          replace w := w.cal .nil w2 (by walk_at "app")
          walk_at "go"
          refine n_lst w (szle (by simp)) fun p9 F3 H3 w hp9 => ?_
          walk_at "go"
          exact q1 hnb p9 pl vs js _ _ hp9 hpl' (w.to (by walk_at "pick")) hsg
        · replace w := w.cal .nil w2 (by walk_at "app")
          refine w_caughtA T.x_NoSpare.m fun xa hxa => ?_
          try dsimp only [List.set_cons_succ, List.set_cons_zero]
          walk_at "go"
          refine n_xf (f := "need") (v := .int 1) (by walk_at "at") (by rfl) ?_
          walk_at "go"
          refine n_lst w (szle (by simp)) fun p9 F3 H3 w hp9 => ?_
          walk_at "go"
          try dsimp only [List.set_cons_succ, List.set_cons_zero]
          walk_at "go"
          exact q2 hbar p9 _ _ hp9 (w.to (by walk_at "pick"))
-- _law_next
theorem ok_law_next {f : Addr} {fd : FuncData} (F : FunD K "_law_next" "_law_next" (defArgs s_law_next) (defBody s_law_next) (defScope s_law_next) [] [] f fd) (T : Txt K mg)  : FnOk P w K mg base CX0 1 f fd ["state", "many", "signs"] (S3 (φlnext34 K)) := by
  refine F.ok sc_law_next (fun vs H Q E h => ?_) (fun cdv A outer s H vs Q E hr h => ?_)
  · exact S3.len h
  · match vs, h with
    | [v0, v1, v2], h =>
    have hu := hu_of hr
    refine ⟨_, PSs.nox (pss_cons (ps_set (i := 3) sc_law_next.nd rfl (.inl rfl) (pe_lst pa_nil))
      (pss_cons (ps_for PassesOwn.never rfl (pi_range1 rfl T.b_range (pa_cons (pe_callB (clLenQ (K := K)) (by rfl) T.b_len (by decide +kernel) (pa_cons (pv 0) pa_nil)) pa_nil)) (pg_name (i := 4) sc_law_next.nd rfl (.inr rfl)) (pss_cons (ps_setLc (i := 5) (own := [("at", 7)]) (g := gName 7) rfl sc_law_next.nd rfl rfl (sw_true rfl rfl rfl (by decide +kernel)) (pi_range1 rfl T.b_range (pa_cons (pe_callB (clLenQ (K := K)) (by rfl) T.b_len (by decide +kernel) (pa_cons (pv 0) pa_nil)) pa_nil)) (blkOk_by (own := [("at", 7)]) (N := ["state", "many", "signs", "got", "to", "some", "mark", "at"]) (sc := defScope s_law_next) (by decide +kernel)) (fun _ _ _ _ _ => pg_name (i := 7) sc_law_next.nd rfl (Or.inl rfl)) (fun _ _ _ _ _ => pts_one (PW.pt (pw_and (pt_cmp (pc_notN (pe_ix (ixT (K := K)) (pv 0) (pv 7) (fun _ _ => rfl))) (by rfl)) (pw_and1 (PW.pt (pw_or (pt_cmpR op_lt (pv 4) (pv 1) (nomark _)) (pw_or1 (pt_cmpR op_lt (pv 7) (pv 1) (nomark _))))))))) (fun _ _ _ _ _ => (pe_ix (ixT (K := K)) (pv 0) (pv 7) (fun _ _ => rfl))))
      (C8.pss_cut (ps_if (pt_cmpR op_lt (pv 4) (pv 1) (nomark _)) (pss_one (ps_set (i := 5) sc_law_next.nd rfl (.inl rfl) (pe_op op_cat (pv 5) (pv 2)))) pss_nil)
      (pss_one (ps_for PassesOwn.never rfl (pi_list (pv 5)) (pg_name (i := 6) sc_law_next.nd rfl (.inl rfl)) (pss_one (ps_expr (peBM (K := K) PySem.F.plainAttrs_list PySem.F.slot_list_append PySem.F.type_list_append mt_append (pv 3) (pa_cons (pe_op (opCatA (K := K)) (pe_op (opCatA (K := K)) (pe_slice (opSlA (K := K)) (pv 0) po_none (po_some (pv 4))) (pe_tup (pa_cons (pv 6) pa_nil))) (pe_slice (opSlA (K := K)) (pv 0) (po_some (pe_op op_add (pv 4) pe_int)) po_none)) pa_nil)))))))))
      (pss_one (ps_ret (pv 3))))), ?_⟩
    rw [show start ["state", "many", "signs", "got", "to", "some", "mark", "at"] [v0, v1, v2] = [some v0, some v1, some v2, none, none, none, none, none] from rfl]
    obtain ⟨F, t, a, s, signs, many, rfl, rfl, rfl, hw, hT, hS, hsl, hgl, q⟩ := h
    have w := ((W.start (M := []) hw).push (imT K t s) hT).push (fx a (.lst signs)) hS
    walk_at "go"
    refine n_lst w (szle (by simp)) fun pg F1 H1 w hpg => ?_
    replace w := w.push (stA K [] []) stA_nil
    walk_at "go"
    refine n_forR (n := s.length) w (fun i σ L => ∃ (vs : List V) (us : List (List V)) (y4 y5 y6 y7 : Option V), σ = [some (.ref t), some (.int (many : Nat)), some (.ref a), some (.ref pg), y4, y5, y6, y7] ∧ (∀ u, u ∈ us ↔ ∃ to v, to < i ∧ SrcV many signs s to v ∧ u = s.set to v) ∧ us.length ≤ i * (s.length + signs.length) ∧
      L = [mu pg (.lst vs), stA K vs us, fx a (.lst signs), imT K t s]) ⟨[], [], _, _, _, _, rfl, fun u => ⟨(fun h => nomatch h), fun ⟨_, _, h, _⟩ => absurd h (Nat.not_lt_zero _)⟩, Nat.zero_le _, rfl⟩ (fun i σ L F' H' hi hp w => ?_) (fun σ L F' H' hp w => ?_)
    · obtain ⟨vs, us, y4, y5, y6, y7, rfl, hm, hl, rfl⟩ := hp
      walk_at "go"
      refine n_lcR (n := s.length) w (fun j ys L => (∀ v, v ∈ ys ↔ ∃ k : Nat, k < j ∧ s[k]? = some v ∧ v ≠ .non ∧ (i < many ∨ k < many)) ∧ ys.length ≤ j ∧ L = [mu pg (.lst vs), stA K vs us, fx a (.lst signs), imT K t s]) ⟨fun v => ⟨(fun h => nomatch h), fun ⟨_, h, _⟩ => absurd h (Nat.not_lt_zero _)⟩, Nat.zero_le _, rfl⟩ (fun j ys L F' H' D hj hp w hD => ?_) (fun D ys L F' H' hp w hD => ?_)
      · obtain ⟨hy, hyl, rfl⟩ := hp
        walk_at "wp"
        walk_at "go"
        have hsj : s[j]? = some s[j] := List.getElem?_eq_getElem hj
        generalize s[j] = v at hsj
        have no : (v = .non ∨ ¬ (i < many ∨ j < many)) → ∀ u, u ∈ ys ↔ ∃ k : Nat, k < j + 1 ∧ s[k]? = some u ∧ u ≠ .non ∧ (i < many ∨ k < many) := fun hn u => by
          rw [hy u]
          constructor
          · rintro ⟨k, h1, h2⟩
            exact ⟨k, by omega, h2⟩
          · rintro ⟨k, h1, h2, h3, h4⟩
            by_cases e : k = j
            · subst e
              rw [hsj] at h2
              cases h2
              exact absurd h4 (hn.resolve_left h3)
            · exact ⟨k, by omega, h2, h3, h4⟩
        have yes : v ≠ .non → (i < many ∨ j < many) → ∀ u, u ∈ ys ++ [v] ↔ ∃ k : Nat, k < j + 1 ∧ s[k]? = some u ∧ u ≠ .non ∧ (i < many ∨ k < many) := fun h5 h6 u => by
          rw [List.mem_append, List.mem_singleton, hy u]
          constructor
          · rintro (⟨k, h1, h2⟩ | rfl)
            · exact ⟨k, by omega, h2⟩
            · exact ⟨j, by omega, hsj, h5, h6⟩
          · rintro ⟨k, h1, h2, h3, h4⟩
            by_cases e : k = j
            · subst e
              rw [hsj] at h2
              cases h2
              exact .inr rfl
            · exact .inl ⟨k, by omega, h2, h3, h4⟩
        refine w_ixT s v (by walk_at "st") (atI_nat hsj) ?_
        walk_at "go"
        by_cases hv : v = .non
        · refine w_is (c := false) (by rw [decide_eq_true hv]; rfl) ?_
          walk_at "go"
          exact ⟨ys, _, _, ⟨no (.inl hv), by omega, rfl⟩, w⟩
        · refine w_is (c := true) (by rw [decide_eq_false hv]; rfl) ?_
          walk_at "go"
          refine w_ite (fun h1 => ?_) (fun h1 => ?_)
          · walk_at "go"
            refine w_ixT s v (by walk_at "st") (atI_nat hsj) ?_
            exact n_acc ys w ⟨yes hv (.inl (by omega)), by rw [List.length_append, List.length_singleton]; omega, rfl⟩ (by walk_at "pk") (small_lt (by omega))
          · walk_at "go"
            refine w_ite (fun h2 => ?_) (fun h2 => ?_)
            · walk_at "go"
              refine w_ixT s v (by walk_at "st") (atI_nat hsj) ?_
              exact n_acc ys w ⟨yes hv (.inr (by omega)), by rw [List.length_append, List.length_singleton]; omega, rfl⟩ (by walk_at "pk") (small_lt (by omega))
            · exact ⟨ys, _, _, ⟨no (.inr (by omega)), by omega, rfl⟩, w⟩
      · obtain ⟨hy, hyl, rfl⟩ := hp
        walk_at "go"
        refine n_cut w (fun σ L => ∃ (ps : Addr) (zs : List V) (y6 y7 : Option V), σ = [some (.ref t), some (.int (many : Nat)), some (.ref a), some (.ref pg), some (.int (i : Nat)), some (.ref ps), y6, y7] ∧ (∀ v, v ∈ zs ↔ SrcV many signs s i v) ∧ zs.length ≤ s.length + signs.length ∧ L = [mu ps (.lst zs), mu pg (.lst vs), stA K vs us, fx a (.lst signs), imT K t s]) ?_ (fun σ L F H hp w => ?_)
        · walk_at "go"
          refine w_ite (fun h1 => ?_) (fun h1 => ?_)
          · walk_at "go"
            refine n_cat (p := D) (q := a) w (by walk_at "at") (by walk_at "at") (szle (by omega)) fun pc F1 H1 w hpc => ?_
            walk_at "go"
            refine nx_mk w ⟨pc, ys ++ signs, _, _, rfl, fun v => ?_, by rw [List.length_append]; omega, rfl⟩ (by walk_at "pk")
            rw [List.mem_append, hy v]
            constructor
            · rintro (⟨k, _, h2⟩ | h2)
              · exact .inl ⟨k, h2⟩
              · exact .inr ⟨by omega, h2⟩
            · rintro (⟨k, h2⟩ | ⟨_, h2⟩)
              · exact .inl ⟨k, (List.getElem?_eq_some_iff.mp h2.1).1, h2⟩
              · exact .inr h2
          · walk_at "go"
            refine nx_mk w ⟨D, ys, _, _, rfl, fun v => ?_, by omega, rfl⟩ (by walk_at "pk")
            rw [hy v]
            constructor
            · rintro ⟨k, _, h2⟩
              exact .inl ⟨k, h2⟩
            · rintro (⟨k, h2⟩ | ⟨h2, _⟩)
              · exact ⟨k, (List.getElem?_eq_some_iff.mp h2.1).1, h2⟩
              · omega
        · obtain ⟨ps, zs, y6, y7, rfl, hz, hzl, rfl⟩ := hp
          have hul : us.length ≤ 200 := Nat.le_trans hl (Nat.le_trans (Nat.mul_le_mul (show i ≤ 10 by omega) (show s.length + signs.length ≤ 20 by omega)) (by decide))
          walk_at "go"
          refine n_forL zs w (fun j σ L => ∃ (vs2 : List V) (us2 : List (List V)) (y6 y7 : Option V), σ = [some (.ref t), some (.int (many : Nat)), some (.ref a), some (.ref pg), some (.int (i : Nat)), some (.ref ps), y6, y7] ∧ (∀ u, u ∈ us2 ↔ (u ∈ us ∨ ∃ (k : Nat) (v : V), k < j ∧ zs[k]? = some v ∧ u = s.set i v)) ∧ us2.length = us.length + j ∧
            L = [mu pg (.lst vs2), stA K vs2 us2, mu ps (.lst zs), fx a (.lst signs), imT K t s]) ⟨vs, us, _, _, rfl, fun u => ⟨.inl, fun h => h.elim id fun ⟨_, _, h, _⟩ => absurd h (Nat.not_lt_zero _)⟩, rfl, rfl⟩ (fun j σ L F' H' hp w => ?_) (fun j x σ L F' H' hx hp w => ?_) (fun σ L F' H' hp w => ?_)
          · obtain ⟨vs2, us2, y6, y7, rfl, hm2, hl2, rfl⟩ := hp
            walk_at "sq"
          · obtain ⟨vs2, us2, y6, y7, rfl, hm2, hl2, rfl⟩ := hp
            have hjz := (List.getElem?_eq_some_iff.mp hx).1
            have hc1 := cutV_length s none (some ((i : Nat) : Int))
            have hc2 := cutV_length s (some (((i : Nat) : Int) + 1)) none
            walk_at "go"
            refine n_slA w (w.imT (p := t) (by walk_at "mem")) fun t1 F1 H1 w => ?_
            walk_at "go"
            refine n_tup w (szle (by simp)) fun t2 F1 H1 w => ?_
            walk_at "go"
            refine n_catA w (w.imT (p := t1) (by walk_at "mem")) (sqT_of (w.i (fx t2 _) (by walk_at "mem"))) (szle (by rw [List.length_singleton]; omega)) fun t3 F1 H1 w => ?_
            walk_at "go"
            refine n_slA w (w.imT (p := t) (by walk_at "mem")) fun t4 F1 H1 w => ?_
            walk_at "go"
            refine n_catA w (w.imT (p := t3) (by walk_at "mem")) (w.imT (p := t4) (by walk_at "mem")) (szle (by rw [List.length_append, List.length_singleton]; omega)) fun t5 F5 H5 w => ?_
            have e5 : cutV s none (some ((i : Nat) : Int)) ++ [x] ++ cutV s (some (((i : Nat) : Int) + 1)) none = s.set i x := set_cut hi
            rw [e5] at w
            have hT5 : SqT K F5 t5 (s.set i x) := w.imT (p := t5) (by walk_at "mem")
            have d5 : StA K F5 vs2 us2 := w.i (stA K vs2 us2) (by walk_at "mem")
            have hvl := d5.1
            walk_at "go"
            refine n_app w (by walk_at "pick") (small_lt (by omega)) fun H6 w => ?_
            replace w := w.push (stA K (vs2 ++ [V.ref t5]) (us2 ++ [s.set i x])) (stA_snoc d5 hT5)
            walk_at "go"
            refine nx_mk w ⟨vs2 ++ [V.ref t5], us2 ++ [s.set i x], _, _, rfl, fun u => ?_, by rw [List.length_append, List.length_singleton]; omega, rfl⟩ (by walk_at "pk")
            rw [List.mem_append, List.mem_singleton, hm2 u]
            constructor
            · rintro ((h | ⟨k, v, h1, h2⟩) | h)
              · exact .inl h
              · exact .inr ⟨k, v, by omega, h2⟩
              · exact .inr ⟨j, x, by omega, hx, h⟩
            · rintro (h | ⟨k, v, h1, h2, h3⟩)
              · exact .inl (.inl h)
              · by_cases e : k = j
                · subst e
                  rw [hx] at h2
                  cases h2
                  exact .inr h3
                · exact .inl (.inr ⟨k, v, by omega, h2, h3⟩)
          · obtain ⟨vs2, us2, y6, y7, rfl, hm2, hl2, rfl⟩ := hp
            refine nx_mk w ⟨vs2, us2, _, _, _, _, rfl, fun u => ?_, by rw [hl2, Nat.add_mul, Nat.one_mul]; omega, rfl⟩ (by walk_at "pk")
            rw [hm2 u, hm u]
            constructor
            · rintro (⟨to, v, h1, h2⟩ | ⟨k, v, h1, h2, h3⟩)
              · exact ⟨to, v, by omega, h2⟩
              · exact ⟨i, v, by omega, (hz v).mp (List.mem_of_getElem? h2), h3⟩
            · rintro ⟨to, v, h1, h2, h3⟩
              by_cases e : to = i
              · subst e
                obtain ⟨k, hk, hk2⟩ := List.mem_iff_getElem.mp ((hz v).mpr h2)
                exact .inr ⟨k, v, hk, by rw [List.getElem?_eq_getElem hk, hk2], h3⟩
              · exact .inl ⟨to, v, by omega, h2, h3⟩
    · obtain ⟨vs, us, y4, y5, y6, y7, rfl, hm, hl, rfl⟩ := hp
      walk_at "go"
      refine q _ _ us _ _ hpg (w.to (by walk_at "pick")) (fun u => ?_) ?_
      · rw [hm u]
        constructor
        · rintro ⟨to, v, h1, h2, h3⟩
          exact ⟨to, v, h1, h2, h3⟩
        · rintro ⟨to, v, h1, h2, h3⟩
          exact ⟨to, v, h1, h2, h3⟩
      · have h1 : s.length * (s.length + signs.length) ≤ 10 * 20 := Nat.mul_le_mul hsl (by omega)
        omega
-- _law_fewest
theorem ok_law_fewest {f : Addr} {fd : FuncData} (F : FunD K "_law_fewest" "_law_fewest" (defArgs s_law_fewest) (defBody s_law_fewest) (defScope s_law_fewest) [] [] f fd) (T : Txt K mg) (D_law_next : DO P w K mg base 1 "_law_next" ["state", "many", "signs"] [] (S3 (φlnext34 K))) : FnOk P w K mg base CX0 3 f fd ["cells", "size", "extra"] (S3 (φlfewest34 K)) := by
  refine F.ok sc_law_fewest (fun vs H Q E h => ?_) (fun cdv A outer s H vs Q E hr h => ?_)
  · exact S3.len h
  · match vs, h with
    | [v0, v1, v2], h =>
    have hu := hu_of hr
    refine ⟨_, PSs.nox (pss_cons (ps_set (i := 3) sc_law_fewest.nd rfl (.inl rfl) (pe_callB clMax2 (by rfl) T.b_max (by decide +kernel) (pa_cons (pv 1) (pa_cons (pe_callB (clLenQ (K := K)) (by rfl) T.b_len (by decide +kernel) (pa_cons (pv 0) pa_nil)) pa_nil))))
      (pss_cons (ps_set (i := 4) sc_law_fewest.nd rfl (.inl rfl) (pe_callB (clSortT (w := w)) (by rfl) T.b_sorted (by decide +kernel) (pa_cons (pe_callTy (clSetT (K := K) (w := w)) (by rfl) T.b_set (by decide +kernel) (pa_cons (pe_lc (own := [("cell", 11)]) (g := gName 11) rfl sc_law_fewest.nd (pi_list (pv 0)) (blkOk_by (own := [("cell", 11)]) (N := ["cells", "size", "extra", "many", "signs", "layer", "seen", "count", "later", "state", "other", "cell"]) (sc := defScope s_law_fewest) (by decide +kernel)) (fun _ _ _ _ _ => pg_name (i := 11) sc_law_fewest.nd rfl (Or.inl rfl)) (fun _ _ _ _ _ => pts_one (pt_val (pe_callB (clIsi (K := K)) (by rfl) T.b_isinstance (by decide +kernel) (pa_cons (pv 11) (pa_cons (pe_bltn (v := .ty "str") (by rfl) T.b_str (by decide +kernel) rfl) pa_nil))))) (fun _ _ _ _ _ => (pv 11))) pa_nil)) pa_nil)))
      (pss_cons (ps_set (i := 5) sc_law_fewest.nd rfl (.inl rfl) (pe_lst (pa_cons (pe_tupleOf rfl T.b_tuple (pe_op op_cat (pe_listRg rfl (by rfl) T.b_list (prg_1 (by rfl) T.b_range (pv 1))) (pe_op op_rep (pe_lst (pa_cons pe_non pa_nil)) (pe_op op_add (pe_op op_sub (pv 3) (pv 1)) (pv 2))))) pa_nil)))
      (pss_cons (ps_set (i := 6) sc_law_fewest.nd rfl (.inl rfl) (pe_none1 (P := P) (wd := w) (K := K) hu (pe_ix (ixL (K := K)) (pv 5) pe_int (fun _ _ => rfl)) pe_bl))
      (pss_cons (ps_set (i := 7) sc_law_fewest.nd rfl (.inl rfl) pe_int)
      (pss_cons (ps_while PassesOwn.never (pt_cmpR (opNeD (K := K) hr.units) (pv 5) (pe_lst pa_nil) (nomark _)) (pss_cons (ps_set (i := 8) sc_law_fewest.nd rfl (.inl rfl) (pe_lst pa_nil))
      (pss_cons (ps_for PassesOwn.never rfl (pi_list (pv 5)) (pg_name (i := 9) sc_law_fewest.nd rfl (.inl rfl)) (pss_cons (ps_if (pt_cmpR (opEqD (K := K) hr.units) (pe_callTy (clListOf (K := K)) (by rfl) T.b_list (by decide +kernel) (pa_cons (pe_slice (opSlA (K := K)) (pv 9) po_none (po_some (pe_callB (clLenQ (K := K)) (by rfl) T.b_len (by decide +kernel) (pa_cons (pv 0) pa_nil)))) pa_nil)) (pv 0) (nomark _)) (pss_one (ps_ret (pv 7))) pss_nil)
      (pss_one (ps_for PassesOwn.never rfl (pi_list (pcall D_law_next hr (pa_cons (pv 9) (pa_cons (pv 3) (pa_cons (pv 4) pa_nil))))) (pg_name (i := 10) sc_law_fewest.nd rfl (.inl rfl)) (pss_one (ps_if (pt_cmp (pc_nnotin (P := P) (wd := w) (K := K) hu (pv 10) (pv 6))) (pss_cons (ps_nput (P := P) (wd := w) (K := K) hu (pv 6) (pv 10) pe_bl rfl)
      (pss_one (ps_expr (peBM (K := K) PySem.F.plainAttrs_list PySem.F.slot_list_append PySem.F.type_list_append mt_append (pv 8) (pa_cons (pv 10) pa_nil))))) pss_nil))))))
      (pss_cons (ps_set (i := 5) sc_law_fewest.nd rfl (.inl rfl) (pv 8))
      (pss_one (ps_set (i := 7) sc_law_fewest.nd rfl (.inl rfl) (pe_op op_add (pv 7) pe_int)))))))
      (pss_one (ps_ret pe_non)))))))), ?_⟩
    rw [show start ["cells", "size", "extra", "many", "signs", "layer", "seen", "count", "later", "state", "other", "cell"] [v0, v1, v2] = [some v0, some v1, some v2, none, none, none, none, none, none, none, none, none] from rfl]
    obtain ⟨F, a, cs, n, extra, rfl, rfl, rfl, hw, hA, hc, hcl, hn, hL, q1, q2⟩ := h
    have ww := (W.start (M := []) hw).push (imL K a cs) hA
    have hcf : ∀ v ∈ cs, FlatV v := fun v hv => (hc v hv).flat
    obtain ⟨many, emany⟩ : ∃ many : Nat, many = n + (cs.length - n) := ⟨_, rfl⟩
    walk_at "go"
    rw [show (if ((cs.length : Nat) : Int) > ((n : Nat) : Int) then ((cs.length : Nat) : Int) else ((n : Nat) : Int)) = ((many : Nat) : Int) by split <;> omega]
    refine n_lcL cs ww (fun j ys L => (∃ zs : List Str, ys = zs.map V.str ∧ (∀ z, z ∈ zs ↔ ∃ k : Nat, k < j ∧ cs[k]? = some (.str z)) ∧ zs.length ≤ j) ∧ L = [imL K a cs]) ⟨⟨[], rfl, fun z => ⟨(fun h => nomatch h), fun ⟨_, h, _⟩ => absurd h (Nat.not_lt_zero _)⟩, Nat.zero_le _⟩, rfl⟩ (fun j ys L F' H' D hp ww => ?_) (fun j x ys L F' H' D hx hp ww hD => ?_) (fun D ys L F' H' hp ww hD => ?_)
    · obtain ⟨_, rfl⟩ := hp
      walk_at "sq"
    · obtain ⟨⟨zs, rfl, hz, hzl⟩, rfl⟩ := hp
      have hjc := (List.getElem?_eq_some_iff.mp hx).1
      walk_at "wp"
      walk_at "go"
      rcases hc x (List.mem_of_getElem? hx) with ⟨i, rfl, hi⟩ | ⟨c, rfl, hcc⟩
      · refine u_isi (F := H') (d := .int _) (.int _) (Same.refl _) (k_str _) ?_
        walk_at "go"
        refine w_is (c := false) rfl ?_
        walk_at "go"
        refine ⟨zs.map V.str, _, _, ⟨⟨zs, rfl, fun z => ?_, by omega⟩, rfl⟩, ww⟩
        rw [hz z]
        constructor
        · rintro ⟨k, h1, h2⟩
          exact ⟨k, by omega, h2⟩
        · rintro ⟨k, h1, h2⟩
          by_cases e : k = j
          · subst e
            rw [hx] at h2
            cases h2
          · exact ⟨k, by omega, h2⟩
      · refine u_isi (F := H') (d := .str _) (.str _) (Same.refl _) (k_str _) ?_
        walk_at "go"
        refine w_is (c := true) rfl ?_
        walk_at "go"
        refine n_acc _ ww ⟨⟨zs ++ [⟨#[c]⟩], by rw [List.map_append]; rfl, fun z => ?_, by rw [List.length_append, List.length_singleton]; omega⟩, rfl⟩ (by walk_at "pk") (small_lt (by rw [List.length_map]; omega))
        rw [List.mem_append, List.mem_singleton, hz z]
        constructor
        · rintro (⟨k, h1, h2⟩ | rfl)
          · exact ⟨k, by omega, h2⟩
          · exact ⟨j, by omega, hx⟩
        · rintro ⟨k, h1, h2⟩
          by_cases e : k = j
          · subst e
            rw [hx] at h2
            cases h2
            exact .inr rfl
          · exact .inl ⟨k, by omega, h2⟩
    · obtain ⟨⟨zs, rfl, hz, hzl⟩, rfl⟩ := hp
      walk_at "go"
      refine n_setT ww (by walk_at "sq") (by omega) fun ps c F1 H1 ww hcn hps => ?_
      walk_at "go"
      refine n_sortT ww (by walk_at "at") (by omega) fun ks pk F1 H1 ww hk hkl hpk => ?_
      obtain ⟨F1, ww⟩ := ww.fzL (p := pk) (by walk_at "pick") hpk
      have hk2 : ∀ z, z ∈ ks ↔ z ∈ zs := fun z => by rw [hk z, decide_eq_true_eq]
      obtain ⟨signs, esg⟩ : ∃ signs, signs = ks.map V.str := ⟨_, rfl⟩
      have hsl : signs.length ≤ 4 := by rw [esg, List.length_map]; omega
      have hss : ∀ v ∈ signs, ∃ z, v = .str z := fun v hv => by
        rw [esg] at hv
        obtain ⟨z, _, rfl⟩ := List.mem_map.mp hv
        exact ⟨z, rfl⟩
      have hsi : ∀ z, V.str z ∈ cs → V.str z ∈ signs := fun z h => by
        rw [esg]
        obtain ⟨k, h1, h2⟩ := List.mem_iff_getElem.mp h
        exact List.mem_map.mpr ⟨z, (hk2 z).mpr ((hz z).mpr ⟨k, h1, by rw [List.getElem?_eq_getElem h1, h2]⟩), rfl⟩
      have hsf : ∀ v ∈ signs, FlatV v := fun v hv => by
        rw [esg] at hv
        obtain ⟨z, h1, rfl⟩ := List.mem_map.mp hv
        obtain ⟨k, _, h2⟩ := (hz z).mp ((hk2 z).mp h1)
        exact hcf _ (List.mem_of_getElem? h2)
      rw [← esg] at ww
      obtain ⟨A, eA⟩ : ∃ A, A = V.non :: ((List.range n).map (fun (k : Nat) => V.int (k : Nat)) ++ signs) := ⟨_, rfl⟩
      have hAs : ∀ v ∈ signs, v ∈ A := fun v hv => by rw [eA]; exact List.mem_cons_of_mem _ (List.mem_append_right _ hv)
      have hAf : ∀ v ∈ A, FlatV v := fun v hv => by
        rw [eA] at hv
        rcases List.mem_cons.mp hv with rfl | hv
        · exact .inl rfl
        · rcases List.mem_append.mp hv with hv | hv
          · obtain ⟨k, _, rfl⟩ := List.mem_map.mp hv
            exact .inr (.inl ⟨_, rfl⟩)
          · exact hsf v hv
      have hAl : A.length ≤ 9 := by rw [eA, List.length_cons, List.length_append, List.length_map, List.length_range]; omega
      obtain ⟨ln, eln⟩ : ∃ ln, ln = n + (cs.length - n) + extra := ⟨_, rfl⟩
      have hbd : ∀ {count : Nat} {bs later seen : List (List V)}, BfI many signs cs (s0V n cs.length extra) A ln count bs later seen → seen.length ≤ 59049 := fun I => Nat.le_trans (bd_le I.nd I.bd) (Nat.le_trans (Nat.pow_le_pow_left hAl _) (Nat.le_trans (Nat.pow_le_pow_right (show 0 < 9 by decide) (show ln ≤ 5 by omega)) (by decide)))
      have hb0 : BdV A ln (s0V n cs.length extra) := ⟨by rw [s0_len, eln], fun v hv => by
        rw [eA]
        unfold s0V at hv
        rcases List.mem_append.mp hv with hv | hv
        · rcases List.mem_append.mp hv with hv | hv
          · exact List.mem_cons_of_mem _ (List.mem_append_left _ hv)
          · rw [List.eq_of_mem_replicate hv]; exact List.mem_cons_self ..
        · rw [List.eq_of_mem_replicate hv]; exact List.mem_cons_self ..⟩
      have hbf : ∀ {u : List V}, BdV A ln u → (∀ v ∈ u, FlatV v) ∧ u.length ≤ 5 := fun h => ⟨fun v hv => hAf v (h.2 v hv), by rw [h.1]; omega⟩
      walk_at "go"
      refine n_lstRg ww (RgOk.of_le (by omega) (by omega) (by omega) (by omega)) fun p1 F1 H1 ww hp1 => ?_
      walk_at "go"
      refine n_lst ww (szle (by simp)) fun p2 F1 H1 ww hp2 => ?_
      walk_at "go"
      rw [show ((many : Nat) : Int) - ((n : Nat) : Int) + ((extra : Nat) : Int) = ((cs.length - n + extra : Nat) : Int) by omega]
      refine n_rep ww (by walk_at "at") (by omega) (by omega) (szle (by show 1 * _ ≤ _; omega)) fun p3 F1 H1 ww hp3 => ?_
      rw [show (List.replicate (((cs.length - n + extra : Nat) : Int)).toNat [V.non]).flatten = List.replicate (cs.length - n) V.non ++ List.replicate extra V.non by rw [Int.toNat_natCast, List.flatten_replicate_singleton, List.replicate_append_replicate]] at ww
      walk_at "go"
      refine n_cat (p := p1) (q := p3) ww (by walk_at "at") (by walk_at "at") (szle (by rw [rgV_length, List.length_append, List.length_replicate, List.length_replicate]; omega)) fun pc F1 H1 ww hpc => ?_
      rw [show rgV 0 ((n : Nat) : Int) ++ (List.replicate (cs.length - n) V.non ++ List.replicate extra V.non) = s0V n cs.length extra by rw [rgV0, ← List.append_assoc]; rfl] at ww
      walk_at "go"
      refine n_tupOf34 ww (by walk_at "sq") fun t0 F1 H1 ww => ?_
      have hT0 : SqT K F1 t0 (s0V n cs.length extra) := ww.imT (by walk_at "mem")
      walk_at "go"
      refine n_lst ww (szle (by simp)) fun pl F1 H1 ww hpl => ?_
      walk_at "go"
      refine n_none1 ww fun pd H1 ww hpd => ?_
      walk_at "go"
      have hk0 : ∀ v ∈ s0V n cs.length extra, KeyV v := fun v hv => flat_key ((hbf hb0).1 v hv)
      refine n_one ww (by walk_at "pick") (ww.imT (p := t0) (by walk_at "mem")) hk0 fun H1 ww => ?_
      have hT0 : SqT K F1 t0 (s0V n cs.length extra) := ww.imT (by walk_at "mem")
      replace ww := ww.push (stA K [.ref t0] [s0V n cs.length extra]) (stA_snoc stA_nil hT0)
      walk_at "go"
      refine n_while ww (fun m σ L => ∃ (count : Nat) (pl : Addr) (vs : List V) (us : List (List V)) (xs : List (List V × Addr)) (y8 y9 y10 y11 : Option V), σ = [some (.ref a), some (.int (n : Nat)), some (.int (extra : Nat)), some (.int (many : Nat)), some (.ref pk), some (.ref pl), some (.ref pd), some (.int (count : Nat)), y8, y9, y10, y11] ∧
        BfI many signs cs (s0V n cs.length extra) A ln count us [] (kyN xs) ∧ us.length ≤ xs.length ∧ m = (59049 - xs.length) + (if us = [] then 0 else 1) ∧
        L = [mu pl (.lst vs), stA K vs us, mu pd (dnO P w pd xs), dnk K xs, fx pk (.lst signs), imL K a cs]) (m0 := (59049 - 1) + 1) ⟨0, pl, [.ref t0], [s0V n cs.length extra], [(s0V n cs.length extra, t0)], _, _, _, _, rfl, bf_start hb0, Nat.le_refl _, rfl, rfl⟩ (fun m σ L F H hp ww => ?_)
      obtain ⟨count, pl, vs, us, xs, y8, y9, y10, y11, rfl, I, hul, hm, rfl⟩ := hp
      have hxl := hbd I
      rw [List.length_map] at hxl
      have hst : StA K F vs us := ww.i (stA K vs us) (by walk_at "mem")
      have hub : ∀ u ∈ us, (∀ v ∈ u, FlatV v) ∧ u.length ≤ 5 := fun u hu => hbf (I.bd u (I.wi u (.inl hu)))
      walk_at "go"
      refine n_lst ww (szle (by simp)) fun pe F1 H1 ww hpe => ?_
      have hst1 : StA K F1 vs us := ww.i (stA K vs us) (by walk_at "mem")
      walk_at "go"
      refine n_neSt (by walk_at "sq") (by walk_at "sq") (hst1.same ww.fh) (fun u hu => (hub u hu).1) (by omega) (fun u hu => by have := (hub u hu).2; omega) ?_
      walk_at "go"
      by_cases he : us = []
      · subst he
        refine w_is (c := false) rfl ?_
        walk_at "go"
        rw [emany] at I
        exact q2 _ _ (ww.to .nil) fun js => I.none hsi
      · refine w_is (c := true) (decide_eq_true he) ?_
        walk_at "go"
        refine n_turn ?_
        walk_at "go"
        refine n_lst ww (szle (by simp)) fun pt F1 H1 ww hpt => ?_
        replace ww := ww.push (stA K [] []) stA_nil
        have hvu := hst.1
        walk_at "go"
        refine n_forL vs ww (fun i σ L => ∃ (vs2 : List V) (us2 : List (List V)) (xs2 : List (List V × Addr)) (y9 y10 y11 : Option V), σ = [some (.ref a), some (.int (n : Nat)), some (.int (extra : Nat)), some (.int (many : Nat)), some (.ref pk), some (.ref pl), some (.ref pd), some (.int (count : Nat)), some (.ref pt), y9, y10, y11] ∧
          BfI many signs cs (s0V n cs.length extra) A ln count (us.drop i) us2 (kyN xs2) ∧ xs2.length = xs.length + us2.length ∧
          L = [mu pt (.lst vs2), stA K vs2 us2, mu pd (dnO P w pd xs2), dnk K xs2, mu pl (.lst vs), stA K vs us, fx pk (.lst signs), imL K a cs]) ⟨[], [], xs, _, _, _, rfl, I, rfl, rfl⟩ (fun i σ L F' H' hp ww => ?_) (fun i x σ L F' H' hx hp ww => ?_) (fun σ L F' H' hp ww => ?_)
        · obtain ⟨vs2, us2, xs2, y9, y10, y11, rfl, I, hxx, rfl⟩ := hp
          walk_at "sq"
        · obtain ⟨vs2, us2, xs2, y9, y10, y11, rfl, I, hxx, rfl⟩ := hp
          have hiv := (List.getElem?_eq_some_iff.mp hx).1
          have hsF : StA K F' vs us := ww.i (stA K vs us) (by walk_at "mem")
          have hiu : i < us.length := by rw [← hvu]; exact hiv
          obtain ⟨u, hu⟩ : ∃ u, us[i]? = some u := ⟨_, List.getElem?_eq_getElem hiu⟩
          obtain ⟨tq, rfl, hTq⟩ := hsF.2 i x u hx hu
          rw [show us.drop i = u :: us.drop (i + 1) by
            rw [List.drop_eq_getElem_cons hiu]
            rw [List.getElem?_eq_getElem hiu] at hu
            rw [Option.some.inj hu]] at I
          obtain ⟨huf, hul5⟩ := hub u (List.mem_of_getElem? hu)
          replace ww := ww.push (imT K tq u) hTq
          walk_at "go"
          refine n_slA ww (ww.imT (p := tq) (by walk_at "mem")) fun t1 F1 H1 ww => ?_
          walk_at "go"
          refine n_listOfT34 ww (ww.imT (p := t1) (by walk_at "mem")) fun l1 F1 H1 ww hl1 => ?_
          walk_at "go"
          refine n_eqFl (xs := cutV u none (some ((cs.length : Nat) : Int))) (ys := cs) (by walk_at "sq") (by walk_at "sq") (by rw [cut_to]; exact fun v hv => huf v (List.mem_of_mem_take hv)) hcf (by rw [cut_to, List.length_take]; omega) (by omega) ?_
          rw [cut_to]
          walk_at "go"
          by_cases hg : GoalV cs u
          · refine w_is (c := true) (decide_eq_true hg) ?_
            walk_at "go"
            rw [emany] at I
            obtain ⟨f1, f2⟩ := I.found hss hc hsi hg
            exact q1 count _ _ (ww.to .nil) f1 f2
          · refine w_is (c := false) (decide_eq_false hg) ?_
            walk_at "go"
            have hlu : u.length ≤ 10 := by omega
            refine ⟨_, tq, pk, u, signs, many, rfl, rfl, rfl, ww.fh, ww.imT (p := tq) (by walk_at "mem"), ww.i (fx pk (.lst signs)) (by walk_at "mem"), hlu, by omega, fun p vs3 us3 F2 H2 hp3 w2 hmem hl3 => ?_⟩
            replace ww := ww.cal .nil w2 (by walk_at "app")
            have hs3 : StA K F2 vs3 us3 := ww.i (stA K vs3 us3) (by walk_at "mem")
            have hvu3 := hs3.1
            walk_at "go"
            refine n_forL vs3 ww (fun j σ L => ∃ (vs2 : List V) (us2 : List (List V)) (xs2 : List (List V × Addr)) (y10 y11 : Option V), σ = [some (.ref a), some (.int (n : Nat)), some (.int (extra : Nat)), some (.int (many : Nat)), some (.ref pk), some (.ref pl), some (.ref pd), some (.int (count : Nat)), some (.ref pt), some (.ref tq), y10, y11] ∧
              BfI many signs cs (s0V n cs.length extra) A ln count (u :: us.drop (i + 1)) us2 (kyN xs2) ∧ (∀ (k : Nat) (z : List V), k < j → us3[k]? = some z → z ∈ kyN xs2) ∧ xs2.length = xs.length + us2.length ∧
              L = [mu pt (.lst vs2), stA K vs2 us2, mu pd (dnO P w pd xs2), dnk K xs2, mu p (.lst vs3), stA K vs3 us3, mu pl (.lst vs), stA K vs us, fx pk (.lst signs), imL K a cs]) ⟨vs2, us2, xs2, _, _, rfl, I, (fun k z h => absurd h (Nat.not_lt_zero _)), hxx, rfl⟩ (fun j σ L F' H' hp ww => ?_) (fun j x σ L F' H' hx hp ww => ?_) (fun σ L F' H' hp ww => ?_)
            · obtain ⟨vs2, us2, xs2, y10, y11, rfl, I, hin, hxx, rfl⟩ := hp
              walk_at "sq"
            · obtain ⟨vs2, us2, xs2, y10, y11, rfl, I, hin, hxx, rfl⟩ := hp
              have hjv := (List.getElem?_eq_some_iff.mp hx).1
              have hsF : StA K F' vs3 us3 := ww.i (stA K vs3 us3) (by walk_at "mem")
              have hju : j < us3.length := by rw [← hvu3]; exact hjv
              obtain ⟨z, hz3⟩ : ∃ z, us3[j]? = some z := ⟨_, List.getElem?_eq_getElem hju⟩
              obtain ⟨tr, rfl, hTr⟩ := hsF.2 j x z hx hz3
              have hmv : MvV many signs u z := (hmem z).mp (List.mem_of_getElem? hz3)
              have hbz : BdV A ln z := bd_mv hAs (I.bd u (I.wi u (.inl (List.mem_cons_self ..)))) hmv
              have hkz : ∀ v ∈ z, KeyV v := fun v hv => flat_key ((hbf hbz).1 v hv)
              have hxb := hbd I
              rw [List.length_map] at hxb
              walk_at "go"
              refine n_nnotin ww (by walk_at "mem") (by walk_at "mem") (sqT_same ww.fh hTr) hkz ?_
              walk_at "go"
              by_cases hin2 : z ∈ kyN xs2
              · refine w_is (c := false) (decide_eq_false fun h => h hin2) ?_
                walk_at "go"
                refine nx_mk ww ⟨vs2, us2, xs2, _, _, rfl, I, fun k y hk hy => ?_, hxx, rfl⟩ (by walk_at "pk")
                by_cases e : k = j
                · subst e
                  rw [hz3] at hy
                  cases hy
                  exact hin2
                · exact hin k y (by omega) hy
              · refine w_is (c := true) (decide_eq_true hin2) ?_
                walk_at "go"
                refine n_nput ww (by walk_at "pick") hTr hkz hin2 (small_lt (by omega)) fun H2 ww => ?_
                have hs2 : StA K F' vs2 us2 := ww.i (stA K vs2 us2) (by walk_at "mem")
                have hvl2 := hs2.1
                walk_at "go"
                refine n_app ww (by walk_at "pick") (small_lt (by omega)) fun H2 ww => ?_
                replace ww := ww.push (stA K (vs2 ++ [V.ref tr]) (us2 ++ [z])) (stA_snoc hs2 hTr)
                have I2 := I.more hAs hmv hin2
                have e2 : kyN (xs2 ++ [(z, tr)]) = kyN xs2 ++ [z] := by unfold kyN; rw [List.map_append]; rfl
                rw [← e2] at I2
                walk_at "go"
                refine nx_mk ww ⟨vs2 ++ [V.ref tr], us2 ++ [z], xs2 ++ [(z, tr)], _, _, rfl, I2, fun k y hk hy => ?_, by rw [List.length_append, List.length_append, List.length_singleton, List.length_singleton]; omega, rfl⟩ (by walk_at "pk")
                rw [e2, List.mem_append, List.mem_singleton]
                by_cases e : k = j
                · subst e
                  rw [hz3] at hy
                  cases hy
                  exact .inr rfl
                · exact .inl (hin k y (by omega) hy)
            · obtain ⟨vs2, us2, xs2, y10, y11, rfl, I, hin, hxx, rfl⟩ := hp
              refine nx_mk ww ⟨vs2, us2, xs2, _, _, _, rfl, I.past hg fun z hz => ?_, hxx, rfl⟩ (by walk_at "pk")
              obtain ⟨k, hk, hk2⟩ := List.mem_iff_getElem.mp ((hmem z).mpr hz)
              exact hin k z (by rw [hvu3]; exact hk) (by rw [List.getElem?_eq_getElem hk, hk2])
        · obtain ⟨vs2, us2, xs2, y9, y10, y11, rfl, I, hxx, rfl⟩ := hp
          rw [show us.drop vs.length = [] from List.drop_eq_nil_of_le (by omega)] at I
          have I2 := I.turn
          have hxb := hbd I2
          rw [List.length_map] at hxb
          walk_at "go"
          refine nxm_mk ww ?_ ⟨count + 1, pt, vs2, us2, xs2, _, _, _, _, rfl, I2, by omega, rfl, rfl⟩ (by walk_at "pk")
          rw [hm, if_neg he]
          by_cases e2 : us2 = []
          · rw [if_pos e2]
            omega
          · rw [if_neg e2]
            have := List.length_pos_iff.mpr e2
            omega
-- law
theorem ok_law {f : Addr} {fd : FuncData} (F : FunD K "law" "law" (defArgs s_law) (defBody s_law) (defScope s_law) [] [] f fd) (T : Txt K mg) (D_law_asked : DO P w K mg base 6 "_law_asked" ["item", "extra", "way"] [] (S3 (φlasked K))) (D_law_bag : DO P w K mg base 1 "_law_bag" ["script"] [] (S1 (φbag K))) (D_law_cells : DO P w K mg base 5 "_law_cells" ["bag", "way", "n", "few"] [] (S4 (φlcells34 K))) (D_law_draw : DO P w K mg base 2 "_law_draw" ["bag", "many"] [] (S2 (φdraw K))) (D_law_fewest : DO P w K mg base 3 "_law_fewest" ["cells", "size", "extra"] [] (S3 (φlfewest34 K))) (D_law_rows : DO P w K mg base 3 "_law_rows" ["bag", "cells"] [] (S2 (φlrows31 K))) (D_law_walked : DO P w K mg base 3 "_law_walked" ["cells", "size", "plan", "extra"] [] (S4 (φlwalked K))) (D_law_whole : DO P w K mg base 1 "_law_whole" ["got"] [] (S1 φwholeI)) (DN_Change_2 : DN P w K mg base 2 "Change" ["self", "size", "rows"] [] (S3 (φinit K))) : FnOk P w K mg base CX0 14 f fd ["script"] (S1 (φlaw K)) := by
  refine F.ok sc_law (fun vs H Q E h => ?_) (fun cdv A outer s H vs Q E hr h => ?_)
  · exact S1.len h
  · match vs, h with
    | [v0], h =>
    have hu := hu_of hr
    refine ⟨_, PSs.nox (pss_cons (ps_set (i := 1) sc_law.nd rfl (.inl rfl) (pcall D_law_bag hr (pa_cons (pv 0) pa_nil)))
      (pss_cons (ps_set (i := 2) sc_law.nd rfl (.inl rfl) (pcall D_law_draw hr (pa_cons (pv 1) (pa_cons pe_int pa_nil))))
      (pss_cons (ps_set (i := 3) sc_law.nd rfl (.inl rfl) (pcall D_law_draw hr (pa_cons (pv 1) (pa_cons pe_int pa_nil))))
      (pss_cons (ps_set (i := 4) sc_law.nd rfl (.inl rfl) (pe_op op_add pe_int (pcall D_law_draw hr (pa_cons (pv 1) (pa_cons pe_int pa_nil)))))
      (pss_cons (ps_set (i := 5) sc_law.nd rfl (.inl rfl) (pcall D_law_draw hr (pa_cons (pv 1) (pa_cons (pe_ix (ixL (K := K)) (pe_lst (pa_cons pe_int (pa_cons pe_int pa_nil))) (pe_op op_fdivW (pv 4) pe_int) (fun _ _ => rfl)) pa_nil))))
      (pss_cons (ps_asg (pcall D_law_cells hr (pa_cons (pv 1) (pa_cons (pv 2) (pa_cons (pv 4) (pa_cons pe_bl pa_nil))))) (pg_tup (by rfl) (pgs_cons (pg_name (i := 6) sc_law.nd rfl (.inl rfl)) (pgs_cons (pg_name (i := 7) sc_law.nd rfl (.inl rfl)) pgs_nil))))
      (pss_cons (ps_set (i := 7) sc_law.nd rfl (.inl rfl) (pe_slice (slL (K := K)) (pv 7) po_none (po_some pe_int)))
      (C8.pss_cut (ps_if (pt_cmpR op_gt (pe_callB clMax2 (by rfl) T.b_max (by decide +kernel) (pa_cons (pv 6) (pa_cons (pe_callB (clLenQ (K := K)) (by rfl) T.b_len (by decide +kernel) (pa_cons (pv 7) pa_nil)) pa_nil))) pe_int (nomark _)) (pss_cons (ps_set (i := 5) sc_law.nd rfl (.inl rfl) (pe_callB clMin2 (by rfl) T.b_min (by decide +kernel) (pa_cons (pv 5) (pa_cons pe_int pa_nil))))
      (pss_one (ps_setLc (i := 7) (own := [("cell", 10)]) (g := gName 10) rfl sc_law.nd rfl rfl (sw_true rfl rfl rfl (by decide +kernel)) (pi_list (pv 7)) (blkOk_by (own := [("cell", 10)]) (N := ["script", "bag", "way", "how", "n", "extra", "size", "cells", "told", "fewest", "cell"]) (sc := defScope s_law) (by decide +kernel)) (fun _ _ _ _ _ => pg_name (i := 10) sc_law.nd rfl (Or.inl rfl)) (fun _ _ _ _ _ => pts_nil) (fun _ _ _ _ _ => (pe_ifExp (pt_val (pe_callB (clIsi (K := K)) (by rfl) T.b_isinstance (by decide +kernel) (pa_cons (pv 10) (pa_cons (pe_bltn (v := .ty "str") (by rfl) T.b_str (by decide +kernel) rfl) pa_nil)))) pe_str (pv 10)))))) pss_nil)
      (pss_cons (ps_set (i := 8) sc_law.nd rfl (.inl rfl) (pcall D_law_asked hr (pa_cons (pmake DN_Change_2 hr (pa_cons (pv 6) (pa_cons (pcall D_law_rows hr (pa_cons (pv 1) (pa_cons (pv 7) pa_nil))) pa_nil))) (pa_cons (pv 5) (pa_cons (pv 3) pa_nil)))))
      (pss_cons (ps_set (i := 9) sc_law.nd rfl (.inl rfl) (pcall D_law_fewest hr (pa_cons (pv 7) (pa_cons (pv 6) (pa_cons (pv 5) pa_nil)))))
      (pss_cons (ps_if (pt_cmp (pc_isN (pv 9)) (by rfl)) (pss_one (ps_ret (pe_and (pe_cmp (pc_isN (pe_ix (ixL (K := K)) (pv 8) pe_int (fun _ _ => rfl))) (by rfl)) (pe_and (pcall D_law_whole hr (pa_cons (pe_ix (ixL (K := K)) (pv 8) pe_int (fun _ _ => rfl)) pa_nil)) (pe_one (pe_cmpR op_eq (pe_ix (ixL (K := K)) (pv 8) pe_int (fun _ _ => rfl)) pe_int (nomark _))))))) pss_nil)
      (pss_one (ps_ret (pe_and (pe_cmp (pc_isN (pe_ix (ixL (K := K)) (pv 8) pe_int (fun _ _ => rfl))) (by rfl)) (pe_and (pcall D_law_walked hr (pa_cons (pv 7) (pa_cons (pv 6) (pa_cons (pe_ix (ixL (K := K)) (pv 8) pe_int (fun _ _ => rfl)) (pa_cons (pv 5) pa_nil))))) (pe_one (pe_cmpR op_eq (pe_callB (clLenQ (K := K)) (by rfl) T.b_len (by decide +kernel) (pa_cons (pe_ix (ixL (K := K)) (pv 8) pe_int (fun _ _ => rfl)) pa_nil)) (pv 9) (nomark _)))))))))))))))))), ?_⟩
    rw [show start ["script", "bag", "way", "how", "n", "extra", "size", "cells", "told", "fewest", "cell"] [v0] = [some v0, none, none, none, none, none, none, none, none, none, none] from rfl]
    have kC := T.k_Change
    have kS := T.na_Change_size
    have kR := T.na_Change_rows
    
    obtain ⟨sc, ns, rfl, hS, hl, q⟩ := h
    walk_at "go"
    refine ⟨sc, ns, rfl, hS, hl, fun b F1 H1 g1 hb => ?_⟩
    have w := W.bag0 g1 hb
    walk_at "go"
    refine n_draw w (by walk_at "pick") (by decide) (by decide) fun r F1 H1 w r0 r1 => ?_
    obtain ⟨way, rfl⟩ : ∃ way : Nat, r = (way : Int) := ⟨r.toNat, by omega⟩
    walk_at "go"
    refine n_draw w (by walk_at "pick") (by decide) (by decide) fun r F1 H1 w h0 h1 => ?_
    obtain ⟨how, rfl⟩ : ∃ how : Nat, r = (how : Int) := ⟨r.toNat, by omega⟩
    walk_at "go"
    refine n_draw w (by walk_at "pick") (by decide) (by decide) fun r F1 H1 w m0 m1 => ?_
    obtain ⟨n, en⟩ : ∃ n : Nat, (1 : Int) + r = (n : Int) := ⟨((1 : Int) + r).toNat, by omega⟩
    walk_at "go"
    rw [en]
    refine n_lst w (szle (by simp)) fun p1 F1 H1 w hp1 => ?_
    obtain ⟨wd, ew, wd0, wd1⟩ := pick_ix (ns := [3, 2]) (i := (n : Int) / 4) (lo := 2) (hi := 3) (by omega) (by show (n : Int) / 4 < 2; omega) (by decide)
    walk_at "go"
    refine w_ixL _ _ (by walk_at "sq") ew ?_
    walk_at "go"
    refine n_draw w (by walk_at "pick") (by omega) (by omega) fun r F1 H1 w x0 x1 => ?_
    obtain ⟨ex, rfl⟩ : ∃ ex : Nat, r = (ex : Int) := ⟨r.toNat, by omega⟩
    walk_at "go"
    refine ⟨_, b, way, n, true, rfl, rfl, rfl, rfl, w.st (by walk_at "pick"), by omega, by omega, by omega, fun t pc m cs F2 H2 hpc w2 hm hcl hc => ?_⟩
    replace w := w.cal (D := [bag K b]) (by walk_at "pick") w2 (by walk_at "app") rfl
    walk_at "go"
    refine n_slL w (by walk_at "sq") fun pz F3 H3 w hpz => ?_
    rw [show cutV cs none (some 4) = cs.take 4 from cut_to cs 4] at w
    have hc4 : ∀ v ∈ cs.take 4, CellOk m v := fun v hv => hc v (List.mem_of_mem_take hv)
    have hl4 : (cs.take 4).length ≤ 4 := by rw [List.length_take]; omega
    generalize cs.take 4 = c4 at hc4 hl4 w
    walk_at "go"
    refine n_cut w (fun σ L => ∃ (pz : Addr) (c4 : List V) (ex : Nat) (y8 y9 y10 : Option V), σ = [some (.ref sc), some (.ref b), some (.int (way : Nat)), some (.int (how : Nat)), some (.int (n : Nat)), some (.int (ex : Nat)), some (.int (m : Nat)), some (.ref pz), y8, y9, y10] ∧ H pz = none ∧ (∀ v ∈ c4, CellOk m v) ∧ c4.length ≤ 4 ∧ m + (c4.length - m) + ex ≤ 5 ∧ L = [mu pz (.lst c4), bag K b]) ?_ (fun σ L F H hp w => ?_)
    · walk_at "go"
      refine w_ite (fun hbig => ?_) (fun hbig => ?_)
      · walk_at "go"
        obtain ⟨ex2, ee, ee1⟩ : ∃ ex2 : Nat, (if (1 : Int) < ((ex : Nat) : Int) then (1 : Int) else ((ex : Nat) : Int)) = ((ex2 : Nat) : Int) ∧ ex2 ≤ 1 := by
          by_cases h : (1 : Int) < ((ex : Nat) : Int)
          · exact ⟨1, by rw [if_pos h]; rfl, Nat.le_refl _⟩
          · exact ⟨ex, by rw [if_neg h], by omega⟩
        rw [ee]
        refine n_lcL c4 w (fun j ys L => ys.length = j ∧ (∀ v ∈ ys, CellOk m v) ∧ L = [mu pz (.lst c4), bag K b]) ⟨rfl, (fun _ h => nomatch h), rfl⟩ (fun j ys L F' H' D hp w => ?_) (fun j x ys L F' H' D hx hp w hD => ?_) (fun D ys L F' H' hp w hD => ?_)
        · obtain ⟨_, _, rfl⟩ := hp
          walk_at "sq"
        · obtain ⟨hyl, hyc, rfl⟩ := hp
          have hj := (List.getElem?_eq_some_iff.mp hx).1
          have hcx := hc4 x (List.mem_of_getElem? hx)
          walk_at "wp"
          walk_at "go"
          rcases id hcx with ⟨i, rfl, hi⟩ | ⟨c, rfl, hcc⟩
          · refine u_isi (F := H') (d := .int _) (.int _) (Same.refl _) (k_str _) ?_
            walk_at "go"
            refine w_is (c := false) rfl ?_
            walk_at "go"
            refine n_acc ys w ⟨by rw [List.length_append, hyl]; rfl, fun u hu => ?_, rfl⟩ (by walk_at "pk") (small_lt (by omega))
            rcases List.mem_append.mp hu with hu | hu
            · exact hyc u hu
            · rw [List.mem_singleton.mp hu]; exact hcx
          · refine u_isi (F := H') (d := .str _) (.str _) (Same.refl _) (k_str _) ?_
            walk_at "go"
            refine w_is (c := true) rfl ?_
            walk_at "go"
            refine n_acc ys w ⟨by rw [List.length_append, hyl]; rfl, fun u hu => ?_, rfl⟩ (by walk_at "pk") (small_lt (by omega))
            rcases List.mem_append.mp hu with hu | hu
            · exact hyc u hu
            · rw [List.mem_singleton.mp hu]
              exact .inr ⟨97, rfl, by decide⟩
        · obtain ⟨hyl, hyc, rfl⟩ := hp
          walk_at "go"
          exact nx_mk w ⟨D, ys, ex2, _, _, _, rfl, hD, hyc, by omega, by omega, rfl⟩ (by walk_at "pk")
      · walk_at "go"
        exact nx_mk w ⟨pz, c4, ex, _, _, _, rfl, hpz, hc4, hl4, by split at hbig <;> omega, rfl⟩ (by walk_at "pk")
    · obtain ⟨pz, cs, ex, y8, y9, y10, rfl, hpz, hc, hcl, hL, rfl⟩ := hp
      obtain ⟨F3, w⟩ := w.fzL (p := pz) (by walk_at "pick") hpz
      walk_at "go"
      refine ⟨_, b, pz, cs, m, rfl, rfl, w.st (by walk_at "pick"), sqL_of (w.i (fx pz (.lst cs)) (by walk_at "mem")), hc, by omega, fun pr ys rows F4 H4 hpr w2 hR hE => ?_⟩
      have hpr' := w.g.fresh hpr
      replace w := w.cal (D := [bag K b]) (by walk_at "pick") w2 (by walk_at "app") rfl
      obtain ⟨F5, w⟩ := w.fzL (p := pr) (by walk_at "pick") hpr'
      walk_at "go"
      refine n_make w fun c dx H5 w hc9 => ?_
      refine c_init w (by walk_at "pick") hc9 (sqL_of (w.i (fx pr (.lst ys)) (by walk_at "mem"))) (w.dpa (by walk_at "mem")) (by omega) hR fun F5 H5 w => ?_
      have hCh : Chg K F5 (.ref c) m rows := w.i (chg K (.ref c) m rows) (by walk_at "mem")
      walk_at "go"
      refine ⟨_, m, ex, how, rows, rfl, rfl, w.fh, hCh, hR, by omega, fun hnb p pl vs js F2 H2 hp hpl w2 hsg => ?_, fun hb p F2 H2 hp w2 => ?_⟩
      · rw [hE] at hnb hsg
        replace w := w.cal .nil w2 (by walk_at "app")
        walk_at "go"
        refine ⟨_, pz, cs, m, ex, rfl, rfl, rfl, w.fh, sqL_of (w.i (fx pz (.lst cs)) (by walk_at "mem")), hc, hcl, by omega, hL, fun k F3 H3 w3 _ hk => ?_, fun F3 H3 w3 hno => absurd hsg (hno js)⟩
        replace w := w.cal .nil w3 (by walk_at "app")
        have hjk := hk js hsg
        have hjl := hsg.le (by omega) (Nat.le_trans (pur_le _) (show cs.length ≤ 400 by omega))
        have hvl : vs.length = js.length := by rw [dpa_len (w.dpa (K := K) (xs := vs) (ds := js.map JR.d) (by walk_at "mem")), List.length_map]
        walk_at "go"
        refine w_is (c := false) (decide_eq_false fun e => nomatch e) ?_
        walk_at "go"
        refine ⟨_, pz, pl, cs, vs, m, ex, js, rfl, rfl, rfl, rfl, Same.refl _, by walk_at "sq", by walk_at "sq", dpa_same w.fh _ _ (w.dpa (by walk_at "mem")), hc, by omega, by omega, by omega, by omega, hsg.u, hsg.run, fun F4 H4 w4 => ?_⟩
        replace w := w.ro0 w4
        walk_at "go"
        rw [decide_eq_true (show ((vs.length : Nat) : Int) = ((k : Nat) : Int) by omega)]
        exact q _
      · rw [hE] at hb
        replace w := w.cal .nil w2 (by walk_at "app")
        walk_at "go"
        refine ⟨_, pz, cs, m, ex, rfl, rfl, rfl, w.fh, sqL_of (w.i (fx pz (.lst cs)) (by walk_at "mem")), hc, hcl, by omega, hL, fun k F3 H3 w3 hnb _ => absurd hb hnb, fun F3 H3 w3 _ => ?_⟩
        replace w := w.cal .nil w3 (by walk_at "app")
        walk_at "go"
        refine ⟨_, rfl, ?_⟩
        walk_at "go"
        rw [decide_eq_true (rfl : (1 : Int) = 1)]
        exact q _
end
theorem facts {P : Program} {w : World} {K : PySem.W.Frag} {mg : Str → Option Value} {h : Heap} {f : Addr} (X : K.In h) (G : h.Ns mainGlobals mg) (hfa : mg ("law" : Str) = some (.ref f)) (c : He.SaysD fa fn K) (ex : exB K = true) :
    ∃ fd : FuncData, (∀ (s : Shared) (v : Value), BindsTo s fd ⟨[v], []⟩ [("script", v)]) ∧ ∀ base : Heap, K.In base → base.Ns mainGlobals mg → FnOk P w K mg base CX0 14 f fd ["script"] (S1 (φlaw K)) := by
  unfold exB at ex
  simp only [Bool.and_eq_true] at ex
  have T : Txt K mg := ⟨He.free_ok X G (c.fact 0 (f := .free "LookupError") rfl), He.free_ok X G (c.fact 1 (f := .free "abs") rfl), He.free_ok X G (c.fact 2 (f := .free "all") rfl), He.free_ok X G (c.fact 3 (f := .free "bool") rfl), He.free_ok X G (c.fact 4 (f := .free "int") rfl), He.free_ok X G (c.fact 5 (f := .free "isinstance") rfl), He.free_ok X G (c.fact 6 (f := .free "len") rfl), He.free_ok X G (c.fact 7 (f := .free "list") rfl), He.free_ok X G (c.fact 8 (f := .free "max") rfl), He.free_ok X G (c.fact 9 (f := .free "min") rfl), He.free_ok X G (c.fact 10 (f := .free "range") rfl), He.free_ok X G (c.fact 11 (f := .free "set") rfl), He.free_ok X G (c.fact 12 (f := .free "sorted") rfl), He.free_ok X G (c.fact 13 (f := .free "str") rfl), He.free_ok X G (c.fact 14 (f := .free "tuple") rfl), He.int_ok X G (c.fact 15 (f := .int "MOST" 400) rfl), He.cls_ok (c.fact 44 (f := .cls "Change") rfl), He.noat_ok (c.fact 46 (f := .noat "Change" "size") rfl), He.noat_ok (c.fact 47 (f := .noat "Change" "rows") rfl), xfB_ok2 (He.glo_ok X G (c.fact 49 (f := .glo "NoSpare") rfl)) ex.1⟩
  obtain ⟨fd_gives, F_gives⟩ := c.def_ 0 (d := d_gives) rfl
  obtain ⟨fd_ChangeX_initX, F_ChangeX_initX⟩ := c.def_ 1 (d := d_ChangeX_initX) rfl
  obtain ⟨fd_Change_cells, F_Change_cells⟩ := c.def_ 2 (d := d_Change_cells) rfl
  obtain ⟨fd_NoSpareX_initX, F_NoSpareX_initX⟩ := c.def_ 3 (d := d_NoSpareX_initX) rfl
  obtain ⟨fd_gets, F_gets⟩ := c.def_ 4 (d := d_gets) rfl
  obtain ⟨fd_changing, F_changing⟩ := c.def_ 5 (d := d_changing) rfl
  obtain ⟨fd_readers, F_readers⟩ := c.def_ 6 (d := d_readers) rfl
  obtain ⟨fd_all_rings, F_all_rings⟩ := c.def_ 7 (d := d_all_rings) rfl
  obtain ⟨fd_is_pure, F_is_pure⟩ := c.def_ 8 (d := d_is_pure) rfl
  obtain ⟨fd_spared_cell, F_spared_cell⟩ := c.def_ 9 (d := d_spared_cell) rfl
  obtain ⟨fd_round_rows, F_round_rows⟩ := c.def_ 10 (d := d_round_rows) rfl
  obtain ⟨fd_pure_rows, F_pure_rows⟩ := c.def_ 11 (d := d_pure_rows) rfl
  obtain ⟨fd_unread_rows, F_unread_rows⟩ := c.def_ 12 (d := d_unread_rows) rfl
  obtain ⟨fd_read_rows, F_read_rows⟩ := c.def_ 13 (d := d_read_rows) rfl
  obtain ⟨fd_single_plan_r, F_single_plan_r⟩ := c.def_ 14 (d := d_single_plan_r) rfl
  obtain ⟨fd_law_bag, F_law_bag⟩ := c.def_ 15 (d := d_law_bag) rfl
  obtain ⟨fd_law_stirred, F_law_stirred⟩ := c.def_ 16 (d := d_law_stirred) rfl
  obtain ⟨fd_law_draw, F_law_draw⟩ := c.def_ 17 (d := d_law_draw) rfl
  obtain ⟨fd_law_sign, F_law_sign⟩ := c.def_ 18 (d := d_law_sign) rfl
  obtain ⟨fd_law_ring_cells, F_law_ring_cells⟩ := c.def_ 19 (d := d_law_ring_cells) rfl
  obtain ⟨fd_law_cell, F_law_cell⟩ := c.def_ 20 (d := d_law_cell) rfl
  obtain ⟨fd_law_cells, F_law_cells⟩ := c.def_ 21 (d := d_law_cells) rfl
  obtain ⟨fd_law_rows, F_law_rows⟩ := c.def_ 22 (d := d_law_rows) rfl
  obtain ⟨fd_law_whole, F_law_whole⟩ := c.def_ 23 (d := d_law_whole) rfl
  obtain ⟨fd_law_row_done, F_law_row_done⟩ := c.def_ 24 (d := d_law_row_done) rfl
  obtain ⟨fd_law_walked, F_law_walked⟩ := c.def_ 25 (d := d_law_walked) rfl
  obtain ⟨fd_law_asked, F_law_asked⟩ := c.def_ 26 (d := d_law_asked) rfl
  obtain ⟨fd_law_next, F_law_next⟩ := c.def_ 27 (d := d_law_next) rfl
  obtain ⟨fd_law_fewest, F_law_fewest⟩ := c.def_ 28 (d := d_law_fewest) rfl
  obtain ⟨fd_law, F_law⟩ := c.def_ 29 (d := d_law) rfl
  have D_gives : ∀ base, DO P w K mg base 1 "gives" ["row", "size"] [] (S2 (φgives K)) := fun base => ⟨_, _, [], ok_gives F_gives T , He.glo_ok X G (c.fact 16 (f := .glo "gives") rfl), F_gives.kp, F_gives.bindsN fun _ _ _ _ _ _ us hl => match us, hl with | [_, _], _ => rfl, .nil⟩
  have DN_Change_2 : ∀ base, DN P w K mg base 2 "Change" ["self", "size", "rows"] [] (S3 (φinit K)) := fun base => ⟨_, [], ok_ChangeX_initX F_ChangeX_initX T (D_gives base), He.mkr_ok (c.fact 45 (f := .mkr "Change") rfl), He.glo_ok X G (c.fact 43 (f := .glo "Change") rfl), F_ChangeX_initX.bindsN fun _ _ _ _ _ _ us hl => match us, hl with | [_, _, _], _ => rfl, .nil⟩
  have DM_Change_cells : ∀ base, DM P w K mg base 1 "Change" "cells" ["self"] [] (S1 (φcells K)) := fun base => ⟨_, [], ok_Change_cells F_Change_cells T , He.meth_ok (c.fact 48 (f := .meth "Change" "cells") rfl), T.k_Change, F_Change_cells.bindsN fun _ _ _ _ _ _ us hl => match us, hl with | [_], _ => rfl, .nil⟩
  have DXI_NoSpare : ∀ base, DXI P w K mg base 1 "NoSpare" "need" ["self", "need"] := fun base => ⟨fd_NoSpareX_initX, ok_NoSpareX_initX F_NoSpareX_initX T , F_NoSpareX_initX.bindsN fun _ _ _ _ _ _ us hl => match us, hl with | [_, _], _ => rfl⟩
  have D_gets : ∀ base, DO P w K mg base 1 "gets" ["cells", "place"] [] (S2 (φgets31 K)) := fun base => ⟨_, _, [], ok_gets F_gets T , He.glo_ok X G (c.fact 17 (f := .glo "gets") rfl), F_gets.kp, F_gets.bindsN fun _ _ _ _ _ _ us hl => match us, hl with | [_, _], _ => rfl, .nil⟩
  have D_changing : ∀ base, DO P w K mg base 1 "changing" ["cells"] [] (S1 (φchanging K)) := fun base => ⟨_, _, [], ok_changing F_changing T , He.glo_ok X G (c.fact 18 (f := .glo "changing") rfl), F_changing.kp, F_changing.bindsN fun _ _ _ _ _ _ us hl => match us, hl with | [_], _ => rfl, .nil⟩
  have D_readers : ∀ base, DO P w K mg base 2 "readers" ["cells", "size"] [] (S2 (φreaders K)) := fun base => ⟨_, _, [], ok_readers F_readers T (D_changing base) (D_gets base), He.glo_ok X G (c.fact 19 (f := .glo "readers") rfl), F_readers.kp, F_readers.bindsN fun _ _ _ _ _ _ us hl => match us, hl with | [_, _], _ => rfl, .nil⟩
  have D_all_rings : ∀ base, DO P w K mg base 2 "all_rings" ["cells"] [] (S1 (φrings K)) := fun base => ⟨_, _, [], ok_all_rings F_all_rings T (D_changing base) (D_gets base), He.glo_ok X G (c.fact 20 (f := .glo "all_rings") rfl), F_all_rings.kp, F_all_rings.bindsN fun _ _ _ _ _ _ us hl => match us, hl with | [_], _ => rfl, .nil⟩
  have D_is_pure : ∀ base, DO P w K mg base 1 "is_pure" ["ring", "reads"] [] (S2 (φis_pure K)) := fun base => ⟨_, _, [], ok_is_pure F_is_pure T , He.glo_ok X G (c.fact 21 (f := .glo "is_pure") rfl), F_is_pure.kp, F_is_pure.bindsN fun _ _ _ _ _ _ us hl => match us, hl with | [_, _], _ => rfl, .nil⟩
  have D_spared_cell : ∀ base, DO P w K mg base 1 "spared_cell" ["cells", "reads"] [] (S2 (φspared K)) := fun base => ⟨_, _, [], ok_spared_cell F_spared_cell T , He.glo_ok X G (c.fact 22 (f := .glo "spared_cell") rfl), F_spared_cell.kp, F_spared_cell.bindsN fun _ _ _ _ _ _ us hl => match us, hl with | [_, _], _ => rfl, .nil⟩
  have D_round_rows : ∀ base, DO P w K mg base 1 "round_rows" ["ring"] [] (S1 (φround K)) := fun base => ⟨_, _, [], ok_round_rows F_round_rows T , He.glo_ok X G (c.fact 23 (f := .glo "round_rows") rfl), F_round_rows.kp, F_round_rows.bindsN fun _ _ _ _ _ _ us hl => match us, hl with | [_], _ => rfl, .nil⟩
  have D_pure_rows : ∀ base, DO P w K mg base 2 "pure_rows" ["pure", "spare", "cell"] [] (S3 (φpurerows K)) := fun base => ⟨_, _, [], ok_pure_rows F_pure_rows T (D_round_rows base), He.glo_ok X G (c.fact 24 (f := .glo "pure_rows") rfl), F_pure_rows.kp, F_pure_rows.bindsN fun _ _ _ _ _ _ us hl => match us, hl with | [_, _, _], _ => rfl, .nil⟩
  have D_unread_rows : ∀ base, DO P w K mg base 2 "unread_rows" ["cells", "reads", "held"] [] (S3 (φunread K)) := fun base => ⟨_, _, [], ok_unread_rows F_unread_rows T (D_changing base), He.glo_ok X G (c.fact 25 (f := .glo "unread_rows") rfl), F_unread_rows.kp, F_unread_rows.bindsN fun _ _ _ _ _ _ us hl => match us, hl with | [_, _, _], _ => rfl, .nil⟩
  have D_read_rows : ∀ base, DO P w K mg base 2 "read_rows" ["ring", "held"] [] (S2 (φreadrows K)) := fun base => ⟨_, _, [], ok_read_rows F_read_rows T (D_round_rows base), He.glo_ok X G (c.fact 26 (f := .glo "read_rows") rfl), F_read_rows.kp, F_read_rows.bindsN fun _ _ _ _ _ _ us hl => match us, hl with | [_, _], _ => rfl, .nil⟩
  have DXD_single_plan_r_1 : ∀ base, DOXd P w K mg base 4 "single_plan" ["change", "spare"] [.int 0] (SX2 (φsingleX K)) := fun base => by
    obtain ⟨ds, rd, bd⟩ := FunD.binds1 F_single_plan_r (ps := ["change", "spare"]) 1 0 (by intro z; cases z) rfl (fun T' kV doc pm an cdv ct us its hu hi => match us, its, hu, hi with | [_], [_], _, _ => ⟨_, rfl, rfl⟩)
    exact ⟨_, _, ds, ok_single_plan_r F_single_plan_r T (D_all_rings base) (D_is_pure base) (D_pure_rows base) (D_read_rows base) (D_readers base) (D_spared_cell base) (D_unread_rows base) (DM_Change_cells base) (DXI_NoSpare base), He.glo_ok X G (c.fact 27 (f := .glo "single_plan") rfl), F_single_plan_r.kp, bd, rd⟩
  have DXD_single_plan_r_2 : ∀ base, DOXd P w K mg base 4 "single_plan" ["change", "spare"] [] (SX2 (φsingleX K)) := fun base => by
    obtain ⟨ds, rd, bd⟩ := FunD.binds1 F_single_plan_r (ps := ["change", "spare"]) 2 1 (by intro z; cases z) rfl (fun T' kV doc pm an cdv ct us its hu hi => match us, its, hu, hi with | [_, _], [_], _, _ => ⟨_, rfl, rfl⟩)
    exact ⟨_, _, ds, ok_single_plan_r F_single_plan_r T (D_all_rings base) (D_is_pure base) (D_pure_rows base) (D_read_rows base) (D_readers base) (D_spared_cell base) (D_unread_rows base) (DM_Change_cells base) (DXI_NoSpare base), He.glo_ok X G (c.fact 27 (f := .glo "single_plan") rfl), F_single_plan_r.kp, bd, rd⟩
  have DKX_single_plan_r_0_change_spare : ∀ base, DKX P w K mg base 4 "single_plan" ["change", "spare"] 0 ["change", "spare"] [(1, 0), (1, 1)] [.int 0] (SX2 (φsingleX K)) := fun base => by
    obtain ⟨ds, bd⟩ := kbD (tp := [(1, 0), (1, 1)]) (ps := ["change", "spare"]) (ks := ["change", "spare"]) (n := 0) F_single_plan_r (by intro z; cases z) (fun T' kV doc pm an cdv ct us ws its hu hw hi => match us, ws, its, hu, hw, hi with | [], [_, _], [_], _, _, _ => ⟨_, rfl, rfl⟩)
    exact ⟨_, _, ds, ok_single_plan_r F_single_plan_r T (D_all_rings base) (D_is_pure base) (D_pure_rows base) (D_read_rows base) (D_readers base) (D_spared_cell base) (D_unread_rows base) (DM_Change_cells base) (DXI_NoSpare base), He.glo_ok X G (c.fact 27 (f := .glo "single_plan") rfl), F_single_plan_r.kp, bd⟩
  have D_law_bag : ∀ base, DO P w K mg base 1 "_law_bag" ["script"] [] (S1 (φbag K)) := fun base => ⟨_, _, [], ok_law_bag F_law_bag T , He.glo_ok X G (c.fact 28 (f := .glo "_law_bag") rfl), F_law_bag.kp, F_law_bag.bindsN fun _ _ _ _ _ _ us hl => match us, hl with | [_], _ => rfl, .nil⟩
  have D_law_stirred : ∀ base, DO P w K mg base 1 "_law_stirred" ["bag", "many"] [] (S2 (φdraw K)) := fun base => ⟨_, _, [], ok_law_stirred F_law_stirred T , He.glo_ok X G (c.fact 29 (f := .glo "_law_stirred") rfl), F_law_stirred.kp, F_law_stirred.bindsN fun _ _ _ _ _ _ us hl => match us, hl with | [_, _], _ => rfl, .nil⟩
  have D_law_draw : ∀ base, DO P w K mg base 2 "_law_draw" ["bag", "many"] [] (S2 (φdraw K)) := fun base => ⟨_, _, [], ok_law_draw F_law_draw T (D_law_stirred base), He.glo_ok X G (c.fact 30 (f := .glo "_law_draw") rfl), F_law_draw.kp, F_law_draw.bindsN fun _ _ _ _ _ _ us hl => match us, hl with | [_, _], _ => rfl, .nil⟩
  have D_law_sign : ∀ base, DO P w K mg base 3 "_law_sign" ["bag", "few"] [] (S2 (φlsign K)) := fun base => ⟨_, _, [], ok_law_sign F_law_sign T (D_law_draw base), He.glo_ok X G (c.fact 31 (f := .glo "_law_sign") rfl), F_law_sign.kp, F_law_sign.bindsN fun _ _ _ _ _ _ us hl => match us, hl with | [_, _], _ => rfl, .nil⟩
  have D_law_ring_cells : ∀ base, DO P w K mg base 3 "_law_ring_cells" ["bag", "n"] [] (S2 (φlringcells K)) := fun base => ⟨_, _, [], ok_law_ring_cells F_law_ring_cells T (D_law_draw base), He.glo_ok X G (c.fact 32 (f := .glo "_law_ring_cells") rfl), F_law_ring_cells.kp, F_law_ring_cells.bindsN fun _ _ _ _ _ _ us hl => match us, hl with | [_, _], _ => rfl, .nil⟩
  have D_law_cell : ∀ base, DO P w K mg base 4 "_law_cell" ["bag", "size", "few"] [] (S3 (φlcell K)) := fun base => ⟨_, _, [], ok_law_cell F_law_cell T (D_law_draw base) (D_law_sign base), He.glo_ok X G (c.fact 33 (f := .glo "_law_cell") rfl), F_law_cell.kp, F_law_cell.bindsN fun _ _ _ _ _ _ us hl => match us, hl with | [_, _, _], _ => rfl, .nil⟩
  have D_law_cells : ∀ base, DO P w K mg base 5 "_law_cells" ["bag", "way", "n", "few"] [] (S4 (φlcells34 K)) := fun base => ⟨_, _, [], ok_law_cells F_law_cells T (D_law_cell base) (D_law_draw base) (D_law_ring_cells base), He.glo_ok X G (c.fact 34 (f := .glo "_law_cells") rfl), F_law_cells.kp, F_law_cells.bindsN fun _ _ _ _ _ _ us hl => match us, hl with | [_, _, _, _], _ => rfl, .nil⟩
  have D_law_rows : ∀ base, DO P w K mg base 3 "_law_rows" ["bag", "cells"] [] (S2 (φlrows31 K)) := fun base => ⟨_, _, [], ok_law_rows F_law_rows T (D_law_draw base), He.glo_ok X G (c.fact 35 (f := .glo "_law_rows") rfl), F_law_rows.kp, F_law_rows.bindsN fun _ _ _ _ _ _ us hl => match us, hl with | [_, _], _ => rfl, .nil⟩
  have D_law_whole : ∀ base, DO P w K mg base 1 "_law_whole" ["got"] [] (S1 φwholeI) := fun base => ⟨_, _, [], ok_law_whole F_law_whole T , He.glo_ok X G (c.fact 36 (f := .glo "_law_whole") rfl), F_law_whole.kp, F_law_whole.bindsN fun _ _ _ _ _ _ us hl => match us, hl with | [_], _ => rfl, .nil⟩
  have D_law_row_done : ∀ base, DO P w K mg base 2 "_law_row_done" ["room", "slots", "row"] [] (S3 (φlrowdone K)) := fun base => ⟨_, _, [], ok_law_row_done F_law_row_done T (D_law_whole base), He.glo_ok X G (c.fact 37 (f := .glo "_law_row_done") rfl), F_law_row_done.kp, F_law_row_done.bindsN fun _ _ _ _ _ _ us hl => match us, hl with | [_, _, _], _ => rfl, .nil⟩
  have D_law_walked : ∀ base, DO P w K mg base 3 "_law_walked" ["cells", "size", "plan", "extra"] [] (S4 (φlwalked K)) := fun base => ⟨_, _, [], ok_law_walked F_law_walked T (D_law_row_done base), He.glo_ok X G (c.fact 38 (f := .glo "_law_walked") rfl), F_law_walked.kp, F_law_walked.bindsN fun _ _ _ _ _ _ us hl => match us, hl with | [_, _, _, _], _ => rfl, .nil⟩
  have D_law_asked : ∀ base, DO P w K mg base 6 "_law_asked" ["item", "extra", "way"] [] (S3 (φlasked K)) := fun base => ⟨_, _, [], ok_law_asked F_law_asked T (DXD_single_plan_r_1 base) (DXD_single_plan_r_2 base) (DKX_single_plan_r_0_change_spare base), He.glo_ok X G (c.fact 39 (f := .glo "_law_asked") rfl), F_law_asked.kp, F_law_asked.bindsN fun _ _ _ _ _ _ us hl => match us, hl with | [_, _, _], _ => rfl, .nil⟩
  have D_law_next : ∀ base, DO P w K mg base 1 "_law_next" ["state", "many", "signs"] [] (S3 (φlnext34 K)) := fun base => ⟨_, _, [], ok_law_next F_law_next T , He.glo_ok X G (c.fact 40 (f := .glo "_law_next") rfl), F_law_next.kp, F_law_next.bindsN fun _ _ _ _ _ _ us hl => match us, hl with | [_, _, _], _ => rfl, .nil⟩
  have D_law_fewest : ∀ base, DO P w K mg base 3 "_law_fewest" ["cells", "size", "extra"] [] (S3 (φlfewest34 K)) := fun base => ⟨_, _, [], ok_law_fewest F_law_fewest T (D_law_next base), He.glo_ok X G (c.fact 41 (f := .glo "_law_fewest") rfl), F_law_fewest.kp, F_law_fewest.bindsN fun _ _ _ _ _ _ us hl => match us, hl with | [_, _, _], _ => rfl, .nil⟩
  have e := hfa.symm.trans (He.glo_ok X G (c.fact 42 (f := .glo "law") rfl))
  cases e
  have b := FunD.bindsA (ps := ["script"]) F_law fun _ _ _ _ _ _ us hl => match us, hl with | [_], _ => rfl
  exact ⟨fd_law, fun s v => b s [v] rfl, fun base _ _ => ok_law F_law T (D_law_asked base) (D_law_bag base) (D_law_cells base) (D_law_draw base) (D_law_fewest base) (D_law_rows base) (D_law_walked base) (D_law_whole base) (DN_Change_2 base)⟩
end Z
theorem PySem.Challenge.cw_remadehere_k34_whole_fewest_by_trying_holds : PySem.Challenge.rw_remadehere_k34_whole_fewest_by_trying.Holds :=
  Z.close fun _ _ _ _ _ _ X G hfa c ex => Z.facts X G hfa c ex
