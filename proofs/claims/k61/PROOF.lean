import PyProof.Rows.All
import Wide.All
import OpenK.AllK
import Wide.FinOn
import KE.KStateDown
import Lean
import HandS.Base
import HandS.Call
import HandS.List
import HandS.Comp
import HandS.Ends
import HandS.Dict
import HandS.Iter
import HandS.Text
import HandS.Words
import HandS.WordsList
import HandS.Defaults
import HandS.IsInst
import HandS.Wide
import HandS.WideBits
import HandS.Conv
import HandS.Flow
import HandS.Style
import HandS.Flt
import HandS.More
import HandS.Set
import HandS.SetFor
import HandS.Strs
import HandS.SortInts
import HandS.MakeKw
import HandS.MakeKwOnly
import HandS.Codes
import HandS.SetKeys
import HandS.Head0
import HandS.Head1
import HandS.Head2
import HandS.HeadEnd
import HandS.HeadHook1
import HandS.HeadHook2
import PyProof.DictMoreH
import PyProof.ListStr
import HandS.OwnEq
import PyProof.StrLawsIn
import PyProof.StrLawsFirst
import HandS.Exc
import HandS.ExcOwn
import HandS.TryOnly
import HandS.WordsExc
import HandS.ExcInit
import HandS.ExcField
import KE.KExcInit
import HandS.ExcIs
import KE.KIsAll
import KE.KTryMore
import PyProof.ExcClass
import PyProof.RulesRaise
import PyProof.FactsTree
import PyProof.ExcBaseAll.RuntimeError
import PyProof.ExcClass3
import PyProof.Rows.FactsExc_KeyError
import HandS.ExcCtx
import HandS.Hot
import HandS.HotCalls
import HandS.Rev
import HandS.RevTup
import HandS.RevRange
import HandS.TupLe
import PySem.Challenge.RW_remadehere_k61_versions_taken
set_option Elab.async false
set_option linter.all false
set_option maxRecDepth 100000
set_option maxHeartbeats 8000000
set_option synthInstance.maxHeartbeats 2000000
set_option synthInstance.maxSize 100000
namespace R
open PySem L2
/-! ### steps as classes: one look finds the rule for a goal -/
class Step (P : Prop) (Q : outParam Prop) : Prop where mk ::
  h : Q → P
class StepO (P : Prop) (Q : outParam Prop) : Prop where mk ::
  h : Q → P
class StepN (P : Prop) (Q : outParam Prop) : Prop where mk ::
  h : Q → P
class SideK (P : Prop) (k : Nat) : Prop where mk ::
/-- rows of steps: the new walk's, the old walk's -/
class GoN (P : Prop) (Q : outParam Prop) : Prop where mk ::
  h : Q → P
class GoO (P : Prop) (Q : outParam Prop) : Prop where mk ::
  h : Q → P
instance (priority := low) goN_end {P : Prop} : GoN P P := ⟨id⟩
instance (priority := low) goO_end {P : Prop} : GoO P P := ⟨id⟩
instance goN_n {P Q R : Prop} [s : StepN P Q] [g : GoN Q R] : GoN P R := ⟨fun r => s.h (g.h r)⟩
instance goO_o {P Q R : Prop} [s : StepO P Q] [g : GoO Q R] : GoO P R := ⟨fun r => s.h (g.h r)⟩
instance goN_s {P Q R : Prop} [s : Step P Q] [g : GoN Q R] : GoN P R := ⟨fun r => s.h (g.h r)⟩
instance goO_s {P Q R : Prop} [s : Step P Q] [g : GoO Q R] : GoO P R := ⟨fun r => s.h (g.h r)⟩
theorem goNS {P Q R : Prop} [s : Step P Q] [g : GoN Q R] (r : R) : P := s.h (g.h r)
theorem goNN {P Q R : Prop} [s : StepN P Q] [g : GoN Q R] (r : R) : P := s.h (g.h r)
theorem goOS {P Q R : Prop} [s : Step P Q] [g : GoO Q R] (r : R) : P := s.h (g.h r)
theorem goOO {P Q R : Prop} [s : StepO P Q] [g : GoO Q R] (r : R) : P := s.h (g.h r)
theorem sideI {P : Prop} (k : Nat) [SideK P k] (q : P) : P := q
/-! ### worlds: F the part that stays, H all that is tracked -/
theorem ne_none {α : Type} {o : Option α} {x : α} (h : o = some x) : o ≠ none := fun e => by rw [h] at e; cases e
theorem Same.new {H : Hp} {p : Addr} {o : HO} (h : H p = none) : Same H (upd H p o) := fun a u e => by
  rw [upd_ne (ne_of_none e h)]
  exact e
theorem rd_same {F H : Hp} {a : Addr} {u : HO} (e : Same F H) (h : Rd F a u) : Rd H a u := by
  rcases h with h | ⟨o, h⟩
  · exact .inl (e _ _ h)
  · exact .inr ⟨o, e _ _ h⟩
theorem sqL_same {K : PySem.W.Frag} {F H : Hp} {a : Addr} {xs : List V} (e : Same F H) (h : SqL K F a xs) : SqL K H a xs := by
  rcases h with h | h
  · exact .inl (rd_same e h)
  · exact .inr h
theorem sqT_same {K : PySem.W.Frag} {F H : Hp} {a : Addr} {xs : List V} (e : Same F H) (h : SqT K F a xs) : SqT K H a xs := by
  rcases h with h | h
  · exact .inl (rd_same e h)
  · exact .inr h
theorem sqL_of {K : PySem.W.Frag} {H : Hp} {a : Addr} {xs : List V} (h : H a = some (.lst xs)) : SqL K H a xs := .inl (.inl h)
theorem sqT_of {K : PySem.W.Frag} {H : Hp} {a : Addr} {xs : List V} (h : H a = some (.tup xs)) : SqT K H a xs := .inl (.inl h)
mutual
theorem dp_same {K : PySem.W.Frag} {F H : Hp} (e : Same F H) : ∀ (d : PyData) (v : V), Dp K F v d → Dp K H v d
  | .none, _, .non => .non
  | .bool _, _, .bl b => .bl b
  | .int _, _, .int i => .int i
  | .str _, _, .str x => .str x
  | .list ds, _, .lst h hs => .lst (sqL_same e h) (dpa_same e ds _ hs)
  | .tuple ds, _, .tup h hs => .tup (sqT_same e h) (dpa_same e ds _ hs)
theorem dpa_same {K : PySem.W.Frag} {F H : Hp} (e : Same F H) : ∀ (ds : List PyData) (vs : List V), DpAll K F vs ds → DpAll K H vs ds
  | [], _, .nil => .nil
  | d :: ds, _, .cons h hs => .cons (dp_same e d _ h) (dpa_same e ds _ hs)
end
/-- what a deed does: F grows to F2, H to H2; of what H has outside of F only the objects at M change -/
structure Gr (M : List Addr) (F H F2 H2 : Hp) : Prop where
  ff : Same F F2
  fh : Same F2 H2
  hh : ∀ a o, a ∉ M → H a = some o → H2 a = some o
  al : ∀ a, H a ≠ none → H2 a ≠ none
  nw : ∀ a, H a ≠ none → F a = none → F2 a = none
theorem Gr.refl {M : List Addr} {F H : Hp} (h : Same F H) : Gr M F H F H := ⟨Same.refl F, h, fun _ _ _ e => e, fun _ e => e, fun _ _ e => e⟩
theorem Gr.trans {M : List Addr} {F H F1 H1 F2 H2 : Hp} (a : Gr M F H F1 H1) (b : Gr M F1 H1 F2 H2) : Gr M F H F2 H2 :=
  ⟨a.ff.trans b.ff, b.fh, fun x o n e => b.hh x o n (a.hh x o n e), fun x e => b.al x (a.al x e), fun x e n => b.nw x (a.al x e) (a.nw x e n)⟩
theorem Gr.sub {M N : List Addr} {F H F2 H2 : Hp} (a : Gr M F H F2 H2) (h : ∀ x ∈ M, x ∈ N) : Gr N F H F2 H2 := ⟨a.ff, a.fh, fun x o n e => a.hh x o (fun m => n (h x m)) e, a.al, a.nw⟩
/-- a new object that stays -/
theorem Gr.im {M : List Addr} {F H : Hp} {p : Addr} {o : HO} (w : Same F H) (h : H p = none) : Gr M F H (upd F p o) (upd H p o) := by
  have hF : F p = none := w.free h
  refine ⟨Same.new hF, fun a u e => ?_, fun a u _ e => ?_, fun a e => ?_, fun a e n => ?_⟩
  · by_cases q : a = p
    · subst q
      rw [upd_same] at e ⊢
      exact e
    · rw [upd_ne q] at e ⊢
      exact w a u e
  · rw [upd_ne (ne_of_none e h)]
    exact e
  · by_cases q : a = p
    · subst q
      rw [upd_same]
      exact fun z => nomatch z
    · rw [upd_ne q]
      exact e
  · have q : a ≠ p := fun z => by subst z; exact e h
    rw [upd_ne q]
    exact n
/-- a new object that may change -/
theorem Gr.new {M : List Addr} {F H : Hp} {p : Addr} {o : HO} (w : Same F H) (h : H p = none) : Gr M F H F (upd H p o) := by
  refine ⟨Same.refl F, w.trans (Same.new h), fun a u _ e => ?_, fun a e => ?_, fun a e n => n⟩
  · rw [upd_ne (ne_of_none e h)]
    exact e
  · by_cases q : a = p
    · subst q
      rw [upd_same]
      exact fun z => nomatch z
    · rw [upd_ne q]
      exact e
/-- a change of an object that may change -/
theorem Gr.wr {M : List Addr} {F H : Hp} {p : Addr} {o : HO} (w : Same F H) (h : F p = none) (hm : p ∈ M) : Gr M F H F (upd H p o) := by
  refine ⟨Same.refl F, fun a u e => ?_, fun a u n e => ?_, fun a e => ?_, fun a e n => n⟩
  · have q : a ≠ p := ne_of_none e h
    rw [upd_ne q]
    exact w a u e
  · have q : a ≠ p := fun z => by subst z; exact n hm
    rw [upd_ne q]
    exact e
  · by_cases q : a = p
    · subst q
      rw [upd_same]
      exact fun z => nomatch z
    · rw [upd_ne q]
      exact e
/-- .. of one that was new behind the start -/
theorem Gr.wrn {M : List Addr} {F0 H0 F H : Hp} {p : Addr} {o : HO} (g : Gr M F0 H0 F H) (h : F p = none) (hn : H0 p = none) : Gr M F0 H0 F (upd H p o) := by
  refine ⟨g.ff, fun a u e => ?_, fun a u n e => ?_, fun a e => ?_, g.nw⟩
  · have q : a ≠ p := ne_of_none e h
    rw [upd_ne q]
    exact g.fh a u e
  · have q : a ≠ p := fun z => by subst z; rw [hn] at e; cases e
    rw [upd_ne q]
    exact g.hh a u n e
  · by_cases q : a = p
    · subst q
      rw [upd_same]
      exact fun z => nomatch z
    · rw [upd_ne q]
      exact g.al a e
/-- an object that may change -/
structure Mu (F H : Hp) (p : Addr) (o : HO) : Prop where
  n : F p = none
  h : H p = some o
theorem Gr.mu {M : List Addr} {F H F2 H2 : Hp} {p : Addr} {o : HO} (g : Gr M F H F2 H2) (m : Mu F H p o) (hp : p ∉ M) : Mu F2 H2 p o := ⟨g.nw p (ne_none m.h) m.n, g.hh p o hp m.h⟩
theorem Gr.mu0 {F H F2 H2 : Hp} {p : Addr} {o : HO} (g : Gr [] F H F2 H2) (m : Mu F H p o) : Mu F2 H2 p o := g.mu m (fun h => nomatch h)
theorem Mu.new {F H : Hp} {p : Addr} {o : HO} (w : Same F H) (h : H p = none) : Mu F (upd H p o) p o := ⟨w.free h, upd_same⟩
theorem Mu.wr {F H : Hp} {p : Addr} {o u : HO} (m : Mu F H p o) : Mu F (upd H p u) p u := ⟨m.n, upd_same⟩
theorem Mu.oth {F H : Hp} {p q : Addr} {o u : HO} (m : Mu F H p o) (h : p ≠ q) : Mu F (upd H q u) p o := ⟨m.n, by rw [upd_ne h]; exact m.h⟩
theorem Mu.sq {K : PySem.W.Frag} {F H : Hp} {p : Addr} {xs : List V} (m : Mu F H p (.lst xs)) : SqL K H p xs := sqL_of m.h
theorem Mu.ne_new {F H : Hp} {p q : Addr} {o : HO} (m : Mu F H p o) (h : H q = none) : p ≠ q := ne_of_none m.h h
/-! ### promises by the number of arguments -/
def S1 (φ : V → Hp → VK → Prop) : Sp := fun vs H Q _ => match vs with
  | [a] => φ a H Q
  | _ => False
def S2 (φ : V → V → Hp → VK → Prop) : Sp := fun vs H Q _ => match vs with
  | [a, b] => φ a b H Q
  | _ => False
def S3 (φ : V → V → V → Hp → VK → Prop) : Sp := fun vs H Q _ => match vs with
  | [a, b, c] => φ a b c H Q
  | _ => False
def S4 (φ : V → V → V → V → Hp → VK → Prop) : Sp := fun vs H Q _ => match vs with
  | [a, b, c, d] => φ a b c d H Q
  | _ => False
def S5 (φ : V → V → V → V → V → Hp → VK → Prop) : Sp := fun vs H Q _ => match vs with
  | [a, b, c, d, e] => φ a b c d e H Q
  | _ => False
def S6 (φ : V → V → V → V → V → V → Hp → VK → Prop) : Sp := fun vs H Q _ => match vs with
  | [a, b, c, d, e, f] => φ a b c d e f H Q
  | _ => False
def S7 (φ : V → V → V → V → V → V → V → Hp → VK → Prop) : Sp := fun vs H Q _ => match vs with
  | [a, b, c, d, e, f, g] => φ a b c d e f g H Q
  | _ => False
def S0 (φ : Hp → VK → Prop) : Sp := fun vs H Q _ => match vs with
  | [] => φ H Q
  | _ => False
theorem S0.len {φ : Hp → VK → Prop} {vs : List V} {H : Hp} {Q : VK} {E : XK} (h : S0 φ vs H Q E) : vs.length = 0 := by
  match vs, h with
  | [], _ => rfl
theorem S1.len {φ : V → Hp → VK → Prop} {vs : List V} {H : Hp} {Q : VK} {E : XK} (h : S1 φ vs H Q E) : vs.length = 1 := by
  match vs, h with
  | [_], _ => rfl
theorem S2.len {φ : V → V → Hp → VK → Prop} {vs : List V} {H : Hp} {Q : VK} {E : XK} (h : S2 φ vs H Q E) : vs.length = 2 := by
  match vs, h with
  | [_, _], _ => rfl
theorem S3.len {φ : V → V → V → Hp → VK → Prop} {vs : List V} {H : Hp} {Q : VK} {E : XK} (h : S3 φ vs H Q E) : vs.length = 3 := by
  match vs, h with
  | [_, _, _], _ => rfl
theorem S4.len {φ : V → V → V → V → Hp → VK → Prop} {vs : List V} {H : Hp} {Q : VK} {E : XK} (h : S4 φ vs H Q E) : vs.length = 4 := by
  match vs, h with
  | [_, _, _, _], _ => rfl
theorem S5.len {φ : V → V → V → V → V → Hp → VK → Prop} {vs : List V} {H : Hp} {Q : VK} {E : XK} (h : S5 φ vs H Q E) : vs.length = 5 := by
  match vs, h with
  | [_, _, _, _, _], _ => rfl
theorem S6.len {φ : V → V → V → V → V → V → Hp → VK → Prop} {vs : List V} {H : Hp} {Q : VK} {E : XK} (h : S6 φ vs H Q E) : vs.length = 6 := by
  match vs, h with
  | [_, _, _, _, _, _], _ => rfl
theorem S7.len {φ : V → V → V → V → V → V → V → Hp → VK → Prop} {vs : List V} {H : Hp} {Q : VK} {E : XK} (h : S7 φ vs H Q E) : vs.length = 7 := by
  match vs, h with
  | [_, _, _, _, _, _, _], _ => rfl
/-! ### a def as it stands, with its promise -/
structure DO (P : Program) (w : World) (K : PySem.W.Frag) (mg : Str → Option Value) (base : Heap) (k : Nat) (x : Str) (ps : List Str) (dvs : List V) (sp : Sp) : Prop where
  ex : ∃ (f : Addr) (fd : FuncData) (ds : List Value), FnOk P w K mg base CX0 k f fd ps sp ∧ mg x = some (.ref f) ∧ PySem.W.keepIn K (.ref f) = true ∧ Binds K fd ps ds ∧ Vals dvs ds
section
variable {X : Cx} {k j : Nat} {ps : List Str} {sp : Sp} {dvs : List V} {x : Str} {p pos : Pos} {e : Expr} {es : List Expr} {t : TA}
theorem pcall (D : DO X.prog X.w X.K X.mg X.base k x ps dvs sp) (hr : Room j X.A) (ha : PA X (e :: es) t) (hj : k ≤ j := by first | decide | exact Nat.le_refl _ | omega) (hg : Gl X x := by rfl) (hdb : (x == ("__debug__" : Str)) = false := by decide)
    (he : starEach (e :: es) X.env = (false, eval e X.env) :: starEach es X.env := by rfl) (hpl : (backTo pos (starEach es X.env)).any (·.1) = false := by rfl) :
    PE X (.Call (.Name x p) (e :: es) [] pos) (tCall sp dvs E0 t) := by
  obtain ⟨f, fd, ds, F, hm, hk, hb, hd⟩ := D.ex
  exact pe_call F (hr.mono hj) hg hm hk hb hd pass0 ha hdb he hpl
end
theorem recDO {P : Program} {w : World} {K : PySem.W.Frag} {mg : Str → Option Value} {base : Heap} {x : Str} {f : Addr} {fd : FuncData} {ps : List Str} {φ : Nat → Sp} (h0 : ∀ vs H Q E, φ 0 vs H Q E → False) (hm : mg x = some (.ref f)) (hk : PySem.W.keepIn K (.ref f) = true) (hb : Binds K fd ps [])
    (hs : ∀ n, DO P w K mg base n x ps [] (φ n) → FnOk P w K mg base CX0 (n + 1) f fd ps (φ (n + 1))) : ∀ n, DO P w K mg base n x ps [] (φ n)
  | 0 => ⟨f, fd, [], ⟨fun vs H Q E h => (h0 vs H Q E h).elim, fun A outer s H args us vs Q E _ _ _ _ h => (h0 vs H Q E h).elim⟩, hm, hk, hb, .nil⟩
  | n + 1 => ⟨f, fd, [], hs n (recDO h0 hm hk hb hs n), hm, hk, hb, .nil⟩
/-! ### calls with keywords -/
/-- the parameters' values: by place (0), by a keyword's place (1), by a default's place (2) -/
def pick {α : Type} (d : α) (tp : List (Nat × Nat)) (vs zs ds : List α) : List α := tp.map fun p => if p.1 = 0 then vs.getD p.2 d else if p.1 = 1 then zs.getD p.2 d else ds.getD p.2 d
theorem vals_getD : ∀ {vs : List V} {us : List Value} (i : Nat), Vals vs us → RelV (vs.getD i .non) (us.getD i .none)
  | _, _, _, .nil => rfl
  | _, _, 0, .cons r _ => r
  | _, _, i + 1, .cons _ t => by
    show RelV ((_ :: _ : List V).getD (i + 1) .non) ((_ :: _ : List Value).getD (i + 1) .none)
    rw [List.getD_cons_succ, List.getD_cons_succ]
    exact vals_getD i t
theorem pick_rel {vs zs ds : List V} {us ws es : List Value} (r1 : Vals vs us) (r2 : Vals zs ws) (r3 : Vals ds es) : ∀ tp : List (Nat × Nat), Vals (pick .non tp vs zs ds) (pick .none tp us ws es)
  | [] => .nil
  | p :: tp => .cons (by
      show RelV (if p.1 = 0 then vs.getD p.2 .non else if p.1 = 1 then zs.getD p.2 .non else ds.getD p.2 .non) (if p.1 = 0 then us.getD p.2 .none else if p.1 = 1 then ws.getD p.2 .none else es.getD p.2 .none)
      by_cases h0 : p.1 = 0
      · rw [if_pos h0, if_pos h0]
        exact vals_getD _ r1
      · rw [if_neg h0, if_neg h0]
        by_cases h1 : p.1 = 1
        · rw [if_pos h1, if_pos h1]
          exact vals_getD _ r2
        · rw [if_neg h1, if_neg h1]
          exact vals_getD _ r3) (pick_rel r1 r2 r3 tp)
theorem kbN {K : PySem.W.Frag} {x qual : Str} {params : Arguments} {body : List Stmt} {scope : Scope} {f : Addr} {fd : FuncData} {ps ks : List Str} {n : Nat} {tp : List (Nat × Nat)} (F : FunD K x qual params body scope [] [] f fd)
    (h : ∀ (kV doc pm : Value) (an : Option Addr) (cdv ct : Value) (us ws : List Value), us.length = n → ws.length = ks.length → bindArgs (PySem.W.fnOf x qual params body scope .none kV doc pm an cdv ct) ⟨us, ks.zip ws⟩ = pure (ps.zip (pick .none tp us ws []))) :
    KBn K fd ps n ks (fun us ws => pick .none tp us ws []) (fun vs zs => pick .non tp vs zs []) := by
  obtain ⟨oc, od, dV, kV, doc, pm, an, cdv, ct, osl, rfl, lk, hcd, hD, hK⟩ := F.ex
  rcases hD with ⟨_, rfl⟩ | ⟨e, _⟩
  · exact ⟨fun s us ws _ l1 l2 => .of_eq (h kV doc pm an cdv ct us ws l1 l2), fun r1 r2 => pick_rel r1 r2 .nil tp⟩
  · exact absurd rfl e
theorem pe_gint {X : Cx} {x : Str} {i : Int} {pos : Pos} (hg : Gl X x) (hm : ∃ t, X.mg x = some (.int i t)) (hd : (x == ("__debug__" : Str)) = false := by decide) : PE X (.Name x pos) (tC (.int i)) := by
  obtain ⟨t, h⟩ := hm
  exact pe_glob hg h ⟨_, rfl⟩ hd
/-! ### rules with the written part by its own name -/
section
variable {X : Cx} {K : PySem.W.Frag}
theorem ixL (h : X.K = K := by rfl) : IxR X (rIxL K) := by subst h; exact ix_list
theorem ixT (h : X.K = K := by rfl) : IxR X (rIxT K) := by subst h; exact ix_tup
theorem ixQ (h : X.K = K := by rfl) : IxR X (rIx K) := by subst h; exact ix_seq
theorem slL (h : X.K = K := by rfl) : SlR X (rSlL K) := by subst h; exact sl_list
theorem opEqD (A : X.A.units + 64 < cLine) (h : X.K = K := by rfl) : OpR X (compareOp .Eq) (rEqD K) := by subst h; exact op_eqD A
def rLenQ (K : PySem.W.Frag) : List V → Hp → VK → Prop := fun xs H Q => ∃ p ys, xs = [.ref p] ∧ (SqL K H p ys ∨ SqT K H p ys) ∧ Q (.int ys.length) H
def rListOf (K : PySem.W.Frag) : List V → Hp → VK → Prop := fun xs H Q => ∃ p ys, xs = [.ref p] ∧ (SqL K H p ys ∨ SqT K H p ys) ∧ ∀ l, H l = none → Q (.ref l) (upd H l (.lst ys))
def rLenS : List V → Hp → VK → Prop := fun xs H Q => ∃ z, xs = [.str z] ∧ z.length ≤ sizeLine ∧ Q (.int z.length) H
def rInt1 : List V → Hp → VK → Prop := fun xs H Q => (∃ i, xs = [.int i] ∧ Q (.int i) H) ∨ ∃ k, xs = [.bl k] ∧ Q (.int (if k then 1 else 0)) H
def rAbs : List V → Hp → VK → Prop := fun xs H Q => ∃ i, xs = [.int i] ∧ Q (.int (if i < 0 then -i else i)) H
def rMin2 : List V → Hp → VK → Prop := fun xs H Q => ∃ i j, xs = [.int i, .int j] ∧ Q (.int (if j < i then j else i)) H
def rMax2 : List V → Hp → VK → Prop := fun xs H Q => ∃ i j, xs = [.int i, .int j] ∧ Q (.int (if j > i then j else i)) H
theorem clLenQ (h : X.K = K := by rfl) : CallR X (.builtin "len") (rLenQ K) := by subst h; exact call_len_seq
theorem clLenS : CallR X (.builtin "len") rLenS := call_len_str
theorem clListOf (h : X.K = K := by rfl) : CallR X (.type "list") (rListOf K) := by subst h; exact call_list_of
theorem clInt1 : CallR X (.type "int") rInt1 := call_int1
theorem clAbs : CallR X (.builtin "abs") rAbs := call_abs
theorem clMin2 (hc : X.calm = true := by rfl) : CallR X (.builtin "min") rMin2 := call_min2 hc
theorem clMax2 (hc : X.calm = true := by rfl) : CallR X (.builtin "max") rMax2 := call_max2 hc
theorem clAll (hc : X.calm = true := by rfl) (h : X.K = K := by rfl) : CallR X (.builtin "all") (rAll K) := by subst h; exact cr_all hc
theorem clIsi (h : X.K = K := by rfl) : CallR X (.builtin "isinstance") (rIsi K) := by subst h; exact call_isi
theorem clIsiT (h : X.K = K := by rfl) : CallR X (.builtin "isinstance") (rIsiT K) := by subst h; exact call_isiT
def tTruth (K : PySem.W.Frag) (ta : TE) : TT := fun σ H Q => ta σ H fun x H' => ∃ k, TruV K x H' k ∧ Q k H'
variable {o e : Expr} {es : List Expr} {to te : TE} {t : TA} {name : Str} {apos cpos : Pos} {T id : String} {r : V → List V → Hp → VK → Prop}
theorem peBM0 (pa : PlainAttrs T) (slot : Slot T name id) (hty : typeOf (.builtin id) = pure (.type "method_descriptor")) (hm : MtR X id r) (ho : PE X o to) (h : X.K = K := by rfl)
    (hbase : attributeBase o name X.env (eval o X.env) = eval o X.env := by rfl) (hline : (apos.endLine == cpos.line) = true := by rfl) : PE X (.Call (.Attribute o name apos) [] [] cpos) (tBM0 K T r to) := by
  subst h
  exact pe_bm0 pa slot hty hm ho hbase hline
theorem peBM (pa : PlainAttrs T) (slot : Slot T name id) (hty : typeOf (.builtin id) = pure (.type "method_descriptor")) (hm : MtR X id r) (ho : PE X o to) (ha : PA X (e :: es) t) (h : X.K = K := by rfl)
    (hbase : attributeBase o name X.env (eval o X.env) = eval o X.env := by rfl)
    (hfew : ((backTo cpos (starEach (e :: es) X.env)).all (fun x => !x.1) && (backToKw cpos (keywordEach [] X.env)).all (fun x => x.1.isSome)
      && decide ((e :: es).length + ([] : List Keyword).length + (if ([] : List Keyword).isEmpty then 0 else 1) < 30)) = true := by rfl)
    (hline : (apos.endLine == cpos.line) = true := by rfl) (hs : starEach (e :: es) X.env = (false, eval e X.env) :: starEach es X.env := by rfl) (hplain : (backTo cpos (starEach es X.env)).any (·.1) = false := by rfl) :
    PE X (.Call (.Attribute o name apos) (e :: es) [] cpos) (tBM K T r to t) := by
  subst h
  exact pe_bm pa slot hty hm ho ha hbase hfew hline hs hplain
def rJoin (K : PySem.W.Frag) : V → List V → Hp → VK → Prop := fun x xs H Q => ∃ a p, ∃ ys : List Str, x = .str a ∧ xs = [.ref p] ∧ (SqL K H p (ys.map V.str) ∨ SqT K H p (ys.map V.str)) ∧
      (ys.map (·.length)).sum + ys.length * a.length ≤ 16777216 ∧ Q (.str (Txt.join a ys)) H
theorem peJoin (ho : PE X o to) (he : PE X e te) (h : X.K = K := by rfl) (hs : starEach [e] X.env = [(false, eval e X.env)] := by rfl) (hbase : attributeBase o "join" X.env (eval o X.env) = eval o X.env := by rfl) (hline : (apos.endLine == cpos.line) = true := by rfl) :
    PE X (.Call (.Attribute o "join" apos) [e] [] cpos) (tM1 (rJoin K) to te) := by
  subst h
  exact pe_join ho he hs hbase hline
theorem peFld {f : Str} {pos : Pos} (he : PE X o to) (h : X.K = K := by rfl) (hb : attributeBase o f X.env (eval o X.env) = eval o X.env := by rfl) : PE X (.Attribute o f pos) (tFld K to f) := by
  subst h
  exact pe_fld he hb
end
/-! ### steps of a reading -/
section
variable {K : PySem.W.Frag} {σ : L2.St} {H : Hp} {Q : VK} {ta tb te : TE} {x y v : V} {nx bk ct : L2.St → Hp → Prop} {rt : VK}
-- slots
section
variable {a0 a1 a2 a3 a4 a5 a6 a7 a8 a9 a10 a11 a12 a13 : Option V} {r : L2.St}
theorem w_v0 (q : Q v H) : tVar 0 (some v :: r) H Q := ⟨v, rfl, q⟩
instance : Step (tVar 0 (some v :: r) H Q) (Q v H) := ⟨w_v0⟩ -- st
theorem w_v1 (q : Q v H) : tVar 1 (a0 :: some v :: r) H Q := ⟨v, rfl, q⟩
instance : Step (tVar 1 (a0 :: some v :: r) H Q) (Q v H) := ⟨w_v1⟩ -- st
theorem w_v2 (q : Q v H) : tVar 2 (a0 :: a1 :: some v :: r) H Q := ⟨v, rfl, q⟩
instance : Step (tVar 2 (a0 :: a1 :: some v :: r) H Q) (Q v H) := ⟨w_v2⟩ -- st
theorem w_v3 (q : Q v H) : tVar 3 (a0 :: a1 :: a2 :: some v :: r) H Q := ⟨v, rfl, q⟩
instance : Step (tVar 3 (a0 :: a1 :: a2 :: some v :: r) H Q) (Q v H) := ⟨w_v3⟩ -- st
theorem w_v4 (q : Q v H) : tVar 4 (a0 :: a1 :: a2 :: a3 :: some v :: r) H Q := ⟨v, rfl, q⟩
instance : Step (tVar 4 (a0 :: a1 :: a2 :: a3 :: some v :: r) H Q) (Q v H) := ⟨w_v4⟩ -- st
theorem w_v5 (q : Q v H) : tVar 5 (a0 :: a1 :: a2 :: a3 :: a4 :: some v :: r) H Q := ⟨v, rfl, q⟩
instance : Step (tVar 5 (a0 :: a1 :: a2 :: a3 :: a4 :: some v :: r) H Q) (Q v H) := ⟨w_v5⟩ -- st
theorem w_v6 (q : Q v H) : tVar 6 (a0 :: a1 :: a2 :: a3 :: a4 :: a5 :: some v :: r) H Q := ⟨v, rfl, q⟩
instance : Step (tVar 6 (a0 :: a1 :: a2 :: a3 :: a4 :: a5 :: some v :: r) H Q) (Q v H) := ⟨w_v6⟩ -- st
theorem w_v7 (q : Q v H) : tVar 7 (a0 :: a1 :: a2 :: a3 :: a4 :: a5 :: a6 :: some v :: r) H Q := ⟨v, rfl, q⟩
instance : Step (tVar 7 (a0 :: a1 :: a2 :: a3 :: a4 :: a5 :: a6 :: some v :: r) H Q) (Q v H) := ⟨w_v7⟩ -- st
theorem w_v8 (q : Q v H) : tVar 8 (a0 :: a1 :: a2 :: a3 :: a4 :: a5 :: a6 :: a7 :: some v :: r) H Q := ⟨v, rfl, q⟩
instance : Step (tVar 8 (a0 :: a1 :: a2 :: a3 :: a4 :: a5 :: a6 :: a7 :: some v :: r) H Q) (Q v H) := ⟨w_v8⟩ -- st
theorem w_v9 (q : Q v H) : tVar 9 (a0 :: a1 :: a2 :: a3 :: a4 :: a5 :: a6 :: a7 :: a8 :: some v :: r) H Q := ⟨v, rfl, q⟩
instance : Step (tVar 9 (a0 :: a1 :: a2 :: a3 :: a4 :: a5 :: a6 :: a7 :: a8 :: some v :: r) H Q) (Q v H) := ⟨w_v9⟩ -- st
theorem w_v10 (q : Q v H) : tVar 10 (a0 :: a1 :: a2 :: a3 :: a4 :: a5 :: a6 :: a7 :: a8 :: a9 :: some v :: r) H Q := ⟨v, rfl, q⟩
instance : Step (tVar 10 (a0 :: a1 :: a2 :: a3 :: a4 :: a5 :: a6 :: a7 :: a8 :: a9 :: some v :: r) H Q) (Q v H) := ⟨w_v10⟩ -- st
theorem w_v11 (q : Q v H) : tVar 11 (a0 :: a1 :: a2 :: a3 :: a4 :: a5 :: a6 :: a7 :: a8 :: a9 :: a10 :: some v :: r) H Q := ⟨v, rfl, q⟩
instance : Step (tVar 11 (a0 :: a1 :: a2 :: a3 :: a4 :: a5 :: a6 :: a7 :: a8 :: a9 :: a10 :: some v :: r) H Q) (Q v H) := ⟨w_v11⟩ -- st
theorem w_v12 (q : Q v H) : tVar 12 (a0 :: a1 :: a2 :: a3 :: a4 :: a5 :: a6 :: a7 :: a8 :: a9 :: a10 :: a11 :: some v :: r) H Q := ⟨v, rfl, q⟩
instance : Step (tVar 12 (a0 :: a1 :: a2 :: a3 :: a4 :: a5 :: a6 :: a7 :: a8 :: a9 :: a10 :: a11 :: some v :: r) H Q) (Q v H) := ⟨w_v12⟩ -- st
theorem w_v13 (q : Q v H) : tVar 13 (a0 :: a1 :: a2 :: a3 :: a4 :: a5 :: a6 :: a7 :: a8 :: a9 :: a10 :: a11 :: a12 :: some v :: r) H Q := ⟨v, rfl, q⟩
instance : Step (tVar 13 (a0 :: a1 :: a2 :: a3 :: a4 :: a5 :: a6 :: a7 :: a8 :: a9 :: a10 :: a11 :: a12 :: some v :: r) H Q) (Q v H) := ⟨w_v13⟩ -- st
variable {N : L2.St → Hp → Prop}
theorem w_n0 (q : N (some v :: r) H) : gName 0 v (a0 :: r) H N := q
instance : Step (gName 0 v (a0 :: r) H N) (N (some v :: r) H) := ⟨w_n0⟩ -- st
theorem w_n1 (q : N (a0 :: some v :: r) H) : gName 1 v (a0 :: a1 :: r) H N := q
instance : Step (gName 1 v (a0 :: a1 :: r) H N) (N (a0 :: some v :: r) H) := ⟨w_n1⟩ -- st
theorem w_n2 (q : N (a0 :: a1 :: some v :: r) H) : gName 2 v (a0 :: a1 :: a2 :: r) H N := q
instance : Step (gName 2 v (a0 :: a1 :: a2 :: r) H N) (N (a0 :: a1 :: some v :: r) H) := ⟨w_n2⟩ -- st
theorem w_n3 (q : N (a0 :: a1 :: a2 :: some v :: r) H) : gName 3 v (a0 :: a1 :: a2 :: a3 :: r) H N := q
instance : Step (gName 3 v (a0 :: a1 :: a2 :: a3 :: r) H N) (N (a0 :: a1 :: a2 :: some v :: r) H) := ⟨w_n3⟩ -- st
theorem w_n4 (q : N (a0 :: a1 :: a2 :: a3 :: some v :: r) H) : gName 4 v (a0 :: a1 :: a2 :: a3 :: a4 :: r) H N := q
instance : Step (gName 4 v (a0 :: a1 :: a2 :: a3 :: a4 :: r) H N) (N (a0 :: a1 :: a2 :: a3 :: some v :: r) H) := ⟨w_n4⟩ -- st
theorem w_n5 (q : N (a0 :: a1 :: a2 :: a3 :: a4 :: some v :: r) H) : gName 5 v (a0 :: a1 :: a2 :: a3 :: a4 :: a5 :: r) H N := q
instance : Step (gName 5 v (a0 :: a1 :: a2 :: a3 :: a4 :: a5 :: r) H N) (N (a0 :: a1 :: a2 :: a3 :: a4 :: some v :: r) H) := ⟨w_n5⟩ -- st
theorem w_n6 (q : N (a0 :: a1 :: a2 :: a3 :: a4 :: a5 :: some v :: r) H) : gName 6 v (a0 :: a1 :: a2 :: a3 :: a4 :: a5 :: a6 :: r) H N := q
instance : Step (gName 6 v (a0 :: a1 :: a2 :: a3 :: a4 :: a5 :: a6 :: r) H N) (N (a0 :: a1 :: a2 :: a3 :: a4 :: a5 :: some v :: r) H) := ⟨w_n6⟩ -- st
theorem w_n7 (q : N (a0 :: a1 :: a2 :: a3 :: a4 :: a5 :: a6 :: some v :: r) H) : gName 7 v (a0 :: a1 :: a2 :: a3 :: a4 :: a5 :: a6 :: a7 :: r) H N := q
instance : Step (gName 7 v (a0 :: a1 :: a2 :: a3 :: a4 :: a5 :: a6 :: a7 :: r) H N) (N (a0 :: a1 :: a2 :: a3 :: a4 :: a5 :: a6 :: some v :: r) H) := ⟨w_n7⟩ -- st
theorem w_n8 (q : N (a0 :: a1 :: a2 :: a3 :: a4 :: a5 :: a6 :: a7 :: some v :: r) H) : gName 8 v (a0 :: a1 :: a2 :: a3 :: a4 :: a5 :: a6 :: a7 :: a8 :: r) H N := q
instance : Step (gName 8 v (a0 :: a1 :: a2 :: a3 :: a4 :: a5 :: a6 :: a7 :: a8 :: r) H N) (N (a0 :: a1 :: a2 :: a3 :: a4 :: a5 :: a6 :: a7 :: some v :: r) H) := ⟨w_n8⟩ -- st
theorem w_n9 (q : N (a0 :: a1 :: a2 :: a3 :: a4 :: a5 :: a6 :: a7 :: a8 :: some v :: r) H) : gName 9 v (a0 :: a1 :: a2 :: a3 :: a4 :: a5 :: a6 :: a7 :: a8 :: a9 :: r) H N := q
instance : Step (gName 9 v (a0 :: a1 :: a2 :: a3 :: a4 :: a5 :: a6 :: a7 :: a8 :: a9 :: r) H N) (N (a0 :: a1 :: a2 :: a3 :: a4 :: a5 :: a6 :: a7 :: a8 :: some v :: r) H) := ⟨w_n9⟩ -- st
theorem w_n10 (q : N (a0 :: a1 :: a2 :: a3 :: a4 :: a5 :: a6 :: a7 :: a8 :: a9 :: some v :: r) H) : gName 10 v (a0 :: a1 :: a2 :: a3 :: a4 :: a5 :: a6 :: a7 :: a8 :: a9 :: a10 :: r) H N := q
instance : Step (gName 10 v (a0 :: a1 :: a2 :: a3 :: a4 :: a5 :: a6 :: a7 :: a8 :: a9 :: a10 :: r) H N) (N (a0 :: a1 :: a2 :: a3 :: a4 :: a5 :: a6 :: a7 :: a8 :: a9 :: some v :: r) H) := ⟨w_n10⟩ -- st
theorem w_n11 (q : N (a0 :: a1 :: a2 :: a3 :: a4 :: a5 :: a6 :: a7 :: a8 :: a9 :: a10 :: some v :: r) H) : gName 11 v (a0 :: a1 :: a2 :: a3 :: a4 :: a5 :: a6 :: a7 :: a8 :: a9 :: a10 :: a11 :: r) H N := q
instance : Step (gName 11 v (a0 :: a1 :: a2 :: a3 :: a4 :: a5 :: a6 :: a7 :: a8 :: a9 :: a10 :: a11 :: r) H N) (N (a0 :: a1 :: a2 :: a3 :: a4 :: a5 :: a6 :: a7 :: a8 :: a9 :: a10 :: some v :: r) H) := ⟨w_n11⟩ -- st
theorem w_n12 (q : N (a0 :: a1 :: a2 :: a3 :: a4 :: a5 :: a6 :: a7 :: a8 :: a9 :: a10 :: a11 :: some v :: r) H) : gName 12 v (a0 :: a1 :: a2 :: a3 :: a4 :: a5 :: a6 :: a7 :: a8 :: a9 :: a10 :: a11 :: a12 :: r) H N := q
instance : Step (gName 12 v (a0 :: a1 :: a2 :: a3 :: a4 :: a5 :: a6 :: a7 :: a8 :: a9 :: a10 :: a11 :: a12 :: r) H N) (N (a0 :: a1 :: a2 :: a3 :: a4 :: a5 :: a6 :: a7 :: a8 :: a9 :: a10 :: a11 :: some v :: r) H) := ⟨w_n12⟩ -- st
theorem w_n13 (q : N (a0 :: a1 :: a2 :: a3 :: a4 :: a5 :: a6 :: a7 :: a8 :: a9 :: a10 :: a11 :: a12 :: some v :: r) H) : gName 13 v (a0 :: a1 :: a2 :: a3 :: a4 :: a5 :: a6 :: a7 :: a8 :: a9 :: a10 :: a11 :: a12 :: a13 :: r) H N := q
instance : Step (gName 13 v (a0 :: a1 :: a2 :: a3 :: a4 :: a5 :: a6 :: a7 :: a8 :: a9 :: a10 :: a11 :: a12 :: a13 :: r) H N) (N (a0 :: a1 :: a2 :: a3 :: a4 :: a5 :: a6 :: a7 :: a8 :: a9 :: a10 :: a11 :: a12 :: some v :: r) H) := ⟨w_n13⟩ -- st
end
-- expressions
theorem w_c (q : Q v H) : tC v σ H Q := q
instance : Step (tC v σ H Q) (Q v H) := ⟨w_c⟩ -- st
theorem w_op {r : R2} (q : ta σ H fun x H1 => tb σ H1 fun y H2 => r x y H2 Q) : tOp r ta tb σ H Q := q
instance {r : R2} : Step (tOp r ta tb σ H Q) (ta σ H fun x H1 => tb σ H1 fun y H2 => r x y H2 Q) := ⟨w_op⟩ -- st
theorem w_un {r : V → Hp → VK → Prop} (q : ta σ H fun x H1 => r x H1 Q) : tUn r ta σ H Q := q
instance {r : V → Hp → VK → Prop} : Step (tUn r ta σ H Q) (ta σ H fun x H1 => r x H1 Q) := ⟨w_un⟩ -- st
theorem w_add {i j : Int} (q : Q (.int (i + j)) H) : rI0 (fun i j => V.int (i + j)) (.int i) (.int j) H Q := ⟨i, j, rfl, rfl, q⟩
instance {i j : Int} : Step (rI0 (fun i j => V.int (i + j)) (.int i) (.int j) H Q) (Q (.int (i + j)) H) := ⟨w_add⟩ -- st
theorem w_subt {i j : Int} (q : Q (.int (i - j)) H) : rI0 (fun i j => V.int (i - j)) (.int i) (.int j) H Q := ⟨i, j, rfl, rfl, q⟩
instance {i j : Int} : Step (rI0 (fun i j => V.int (i - j)) (.int i) (.int j) H Q) (Q (.int (i - j)) H) := ⟨w_subt⟩ -- st
theorem w_lt {i j : Int} (q : Q (.bl (decide (i < j))) H) : rI0 (fun i j => V.bl (decide (i < j))) (.int i) (.int j) H Q := ⟨i, j, rfl, rfl, q⟩
instance {i j : Int} : Step (rI0 (fun i j => V.bl (decide (i < j))) (.int i) (.int j) H Q) (Q (.bl (decide (i < j))) H) := ⟨w_lt⟩ -- st
theorem w_le {i j : Int} (q : Q (.bl (decide (i ≤ j))) H) : rI0 (fun i j => V.bl (decide (i ≤ j))) (.int i) (.int j) H Q := ⟨i, j, rfl, rfl, q⟩
instance {i j : Int} : Step (rI0 (fun i j => V.bl (decide (i ≤ j))) (.int i) (.int j) H Q) (Q (.bl (decide (i ≤ j))) H) := ⟨w_le⟩ -- st
theorem w_gt {i j : Int} (q : Q (.bl (decide (j < i))) H) : rI0 (fun i j => V.bl (decide (j < i))) (.int i) (.int j) H Q := ⟨i, j, rfl, rfl, q⟩
instance {i j : Int} : Step (rI0 (fun i j => V.bl (decide (j < i))) (.int i) (.int j) H Q) (Q (.bl (decide (j < i))) H) := ⟨w_gt⟩ -- st
theorem w_ge {i j : Int} (q : Q (.bl (decide (j ≤ i))) H) : rI0 (fun i j => V.bl (decide (j ≤ i))) (.int i) (.int j) H Q := ⟨i, j, rfl, rfl, q⟩
instance {i j : Int} : Step (rI0 (fun i j => V.bl (decide (j ≤ i))) (.int i) (.int j) H Q) (Q (.bl (decide (j ≤ i))) H) := ⟨w_ge⟩ -- st
theorem w_mul {i j : Int} (c : CMul i j) (q : Q (.int (i * j)) H) : rI CMul (fun i j => V.int (i * j)) (.int i) (.int j) H Q := ⟨i, j, rfl, rfl, c, q⟩
instance {i j : Int} : SideK (rI CMul (fun i j => V.int (i * j)) (.int i) (.int j) H Q) 1 := ⟨⟩ -- st
theorem w_mod {i j : Int} (c : 0 < j) (q : Q (.int (i % j)) H) : rI (fun _ j => 0 < j) (fun i j => V.int (i % j)) (.int i) (.int j) H Q := ⟨i, j, rfl, rfl, c, q⟩
instance {i j : Int} : SideK (rI (fun _ j => 0 < j) (fun i j => V.int (i % j)) (.int i) (.int j) H Q) 1 := ⟨⟩ -- st
theorem w_fdiv {i j : Int} (c : CDivW i j) (q : Q (.int (i / j)) H) : rI CDivW (fun i j => V.int (i / j)) (.int i) (.int j) H Q := ⟨i, j, rfl, rfl, c, q⟩
instance {i j : Int} : SideK (rI CDivW (fun i j => V.int (i / j)) (.int i) (.int j) H Q) 1 := ⟨⟩ -- st
theorem w_pow {i j : Int} (c : CPow i j) (q : Q (.int (i ^ j.toNat)) H) : rI CPow (fun i j => V.int (i ^ j.toNat)) (.int i) (.int j) H Q := ⟨i, j, rfl, rfl, c, q⟩
instance {i j : Int} : SideK (rI CPow (fun i j => V.int (i ^ j.toNat)) (.int i) (.int j) H Q) 1 := ⟨⟩ -- st
theorem w_neg {i : Int} (q : Q (.int (-i)) H) : rU (fun i => V.int (-i)) (.int i) H Q := ⟨i, rfl, q⟩
instance {i : Int} : Step (rU (fun i => V.int (-i)) (.int i) H Q) (Q (.int (-i)) H) := ⟨w_neg⟩ -- st
def asInt (x : V) (H : Hp) (Z : Int → Hp → Prop) : Prop := ∃ i, x = .int i ∧ Z i H
def asBl (x : V) (H : Hp) (T : Bool → Hp → Prop) : Prop := ∃ k, x = .bl k ∧ T k H
theorem w_asInt {i : Int} {Z : Int → Hp → Prop} (q : Z i H) : asInt (.int i) H Z := ⟨i, rfl, q⟩
instance {i : Int} {Z : Int → Hp → Prop} : Step (asInt (.int i) H Z) (Z i H) := ⟨w_asInt⟩ -- st
theorem w_asBl {b : Bool} {T : Bool → Hp → Prop} (q : T b H) : asBl (.bl b) H T := ⟨b, rfl, q⟩
instance {b : Bool} {T : Bool → Hp → Prop} : Step (asBl (.bl b) H T) (T b H) := ⟨w_asBl⟩ -- st
theorem w_bits {to : TE} (q : to σ H fun x H1 => asInt x H1 fun i H2 => Q (.int (Builtin.Int.intBits i : Nat)) H2) : tBits to σ H Q := q
instance {to : TE} : Step (tBits to σ H Q) (to σ H fun x H1 => asInt x H1 fun i H2 => Q (.int (Builtin.Int.intBits i : Nat)) H2) := ⟨w_bits⟩ -- st
theorem w_eqI {i j : Int} (q : Q (.bl (decide (i = j))) H) : rEq (.int i) (.int j) H Q := ⟨rfl, by
  have e : decide (V.int i = V.int j) = decide (i = j) := by
    by_cases h : i = j
    · subst h; simp
    · rw [decide_eq_false h, decide_eq_false fun z => h (V.int.inj z)]
  rw [e]
  exact q⟩
instance {i j : Int} : Step (rEq (.int i) (.int j) H Q) (Q (.bl (decide (i = j))) H) := ⟨w_eqI⟩ -- st
theorem w_neI {i j : Int} (q : Q (.bl (!decide (i = j))) H) : rNe (.int i) (.int j) H Q := ⟨rfl, by
  have e : decide (V.int i = V.int j) = decide (i = j) := by
    by_cases h : i = j
    · subst h; simp
    · rw [decide_eq_false h, decide_eq_false fun z => h (V.int.inj z)]
  rw [e]
  exact q⟩
instance {i j : Int} : Step (rNe (.int i) (.int j) H Q) (Q (.bl (!decide (i = j))) H) := ⟨w_neI⟩ -- st
theorem w_eqS {a b : Str} (q : Q (.bl (decide (a = b))) H) : rEq (.str a) (.str b) H Q := ⟨rfl, by
  have e : decide (V.str a = V.str b) = decide (a = b) := by
    by_cases h : a = b
    · subst h; simp
    · rw [decide_eq_false h, decide_eq_false fun z => h (V.str.inj z)]
  rw [e]
  exact q⟩
instance {a b : Str} : Step (rEq (.str a) (.str b) H Q) (Q (.bl (decide (a = b))) H) := ⟨w_eqS⟩ -- st
theorem w_neS {a b : Str} (q : Q (.bl (!decide (a = b))) H) : rNe (.str a) (.str b) H Q := ⟨rfl, by
  have e : decide (V.str a = V.str b) = decide (a = b) := by
    by_cases h : a = b
    · subst h; simp
    · rw [decide_eq_false h, decide_eq_false fun z => h (V.str.inj z)]
  rw [e]
  exact q⟩
instance {a b : Str} : Step (rNe (.str a) (.str b) H Q) (Q (.bl (!decide (a = b))) H) := ⟨w_neS⟩ -- st
theorem w_eqB {a b : Bool} (q : Q (.bl (decide (a = b))) H) : rEq (.bl a) (.bl b) H Q := ⟨rfl, by
  have e : decide (V.bl a = V.bl b) = decide (a = b) := by
    by_cases h : a = b
    · subst h; simp
    · rw [decide_eq_false h, decide_eq_false fun z => h (V.bl.inj z)]
  rw [e]
  exact q⟩
instance {a b : Bool} : Step (rEq (.bl a) (.bl b) H Q) (Q (.bl (decide (a = b))) H) := ⟨w_eqB⟩ -- st
theorem w_neB {a b : Bool} (q : Q (.bl (!decide (a = b))) H) : rNe (.bl a) (.bl b) H Q := ⟨rfl, by
  have e : decide (V.bl a = V.bl b) = decide (a = b) := by
    by_cases h : a = b
    · subst h; simp
    · rw [decide_eq_false h, decide_eq_false fun z => h (V.bl.inj z)]
  rw [e]
  exact q⟩
instance {a b : Bool} : Step (rNe (.bl a) (.bl b) H Q) (Q (.bl (!decide (a = b))) H) := ⟨w_neB⟩ -- st
theorem w_isN (q : ta σ H fun x H1 => Q (.bl (decide (x = .non))) H1) : tIsN ta σ H Q := q
instance : Step (tIsN ta σ H Q) (ta σ H fun x H1 => Q (.bl (decide (x = .non))) H1) := ⟨w_isN⟩ -- st
theorem w_notN (q : ta σ H fun x H1 => Q (.bl (!decide (x = .non))) H1) : tNotN ta σ H Q := q
instance : Step (tNotN ta σ H Q) (ta σ H fun x H1 => Q (.bl (!decide (x = .non))) H1) := ⟨w_notN⟩ -- st
-- tests
section
variable {T : Bool → Hp → Prop} {t u : TT}
theorem w_test (q : te σ H fun x H1 => asBl x H1 T) : tTest te σ H T := q
instance : Step (tTest te σ H T) (te σ H fun x H1 => asBl x H1 T) := ⟨w_test⟩ -- st
theorem w_tB (q : te σ H fun x H1 => asBl x H1 T) : tB te σ H T := q
instance : Step (tB te σ H T) (te σ H fun x H1 => asBl x H1 T) := ⟨w_tB⟩ -- st
theorem w_and (q : t σ H fun c H1 => if c = true then u σ H1 T else T false H1) : tAnd t u σ H T := q
instance : Step (tAnd t u σ H T) (t σ H fun c H1 => if c = true then u σ H1 T else T false H1) := ⟨w_and⟩ -- st
theorem w_or (q : t σ H fun c H1 => if c = true then T true H1 else u σ H1 T) : tOr t u σ H T := q
instance : Step (tOr t u σ H T) (t σ H fun c H1 => if c = true then T true H1 else u σ H1 T) := ⟨w_or⟩ -- st
theorem w_not (q : t σ H fun c H1 => T (!c) H1) : tNot t σ H T := q
instance : Step (tNot t σ H T) (t σ H fun c H1 => T (!c) H1) := ⟨w_not⟩ -- st
theorem w_yes (q : T true H) : tYes σ H T := q
instance : Step (tYes σ H T) (T true H) := ⟨w_yes⟩ -- st
theorem w_if (q : t σ H fun c H1 => if c = true then ta σ H1 Q else tb σ H1 Q) : tIf t ta tb σ H Q := q
instance : Step (tIf t ta tb σ H Q) (t σ H fun c H1 => if c = true then ta σ H1 Q else tb σ H1 Q) := ⟨w_if⟩ -- st
theorem w_truth (q : ta σ H fun x H' => ∃ k, TruV K x H' k ∧ T k H') : tTruth K ta σ H T := q
instance : Step (tTruth K ta σ H T) (ta σ H fun x H' => ∃ k, TruV K x H' k ∧ T k H') := ⟨w_truth⟩ -- st
end
theorem w_andV (q : ta σ H fun x H1 => asBl x H1 fun c H2 => if c = true then tb σ H2 Q else Q (.bl false) H2) : tAndV ta tb σ H Q := q
instance : Step (tAndV ta tb σ H Q) (ta σ H fun x H1 => asBl x H1 fun c H2 => if c = true then tb σ H2 Q else Q (.bl false) H2) := ⟨w_andV⟩ -- st
theorem w_orV (q : ta σ H fun x H1 => asBl x H1 fun c H2 => if c = true then Q (.bl true) H2 else tb σ H2 Q) : tOrV ta tb σ H Q := q
instance : Step (tOrV ta tb σ H Q) (ta σ H fun x H1 => asBl x H1 fun c H2 => if c = true then Q (.bl true) H2 else tb σ H2 Q) := ⟨w_orV⟩ -- st
theorem w_notV (q : ta σ H fun x H1 => asBl x H1 fun c H2 => Q (.bl (!c)) H2) : tNotV ta σ H Q := q
instance : Step (tNotV ta σ H Q) (ta σ H fun x H1 => asBl x H1 fun c H2 => Q (.bl (!c)) H2) := ⟨w_notV⟩ -- st
-- arguments
theorem w_nil {L : List V → Hp → Prop} (q : L [] H) : tNil σ H L := q
instance {L : List V → Hp → Prop} : Step (tNil σ H L) (L [] H) := ⟨w_nil⟩ -- st
theorem w_cons {tr : TA} {L : List V → Hp → Prop} (q : ta σ H fun x H1 => tr σ H1 fun xs H2 => L (x :: xs) H2) : tCons ta tr σ H L := q
instance {tr : TA} {L : List V → Hp → Prop} : Step (tCons ta tr σ H L) (ta σ H fun x H1 => tr σ H1 fun xs H2 => L (x :: xs) H2) := ⟨w_cons⟩ -- st
theorem w_call {sp : Sp} {dvs : List V} {E : XK} {t : TA} (q : t σ H fun vs H1 => sp (vs ++ dvs) H1 Q E) : tCall sp dvs E t σ H Q := q
instance {sp : Sp} {dvs : List V} {E : XK} {t : TA} : Step (tCall sp dvs E t σ H Q) (t σ H fun vs H1 => sp (vs ++ dvs) H1 Q E) := ⟨w_call⟩ -- st
theorem w_callN {n m : Nat} {sp : Sp} {gV : List V → List V → List V} {E : XK} {t tk : TA} (q : t σ H fun vs H1 => tk σ H1 fun zs H2 => vs.length = n ∧ zs.length = m ∧ sp (gV vs zs) H2 Q E) : tCallN n m sp gV E t tk σ H Q := q
instance {n m : Nat} {sp : Sp} {gV : List V → List V → List V} {E : XK} {t tk : TA} : Step (tCallN n m sp gV E t tk σ H Q) (t σ H fun vs H1 => tk σ H1 fun zs H2 => vs.length = n ∧ zs.length = m ∧ sp (gV vs zs) H2 Q E) := ⟨w_callN⟩ -- st
theorem w_CB {r : List V → Hp → VK → Prop} {t : TA} (q : t σ H fun vs H1 => r vs H1 Q) : tCB r t σ H Q := q
instance {r : List V → Hp → VK → Prop} {t : TA} : Step (tCB r t σ H Q) (t σ H fun vs H1 => r vs H1 Q) := ⟨w_CB⟩ -- st
theorem w_tup {t : TA} (q : t σ H fun xs H1 => xs.length ≤ sizeLine ∧ ∀ p, H1 p = none → Q (.ref p) (upd H1 p (.tup xs))) : tTup t σ H Q := q
instance {t : TA} : StepO (tTup t σ H Q) (t σ H fun xs H1 => xs.length ≤ sizeLine ∧ ∀ p, H1 p = none → Q (.ref p) (upd H1 p (.tup xs))) := ⟨w_tup⟩ -- st
theorem w_lst {t : TA} (q : t σ H fun xs H1 => xs.length ≤ sizeLine ∧ ∀ p, H1 p = none → Q (.ref p) (upd H1 p (.lst xs))) : tLst t σ H Q := q
instance {t : TA} : StepO (tLst t σ H Q) (t σ H fun xs H1 => xs.length ≤ sizeLine ∧ ∀ p, H1 p = none → Q (.ref p) (upd H1 p (.lst xs))) := ⟨w_lst⟩ -- st
theorem w_sl {r : V → Option Int → Option Int → Hp → VK → Prop} {tl th : TO} (q : te σ H fun x H1 => tl σ H1 fun l H2 => th σ H2 fun u H3 => r x l u H3 Q) : tSl r te tl th σ H Q := q
instance {r : V → Option Int → Option Int → Hp → VK → Prop} {tl th : TO} : Step (tSl r te tl th σ H Q) (te σ H fun x H1 => tl σ H1 fun l H2 => th σ H2 fun u H3 => r x l u H3 Q) := ⟨w_sl⟩ -- st
theorem w_nop {Z : Option Int → Hp → Prop} (q : Z none H) : tNoPart σ H Z := q
instance {Z : Option Int → Hp → Prop} : Step (tNoPart σ H Z) (Z none H) := ⟨w_nop⟩ -- st
theorem w_part {Z : Option Int → Hp → Prop} (q : te σ H fun x H1 => asInt x H1 fun i H2 => Z (some i) H2) : tPart te σ H Z := q
instance {Z : Option Int → Hp → Prop} : Step (tPart te σ H Z) (te σ H fun x H1 => asInt x H1 fun i H2 => Z (some i) H2) := ⟨w_part⟩ -- st
theorem w_BM0 {T : String} {r : V → List V → Hp → VK → Prop} (q : ta σ H fun x H1 => tyV K T x H1 ∧ r x [] H1 Q) : tBM0 K T r ta σ H Q := q
instance {T : String} {r : V → List V → Hp → VK → Prop} : Step (tBM0 K T r ta σ H Q) (ta σ H fun x H1 => tyV K T x H1 ∧ r x [] H1 Q) := ⟨w_BM0⟩ -- st
theorem w_BM {T : String} {r : V → List V → Hp → VK → Prop} {t : TA} (q : ta σ H fun x H1 => tyV K T x H1 ∧ t σ H1 fun xs H2 => r x xs H2 Q) : tBM K T r ta t σ H Q := q
instance {T : String} {r : V → List V → Hp → VK → Prop} {t : TA} : Step (tBM K T r ta t σ H Q) (ta σ H fun x H1 => tyV K T x H1 ∧ t σ H1 fun xs H2 => r x xs H2 Q) := ⟨w_BM⟩ -- st
def asStr (x : V) (P : Prop) : Prop := (∃ a, x = .str a) ∧ P
theorem w_M0 {r : V → List V → Hp → VK → Prop} (q : ta σ H fun x H1 => asStr x (r x [] H1 Q)) : tM0 r ta σ H Q := q
instance {r : V → List V → Hp → VK → Prop} : Step (tM0 r ta σ H Q) (ta σ H fun x H1 => asStr x (r x [] H1 Q)) := ⟨w_M0⟩ -- st
theorem w_M1 {r : V → List V → Hp → VK → Prop} (q : ta σ H fun x H1 => asStr x (te σ H1 fun y H2 => r x [y] H2 Q)) : tM1 r ta te σ H Q := q
instance {r : V → List V → Hp → VK → Prop} : Step (tM1 r ta te σ H Q) (ta σ H fun x H1 => asStr x (te σ H1 fun y H2 => r x [y] H2 Q)) := ⟨w_M1⟩ -- st
theorem w_asStr {a : Str} {P : Prop} (q : P) : asStr (.str a) P := ⟨⟨a, rfl⟩, q⟩
instance {a : Str} {P : Prop} : Step (asStr (.str a) P) (P) := ⟨w_asStr⟩ -- st
theorem w_sub {to ti : TE} {t : TSet} {Z : L2.St → Hp → Prop} (q : to σ H fun o H1 => ti σ H1 fun i H2 => t o i v H2 fun H3 => Z σ H3) : gSub to ti t v σ H Z := q
instance {to ti : TE} {t : TSet} {Z : L2.St → Hp → Prop} : Step (gSub to ti t v σ H Z) (to σ H fun o H1 => ti σ H1 fun i H2 => t o i v H2 fun H3 => Z σ H3) := ⟨w_sub⟩ -- st
-- statements
section
variable {t u tbody : TS} {c : TT} {g : TG}
theorem w_seq (q : t ⟨u ⟨nx, rt, bk, ct⟩, rt, bk, ct⟩ σ H) : tSeq t u ⟨nx, rt, bk, ct⟩ σ H := q
instance : Step (tSeq t u ⟨nx, rt, bk, ct⟩ σ H) (t ⟨u ⟨nx, rt, bk, ct⟩, rt, bk, ct⟩ σ H) := ⟨w_seq⟩ -- st
theorem w_cut (Mid : L2.St → Hp → Prop) (h1 : t ⟨Mid, rt, bk, ct⟩ σ H) (h2 : ∀ σ' H', Mid σ' H' → u ⟨nx, rt, bk, ct⟩ σ' H') : C8.tCut t u ⟨nx, rt, bk, ct⟩ σ H := ⟨Mid, h1, h2⟩
theorem w_asg (q : te σ H fun x H1 => g x σ H1 nx) : tAsg te g ⟨nx, rt, bk, ct⟩ σ H := q
instance : Step (tAsg te g ⟨nx, rt, bk, ct⟩ σ H) (te σ H fun x H1 => g x σ H1 nx) := ⟨w_asg⟩ -- st
theorem w_ret (q : te σ H rt) : tRet te ⟨nx, rt, bk, ct⟩ σ H := q
instance : Step (tRet te ⟨nx, rt, bk, ct⟩ σ H) (te σ H rt) := ⟨w_ret⟩ -- st
theorem w_retN (q : rt .non H) : tRetN ⟨nx, rt, bk, ct⟩ σ H := q
instance : Step (tRetN ⟨nx, rt, bk, ct⟩ σ H) (rt .non H) := ⟨w_retN⟩ -- st
theorem w_drop (q : te σ H fun _ H1 => nx σ H1) : tDrop te ⟨nx, rt, bk, ct⟩ σ H := q
instance : Step (tDrop te ⟨nx, rt, bk, ct⟩ σ H) (te σ H fun _ H1 => nx σ H1) := ⟨w_drop⟩ -- st
theorem w_ifS (q : c σ H fun b H1 => if b = true then t ⟨nx, rt, bk, ct⟩ σ H1 else u ⟨nx, rt, bk, ct⟩ σ H1) : tIfS c t u ⟨nx, rt, bk, ct⟩ σ H := q
instance : Step (tIfS c t u ⟨nx, rt, bk, ct⟩ σ H) (c σ H fun b H1 => if b = true then t ⟨nx, rt, bk, ct⟩ σ H1 else u ⟨nx, rt, bk, ct⟩ σ H1) := ⟨w_ifS⟩ -- st
theorem w_nx (q : nx σ H) : tNext ⟨nx, rt, bk, ct⟩ σ H := q
instance : Step (tNext ⟨nx, rt, bk, ct⟩ σ H) (nx σ H) := ⟨w_nx⟩ -- st
theorem w_cont (q : ct σ H) : tCont ⟨nx, rt, bk, ct⟩ σ H := q
instance : Step (tCont ⟨nx, rt, bk, ct⟩ σ H) (ct σ H) := ⟨w_cont⟩ -- st
theorem w_brk (q : bk σ H) : tBreak ⟨nx, rt, bk, ct⟩ σ H := q
instance : Step (tBreak ⟨nx, rt, bk, ct⟩ σ H) (bk σ H) := ⟨w_brk⟩ -- st
theorem w_tgt {n : Nat} {ts : TGs} {Z : L2.St → Hp → Prop} {a : Addr} (xs : List V) (h : SqT K H a xs) (hn : xs.length = n) (q : ts xs σ H Z) : gTup K n ts (.ref a) σ H Z := ⟨a, xs, rfl, h, hn, q⟩
instance {n : Nat} {ts : TGs} {Z : L2.St → Hp → Prop} {a : Addr} : SideK (gTup K n ts (.ref a) σ H Z) 5 := ⟨⟩ -- st
theorem w_gc {ts : TGs} {xs : List V} {Z : L2.St → Hp → Prop} (q : g v σ H fun σ' H' => ts xs σ' H' Z) : gCons g ts (v :: xs) σ H Z := ⟨v, xs, rfl, q⟩
instance {ts : TGs} {xs : List V} {Z : L2.St → Hp → Prop} : Step (gCons g ts (v :: xs) σ H Z) (g v σ H fun σ' H' => ts xs σ' H' Z) := ⟨w_gc⟩ -- st
theorem w_gn {Z : L2.St → Hp → Prop} (q : Z σ H) : gNil [] σ H Z := ⟨rfl, q⟩
instance {Z : L2.St → Hp → Prop} : Step (gNil [] σ H Z) (Z σ H) := ⟨w_gn⟩ -- st
/-- for k in range(n), range(a, b) -/
theorem w_for {wi : TI} (q : wi σ H fun J H1 => ∃ W : Nat → Nat → L2.St → Hp → Prop, (∃ m, W 0 m σ H1) ∧ ∀ i m σ H, W i m σ H →
      (J.stop i H ∧ nx σ H) ∨ (J.go i H ∧ ∃ N : L2.St → Hp → Prop, (∀ σ' H', N σ' H' → ∃ m', m' < m ∧ W (i + 1) m' σ' H') ∧ ∀ x H', J.yld i H x H' → g x σ H' fun σ2 H2 => tbody ⟨N, rt, nx, N⟩ σ2 H2)) : tFor wi g tbody ⟨nx, rt, bk, ct⟩ σ H := q
instance {wi : TI} : StepO (tFor wi g tbody ⟨nx, rt, bk, ct⟩ σ H) (wi σ H fun J H1 => ∃ W : Nat → Nat → L2.St → Hp → Prop, (∃ m, W 0 m σ H1) ∧ ∀ i m σ H, W i m σ H → (J.stop i H ∧ nx σ H) ∨ (J.go i H ∧ ∃ N : L2.St → Hp → Prop, (∀ σ' H', N σ' H' → ∃ m', m' < m ∧ W (i + 1) m' σ' H') ∧ ∀ x H', J.yld i H x H' → g x σ H' fun σ2 H2 => tbody ⟨N, rt, nx, N⟩ σ2 H2)) := ⟨w_for⟩ -- st
end
theorem w_rng1 {t : TA} {R : It → Hp → Prop} (q : t σ H fun vs H1 => ∃ j : Int, vs = [.int j] ∧ -(2 ^ 62) ≤ j ∧ j < 2 ^ 62 ∧ R (Itr 0 j.toNat) H1) : iRng1 t σ H R := q
instance {t : TA} {R : It → Hp → Prop} : StepO (iRng1 t σ H R) (t σ H fun vs H1 => ∃ j : Int, vs = [.int j] ∧ -(2 ^ 62) ≤ j ∧ j < 2 ^ 62 ∧ R (Itr 0 j.toNat) H1) := ⟨w_rng1⟩ -- st
theorem w_rng2 {t : TA} {R : It → Hp → Prop} (q : t σ H fun vs H1 => ∃ i j : Int, vs = [.int i, .int j] ∧ (-(2 ^ 62) ≤ i ∧ i < 2 ^ 62 ∧ -(2 ^ 62) ≤ j ∧ j < 2 ^ 62) ∧ R (Itr i (j - i).toNat) H1) : iRng2 t σ H R := q
instance {t : TA} {R : It → Hp → Prop} : StepO (iRng2 t σ H R) (t σ H fun vs H1 => ∃ i j : Int, vs = [.int i, .int j] ∧ (-(2 ^ 62) ≤ i ∧ i < 2 ^ 62 ∧ -(2 ^ 62) ≤ j ∧ j < 2 ^ 62) ∧ R (Itr i (j - i).toNat) H1) := ⟨w_rng2⟩ -- st
theorem w_ilist {R : It → Hp → Prop} (q : te σ H fun x H1 => ∃ a, x = .ref a ∧ (∃ xs, SqL K H1 a xs) ∧ R (Itl K a) H1) : iList K te σ H R := q
instance {R : It → Hp → Prop} : StepO (iList K te σ H R) (te σ H fun x H1 => ∃ a, x = .ref a ∧ (∃ xs, SqL K H1 a xs) ∧ R (Itl K a) H1) := ⟨w_ilist⟩ -- st
theorem w_itup {R : It → Hp → Prop} (q : te σ H fun x H1 => ∃ a, x = .ref a ∧ (∃ xs, SqT K H1 a xs) ∧ R (Itt K a) H1) : iTup K te σ H R := q
instance {R : It → Hp → Prop} : StepO (iTup K te σ H R) (te σ H fun x H1 => ∃ a, x = .ref a ∧ (∃ xs, SqT K H1 a xs) ∧ R (Itt K a) H1) := ⟨w_itup⟩ -- st
theorem w_istr {R : It → Hp → Prop} (q : te σ H fun v H1 => ∃ x, v = .str x ∧ R (Its x) H1) : iStr te σ H R := q
instance {R : It → Hp → Prop} : StepO (iStr te σ H R) (te σ H fun v H1 => ∃ x, v = .str x ∧ R (Its x) H1) := ⟨w_istr⟩ -- st
theorem w_lc {wi : TI} {g : TG} {tt : TT} {vs : List Nat} (q : wi σ H fun J H1 => ∀ D, H1 D = none → ∃ W : Nat → Nat → Hp → Prop, (∃ m, W 0 m (upd H1 D (.lst []))) ∧ ∀ i m H, W i m H →
    (J.stop i H ∧ Q (.ref D) H) ∨ (J.go i H ∧ ∃ Nx : Hp → Prop, (∀ H', Nx H' → ∃ m', m' < m ∧ W (i + 1) m' H') ∧ ∀ x H', J.yld i H x H' → g x (wipe σ vs) H' fun σ2 H2 => wipe σ2 vs = wipe σ vs ∧ tt σ2 H2 fun b H3 =>
      if b = true then te σ2 H3 fun y H4 => ∃ acc, H4 D = some (.lst acc) ∧ acc.length < sizeLine ∧ Nx (upd H4 D (.lst (acc ++ [y]))) else Nx H3)) : tLc wi g tt te vs σ H Q := q
instance {wi : TI} {g : TG} {tt : TT} {vs : List Nat} : StepO (tLc wi g tt te vs σ H Q) (wi σ H fun J H1 => ∀ D, H1 D = none → ∃ W : Nat → Nat → Hp → Prop, (∃ m, W 0 m (upd H1 D (.lst []))) ∧ ∀ i m H, W i m H → (J.stop i H ∧ Q (.ref D) H) ∨ (J.go i H ∧ ∃ Nx : Hp → Prop, (∀ H', Nx H' → ∃ m', m' < m ∧ W (i + 1) m' H') ∧ ∀ x H', J.yld i H x H' → g x (wipe σ vs) H' fun σ2 H2 => wipe σ2 vs = wipe σ vs ∧ tt σ2 H2 fun b H3 => if b = true then te σ2 H3 fun y H4 => ∃ acc, H4 D = some (.lst acc) ∧ acc.length < sizeLine ∧ Nx (upd H4 D (.lst (acc ++ [y]))) else Nx H3)) := ⟨w_lc⟩ -- st
/-- a test that is open -/
theorem w_ite {p : Prop} [Decidable p] {A B : Prop} (h1 : p → A) (h2 : ¬ p → B) : if decide p = true then A else B := by
  by_cases h : p
  · rw [if_pos (decide_eq_true h)]
    exact h1 h
  · rw [if_neg (by simpa using h)]
    exact h2 h
theorem w_iteT {p : Prop} [Decidable p] {A B : Prop} (hp : p) (h1 : A) : if decide p = true then A else B := by
  rw [if_pos (decide_eq_true hp)]
  exact h1
instance {p : Prop} [Decidable p] {A B : Prop} : SideK (if decide p = true then A else B) 6 := ⟨⟩ -- st
theorem w_iteF {p : Prop} [Decidable p] {A B : Prop} (hp : ¬ p) (h2 : B) : if decide p = true then A else B := by
  rw [if_neg (by simpa using hp)]
  exact h2
theorem w_tt {A B : Prop} (h : A) : if true = true then A else B := by rw [if_pos rfl]; exact h
instance {A B : Prop} : Step (if true = true then A else B) (A) := ⟨w_tt⟩ -- st
theorem w_ff {A B : Prop} (h : B) : if false = true then A else B := by rw [if_neg Bool.false_ne_true]; exact h
instance {A B : Prop} : Step (if false = true then A else B) (B) := ⟨w_ff⟩ -- st
theorem w_ntt {A B : Prop} (h : B) : if (!true) = true then A else B := by rw [if_neg (by decide)]; exact h
instance {A B : Prop} : Step (if (!true) = true then A else B) (B) := ⟨w_ntt⟩ -- st
theorem w_nff {A B : Prop} (h : A) : if (!false) = true then A else B := by rw [if_pos (by rfl)]; exact h
instance {A B : Prop} : Step (if (!false) = true then A else B) (A) := ⟨w_nff⟩ -- st
/-- subscripts -/
theorem w_ixL {p : Addr} {i : Int} (xs : List V) (v : V) (h : SqL K H p xs) (a : atI xs i = some v) (q : Q v H) : rIxL K (.ref p) (.int i) H Q := ⟨p, xs, i, v, rfl, rfl, h, a, q⟩
instance {p : Addr} {i : Int} : SideK (rIxL K (.ref p) (.int i) H Q) 2 := ⟨⟩ -- st
theorem w_ixT {p : Addr} {i : Int} (xs : List V) (v : V) (h : SqT K H p xs) (a : atI xs i = some v) (q : Q v H) : rIxT K (.ref p) (.int i) H Q := ⟨p, xs, i, v, rfl, rfl, h, a, q⟩
instance {p : Addr} {i : Int} : SideK (rIxT K (.ref p) (.int i) H Q) 2 := ⟨⟩ -- st
theorem w_ixS {z : Str} {i : Int} {c : Nat} (h : z.length ≤ sizeLine) (a : atI z.cps.toList i = some c) (q : Q (.str ⟨#[c]⟩) H) : rIxS (.str z) (.int i) H Q := ⟨z, i, c, rfl, rfl, h, a, q⟩
theorem w_setL {p : Addr} {k : Int} {Z : Hp → Prop} (xs : List V) (j : Nat) (h : H p = some (.lst xs)) (a : ixN xs.length k = some j) (q : Z (upd H p (.lst (xs.set j v)))) : rSetL (.ref p) (.int k) v H Z := ⟨p, xs, k, j, rfl, rfl, h, a, q⟩
instance {p : Addr} {k : Int} {Z : Hp → Prop} : SideK (rSetL (.ref p) (.int k) v H Z) 3 := ⟨⟩ -- st
theorem w_b1 {p : Addr} (a0 a1 a2 a3 a4 : V) {Z : Hp → Prop} (h : H p = some (.lst [a0, a1, a2, a3, a4])) (q : Z (upd H p (.lst [a0, v, a2, a3, a4]))) : rSetL (.ref p) (.int 1) v H Z := ⟨p, _, 1, 1, rfl, rfl, h, rfl, q⟩
instance {p : Addr} {Z : Hp → Prop} : SideK (rSetL (.ref p) (.int 1) v H Z) 3 := ⟨⟩ -- st
theorem w_b2 {p : Addr} (a0 a1 a2 a3 a4 : V) {Z : Hp → Prop} (h : H p = some (.lst [a0, a1, a2, a3, a4])) (q : Z (upd H p (.lst [a0, a1, v, a3, a4]))) : rSetL (.ref p) (.int 2) v H Z := ⟨p, _, 2, 2, rfl, rfl, h, rfl, q⟩
theorem w_b3 {p : Addr} (a0 a1 a2 a3 a4 : V) {Z : Hp → Prop} (h : H p = some (.lst [a0, a1, a2, a3, a4])) (q : Z (upd H p (.lst [a0, a1, a2, v, a4]))) : rSetL (.ref p) (.int 3) v H Z := ⟨p, _, 3, 3, rfl, rfl, h, rfl, q⟩
theorem w_b4 {p : Addr} (a0 a1 a2 a3 a4 : V) {Z : Hp → Prop} (h : H p = some (.lst [a0, a1, a2, a3, a4])) (q : Z (upd H p (.lst [a0, a1, a2, a3, v]))) : rSetL (.ref p) (.int 4) v H Z := ⟨p, _, 4, 4, rfl, rfl, h, rfl, q⟩
theorem w_app {l : Addr} (xs : List V) (h : H l = some (.lst xs)) (hn : xs.length < sizeLine) (q : Q .non (upd H l (.lst (xs ++ [y])))) : rAppend (.ref l) [y] H Q := ⟨l, xs, y, rfl, rfl, h, hn, q⟩
instance {l : Addr} : SideK (rAppend (.ref l) [y] H Q) 3 := ⟨⟩ -- st
theorem w_tyL {l : Addr} {P : Prop} (xs : List V) (h : SqL K H l xs) (q : P) : tyV K "list" (.ref l) H ∧ P := ⟨.inl ⟨rfl, _, h⟩, q⟩
instance {l : Addr} {P : Prop} : SideK (tyV K "list" (.ref l) H ∧ P) 2 := ⟨⟩ -- st
theorem w_lenQ {p : Addr} (xs : List V) (h : SqL K H p xs) (q : Q (.int xs.length) H) : rLenQ K [.ref p] H Q := ⟨p, xs, rfl, .inl h, q⟩
instance {p : Addr} : SideK (rLenQ K [.ref p] H Q) 2 := ⟨⟩ -- st
theorem w_lenQT {p : Addr} (xs : List V) (h : SqT K H p xs) (q : Q (.int xs.length) H) : rLenQ K [.ref p] H Q := ⟨p, xs, rfl, .inr h, q⟩
theorem w_lenS {z : Str} (h : z.length ≤ sizeLine) (q : Q (.int z.length) H) : rLenS [.str z] H Q := ⟨z, rfl, h, q⟩
instance {z : Str} : SideK (rLenS [.str z] H Q) 2 := ⟨⟩ -- st
theorem w_listOf {p : Addr} (xs : List V) (h : SqL K H p xs) (q : ∀ l, H l = none → Q (.ref l) (upd H l (.lst xs))) : rListOf K [.ref p] H Q := ⟨p, xs, rfl, .inl h, q⟩
instance {p : Addr} : SideK (rListOf K [.ref p] H Q) 3 := ⟨⟩ -- st
theorem w_int1 {i : Int} (q : Q (.int i) H) : rInt1 [.int i] H Q := .inl ⟨i, rfl, q⟩
instance {i : Int} : Step (rInt1 [.int i] H Q) (Q (.int i) H) := ⟨w_int1⟩ -- st
theorem w_int1b {b : Bool} (q : Q (.int (if b then 1 else 0)) H) : rInt1 [.bl b] H Q := .inr ⟨b, rfl, q⟩
instance {b : Bool} : Step (rInt1 [.bl b] H Q) (Q (.int (if b then 1 else 0)) H) := ⟨w_int1b⟩ -- st
theorem w_abs {i : Int} (q : Q (.int (if i < 0 then -i else i)) H) : rAbs [.int i] H Q := ⟨i, rfl, q⟩
instance {i : Int} : Step (rAbs [.int i] H Q) (Q (.int (if i < 0 then -i else i)) H) := ⟨w_abs⟩ -- st
theorem w_min2 {i j : Int} (q : Q (.int (if j < i then j else i)) H) : rMin2 [.int i, .int j] H Q := ⟨i, j, rfl, q⟩
instance {i j : Int} : Step (rMin2 [.int i, .int j] H Q) (Q (.int (if j < i then j else i)) H) := ⟨w_min2⟩ -- st
theorem w_max2 {i j : Int} (q : Q (.int (if j > i then j else i)) H) : rMax2 [.int i, .int j] H Q := ⟨i, j, rfl, q⟩
instance {i j : Int} : Step (rMax2 [.int i, .int j] H Q) (Q (.int (if j > i then j else i)) H) := ⟨w_max2⟩ -- st
theorem w_min3 {i j k : Int} (q : Q (.int (min (min i j) k)) H) : rNuC3 nuMin3 [.int i, .int j, .int k] H Q := by
  refine ⟨.int i, .int j, .int k, .int (min (min i j) k), rfl, ?_, q⟩
  have e1 : nuMin2 (.int i) (.int j) = some (.int (min i j)) := by
    show some (if decide (j < i) = true then V.int j else V.int i) = _
    by_cases h : j < i
    · rw [if_pos (decide_eq_true h)]
      congr 2
      omega
    · rw [if_neg (by simpa using h)]
      congr 2
      omega
  have e2 : nuMin2 (.int (min i j)) (.int k) = some (.int (min (min i j) k)) := by
    show some (if decide (k < min i j) = true then V.int k else V.int (min i j)) = _
    by_cases h : k < min i j
    · rw [if_pos (decide_eq_true h)]
      congr 2
      omega
    · rw [if_neg (by simpa using h)]
      congr 2
      omega
  show (nuMin2 (.int i) (.int j)).bind (fun m => nuMin2 m (.int k)) = _
  rw [e1]
  exact e2
instance {i j k : Int} : Step (rNuC3 nuMin3 [.int i, .int j, .int k] H Q) (Q (.int (min (min i j) k)) H) := ⟨w_min3⟩ -- st
theorem w_slL {p : Addr} {lo hi : Option Int} (xs : List V) (h : SqL K H p xs) (q : ∀ l, H l = none → Q (.ref l) (upd H l (.lst (cutV xs lo hi)))) : rSlL K (.ref p) lo hi H Q := ⟨p, xs, rfl, h, q⟩
instance {p : Addr} {lo hi : Option Int} : SideK (rSlL K (.ref p) lo hi H Q) 3 := ⟨⟩ -- st
end
end R
namespace R
open PySem L2
/-! ### the bag of a law: its cells (never changed), a place, what is left, the stirred number, a count -/
structure Bag (K : PySem.W.Frag) (F H : Hp) (b : Addr) : Prop where
  ex : ∃ (c : Addr) (cells : List Int) (i cur st n : Int), F b = none ∧ H b = some (.lst [.ref c, .int i, .int cur, .int st, .int n]) ∧ SqL K F c (cells.map V.int) ∧ cells.length ≤ 63 ∧
    (∀ x ∈ cells, 0 ≤ x ∧ x < 10 ^ 60) ∧ 0 ≤ i ∧ 0 ≤ cur ∧ cur < 10 ^ 60 ∧ 0 ≤ st ∧ st < 2147483647
theorem Bag.keep {K : PySem.W.Frag} {M : List Addr} {F H F2 H2 : Hp} {b : Addr} (g : Gr M F H F2 H2) (h : Bag K F H b) (hb : b ∉ M) : Bag K F2 H2 b := by
  obtain ⟨c, cells, i, cur, st, n, h1, h2, h3, h4⟩ := h.ex
  exact ⟨c, cells, i, cur, st, n, g.nw b (ne_none h2) h1, g.hh b _ hb h2, sqL_same g.ff h3, h4⟩
theorem Bag.ne_new {K : PySem.W.Frag} {F H : Hp} {b q : Addr} (h : Bag K F H b) (hq : H q = none) : b ≠ q := by
  obtain ⟨c, cells, i, cur, st, n, h1, h2, _⟩ := h.ex
  exact ne_of_none h2 hq
/-- a draw: a number from 0 on below n -/
def φdraw (K : PySem.W.Frag) : V → V → Hp → VK → Prop := fun x y H Q => ∃ (b : Addr) (m : Int) (F : Hp), x = .ref b ∧ y = .int m ∧ Same F H ∧ Bag K F H b ∧ 0 < m ∧ m < 2 ^ 200 ∧
  ∀ (r : Int) (F2 H2 : Hp), Gr [b] F H F2 H2 → Bag K F2 H2 b → 0 ≤ r → r < m → Q (.int r) H2
theorem u_draw {K : PySem.W.Frag} {b : Addr} {m : Int} {F H : Hp} {Q : VK} {E : XK} (w : Same F H) (hb : Bag K F H b) (h0 : 0 < m) (h1 : m < 2 ^ 200) (q : ∀ (r : Int) (F2 H2 : Hp), Gr [b] F H F2 H2 → Bag K F2 H2 b → 0 ≤ r → r < m → Q (.int r) H2) :
    S2 (φdraw K) ([.ref b, .int m] ++ []) H Q E := ⟨b, m, F, rfl, rfl, w, hb, h0, h1, q⟩
def φbag (K : PySem.W.Frag) : V → Hp → VK → Prop := fun x H Q => ∃ (a : Addr) (ns : List Int), x = .ref a ∧ SqL K H a (ns.map V.int) ∧ ns.length ≤ 63 ∧
  ∀ (b : Addr) (F2 H2 : Hp), Gr [] H H F2 H2 → Bag K F2 H2 b → Q (.ref b) H2
theorem bits_le {m : Int} (h0 : 0 < m) (h1 : m < 2 ^ 200) : (Builtin.Int.intBits m : Int) ≤ 200 := by
  have h : m.natAbs < 2 ^ 200 := by omega
  have e := PyProof.Rows.intBits_le h
  omega
theorem mod_nn {a b : Int} (h : 0 < b) : 0 ≤ a % b := Int.emod_nonneg a (by omega)
theorem mod_lt {a b : Int} (h : 0 < b) : a % b < b := Int.emod_lt_of_pos a h
theorem div_nn {a b : Int} (ha : 0 ≤ a) (hb : 0 < b) : 0 ≤ a / b := Int.ediv_nonneg ha (by omega)
theorem div_le' {a b : Int} (ha : 0 ≤ a) (hb : 0 < b) : a / b ≤ a := Int.ediv_le_self b ha
theorem log2_lt {j : Int} (h : j.natAbs < 2 ^ 8999) (h0 : 0 < j) : CDivW 0 j := by
  refine ⟨h0, ?_⟩
  have hp : j.natAbs ≠ 0 := by omega
  have := (Nat.log2_lt hp).mpr h
  omega
theorem divw_ok {i j : Int} (h0 : 0 < j) (h1 : j < 2 ^ 200) : CDivW i j := by
  refine ⟨h0, ?_⟩
  have hp : j.natAbs ≠ 0 := by omega
  have h : j.natAbs < 2 ^ 200 := by omega
  have := (Nat.log2_lt hp).mpr h
  omega
/-! ### loops by what holds at each turn -/
section
variable {K : PySem.W.Frag} {σ : L2.St} {H : Hp} {Q : VK} {nx bk ct : L2.St → Hp → Prop} {rt : VK} {g : TG} {tb : TS}
/-- what tFor asks of a range, by what holds ahead of turn i -/
theorem f_range {lo : Int} {n : Nat} (Pv : Nat → L2.St → Hp → Prop) (h0 : Pv 0 σ H) (hs : ∀ i σ H, i < n → Pv i σ H → g (.int (lo + i)) σ H fun σ2 H2 => tb ⟨Pv (i + 1), rt, nx, Pv (i + 1)⟩ σ2 H2) (hd : ∀ σ H, Pv n σ H → nx σ H) :
    ∃ W : Nat → Nat → L2.St → Hp → Prop, (∃ m, W 0 m σ H) ∧ ∀ i m σ H, W i m σ H →
      ((Itr lo n).stop i H ∧ nx σ H) ∨ ((Itr lo n).go i H ∧ ∃ N : L2.St → Hp → Prop, (∀ σ' H', N σ' H' → ∃ m', m' < m ∧ W (i + 1) m' σ' H') ∧ ∀ x H', (Itr lo n).yld i H x H' → g x σ H' fun σ2 H2 => tb ⟨N, rt, nx, N⟩ σ2 H2) := by
  refine ⟨fun i m σ H => m = n - i ∧ i ≤ n ∧ Pv i σ H, ⟨n, by simp, Nat.zero_le _, h0⟩, ?_⟩
  rintro i m σ H ⟨rfl, hi, p⟩
  by_cases hlt : i < n
  · refine .inr ⟨hlt, Pv (i + 1), fun σ' H' p' => ⟨n - (i + 1), by omega, rfl, hlt, p'⟩, fun x H' y => ?_⟩
    obtain ⟨e, y⟩ := y
    subst e y
    exact hs i σ _ hlt p
  · have e : i = n := by omega
    subst e
    exact .inl ⟨Nat.le_refl _, hd σ H p⟩
theorem f_range0 {n : Nat} (Pv : Nat → L2.St → Hp → Prop) (h0 : Pv 0 σ H) (hs : ∀ i σ H, i < n → Pv i σ H → g (.int (i : Int)) σ H fun σ2 H2 => tb ⟨Pv (i + 1), rt, nx, Pv (i + 1)⟩ σ2 H2) (hd : ∀ σ H, Pv n σ H → nx σ H) :
    ∃ W : Nat → Nat → L2.St → Hp → Prop, (∃ m, W 0 m σ H) ∧ ∀ i m σ H, W i m σ H →
      ((Itr 0 n).stop i H ∧ nx σ H) ∨ ((Itr 0 n).go i H ∧ ∃ N : L2.St → Hp → Prop, (∀ σ' H', N σ' H' → ∃ m', m' < m ∧ W (i + 1) m' σ' H') ∧ ∀ x H', (Itr 0 n).yld i H x H' → g x σ H' fun σ2 H2 => tb ⟨N, rt, nx, N⟩ σ2 H2) :=
  f_range Pv h0 (fun i σ H hi hp => by rw [Int.zero_add]; exact hs i σ H hi hp) hd
theorem f_list {a : Addr} {xs : List V} (Pv : Nat → L2.St → Hp → Prop) (h0 : Pv 0 σ H) (hl : ∀ i σ H, i ≤ xs.length → Pv i σ H → SqL K H a xs)
    (hs : ∀ i x σ H, xs[i]? = some x → Pv i σ H → g x σ H fun σ2 H2 => tb ⟨Pv (i + 1), rt, nx, Pv (i + 1)⟩ σ2 H2) (hd : ∀ σ H, Pv xs.length σ H → nx σ H) :
    ∃ W : Nat → Nat → L2.St → Hp → Prop, (∃ m, W 0 m σ H) ∧ ∀ i m σ H, W i m σ H →
      ((Itl K a).stop i H ∧ nx σ H) ∨ ((Itl K a).go i H ∧ ∃ N : L2.St → Hp → Prop, (∀ σ' H', N σ' H' → ∃ m', m' < m ∧ W (i + 1) m' σ' H') ∧ ∀ x H', (Itl K a).yld i H x H' → g x σ H' fun σ2 H2 => tb ⟨N, rt, nx, N⟩ σ2 H2) := by
  refine ⟨fun i m σ H => m = xs.length - i ∧ i ≤ xs.length ∧ Pv i σ H, ⟨xs.length, by simp, Nat.zero_le _, h0⟩, ?_⟩
  rintro i m σ H ⟨rfl, hi, p⟩
  have q := hl i σ H hi p
  by_cases hlt : i < xs.length
  · refine .inr ⟨⟨xs, xs[i], q, by simp [hlt]⟩, Pv (i + 1), fun σ' H' p' => ⟨xs.length - (i + 1), by omega, rfl, hlt, p'⟩, fun x H' y => ?_⟩
    obtain ⟨e, y⟩ := y
    subst e
    exact hs i x σ _ (y xs q) p
  · have e : i = xs.length := by omega
    subst e
    exact .inl ⟨⟨xs, q, Nat.le_refl _⟩, hd σ H p⟩
variable {tt : TT} {te : TE} {vs : List Nat} {D : Addr} {Qd : Hp → Prop}
theorem lc_rng {n : Nat} (Pv : Nat → Hp → Prop) (h0 : Pv 0 (upd H D (.lst []))) (hs : ∀ i H, i < n → Pv i H → g (.int (i : Int)) (wipe σ vs) H fun σ2 H2 => wipe σ2 vs = wipe σ vs ∧ tt σ2 H2 fun b H3 =>
      if b = true then te σ2 H3 fun y H4 => ∃ acc, H4 D = some (.lst acc) ∧ acc.length < sizeLine ∧ Pv (i + 1) (upd H4 D (.lst (acc ++ [y]))) else Pv (i + 1) H3) (hd : ∀ H, Pv n H → Qd H) :
    ∃ W : Nat → Nat → Hp → Prop, (∃ m, W 0 m (upd H D (.lst []))) ∧ ∀ i m H, W i m H →
      ((Itr 0 n).stop i H ∧ Qd H) ∨ ((Itr 0 n).go i H ∧ ∃ Nx : Hp → Prop, (∀ H', Nx H' → ∃ m', m' < m ∧ W (i + 1) m' H') ∧ ∀ x H', (Itr 0 n).yld i H x H' → g x (wipe σ vs) H' fun σ2 H2 => wipe σ2 vs = wipe σ vs ∧ tt σ2 H2 fun b H3 =>
        if b = true then te σ2 H3 fun y H4 => ∃ acc, H4 D = some (.lst acc) ∧ acc.length < sizeLine ∧ Nx (upd H4 D (.lst (acc ++ [y]))) else Nx H3) :=
  lc_range (lo := 0) Pv h0 (fun i H hi hp => by rw [Int.zero_add]; exact hs i H hi hp) hd
end
end R
namespace R
open PySem L2
theorem Gr.put {M : List Addr} {F0 H0 F H : Hp} {p : Addr} {o : HO} (g : Gr M F0 H0 F H) (h : F p = none) (hm : p ∈ M) : Gr M F0 H0 F (upd H p o) := g.trans (.wr g.fh h hm)
theorem Gr.add {M : List Addr} {F0 H0 F H : Hp} {p : Addr} {o : HO} (g : Gr M F0 H0 F H) (h : H p = none) : Gr M F0 H0 (upd F p o) (upd H p o) := g.trans (.im g.fh h)
theorem Gr.addm {M : List Addr} {F0 H0 F H : Hp} {p : Addr} {o : HO} (g : Gr M F0 H0 F H) (h : H p = none) : Gr M F0 H0 F (upd H p o) := g.trans (.new g.fh h)
theorem Gr.ws {M : List Addr} {F H F2 H2 : Hp} (g : Gr M F H F2 H2) : Same F H2 := g.ff.trans g.fh
theorem Gr.transN {M N : List Addr} {F H F1 H1 F2 H2 : Hp} (a : Gr M F H F1 H1) (b : Gr N F1 H1 F2 H2) (h : ∀ x ∈ N, x ∈ M ∨ H x = none) : Gr M F H F2 H2 :=
  ⟨a.ff.trans b.ff, b.fh, fun x o n e => b.hh x o (fun m => (h x m).elim n fun z => by rw [z] at e; cases e) (a.hh x o n e), fun x e => b.al x (a.al x e), fun x e n => b.nw x (a.al x e) (a.nw x e n)⟩
/-- back to a smaller part that stays -/
theorem Gr.back {M : List Addr} {F F' H F2 H2 : Hp} (g : Gr M F' H F2 H2) (s : Same F F') : Gr M F H F H2 := ⟨Same.refl F, (s.trans g.ff).trans g.fh, g.hh, g.al, fun _ _ n => n⟩
theorem Gr.fresh {M : List Addr} {F0 H0 F H : Hp} {p : Addr} (g : Gr M F0 H0 F H) (h : H p = none) : H0 p = none := by
  cases e : H0 p with
  | none => rfl
  | some o => exact absurd h (g.al p (ne_none e))
/-- an object that was new behind the start, and changes no more -/
theorem Gr.frz {M : List Addr} {F0 H0 F H : Hp} {p : Addr} {o : HO} (g : Gr M F0 H0 F H) (hn : H0 p = none) (m : Mu F H p o) : Gr M F0 H0 (upd F p o) H := by
  refine ⟨g.ff.trans (Same.new m.n), fun a u e => ?_, g.hh, g.al, fun a e n => ?_⟩
  · by_cases q : a = p
    · subst q
      rw [upd_same] at e
      exact m.h.trans e
    · rw [upd_ne q] at e
      exact g.fh a u e
  · have q : a ≠ p := fun z => by subst z; exact e hn
    rw [upd_ne q]
    exact g.nw a e n
theorem Mu.same {F H : Hp} {p : Addr} {o : HO} (m : Mu F H p o) (w : Same F H) : Same (upd F p o) H := fun a u e => by
  by_cases q : a = p
  · subst q
    rw [upd_same] at e
    exact m.h.trans e
  · rw [upd_ne q] at e
    exact w a u e
theorem Mu.frz {F H : Hp} {p q : Addr} {o u : HO} (m : Mu F H p o) (h : p ≠ q) : Mu (upd F q u) H p o := ⟨by rw [upd_ne h]; exact m.n, m.h⟩
theorem Bag.frz {K : PySem.W.Frag} {F H : Hp} {b q : Addr} {u : HO} (h : Bag K F H b) (hn : F q = none) (hq : b ≠ q) : Bag K (upd F q u) H b := by
  obtain ⟨c, cells, i, cur, st, n, h1, h2, h3, h4⟩ := h.ex
  exact ⟨c, cells, i, cur, st, n, by rw [upd_ne hq]; exact h1, h2, sqL_same (Same.new hn) h3, h4⟩
theorem Bag.put {K : PySem.W.Frag} {F H : Hp} {b q : Addr} {u : HO} (h : Bag K F H b) (hq : b ≠ q) : Bag K F (upd H q u) b := by
  obtain ⟨c, cells, i, cur, st, n, h1, h2, h3, h4⟩ := h.ex
  exact ⟨c, cells, i, cur, st, n, h1, by rw [upd_ne hq]; exact h2, h3, h4⟩
theorem Bag.addm {K : PySem.W.Frag} {F H : Hp} {b q : Addr} {u : HO} (h : Bag K F H b) (hq : H q = none) : Bag K F (upd H q u) b := h.put (h.ne_new hq)
theorem Bag.add {K : PySem.W.Frag} {F H : Hp} {b q : Addr} {u : HO} (w : Same F H) (h : Bag K F H b) (hq : H q = none) : Bag K (upd F q u) (upd H q u) b := (h.addm hq).frz (w.free hq) (h.ne_new hq)
theorem Mu.addm {F H : Hp} {p q : Addr} {o u : HO} (m : Mu F H p o) (hq : H q = none) : Mu F (upd H q u) p o := m.oth (m.ne_new hq)
theorem Mu.add {F H : Hp} {p q : Addr} {o u : HO} (m : Mu F H p o) (hq : H q = none) : Mu (upd F q u) (upd H q u) p o := (m.addm hq).frz (m.ne_new hq)
/-! ### data -/
theorem dpa_len {K : PySem.W.Frag} {F : Hp} : ∀ {vs : List V} {ds : List PyData}, DpAll K F vs ds → vs.length = ds.length
  | _, _, .nil => rfl
  | _, _, .cons _ t => congrArg (· + 1) (dpa_len t)
theorem dpa_get {K : PySem.W.Frag} {F : Hp} : ∀ {vs : List V} {ds : List PyData} {i : Nat} {d : PyData}, DpAll K F vs ds → ds[i]? = some d → ∃ v, vs[i]? = some v ∧ Dp K F v d
  | _, _, _, _, .nil, e => by simp at e
  | _, _, 0, _, .cons h _, e => by
    have e' := Option.some.inj e
    subst e'
    exact ⟨_, rfl, h⟩
  | _, _, i + 1, _, .cons _ t, e => dpa_get (i := i) t e
theorem dpa_app {K : PySem.W.Frag} {F : Hp} : ∀ {vs us : List V} {ds es : List PyData}, DpAll K F vs ds → DpAll K F us es → DpAll K F (vs ++ us) (ds ++ es)
  | _, _, _, _, .nil, h => h
  | _, _, _, _, .cons h t, u => .cons h (dpa_app t u)
theorem dpa_snoc {K : PySem.W.Frag} {F : Hp} {vs : List V} {ds : List PyData} {v : V} {d : PyData} (h : DpAll K F vs ds) (hd : Dp K F v d) : DpAll K F (vs ++ [v]) (ds ++ [d]) := dpa_app h (.cons hd .nil)
def tyD : PyData → String
  | .none => "NoneType" | .bool _ => "bool" | .int _ => "int" | .str _ => "str" | .list _ => "list" | .tuple _ => "tuple" | .dict _ => "dict"
theorem tyx_of {K : PySem.W.Frag} {F H : Hp} {x : V} {d : PyData} (h : Dp K F x d) (w : Same F H) : TyX K H x (.type (tyD d)) := by
  cases h with
  | non => exact .base .non
  | bl b => exact .base (.bl b)
  | int i => exact .base (.int i)
  | str s => exact .base (.str s)
  | lst hs _ =>
    rcases hs with (h | ⟨o, h⟩) | ⟨o, its, n, e1, e2, _⟩
    · exact .base (.lst (w _ _ h))
    · exact .base (.frz (w _ _ h))
    · exact .kList e1 e2
  | tup hs _ =>
    rcases hs with (h | ⟨o, h⟩) | ⟨o, its, n, e1, e2, _⟩
    · exact .base (.tup (w _ _ h))
    · exact .fTuple (w _ _ h)
    · exact .kTuple e1 e2
section
variable {K : PySem.W.Frag} {F H : Hp} {x y : V} {d : PyData} {Q : VK} {n m : String} {p : Addr}
theorem u_isi {b : Bool} (h : Dp K F x d) (w : Same F H) (e : kitB (tyD d) n = some b) (q : Q (.bl b) H) : rIsi K [x, .ty n] H Q :=
  ⟨x, .ty n, _, _, b, rfl, .ty n, tyx_of h w, kit_ty e, q⟩
theorem u_isiT {b c : Bool} (h : Dp K F x d) (w : Same F H) (hp : H p = some (.tup [.ty n, .ty m])) (e1 : kitB (tyD d) n = some b) (e2 : kitB (tyD d) m = some c) (q : Q (.bl (b || c)) H) : rIsiT K [x, .ref p] H Q := by
  refine ⟨x, p, _, _, _, b || c, rfl, hp, .cons (.ty n) (.cons (.ty m) .nil), tyx_of h w, ?_, q⟩
  refine kitAny_cons (kit_ty e1) (fun hb => ?_) (fun hb => by rw [hb]; rfl)
  refine kitAny_cons (kit_ty e2) (fun hc => ?_) (fun hc => by rw [hc]; simp)
  rw [hb, hc]
  exact kitAny_nil
end
/-- the answers of isinstance for data -/
def isSeq : PyData → Bool
  | .list _ | .tuple _ => true
  | _ => false
def isLst : PyData → Bool
  | .list _ => true
  | _ => false
def isTup : PyData → Bool
  | .tuple _ => true
  | _ => false
def isBol : PyData → Bool
  | .bool _ => true
  | _ => false
def isInt : PyData → Bool
  | .bool _ | .int _ => true
  | _ => false
def isStr : PyData → Bool
  | .str _ => true
  | _ => false
theorem k_list : ∀ d : PyData, kitB (tyD d) "list" = some (isLst d) := by intro d; cases d <;> simp only [tyD, isLst, isTup, isBol, isInt, isStr] <;> decide +kernel
theorem k_tuple : ∀ d : PyData, kitB (tyD d) "tuple" = some (isTup d) := by intro d; cases d <;> simp only [tyD, isLst, isTup, isBol, isInt, isStr] <;> decide +kernel
theorem k_bool : ∀ d : PyData, kitB (tyD d) "bool" = some (isBol d) := by intro d; cases d <;> simp only [tyD, isLst, isTup, isBol, isInt, isStr] <;> decide +kernel
theorem k_int : ∀ d : PyData, kitB (tyD d) "int" = some (isInt d) := by intro d; cases d <;> simp only [tyD, isLst, isTup, isBol, isInt, isStr] <;> decide +kernel
theorem k_str : ∀ d : PyData, kitB (tyD d) "str" = some (isStr d) := by intro d; cases d <;> simp only [tyD, isLst, isTup, isBol, isInt, isStr] <;> decide +kernel
def itemsD : PyData → List PyData
  | .list ds | .tuple ds => ds
  | _ => []
theorem seq_of {K : PySem.W.Frag} {F : Hp} {x : V} {d : PyData} (h : Dp K F x d) (s : isSeq d = true) : ∃ (a : Addr) (vs : List V), x = .ref a ∧ (SqL K F a vs ∨ SqT K F a vs) ∧ DpAll K F vs (itemsD d) := by
  cases h with
  | lst hs ha => exact ⟨_, _, rfl, .inl hs, ha⟩
  | tup hs ha => exact ⟨_, _, rfl, .inr hs, ha⟩
  | _ => cases s
theorem sca_of {K : PySem.W.Frag} {F : Hp} {x y : V} {d : PyData} (h : Dp K F x d) (h' : Dp K F y d) (s : isSeq d = false) : y = x ∧ scal x x = true := by
  cases h with
  | lst hs ha => cases s
  | tup hs ha => cases s
  | non => cases h'; exact ⟨rfl, rfl⟩
  | bl => cases h'; exact ⟨rfl, rfl⟩
  | int => cases h'; exact ⟨rfl, rfl⟩
  | str => cases h'; exact ⟨rfl, rfl⟩
theorem depth_item : ∀ {d e : PyData} {i : Nat}, isSeq d = true → (itemsD d)[i]? = some e → e.depth < d.depth := by
  have key : ∀ (ds : List PyData) (i : Nat) (e : PyData), ds[i]? = some e → e.depth ≤ PyData.depthAll ds := by
    intro ds
    induction ds with
    | nil => intro i e h; simp at h
    | cons d ds ih =>
      intro i e h
      cases i with
      | zero =>
        have e' := Option.some.inj h
        subst e'
        rw [PyData.depthAll]
        exact Nat.le_max_left _ _
      | succ i =>
        have := ih i e h
        rw [PyData.depthAll]
        exact Nat.le_trans this (Nat.le_max_right _ _)
  intro d e i s h
  cases d with
  | list ds => rw [PyData.depth]; exact Nat.lt_succ_of_le (key ds i e h)
  | tuple ds => rw [PyData.depth]; exact Nat.lt_succ_of_le (key ds i e h)
  | _ => cases s
section
variable {K : PySem.W.Frag} {H : Hp} {Q : VK} {v : V} {A B : Prop}
theorem w_ixQ {a : Addr} {i : Int} (vs : List V) (v : V) (h : SqL K H a vs ∨ SqT K H a vs) (e : atI vs i = some v) (q : Q v H) : rIx K (.ref a) (.int i) H Q := by
  rcases h with h | h
  · exact .inl ⟨a, vs, i, v, rfl, rfl, h, e, q⟩
  · exact .inr (.inl ⟨a, vs, i, v, rfl, rfl, h, e, q⟩)
theorem sq_same {F : Hp} {a : Addr} {vs : List V} (w : Same F H) (h : SqL K F a vs ∨ SqT K F a vs) : SqL K H a vs ∨ SqT K H a vs := h.elim (fun h => .inl (sqL_same w h)) fun h => .inr (sqT_same w h)
theorem w_nself {α : Type} [DecidableEq α] {a : α} (h : B) : if (!decide (a = a)) = true then A else B := by
  rw [if_neg (by simp)]
  exact h
instance {α : Type} [DecidableEq α] {a : α} : Step (if (!decide (a = a)) = true then A else B) (B) := ⟨w_nself⟩ -- st
theorem w_self {α : Type} [DecidableEq α] {a : α} (h : A) : if decide (a = a) = true then A else B := by
  rw [if_pos (by simp)]
  exact h
instance {α : Type} [DecidableEq α] {a : α} : Step (if decide (a = a) = true then A else B) (A) := ⟨w_self⟩ -- st
theorem w_is {b c : Bool} (e : b = c) (h : if c = true then A else B) : if b = true then A else B := by rw [e]; exact h
end
theorem le1000 {n : Nat} (h : n ≤ 1000) : n ≤ sizeLine := Nat.le_of_lt (small1000 h)
theorem small_lt {n : Nat} (h : n ≤ 1000000) : n < sizeLine := by rw [sizeLine_eq]; omega
theorem all_rep (n : Nat) : (List.replicate n true).all id = true := by
  induction n with
  | zero => rfl
  | succ n ih => rw [List.replicate_succ, List.all_cons, ih]; rfl
theorem szle {n : Nat} (h : n ≤ 1000000) : n ≤ sizeLine := Nat.le_of_lt (by rw [sizeLine_eq]; omega)
section
variable {K : PySem.W.Frag} {σ : L2.St} {H : Hp} {Q : VK} {ta : TE}
theorem w_lstRg {te : L2.St → Hp → (Int → Int → Hp → Prop) → Prop} (q : te σ H fun a b H1 => RgOk a b ∧ ∀ q, H1 q = none → Q (.ref q) (upd H1 q (.lst (rgV a b)))) : tLstRg te σ H Q := q
instance {te : L2.St → Hp → (Int → Int → Hp → Prop) → Prop} : StepO (tLstRg te σ H Q) (te σ H fun a b H1 => RgOk a b ∧ ∀ q, H1 q = none → Q (.ref q) (upd H1 q (.lst (rgV a b)))) := ⟨w_lstRg⟩ -- st
theorem w_rg1 {R : Int → Int → Hp → Prop} (q : ta σ H fun x H1 => asInt x H1 fun n H2 => R 0 n H2) : tRg1 ta σ H R := q
instance {R : Int → Int → Hp → Prop} : Step (tRg1 ta σ H R) (ta σ H fun x H1 => asInt x H1 fun n H2 => R 0 n H2) := ⟨w_rg1⟩ -- st
theorem w_revL (q : ta σ H fun x H1 => ∃ a xs, x = .ref a ∧ SqL K H1 a xs ∧ ∀ p, H1 p = none → Q (.ref p) (upd H1 p (.lst xs.reverse))) : tRevL K ta σ H Q := q
instance : StepO (tRevL K ta σ H Q) (ta σ H fun x H1 => ∃ a xs, x = .ref a ∧ SqL K H1 a xs ∧ ∀ p, H1 p = none → Q (.ref p) (upd H1 p (.lst xs.reverse))) := ⟨w_revL⟩ -- st
end
def nV (l : List Nat) : List V := l.map fun k => V.int (k : Nat)
theorem pick_ix {ns : List Int} {i lo hi : Int} (h0 : 0 ≤ i) (h1 : i < (ns.length : Int)) (hb : ∀ x ∈ ns, lo ≤ x ∧ x ≤ hi) : ∃ m, atI (ns.map V.int) i = some (.int m) ∧ lo ≤ m ∧ m ≤ hi := by
  have hi : i.toNat < ns.length := by omega
  refine ⟨ns[i.toNat], ?_, hb _ (List.getElem_mem hi)⟩
  refine at_of (j := i.toNat) (by omega) ?_
  rw [List.getElem?_map, List.getElem?_eq_getElem hi]
  rfl
theorem cell_at {cells : List Int} {i : Int} (h0 : 0 ≤ i) (h1 : i < ((cells.map V.int).length : Nat)) : ∃ x, x ∈ cells ∧ atI (cells.map V.int) i = some (.int x) := by
  rw [List.length_map] at h1
  have hi : i.toNat < cells.length := by omega
  refine ⟨cells[i.toNat], List.getElem_mem hi, ?_⟩
  refine at_of (j := i.toNat) (by omega) ?_
  rw [List.getElem?_map, List.getElem?_eq_getElem hi]
  rfl
theorem cut63 {ns : List Int} (h : ns.length ≤ 63) : cutV (ns.map V.int) none (some 63) = ns.map V.int := by
  unfold cutV
  rw [HT.sIx_none, show HT.sIx (ns.map V.int).length (ns.map V.int).length (some 63) = min 63 (ns.map V.int).length from HT.sIx_nat _ _ 63, List.drop_zero, List.length_map]
  refine List.take_of_length_le ?_
  rw [List.length_map]
  omega
theorem map_get {ns : List Int} {i : Nat} {x : V} (h : (ns.map V.int)[i]? = some x) : ∃ c, x = .int c := by
  rw [List.getElem?_map] at h
  cases e : ns[i]? with
  | none => rw [e] at h; cases h
  | some c =>
    rw [e] at h
    exact ⟨c, (Option.some.inj h).symm⟩
/-! data of modest size, no dicts, plain signs -/
mutual
def good : PyData → Bool
  | .none | .bool _ | .int _ => true
  | .str x => PyData.strOk x && decide (x.length ≤ 100000)
  | .list ds | .tuple ds => decide (ds.length ≤ 100000) && goodAll ds
  | .dict _ => false
def goodAll : List PyData → Bool
  | [] => true
  | d :: ds => good d && goodAll ds
end
theorem goodAll_iff : ∀ {ds : List PyData}, goodAll ds = true ↔ ∀ d ∈ ds, good d = true
  | [] => by simp [goodAll]
  | d :: ds => by simp [goodAll, goodAll_iff (ds := ds)]
mutual
theorem lay_good : ∀ d : PyData, good d = true → d.canLay0 = true
  | .none, _ => rfl
  | .bool _, _ => rfl
  | .int _, _ => rfl
  | .str x, h => by
    rw [good, Bool.and_eq_true] at h
    exact h.1
  | .list ds, h => by
    rw [good, Bool.and_eq_true] at h
    exact lay_goodAll ds h.2
  | .tuple ds, h => by
    rw [good, Bool.and_eq_true] at h
    exact lay_goodAll ds h.2
  | .dict _, h => by cases h
theorem lay_goodAll : ∀ ds : List PyData, goodAll ds = true → PyData.canLayAll0 ds = true
  | [], _ => rfl
  | d :: ds, h => by
    rw [goodAll, Bool.and_eq_true] at h
    rw [PyData.canLayAll0, lay_good d h.1, lay_goodAll ds h.2]
    rfl
end
theorem good_item {d e : PyData} {i : Nat} (h : good d = true) (he : (itemsD d)[i]? = some e) : good e = true := by
  cases d with
  | list ds =>
    rw [good, Bool.and_eq_true] at h
    exact goodAll_iff.mp h.2 e (List.mem_of_getElem? he)
  | tuple ds =>
    rw [good, Bool.and_eq_true] at h
    exact goodAll_iff.mp h.2 e (List.mem_of_getElem? he)
  | _ => simp [itemsD] at he
theorem good_len {d : PyData} (h : good d = true) : (itemsD d).length ≤ 100000 := by
  cases d with
  | list ds =>
    rw [good, Bool.and_eq_true] at h
    exact of_decide_eq_true h.1
  | tuple ds =>
    rw [good, Bool.and_eq_true] at h
    exact of_decide_eq_true h.1
  | _ => exact Nat.zero_le _
theorem good_shaped {d : PyData} (h : good d = true) (hd : d.depth ≤ 64) : SeqAt.shaped d = true := by
  unfold SeqAt.shaped
  rw [lay_good d h, decide_eq_true hd]
  rfl
theorem good_refl {d : PyData} (h : good d = true) : PyData.eqv d d = true := SeqAt.eqv_refl d (lay_good d h)
theorem good_list {ds : List PyData} (hl : ds.length ≤ 100000) (h : ∀ d ∈ ds, good d = true) : good (.list ds) = true := by
  rw [good, Bool.and_eq_true]
  exact ⟨decide_eq_true hl, goodAll_iff.mpr h⟩
theorem good_tuple {ds : List PyData} (hl : ds.length ≤ 100000) (h : ∀ d ∈ ds, good d = true) : good (.tuple ds) = true := by
  rw [good, Bool.and_eq_true]
  exact ⟨decide_eq_true hl, goodAll_iff.mpr h⟩
theorem depth_list {ds : List PyData} {n : Nat} (h : ∀ d ∈ ds, d.depth ≤ n) : (PyData.list ds).depth ≤ n + 1 := by
  have key : ∀ ds : List PyData, (∀ d ∈ ds, d.depth ≤ n) → PyData.depthAll ds ≤ n := by
    intro ds
    induction ds with
    | nil => intro _; exact Nat.zero_le _
    | cons d ds ih =>
      intro h
      rw [PyData.depthAll]
      exact Nat.max_le.mpr ⟨h d (List.mem_cons_self ..), ih fun e he => h e (List.mem_cons_of_mem _ he)⟩
  rw [PyData.depth]
  exact Nat.succ_le_succ (key ds h)
theorem depth_tuple {ds : List PyData} {n : Nat} (h : ∀ d ∈ ds, d.depth ≤ n) : (PyData.tuple ds).depth ≤ n + 1 := depth_list (ds := ds) h
/-! == and != of equal data -/
section
variable {K : PySem.W.Frag} {F H : Hp} {x y : V} {d : PyData} {Q : VK}
theorem u_eqD (w : Same F H) (hx : Dp K F x d) (hy : Dp K F y d) (hg : good d = true) (hd : d.depth ≤ 64) (q : Q (.bl true) H) : rEqD K x y H Q :=
  ⟨d, d, dp_same w _ _ hx, dp_same w _ _ hy, good_shaped hg hd, good_shaped hg hd, by rw [good_refl hg]; exact q⟩
end
/-- two things of the same data -/
def φalike (K : PySem.W.Frag) (n : Nat) : V → V → Hp → VK → Prop := fun x y H Q => ∃ (F : Hp) (d : PyData), Same F H ∧ Dp K F x d ∧ Dp K F y d ∧ d.depth < n ∧ good d = true ∧
  ∀ F2 H2 : Hp, Gr [] F H F2 H2 → Q (.bl true) H2
theorem alike0 {K : PySem.W.Frag} {vs : List V} {H : Hp} {Q : VK} {E : XK} (h : S2 (φalike K 0) vs H Q E) : False := by
  match vs, h with
  | [_, _], h =>
    obtain ⟨F, d, _, _, _, hn, _⟩ := h
    exact absurd hn (Nat.not_lt_zero _)
end R
namespace R
open PySem L2
/-! ### data taken apart -/
section
variable {K : PySem.W.Frag} {F : Hp} {x v : V}
theorem dp_int {i : Int} (h : Dp K F x (.int i)) : x = .int i := by cases h; rfl
theorem dp_str {s : Str} (h : Dp K F x (.str s)) : x = .str s := by cases h; rfl
theorem dp_tup {ds : List PyData} (h : Dp K F x (.tuple ds)) : ∃ (a : Addr) (vs : List V), x = .ref a ∧ SqT K F a vs ∧ DpAll K F vs ds := by
  cases h with
  | tup hs ha => exact ⟨_, _, rfl, hs, ha⟩
theorem dpa_cons {vs : List V} {d : PyData} {ds : List PyData} (h : DpAll K F vs (d :: ds)) : ∃ v us, vs = v :: us ∧ Dp K F v d ∧ DpAll K F us ds := by
  cases h with
  | cons h t => exact ⟨_, _, rfl, h, t⟩
theorem dpa_nil {vs : List V} (h : DpAll K F vs []) : vs = [] := by cases h; rfl
theorem dp_tup3 {d1 d2 d3 : PyData} (h : Dp K F x (.tuple [d1, d2, d3])) : ∃ (a : Addr) (v1 v2 v3 : V), x = .ref a ∧ SqT K F a [v1, v2, v3] ∧ Dp K F v1 d1 ∧ Dp K F v2 d2 ∧ Dp K F v3 d3 := by
  obtain ⟨a, vs, rfl, hs, h0⟩ := dp_tup h
  obtain ⟨v1, us, rfl, h1, h0⟩ := dpa_cons h0
  obtain ⟨v2, us, rfl, h2, h0⟩ := dpa_cons h0
  obtain ⟨v3, us, rfl, h3, h0⟩ := dpa_cons h0
  cases dpa_nil h0
  exact ⟨a, v1, v2, v3, rfl, hs, h1, h2, h3⟩
end
/-! ### texts -/
/-- a text of plain signs -/
def okS (z : Str) : Prop := PyData.strOk z = true
instance (z : Str) : Decidable (okS z) := inferInstanceAs (Decidable (PyData.strOk z = true))
theorem joined (ys : List Str) (h : ∀ y ∈ ys, y.length = 1 ∧ okS y) : (Txt.join ⟨#[]⟩ ys).length = ys.length ∧ okS (Txt.join ⟨#[]⟩ ys) := by
  have e : TL.tl (Txt.join ⟨#[]⟩ ys) = (ys.map TL.tl).flatten := by
    rw [TL.join_eq, TL.tl_join]
    have key : ∀ l : List (List Nat), TL.joinL [] l = l.flatten := by
      intro l
      induction l with
      | nil => rfl
      | cons p r ih =>
        cases r with
        | nil => simp [TL.joinL]
        | cons q r =>
          show p ++ ([] ++ TL.joinL [] (q :: r)) = _
          rw [ih, List.nil_append]
          rfl
    exact key _
  have hl : ∀ z : Str, z.length = (TL.tl z).length := fun z => by simp [TL.tl, Str.length]
  constructor
  · rw [hl, e]
    clear e
    induction ys with
    | nil => rfl
    | cons y r ih =>
      rw [List.map_cons, List.flatten_cons, List.length_append, ih fun z hz => h z (List.mem_cons_of_mem _ hz), ← hl, (h y (List.mem_cons_self ..)).1, List.length_cons]
      omega
  · show (Txt.join ⟨#[]⟩ ys).cps.all (· < 0x110000) = true
    rw [← Array.all_toList]
    show (TL.tl (Txt.join ⟨#[]⟩ ys)).all _ = true
    rw [e, List.all_eq_true]
    intro c hc
    obtain ⟨l, hl1, hc⟩ := List.mem_flatten.mp hc
    obtain ⟨y, hy, rfl⟩ := List.mem_map.mp hl1
    have h2 : y.cps.all (· < 0x110000) = true := (h y hy).2
    rw [← Array.all_toList, List.all_eq_true] at h2
    exact h2 c hc
theorem sum_ones : ∀ (ys : List Str), (∀ y ∈ ys, y.length = 1 ∧ okS y) → (ys.map (·.length)).sum = ys.length
  | [], _ => rfl
  | y :: r, h => by
    rw [List.map_cons, List.sum_cons, sum_ones r fun z hz => h z (List.mem_cons_of_mem _ hz), (h y (List.mem_cons_self ..)).1, List.length_cons]
    omega
theorem at_of' {α : Type} {xs : List α} {z : Int} {j : Nat} {v : α} (e : z = (j : Int)) (h : xs[j]? = some v) : atI xs z = some v := by
  rw [e]
  exact atI_nat h
theorem sign_at {z : Str} {r : Int} (ok : okS z) (h0 : 0 ≤ r) (h1 : r < (z.length : Nat)) : ∃ c : Nat, atI z.cps.toList r = some c ∧ okS ⟨#[c]⟩ := by
  have hi : r.toNat < z.cps.toList.length := by
    have : z.cps.toList.length = z.length := by simp [Str.length]
    omega
  refine ⟨z.cps.toList[r.toNat], at_of' (by omega) (List.getElem?_eq_getElem hi), ?_⟩
  have h2 : z.cps.all (· < 0x110000) = true := ok
  rw [← Array.all_toList, List.all_eq_true] at h2
  have h3 := h2 _ (List.getElem_mem hi)
  show (#[z.cps.toList[r.toNat]] : Array Nat).all (· < 0x110000) = true
  simpa using h3
theorem sign_get {z : Str} {k : Nat} (h1 : k < z.length) : atI z.cps.toList (k : Int) = some (z.cps.toList.getD k 0) := by
  have hi : k < z.cps.toList.length := by
    have : z.cps.toList.length = z.length := by simp [Str.length]
    omega
  refine atI_nat ?_
  rw [List.getD_eq_getElem?_getD, List.getElem?_eq_getElem hi]
  rfl
theorem ok_sign {z : Str} {k : Nat} (ok : okS z) (h1 : k < z.length) : okS ⟨#[z.cps.toList.getD k 0]⟩ := by
  have hi : k < z.cps.toList.length := by
    have : z.cps.toList.length = z.length := by simp [Str.length]
    omega
  have h2 : z.cps.all (· < 0x110000) = true := ok
  rw [← Array.all_toList, List.all_eq_true] at h2
  have h3 := h2 _ (List.getElem_mem hi)
  rw [List.getD_eq_getElem?_getD, List.getElem?_eq_getElem hi]
  show (#[z.cps.toList[k]] : Array Nat).all (· < 0x110000) = true
  simpa using h3
/-! ### rows of a plan -/
inductive Wd where | copy | keep | lay
  deriving DecidableEq
def Wd.s : Wd → Str
  | .copy => "copy" | .keep => "keep" | .lay => "lay"
inductive PRow where
  | put (to : Int) (s : Str)
  | mv (w : Wd) (to at_ n : Int)
def PRow.d : PRow → PyData
  | .put to s => .tuple [.str "put", .int to, .str s]
  | .mv w to a n => .tuple [.str w.s, .int to, .int a, .int n]
def PRow.size : PRow → Nat
  | .put _ s => s.length
  | .mv _ _ _ n => n.toNat
def PRow.ok : PRow → Prop
  | .put _ s => okS s ∧ s.length ≤ 5000
  | .mv _ _ _ n => 0 ≤ n ∧ n ≤ 5000
def wr (a : Str) (i : Int) (b : Str) (x : PyData) : PyData := .tuple [.str a, .int i, .str b, x]
def Wd.cell (w : Wd) : Str := if w = .keep then "slot" else "cell"
/-! ### the law's makers -/
theorem w_ixL1 {z : Str} {r : Int} {n : Int} {H : Hp} {Q : VK} (ok : okS z) (hn : (z.length : Int) = n) (hs : z.length ≤ 1000) (r0 : 0 ≤ r) (r1 : r < n) (q : ∀ s : Str, s.length = 1 → okS s → Q (.str s) H) : rIxS (.str z) (.int r) H Q := by
  obtain ⟨c, ec, oc⟩ := sign_at (z := z) ok r0 (by rw [hn]; exact r1)
  exact w_ixS (le1000 hs) ec (q _ rfl oc)
/-- a list of truths of this length, that may change -/
def Hs (F H : Hp) (t : Addr) (n : Nat) : Prop := ∃ bs : List Bool, bs.length = n ∧ Mu F H t (.lst (bs.map V.bl))
theorem Hs.keep {M : List Addr} {F H F2 H2 : Hp} {t : Addr} {n : Nat} (g : Gr M F H F2 H2) (h : Hs F H t n) (ht : t ∉ M) : Hs F2 H2 t n := by
  obtain ⟨bs, l, m⟩ := h
  exact ⟨bs, l, g.mu m ht⟩
theorem Hs.addm {F H : Hp} {t p : Addr} {n : Nat} {u : HO} (h : Hs F H t n) (hp : H p = none) : Hs F (upd H p u) t n := by
  obtain ⟨bs, l, m⟩ := h
  exact ⟨bs, l, m.addm hp⟩
theorem Hs.add {F H : Hp} {t p : Addr} {n : Nat} {u : HO} (h : Hs F H t n) (hp : H p = none) : Hs (upd F p u) (upd H p u) t n := by
  obtain ⟨bs, l, m⟩ := h
  exact ⟨bs, l, m.add hp⟩
theorem Hs.ne_new {F H : Hp} {t q : Addr} {n : Nat} (h : Hs F H t n) (hq : H q = none) : t ≠ q := by
  obtain ⟨_, _, m⟩ := h
  exact m.ne_new hq
theorem Hs.put {F H : Hp} {t q : Addr} {n : Nat} {u : HO} (h : Hs F H t n) (hq : t ≠ q) : Hs F (upd H q u) t n := by
  obtain ⟨bs, l, m⟩ := h
  exact ⟨bs, l, m.oth hq⟩
theorem Hs.set {F H : Hp} {t p : Addr} {n : Nat} {cs : List Bool} (h : Hs F H t n) (hp : t = p → cs.length = n) (m : Mu F H p (.lst (cs.map V.bl))) {j : Nat} : Hs F (upd H p (.lst ((cs.map V.bl).set j (V.bl true)))) t n := by
  by_cases e : t = p
  · subst e
    refine ⟨cs.set j true, by rw [List.length_set]; exact hp rfl, ?_⟩
    rw [List.map_set]
    exact m.wr
  · obtain ⟨bs, l, m'⟩ := h
    exact ⟨bs, l, m'.oth e⟩
theorem str_good {z : Str} (h : okS z) (hl : z.length ≤ 100000) : good (.str z) = true := by
  rw [good, h, decide_eq_true hl]
  rfl
def φlaw (K : PySem.W.Frag) : V → Hp → VK → Prop := fun x H Q => ∃ (a : Addr) (ns : List Int), x = .ref a ∧ SqL K H a (ns.map V.int) ∧ ns.length ≤ 63 ∧ ∀ H', Q (.bl true) H'
theorem law_start {K : PySem.W.Frag} {H : Hp} (a : Addr) (ns : List Int) (hl : ns.length ≤ 63) (hO : Only H) (hS : SqL K H a (ns.map V.int)) : (S1 (φlaw K)) [.ref a] H (fun v _ => v = .bl true) fun _ _ _ => False := ⟨a, ns, rfl, hS, hl, fun _ => rfl⟩
end R
namespace R
open PySem PySem.Spec PyProof.Rows L2
/-- d.setdefault(t, z), t a tuple -/
def tDSetT (td ty tx : TE) : TE := fun σ H Q => td σ H fun x H1 => ∃ a, x = .ref a ∧ IsD H1 a ∧ ty σ H1 fun y H2 => tx σ H2 fun z H3 => ∃ (b : Addr) (kvs : List (List Key × V)) (k : List Key), H3 a = some (.dT kvs) ∧ y = .ref b ∧ H3 b = some (.tup (k.map kV)) ∧ kvs.length < sizeLine ∧
  (∀ v, valV kvs k = some v → Q v H3) ∧ (valV kvs k = none → Q z (upd H3 a (.dT (putK kvs k z))))
end R
namespace R
open PySem L2
/-! ### dicts in a reading -/
def gDGet (x y : V) (H : Hp) (Q : VK) : Prop := ∃ a v, x = .ref a ∧ DGet H a y (some v) ∧ Q v H
def gDIn (x y : V) (H : Hp) (Q : VK) : Prop := ∃ a o, x = .ref a ∧ DGet H a y o ∧ Q (.bl o.isSome) H
def gDNotIn (x y : V) (H : Hp) (Q : VK) : Prop := ∃ a o, x = .ref a ∧ DGet H a y o ∧ Q (.bl (!o.isSome)) H
def gDPut (x y v : V) (H : Hp) (Z : Hp → Prop) : Prop := ∃ a H4, x = .ref a ∧ DPut H a y v H4 ∧ Z H4
section
variable {K : PySem.W.Frag} {σ : L2.St} {H : Hp} {Q : VK} {td ty tv tx te : TE} {x y v : V} {nx bk ct : L2.St → Hp → Prop} {rt : VK} {D p : Addr} {kvs : List (List Key × V)} {ks : List Key}
theorem w_dnewT (q : ∀ p, H p = none → Q (.ref p) (upd H p (.dT []))) : tDNewT σ H Q := q
instance : Step (tDNewT σ H Q) (∀ p, H p = none → Q (.ref p) (upd H p (.dT []))) := ⟨w_dnewT⟩ -- st
theorem w_dnewK (q : ∀ p, H p = none → Q (.ref p) (upd H p (.dK []))) : tDNewK σ H Q := q
instance : Step (tDNewK σ H Q) (∀ p, H p = none → Q (.ref p) (upd H p (.dK []))) := ⟨w_dnewK⟩ -- st
theorem w_dget (q : td σ H fun x H1 => ty σ H1 fun y H2 => gDGet x y H2 Q) : tDGet td ty σ H Q := q
instance : Step (tDGet td ty σ H Q) (td σ H fun x H1 => ty σ H1 fun y H2 => gDGet x y H2 Q) := ⟨w_dget⟩ -- st
theorem w_din (q : ty σ H fun y H1 => td σ H1 fun x H2 => gDIn x y H2 Q) : tDIn ty td σ H Q := q
instance : Step (tDIn ty td σ H Q) (ty σ H fun y H1 => td σ H1 fun x H2 => gDIn x y H2 Q) := ⟨w_din⟩ -- st
theorem w_dnotin (q : ty σ H fun y H1 => td σ H1 fun x H2 => gDNotIn x y H2 Q) : tDNotIn ty td σ H Q := q
instance : Step (tDNotIn ty td σ H Q) (ty σ H fun y H1 => td σ H1 fun x H2 => gDNotIn x y H2 Q) := ⟨w_dnotin⟩ -- st
theorem w_dput (q : tv σ H fun v H1 => td σ H1 fun x H2 => ty σ H2 fun y H3 => gDPut x y v H3 fun H4 => nx σ H4) : sDPut td ty tv ⟨nx, rt, bk, ct⟩ σ H := q
instance : Step (sDPut td ty tv ⟨nx, rt, bk, ct⟩ σ H) (tv σ H fun v H1 => td σ H1 fun x H2 => ty σ H2 fun y H3 => gDPut x y v H3 fun H4 => nx σ H4) := ⟨w_dput⟩ -- st
theorem w_dsetT (q : td σ H fun x H1 => ∃ a, x = .ref a ∧ IsD H1 a ∧ ty σ H1 fun y H2 => tx σ H2 fun z H3 => ∃ (b : Addr) (kvs : List (List Key × V)) (k : List Key), H3 a = some (.dT kvs) ∧ y = .ref b ∧ H3 b = some (.tup (k.map kV)) ∧ kvs.length < sizeLine ∧
  (∀ v, valV kvs k = some v → Q v H3) ∧ (valV kvs k = none → Q z (upd H3 a (.dT (putK kvs k z))))) : tDSetT td ty tx σ H Q := q
instance : Step (tDSetT td ty tx σ H Q) (td σ H fun x H1 => ∃ a, x = .ref a ∧ IsD H1 a ∧ ty σ H1 fun y H2 => tx σ H2 fun z H3 => ∃ (b : Addr) (kvs : List (List Key × V)) (k : List Key), H3 a = some (.dT kvs) ∧ y = .ref b ∧ H3 b = some (.tup (k.map kV)) ∧ kvs.length < sizeLine ∧ (∀ v, valV kvs k = some v → Q v H3) ∧ (valV kvs k = none → Q z (upd H3 a (.dT (putK kvs k z))))) := ⟨w_dsetT⟩ -- st
end
theorem w_rg2 {σ : L2.St} {H : Hp} {ta tb : TE} {R : Int → Int → Hp → Prop} (q : ta σ H fun x H1 => tb σ H1 fun y H2 => ∃ i j, x = .int i ∧ y = .int j ∧ R i j H2) : tRg2 ta tb σ H R := q
instance {σ : L2.St} {H : Hp} {ta tb : TE} {R : Int → Int → Hp → Prop} : Step (tRg2 ta tb σ H R) (ta σ H fun x H1 => tb σ H1 fun y H2 => ∃ i j, x = .int i ∧ y = .int j ∧ R i j H2) := ⟨w_rg2⟩ -- st
/-! ### writes as acts -/
structure WAct where
  w : Str
  n : Int
  s : Str
  x : Key
def keyD : Key → PyData
  | .inl i => .int i
  | .inr z => .str z
def WAct.d (t : WAct) : PyData := .tuple [.str t.w, .int t.n, .str t.s, keyD t.x]
def keyOk : Key → Prop
  | .inl _ => True
  | .inr z => okS z ∧ z.length ≤ 100
def WAct.ok (t : WAct) : Prop := (okS t.w ∧ t.w.length ≤ 100) ∧ (okS t.s ∧ t.s.length ≤ 100) ∧ keyOk t.x
/-! ### the fault of a row of acts -/
/-- a fault as a value -/
def ResV (F : Hp) (v : V) : Option (Nat × Nat) → Prop
  | none => v = .non
  | some (i, j) => ∃ p, v = .ref p ∧ F p = some (.tup [.int (i : Nat), .int (j : Nat)])
theorem ResV.same {F F2 : Hp} {v : V} {o : Option (Nat × Nat)} (h : ResV F v o) (w : Same F F2) : ResV F2 v o := by
  cases o with
  | none => exact h
  | some p =>
    obtain ⟨a, e1, e2⟩ := h
    exact ⟨a, e1, w _ _ e2⟩
/-! ### the law's makers -/
/-- marks that stay -/
structure Mks (F : Hp) (p : Addr) (n : Nat) (ms : List Nat) : Prop where
  at_ : F p = some (.lst (nV ms))
  ok : ∀ k ∈ ms, 1 ≤ k ∧ k < n
  len : ms.length ≤ 20000
theorem Mks.same {F F2 : Hp} {p : Addr} {n : Nat} {ms : List Nat} (h : Mks F p n ms) (w : Same F F2) : Mks F2 p n ms := ⟨w _ _ h.at_, h.ok, h.len⟩
/-- a list of lists of marks -/
def PL (F : Hp) (n : Nat) (v : V) : Prop := ∃ p ms, v = .ref p ∧ Mks F p n ms
theorem PL.same {F F2 : Hp} {n : Nat} {v : V} (h : PL F n v) (w : Same F F2) : PL F2 n v := by
  obtain ⟨p, ms, e, m⟩ := h
  exact ⟨p, ms, e, m.same w⟩
end R
namespace R
open PySem L2
/-! ### parts of the heap, one beside the other -/
structure Own where
  as : List Addr
  φ : Hp → Hp → Prop
  st : ∀ {F H F2 H2 : Hp}, Same F F2 → (∀ a ∈ as, ∀ o, H a = some o → H2 a = some o) → (∀ a ∈ as, F a = none → F2 a = none) → φ F H → φ F2 H2
  al : ∀ {F H : Hp}, φ F H → ∀ a ∈ as, H a ≠ none
theorem Own.gr (o : Own) {M : List Addr} {F H F2 H2 : Hp} (g : Gr M F H F2 H2) (h : ∀ a ∈ o.as, a ∉ M) (x : o.φ F H) : o.φ F2 H2 :=
  o.st g.ff (fun a m u e => g.hh a u (h a m) e) (fun a m e => g.nw a (o.al x a m) e) x
def mu (p : Addr) (o : HO) : Own := ⟨[p], fun F H => Mu F H p o, fun s h n m => ⟨n p (List.mem_singleton.mpr rfl) m.n, h p (List.mem_singleton.mpr rfl) o m.h⟩, fun m a h => by
  rw [List.mem_singleton.mp h]
  exact ne_none m.h⟩
def bag (K : PySem.W.Frag) (b : Addr) : Own := ⟨[b], fun F H => Bag K F H b, fun s h n m => by
  obtain ⟨c, cells, i, cur, st, k, h1, h2, h3, h4⟩ := m.ex
  exact ⟨c, cells, i, cur, st, k, n b (List.mem_singleton.mpr rfl) h1, h b (List.mem_singleton.mpr rfl) _ h2, sqL_same s h3, h4⟩, fun m a h => by
  rw [List.mem_singleton.mp h]
  obtain ⟨c, cells, i, cur, st, k, h1, h2, h3, h4⟩ := m.ex
  exact ne_none h2⟩
def pur (φ : Hp → Prop) (h : ∀ {F F2 : Hp}, Same F F2 → φ F → φ F2) : Own := ⟨[], fun F _ => φ F, fun s _ _ x => h s x, fun _ a h => nomatch h⟩
def dat (K : PySem.W.Frag) (v : V) (d : PyData) : Own := pur (fun F => Dp K F v d) fun s x => dp_same s _ _ x
def dpa (K : PySem.W.Frag) (vs : List V) (ds : List PyData) : Own := pur (fun F => DpAll K F vs ds) fun s x => dpa_same s _ _ x
def imL (K : PySem.W.Frag) (a : Addr) (xs : List V) : Own := pur (fun F => SqL K F a xs) fun s x => sqL_same s x
def imT (K : PySem.W.Frag) (a : Addr) (xs : List V) : Own := pur (fun F => SqT K F a xs) fun s x => sqT_same s x
/-- an object that stays -/
def fx (p : Addr) (o : HO) : Own := pur (fun F => F p = some o) fun s x => s _ _ x
abbrev ads (L : List Own) : List Addr := L.flatMap Own.as
structure St (F H : Hp) (L : List Own) : Prop where
  s : Same F H
  i : ∀ o ∈ L, o.φ F H
  d : (ads L).Nodup
structure W (M : List Addr) (F0 H0 F H : Hp) (L : List Own) : Prop where
  g : Gr M F0 H0 F H
  i : ∀ o ∈ L, o.φ F H
  d : (ads L).Nodup
  o : ∀ a ∈ ads L, a ∈ M ∨ H0 a = none
/-- D taken out of L leaves Rs -/
inductive Rm (x : Own) : List Own → List Own → Prop
  | here {L : List Own} : Rm x (x :: L) L
  | there {y : Own} {L Rs : List Own} : Rm x L Rs → Rm x (y :: L) (y :: Rs)
inductive Pick : List Own → List Own → List Own → Prop
  | nil {L : List Own} : Pick L [] L
  | cons {o : Own} {L L1 D Rs : List Own} : Rm o L L1 → Pick L1 D Rs → Pick L (o :: D) Rs
theorem Rm.perm {x : Own} {L Rs : List Own} (h : Rm x L Rs) : L.Perm (x :: Rs) := by
  induction h with
  | here => exact .refl _
  | there _ ih => exact (ih.cons _).trans (.swap _ _ _)
theorem Pick.perm {L D Rs : List Own} (h : Pick L D Rs) : L.Perm (D ++ Rs) := by
  induction h with
  | nil => exact .refl _
  | cons h _ ih => exact h.perm.trans (ih.cons _)
theorem ads_perm {L L' : List Own} (h : L.Perm L') : (ads L).Perm (ads L') := h.flatMap_right Own.as
theorem ads_app (L L' : List Own) : ads (L ++ L') = ads L ++ ads L' := by simp [ads]
section
variable {K : PySem.W.Frag} {M N : List Addr} {F0 H0 F H F1 H1 F2 H2 : Hp} {L L2 D Rs : List Own} {p a : Addr} {u o2 : HO}
theorem W.perm (w : W M F0 H0 F H L) (h : L.Perm L2) : W M F0 H0 F H L2 :=
  ⟨w.g, fun o m => w.i o (h.mem_iff.mpr m), (ads_perm h).nodup_iff.mp w.d, fun a m => w.o a ((ads_perm h).mem_iff.mpr m)⟩
theorem W.to (w : W M F0 H0 F H L) (k : Pick L D Rs) : W M F0 H0 F H D := by
  have w := w.perm k.perm
  refine ⟨w.g, fun o m => w.i o (List.mem_append_left _ m), ?_, fun a m => w.o a (by rw [ads_app]; exact List.mem_append_left _ m)⟩
  have h := w.d
  rw [ads_app] at h
  exact (List.nodup_append.mp h).1
def Pk (L D : List Own) : Prop := ∃ Rs, Pick L D Rs
theorem W.pk (w : W M F0 H0 F H L) (k : Pk L D) : W M F0 H0 F H D := k.elim fun _ k => w.to k
theorem W.st (w : W M F0 H0 F H L) (k : Pick L D Rs) : St F H D := ⟨w.g.fh, (w.to k).i, (w.to k).d⟩
theorem St.w (s : St F H L) (h : M = ads L := by rfl) : W M F H F H L := ⟨.refl s.s, s.i, s.d, fun a m => .inl (by rw [h]; exact m)⟩
theorem W.start (s : Same F H) : W M F H F H [] := ⟨.refl s, (fun _ h => nomatch h), .nil, (fun _ h => nomatch h)⟩
theorem W.call (w : W M F0 H0 F H L) (k : Pick L D Rs) (w2 : W N F H F2 H2 L2) (hN : N = ads D := by rfl) : W M F0 H0 F2 H2 (L2 ++ Rs) := by
  subst hN
  have w := w.perm k.perm
  have hd := w.d
  have ho := w.o
  rw [ads_app] at hd ho
  obtain ⟨d1, d2, d3⟩ := List.nodup_append.mp hd
  have hR : ∀ a ∈ ads Rs, H a ≠ none := fun a m => by
    obtain ⟨o, mo, ma⟩ := List.mem_flatMap.mp m
    exact o.al (w.i o (List.mem_append_right _ mo)) a ma
  refine ⟨w.g.transN w2.g fun x m => ho x (List.mem_append_left _ m), fun o m => ?_, ?_, fun a m => ?_⟩
  · rcases List.mem_append.mp m with m | m
    · exact w2.i o m
    · refine o.gr w2.g (fun a ha hb => d3 a hb a (List.mem_flatMap.mpr ⟨o, m, ha⟩) rfl) (w.i o (List.mem_append_right _ m))
  · rw [ads_app]
    refine List.nodup_append.mpr ⟨w2.d, d2, fun a ha b hb e => ?_⟩
    subst e
    rcases w2.o a ha with h | h
    · exact d3 a h a hb rfl
    · exact hR a hb h
  · rw [ads_app] at m
    rcases List.mem_append.mp m with m | m
    · rcases w2.o a m with h | h
      · exact ho a (List.mem_append_left _ h)
      · exact .inr (w.g.fresh h)
    · exact ho a (List.mem_append_right _ m)
theorem W.ws (w : W M F0 H0 F H L) : Same F0 H := w.g.ws
theorem W.fh (w : W M F0 H0 F H L) : Same F H := w.g.fh
theorem W.ff (w : W M F0 H0 F H L) : Same F0 F := w.g.ff
theorem W.push (w : W M F0 H0 F H L) (o : Own) (h : o.φ F H) (e : o.as = [] := by rfl) : W M F0 H0 F H (o :: L) := by
  refine ⟨w.g, fun q m => ?_, ?_, fun a m => ?_⟩
  · rcases List.mem_cons.mp m with rfl | m
    · exact h
    · exact w.i q m
  · show ((o :: L).flatMap Own.as).Nodup
    rw [List.flatMap_cons, e]
    exact w.d
  · have m' : a ∈ (o :: L).flatMap Own.as := m
    rw [List.flatMap_cons, e] at m'
    exact w.o a m'
/-- a new object that stays -/
theorem W.im (w : W M F0 H0 F H L) (h : H p = none) : W M F0 H0 (upd F p u) (upd H p u) L := by
  have w2 : W [] F H (upd F p u) (upd H p u) [] := ⟨.im w.g.fh h, (fun _ h => nomatch h), .nil, (fun _ h => nomatch h)⟩
  exact w.call .nil w2
/-- a new object that may change -/
theorem W.nw (w : W M F0 H0 F H L) (h : H p = none) : W M F0 H0 F (upd H p u) (mu p u :: L) := by
  have w2 : W [] F H F (upd H p u) [mu p u] := by
    refine ⟨.new w.g.fh h, fun q m => ?_, ?_, fun a m => ?_⟩
    · rw [List.mem_singleton.mp m]
      exact Mu.new w.g.fh h
    · show ([p] : List Addr).Nodup
      simp
    · have : a = p := List.mem_singleton.mp m
      subst this
      exact .inr h
  exact w.call .nil w2
/-- a change -/
theorem W.wr (w : W M F0 H0 F H L) (k : Pick L [mu p o2] Rs) : W M F0 H0 F (upd H p u) (mu p u :: Rs) := by
  have m : Mu F H p o2 := (w.to k).i _ (List.mem_singleton.mpr rfl)
  have w2 : W [p] F H F (upd H p u) [mu p u] := by
    refine ⟨.wr w.g.fh m.n (List.mem_singleton.mpr rfl), fun q h => ?_, ?_, fun a h => ?_⟩
    · rw [List.mem_singleton.mp h]
      exact m.wr
    · show ([p] : List Addr).Nodup
      simp
    · exact .inl h
  exact w.call k w2 rfl
/-- an object that changes no more -/
theorem W.fz (w : W M F0 H0 F H L) (k : Pick L [mu p u] Rs) (hn : H0 p = none) : W M F0 H0 (upd F p u) H Rs := by
  have w := w.perm k.perm
  have m : Mu F H p u := w.i _ (List.mem_cons_self ..)
  have hd := w.d
  rw [ads_app] at hd
  obtain ⟨d1, d2, d3⟩ := List.nodup_append.mp hd
  refine ⟨w.g.frz hn m, fun o ho => ?_, d2, fun a ha => w.o a (by rw [ads_app]; exact List.mem_append_right _ ha)⟩
  have hp : ∀ a ∈ o.as, a ≠ p := fun a ha e => d3 p (List.mem_singleton.mpr rfl) a (List.mem_flatMap.mpr ⟨o, ho, ha⟩) e.symm
  refine o.st (Same.new m.n) (fun a _ _ e => e) (fun a ha e => ?_) (w.i o (List.mem_append_right _ ho))
  rw [upd_ne (hp a ha)]
  exact e
theorem W.fzL {xs : List V} (w : W M F0 H0 F H L) (k : Pick L [mu p (.lst xs)] Rs) (hn : H0 p = none) : ∃ F2, W M F0 H0 F2 H (fx p (.lst xs) :: Rs) := ⟨_, (w.fz k hn).push (fx p (.lst xs)) upd_same⟩
end
inductive App : List Own → List Own → List Own → Prop
  | nil {Rs : List Own} : App [] Rs Rs
  | cons {o : Own} {L Rs L' : List Own} : App L Rs L' → App (o :: L) Rs (o :: L')
theorem App.eq {L Rs L' : List Own} (h : App L Rs L') : L ++ Rs = L' := by
  induction h with
  | nil => rfl
  | cons _ ih => rw [List.cons_append, ih]
section
variable {K : PySem.W.Frag} {M N : List Addr} {F0 H0 F H F1 H1 F2 H2 : Hp} {L L2 L3 D Rs : List Own} {p a : Addr} {u o2 : HO} {xs ys : List V} {ds : List PyData} {d : PyData} {v : V}
theorem W.cal (w : W M F0 H0 F H L) (k : Pick L D Rs) (w2 : W N F H F2 H2 L2) (e : App L2 Rs L3) (hN : N = ads D := by rfl) : W M F0 H0 F2 H2 L3 := by
  rw [← e.eq]
  exact w.call k w2 hN
/-- .. by what the older promises tell -/
theorem W.gr (w : W M F0 H0 F H L) (k : Pick L D Rs) (g : Gr N F H F2 H2) (i : ∀ o ∈ D, o.φ F2 H2) (e : App D Rs L3) (hN : N = ads D := by rfl) : W M F0 H0 F2 H2 L3 :=
  w.cal k (L2 := D) ⟨g, i, (w.to k).d, fun a m => .inl (by rw [hN]; exact m)⟩ e hN
theorem W.gr0 (w : W M F0 H0 F H L) (g : Gr [] F H F2 H2) : W M F0 H0 F2 H2 L := w.gr (D := []) .nil g (fun _ h => nomatch h) .nil
theorem W.gr1 {o : Own} (w : W M F0 H0 F H L) (k : Pick L [o] Rs) (g : Gr N F H F2 H2) (i : o.φ F2 H2) (hN : N = ads [o] := by rfl) : W M F0 H0 F2 H2 (o :: Rs) :=
  w.gr k g (fun q m => by rw [List.mem_singleton.mp m]; exact i) (.cons .nil) hN
theorem W.mu (w : W M F0 H0 F H L) (m : mu p u ∈ L) : Mu F H p u := w.i _ m
theorem W.bag {b : Addr} (w : W M F0 H0 F H L) (m : bag K b ∈ L) : Bag K F H b := w.i _ m
theorem W.dat (w : W M F0 H0 F H L) (m : dat K v d ∈ L) : Dp K F v d := w.i _ m
theorem W.dpa (w : W M F0 H0 F H L) (m : dpa K xs ds ∈ L) : DpAll K F xs ds := w.i _ m
theorem W.imL (w : W M F0 H0 F H L) (m : imL K p xs ∈ L) : SqL K F p xs := w.i _ m
theorem W.imT (w : W M F0 H0 F H L) (m : imT K p xs ∈ L) : SqT K F p xs := w.i _ m
theorem W.at_ (w : W M F0 H0 F H L) (m : R.mu p u ∈ L) : H p = some u := (w.mu m).h
theorem W.sqM (w : W M F0 H0 F H L) (m : R.mu p (.lst xs) ∈ L) : SqL K H p xs := (w.mu m).sq
theorem W.fx (w : W M F0 H0 F H L) (m : R.fx p u ∈ L) : H p = some u := w.fh _ _ (w.i _ m)
theorem W.sqF (w : W M F0 H0 F H L) (m : R.fx p (.lst xs) ∈ L) : SqL K H p xs := sqL_of (w.fx m)
theorem W.stF (w : W M F0 H0 F H L) (m : R.fx p (.tup xs) ∈ L) : SqT K H p xs := sqT_of (w.fx m)
theorem W.sqI (w : W M F0 H0 F H L) (m : R.imL K p xs ∈ L) : SqL K H p xs := sqL_same w.fh (w.imL m)
theorem W.sq0 (w : W M F0 H0 F H L) (h : SqL K F0 p xs) : SqL K H p xs := sqL_same w.ws h
theorem W.stI (w : W M F0 H0 F H L) (m : R.imT K p xs ∈ L) : SqT K H p xs := sqT_same w.fh (w.imT m)
theorem W.st0 (w : W M F0 H0 F H L) (h : SqT K F0 p xs) : SqT K H p xs := sqT_same w.ws h
theorem W.dp0 (w : W M F0 H0 F H L) (h : Dp K F0 v d) : Dp K F v d := dp_same w.ff _ _ h
end
/-! ### steps -/
def mkT (xs : List V) (H : Hp) (Q : VK) : Prop := xs.length ≤ sizeLine ∧ ∀ p, H p = none → Q (.ref p) (upd H p (.tup xs))
def mkL (xs : List V) (H : Hp) (Q : VK) : Prop := xs.length ≤ sizeLine ∧ ∀ p, H p = none → Q (.ref p) (upd H p (.lst xs))
def forG (g : TG) (tb : TS) (D : Ends) (J : It) (σ : L2.St) (H : Hp) : Prop := ∃ W : Nat → Nat → L2.St → Hp → Prop, (∃ m, W 0 m σ H) ∧ ∀ i m σ H, W i m σ H →
  (J.stop i H ∧ D.nx σ H) ∨ (J.go i H ∧ ∃ N : L2.St → Hp → Prop, (∀ σ' H', N σ' H' → ∃ m', m' < m ∧ W (i + 1) m' σ' H') ∧ ∀ x H', J.yld i H x H' → g x σ H' fun σ2 H2 => tb ⟨N, D.rt, D.nx, N⟩ σ2 H2)
def lcG (g : TG) (tt : TT) (te : TE) (vs : List Nat) (J : It) (σ : L2.St) (H : Hp) (Q : VK) : Prop := ∀ D, H D = none → ∃ W : Nat → Nat → Hp → Prop, (∃ m, W 0 m (upd H D (.lst []))) ∧ ∀ i m H, W i m H →
  (J.stop i H ∧ Q (.ref D) H) ∨ (J.go i H ∧ ∃ Nx : Hp → Prop, (∀ H', Nx H' → ∃ m', m' < m ∧ W (i + 1) m' H') ∧ ∀ x H', J.yld i H x H' → g x (wipe σ vs) H' fun σ2 H2 => wipe σ2 vs = wipe σ vs ∧ tt σ2 H2 fun b H3 =>
    if b = true then te σ2 H3 fun y H4 => ∃ acc, H4 D = some (.lst acc) ∧ acc.length < sizeLine ∧ Nx (upd H4 D (.lst (acc ++ [y]))) else Nx H3)
def accG (D : Addr) (Z : Hp → Prop) (y : V) (H : Hp) : Prop := ∃ acc, H D = some (.lst acc) ∧ acc.length < sizeLine ∧ Z (upd H D (.lst (acc ++ [y])))
def Nx (M : List Addr) (F0 H0 : Hp) (Inv : L2.St → List Own → Prop) : L2.St → Hp → Prop := fun σ H => ∃ L F, Inv σ L ∧ W M F0 H0 F H L
def NxC (M : List Addr) (F0 H0 : Hp) (P : List V → List Own → Prop) (D : Addr) : Hp → Prop := fun H => ∃ ys L F, P ys L ∧ W M F0 H0 F H (mu D (.lst ys) :: L)
section
variable {K : PySem.W.Frag} {M N : List Addr} {F0 H0 F H : Hp} {L Rs T : List Own} {σ : L2.St} {Q : VK} {ta tb te : TE} {x y v : V} {nx bk ct : L2.St → Hp → Prop} {rt : VK} {p q a D : Addr} {xs ys : List V} {u : HO}
variable {t : TA} {wi : TI} {g : TG} {tbody : TS} {c tt : TT} {vs : List Nat} {ts us : TS}
theorem x_tup (h : t σ H fun xs H1 => mkT xs H1 Q) : tTup t σ H Q := h
instance : StepN (tTup t σ H Q) (t σ H fun xs H1 => mkT xs H1 Q) := ⟨x_tup⟩ -- st
theorem x_lst (h : t σ H fun xs H1 => mkL xs H1 Q) : tLst t σ H Q := h
instance : StepN (tLst t σ H Q) (t σ H fun xs H1 => mkL xs H1 Q) := ⟨x_lst⟩ -- st
theorem x_for (h : wi σ H fun J H1 => forG g tbody ⟨nx, rt, bk, ct⟩ J σ H1) : tFor wi g tbody ⟨nx, rt, bk, ct⟩ σ H := h
instance : StepN (tFor wi g tbody ⟨nx, rt, bk, ct⟩ σ H) (wi σ H fun J H1 => forG g tbody ⟨nx, rt, bk, ct⟩ J σ H1) := ⟨x_for⟩ -- st
theorem x_lc (h : wi σ H fun J H1 => lcG g tt te vs J σ H1 Q) : tLc wi g tt te vs σ H Q := h
instance : StepN (tLc wi g tt te vs σ H Q) (wi σ H fun J H1 => lcG g tt te vs J σ H1 Q) := ⟨x_lc⟩ -- st
theorem x_wp {a b : L2.St} {B : Prop} (h : a = b) (q : B) : a = b ∧ B := ⟨h, q⟩
instance {a b : L2.St} {B : Prop} : SideK (a = b ∧ B) 6 := ⟨⟩ -- st
theorem n_tup (w : W M F0 H0 F H L) (hs : xs.length ≤ sizeLine) (h : ∀ p F2 H2, W M F0 H0 F2 H2 (fx p (.tup xs) :: L) → Q (.ref p) H2) : mkT xs H Q :=
  ⟨hs, fun p np => h p _ _ ((w.im (u := .tup xs) np).push (fx p (.tup xs)) upd_same)⟩
theorem n_new (w : W M F0 H0 F H L) (h : ∀ p F2 H2, W M F0 H0 F2 H2 (mu p u :: L) → H0 p = none → Q (.ref p) H2) : ∀ p, H p = none → Q (.ref p) (upd H p u) := fun p np => h p _ _ (w.nw np) (w.g.fresh np)
theorem n_lst (w : W M F0 H0 F H L) (hs : xs.length ≤ sizeLine) (h : ∀ p F2 H2, W M F0 H0 F2 H2 (mu p (.lst xs) :: L) → H0 p = none → Q (.ref p) H2) : mkL xs H Q := ⟨hs, n_new w h⟩
theorem n_slL {lo hi : Option Int} (w : W M F0 H0 F H L) (hs : SqL K H p xs) (h : ∀ p F2 H2, W M F0 H0 F2 H2 (mu p (.lst (cutV xs lo hi)) :: L) → H0 p = none → Q (.ref p) H2) : rSlL K (.ref p) lo hi H Q := w_slL xs hs (n_new w h)
theorem n_listOf (w : W M F0 H0 F H L) (hs : SqL K H p xs) (h : ∀ p F2 H2, W M F0 H0 F2 H2 (mu p (.lst xs) :: L) → H0 p = none → Q (.ref p) H2) : rListOf K [.ref p] H Q := w_listOf xs hs (n_new w h)
def revG (K : PySem.W.Frag) (x : V) (H : Hp) (Q : VK) : Prop := ∃ a xs, x = .ref a ∧ SqL K H a xs ∧ ∀ p, H p = none → Q (.ref p) (upd H p (.lst xs.reverse))
theorem x_revL (h : ta σ H fun x H1 => revG K x H1 Q) : tRevL K ta σ H Q := h
instance : StepN (tRevL K ta σ H Q) (ta σ H fun x H1 => revG K x H1 Q) := ⟨x_revL⟩ -- st
def lrgG (a b : Int) (H : Hp) (Q : VK) : Prop := RgOk a b ∧ ∀ q, H q = none → Q (.ref q) (upd H q (.lst (rgV a b)))
theorem x_lstRg {te : L2.St → Hp → (Int → Int → Hp → Prop) → Prop} (h : te σ H fun a b H1 => lrgG a b H1 Q) : tLstRg te σ H Q := h
instance {te : L2.St → Hp → (Int → Int → Hp → Prop) → Prop} : StepN (tLstRg te σ H Q) (te σ H fun a b H1 => lrgG a b H1 Q) := ⟨x_lstRg⟩ -- st
theorem n_lstRg {i j : Int} (w : W M F0 H0 F H L) (hs : RgOk i j) (h : ∀ p F2 H2, W M F0 H0 F2 H2 (mu p (.lst (rgV i j)) :: L) → H0 p = none → Q (.ref p) H2) : lrgG i j H Q := ⟨hs, n_new w h⟩
theorem n_cat (w : W M F0 H0 F H L) (h1 : H p = some (.lst xs)) (h2 : H q = some (.lst ys)) (hs : xs.length + ys.length ≤ sizeLine) (h : ∀ p F2 H2, W M F0 H0 F2 H2 (mu p (.lst (xs ++ ys)) :: L) → H0 p = none → Q (.ref p) H2) : rCat (.ref p) (.ref q) H Q :=
  ⟨p, q, xs, ys, rfl, rfl, h1, h2, hs, n_new w h⟩
theorem n_app (w : W M F0 H0 F H L) (k : Pick L [mu p (.lst xs)] Rs) (hn : xs.length < sizeLine) (h : ∀ H2, W M F0 H0 F H2 (mu p (.lst (xs ++ [y])) :: Rs) → Q .non H2) : rAppend (.ref p) [y] H Q :=
  w_app xs ((w.to k).at_ (List.mem_singleton.mpr rfl)) hn (h _ (w.wr k))
theorem n_setL {k : Int} {Z : Hp → Prop} (w : W M F0 H0 F H L) (kk : Pick L [mu p (.lst xs)] Rs) (j : Nat) (e : ixN xs.length k = some j) (h : ∀ H2, W M F0 H0 F H2 (mu p (.lst (xs.set j v)) :: Rs) → Z H2) : rSetL (.ref p) (.int k) v H Z :=
  w_setL xs j ((w.to kk).at_ (List.mem_singleton.mpr rfl)) e (h _ (w.wr kk))
theorem n_draw {m : Int} {E : XK} {b : Addr} (w : W M F0 H0 F H L) (k : Pick L [bag K b] Rs) (h0 : 0 < m) (h1 : m < 2 ^ 200) (h : ∀ r F2 H2, W M F0 H0 F2 H2 (bag K b :: Rs) → 0 ≤ r → r < m → Q (.int r) H2) : S2 (φdraw K) ([.ref b, .int m] ++ []) H Q E :=
  u_draw w.fh ((w.to k).bag (List.mem_singleton.mpr rfl)) h0 h1 fun r F2 H2 g hb r0 r1 => h r F2 H2 (w.gr1 k g hb) r0 r1
def rg1G (vs : List V) (H : Hp) (Rr : It → Hp → Prop) : Prop := ∃ j : Int, vs = [.int j] ∧ -(2 ^ 62) ≤ j ∧ j < 2 ^ 62 ∧ Rr (Itr 0 j.toNat) H
def rg2G (vs : List V) (H : Hp) (Rr : It → Hp → Prop) : Prop := ∃ i j : Int, vs = [.int i, .int j] ∧ (-(2 ^ 62) ≤ i ∧ i < 2 ^ 62 ∧ -(2 ^ 62) ≤ j ∧ j < 2 ^ 62) ∧ Rr (Itr i (j - i).toNat) H
def ilG (K : PySem.W.Frag) (x : V) (H : Hp) (Rr : It → Hp → Prop) : Prop := ∃ a, x = .ref a ∧ (∃ xs, SqL K H a xs) ∧ Rr (Itl K a) H
def itG (K : PySem.W.Frag) (x : V) (H : Hp) (Rr : It → Hp → Prop) : Prop := ∃ a, x = .ref a ∧ (∃ xs, SqT K H a xs) ∧ Rr (Itt K a) H
def isG (x : V) (H : Hp) (Rr : It → Hp → Prop) : Prop := ∃ z, x = .str z ∧ Rr (Its z) H
theorem x_rng1 {Rr : It → Hp → Prop} (h : t σ H fun vs H1 => rg1G vs H1 Rr) : iRng1 t σ H Rr := h
instance {Rr : It → Hp → Prop} : StepN (iRng1 t σ H Rr) (t σ H fun vs H1 => rg1G vs H1 Rr) := ⟨x_rng1⟩ -- st
theorem x_rng2 {Rr : It → Hp → Prop} (h : t σ H fun vs H1 => rg2G vs H1 Rr) : iRng2 t σ H Rr := h
instance {Rr : It → Hp → Prop} : StepN (iRng2 t σ H Rr) (t σ H fun vs H1 => rg2G vs H1 Rr) := ⟨x_rng2⟩ -- st
theorem x_il {Rr : It → Hp → Prop} (h : te σ H fun x H1 => ilG K x H1 Rr) : iList K te σ H Rr := h
instance {Rr : It → Hp → Prop} : StepN (iList K te σ H Rr) (te σ H fun x H1 => ilG K x H1 Rr) := ⟨x_il⟩ -- st
theorem x_it {Rr : It → Hp → Prop} (h : te σ H fun x H1 => itG K x H1 Rr) : iTup K te σ H Rr := h
instance {Rr : It → Hp → Prop} : StepN (iTup K te σ H Rr) (te σ H fun x H1 => itG K x H1 Rr) := ⟨x_it⟩ -- st
theorem x_is {Rr : It → Hp → Prop} (h : te σ H fun x H1 => isG x H1 Rr) : iStr te σ H Rr := h
instance {Rr : It → Hp → Prop} : StepN (iStr te σ H Rr) (te σ H fun x H1 => isG x H1 Rr) := ⟨x_is⟩ -- st
theorem n_rng1 {j : Int} {Rr : It → Hp → Prop} (h0 : -(2 ^ 62) ≤ j) (h1 : j < 2 ^ 62) (h : Rr (Itr 0 j.toNat) H) : rg1G [.int j] H Rr := ⟨j, rfl, h0, h1, h⟩
instance {j : Int} {Rr : It → Hp → Prop} : SideK (rg1G [.int j] H Rr) 5 := ⟨⟩ -- st
theorem n_rng2 {i j : Int} {Rr : It → Hp → Prop} (h0 : -(2 ^ 62) ≤ i) (h1 : i < 2 ^ 62) (h2 : -(2 ^ 62) ≤ j) (h3 : j < 2 ^ 62) (h : Rr (Itr i (j - i).toNat) H) : rg2G [.int i, .int j] H Rr := ⟨i, j, rfl, ⟨h0, h1, h2, h3⟩, h⟩
instance {i j : Int} {Rr : It → Hp → Prop} : SideK (rg2G [.int i, .int j] H Rr) 5 := ⟨⟩ -- st
theorem n_il {Rr : It → Hp → Prop} (hs : SqL K H a xs) (h : Rr (Itl K a) H) : ilG K (.ref a) H Rr := ⟨a, rfl, ⟨xs, hs⟩, h⟩
instance {Rr : It → Hp → Prop} : SideK (ilG K (.ref a) H Rr) 4 := ⟨⟩ -- st
theorem n_it {Rr : It → Hp → Prop} (hs : SqT K H a xs) (h : Rr (Itt K a) H) : itG K (.ref a) H Rr := ⟨a, rfl, ⟨xs, hs⟩, h⟩
instance {Rr : It → Hp → Prop} : SideK (itG K (.ref a) H Rr) 4 := ⟨⟩ -- st
theorem n_is {z : Str} {Rr : It → Hp → Prop} (h : Rr (Its z) H) : isG (.str z) H Rr := ⟨z, rfl, h⟩
instance {z : Str} {Rr : It → Hp → Prop} : StepN (isG (.str z) H Rr) (Rr (Its z) H) := ⟨n_is⟩ -- st
theorem nx_mk {Inv : L2.St → List Own → Prop} {L2 : List Own} (w : W M F0 H0 F H L) (h : Inv σ L2) (k : Pk L L2) : Nx M F0 H0 Inv σ H := ⟨L2, F, h, w.pk k⟩
def addsG : R2 := fun x y H Q => ∃ a b, x = .str a ∧ y = .str b ∧ a.length + b.length ≤ sizeLine ∧ Q (.str (a ++ b)) H
theorem opAddS {X : Cx} : OpR X (binaryOp .Add) addsG := op_add_str
theorem n_adds {a b : Str} (hl : a.length + b.length ≤ sizeLine) (h : Q (.str (a ++ b)) H) : addsG (.str a) (.str b) H Q := ⟨a, b, rfl, rfl, hl, h⟩
instance {a b : Str} : SideK (addsG (.str a) (.str b) H Q) 5 := ⟨⟩ -- st
theorem x_aug {i : Nat} {ti : TIp} {x : V} {H : Hp} (h : σ[i]? = some (some x)) (q : te σ H fun y H1 => ti x y H1 fun z H2 => nx (σ.set i (some z)) H2) : tAug i te ti ⟨nx, rt, bk, ct⟩ σ H := ⟨x, h, q⟩
instance {i : Nat} {ti : TIp} {H : Hp} : SideK (tAug i te ti ⟨nx, rt, bk, ct⟩ σ H) 4 := ⟨⟩ -- st
theorem n_ipI {g : Int → Int → Int} {i j : Int} {Z : VK} (q : Z (.int (g i j)) H) : ipI g (.int i) (.int j) H Z := ⟨i, j, rfl, rfl, q⟩
instance {g : Int → Int → Int} {i j : Int} {Z : VK} : SideK (ipI g (.int i) (.int j) H Z) 5 := ⟨⟩ -- st
/-- loops -/
theorem n_forR {n : Nat} (w : W M F0 H0 F H L) (Inv : Nat → L2.St → List Own → Prop) {L1 : List Own} (h0 : Inv 0 σ L1)
    (hs : ∀ (i : Nat) σ L F H, i < n → Inv i σ L → W M F0 H0 F H L → g (.int (i : Int)) σ H fun σ2 H2 => tbody ⟨Nx M F0 H0 (Inv (i + 1)), rt, nx, Nx M F0 H0 (Inv (i + 1))⟩ σ2 H2)
    (hd : ∀ σ L F H, Inv n σ L → W M F0 H0 F H L → nx σ H) (k : Pk L L1 := by walk_at "pk") : forG g tbody ⟨nx, rt, bk, ct⟩ (Itr 0 n) σ H :=
  f_range0 (fun i σ H => Nx M F0 H0 (Inv i) σ H) ⟨L1, F, h0, w.pk k⟩ (fun i σ H hi ⟨L, F, h, w⟩ => hs i σ L F H hi h w) fun σ H ⟨L, F, h, w⟩ => hd σ L F H h w
theorem n_forL (xs : List V) (w : W M F0 H0 F H L) (Inv : Nat → L2.St → List Own → Prop) {L1 : List Own} (h0 : Inv 0 σ L1) (hl : ∀ i σ L F H, Inv i σ L → W M F0 H0 F H L → SqL K H a xs)
    (hs : ∀ (i : Nat) x σ L F H, xs[i]? = some x → Inv i σ L → W M F0 H0 F H L → g x σ H fun σ2 H2 => tbody ⟨Nx M F0 H0 (Inv (i + 1)), rt, nx, Nx M F0 H0 (Inv (i + 1))⟩ σ2 H2)
    (hd : ∀ σ L F H, Inv xs.length σ L → W M F0 H0 F H L → nx σ H) (k : Pk L L1 := by walk_at "pk") : forG g tbody ⟨nx, rt, bk, ct⟩ (Itl K a) σ H :=
  f_list (xs := xs) (fun i σ H => Nx M F0 H0 (Inv i) σ H) ⟨L1, F, h0, w.pk k⟩ (fun i σ H _ ⟨L, F, h, w⟩ => hl i σ L F H h w) (fun i x σ H hx ⟨L, F, h, w⟩ => hs i x σ L F H hx h w) fun σ H ⟨L, F, h, w⟩ => hd σ L F H h w
theorem n_cut (w : W M F0 H0 F H L) (Mid : L2.St → List Own → Prop) (h1 : ts ⟨Nx M F0 H0 Mid, rt, bk, ct⟩ σ H) (h2 : ∀ σ L F H, Mid σ L → W M F0 H0 F H L → us ⟨nx, rt, bk, ct⟩ σ H) : C8.tCut ts us ⟨nx, rt, bk, ct⟩ σ H :=
  w_cut (Nx M F0 H0 Mid) h1 fun σ' H' ⟨L, F, h, w⟩ => h2 σ' L F H' h w
theorem n_lcR {n : Nat} (w : W M F0 H0 F H L) (P : Nat → List V → List Own → Prop) {L1 : List Own} (h0 : P 0 [] L1)
    (hs : ∀ (i : Nat) ys L F H D, i < n → P i ys L → W M F0 H0 F H (mu D (.lst ys) :: L) → H0 D = none → g (.int (i : Int)) (wipe σ vs) H fun σ2 H2 => wipe σ2 vs = wipe σ vs ∧ tt σ2 H2 fun b H3 =>
      if b = true then te σ2 H3 (accG D (NxC M F0 H0 (P (i + 1)) D)) else NxC M F0 H0 (P (i + 1)) D H3)
    (hd : ∀ D ys L F H, P n ys L → W M F0 H0 F H (mu D (.lst ys) :: L) → H0 D = none → Q (.ref D) H) (k : Pk L L1 := by walk_at "pk") : lcG g tt te vs (Itr 0 n) σ H Q := fun D nD =>
  lc_rng (fun i H => NxC M F0 H0 (P i) D H) ⟨[], L1, F, h0, (w.pk k).nw nD⟩ (fun i H hi ⟨ys, L, F, h, w'⟩ => hs i ys L F H D hi h w' (w.g.fresh nD)) fun H ⟨ys, L, F, h, w'⟩ => hd D ys L F H h w' (w.g.fresh nD)
theorem n_lcL (xs : List V) (w : W M F0 H0 F H L) (P : Nat → List V → List Own → Prop) {L1 : List Own} (h0 : P 0 [] L1) (hl : ∀ i ys L F H D, P i ys L → W M F0 H0 F H (mu D (.lst ys) :: L) → SqL K H a xs)
    (hs : ∀ (i : Nat) x ys L F H D, xs[i]? = some x → P i ys L → W M F0 H0 F H (mu D (.lst ys) :: L) → H0 D = none → g x (wipe σ vs) H fun σ2 H2 => wipe σ2 vs = wipe σ vs ∧ tt σ2 H2 fun b H3 =>
      if b = true then te σ2 H3 (accG D (NxC M F0 H0 (P (i + 1)) D)) else NxC M F0 H0 (P (i + 1)) D H3)
    (hd : ∀ D ys L F H, P xs.length ys L → W M F0 H0 F H (mu D (.lst ys) :: L) → H0 D = none → Q (.ref D) H) (k : Pk L L1 := by walk_at "pk") : lcG g tt te vs (Itl K a) σ H Q := fun D nD =>
  lc_list (xs := xs) (fun i H => NxC M F0 H0 (P i) D H) ⟨[], L1, F, h0, (w.pk k).nw nD⟩ (fun i H _ ⟨ys, L, F, h, w'⟩ => hl i ys L F H D h w') (fun i x H hx ⟨ys, L, F, h, w'⟩ => hs i x ys L F H D hx h w' (w.g.fresh nD)) fun H ⟨ys, L, F, h, w'⟩ => hd D ys L F H h w' (w.g.fresh nD)
theorem n_popAt {k : Int} (w : W M F0 H0 F H L) (kk : Pick L [mu p (.lst xs)] Rs) (j : Nat) (hj : k = (j : Nat)) (hl : xs.length ≤ 100000) (hy : xs[j]? = some y) (h : ∀ H2, W M F0 H0 F H2 (mu p (.lst (xs.eraseIdx j)) :: Rs) → Q y H2) : rPopAt (.ref p) [.int k] H Q := by
  subst hj
  have hi := (List.getElem?_eq_some_iff.mp hy).1
  refine ⟨p, xs, _, j, y, rfl, rfl, (w.to kk).at_ (List.mem_singleton.mpr rfl), by omega, by omega, ?_, hy, h _ (w.wr kk)⟩
  simp only [seqIndex?]
  first
    | rw [if_neg (by omega), if_pos (by omega)]; simp
    | (split <;> simp_all <;> omega)
    | (simp; omega)
theorem n_pop (w : W M F0 H0 F H L) (kk : Pick L [mu p (.lst (xs ++ [y]))] Rs) (h : ∀ H2, W M F0 H0 F H2 (mu p (.lst xs) :: Rs) → Q y H2) : rPop (.ref p) [] H Q := by
  refine ⟨p, xs ++ [y], y, rfl, rfl, (w.to kk).at_ (List.mem_singleton.mpr rfl), by simp, ?_⟩
  rw [List.dropLast_concat]
  exact h _ (w.wr kk)
theorem n_ext (w : W M F0 H0 F H L) (hb : H q = some (.lst ys)) (kk : Pick L [mu p (.lst xs)] Rs) (hl : xs.length + ys.length ≤ sizeLine) (h : ∀ H2, W M F0 H0 F H2 (mu p (.lst (xs ++ ys)) :: Rs) → Q .non H2) : rExtend (.ref p) [.ref q] H Q :=
  ⟨p, q, xs, ys, rfl, rfl, (w.to kk).at_ (List.mem_singleton.mpr rfl), hb, hl, h _ (w.wr kk)⟩
theorem getD_of {l : List V} {j : Nat} (h : j < l.length) : l[j]? = some (l.getD j .non) := by
  rw [List.getD_eq_getElem?_getD, List.getElem?_eq_getElem h]
  rfl
/-- over enumerate(list) -/
def enG (K : PySem.W.Frag) (vs : List V) (H : Hp) (Rr : It → Hp → Prop) : Prop := ∃ a xs, vs = [.ref a] ∧ SqL K H a xs ∧ Rr (Ite K a) H
theorem x_en {Rr : It → Hp → Prop} (h : t σ H fun vs H1 => enG K vs H1 Rr) : iEnum K t σ H Rr := h
instance {Rr : It → Hp → Prop} : Step (iEnum K t σ H Rr) (t σ H fun vs H1 => enG K vs H1 Rr) := ⟨x_en⟩ -- st
theorem W.calB {b : Addr} {F2 H2 : Hp} {L2 L3 : List Own} (w : W M F0 H0 F H L) (k : Pick L [R.bag K b] Rs) (w2 : W [b] F H F2 H2 L2) (e : App L2 Rs L3) : W M F0 H0 F2 H2 L3 := w.cal k w2 e rfl
theorem W.bag0 {b : Addr} {F2 H2 : Hp} (g : Gr [] H H F2 H2) (h : Bag K F2 H2 b) : W [] H H F2 H2 [R.bag K b] := by
  obtain ⟨c, cells, i, cur, st, k, h1, h2, _⟩ := h.ex
  refine ⟨g, fun o m => ?_, ?_, fun a m => ?_⟩
  · rw [List.mem_singleton.mp m]
    exact h
  · show ([b] : List Addr).Nodup
    simp
  · rw [show a = b from List.mem_singleton.mp m]
    exact .inr (g.ff.free h1)
theorem n_acc (ys : List V) {P : List V → List Own → Prop} (w : W M F0 H0 F H L) (hp : P (ys ++ [y]) Rs) (k : Pk L (mu D (.lst ys) :: Rs)) (hl : ys.length < sizeLine) : accG D (NxC M F0 H0 P D) y H := by
  have w' := w.pk k
  refine ⟨ys, w'.at_ (List.mem_cons_self ..), hl, ys ++ [y], Rs, F, hp, ?_⟩
  exact w'.wr (.cons .here .nil)
end
end R
namespace R
open PySem PySem.Spec PyProof.Rows L2
section
variable {P : Program} {w : World} {A : Around} {E : Value → Shared → Prop} {s : Shared}
/-- set(xs) of a list of ints -/
theorem set_listI {l : Addr} {items : Array Value} (ns : List Int) {Q : Value → Shared → Prop} (hh : A.handled = none) (hl : s.heap.IsList l items) (hit : IntsAre items.toList ns) (hb : ns.length + 1 < scanBound)
    (h : ∀ (h' : Heap) (tk c : Nat), SetR w h' s.heap.objs.size (fun j => decide (j ∈ ns)) c → c ≤ ns.length → (∀ b o, s.heap.get? b = some o → h'.get? b = some o) → Q (.ref s.heap.objs.size) { s with heap := h', toks := tk }) :
    wpAny (model P w) A (call (.type "set") [.ref l]) Q E s := by
  have hisz : items.size = ns.length := by
    have q := IntsAre.length hit
    rw [Array.length_toList] at q
    exact q
  obtain ⟨c, tl, hmro⟩ := F.called_set.mro
  have hmade := F.called_set.made
  have hsub := F.called_set.sub
  refine wpAny_call (codeAny_of_tree ?_)
  show wpAny _ _ (callAny (.type "set") _) _ _ _
  refine wpAny_pure ⟨Code.quiet_builtin _ (by decide +kernel), codeAny_builtin F.entry_type_call ?_⟩
  rw [Around.under_plain (weight_type_call_type "set" [.ref l] []) rfl]
  have h1 := F.called_set.notType
  have h2 := F.called_set.canCreate
  have hct := F.typeCall_set_1 (.ref l)
  repeat (any_goals (first | assumption | wp_step))
  refine codeAny_mono (code_set_led1 (.ref l) (E := E) (Q₁ := fun obj s₁ => obj = .ref s.heap.objs.size ∧ s₁ = { s with heap := s.heap.push { cls := .type "set", dict := none, data := .set #[] 0 (.fresh 0 0 (!w.params.followText "set-order")) } }) ⟨rfl, rfl⟩) fun r s₁ hr => ?_
  cases r with
  | error e => exact hr
  | ok fl =>
    cases fl with
    | ret obj =>
      obtain ⟨rfl, rfl⟩ := hr
      have hS : (s.heap.push { cls := .type "set", dict := none, data := .set #[] 0 (.fresh 0 0 (!w.params.followText "set-order")) }).get? s.heap.objs.size = some { cls := .type "set", dict := none, data := .set #[] 0 (.fresh 0 0 (!w.params.followText "set-order")) } := Heap.get?_push_size _ rfl
      have hT : Shared.TypeIs { s with heap := s.heap.push { cls := .type "set", dict := none, data := .set #[] 0 (.fresh 0 0 (!w.params.followText "set-order")) } } (.ref s.heap.objs.size) "set" := ⟨_, hS, rfl⟩
      have hli := F.called_set.init.lookup
      have hbi := F.called_set.init.bind (.ref s.heap.objs.size)
      repeat (any_goals (first | assumption | wp_step))
      refine codeAny_mono (codeAny_call_builtin (R := wants (fun r s₂ => r = .none ∧ ∃ h' tk c, s₂ = { s with heap := h', toks := tk } ∧ SetR w h' s.heap.objs.size (fun j => decide (j ∈ ns)) c ∧ c ≤ ns.length ∧
          (∀ b o, s.heap.get? b = some o → h'.get? b = some o)) E) F.called_set.init.plain F.entry_set_init (check_set_init_1 hT ?_)) fun r₂ s₂ hr₂ => ?_
      · obtain ⟨ol, hol, hcl, nl, hdl⟩ := hl
        obtain ⟨ocls, odict, odata, oslots⟩ := ol
        simp only at hcl hdl
        subst hcl; subst hdl
        have hol' : (s.heap.push { cls := .type "set", dict := none, data := .set #[] 0 (.fresh 0 0 (!w.params.followText "set-order")) }).get? l = some { cls := .type "list", dict := odict, data := .seq items nl, slots := oslots } := Heap.get?_push_of_some _ hol
        have hsls := F.sub_list_set
        have hslf := F.sub_list_frozenset
        have hne : (Value.type "list" == Value.type "dict") = false := by decide
        have hl1 : (s.heap.push { cls := .type "set", dict := none, data := .set #[] 0 (.fresh 0 0 (!w.params.followText "set-order")) }).IsList l items := ⟨_, hol', rfl, nl, rfl⟩
        unfold Builtin.«set.__init__» noKeywords Builtin.Frozenset.updateFrom
        generalize hPI : pyIter = PI
        wp_walk
        subst hPI
        refine wpAny_pyIter_list hl1 ?_
        refine wpAny_bind (wpAny_runValue ?_)
        have hlS : l < s.heap.objs.size := Heap.lt_size hol
        have hh3 : A.in1.in1.in1.handled = none := by simp [hh]
        have hneI : l ≠ (s.heap.push { cls := .type "set", dict := none, data := .set #[] 0 (.fresh 0 0 (!w.params.followText "set-order")) }).objs.size := by
          rw [Heap.size_push]; exact Nat.ne_of_lt (Nat.lt_succ_of_lt hlS)
        have hSf : s.heap.objs.size ∉ [(s.heap.push { cls := .type "set", dict := none, data := .set #[] 0 (.fresh 0 0 (!w.params.followText "set-order")) }).objs.size, l] := by
          rw [Heap.size_push]; simp only [List.mem_cons, List.mem_singleton, List.not_mem_nil, or_false, not_or]
          exact ⟨Nat.ne_of_lt (Nat.lt_succ_self _), Nat.ne_of_gt hlS⟩
        have hval : ∀ (i : Nat) (v : Value), items[i]? = some v → ∃ k t, ns[i]? = some k ∧ v = .int k t := fun i v hv => by
          have hi : i < ns.length := by rw [← hisz]; exact (Array.getElem?_eq_some_iff.mp hv).1
          obtain ⟨t, e⟩ := PyProof.Rows.IntsAre.int_at hit i v (by rw [Array.getElem?_toList]; exact hv)
          refine ⟨ns[i], t, List.getElem?_eq_getElem hi, ?_⟩
          rw [e, List.getD_eq_getElem?_getD, List.getElem?_eq_getElem hi] <;> rfl
        refine set_update_ints ((Walks.list hh3 _ l hneI items).toS) s.heap.objs.size
          hSf ns hisz hb hval (items.size - 0) 0 _ (by omega) (Nat.zero_le _)
          ⟨⟨_, Heap.get?_push_size _ rfl, rfl, rfl⟩, (hl1.push _)⟩ ?hS0 ?hR
        case hS0 =>
          have hget : ((s.heap.push { cls := .type "set", dict := none, data := .set #[] 0 (.fresh 0 0 (!w.params.followText "set-order")) }).push { cls := .type "list_iterator", data := .fields #[.ref l, .int 0 0] }).get? s.heap.objs.size
              = some { cls := .type "set", dict := none, data := .set #[] 0 (.fresh 0 0 (!w.params.followText "set-order")) } := Heap.get?_push_of_some _ hS
          exact ⟨0, Nat.le_refl 0, setR_new_at hget⟩
        case hR =>
          intro s' c' hm hc' hS'
          obtain ⟨h', g2, d', tk', os'⟩ := s'
          have eg : g2 = s.gens := hm.gens
          have ed : d' = s.drawn := hm.drawn
          have eo : os' = s.os := hm.os
          subst eg; subst ed; subst eo
          show wpAny _ _ _ _ _ _
          refine wpAny_pure ?_
          show wpAny _ _ (ret Value.none) _ _ _
          rw [hisz] at hc'
          refine wpAny_pure ⟨rfl, h', tk', c', rfl, hS', hc', fun b o e => ?_⟩
          have hb0 : b < s.heap.objs.size := Heap.lt_size e
          have hb1 : b ≠ s.heap.objs.size := Nat.ne_of_lt hb0
          have hb2 : b ≠ (s.heap.push { cls := .type "set", dict := none, data := .set #[] 0 (.fresh 0 0 (!w.params.followText "set-order")) }).objs.size := by
            rw [Heap.size_push]; exact Nat.ne_of_lt (Nat.lt_succ_of_lt hb0)
          exact hm.heap b o (by simp only [List.mem_cons, List.mem_singleton, List.not_mem_nil, or_false, not_or]; exact ⟨hb1, hb2⟩) (Heap.get?_push_of_some _ (Heap.get?_push_of_some _ e))
      · cases r₂ with
        | error e => exact hr₂
        | ok fl₂ =>
          cases fl₂ with
          | ret r =>
            obtain ⟨rfl, h', tk, c', rfl, hS', hc', hk'⟩ := hr₂
            repeat (any_goals (first | assumption | wp_step))
            exact h _ _ _ hS' hc' hk'
          | _ => exact hr₂.elim
    | _ => exact hr.elim
/-- sorted of a set of ints, any number of them -/
theorem sorted_setN {a : Addr} {S : Int → Bool} {n : Nat} {Q : Value → Shared → Prop} (R : SetR w s.heap a S n) (hh : A.handled = none) (hz : n ≤ sizeLine)
    (hQ : ∀ s' p (out : Array Value) (c : Nat) (ns : List Int), (∀ b o, s.heap.get? b = some o → s'.heap.get? b = some o) → s'.gens = s.gens → s'.os = s.os → s.heap.objs.size ≤ p →
      s'.heap.get? p = some (seqObj "list" out c) → IntsAre out.toList ns → ns.Pairwise (· < ·) → (∀ k, k ∈ ns ↔ S k = true) → ns.length = n → Q (.ref p) s') :
    wpAny (model P w) A (call (.builtin "sorted") [.ref a]) Q E s := by
  obtain ⟨o, es, ep, t, ho, hex, hd, g, nd, hm, hb, hf, hn, hr, hl⟩ := R
  refine Calls.call_function_entry kind_sorted plain_sorted entry_sorted (args_sorted1 _) ?_
  unfold Builtin.«sorted»
  refine wpAny_bind (m := checkCount "sorted" 1 1 _) (wpAny_pure ?_)
  refine wpAny_bind (collect_set (A := A.in1) hh ⟨o, ho, hex.1, hd⟩ hf hb hr hl fun s1 vs k1 hz g1 o1 pm => ?_)
  have hvl : vs.length = n := by rw [pm.length_eq, List.length_map, Array.length_toList]; exact hn
  have hI : IntsAre vs (vs.map Builtin.Re.reRawOf) := ints_of vs fun v hv => by
    obtain ⟨e, he, q⟩ := List.mem_map.mp (pm.mem_iff.mp hv)
    obtain ⟨k, tk, h1, _⟩ := g e he
    exact ⟨k, tk, by rw [← q]; exact h1⟩
  have pk : (vs.map Builtin.Re.reRawOf).Perm (es.toList.map keyOf) := by
    have q := pm.map Builtin.Re.reRawOf
    rw [List.map_map] at q
    exact q
  have hz2 : vs.length ≤ sizeLine := by rw [hvl]; assumption
  refine wpAny_bind (wpAny_newList ?_ hz2)
  have hoL : (s1.heap.push (seqObj "list" vs.toArray 0)).get? s1.heap.objs.size = some (seqObj "list" vs.toArray 0) := Heap.get?_push_size _ rfl
  refine wpAny_bind (wpAny_holding (wpAny_call_entry slot_list_sort ⟨_, hoL, rfl⟩ entry_list_sort
    (SrtO.list_sort_ord SrtO.swo_int hoL hz2 (fun h2 => SrtO.ints_sortable hI h2) fun out h1 h2 => ⟨_, rfl, ?_⟩) (args_list_sort _)))
  obtain ⟨k1', k2, k3⟩ := SrtO.ints_out hI h1 h2
  obtain ⟨c, hc⟩ := sortedHeap_at (vs := vs) (out := out.toArray) hoL
  have pn : (out.map SrtO.iv).Perm (es.toList.map keyOf) := k2.trans pk
  refine wpAny_pure ⟨_, rfl, hQ _ s1.heap.objs.size out.toArray c (out.map SrtO.iv) (fun b u e => ?_) g1 o1 hz hc k1' (lt_of_le_nodup _ k3 (pn.nodup_iff.mpr nd)) (fun k => by rw [pn.mem_iff, ← hm k]) ?_⟩
  · have q := k1 b u e
    have hlt := Heap.lt_size q
    show (sortedHeap (s1.heap.push (seqObj "list" vs.toArray 0)) s1.heap.objs.size vs out.toArray).get? b = some u
    rw [sortedHeap_old (Nat.ne_of_lt hlt) (by rw [size_push']; exact Nat.lt_succ_of_lt hlt)]
    exact Heap.get?_push_of_some _ q
  · rw [pn.length_eq, List.length_map, Array.length_toList]; exact hn
end
section
variable {X : Cx} {K : PySem.W.Frag} {w : World}
def rSetL (K : PySem.W.Frag) (w : World) : List V → Hp → VK → Prop := fun xs H Q => ∃ (a : Addr) (ns : List Int), xs = [.ref a] ∧ SqL K H a (ns.map V.int) ∧ ns.length ≤ 4000 ∧ ∀ p c, c ≤ ns.length → H p = none → Q (.ref p) (upd H p (SetO w p (fun j => decide (j ∈ ns)) c))
theorem clSetL (hc : X.calm = true := by rfl) (h : X.K = K := by rfl) (hw : X.w = w := by rfl) : CallR X (.type "set") (rSetL K w) := by
  subst h hw
  intro pins s σ H vs us Q I r h
  obtain ⟨a, ns, rfl, ha, hl, q⟩ := h
  obtain ⟨u, rfl, rx⟩ := vals1 r
  cases rx
  obtain ⟨its, rv, pl, hz⟩ := I.list ha
  have hi : IntsAre its.toArray.toList ns := ints_of_vals rv
  refine set_listI ns (I.ok.hd hc) (let ⟨o, n, e, c, _, d⟩ := pl; ⟨o, e, c, n, d⟩) hi (by unfold scanBound; omega) fun h' tk c R1 hcn k => ?_
  exact ⟨.ref _, upd H s.heap.objs.size (SetO X.w s.heap.objs.size (fun j => decide (j ∈ ns)) c), I.laid (t' := tk) k (Nat.le_refl _) (setO_new R1), rfl, q _ _ hcn (I.hok.fresh (Nat.le_refl _))⟩
def rSortS (w : World) : List V → Hp → VK → Prop := fun vs H Q => ∃ (a : Addr) (S : Int → Bool) (n : Nat), vs = [V.ref a] ∧ H a = some (SetO w a S n) ∧ n ≤ 100000 ∧
  ∀ (ns : List Int) (p : Addr), ns.Pairwise (· < ·) → (∀ k : Int, k ∈ ns ↔ S k = true) → ns.length = n → H p = none → Q (.ref p) (upd H p (.lst (ns.map V.int)))
theorem clSortS (hc : X.calm = true := by rfl) (hw : X.w = w := by rfl) : CallR X (.builtin "sorted") (rSortS w) := by
  subst hw
  intro pins s σ H vs us Q I r h
  obtain ⟨a, S, n, rfl, ha, hz, q⟩ := h
  have R := setO_get I ha
  rw [Vals.ref1 r]
  have hz' : n ≤ sizeLine := Nat.le_of_lt (by rw [sizeLine_eq]; omega)
  refine sorted_setN R (I.ok.hd hc) hz' fun s' p out c ns k g o hp hg hi hs hm hl => ?_
  have hlen : (ns.map V.int).length ≤ sizeLine := by rw [List.length_map, hl]; exact hz'
  have hn : H p = none := I.hok.fresh hp
  have J : Inv X pins σ (upd H p (.lst (ns.map V.int))) { s with heap := s'.heap, gens := s'.gens, drawn := s'.drawn, toks := s'.toks } :=
    I.call (ch := []) (Un.laid k hp hn) (I.hok.laid k hp ⟨hlen, out.toList, c, vals_of_ints hi, hg⟩) (by rw [g]; exact I.bare) (fun _ z => nomatch z)
  have e : s' = { s with heap := s'.heap, gens := s'.gens, drawn := s'.drawn, toks := s'.toks } := by
    cases s'
    cases s
    cases o
    rfl
  rw [e]
  exact ⟨.ref p, _, J, rfl, q ns p hs hm hl hn⟩
end
end R
namespace R
open PySem PySem.Spec PyProof.Rows L2
/-! ### list(s) of a text -/
def chars (z : Str) : List V := z.cps.toList.map fun c => V.str ⟨#[c]⟩
theorem chars_len (z : Str) : (chars z).length = z.length := by simp [chars, Str.length]
def rListS : List V → Hp → VK → Prop := fun xs H Q => ∃ z : Str, xs = [.str z] ∧ z.length ≤ sizeLine ∧ ∀ q, H q = none → Q (.ref q) (upd H q (.lst (chars z)))
theorem clListS {X : Cx} (hc : X.calm = true := by rfl) : CallR X (.type "list") rListS := by
  intro pins s σ H xs us Q I r h
  obtain ⟨z, rfl, hz, q⟩ := h
  obtain ⟨u, rfl, rx⟩ := vals1 r
  obtain ⟨t, rfl⟩ := rx
  refine PySem.call_list_str (I.ok.hd hc) z t (fun h' tk acc c' hk e hi => ?_) hz
  refine ⟨.ref s.heap.objs.size, upd H s.heap.objs.size (.lst (chars z)), I.laid hk (Nat.le_refl _) ⟨by rw [chars_len]; exact hz, acc.toList, c', ?_, by rw [Array.toArray_toList]; exact e⟩, rfl, q _ (I.hok.fresh (Nat.le_refl _))⟩
  refine vals_of_idx _ _ (by rw [chars_len, Array.length_toList]; exact hi.1) fun j u hj => ?_
  obtain ⟨c, t', hc, rfl⟩ := hi.2 j u (by rw [← Array.getElem?_toList]; exact hj)
  refine ⟨.str ⟨#[c]⟩, ?_, ⟨_, rfl⟩⟩
  unfold chars
  rw [List.getElem?_map, Array.getElem?_toList, hc]
  rfl
theorem n_listS {M : List Addr} {F0 H0 F H : Hp} {L : List Own} {Q : VK} {z : Str} (w : W M F0 H0 F H L) (hz : z.length ≤ sizeLine) (h : ∀ p F2 H2, W M F0 H0 F2 H2 (mu p (.lst (chars z)) :: L) → H0 p = none → Q (.ref p) H2) : rListS [.str z] H Q := ⟨z, rfl, hz, n_new w h⟩
/-! ### flat values -/
/-! ### slices -/
theorem cut_nat (xs : List V) (i j : Nat) : cutV xs (some (i : Int)) (some (j : Int)) = (xs.drop i).take (j - i) := by
  unfold cutV
  rw [HT.sIx_nat, HT.sIx_nat]
  by_cases h : i ≤ xs.length
  · rw [Nat.min_eq_left h]
    by_cases h2 : j ≤ xs.length
    · rw [Nat.min_eq_left h2]
    · rw [Nat.min_eq_right (by omega), List.take_of_length_le (by rw [List.length_drop]; exact Nat.le_refl _), List.take_of_length_le (by rw [List.length_drop]; omega)]
  · rw [Nat.min_eq_right (show xs.length ≤ i by omega), List.drop_eq_nil_of_le (Nat.le_refl _), List.drop_eq_nil_of_le (show xs.length ≤ i by omega), List.take_nil, List.take_nil]
theorem cut_to (xs : List V) (j : Nat) : cutV xs none (some (j : Int)) = xs.take j := by
  unfold cutV
  rw [HT.sIx_none, HT.sIx_nat, List.drop_zero, Nat.sub_zero]
  by_cases h : j ≤ xs.length
  · rw [Nat.min_eq_left h]
  · rw [Nat.min_eq_right (by omega), List.take_of_length_le (Nat.le_refl _), List.take_of_length_le (by omega)]
theorem cut_from (xs : List V) (i : Nat) : cutV xs (some (i : Int)) none = xs.drop i := by
  unfold cutV
  rw [HT.sIx_none, HT.sIx_nat]
  by_cases h : i ≤ xs.length
  · rw [Nat.min_eq_left h]
    exact List.take_of_length_le (by rw [List.length_drop]; exact Nat.le_refl _)
  · rw [Nat.min_eq_right (by omega), Nat.sub_self, List.take_zero, List.drop_eq_nil_of_le (by omega)]
/-! ### items put one by one from a place on -/
/-! ### moves -/
inductive Mv where
  | put (to : Nat) (s : Str)
  | copy (to a n : Nat)
def Mv.d : Mv → PyData
  | .put to s => .tuple [.str "put", .int to, .str s]
  | .copy to a n => .tuple [.str "copy", .int to, .int a, .int n]
def Mv.to : Mv → Nat
  | .put to _ => to
  | .copy to _ _ => to
def Mv.len : Mv → Nat
  | .put _ s => s.length
  | .copy _ _ n => n
def Mv.hi : Mv → Nat
  | .put _ _ => 0
  | .copy _ a n => a + n
def Mv.sOk : Mv → Prop
  | .put _ s => okS s ∧ s.length ≤ 1000
  | .copy to a _ => to ≠ a
structure MvOk (N : Nat) (m : Mv) : Prop where
  s : m.sOk
  p : 1 ≤ m.len
  t : m.to + m.len ≤ N
  h : m.hi ≤ N
def Mv.some (xs : List V) : Mv → List V
  | .put _ s => chars s
  | .copy _ a n => (xs.drop a).take n
section
variable {K : PySem.W.Frag} {F : Hp} {x : V}
/-- item i of a list of data -/
theorem dpa_at {α : Type} {f : α → PyData} {us : List V} {as : List α} {i : Nat} {y : V} (h : DpAll K F us (as.map f)) (hx : us[i]? = some y) : ∃ r, as[i]? = some r ∧ Dp K F y (f r) := by
  have hl := dpa_len h
  have hi := (List.getElem?_eq_some_iff.mp hx).1
  rw [List.length_map] at hl
  have hr : as[i]? = some as[i] := List.getElem?_eq_getElem (by omega)
  obtain ⟨v, hv, dv⟩ := dpa_get (i := i) (d := f as[i]) h (by rw [List.getElem?_map, hr]; rfl)
  rw [hx] at hv
  rw [Option.some.inj hv]
  exact ⟨_, hr, dv⟩
theorem dpa_perm {α : Type} {f : α → PyData} {us vs : List V} (p : us.Perm vs) : ∀ {as : List α}, DpAll K F us (as.map f) → ∃ bs, as.Perm bs ∧ DpAll K F vs (bs.map f) := by
  induction p with
  | nil => exact fun h => ⟨_, .refl _, h⟩
  | cons x _ ih =>
    intro as h
    cases as with
    | nil => cases h
    | cons a as =>
      cases h with
      | cons h t =>
        obtain ⟨bs, p, q⟩ := ih t
        exact ⟨a :: bs, p.cons _, .cons h q⟩
  | swap x y l =>
    intro as h
    cases as with
    | nil => cases h
    | cons a as =>
      cases h with
      | cons h t =>
        cases as with
        | nil => cases t
        | cons b as =>
          cases t with
          | cons h2 t => exact ⟨b :: a :: as, .swap _ _ _, .cons h2 (.cons h t)⟩
  | trans _ _ ih1 ih2 =>
    intro as h
    obtain ⟨bs, p, q⟩ := ih1 h
    obtain ⟨cs, p2, q2⟩ := ih2 q
    exact ⟨cs, p.trans p2, q2⟩
end
/-- no cell is written twice -/
def Apart (ms : List Mv) : Prop := ms.Pairwise fun m k => m.to + m.len ≤ k.to ∨ k.to + k.len ≤ m.to
theorem Apart.perm {ms ks : List Mv} (h : Apart ms) (p : ms.Perm ks) : Apart ks := (p.pairwise_iff (fun h => h.symm)).mp h
structure MvsOk (N : Nat) (ms : List Mv) : Prop where
  ok : ∀ m ∈ ms, MvOk N m
  ap : Apart ms
theorem MvsOk.perm {N : Nat} {ms ks : List Mv} (h : MvsOk N ms) (p : ms.Perm ks) : MvsOk N ks := ⟨fun m hm => h.ok m (p.mem_iff.mpr hm), h.ap.perm p⟩
theorem MvsOk.sub {N : Nat} {ms ks : List Mv} (h : MvsOk N ms) (p : ks.Sublist ms) : MvsOk N ks := ⟨fun m hm => h.ok m (p.mem hm), List.Pairwise.sublist p h.ap⟩
theorem nodup_lt : ∀ (N : Nat) (l : List Nat), l.Nodup → (∀ x ∈ l, x < N) → l.length ≤ N
  | 0, [], _, _ => Nat.le_refl _
  | 0, x :: l, _, h => absurd (h x (List.mem_cons_self ..)) (Nat.not_lt_zero _)
  | N + 1, l, hn, h => by
    have ih := nodup_lt N (l.erase N) (hn.erase N) fun x hx => by
      have h1 := h x (List.mem_of_mem_erase hx)
      have h2 : x ≠ N := fun e => by
        subst e
        exact (List.Nodup.mem_erase_iff hn).mp hx |>.1 rfl
      omega
    rw [List.length_erase] at ih
    split at ih <;> omega
/-- fewer than N + 1 of them -/
theorem MvsOk.len {N : Nat} {ms : List Mv} (h : MvsOk N ms) : ms.length ≤ N := by
  have hn : (ms.map Mv.to).Nodup := by
    refine List.pairwise_map.mpr (h.ap.imp_of_mem fun ha hb z => ?_)
    have := (h.ok _ ha).p
    have := (h.ok _ hb).p
    omega
  have hs : ∀ x ∈ ms.map Mv.to, x < N := fun x hx => by
    obtain ⟨m, hm, rfl⟩ := List.mem_map.mp hx
    have := (h.ok m hm).p
    have := (h.ok m hm).t
    omega
  have := nodup_lt N _ hn hs
  rwa [List.length_map] at this
/-! ### cuts and blocks -/
section
variable {K : PySem.W.Frag} {M : List Addr} {F0 H0 F H : Hp} {L : List Own} {Q : VK} {a : Addr} {ns : List Int} {wd : World}
theorem n_setI (w : W M F0 H0 F H L) (hs : SqL K H a (ns.map V.int)) (hl : ns.length ≤ 4000) (h : ∀ p c F2 H2, W M F0 H0 F2 H2 (mu p (SetO wd p (fun j => decide (j ∈ ns)) c) :: L) → c ≤ ns.length → H0 p = none → Q (.ref p) H2) : rSetL K wd [.ref a] H Q :=
  ⟨a, ns, rfl, hs, hl, fun p c hc np => h p c _ _ (w.nw np) hc (w.g.fresh np)⟩
theorem n_sortS {S : Int → Bool} {n : Nat} (w : W M F0 H0 F H L) (hs : H a = some (SetO wd a S n)) (hl : n ≤ 100000) (h : ∀ (ks : List Int) p F2 H2, W M F0 H0 F2 H2 (mu p (.lst (ks.map V.int)) :: L) → ks.Pairwise (· < ·) → (∀ k : Int, k ∈ ks ↔ S k = true) → ks.length = n → H0 p = none → Q (.ref p) H2) : rSortS wd [.ref a] H Q :=
  ⟨a, S, n, rfl, hs, hl, fun ks p h1 h2 h3 np => h ks p _ _ (w.nw np) h1 h2 h3 (w.g.fresh np)⟩
end
theorem cuts_nat {N : Nat} : ∀ {ns : List Int}, (∀ x ∈ ns, 0 ≤ x ∧ x ≤ (N : Int)) → ns.Pairwise (· < ·) → ∃ cs : List Nat, ns.map V.int = nV cs ∧ cs.Pairwise (· < ·) ∧ (∀ c ∈ cs, c ≤ N) ∧ (∀ k : Nat, k ∈ cs ↔ (k : Int) ∈ ns) ∧ cs.length = ns.length
  | [], _, _ => ⟨[], rfl, .nil, by simp, by simp, rfl⟩
  | x :: ns, h, p => by
    obtain ⟨p1, p2⟩ := List.pairwise_cons.mp p
    obtain ⟨cs, e, q1, q2, q3, q4⟩ := cuts_nat (ns := ns) (fun y hy => h y (List.mem_cons_of_mem _ hy)) p2
    have hx := h x (List.mem_cons_self ..)
    refine ⟨x.toNat :: cs, ?_, List.pairwise_cons.mpr ⟨fun c hc => ?_, q1⟩, fun c hc => ?_, fun k => ?_, by rw [List.length_cons, List.length_cons, q4]⟩
    · show V.int x :: ns.map V.int = V.int (x.toNat : Nat) :: nV cs
      rw [e, Int.toNat_of_nonneg hx.1]
    · have := p1 _ ((q3 c).mp hc)
      omega
    · rcases List.mem_cons.mp hc with rfl | hc
      · omega
      · exact q2 c hc
    · rw [List.mem_cons, List.mem_cons, q3]
      constructor
      · rintro (rfl | h)
        · exact .inl (Int.toNat_of_nonneg hx.1)
        · exact .inr h
      · rintro (h | h)
        · exact .inl (by omega)
        · exact .inr h
def blks : List Nat → List (Nat × Nat)
  | a :: b :: r => (a, b - a) :: blks (b :: r)
  | _ => []
theorem blks_len : ∀ cs : List Nat, (blks cs).length = cs.length - 1
  | [] => rfl
  | [_] => rfl
  | a :: b :: r => by
    rw [blks, List.length_cons, blks_len (b :: r)]
    simp
theorem blks_get : ∀ {cs : List Nat} {i x y : Nat}, cs[i]? = some x → cs[i + 1]? = some y → (blks cs)[i]? = some (x, y - x)
  | [], _, _, _, h, _ => by simp at h
  | [_], 0, _, _, _, h => by simp at h
  | [_], i + 1, _, _, h, _ => by simp at h
  | a :: b :: r, 0, x, y, h1, h2 => by
    have e1 := Option.some.inj h1
    have e2 := Option.some.inj h2
    subst e1 e2
    rfl
  | a :: b :: r, i + 1, x, y, h1, h2 => by
    rw [blks, List.getElem?_cons_succ]
    exact blks_get (cs := b :: r) h1 h2
theorem blks_ok {N : Nat} : ∀ {cs : List Nat}, cs.Pairwise (· < ·) → (∀ c ∈ cs, c ≤ N) → ∀ p ∈ blks cs, 1 ≤ p.2 ∧ p.1 + p.2 ≤ N
  | [], _, _, p, h => by cases h
  | [_], _, _, p, h => by cases h
  | a :: b :: r, q, hN, p, h => by
    obtain ⟨q1, q2⟩ := List.pairwise_cons.mp q
    rcases List.mem_cons.mp h with rfl | h
    · have h1 := q1 b (List.mem_cons_self ..)
      have h2 := hN b (List.mem_cons_of_mem _ (List.mem_cons_self ..))
      exact ⟨by show 1 ≤ b - a; omega, by show a + (b - a) ≤ N; omega⟩
    · exact blks_ok q2 (fun c hc => hN c (List.mem_cons_of_mem _ hc)) p h
theorem blks_sum {N : Nat} : ∀ {a : Nat} {cs : List Nat}, (a :: cs).Pairwise (· < ·) → (∀ c ∈ (a :: cs), c ≤ N) → ((blks (a :: cs)).map (·.2)).sum + a ≤ N
  | a, [], _, h => by
    show 0 + a ≤ N
    have := h a (List.mem_cons_self ..)
    omega
  | a, b :: r, q, h => by
    obtain ⟨q1, q2⟩ := List.pairwise_cons.mp q
    have ih := blks_sum q2 fun c hc => h c (List.mem_cons_of_mem _ hc)
    have h1 := q1 b (List.mem_cons_self ..)
    rw [blks, List.map_cons, List.sum_cons]
    show (b - a) + _ + a ≤ N
    omega
theorem blk_sum {N : Nat} {cs : List Nat} (q : cs.Pairwise (· < ·)) (h : ∀ c ∈ cs, c ≤ N) : ((blks cs).map (·.2)).sum ≤ N := by
  cases cs with
  | nil => exact Nat.zero_le _
  | cons a cs =>
    have := blks_sum q h
    omega
/-! ### promises -/
def φtextN (K : PySem.W.Frag) : V → V → Hp → VK → Prop := fun x y H Q => ∃ (F : Hp) (b : Addr) (n : Int), x = .ref b ∧ y = .int n ∧ St F H [bag K b] ∧ 0 ≤ n ∧ n ≤ 1000 ∧
  ∀ (s : Str) F2 H2, W [b] F H F2 H2 [bag K b] → (s.length : Int) = n → okS s → Q (.str s) H2
end R
namespace R
open PySem L2
/-! ### a class of the text: its methods with their promises, its making -/
structure DM (P : Program) (w : World) (K : PySem.W.Frag) (mg : Str → Option Value) (base : Heap) (k : Nat) (C m : Str) (ps : List Str) (dvs : List V) (sp : Sp) : Prop where
  ex : ∃ (fd : FuncData) (ds : List Value), FnOk P w K mg base CX0 k (He.ma K (He.ga K C) m) fd ps sp ∧ Meth K (He.ga K C) m (He.ma K (He.ga K C) m) ∧ Cls K (He.ga K C) ∧ Binds K fd ps ds ∧ Vals dvs ds
structure DN (P : Program) (w : World) (K : PySem.W.Frag) (mg : Str → Option Value) (base : Heap) (k : Nat) (C : Str) (ps : List Str) (dvs : List V) (sp : Sp) : Prop where
  ex : ∃ (fd : FuncData) (ds : List Value), FnOk P w K mg base CX0 k (He.ma K (He.ga K C) "__init__") fd ps sp ∧ Mk K (He.ga K C) (He.ma K (He.ga K C) "__init__") ∧ mg C = some (.ref (He.ga K C)) ∧ Binds K fd ps ds ∧ Vals dvs ds
section
variable {X : Cx} {k j n : Nat} {ps ks : List Str} {sp : Sp} {dvs : List V} {C m x : Str} {p pos apos : Pos} {o e : Expr} {es : List Expr} {kws : List Keyword} {ta : TE} {t tk : TA} {tp : List (Nat × Nat)} {pl : Sem Bool}
theorem pmake (D : DN X.prog X.w X.K X.mg X.base k x ps dvs sp) (hr : Room j X.A) (ha : PA X (e :: es) t) (hj : k + 1 ≤ j := by first | decide | exact Nat.le_refl _ | omega) (hg : Gl X x := by rfl) (hdb : (x == ("__debug__" : Str)) = false := by decide)
    (he : starEach (e :: es) X.env = (false, eval e X.env) :: starEach es X.env := by rfl) (hpl : (backTo pos (starEach es X.env)).any (·.1) = false := by rfl) :
    PE X (.Call (.Name x p) (e :: es) [] pos) (tMake (He.ga X.K x) sp dvs E0 t) := by
  obtain ⟨fd, ds, F, M, hm, hb, hd⟩ := D.ex
  exact pe_make M F (hr.mono hj) hg hm hb hd pass0 ha hdb he hpl
theorem pmeth (D : DM X.prog X.w X.K X.mg X.base k C m ps dvs sp) (hr : Room j X.A) (he : PE X o ta) (ha : PA X (e :: es) t) (hj : k ≤ j := by first | decide | exact Nat.le_refl _ | omega)
    (h1 : starEach (e :: es) X.env = (false, eval e X.env) :: starEach es X.env := by rfl) (h2 : (backTo pos (starEach es X.env)).any (·.1) = false := by rfl)
    (h3 : eval (.Call (.Attribute o m apos) (e :: es) [] pos) X.env = (eval o X.env >>= fun ov => standAt apos.atName >>= fun _ => holding [ov] (getMethod ov m pl) >>= fun q =>
      callWith pos q.1 q.2 (backTo pos (starEach (e :: es) X.env)) (backToKw pos (keywordEach [] X.env))) := by rfl) :
    PE X (.Call (.Attribute o m apos) (e :: es) [] pos) (tMeth (He.ga X.K C) m sp dvs E0 ta t) := by
  obtain ⟨fd, ds, F, M, c, hb, hd⟩ := D.ex
  exact pe_meth he c M F (hr.mono hj) hb hd pass0 ha h1 h2 h3
theorem pmeth0 (D : DM X.prog X.w X.K X.mg X.base k C m ps dvs sp) (hr : Room j X.A) (he : PE X o ta) (hj : k ≤ j := by first | decide | exact Nat.le_refl _ | omega)
    (h3 : eval (.Call (.Attribute o m apos) [] [] pos) X.env = (eval o X.env >>= fun ov => standAt apos.atName >>= fun _ => holding [ov] (getMethod ov m pl) >>= fun q =>
      callWith pos q.1 q.2 (backTo pos (starEach [] X.env)) (backToKw pos (keywordEach [] X.env))) := by rfl) :
    PE X (.Call (.Attribute o m apos) [] [] pos) (tMeth (He.ga X.K C) m sp dvs E0 ta tNil) := by
  obtain ⟨fd, ds, F, M, c, hb, hd⟩ := D.ex
  exact pe_meth0 he c M F (hr.mono hj) hb hd pass0 h3
end
/-! ### rules with the written part by its own name -/
section
variable {X : Cx} {K : PySem.W.Frag} {o value : Expr} {f : Str} {ta tv : TE} {pos p2 : Pos}
theorem psFld (ha : PE X o ta) (hv : PE X value tv) (hs : swapsWith value (some (.Attribute o f p2)) pos.line X.env = pure false) (h : X.K = K := by rfl) : PS X (.Assign [.Attribute o f p2] value pos) (sFld K ta tv f) := by
  subst h
  exact ps_fld ha hv hs
end
/-! ### steps -/
section
variable {K : PySem.W.Frag} {σ : L2.St} {H : Hp} {Q : VK} {ta tv : TE} {x v : V} {nx bk ct : L2.St → Hp → Prop} {rt : VK} {C a dx : Addr} {f m : Str} {fs : List (Str × V)}
/-- what an instance's field asks -/
def gFld (K : PySem.W.Frag) (f : Str) (x : V) (H : Hp) (Q : VK) : Prop := ∃ a C dx fs v, x = .ref a ∧ H a = some (.ins C dx fs) ∧ Cls K C ∧ NoAttr K C f ∧ fs.lookup f = some v ∧ Q v H
theorem w_fldE (q : ta σ H fun x H1 => gFld K f x H1 Q) : tFld K ta f σ H Q := q
instance : Step (tFld K ta f σ H Q) (ta σ H fun x H1 => gFld K f x H1 Q) := ⟨w_fldE⟩ -- st
theorem w_fld (c : Cls K C) (n : NoAttr K C f) (h : H a = some (.ins C dx fs)) (l : fs.lookup f = some v) (q : Q v H) : gFld K f (.ref a) H Q := ⟨a, C, dx, fs, v, rfl, h, c, n, l, q⟩
def gSFld (K : PySem.W.Frag) (f : Str) (x y : V) (H : Hp) (Z : Hp → Prop) : Prop := ∃ a C dx fs, x = .ref a ∧ H a = some (.ins C dx fs) ∧ Cls K C ∧ NoAttr K C f ∧ fs.length < 1000 ∧ Z (upd H a (.ins C dx (putF f y fs)))
theorem w_sfldE (q : tv σ H fun y H1 => ta σ H1 fun x H2 => gSFld K f x y H2 fun H3 => nx σ H3) : sFld K ta tv f ⟨nx, rt, bk, ct⟩ σ H := q
instance : Step (sFld K ta tv f ⟨nx, rt, bk, ct⟩ σ H) (tv σ H fun y H1 => ta σ H1 fun x H2 => gSFld K f x y H2 fun H3 => nx σ H3) := ⟨w_sfldE⟩ -- st
theorem w_sfld {Z : Hp → Prop} (c : Cls K C) (n : NoAttr K C f) (h : H a = some (.ins C dx fs)) (l : fs.length < 1000) (q : Z (upd H a (.ins C dx (putF f v fs)))) : gSFld K f (.ref a) v H Z := ⟨a, C, dx, fs, rfl, h, c, n, l, q⟩
theorem w_meth {sp : Sp} {dvs : List V} {E : XK} {t : TA} (q : ta σ H fun x H1 => ∃ a dx fs, x = .ref a ∧ H1 a = some (.ins C dx fs) ∧ fs.lookup m = none ∧ t σ H1 fun vs H2 => sp (x :: (vs ++ dvs)) H2 Q E) : tMeth C m sp dvs E ta t σ H Q := q
end
end R
namespace R
open PySem PySem.Spec PyProof.Rows L2
/-! ### the head's facts with one more of the written part -/
def obsEG (n : Nat) (fa : List He.Fa) (fn : List He.DefD) (ex : PySem.W.Frag → Bool) (g : Addr → Option Obj) : He.AlD × Bool := (He.obsDG n fa fn g, ex (He.frG g (He.asD g n)))
def hookE (n : Nat) (fa : List He.Fa) (fn : List He.DefD) (ex : PySem.W.Frag → Bool) : PySem.W.Hook where
  α := He.AlD × Bool
  obs := fun s => obsEG n fa fn ex s.heap.get?
  val := fun _ => (He.valD fn, true)
  says := fun _ h => ∃ K : PySem.W.Frag, K.In h ∧ He.SaysD fa fn K ∧ ex K = true
  of := fun _ _ e => ⟨_, He.frG_in, congrArg Prod.fst e, congrArg Prod.snd e⟩
  keeps := fun _ _ _ ⟨K, hK, c⟩ k => ⟨K, PySem.W.Frag.In.keeps hK k, c⟩
theorem obsEG_eq {n : Nat} {fa : List He.Fa} {fn : List He.DefD} {ex : PySem.W.Frag → Bool} {g : Addr → Option Obj} {s : Shared} (h : ∀ a, g a = s.heap.get? a) : obsEG n fa fn ex g = (hookE n fa fn ex).obs s := by
  have e : g = s.heap.get? := funext h
  rw [e] <;> rfl
def eqV2 (a b : Option (Option Value)) : Bool := decide (a = b)
/-- what isinstance asks of an own class -/
def insB (K : PySem.W.Frag) (C : Str) : Bool := eqV2 (PySem.W.findIn K (.ref (He.ga K C)) "__class__") (some (some (.builtin "object.__class__"))) &&
  (eqV2 (PySem.W.specialIn K (.builtin "object.__class__") "__get__") (some (some (.builtin "getset_descriptor.__get__"))) &&
  (decide (PySem.W.takesIn K (.builtin "object.__class__") = some true) && (decide (PySem.W.mroIn K (He.ga K C) (.type "object") = some true) && decide (PySem.W.kitOne K (.ref (He.ga K C)) (.ref (He.ga K C)) = some true))))
theorem insB_ok {K : PySem.W.Frag} {C : Str} (c : Cls K (He.ga K C)) (h : insB K C = true) : C8.InsC K (He.ga K C) := by
  unfold insB at h
  simp only [Bool.and_eq_true, eqV2, decide_eq_true_eq] at h
  obtain ⟨h1, h2, h3, h4, h5⟩ := h
  exact ⟨c, h1, h2, h3, h4, h5⟩
section
variable {X : Cx} {K : PySem.W.Frag} {k : Nat} {C : Str} {ps : List Str} {sp : Sp}
def rIsC (K : PySem.W.Frag) (C : Str) : List V → Hp → VK → Prop := fun xs H Q => ∃ a dx fs, xs = [.ref a, .ref (He.ga K C)] ∧ H a = some (.ins (He.ga K C) dx fs) ∧ Q (.bl true) H
theorem clIsC (c : C8.InsC X.K (He.ga X.K C)) : CallR X (.builtin "isinstance") (rIsC X.K C) := C8.call_isC c
def aftB (Q : VK) : VK := fun v H2 => ∃ k : Bool, v = .bl k ∧ Q (.bl k) H2
/-- x == y of two own instances by an own __eq__ -/
def rEqO (C : Addr) (sp : Sp) : R2 := fun x y H Q => ∃ a b dx dy fs gs, x = .ref a ∧ y = .ref b ∧ H a = some (.ins C dx fs) ∧ H b = some (.ins C dy gs) ∧ sp [.ref a, .ref b] H (aftB Q) E0
theorem opEqO (D : DM X.prog X.w X.K X.mg X.base k C "__eq__" ps [] sp) {j : Nat} (hr : Room j X.A) (hj : k ≤ j) : OpR X (compareOp .Eq) (rEqO (He.ga X.K C) sp) := by
  obtain ⟨fd, ds, F, c, _, hb, hv⟩ := D.ex
  cases hv
  intro pins s σ H x y u v Q I rx ry h
  obtain ⟨a, b, dx, dy, fs, gs, rfl, rfl, ha, hb', q⟩ := h
  cases rx
  cases ry
  obtain ⟨mA, J, _⟩ := ins_get I.hok ha
  obtain ⟨mB, J', _⟩ := ins_get I.hok hb'
  obtain ⟨od, J, _⟩ := J.look
  obtain ⟨od', J', _⟩ := J'.look
  obtain ⟨m, hF⟩ := I.fr
  show wpAny (model X.prog X.w) X.A (richCompare .Eq (.ref a) (.ref b)) (EP X pins σ Q) X.xe s
  refine PySem.W.cmp_K (op := .Eq) (tb := .ref (He.ga X.K C)) hr.units0 hF I.ok.mod.kin J J'.type (by simp [PySem.W.notFirst]) c.at_ c.fn ?_
  have hl := F.len _ _ _ _ q
  refine wpAny_call (codeAny_mono (F.run X.A X.stack s H ⟨[.ref a, .ref b], []⟩ [.ref a, .ref b] [.ref a, .ref b] _ E0 (hr.mono hj) I.env0 (by
    have := hb s [.ref a, .ref b] I.kIn (by simpa using hl)
    simpa using this) (.cons rfl (.cons rfl .nil)) q) fun r s' hq => ?_)
  cases r with
  | error e => exact pass0 pins σ H s e s' I hq
  | ok fl =>
    cases fl with
    | ret w =>
      obtain ⟨z, H', I', rz, n, ez, q⟩ := I.after hq
      subst ez
      cases rz
      exact ⟨.bl n, H', I', rfl, q⟩
    | next => exact False.elim hq
    | brk => exact False.elim hq
    | cont => exact False.elim hq
end
section
variable {K : PySem.W.Frag} {H : Hp} {Q : VK} {C : Str} {c : Addr} {a b dx dy : Addr} {fs gs : List (Str × V)} {sp : Sp}
theorem n_isC (h : H a = some (.ins (He.ga K C) dx fs)) (q : Q (.bl true) H) : rIsC K C [.ref a, .ref (He.ga K C)] H Q := ⟨a, dx, fs, rfl, h, q⟩
theorem n_eqO (h : H a = some (.ins c dx fs)) (h' : H b = some (.ins c dy gs)) (q : sp [.ref a, .ref b] H (aftB Q) E0) : rEqO c sp (.ref a) (.ref b) H Q := ⟨a, b, dx, dy, fs, gs, rfl, rfl, h, h', q⟩
end
end R
namespace R
open PySem L2
/-! ### instances in a reading -/
def mthG (C : Addr) (m : Str) (x : V) (H : Hp) (P : Prop) : Prop := (∃ a dx fs, x = .ref a ∧ H a = some (.ins C dx fs) ∧ fs.lookup m = none) ∧ P
def aftG (Q : VK) (x : Addr) : VK := fun v H2 => v = .non ∧ Q (.ref x) H2
def makG (C : Addr) (sp : Sp) (ws : List V) (E : XK) (H : Hp) (Q : VK) : Prop := ∀ x dx, H x = none → H dx = none → dx ≠ x → sp (.ref x :: ws) (upd (upd H dx (.own x)) x (.ins C dx [])) (aftG Q x) E
section
variable {K : PySem.W.Frag} {M : List Addr} {F0 H0 F H : Hp} {L Rs : List Own} {σ : L2.St} {Q : VK} {ta : TE} {v : V} {nx bk ct : L2.St → Hp → Prop} {rt : VK} {C a dx : Addr} {f m : Str} {fs : List (Str × V)}
theorem n_fld (h : H a = some (.ins C dx fs)) (l : fs.lookup f = some v) (c : Cls K C) (n : NoAttr K C f) (q : Q v H) : gFld K f (.ref a) H Q := w_fld c n h l q
instance : SideK (gFld K f (.ref a) H Q) 4 := ⟨⟩ -- st
theorem n_sfld {Z : Hp → Prop} (w : W M F0 H0 F H L) (k : Pick L [mu a (.ins C dx fs)] Rs) (c : Cls K C) (n : NoAttr K C f) (l : fs.length < 1000) (q : ∀ H2, W M F0 H0 F H2 (mu a (.ins C dx (putF f v fs)) :: Rs) → Z H2) : gSFld K f (.ref a) v H Z :=
  w_sfld c n ((w.to k).at_ (List.mem_singleton.mpr rfl)) l (q _ (w.wr k))
theorem x_meth {sp : Sp} {dvs : List V} {E : XK} {t : TA} (q : ta σ H fun x H1 => mthG C m x H1 (t σ H1 fun vs H2 => sp (x :: (vs ++ dvs)) H2 Q E)) : tMeth C m sp dvs E ta t σ H Q := by
  refine w_meth ?_
  refine cast ?_ q
  congr 1
  funext x H1
  unfold mthG
  refine propext ⟨?_, ?_⟩
  · rintro ⟨⟨a, dx, fs, h1, h2, h3⟩, h4⟩
    exact ⟨a, dx, fs, h1, h2, h3, h4⟩
  · rintro ⟨a, dx, fs, h1, h2, h3, h4⟩
    exact ⟨⟨a, dx, fs, h1, h2, h3⟩, h4⟩
instance {sp : Sp} {dvs : List V} {E : XK} {t : TA} : Step (tMeth C m sp dvs E ta t σ H Q) (ta σ H fun x H1 => mthG C m x H1 (t σ H1 fun vs H2 => sp (x :: (vs ++ dvs)) H2 Q E)) := ⟨x_meth⟩ -- st
theorem n_meth {P : Prop} (h : H a = some (.ins C dx fs)) (l : fs.lookup m = none) (q : P) : mthG C m (.ref a) H P := ⟨⟨a, dx, fs, rfl, h, l⟩, q⟩
instance {P : Prop} : SideK (mthG C m (.ref a) H P) 4 := ⟨⟩ -- st
theorem x_make {sp : Sp} {dvs : List V} {E : XK} {t : TA} (q : t σ H fun vs H1 => makG C sp (vs ++ dvs) E H1 Q) : tMake C sp dvs E t σ H Q := q
instance {sp : Sp} {dvs : List V} {E : XK} {t : TA} : Step (tMake C sp dvs E t σ H Q) (t σ H fun vs H1 => makG C sp (vs ++ dvs) E H1 Q) := ⟨x_make⟩ -- st
theorem n_make {sp : Sp} {ws : List V} {E : XK} (w : W M F0 H0 F H L) (q : ∀ x dx H2, W M F0 H0 F H2 (mu x (.ins C dx []) :: mu dx (.own x) :: L) → H0 x = none → sp (.ref x :: ws) H2 (aftG Q x) E) : makG C sp ws E H Q := by
  intro x dx nx ndx hne
  have w1 := w.nw (u := .own x) ndx
  have nx1 : upd H dx (.own x) x = none := by rw [upd_ne hne.symm]; exact nx
  exact q x dx _ (w1.nw (u := .ins C dx []) nx1) (w.g.fresh nx)
end
/-! ### rows of a change -/
inductive CRow where
  | put (s : Str)
  | copy (a n : Nat)
def CRow.d : CRow → PyData
  | .put s => .tuple [.str "put", .str s]
  | .copy a n => .tuple [.str "copy", .int a, .int n]
def CRow.gives : CRow → Nat
  | .put s => s.length
  | .copy _ n => n
def CRow.hi : CRow → Nat
  | .put _ => 0
  | .copy a n => a + n
def CRow.sOk : CRow → Prop
  | .put s => okS s ∧ s.length ≤ 1000
  | .copy _ _ => True
structure CRowOk (size : Nat) (r : CRow) : Prop where
  s : r.sOk
  p : 1 ≤ r.gives
  h : r.hi ≤ size
abbrev givesL (rows : List CRow) : Nat := (rows.map CRow.gives).sum
structure RowsOk (size : Nat) (rows : List CRow) : Prop where
  ok : ∀ r ∈ rows, CRowOk size r
  sum : givesL rows ≤ 400
theorem rows_len : ∀ {rows : List CRow}, (∀ r ∈ rows, 1 ≤ r.gives) → rows.length ≤ givesL rows
  | [], _ => Nat.le_refl _
  | r :: rows, h => by
    have ih := rows_len (rows := rows) fun q hq => h q (List.mem_cons_of_mem _ hq)
    have h1 := h r (List.mem_cons_self ..)
    show rows.length + 1 ≤ r.gives + givesL rows
    omega
theorem RowsOk.len {size : Nat} {rows : List CRow} (h : RowsOk size rows) : rows.length ≤ 400 := Nat.le_trans (rows_len fun r hr => (h.ok r hr).p) h.sum
section
variable {K : PySem.W.Frag} {F : Hp} {x : V}
theorem dp_cput {s : Str} (h : Dp K F x (CRow.put s).d) : ∃ a, x = .ref a ∧ SqT K F a [.str "put", .str s] := by
  obtain ⟨a, vs, rfl, hs, h0⟩ := dp_tup h
  obtain ⟨v1, us, rfl, h1, h0⟩ := dpa_cons h0
  obtain ⟨v2, us, rfl, h2, h0⟩ := dpa_cons h0
  cases dpa_nil h0
  rw [dp_str h1, dp_str h2] at hs
  exact ⟨a, rfl, hs⟩
theorem dp_ccopy {a n : Nat} (h : Dp K F x (CRow.copy a n).d) : ∃ p, x = .ref p ∧ SqT K F p [.str "copy", .int a, .int n] := by
  obtain ⟨a, v1, v2, v3, rfl, hs, h1, h2, h3⟩ := dp_tup3 h
  rw [dp_str h1, dp_int h2, dp_int h3] at hs
  exact ⟨a, rfl, hs⟩
theorem dp_cput' {p : Addr} {s : Str} (h : SqT K F p [.str "put", .str s]) : Dp K F (.ref p) (CRow.put s).d := .tup h (.cons (.str _) (.cons (.str _) .nil))
theorem dp_ccopy' {p : Addr} {a n : Nat} (h : SqT K F p [.str "copy", .int a, .int n]) : Dp K F (.ref p) (CRow.copy a n).d := .tup h (.cons (.str _) (.cons (.int _) (.cons (.int _) .nil)))
end
theorem crow_good {m : CRow} (h : m.sOk) : good m.d = true ∧ m.d.depth ≤ 1 := by
  cases m with
  | put s =>
    constructor
    · refine good_tuple (by simp) fun d hd => ?_
      simp only [List.mem_cons, List.not_mem_nil, or_false] at hd
      rcases hd with rfl | rfl
      · decide +kernel
      · exact str_good h.1 (Nat.le_trans h.2 (by decide))
    · refine depth_tuple fun d hd => ?_
      simp only [List.mem_cons, List.not_mem_nil, or_false] at hd
      rcases hd with rfl | rfl <;> exact Nat.le_refl _
  | copy a n =>
    constructor
    · refine good_tuple (by simp) fun d hd => ?_
      simp only [List.mem_cons, List.not_mem_nil, or_false] at hd
      rcases hd with rfl | rfl | rfl
      · decide +kernel
      · rfl
      · rfl
    · refine depth_tuple fun d hd => ?_
      simp only [List.mem_cons, List.not_mem_nil, or_false] at hd
      rcases hd with rfl | rfl | rfl <;> exact Nat.le_refl _
theorem crows_good {ms : List CRow} (h : ∀ m ∈ ms, m.sOk) (hl : ms.length ≤ 100000) : good (.list (ms.map CRow.d)) = true ∧ (PyData.list (ms.map CRow.d)).depth ≤ 2 := by
  constructor
  · refine good_list (by rw [List.length_map]; exact hl) fun d hd => ?_
    obtain ⟨r, hr, rfl⟩ := List.mem_map.mp hd
    exact (crow_good (h r hr)).1
  · refine depth_list fun d hd => ?_
    obtain ⟨r, hr, rfl⟩ := List.mem_map.mp hd
    exact (crow_good (h r hr)).2
/-- a change that stays -/
def insC (C dx r : Addr) (n : Nat) : HO := .ins C dx [("size", .int (n : Nat)), ("rows", .ref r)]
def Chg (K : PySem.W.Frag) (F : Hp) (x : V) (n : Nat) (rows : List CRow) : Prop := ∃ c dx r vs, x = .ref c ∧ F c = some (insC (He.ga K "Change") dx r n) ∧ F r = some (.lst vs) ∧ DpAll K F vs (rows.map CRow.d)
theorem Chg.same {K : PySem.W.Frag} {F F2 : Hp} {x : V} {n : Nat} {rows : List CRow} (s : Same F F2) (h : Chg K F x n rows) : Chg K F2 x n rows := by
  obtain ⟨c, dx, r, vs, e, h1, h2, h3⟩ := h
  exact ⟨c, dx, r, vs, e, s _ _ h1, s _ _ h2, dpa_same s _ _ h3⟩
def chg (K : PySem.W.Frag) (x : V) (n : Nat) (rows : List CRow) : Own := pur (fun F => Chg K F x n rows) fun s h => h.same s
/-! ### moves of a change -/
theorem gives_take {rows : List CRow} {i : Nat} {r : CRow} (h : rows[i]? = some r) : givesL (rows.take (i + 1)) = givesL (rows.take i) + r.gives := by
  unfold givesL
  rw [List.take_add_one, h, List.map_append, List.sum_append]
  rfl
theorem gives_le (rows : List CRow) (i : Nat) : givesL (rows.take i) ≤ givesL rows := by
  have := List.sum_append (l₁ := (rows.take i).map CRow.gives) (l₂ := (rows.drop i).map CRow.gives)
  rw [← List.map_append, List.take_append_drop] at this
  show ((rows.take i).map CRow.gives).sum ≤ (rows.map CRow.gives).sum
  omega
/-! ### promises -/
def φgives (K : PySem.W.Frag) : V → V → Hp → VK → Prop := fun x y H Q => ∃ (F : Hp) (r : CRow) (n : Nat), y = .int (n : Nat) ∧ Same F H ∧ Dp K F x r.d ∧ CRowOk n r ∧ ∀ F2 H2, W [] F H F2 H2 [] → Q (.int (r.gives : Nat)) H2
def φinit (K : PySem.W.Frag) : V → V → V → Hp → VK → Prop := fun x y z H Q => ∃ (F : Hp) (c dx a : Addr) (vs : List V) (n : Nat) (rows : List CRow), x = .ref c ∧ y = .int (n : Nat) ∧ z = .ref a ∧ St F H [mu c (.ins (He.ga K "Change") dx [])] ∧ SqL K F a vs ∧ DpAll K F vs (rows.map CRow.d) ∧ n ≤ 400 ∧ RowsOk n rows ∧
  ∀ r F2 H2, H r = none → W [c] F H F2 H2 [mu c (insC (He.ga K "Change") dx r n), mu r (.lst vs)] → Q .non H2
/-- the making of a change -/
theorem c_init {K : PySem.W.Frag} {M : List Addr} {F0 H0 F H : Hp} {L Rs : List Own} {Q : VK} {E : XK} {c dx a : Addr} {vs : List V} {n : Nat} {rows : List CRow} (w : W M F0 H0 F H L) (k : Pick L [mu c (.ins (He.ga K "Change") dx [])] Rs) (hc : H0 c = none) (hs : SqL K F a vs) (hd : DpAll K F vs (rows.map CRow.d)) (hn : n ≤ 400) (ok : RowsOk n rows)
    (q : ∀ F2 H2, W M F0 H0 F2 H2 (chg K (.ref c) n rows :: Rs) → Q (.ref c) H2) : S3 (φinit K) [.ref c, .int (n : Nat), .ref a] H (aftG Q c) E := by
  refine ⟨F, c, dx, a, vs, n, rows, rfl, rfl, rfl, w.st k, hs, hd, hn, ok, fun r F2 H2 hr w2 => ⟨rfl, ?_⟩⟩
  have hr' := w.g.fresh hr
  have hd2 := dpa_same w2.ff _ _ hd
  have w := w.cal k w2 (.cons (.cons .nil)) rfl
  have m1 := w.mu (p := c) (List.mem_cons_self ..)
  have w := w.fz (.cons .here .nil) hc
  have hd2 := dpa_same (Same.new (o := insC (He.ga K "Change") dx r n) m1.n) _ _ hd2
  have m2 := w.mu (p := r) (List.mem_cons_self ..)
  have w := w.fz (.cons .here .nil) hr'
  have hd2 := dpa_same (Same.new (o := .lst vs) m2.n) _ _ hd2
  refine q _ _ (w.push _ ⟨c, dx, r, vs, rfl, ?_, upd_same, hd2⟩)
  have hne : c ≠ r := fun e => by
    subst e
    have := m2.n
    rw [upd_same] at this
    cases this
  rw [upd_ne hne, upd_same]
theorem crows_snoc {n : Nat} {rows : List CRow} {r : CRow} (h : ∀ q ∈ rows, CRowOk n q) (hr : CRowOk n r) : ∀ q ∈ rows ++ [r], CRowOk n q := by
  intro q hq
  rcases List.mem_append.mp hq with hq | hq
  · exact h q hq
  · rw [List.mem_singleton.mp hq]
    exact hr
theorem gives_snoc (rows : List CRow) (r : CRow) : givesL (rows ++ [r]) = givesL rows + r.gives := by
  unfold givesL
  rw [List.map_append, List.sum_append]
  rfl
/-! ### the makers of k01 .. k16 -/
end R
namespace R
open PySem PySem.StrLaws Builtin.Str L2
/-! ### stretches of a text, by its signs -/
def inB (O x : List Nat) : Bool := (List.range (O.length + 1)).any fun a => decide (a + x.length ≤ O.length ∧ (O.drop a).take x.length = x)
/-! ### the least cost of each beginning -/
section
variable (p : Nat) (O N : List Nat)
/-- any rows that make the new text cost at least so much -/
def CRow.mk (O : List Nat) : CRow → List Nat
  | .put s => s.cps.toList
  | .copy a n => (O.drop a).take n
end
/-! ### texts by their signs -/
abbrev cd (z : Str) : List Nat := z.cps.toList
theorem cd_len (z : Str) : (cd z).length = z.length := by simp [Str.length]
theorem cd_inj {a b : Str} (h : cd a = cd b) : a = b := by
  obtain ⟨x⟩ := a
  obtain ⟨y⟩ := b
  have e : x = y := Array.toList_inj.mp h
  rw [e]
/-! ### the table -/
theorem ok_codes {z : Str} : okS z ↔ ∀ c ∈ cd z, c < 0x110000 := by
  show (z.cps.all (· < 0x110000)) = true ↔ _
  rw [← Array.all_toList, List.all_eq_true]
  exact ⟨fun h c hc => of_decide_eq_true (h c hc), fun h c hc => decide_eq_true (h c hc)⟩
theorem mk_len {O : List Nat} {n : Nat} (hO : O.length = n) {r : CRow} (ro : CRowOk n r) : (CRow.mk O r).length = r.gives := by
  cases r with
  | put s => simp [CRow.mk, CRow.gives, Str.length]
  | copy a k =>
    have h2 : a + k ≤ n := ro.h
    show ((O.drop a).take k).length = k
    rw [List.length_take, List.length_drop]
    omega
theorem mks_len {O : List Nat} {n : Nat} (hO : O.length = n) : ∀ {rows : List CRow}, (∀ r ∈ rows, CRowOk n r) → (rows.flatMap (CRow.mk O)).length = givesL rows
  | [], _ => rfl
  | r :: rows, h => by
    rw [List.flatMap_cons, List.length_append, mk_len hO (h r (List.mem_cons_self ..)), mks_len hO fun q hq => h q (List.mem_cons_of_mem _ hq)]
    rfl
/-! ### cells -/
def CRow.cellV : CRow → List V
  | .put s => chars s
  | .copy a n => (List.range n).map fun k => V.int ((a + k : Nat) : Int)
abbrev cellsV (rows : List CRow) : List V := rows.flatMap CRow.cellV
theorem cellV_len (r : CRow) : r.cellV.length = r.gives := by
  cases r with
  | put s => exact chars_len s
  | copy a n => simp [CRow.cellV, CRow.gives]
theorem cells_len : ∀ rows : List CRow, (cellsV rows).length = givesL rows
  | [] => rfl
  | r :: rows => by
    show (r.cellV ++ cellsV rows).length = r.gives + givesL rows
    rw [List.length_append, cellV_len, cells_len rows]
/-- a cell of a change of this size: a place or a sign -/
def CellOk (n : Nat) (v : V) : Prop := (∃ i : Nat, v = .int (i : Nat) ∧ i < n) ∨ ∃ c : Nat, v = .str ⟨#[c]⟩ ∧ c < 0x110000
theorem chars_get' {z : Str} {v : V} (h : v ∈ chars z) : ∃ c ∈ cd z, v = .str ⟨#[c]⟩ := by
  unfold chars at h
  obtain ⟨c, hc, rfl⟩ := List.mem_map.mp h
  exact ⟨c, hc, rfl⟩
theorem cells_ok {n : Nat} {rows : List CRow} (h : ∀ r ∈ rows, CRowOk n r) : ∀ v ∈ cellsV rows, CellOk n v := by
  intro v hv
  obtain ⟨r, hr, hv⟩ := List.mem_flatMap.mp hv
  have ro := h r hr
  cases r with
  | put s =>
    obtain ⟨c, hc, rfl⟩ := chars_get' hv
    exact .inr ⟨c, rfl, ok_codes.mp ro.s.1 c hc⟩
  | copy a k =>
    obtain ⟨j, hj, rfl⟩ := List.mem_map.mp hv
    have := List.mem_range.mp hj
    have hh : a + k ≤ n := ro.h
    exact .inl ⟨a + j, rfl, by omega⟩
/-- the sign that a cell gives of an old text -/
def outS (o : Str) : V → Str
  | .int i => ⟨#[(cd o).getD i.toNat 0]⟩
  | .str z => z
  | _ => ⟨#[]⟩
theorem outs_chars (o : Str) (l : List Nat) : ((l.map fun c => V.str ⟨#[c]⟩).map (outS o)).flatMap cd = l := by
  induction l with
  | nil => rfl
  | cons c l ih =>
    rw [List.map_cons, List.map_cons, List.flatMap_cons, ih]
    rfl
theorem outs_range (o : Str) (a : Nat) : ∀ n, a + n ≤ (cd o).length → (((List.range n).map fun k => V.int ((a + k : Nat) : Int)).map (outS o)).flatMap cd = ((cd o).drop a).take n
  | 0, _ => by simp
  | n + 1, h => by
    rw [List.range_succ, List.map_append, List.map_append, List.flatMap_append, outs_range o a n (by omega)]
    have e : ((cd o).drop a)[n]? = some ((cd o).getD (a + n) 0) := by
      rw [List.getElem?_drop, List.getD_eq_getElem?_getD, List.getElem?_eq_getElem (by omega)]
      rfl
    rw [List.take_add_one, e]
    rfl
theorem outs_rows (o : Str) {rows : List CRow} (h : ∀ r ∈ rows, CRowOk o.length r) : ((cellsV rows).map (outS o)).flatMap cd = rows.flatMap (CRow.mk (cd o)) := by
  induction rows with
  | nil => rfl
  | cons r rows ih =>
    show ((r.cellV ++ cellsV rows).map (outS o)).flatMap cd = CRow.mk (cd o) r ++ _
    rw [List.map_append, List.flatMap_append, ih fun q hq => h q (List.mem_cons_of_mem _ hq)]
    congr 1
    cases r with
    | put s => exact outs_chars o _
    | copy a n =>
      have hh : a + n ≤ o.length := (h _ (List.mem_cons_self ..)).h
      exact outs_range o a n (by rw [cd_len]; exact hh)
theorem join_cd (ys : List Str) : cd (Txt.join ⟨#[]⟩ ys) = ys.flatMap cd := by
  have e : TL.tl (Txt.join ⟨#[]⟩ ys) = (ys.map TL.tl).flatten := by
    rw [TL.join_eq, TL.tl_join]
    have key : ∀ l : List (List Nat), TL.joinL [] l = l.flatten := by
      intro l
      induction l with
      | nil => rfl
      | cons a l ih =>
        cases l with
        | nil => simp [TL.joinL]
        | cons b l =>
          rw [TL.joinL, ih]
          simp
    exact key _
  exact e.trans (by rw [List.flatMap_def])
theorem outS_ok {o : Str} {n : Nat} {v : V} (hn : o.length = n) (ok : okS o) (h : CellOk n v) : (outS o v).length = 1 ∧ okS (outS o v) := by
  rcases h with ⟨i, rfl, hi⟩ | ⟨c, rfl, hc⟩
  · refine ⟨rfl, ?_⟩
    show okS ⟨#[(cd o).getD i 0]⟩
    exact ok_sign ok (by omega)
  · exact ⟨rfl, ok_codes.mpr fun d hd => by
      have hd' : d ∈ [c] := hd
      rw [List.mem_singleton.mp hd']
      exact hc⟩
/-! ### promises -/
def φcells (K : PySem.W.Frag) : V → Hp → VK → Prop := fun x H Q => ∃ (F : Hp) (n : Nat) (rows : List CRow), Same F H ∧ Chg K F x n rows ∧ RowsOk n rows ∧ n ≤ 1000 ∧ ∀ p F2 H2, H p = none → W [] F H F2 H2 [mu p (.lst (cellsV rows))] → Q (.ref p) H2
def φdoneC (K : PySem.W.Frag) : V → V → Hp → VK → Prop := fun x y H Q => ∃ (F : Hp) (o : Str) (rows : List CRow), y = .str o ∧ Same F H ∧ Chg K F x o.length rows ∧ RowsOk o.length rows ∧ okS o ∧ o.length ≤ 1000 ∧ ∀ s F2 H2, W [] F H F2 H2 [] → cd s = rows.flatMap (CRow.mk (cd o)) → okS s → Q (.str s) H2
def φldone (K : PySem.W.Frag) : V → V → Hp → VK → Prop := fun x y H Q => ∃ (F : Hp) (a : Addr) (cs : List V) (o : Str), x = .ref a ∧ y = .str o ∧ Same F H ∧ SqL K F a cs ∧ (∀ v ∈ cs, CellOk o.length v) ∧ cs.length ≤ 1000 ∧ okS o ∧ o.length ≤ 1000 ∧ ∀ s F2 H2, W [] F H F2 H2 [] → cd s = (cs.map (outS o)).flatMap cd → okS s → Q (.str s) H2
/-! ### plain finds -/
end R
namespace R
open PySem PySem.Spec PyProof.Rows L2
/-! ### a method called by keywords -/
def tMethK0 (C : Addr) (m : Str) (n : Nat) (sp : Sp) (gV : List V → List V → List V) (E : XK) (ta : TE) (tk : TA) : TE := fun σ H Q => ta σ H fun x H1 => ∃ a dx fs, x = .ref a ∧ H1 a = some (.ins C dx fs) ∧ fs.lookup m = none ∧ tk σ H1 fun zs H2 => zs.length = n ∧ sp (gV [x] zs) H2 Q E
section
variable {σ : L2.St} {H : Hp} {Q : VK} {ta : TE} {C : Addr} {m : Str} {n : Nat} {sp : Sp} {gV : List V → List V → List V} {E : XK} {tk : TA}
theorem x_methK (q : ta σ H fun x H1 => mthG C m x H1 (tk σ H1 fun zs H2 => zs.length = n ∧ sp (gV [x] zs) H2 Q E)) : tMethK0 C m n sp gV E ta tk σ H Q := by
  unfold tMethK0
  refine cast ?_ q
  congr 1
  funext x H1
  unfold mthG
  refine propext ⟨?_, ?_⟩
  · rintro ⟨⟨a, dx, fs, h1, h2, h3⟩, h4⟩
    exact ⟨a, dx, fs, h1, h2, h3, h4⟩
  · rintro ⟨a, dx, fs, h1, h2, h3, h4⟩
    exact ⟨⟨a, dx, fs, h1, h2, h3⟩, h4⟩
instance : Step (tMethK0 C m n sp gV E ta tk σ H Q) (ta σ H fun x H1 => mthG C m x H1 (tk σ H1 fun zs H2 => zs.length = n ∧ sp (gV [x] zs) H2 Q E)) := ⟨x_methK⟩ -- st
end
end R
namespace R
open PySem PySem.Spec PyProof.Rows L2
/-! ### defs that raise an own exception, caught by except of its class -/
def SX1 (φ : V → Hp → VK → XK → Prop) : Sp := fun vs H Q E => match vs with | [x] => φ x H Q E | _ => False
def SX2 (φ : V → V → Hp → VK → XK → Prop) : Sp := fun vs H Q E => match vs with | [x, y] => φ x y H Q E | _ => False
def SX3 (φ : V → V → V → Hp → VK → XK → Prop) : Sp := fun vs H Q E => match vs with | [x, y, z] => φ x y z H Q E | _ => False
theorem SX1.len {φ : V → Hp → VK → XK → Prop} {vs : List V} {H : Hp} {Q : VK} {E : XK} (h : SX1 φ vs H Q E) : vs.length = 1 := by
  match vs, h with
  | [_], _ => rfl
theorem SX2.len {φ : V → V → Hp → VK → XK → Prop} {vs : List V} {H : Hp} {Q : VK} {E : XK} (h : SX2 φ vs H Q E) : vs.length = 2 := by
  match vs, h with
  | [_, _], _ => rfl
theorem SX3.len {φ : V → V → V → Hp → VK → XK → Prop} {vs : List V} {H : Hp} {Q : VK} {E : XK} (h : SX3 φ vs H Q E) : vs.length = 3 := by
  match vs, h with
  | [_, _, _], _ => rfl
/-- an own class of exceptions over ValueError, without own __init__ -/
structure EC (K : PySem.W.Frag) (mg : Str → Option Value) (C : Str) : Prop where
  g : mg C = some (.ref (He.ga K C))
  x : PySem.W.excIn K (He.ga K C) He.veBase "ValueError.__new__" = true
  k : PySem.W.keepIn K (.ref (He.ga K C)) = true
  s : PySem.W.subIn K (.ref (He.ga K C)) (.type "BaseException") = some true
  t : PySem.W.typeIn K (.ref (He.ga K C)) = some (.type "type")
  m : PySem.W.exmOne K (.ref (He.ga K C)) (.ref (He.ga K C)) = some true
theorem ec_ok {K : PySem.W.Frag} {mg : Str → Option Value} {C : Str} (g : mg C = some (.ref (He.ga K C)))
    (h : PySem.W.excIn K (He.ga K C) He.veBase "ValueError.__new__" = true ∧ PySem.W.keepIn K (.ref (He.ga K C)) = true ∧ PySem.W.subIn K (.ref (He.ga K C)) (.type "BaseException") = some true ∧ PySem.W.typeIn K (.ref (He.ga K C)) = some (.type "type"))
    (m : PySem.W.exmOne K (.ref (He.ga K C)) (.ref (He.ga K C)) = some true) : EC K mg C := ⟨g, h.1, h.2.1, h.2.2.1, h.2.2.2, m⟩
theorem PS.nox {X : Cx} {st : Stmt} {t : TS} (h : PS X.nox st t) : PS X st t := ⟨fun pins s σ H D I hw =>
  wpAny_mono (h.run pins s σ H D (I.wish _) hw) (fun _ _ q => q.unwish) fun _ _ z => False.elim z⟩
section
variable {X : Cx} {CX : CXT} {k j : Nat} {f C : Addr} {fd : FuncData} {ps : List Str} {sp : Sp} {E : L2.St → XK} {x m : Str} {p pos apos : Pos} {e o : Expr} {es : List Expr} {ta : TE} {t : TA} {W : WX} {pl : Sem Bool}
def tMethS (C : Addr) (m : Str) (sp : Sp) (E : L2.St → XK) (ta : TE) (t : TA) : TE := fun σ H Q => ta σ H fun x H1 => ∃ a dx fs, x = .ref a ∧ H1 a = some (.ins C dx fs) ∧ fs.lookup m = none ∧ t σ H1 fun vs H2 => sp (x :: vs) H2 Q (E σ)
/-- raise C('..') -/
def tRaiseO (K : PySem.W.Frag) (C : Str) (W : WX) : TS := fun _ σ H => W (.ref (He.ga K C)) none σ H
/-- try: .. except C: .. -/
def wTry (K : PySem.W.Frag) (C : Addr) (ts : TS) (D : Ends) : WX := wOnly K (.ref C) (fun _ _ _ => ts) (fun _ _ _ _ => False) D
def tTry (K : PySem.W.Frag) (C : Addr) (tb : WX → TS) (ts : TS) : TS := fun D σ H => tb (wTry K C ts D) D σ H
end
section
variable {K : PySem.W.Frag} {mg : Str → Option Value} {σ : L2.St} {H : Hp} {Q : VK} {E : XK} {C : Str} {D : Ends} {W : WX} {tb : WX → TS} {ts : TS} {sp : Sp} {m : Str} {ta : TE} {t : TA} {Cc : Addr} {EE : L2.St → XK}
theorem x_try (q : tb (wTry K Cc ts D) D σ H) : tTry K Cc tb ts D σ H := q
instance : Step (tTry K Cc tb ts D σ H) (tb (wTry K Cc ts D) D σ H) := ⟨x_try⟩ -- st
theorem x_callS (q : t σ H fun vs H1 => sp vs H1 Q (EE σ)) : tCallS sp EE t σ H Q := q
instance : Step (tCallS sp EE t σ H Q) (t σ H fun vs H1 => sp vs H1 Q (EE σ)) := ⟨x_callS⟩ -- st
theorem x_methS (q : ta σ H fun x H1 => mthG Cc m x H1 (t σ H1 fun vs H2 => sp (x :: vs) H2 Q (EE σ))) : tMethS Cc m sp EE ta t σ H Q := by
  unfold tMethS
  refine cast ?_ q
  congr 1
  funext x H1
  unfold mthG
  refine propext ⟨?_, ?_⟩
  · rintro ⟨⟨a, dx, fs, h1, h2, h3⟩, h4⟩
    exact ⟨a, dx, fs, h1, h2, h3, h4⟩
  · rintro ⟨a, dx, fs, h1, h2, h3, h4⟩
    exact ⟨⟨a, dx, fs, h1, h2, h3⟩, h4⟩
instance : Step (tMethS Cc m sp EE ta t σ H Q) (ta σ H fun x H1 => mthG Cc m x H1 (t σ H1 fun vs H2 => sp (x :: vs) H2 Q (EE σ))) := ⟨x_methS⟩ -- st
theorem x_raise (q : W (.ref (He.ga K C)) none σ H) : tRaiseO K C W D σ H := q
instance : Step (tRaiseO K C W D σ H) (W (.ref (He.ga K C)) none σ H) := ⟨x_raise⟩ -- st
end
/-! ### promises -/
end R
/-! ### own exceptions with a field, over a built-in class that the kit's rules for ValueError leave out -/
namespace R
section
open PySem PySem.Spec PyProof.Rows L2
/-- what the text's class is known by -/
structure XCls (K : PySem.W.Frag) (C : Addr) (tail : List Value) (newId : String) : Prop where
  cls : ∃ nm q N bs sn sub ab col dd k0 k1 k2 k3 k5, K.lookup C = some (excClassObj nm q C N bs tail true sn sub ab col dd k0 k1 k2 k3 k5 newId)
  sa : PySem.W.findIn K (.ref C) "__setattr__" = some (some (.builtin "object.__setattr__"))
  s : PySem.W.subIn K (.ref C) (.type "BaseException") = some true
  t : PySem.W.typeIn K (.ref C) = some (.type "type")
  k : PySem.W.keepIn K (.ref C) = true
/-! ### the steps -/
section
variable {X : Cx} {B newId initId : String} {tail : List Value} {C f x : Str} {ta to te : TE} {t tk : TA} {e o : Expr} {es : List Expr} {kws : List Keyword} {p p1 p2 pos : Pos} {k j n : Nat} {ps ks : List Str} {sp : Sp} {dvs : List V} {W : WX} {tp : List (Nat × Nat)}
/-- B.__init__(self, ..) -/
def tXi (K : PySem.W.Frag) (tail : List Value) (newId : String) (t : TA) : TE := fun σ H Q => t σ H fun vs H1 => ∃ (a C : Addr) (ws : List V), vs = .ref a :: ws ∧ ws.length ≤ 1000 ∧ XCls K C tail newId ∧ H1 a = some (exo a C none) ∧ Q .non H1
/-- self.f = e in an own __init__ of an exception -/
def tXo (K : PySem.W.Frag) (tail : List Value) (newId : String) (f : Str) (to te : TE) : TS := fun D σ H => te σ H fun y H1 => to σ H1 fun x H2 => ∃ a C : Addr, x = .ref a ∧ XCls K C tail newId ∧ PySem.W.findIn K (.ref C) f = some none ∧ H2 a = some (exo a C none) ∧
  ∀ dx, H2 dx = none → dx ≠ a → D.nx σ (upd (upd H2 dx (exd dx [(f, y)])) a (exo a C (some dx)))
/-- C(e) made to be raised -/
def tMkF (C : Addr) (f : Str) (t : TA) : L2.St → Hp → XK → Prop := fun σ H Q => t σ H fun vs H1 => ∃ y, vs = [y] ∧ ∀ d, H1 d = none → Q (.ref C) (some d) (upd H1 d (.xd [(f, y)]))
/-- raise C(e) -/
def tRaiseF (C : Addr) (f : Str) (W : WX) (t : TA) : TS := fun _ σ H => tMkF C f t σ H fun cls d H2 => W cls d σ H2
/-! ### defs that may raise, called with defaults and keywords -/
def tCallD (sp : Sp) (dvs : List V) (E : L2.St → XK) (t : TA) : TE := fun σ H Q => t σ H fun vs H1 => sp (vs ++ dvs) H1 Q (E σ)
def tCallKD (n m : Nat) (sp : Sp) (g : List V → List V → List V) (E : L2.St → XK) (t tk : TA) : TE := fun σ H Q => t σ H fun vs H1 => tk σ H1 fun zs H2 => vs.length = n ∧ zs.length = m ∧ sp (g vs zs) H2 Q (E σ)
/-! ### try: .. except C as n: .. -/
def wTryA (K : PySem.W.Frag) (C : Addr) (i : Nat) (ts : Addr → Value → Option Addr → TS) (D : Ends) : WX := wAs K (.ref C) i ts (fun _ _ _ _ => False) D
def tTryA (K : PySem.W.Frag) (C : Addr) (i : Nat) (tb : WX → TS) (ts : Addr → Value → Option Addr → TS) : TS := fun D σ H => tb (wTryA K C i ts D) D σ H
end
section
variable {K : PySem.W.Frag} {mg : Str → Option Value} {σ : L2.St} {H : Hp} {Q : VK} {C f : Str} {D : Ends} {W : WX} {tb : WX → TS} {ts : Addr → Value → Option Addr → TS} {sp : Sp} {dvs : List V} {t tk : TA} {n m i : Nat} {Cc : Addr} {EE : L2.St → XK} {te : TE} {g : List V → List V → List V}
theorem x_tryA (q : tb (wTryA K Cc i ts D) D σ H) : tTryA K Cc i tb ts D σ H := q
instance : Step (tTryA K Cc i tb ts D σ H) (tb (wTryA K Cc i ts D) D σ H) := ⟨x_tryA⟩ -- st
theorem x_callD (q : t σ H fun vs H1 => sp (vs ++ dvs) H1 Q (EE σ)) : tCallD sp dvs EE t σ H Q := q
instance : Step (tCallD sp dvs EE t σ H Q) (t σ H fun vs H1 => sp (vs ++ dvs) H1 Q (EE σ)) := ⟨x_callD⟩ -- st
theorem x_callKD (q : t σ H fun vs H1 => tk σ H1 fun zs H2 => vs.length = n ∧ zs.length = m ∧ sp (g vs zs) H2 Q (EE σ)) : tCallKD n m sp g EE t tk σ H Q := q
instance : Step (tCallKD n m sp g EE t tk σ H Q) (t σ H fun vs H1 => tk σ H1 fun zs H2 => vs.length = n ∧ zs.length = m ∧ sp (g vs zs) H2 Q (EE σ)) := ⟨x_callKD⟩ -- st
def gXi (K : PySem.W.Frag) (tail : List Value) (newId : String) (vs : List V) (H1 : Hp) (Q : VK) : Prop := ∃ (a C : Addr) (ws : List V), vs = .ref a :: ws ∧ ws.length ≤ 1000 ∧ XCls K C tail newId ∧ H1 a = some (exo a C none) ∧ Q .non H1
theorem x_xi {tail : List Value} {newId : String} (q : t σ H fun vs H1 => gXi K tail newId vs H1 Q) : tXi K tail newId t σ H Q := q
instance {tail : List Value} {newId : String} : Step (tXi K tail newId t σ H Q) (t σ H fun vs H1 => gXi K tail newId vs H1 Q) := ⟨x_xi⟩ -- st
def gXo (K : PySem.W.Frag) (tail : List Value) (newId : String) (f : Str) (D : Ends) (σ : L2.St) (y x : V) (H2 : Hp) : Prop := ∃ a C : Addr, x = .ref a ∧ XCls K C tail newId ∧ PySem.W.findIn K (.ref C) f = some none ∧ H2 a = some (exo a C none) ∧
  ∀ dx, H2 dx = none → dx ≠ a → D.nx σ (upd (upd H2 dx (exd dx [(f, y)])) a (exo a C (some dx)))
theorem x_xo {tail : List Value} {newId : String} {to : TE} (q : te σ H fun y H1 => to σ H1 fun x H2 => gXo K tail newId f D σ y x H2) : tXo K tail newId f to te D σ H := q
instance {tail : List Value} {newId : String} {to : TE} : Step (tXo K tail newId f to te D σ H) (te σ H fun y H1 => to σ H1 fun x H2 => gXo K tail newId f D σ y x H2) := ⟨x_xo⟩ -- st
def gRF (C : Addr) (f : Str) (W : WX) (σ : L2.St) (vs : List V) (H1 : Hp) : Prop := ∃ y, vs = [y] ∧ ∀ d, H1 d = none → W (.ref C) (some d) σ (upd H1 d (.xd [(f, y)]))
theorem x_rf (q : t σ H fun vs H1 => gRF Cc f W σ vs H1) : tRaiseF Cc f W t D σ H := q
instance : Step (tRaiseF Cc f W t D σ H) (t σ H fun vs H1 => gRF Cc f W σ vs H1) := ⟨x_rf⟩ -- st
def gXf (a : Addr) (cls : Value) (d : Option Addr) (C : Addr) (f : Str) (x : V) (H : Hp) (Q : VK) : Prop := x = .ref a ∧ cls = .ref C ∧ ∃ (dd : Addr) (fs : List (Str × V)) (v : V), d = some dd ∧ H dd = some (.xd fs) ∧ fs.lookup f = some v ∧ Q v H
theorem x_xf {a : Addr} {cls : Value} {d : Option Addr} (q : te σ H fun x H1 => gXf a cls d Cc f x H1 Q) : tXf a cls d Cc f te σ H Q := q
instance {a : Addr} {cls : Value} {d : Option Addr} : Step (tXf a cls d Cc f te σ H Q) (te σ H fun x H1 => gXf a cls d Cc f x H1 Q) := ⟨x_xf⟩ -- st
end
end
end R
/-! ### exceptions that are kept behind their suite -/
namespace R
open PySem PySem.Spec PyProof.Rows L2
/-- at a: an exception of the class cls, its dict at d -/
def exk (a : Addr) (cls : Value) (d : Option Addr) : HO := .ext fun h => ∃ (oe : Obj) (vs : Array Value), h.get? a = some oe ∧ Zc cls d oe ∧ oe.data = .fields vs
theorem exk_ok {P : Program} {w : World} {H : Hp} {h : Heap} {a : Addr} {cls : Value} {d : Option Addr} {oe : Obj} {vs : Array Value} (e : h.get? a = some oe) (z : Zc cls d oe) (f : oe.data = .fields vs) : ObjOk P w H h a (exk a cls d) :=
  ⟨⟨oe, vs, e, z, f⟩, ⟨oe, e⟩, fun h1 h2 x k => by
    obtain ⟨o2, v2, e2, r2⟩ := x
    exact ⟨o2, v2, k _ e2, r2⟩⟩
section
variable {X : Cx} {pins : List (Addr × Obj)} {σ : L2.St} {H : Hp} {s : Shared} {a : Addr} {o : HO}
/-- an object that stands already is tracked from now on -/
theorem trk (I : Inv X pins σ H s) (na : H a = none) (nb : X.s_0.heap.get? a = none) (nL : a ≠ X.env.locals) (nC : ∀ x c, X.env.cells.lookup x = some c → c ≠ a) (nP : ∀ p ∈ X.pn ++ pins, p.1 ≠ a) (ok : ObjOk X.prog X.w (upd H a o) s.heap a o) :
    Inv X pins σ (upd H a o) s := by
  have far : ∀ {b : Addr} {u : HO}, H b = some u → b ≠ a := fun {b u} e z => by
    rw [z, na] at e
    cases e
  refine ⟨I.ok, I.os, I.bare, ⟨I.base.keep, I.base.slot, fun b ob e n hx => ?_, I.base.there, fun b xs e => ?_, fun b ob u e => ?_, fun b ps e => ?_⟩, I.loc, I.cell, ?_, fun x c e => ?_, fun p hp => ?_, fun b ob e => ?_, I.len⟩
  · rw [upd_ne (fun z => by rw [z, nb] at e; cases e)]
    exact I.base.free b ob e n hx
  · have q := I.base.tups b xs e
    rw [upd_ne (far q)]
    exact q
  · have q := I.base.frzs b ob u e
    rw [upd_ne (far q)]
    exact q
  · obtain ⟨more, q⟩ := I.base.tbls b ps e
    exact ⟨more, by rw [upd_ne (far q)]; exact q⟩
  · rw [upd_ne nL.symm]
    exact I.free
  · rw [upd_ne (nC x c e)]
    exact I.freeC x c e
  · obtain ⟨p1, p2, p3⟩ := I.pin p hp
    exact ⟨p1, by rw [upd_ne (nP p hp)]; exact p2, p3⟩
  · by_cases hb : b = a
    · subst hb
      rw [upd_same] at e
      cases e
      exact ok
    · rw [upd_ne hb] at e
      exact (I.hok b ob e).stay (fun _ _ _ r => r) (fun c q => by rw [upd_ne (far q)]; exact q) fun c xs q => by rw [upd_ne (far q)]; exact q
/-- what a clause's test asks -/
def TstOk (X : Cx) (t : Expr) (m : Value → Option Bool) : Prop := ∀ (a : Addr) (pn : List (Addr × Obj)) (σ : L2.St) (H : Hp) (s : Shared) (cls : Value) (b : Bool) (Q : Bool → Shared → Prop) (E : Value → Shared → Prop), Inv (X.suite a pn) [] σ H s →
  PySem.W.Looks (model X.prog X.w) s.heap (typeOf (.ref a)) cls → m cls = some b → (∀ h2, (∀ q o, s.heap.get? q = some o → h2.get? q = some o) → Q b { s with heap := h2 }) →
  wpAny (model X.prog X.w) (X.A.mark (some (.ref a))) (eval t X.env) (fun c s1 => wpAny (model X.prog X.w) (X.A.mark (some (.ref a))) (excMatches (.ref a) c) Q E s1) E s
theorem nm_at {a : Addr} {pn : List (Addr × Obj)} {x : Str} {c : Value} {np : Pos} {Q E : Value → Shared → Prop} (hc : Names X x c) (I : Inv (X.suite a pn) [] σ H s) (z : Q c s) : wpAny (model X.prog X.w) (X.A.mark (some (.ref a))) (eval (.Name x np) X.env) Q E s := by
  obtain ⟨hg, hd, e | ⟨e, v, n⟩⟩ := hc
  · exact ld_glob I hg e z hd
  · exact ld_blt I hg e v z n hd
theorem tst_four {x1 x2 x3 x4 : Str} {c1 c2 c3 c4 : Value} {p1 p2 p3 p4 tpos : Pos} {kk : Nat} (n1 : Names X x1 c1) (n2 : Names X x2 c2) (n3 : Names X x3 c3) (n4 : Names X x4 c4) :
    TstOk X (.Tuple [.Name x1 p1, .Name x2 p2, .Name x3 p3, .Name x4 p4] kk tpos) (fun cls => PySem.W.exmAny X.K cls [c1, c2, c3, c4]) := by
  intro a pn σ H s cls b Q E I LT hm q
  refine wpAny_Tuple (wpAny_items_cons (nm_at n1 I (wpAny_items_cons (nm_at n2 I (wpAny_items_cons (nm_at n3 I (wpAny_items_cons (nm_at n4 I (wpAny_items_nil ⟨by size_fits, ?_⟩)))))))))
  have kp : ∀ b o, s.heap.get? b = some o → (s.heap.push { cls := .type "tuple", data := .seq [c1, c2, c3, c4].toArray }).get? b = some o := fun _ _ z => Heap.get?_push_of_some _ z
  exact (PySem.W.exm_tup4 (I.kIn.keeps kp) (LT.keeps kp) (Heap.get?_push_size s.heap rfl) hm).here (q _ kp)
/-! ### the clauses -/
structure Cl where
  m : Value → Option Bool
  i : Option Nat
  ts : Addr → Value → Option Addr → TS
def setK (i : Option Nat) (a : Addr) (σ : L2.St) : L2.St := match i with
  | some i => σ.set i (some (.ref a))
  | none => σ
def unK (i : Option Nat) (σ : L2.St) : L2.St := match i with
  | some i => σ.set i none
  | none => σ
/-- the ends of a suite that keeps its exception -/
def endK (i : Option Nat) (a : Addr) (cls : Value) (d : Option Addr) (D : Ends) : Ends where
  nx := fun σ2 H2 => H2 a = none → D.nx (unK i σ2) (upd H2 a (exk a cls d))
  rt := D.rt
  bk := fun σ2 H2 => D.bk (unK i σ2) H2
  ct := fun σ2 H2 => D.ct (unK i σ2) H2
def wK (Wout : WX) (D : Ends) : List Cl → WX
  | [] => Wout
  | c :: r => fun cls d σ H => ∃ b, c.m cls = some b ∧ (b = true → ∀ a, H a = none → c.ts a cls d (endK c.i a cls d D) (setK c.i a σ) H) ∧ (b = false → wK Wout D r cls d σ H)
theorem nocell {h : Heap} {a : Addr} {oe : Obj} {vs : Array Value} {v : Option Value} (e : h.get? a = some oe) (f : oe.data = .fields vs) (c : h.IsCell a v) : False := by
  obtain ⟨oc, ec, dc⟩ := c
  rw [e] at ec
  cases ec
  rw [f] at dc
  cases dc
theorem flies_on {B : Heap} {l : List Env} {a : Addr} {Z : Obj → Prop} {h h2 : Heap} (k : ∀ b o, h.get? b = some o → h2.get? b = some o) (f : HandSPX.FlyingZ B l a Z h) : HandSPX.FlyingZ B l a Z h2 := by
  obtain ⟨f1, f2, f3, oe, vs, T, oT, ts, g1, g2, g3, g4, g5, g6, g7, g8, g9⟩ := f
  exact ⟨fun b o e => k b o (f1 b o e), f2, Heap.FunFrames.of_keeps (fun b o e _ => ⟨o, k b o e, rfl⟩) f3, oe, vs, T, oT, ts, k _ _ g1, g2, g3, g4, g5, g6, k _ _ g7, g8, g9⟩
theorem ups_of {h h2 : Heap} (k : ∀ b o, h.get? b = some o → h2.get? b = some o) : h.UpToSlots h2 := Heap.UpToSlots.of_keeps k
end
/-! ### what is asked of them -/
section
open PySem.W PySem.Calls
variable {prog : Program} {w : World} {A : Around} {E : Value → Shared → Prop} {s : Shared} {K : Frag} {x D : Addr} {ox : Obj}
theorem find_cls {od : Option Obj} {n : Str} {v g : Value} (c : (clsIn K D).isSome = true) (e : findIn K (.ref D) n = some (some v)) (eg : specialIn K v "__get__" = some (some g)) (et : takesIn K v = some true) : findObj K D od n = some (.bind g v) := by
  obtain ⟨cd, c⟩ := Option.isSome_iff_exists.mp c
  unfold findObj
  rw [c, Option.bind_some, e, Option.bind_some]
  simp [eg, et]
/-- e.__class__ of an own exception, with a dict or without -/
theorem cls_exc {od : Option Obj} {Q : Option Value → Shared → Prop} (T : ExcC K D) (k : K.In s.heap) (I : InstAt s.heap x ox D od) (q : Q (some (.ref D)) { s with toks := s.toks + 1 }) : wpAny (model prog w) A (getAttr? (.ref x) "__class__") Q E s := by
  have hf : findObj K D od "__class__" = some (.bind (.builtin "getset_descriptor.__get__") (.builtin "object.__class__")) := find_cls (by obtain ⟨cd, c, _⟩ := any_some T.hd; rw [c] <;> rfl) T.ha T.hn T.ht
  obtain ⟨hp, gg, dr, tt, oo⟩ := s
  have l0 := I.type (M := model prog w)
  have l1 := looks_findIn (M := model prog w) k T.hg
  have l2 := looks_findIn (M := model prog w) k T.hk
  have l3 := looks_find (M := model prog w) k I hf
  have su : Looks (model prog w) hp (isInstance (.ref x) (.type "BaseException")) true := l0.andThen (looks_subIn k T.hs)
  have n1 : (onTheHeap (Value.ref D) && Value.builtin "BaseException.__getattribute__" == Value.builtin "object.__getattribute__") = false := by
    rw [show (Value.builtin "BaseException.__getattribute__" == Value.builtin "object.__getattribute__") = false by decide +kernel] <;> rfl
  unfold getAttr? getAttrBy? getAttrBy
  refine wpAny_bind (wpAny_mkText (wpAny_bind (wpAny_attempt (wpAny_holding (wpAny_bind (l0.at (wpAny_bind (l1.at ?_))))))))
  show wpAny _ _ (if (onTheHeap (Value.ref D) && Value.builtin "BaseException.__getattribute__" == Value.builtin "object.__getattribute__") = true then _ else _) _ _ _
  rw [n1, if_neg Bool.false_ne_true]
  unfold getAttrByItsOwn hookBefore
  refine wpAny_bind ?_
  rw [if_pos (show onTheHeap (Value.ref D) = true from rfl)]
  refine l2.at (wpAny_bind (wpAny_attempt (wpAny_holding ?_)))
  unfold callGetattribute
  rw [show (false && onTheHeap (Value.builtin "BaseException.__getattribute__")) = false from rfl, if_neg Bool.false_ne_true]
  unfold boundAndCalled
  rw [PySem.F.excAttr_ValueError.ga.bind (.ref x)]
  refine wpAny_bind (wpAny_pure ?_)
  show wpAny _ _ (call (.builtin "BaseException.__getattribute__") [.ref x, .str "__class__" tt]) _ _ _
  refine wpAny_call (codeAny_call_builtin PySem.F.excAttr_ValueError.ga.plain PySem.F.entry_bexc_ga ?_)
  refine @check_slot (model prog w) _ _ ⟨hp, gg, dr, tt + 1, oo⟩ "BaseException.__getattribute__" "BaseException" "__getattribute__" (.ref x) [.str "__class__" tt] [] _ (by decide +kernel) (by decide +kernel) su (PySem.F.args_bexc_ga (.ref x) (.str "__class__" tt)) ?_
  unfold Builtin.«object.__getattribute__»
  refine wpAny_bind (wpAny_of_eq (a := ((Value.ref x : Value), [Value.str "__class__" tt])) (by first | rfl | (simp only [slotArgs] <;> rfl)) ?_)
  refine wpAny_bind (wpAny_pure (wpAny_bind (l0.at (wpAny_bind (l3.at ?_)))))
  show wpAny _ _ (holding [Value.builtin "object.__class__"] (call (.builtin "getset_descriptor.__get__") [.builtin "object.__class__", .ref x, .ref D]) >>= ret) _ _ _
  refine wpAny_bind (wpAny_holding (wpAny_call (class_get (s := ⟨hp, gg, dr, tt + 1, oo⟩) (ox := ox) (od := od) k I T.hm (wpAny_pure ?_))))
  show wpAny _ _ (handedOut (.ref D)) _ _ _
  rw [handedOut_of (v := .ref D) rfl]
  first
    | exact wpAny_pure (wpAny_pure q)
    | exact wpAny_pure q
    | exact wpAny_pure (wpAny_bind (wpAny_pure (wpAny_pure q)))
theorem kit_exc (T : ExcC K D) : KitX K (.ref x) (.ref D) (fun h => ∃ (ox : Obj) (od : Option Obj), InstAt h x ox D od) where
  ty := fun _ _ _ ⟨_, _, I⟩ => I.type
  it := fun _ _ k _ => by
    obtain ⟨cd, c, _⟩ := any_some T.hd
    unfold clsIn at c
    split at c
    · rename_i e
      intro A2 Q2 E2 s2 k2 q2
      unfold isType loadHead
      exact wpAny_bind (wpAny_loadPart (k2 _ _ (k _ _ e)) (wpAny_pure q2))
    · cases c
  ne := fun h tp dd its n sl k e => by
    obtain ⟨cd, c, _⟩ := any_some T.hd
    refine Bool.eq_false_iff.mpr fun q => ?_
    have e2 : D = tp := Value.ref.inj (beq_iff_eq.mp q)
    subst e2
    unfold clsIn at c
    split at c
    · rename_i e3
      have z := (k _ _ e3).symm.trans e
      cases z
    · cases c
  ca := fun k ⟨_, _, I⟩ q => cls_exc T k I q
end
/-- its dict is tracked, too -/
def KDk (H : Hp) (d : Option Addr) : Prop := d = none ∨ ∃ (dd : Addr) (fs : List (Str × V)), d = some dd ∧ H dd = some (.xd fs)
section
variable {X : Cx}
/-- e.f of a kept exception -/
def gKf (C : Addr) (f : Str) (x : V) (H : Hp) (Q : VK) : Prop := ∃ (a dd : Addr) (fs : List (Str × V)) (v : V), x = .ref a ∧ H a = some (exk a (.ref C) (some dd)) ∧ H dd = some (.xd fs) ∧ fs.lookup f = some v ∧ Q v H
def tKf (C : Addr) (f : Str) (te : TE) : TE := fun σ H Q => te σ H fun x H1 => gKf C f x H1 Q
end
/-! ### the steps -/
def tTryK (tb : WX → TS) (Wout : WX) (cs : List Cl) : TS := fun D σ H => tb (wK Wout D cs) D σ H
section
variable {K : PySem.W.Frag} {σ : L2.St} {H : Hp} {Q : VK} {f : Str} {D : Ends} {Wout : WX} {tb : WX → TS} {te : TE} {C : Addr} {cl : Cl} {r : List Cl} {cs : List Cl} {cls : Value} {d : Option Addr}
theorem x_tryK (q : tb (wK Wout D cs) D σ H) : tTryK tb Wout cs D σ H := q
instance : Step (tTryK tb Wout cs D σ H) (tb (wK Wout D cs) D σ H) := ⟨x_tryK⟩ -- st
theorem x_kf (q : te σ H fun x H1 => gKf C f x H1 Q) : tKf C f te σ H Q := q
instance : Step (tKf C f te σ H Q) (te σ H fun x H1 => gKf C f x H1 Q) := ⟨x_kf⟩ -- st
theorem w_clY {m : Value → Option Bool} {i : Nat} {ts : Addr → Value → Option Addr → TS} (h : m cls = some true) (q : ∀ a, H a = none → ts a cls d ⟨fun σ2 H2 => H2 a = none → D.nx (σ2.set i none) (upd H2 a (exk a cls d)), D.rt, fun σ2 H2 => D.bk (σ2.set i none) H2, fun σ2 H2 => D.ct (σ2.set i none) H2⟩ (σ.set i (some (.ref a))) H) :
    wK Wout D (⟨m, some i, ts⟩ :: r) cls d σ H := ⟨true, h, fun _ => q, fun z => nomatch z⟩
end
/-- isinstance asks its instances rightly -/
def excB (K : PySem.W.Frag) (C : Str) : Bool := eqV2 (PySem.W.findIn K (.ref (He.ga K C)) "__getattribute__") (some (some (.builtin "BaseException.__getattribute__"))) && (eqV2 (PySem.W.findIn K (.ref (He.ga K C)) "__getattr__") (some none) &&
  (decide (PySem.W.subIn K (.ref (He.ga K C)) (.type "BaseException") = some true) && (PySem.W.hasDictIn K (He.ga K C) && (eqV2 (PySem.W.findIn K (.ref (He.ga K C)) "__class__") (some (some (.builtin "object.__class__"))) &&
  (eqV2 (PySem.W.specialIn K (.builtin "object.__class__") "__get__") (some (some (.builtin "getset_descriptor.__get__"))) && (decide (PySem.W.takesIn K (.builtin "object.__class__") = some true) && decide (PySem.W.mroIn K (He.ga K C) (.type "object") = some true)))))))
theorem excB_ok {K : PySem.W.Frag} {C : Str} (h : excB K C = true) : ExcC K (He.ga K C) := by
  unfold excB at h
  simp only [Bool.and_eq_true, eqV2, decide_eq_true_eq] at h
  obtain ⟨h1, h2, h3, h4, h5, h6, h7, h8⟩ := h
  exact ⟨h1, h2, h3, h4, h5, h6, h7, h8⟩
end R
/-! ### own exceptions without a field, over KeyError and RuntimeError -/
namespace R
section
open PySem PySem.F
abbrev keTail : List Value := [.type "KeyError", .type "LookupError", .type "Exception", .type "BaseException", .type "object"]
abbrev rtTail : List Value := [.type "RuntimeError", .type "Exception", .type "BaseException", .type "object"]
/-- what is asked of a built-in class whose new instances another class makes -/
structure KBase (B Bn newId initId : String) (tail : List Value) : Prop where
  hBn : tail.contains (.type Bn) = true
  mroIs : mroOf (.type B) = pure tail
  hasB : tail.contains (.type B) = true
  noAttr : tail.contains (.type "AttributeError") = false
  noName : tail.contains (.type "NameError") = false
  init : Slot B "__init__" initId
  initEntry : entryFor table initId = some Builtin.«BaseException.__init__»
  initSplit : splitId initId = some (B, "__init__")
  initKind : builtinKind initId = some .slot
  initRow : Manifest.signature? initId = some ⟨.positional, "*", B, .self, [⟨"args", .varPos, false⟩]⟩
  noStar : (B != "*") = true
theorem kb_KeyError : KBase "KeyError" "LookupError" "LookupError.__new__" "KeyError.__init__" keTail where
  hBn := by decide +kernel
  mroIs := by rw [mroOf_type] <;> kernel_rfl
  hasB := by decide +kernel
  noAttr := by decide +kernel
  noName := by decide +kernel
  init := PyProof.Rows.excClass_KeyError.init
  initEntry := PyProof.Rows.excClass_KeyError.initEntry
  initSplit := PyProof.Rows.excClass_KeyError.initSplit
  initKind := PyProof.Rows.excClass_KeyError.initKind
  initRow := PyProof.Rows.excClass_KeyError.initSig
  noStar := PyProof.Rows.excClass_KeyError.notStar
section
variable {prog : Program} {w : World} {A : Around} {R : Result → Shared → Prop} {E : Value → Shared → Prop} {h : Heap} {g : Array GenState} {d : Drawn} {t : Nat} {os : OsState}
variable {nm q : Str} {C N : Addr} {bs bm bmB : List Value} {hdct : Bool} {sn : List Str} {sub : List Value} {ab : Bool} {col : Option Bool} {dd : Option Addr} {k0 k1 k2 k3 k5 : Option Value} {B Bn newId initId inN : String} {bmN : List Value}
theorem kb_check_new (Fn : ExcBaseFacts Bn newId inN bmN) (F : KBase B Bn newId initId bmB) (T : OwnTail h bmB bm) {M : Model} {rest : List Value} {Q : Unit → Shared → Prop} (hC : h.get? C = some (excClassObj nm q C N bs bm hdct sn sub ab col dd k0 k1 k2 k3 k5 newId))
    (hq : Q () ⟨h, g, d, t, os⟩) : wpAny M A (checkBuiltinCall newId ⟨.ref C :: rest, []⟩) Q E ⟨h, g, d, t, os⟩ := wpAny_check_new_subU Fn F.hBn T hC hq
theorem kb_new (Fn : ExcBaseFacts Bn newId inN bmN) (F : KBase B Bn newId initId bmB) (T : OwnTail h bmB bm) {rest : List Value} (hC : h.get? C = some (excClassObj nm q C N bs bm hdct sn sub ab col dd k0 k1 k2 k3 k5 newId))
    (hq : R (.ok (.ret (.ref (h.objs.size + 1)))) ⟨(h.push { cls := .type "tuple", data := .seq rest.toArray }).push
      { cls := .ref C, data := .fields #[.ref h.objs.size, .none, .none, .none, .bool false, .none] }, g, d, t, os⟩) (hrest : rest.length ≤ sizeLine) :
    codeAny (model prog w) A (.builtin newId ⟨.ref C :: rest, []⟩) R ⟨h, g, d, t, os⟩ := by
  have ends := Fn.ends
  have inB : (Value.ref C :: bm).contains (.type Bn) = true := by rw [List.contains_cons, T.hasType F.hBn, Bool.or_true]
  have inA : (Value.ref C :: bm).contains (.type "AttributeError") = false := by rw [List.contains_cons, T.hasType F.noAttr] <;> rfl
  have inN : (Value.ref C :: bm).contains (.type "NameError") = false := by rw [List.contains_cons, T.hasType F.noName] <;> rfl
  refine codeAny_builtinAt Fn.entry ?_
  unfold Builtin.«BaseException.__new__»
  refine wpAt_bind ?_
  show wpAt _ _ _ (stack >>= _) _ _ _
  refine wpAt_bind (wpAt_stack fun p below => wpAt_of_wpAny ?_)
  wp_walk
  refine wpAt_of_wpAny ?_
  rw [Fn.owner]
  repeat (first | with_reducible refine wpAny_madeHere_exc Fn.canon hC ?_ | with_reducible refine wpAny_loadPart_at hC ?_ | (with_reducible refine wpAny_isSubtype_exc hC ?_; first | rw [inB] | rw [inA] | rw [inN]) | wp_step)
  show R _ _
  rw [Heap.size_push] <;> exact hq
theorem kb_check_init (F : KBase B Bn newId initId bmB) (T : OwnTail h bmB bm) {M : Model} {e : Addr} {oe : Obj} {rest : List Value} {Q : Unit → Shared → Prop}
    (hC : h.get? C = some (excClassObj nm q C N bs bm hdct sn sub ab col dd k0 k1 k2 k3 k5 newId)) (he : h.get? e = some oe) (hcls : oe.cls = .ref C) (hq : Q () ⟨h, g, d, t, os⟩) :
    wpAny M A (checkBuiltinCall initId ⟨.ref e :: rest, []⟩) Q E ⟨h, g, d, t, os⟩ := by
  have inB : (Value.ref C :: bm).contains (.type B) = true := by rw [List.contains_cons, T.hasType F.hasB, Bool.or_true]
  have short := F.noStar
  simp only [checkBuiltinCall, F.initKind, F.initSplit, F.initRow]
  repeat (first | (with_reducible refine wpAny_loadPart_at he ?_; rw [hcls]) | with_reducible refine wpAny_loadPart_at hC ?_ | (with_reducible refine wpAny_isSubtype_exc hC ?_; rw [inB]) | wp_step)
  refine wpAny_onRaise ?_
  rw [show ∀ (a b : String) (n : Nat), Bind.check ⟨.positional, "*", B, .self, [⟨"args", .varPos, false⟩]⟩ a b n (List.map (fun x => x.fst) ({ pos := Value.ref e :: rest } : Args).kw) = pure () from
    fun a b n => check_star_args _ _ _ _ _ _]
  exact wpAny_pure hq
theorem kb_type_call (Fn : ExcBaseFacts Bn newId inN bmN) (F : KBase B Bn newId initId bmB) (T : OwnTail h bmB bm) {mN : Str → Option Value} {rest : List Value} {Q : Fin → Shared → Prop}
    (hC : h.get? C = some (excClassObj nm q C N bs bm hdct sn sub ab col dd k0 k1 k2 k3 k5 newId)) (hn : h.Ns N mN) (hni : mN "__init__" = none)
    (hq : ∀ h' e, Heap.MadeExcOf h h' e (.ref C) rest → Q (.done (.ret (.ref e))) ⟨h', g, d, t, os⟩) (hrest : rest.length ≤ sizeLine) :
    wpAny (model prog w) A (Builtin.«type.__call__» ⟨.ref C :: rest, []⟩) Q E ⟨h, g, d, t, os⟩ := by
  repeat (first | with_reducible refine wpAny_loadPart_at hC ?_ | with_reducible refine wpAny_madeBy_exc hC ?_ | wp_step)
  refine codeAny_call_builtin_code (Code.quiet_builtin _ Fn.quiet) (kb_check_new Fn F T hC ?_)
  refine kb_new Fn F T hC ?_ hrest
  show wpAny _ _ _ _ _ _
  have up : ∀ b o, h.get? b = some o → ((h.push { cls := .type "tuple", data := .seq rest.toArray }).push { cls := .ref C, data := .fields #[.ref h.objs.size, .none, .none, .none, .bool false, .none] }).get? b = some o :=
    fun b o e => Heap.get?_push_of_some _ (Heap.get?_push_of_some _ e)
  have hC1 := up _ _ hC
  have hn1 : ((h.push { cls := .type "tuple", data := .seq rest.toArray }).push { cls := .ref C, data := .fields #[.ref h.objs.size, .none, .none, .none, .bool false, .none] }).Ns N mN :=
    let ⟨o, es, ep, e, r⟩ := hn; ⟨o, es, ep, up _ _ e, r⟩
  have made : ((h.push { cls := .type "tuple", data := .seq rest.toArray }).push
      { cls := .ref C, data := .fields #[.ref h.objs.size, .none, .none, .none, .bool false, .none] }).get? (h.objs.size + 1) = some
      { cls := .ref C, data := .fields #[.ref h.objs.size, .none, .none, .none, .bool false, .none] } := by heap_get
  have inC : (Value.ref C :: bm).contains (.ref C) = true := by simp
  have T1 := T.keeps up
  unfold isInstance
  repeat (first | with_reducible refine wpAny_loadPart_at made ?_ | (with_reducible refine wpAny_isSubtype_exc hC1 ?_; rw [inC]) | wp_step)
  show wpAny _ _ (typeLookup (.ref C) _) _ _ _
  refine wpAny_typeLookup_tail hC1 hn1 T1 F.mroIs F.init.lookup ?_
  rw [hni]
  refine wpAny_holding (wpAny_bind (wpAny_of_eq (F.init.bind _) ?_))
  refine wpAny_bind (wpAny_call (codeAny_call_builtin F.init.plain F.initEntry (kb_check_init F T1 hC1 made rfl ?_)))
  wp_walk
  refine hq _ _ ⟨fun b o hb => ?_, Heap.get?_none_of_le (Nat.le_succ _), h.objs.size + 2, ?_, Heap.get?_none_of_le (by omega), ?_⟩
  · rw [Heap.get?_update_other _ _ (Nat.ne_of_gt (Nat.lt_succ_of_lt (Heap.lt_size hb)))] <;> exact Heap.get?_push_of_some _ (up _ _ hb)
  · rw [Heap.get?_update_self _ (Heap.get?_push_of_some _ made) rfl]
    simp only [Heap.size_push]
    rfl
  · rw [Heap.get?_update_other _ _ (show h.objs.size + 1 ≠ h.objs.size + 2 by omega)]
    exact Heap.get?_push_at (by simp only [Heap.size_push]) rfl
theorem kb_call (Fn : ExcBaseFacts Bn newId inN bmN) (F : KBase B Bn newId initId bmB) (T : OwnTail h bmB bm) {mN : Str → Option Value} {rest : List Value} {Q : Value → Shared → Prop}
    (hC : h.get? C = some (excClassObj nm q C N bs bm hdct sn sub ab col dd k0 k1 k2 k3 k5 newId)) (hn : h.Ns N mN) (hni : mN "__init__" = none)
    (hq : ∀ h' e, Heap.MadeExcOf h h' e (.ref C) rest → Q (.ref e) ⟨h', g, d, t, os⟩) (hrest : rest.length ≤ sizeLine) :
    wpAny (model prog w) A (call (.ref C) rest) Q E ⟨h, g, d, t, os⟩ := by
  have f1 := tc_lookup
  have f2 := tc_bind (.ref C)
  have isT : (⟨h, g, d, t, os⟩ : Shared).TypeIs (.ref C) "type" := ⟨_, hC, rfl⟩
  refine wpAny_call (codeAny_of_tree ?_)
  show wpAny _ _ (callAny (.ref C) _) _ _ _
  repeat (any_goals (first | assumption | with_reducible refine wpAny_loadPart_at hC ?_ | wp_step))
  refine ⟨rfl, ?_⟩
  refine codeAny_call_builtin_at (Code.quiet_builtin _ (by decide +kernel)) entry_typeCall (wpAny_check_type_call_sub hC (kb_type_call Fn F T hC hn hni (fun h' e hm => ?_) hrest))
  exact hq h' e hm
end
end
open PySem PySem.Spec PyProof.Rows L2
/-- an own class over such a base -/
structure ECB (K : PySem.W.Frag) (mg : Str → Option Value) (tail : List Value) (newId : String) (C : Str) : Prop where
  g : mg C = some (.ref (He.ga K C))
  x : PySem.W.excIn K (He.ga K C) tail newId = true
  k : PySem.W.keepIn K (.ref (He.ga K C)) = true
  s : PySem.W.subIn K (.ref (He.ga K C)) (.type "BaseException") = some true
  t : PySem.W.typeIn K (.ref (He.ga K C)) = some (.type "type")
  m : PySem.W.exmOne K (.ref (He.ga K C)) (.ref (He.ga K C)) = some true
def ecbB (K : PySem.W.Frag) (tail : List Value) (newId : String) (C : Str) : Bool := PySem.W.excIn K (He.ga K C) tail newId && (PySem.W.keepIn K (.ref (He.ga K C)) && (decide (PySem.W.subIn K (.ref (He.ga K C)) (.type "BaseException") = some true) &&
  (decide (PySem.W.typeIn K (.ref (He.ga K C)) = some (.type "type")) && decide (PySem.W.exmOne K (.ref (He.ga K C)) (.ref (He.ga K C)) = some true))))
theorem ecbB_ok {K : PySem.W.Frag} {mg : Str → Option Value} {tail : List Value} {newId : String} {C : Str} (g : mg C = some (.ref (He.ga K C))) (h : ecbB K tail newId C = true) : ECB K mg tail newId C := by
  unfold ecbB at h
  simp only [Bool.and_eq_true, decide_eq_true_eq] at h
  obtain ⟨h1, h2, h3, h4, h5⟩ := h
  exact ⟨g, h1, h2, h3, h4, h5⟩
section
variable {X : Cx}
/-! ### isinstance of the exception that the suite holds -/
def rIsS (K : PySem.W.Frag) (a0 : Addr) (cls : Value) (d : Option Addr) : List V → Hp → VK → Prop := fun xs H Q => ∃ (D : Addr) (c : V) (cv : Value) (b : Bool), xs = [.ref a0, c] ∧ cls = .ref D ∧ KDk H d ∧ ExcC K D ∧ ClsV c cv ∧ PySem.W.kitOne K (.ref D) cv = some b ∧ Q (.bl b) H
theorem clIsS {K : PySem.W.Frag} {a0 : Addr} {cls : Value} {d : Option Addr} {oe : Obj} {pn : List (Addr × Obj)} (hz : Zc cls d oe) (hf : ∃ vs, oe.data = .fields vs) (hK : X.K = K := by rfl) : CallR (X.suite a0 ((a0, oe) :: pn)) (.builtin "isinstance") (rIsS K a0 cls d) := by
  subst hK
  intro pins s σ H xs us Q I r h
  obtain ⟨D, c, cv, b, rfl, rfl, kd, T, k, eb, q⟩ := h
  obtain ⟨u1, u2, rfl, r1, r2⟩ := vals2 r
  cases (show u1 = Value.ref a0 from r1)
  have e2 := k.eq r2
  subst e2
  obtain ⟨e1, _⟩ := I.pin (a0, oe) (List.mem_append_left _ List.mem_cons_self)
  obtain ⟨vs, fv⟩ := hf
  have nc : PySem.W.notCls oe = true := by
    unfold PySem.W.notCls
    rw [fv] <;> rfl
  have J : ∃ (ox : Obj) (od : Option Obj), PySem.W.InstAt s.heap a0 ox D od := by
    rcases kd with rfl | ⟨dd, fs, rfl, ed⟩
    · exact ⟨oe, none, e1, hz.1, nc, by rw [hz.2]; exact True.intro⟩
    · have x : ObjOk X.prog X.w H s.heap dd (.xd fs) := I.hok dd _ ed
      obtain ⟨mA, hns, _⟩ := x
      obtain ⟨od, ho, _⟩ := lookIn_ns hns
      exact ⟨oe, some od, e1, hz.1, nc, by rw [hz.2]; exact ho⟩
  exact PySem.W.kia_one (kit_exc T) I.kIn J eb (fun z => nomatch z) fun tk => ⟨.bl b, H, I.tok tk, rfl, q⟩
end
/-! ### methods that may raise: without arguments, by keywords -/
def tMethKX0 (C : Addr) (m : Str) (n : Nat) (sp : Sp) (gV : List V → List V → List V) (E : L2.St → XK) (ta : TE) (tk : TA) : TE := fun σ H Q => ta σ H fun x H1 => ∃ a dx fs, x = .ref a ∧ H1 a = some (.ins C dx fs) ∧ fs.lookup m = none ∧ tk σ H1 fun zs H2 => zs.length = n ∧ sp (gV [x] zs) H2 Q (E σ)
def tMethX0 (C : Addr) (m : Str) (sp : Sp) (E : L2.St → XK) (ta : TE) : TE := fun σ H Q => ta σ H fun x H1 => ∃ a dx fs, x = .ref a ∧ H1 a = some (.ins C dx fs) ∧ fs.lookup m = none ∧ sp [x] H1 Q (E σ)
section
variable {σ : L2.St} {H : Hp} {Q : VK} {ta : TE} {C : Addr} {m : Str} {n : Nat} {sp : Sp} {gV : List V → List V → List V} {EE : L2.St → XK} {tk : TA}
theorem x_methX0 (q : ta σ H fun x H1 => mthG C m x H1 (sp [x] H1 Q (EE σ))) : tMethX0 C m sp EE ta σ H Q := by
  unfold tMethX0
  refine cast ?_ q
  congr 1
  funext x H1
  unfold mthG
  refine propext ⟨?_, ?_⟩
  · rintro ⟨⟨a, dx, fs, h1, h2, h3⟩, h4⟩
    exact ⟨a, dx, fs, h1, h2, h3, h4⟩
  · rintro ⟨a, dx, fs, h1, h2, h3, h4⟩
    exact ⟨⟨a, dx, fs, h1, h2, h3⟩, h4⟩
instance : Step (tMethX0 C m sp EE ta σ H Q) (ta σ H fun x H1 => mthG C m x H1 (sp [x] H1 Q (EE σ))) := ⟨x_methX0⟩ -- st
theorem x_methKX0 (q : ta σ H fun x H1 => mthG C m x H1 (tk σ H1 fun zs H2 => zs.length = n ∧ sp (gV [x] zs) H2 Q (EE σ))) : tMethKX0 C m n sp gV EE ta tk σ H Q := by
  unfold tMethKX0
  refine cast ?_ q
  congr 1
  funext x H1
  unfold mthG
  refine propext ⟨?_, ?_⟩
  · rintro ⟨⟨a, dx, fs, h1, h2, h3⟩, h4⟩
    exact ⟨a, dx, fs, h1, h2, h3, h4⟩
  · rintro ⟨a, dx, fs, h1, h2, h3, h4⟩
    exact ⟨⟨a, dx, fs, h1, h2, h3⟩, h4⟩
instance : Step (tMethKX0 C m n sp gV EE ta tk σ H Q) (ta σ H fun x H1 => mthG C m x H1 (tk σ H1 fun zs H2 => zs.length = n ∧ sp (gV [x] zs) H2 Q (EE σ))) := ⟨x_methKX0⟩ -- st
end
/-- a row that is never reached -/
def tNone : TS := fun _ _ _ => False
theorem ps_none {X : Cx} {st : Stmt} : PS X st tNone := ⟨fun _ _ _ _ _ _ h => False.elim h⟩
end R
namespace R
open PySem PySem.Spec PySem.F PyProof.Rows L2
/-! ### exceptions whose context is None: the same rules -/
structure DMXN (P : Program) (w : World) (K : PySem.W.Frag) (mg : Str → Option Value) (base : Heap) (k : Nat) (C m : Str) (ps : List Str) (sp : Sp) : Prop where
  ex : ∃ (fd : FuncData), FnOk P w K mg base (L2N.CX P w) k (He.ma K (He.ga K C) m) fd ps sp ∧ Meth K (He.ga K C) m (He.ma K (He.ga K C) m) ∧ Cls K (He.ga K C) ∧ Binds K fd ps []
section
variable {X : Cx} {W : WX} {p pos : Pos}
theorem ps_raiseON {C : Str} {z : Str} {jj : Nat} {p2 pos3 : Pos} (c : EC X.K X.mg C) (tk : L2N.Takes X W) (hc : X.calm = true) (hg : Gl X C := by rfl) (hdb : (C == ("__debug__" : Str)) = false := by decide) :
    PS X (.Raise (some (.Call (.Name C p) [.Constant (.str z) jj p2] [] pos)) none pos3) (tRaiseO X.K C W) :=
  L2N.ps_raise hc tk (L2N.pmk_own PySem.F.excBase_ValueError c.x c.g c.k (raises_own c.s c.t) hg hdb)
end
section
variable {X : Cx} {CX : CXT} {k j n : Nat} {f C : Addr} {fd : FuncData} {ps ks : List Str} {sp : Sp} {E : L2.St → XK} {x m : Str} {p pos apos : Pos} {e o : Expr} {es : List Expr} {kws : List Keyword} {ta : TE} {t : TA} {W : WX} {pl : Sem Bool} {dvs : List V} {tp : List (Nat × Nat)}
theorem run_outN {pins : List (Addr × Obj)} {σ : L2.St} {H : Hp} {s : Shared} {Q : VK} {E : XK} {fa : Addr} {fd : FuncData} {ar : Args} {us : List Value} {vs : List V} (F : FnOk X.prog X.w X.K X.mg X.base (L2N.CX X.prog X.w) k fa fd ps sp) (hr : Room k X.A)
    (hx : PassesAt (L2N.CX X.prog X.w) X σ E) (I : Inv X pins σ H s) (b : BindsTo s fd ar (ps.zip us)) (r : Vals vs us) (h : sp vs H Q E) : wpAny (model X.prog X.w) X.A (call (.ref fa) ar.pos ar.kw) (EP X pins σ Q) X.xe s := by
  refine wpAny_call (codeAny_mono (F.run X.A X.stack s H ar us vs Q E hr I.env0 b r h) fun r s2 hq => ?_)
  cases r with
  | error er => exact hx pins H s er s2 I hq
  | ok fl =>
    cases fl with
    | ret u => exact I.after hq
    | next => exact False.elim hq
    | brk => exact False.elim hq
    | cont => exact False.elim hq
end
section
variable {X : Cx} {W : WX} {B Bn newId initId inN : String} {tail bmN : List Value} {C : Str} {z : Str} {jj : Nat} {p p2 pos pos3 : Pos}
theorem ps_raiseBN (F : ExcBaseFacts B newId initId tail) (c : ECB X.K X.mg tail newId C) (tk : L2N.Takes X W) (hc : X.calm = true) (hg : Gl X C := by rfl) (hdb : (C == ("__debug__" : Str)) = false := by decide) :
    PS X (.Raise (some (.Call (.Name C p) [.Constant (.str z) jj p2] [] pos)) none pos3) (tRaiseO X.K C W) :=
  L2N.ps_raise hc tk (L2N.pmk_own F c.x c.g c.k (raises_own c.s c.t) hg hdb)
theorem pmk_kbN (Fn : ExcBaseFacts Bn newId inN bmN) (F : KBase B Bn newId initId tail) (c : ECB X.K X.mg tail newId C) (hg : Gl X C)
    (hdb : (C == ("__debug__" : Str)) = false) : L2N.PMk X (.Call (.Name C p) [.Constant (.str z) jj p2] [] pos) (fun _ H Q => Q (.ref (He.ga X.K C)) none H) := by
  intro pins s σ H Q I h
  refine wpAny_Call_Name_kw (ld_glob I hg c.g ?_ hdb)
  have ha : PA X [.Constant (.str z) jj p2] (tCons (tC (.str z)) tNil) := pa_cons pe_str pa_nil
  refine PySem.W.callWith_K (h₀ := X.base) I.ok.mod.kin c.k (thn (ha.run pos pins s σ H (fun vs H1 => vs = [V.str z] ∧ H = H1) I ⟨rfl, rfl⟩) fun us s1 hh => ?_)
  obtain ⟨vs, H1, I1, r1, ev, eH⟩ := hh
  subst ev
  rw [← eH] at I1
  refine ⟨I1.kIn, ?_⟩
  cases r1 with
  | cons ru rn =>
    rename_i u us'
    cases rn
    show wpAny _ _ (call (.ref (He.ga X.K C)) [u]) _ _ _
    obtain ⟨bm, N, nm, qn, bs, hdct, sn, sub, ab, col, dd, k0, k1, k2, k3, k5, mN, hC, hN, hni, T⟩ := exc_obj I1.kIn c.x
    refine kb_call Fn F T hC hN hni (fun h' e hm => ?_) (by show 1 ≤ sizeLine; rw [sizeLine_eq]; omega)
    exact L2N.mk_of I1 hm (raises_own c.s c.t) h (I1.hok.gone hm.new)
theorem ps_raiseKN (Fn : ExcBaseFacts Bn newId inN bmN) (F : KBase B Bn newId initId tail) (c : ECB X.K X.mg tail newId C) (tk : L2N.Takes X W) (hc : X.calm = true) (hg : Gl X C := by rfl) (hdb : (C == ("__debug__" : Str)) = false := by decide) :
    PS X (.Raise (some (.Call (.Name C p) [.Constant (.str z) jj p2] [] pos)) none pos3) (tRaiseO X.K C W) :=
  L2N.ps_raise hc tk (pmk_kbN Fn F c hg hdb)
end
structure DMKXN (P : Program) (w : World) (K : PySem.W.Frag) (mg : Str → Option Value) (base : Heap) (k : Nat) (C m : Str) (ps ks : List Str) (tp : List (Nat × Nat)) (dvs : List V) (sp : Sp) : Prop where
  ex : ∃ (fd : FuncData) (ds : List Value), FnOk P w K mg base (L2N.CX P w) k (He.ma K (He.ga K C) m) fd ps sp ∧ Meth K (He.ga K C) m (He.ma K (He.ga K C) m) ∧ Cls K (He.ga K C) ∧ KBn K fd ps 1 ks (fun us ws => pick .none tp us ws ds) (fun vs zs => pick .non tp vs zs dvs)
section
variable {X : Cx} {k j : Nat} {ps ks : List Str} {sp : Sp} {dvs : List V} {C m : Str} {p pos apos : Pos} {o : Expr} {kws : List Keyword} {ta : TE} {tk : TA} {tp : List (Nat × Nat)} {pl : Sem Bool} {W : WX}
theorem pmethX0N {K : PySem.W.Frag} (D : DMXN X.prog X.w K X.mg X.base k C m ps sp) (hr : Room j X.A) (tk : L2N.Takes X W) (he : PE X o ta) (hj : k ≤ j := by first | decide | exact Nat.le_refl _ | omega)
    (h3 : eval (.Call (.Attribute o m apos) [] [] pos) X.env = (eval o X.env >>= fun ov => standAt apos.atName >>= fun _ => holding [ov] (getMethod ov m pl) >>= fun q =>
      callWith pos q.1 q.2 (backTo pos (starEach [] X.env)) (backToKw pos (keywordEach [] X.env))) := by rfl) (hK : X.K = K := by rfl) :
    PE X (.Call (.Attribute o m apos) [] [] pos) (tMethX0 (He.ga K C) m sp (WE W) ta) := by
  subst hK
  obtain ⟨fd, F, M, c, hb⟩ := D.ex
  refine ⟨fun pins s σ H Q I h => ?_⟩
  refine PySem.W.methodCall_KW (pl := pl) (thn (he.run pins s σ H _ I h) fun u s1 ⟨x, H1, I1, rx, a, dx, fs, ex, ea, l, q⟩ => ?_) h3
  subst ex
  obtain rfl : u = Value.ref a := rx
  refine getmeth_ok I1 ea c M l ?_
  exact PySem.W.callWith_K0 (first := [.ref a]) I1.kIn M.kp (run_fnS (us := [.ref a]) (vs := [.ref a]) F (hr.mono hj) hb (L2N.passAt tk σ) I1 (.cons rfl .nil) q)
theorem pmethKX0N {K : PySem.W.Frag} {tk2 : TA} (D : DMKXN X.prog X.w K X.mg X.base k C m ps ks tp dvs sp) (hr : Room j X.A) (tk : L2N.Takes X W) (he : PE X o ta) (hkw : PK X kws tk2) (hj : k ≤ j := by first | decide | exact Nat.le_refl _ | omega)
    (hall : (backToKw pos (keywordEach kws X.env)).all (·.1.isSome) = true := by rfl) (hks : (backToKw pos (keywordEach kws X.env)).filterMap (·.1) = ks := by rfl)
    (hpl : ((backTo pos (starEach [] X.env)).any (·.1) || (backToKw pos (keywordEach kws X.env)).any (·.1.isNone)) = false := by rfl)
    (h3 : eval (.Call (.Attribute o m apos) [] kws pos) X.env = (eval o X.env >>= fun ov => standAt apos.atName >>= fun _ => holding [ov] (getMethod ov m pl) >>= fun q =>
      callWith pos q.1 q.2 (backTo pos (starEach [] X.env)) (backToKw pos (keywordEach kws X.env))) := by rfl) (hK : X.K = K := by rfl) :
    PE X (.Call (.Attribute o m apos) [] kws pos) (tMethKX0 (He.ga K C) m ks.length sp (fun vs zs => pick .non tp vs zs dvs) (WE W) ta tk2) := by
  subst hK
  obtain ⟨fd, ds, F, M, c, hb⟩ := D.ex
  refine ⟨fun pins s σ H Q I h => ?_⟩
  refine PySem.W.methodCall_KW (pl := pl) (thn (he.run pins s σ H _ I h) fun u s1 ⟨x, H1, I1, rx, a, dx, fs, ex, ea, l, q⟩ => ?_) h3
  subst ex
  obtain rfl : u = Value.ref a := rx
  refine getmeth_ok I1 ea c M l ?_
  refine PySem.W.callWith_KW0 (first := [.ref a]) (h₀ := X.base) I.ok.mod.kin M.kp hall ?_ hpl
  refine thn (hkw.run pos pins s1 σ H1 _ I1 q) fun ws s2 ⟨zs, H2, I2, rz, l2, q2⟩ => ⟨I2.kIn, ?_⟩
  rw [hks]
  have rr : Vals [V.ref a] [Value.ref a] := .cons rfl .nil
  exact run_outN (ar := ⟨[.ref a], ks.zip ws⟩) F (hr.mono hj) (L2N.passAt tk σ) I2 (hb.to s2 [.ref a] ws I2.kIn rfl (rz.length.symm.trans l2)) (hb.rel rr rz) q2
end
inductive HdKN (X : Cx) : List ExceptHandler → List Cl → Prop
  | nil : HdKN X [] []
  | plain {t : Expr} {m : Value → Option Bool} {ts : Addr → Value → Option Addr → TS} {b₀ : Stmt} {suite : List Stmt} {p2 : Pos} {hds : List ExceptHandler} {l : List Cl} (ht : TstOk X t m)
      (hsu : ∀ (a : Addr) (oe : Obj) (cls : Value) (d : Option Addr) (pn : List (Addr × Obj)), L2N.Zn cls d oe → (∃ vs, oe.data = .fields vs) → PSs (X.suite a ((a, oe) :: pn)) (b₀ :: suite) (ts a cls d)) (r : HdKN X hds l) :
      HdKN X (.ExceptHandler (some t) none (b₀ :: suite) p2 :: hds) (⟨m, none, ts⟩ :: l)
  | named {t : Expr} {m : Value → Option Bool} {ts : Addr → Value → Option Addr → TS} {b₀ : Stmt} {suite : List Stmt} {p2 : Pos} {hds : List ExceptHandler} {l : List Cl} {n : Str} {i : Nat} (ht : TstOk X t m) (hi : X.N[i]? = some n) (hl : X.env.kindOf n = some .local)
      (hsu : ∀ (a : Addr) (oe : Obj) (cls : Value) (d : Option Addr) (pn : List (Addr × Obj)), L2N.Zn cls d oe → (∃ vs, oe.data = .fields vs) → PSs (X.suite a ((a, oe) :: pn)) (b₀ :: suite) (ts a cls d)) (r : HdKN X hds l) :
      HdKN X (.ExceptHandler (some t) (some n) (b₀ :: suite) p2 :: hds) (⟨m, some i, ts⟩ :: l)
section
variable {X : Cx} {body : List Stmt} {h₀ : ExceptHandler} {hds : List ExceptHandler} {cs : List Cl} {pos : Pos} {tb : WX → TS} {Wout : WX}
/-- what follows a catch: through the clauses -/
theorem go_clN (hs : X.stack = X.env :: X.outer) (hf : X.env.frame = some X.env.locals) (hN : X.N.Nodup) (hex : X.ex = []) (tk : L2N.Takes X Wout) {pins : List (Addr × Obj)} {D : Ends} {a : Addr} {B : Heap} {sI : Shared} {σ : L2.St} {H : Hp} {cls : Value} {d : Option Addr}
    (J : Inv X pins σ H sI) (nb : ∀ b o, sI.heap.get? b = some o → b ∉ frs X.stack → B.get? b = some o) (na : H a = none) :
    ∀ {hds : List ExceptHandler} {cs : List Cl}, HdKN X hds cs → ∀ {s3 : Shared}, sI.heap.UpToSlots s3.heap → HandSPX.FlyingZ B (X.env :: X.outer) a (L2N.Zn cls d) s3.heap → s3.os = sI.os → AllBare s3.gens → wK Wout D cs cls d σ H →
      wpAny (model X.prog X.w) X.A (handleBy (.ref a) X.env hds) (SP X pins D) X.xe s3 := by
  have ok := J.ok
  intro hds cs hk
  induction hk with
  | nil =>
    intro s3 up fl os ag wish
    obtain ⟨hp, gg, dr, tt, oo⟩ := s3
    refine wpAny_handleBy_nil ?_
    obtain ⟨_, _, _, oe, vs, T, oT, ts2, he, _, hd, h1, _⟩ := id fl
    unfold PySem.passOn
    refine wpAny_bind (wpAny_field he hd h1 ?_)
    rw [if_neg (show ¬ ((Value.ref T == Value.none) = true) from by simp)]
    have fin : wpAny (model X.prog X.w) X.A (setFlight (.ref a) X.env.frame) (fun _ s4 => wpAny (model X.prog X.w) X.A (throw (.ref a) : Sem Flow) (SP X pins D) X.xe s4) X.xe ⟨hp, gg, dr, tt, oo⟩ := by
      rw [hf]
      refine HandSPX.setFlight_upZ fl fun h4 hh up4 => wpAny_throw (tk _ _ ?_)
      exact ⟨a, B, sI, pins, σ, H, cls, d, rfl, J, nb, up.trans up4, .inr (.inr (by rw [hs]; exact hh)), na, os, ag, wish⟩
    first
      | exact wpAny_bind (wpAny_pure (wpAny_bind fin))
      | exact wpAny_bind fin
  | plain ht hsu r ih =>
    intro s3 up fl os ag wish
    obtain ⟨b, hm, hyes, hno⟩ := wish
    obtain ⟨hp, gg, dr, tt, oo⟩ := s3
    have J3 := J.landed (s' := ⟨hp, gg, dr, tt, oo⟩) nb fl.1 up os ag
    obtain ⟨oe3, vs3, he3, hz3, hd3⟩ := fl.there
    have nfr : a ∉ frs (X.env :: X.outer) := fun hm2 => by
      obtain ⟨_, o2, e2, hnf⟩ := fl.2.2.1.mem hm2
      rw [he3] at e2
      cases e2
      exact hnf _ hd3
    have nL : a ≠ X.env.locals := fun z => nfr (List.mem_filterMap.mpr ⟨X.env, List.mem_cons_self, by rw [hf, z]⟩)
    have nF : a ∉ X.fs := fun hm2 => by
      obtain ⟨e2, he2, q2⟩ := List.mem_filterMap.mp hm2
      exact nfr (List.mem_filterMap.mpr ⟨e2, List.mem_cons_of_mem _ he2, q2⟩)
    have LT : PySem.W.Looks (model X.prog X.w) hp (typeOf (.ref a)) cls := fun A Q E s k q => wpAny_typeOf_ref (k _ _ he3) (by rw [hz3.1]; exact q)
    refine wpAny_handleBy_cons (codeAny_handlers_test ?_) (by intro q; cases q)
    refine ht a ((a, oe3) :: (X.pn ++ pins)) σ H ⟨hp, gg, dr, tt, oo⟩ cls b _ _ (J3.suite he3 hd3 na nL nF) LT hm fun h5 k5 => ?_
    have fl5 := flies_on k5 fl
    have up5 := up.trans (ups_of k5)
    cases b with
    | true =>
      refine codeAny_handlers_suite ?_
      refine HandSPX.lands_againZ fl5 fun h4 fl4 up4 => ?_
      have J4 := J.landed (s' := ⟨h4, gg, dr, tt, oo⟩) nb fl4.1 (up5.trans up4) os ag
      obtain ⟨oe4, vs4, he4, hz4, hd4⟩ := fl4.there
      have nb0 : X.s_0.heap.get? a = none := by
        cases q : X.s_0.heap.get? a with
        | none => rfl
        | some o0 =>
          obtain ⟨o5, e5⟩ := J.base.there a o0 q (by rw [hex]; exact fun hx => nomatch hx)
          have e6 := nb a o5 e5 (by rw [hs]; exact nfr)
          rw [fl.2.1] at e6
          cases e6
      have nP : ∀ p ∈ X.pn ++ pins, p.1 ≠ a := fun p hp2 e => by
        have e7 := (J.pin p hp2).1
        rw [e] at e7
        have e8 := nb a _ e7 (by rw [hs]; exact nfr)
        rw [fl.2.1] at e8
        cases e8
      refine wpAny_mono ((hsu a oe4 cls d (X.pn ++ pins) hz4 ⟨_, hd4⟩).run [] _ σ H (endK none a cls d D) (J4.suite he4 hd4 na nL nF) (hyes rfl a na)) (fun f s6 hsp => ?_) (fun _ _ z => False.elim z)
      cases f with
      | next =>
        obtain ⟨σ6, H6, S6, q6⟩ := hsp
        obtain ⟨p1, p2, p3, p4, p5⟩ := S6.pin (a, oe4) (List.mem_append_left _ List.mem_cons_self)
        have J6 := S6.unsuite ok
        exact ⟨σ6, _, trk J6 p2 nb0 nL (fun x c e z => by
          obtain ⟨v, q⟩ := J6.cell x c e
          rw [z] at q
          exact nocell p1 hd4 q) nP (exk_ok p1 hz4.zc hd4), q6 p2⟩
      | brk =>
        obtain ⟨σ6, H6, S6, q6⟩ := hsp
        exact ⟨σ6, H6, S6.unsuite ok, q6⟩
      | cont =>
        obtain ⟨σ6, H6, S6, q6⟩ := hsp
        exact ⟨σ6, H6, S6.unsuite ok, q6⟩
      | ret u =>
        obtain ⟨v6, σ6, H6, S6, r6, q6⟩ := hsp
        exact ⟨v6, σ6, H6, S6.unsuite ok, r6, q6⟩
    | false =>
      show wpAny _ X.A (handleBy (.ref a) X.env _) _ _ _
      exact ih (s3 := ⟨h5, gg, dr, tt, oo⟩) up5 fl5 os ag (hno rfl)
  | named ht hi hl hsu r ih =>
    intro s3 up fl os ag wish
    obtain ⟨b, hm, hyes, hno⟩ := wish
    obtain ⟨hp, gg, dr, tt, oo⟩ := s3
    have J3 := J.landed (s' := ⟨hp, gg, dr, tt, oo⟩) nb fl.1 up os ag
    obtain ⟨oe3, vs3, he3, hz3, hd3⟩ := fl.there
    have nfr : a ∉ frs (X.env :: X.outer) := fun hm2 => by
      obtain ⟨_, o2, e2, hnf⟩ := fl.2.2.1.mem hm2
      rw [he3] at e2
      cases e2
      exact hnf _ hd3
    have nL : a ≠ X.env.locals := fun z => nfr (List.mem_filterMap.mpr ⟨X.env, List.mem_cons_self, by rw [hf, z]⟩)
    have nF : a ∉ X.fs := fun hm2 => by
      obtain ⟨e2, he2, q2⟩ := List.mem_filterMap.mp hm2
      exact nfr (List.mem_filterMap.mpr ⟨e2, List.mem_cons_of_mem _ he2, q2⟩)
    have LT : PySem.W.Looks (model X.prog X.w) hp (typeOf (.ref a)) cls := fun A Q E s k q => wpAny_typeOf_ref (k _ _ he3) (by rw [hz3.1]; exact q)
    refine wpAny_handleBy_cons (codeAny_handlers_test ?_) (by intro q; cases q)
    refine ht a ((a, oe3) :: (X.pn ++ pins)) σ H ⟨hp, gg, dr, tt, oo⟩ cls b _ _ (J3.suite he3 hd3 na nL nF) LT hm fun h5 k5 => ?_
    have fl5 := flies_on k5 fl
    have up5 := up.trans (ups_of k5)
    cases b with
    | true =>
      refine codeAny_handlers_suite_as ?_
      refine HandSPX.lands_againZ fl5 fun h4 fl4 up4 => ?_
      have J4 := J.landed (s' := ⟨h4, gg, dr, tt, oo⟩) nb fl4.1 (up5.trans up4) os ag
      obtain ⟨oe4, vs4, he4, hz4, hd4⟩ := fl4.there
      have nb0 : X.s_0.heap.get? a = none := by
        cases q : X.s_0.heap.get? a with
        | none => rfl
        | some o0 =>
          obtain ⟨o5, e5⟩ := J.base.there a o0 q (by rw [hex]; exact fun hx => nomatch hx)
          have e6 := nb a o5 e5 (by rw [hs]; exact nfr)
          rw [fl.2.1] at e6
          cases e6
      have nP : ∀ p ∈ X.pn ++ pins, p.1 ≠ a := fun p hp2 e => by
        have e7 := (J.pin p hp2).1
        rw [e] at e7
        have e8 := nb a _ e7 (by rw [hs]; exact nfr)
        rw [fl.2.1] at e8
        cases e8
      have out : ∀ {pp : Pos} {s6 : Shared} {σ6 : L2.St} {H6 : Hp} {Q : Shared → Prop}, Inv X pins σ6 H6 s6 → (∀ s7, Inv X pins (σ6.set _ none) H6 s7 → Q s7) → wpAny (model X.prog X.w) X.A (do bindName X.env _ .none; unbindBehindTheSuite X.env _ pp) (fun _ s7 => Q s7) X.xe s6 := fun {pp s6 σ6 H6 Q} J6 q => gone_ok J6 hN hi hl q
      refine store_ok (X := X.suite a ((a, oe4) :: (X.pn ++ pins))) (v := .ref a) (J4.suite he4 hd4 na nL nF) hN hi (.inl hl) rfl (fun s5 S5 => ?_) (.inr hl)
      refine wpAny_mono ((hsu a oe4 cls d (X.pn ++ pins) hz4 ⟨_, hd4⟩).run [] s5 _ H (endK _ a cls d D) S5 (hyes rfl a na)) (fun f s6 hsp => ?_) (fun _ _ z => False.elim z)
      cases f with
      | next =>
        obtain ⟨σ6, H6, S6, q6⟩ := hsp
        obtain ⟨p1, p2, p3, p4, p5⟩ := S6.pin (a, oe4) (List.mem_append_left _ List.mem_cons_self)
        have J6 := S6.unsuite ok
        have J7 := trk J6 p2 nb0 nL (fun x c e z => by
          obtain ⟨v, q⟩ := J6.cell x c e
          rw [z] at q
          exact nocell p1 hd4 q) nP (exk_ok p1 hz4.zc hd4)
        exact out J7 fun s7 J8 => ⟨_, _, J8, q6 p2⟩
      | brk =>
        obtain ⟨σ6, H6, S6, q6⟩ := hsp
        exact out (S6.unsuite ok) fun s7 J7 => ⟨_, _, J7, q6⟩
      | cont =>
        obtain ⟨σ6, H6, S6, q6⟩ := hsp
        exact out (S6.unsuite ok) fun s7 J7 => ⟨_, _, J7, q6⟩
      | ret u =>
        obtain ⟨v6, σ6, H6, S6, r6, q6⟩ := hsp
        exact out (S6.unsuite ok) fun s7 J7 => ⟨_, _, _, J7, r6, q6⟩
    | false =>
      show wpAny _ X.A (handleBy (.ref a) X.env _) _ _ _
      exact ih (s3 := ⟨h5, gg, dr, tt, oo⟩) up5 fl5 os ag (hno rfl)
/-- try: body, except A as n: .., except (B, C ..): .. -/
theorem ps_tryKN (hs : X.stack = X.env :: X.outer) (hf : X.env.frame = some X.env.locals) (hN : X.N.Nodup) (hex : X.ex = []) (tk : L2N.Takes X Wout)
    (hb : ∀ (W : WX) (pn : List (Addr × Obj)) (xe : Value → Shared → Prop), L2N.Takes (X.tr pn xe) W → PSs (X.tr pn xe) body (tb W)) (hh : HdKN X (h₀ :: hds) cs) :
    PS X (.Try body (h₀ :: hds) [] [] pos) (fun D σ H => tb (wK Wout D cs) D σ H) := by
  refine ⟨fun pins s σ H D I h => ?_⟩
  have ok := I.ok
  have hfr : X.A.frames = some (X.env :: X.outer) := by
    rw [ok.frames, hs]
  refine wpAny_Try_except (wpAny_mono ((hb (wK Wout D cs) (X.pn ++ pins) _ (fun u s2 xx => ?_)).run [] s σ H D (I.toTry _) h) (fun f s1 hsp => ?_) (fun e s1 he => he))
  · obtain ⟨a, B, sI, pn2, σ2, H2, cls, d, rfl, J0, nb, up, sky, na, os, ag, wish⟩ := xx
    have J : Inv X pins σ2 H2 sI := J0.ofTry ok
    have sky2 : Sky B (X.env :: X.outer) a (L2N.Zn cls d) X.env.locals s2.heap := by
      rw [← hs]
      exact sky
    refine L2N.Sky.land L2N.Zn.steady hfr hf sky2 fun h3 fl3 up3 => ?_
    exact go_clN hs hf hN hex tk J nb na hh (s3 := { s2 with heap := h3 }) (up.trans up3) fl3 os ag wish
  · cases f with
    | next =>
      obtain ⟨σ2, H2, J, q⟩ := hsp
      exact wpAny_execs_nil ⟨σ2, H2, J.ofTry ok, q⟩
    | brk =>
      obtain ⟨σ2, H2, J, q⟩ := hsp
      exact ⟨σ2, H2, J.ofTry ok, q⟩
    | cont =>
      obtain ⟨σ2, H2, J, q⟩ := hsp
      exact ⟨σ2, H2, J.ofTry ok, q⟩
    | ret u =>
      obtain ⟨v2, σ2, H2, J, r, q⟩ := hsp
      exact ⟨v2, σ2, H2, J.ofTry ok, r, q⟩
end
theorem ps_keepN {X : Cx} {body : List Stmt} {h₀ : ExceptHandler} {hds : List ExceptHandler} {cs : List Cl} {pos : Pos} {tb : WX → TS} {Wout : WX} (hs : X.stack = X.env :: X.outer) (hf : X.env.frame = some X.env.locals) (hN : X.N.Nodup) (hex : X.ex = []) (tk : L2N.Takes X Wout)
    (hb : ∀ (W : WX) (pn : List (Addr × Obj)) (xe : Value → Shared → Prop), L2N.Takes (X.tr pn xe) W → PSs (X.tr pn xe) body (tb W)) (hh : HdKN X (h₀ :: hds) cs) : PS X (.Try body (h₀ :: hds) [] [] pos) (tTryK tb Wout cs) := ps_tryKN hs hf hN hex tk hb hh
theorem takes0N {X : Cx} : L2N.Takes X (fun _ _ _ _ => False) := fun _ _ x => by
  obtain ⟨_, _, _, _, _, _, _, _, _, _, _, _, _, _, _, _, z⟩ := x
  exact z.elim
/-! ### a comprehension over a range within an except suite -/
theorem hotN {X : Cx} {a : Addr} {oe : Obj} {cls : Value} {d : Option Addr} {pn : List (Addr × Obj)} (hz : L2N.Zn cls d oe) (hf : ∃ vs, oe.data = .fields vs) : L2H.HotC (X.suite a ((a, oe) :: pn)) := by
  obtain ⟨vs, e⟩ := hf
  exact ⟨(a, oe), ⟨rfl, vs, e, hz.2.2 vs e⟩, List.mem_cons_self ..⟩
section
variable {X : Cx} {pins : List (Addr × Obj)} {σ σb : L2.St} {H H3 H' : Hp} {s s3 s' : Shared}
/-- what is pinned ahead of a block stands within it -/
theorem blk_pins {scope : Scope} {ce : Env} {fp : List Addr} (I3 : Inv X pins σ H3 s3) (hfp : ∀ b ∈ fp, FpOk X pins H3 b) (hce : ce.locals = s3.heap.objs.size) (Ib : Inv (X.blk s3 H3 scope ce fp) [] σb H' s') : Inv (X.blk s3 H3 scope ce fp) X.pn σb H' s' := by
  refine Ib.pins_of fun p hp => ?_
  obtain ⟨p1, p2, p3, p4, p5⟩ := I3.pin p (List.mem_append_left _ hp)
  have nf : p.1 ∉ frs X.stack := fun m => (List.mem_cons.mp (I3.stkSub _ m)).elim p3 p4
  have nx : p.1 ∉ fp := fun m => (hfp _ m).2.2.2.2.2 p (List.mem_append_left _ hp) rfl
  refine ⟨Ib.base.keep _ _ p1 p2 nf nx, Ib.base.free _ _ p1 p2 nx, fun e => ?_, nf, p5⟩
  have e : p.1 = ce.locals := e
  have z := Heap.lt_size p1
  rw [e, hce] at z
  exact Nat.lt_irrefl _ z
/-- the range's turns within the block of a hot suite -/
theorem blk_done {tg : Expr} {J : It} {fp : List Addr} {it : Addr} {tn : Nat → Heap → Prop} {scope : Scope} {ce : Env} {i : Nat} (hot : L2H.HotC X) (T : L2H.TurnH X.prog X.w X.K tg J fp it tn) (Ib : Inv (X.blk s3 H3 scope ce fp) X.pn σb H' s')
    (hf : ∀ b ∈ fp, FpOk (X.blk s3 H3 scope ce fp) X.pn H' b) (st : tn i s'.heap) (stop : J.stop i H') :
    wpAny (model X.prog X.w) X.A (pyNext (.ref it)) (fun r s1 => r = none ∧ Inv (X.blk s3 H3 scope ce fp) [] σb H' s1) (fun _ _ => False) s' := by
  obtain ⟨p, hp, hm⟩ := hot
  have ho : L2H.HotC ((X.blk s3 H3 scope ce fp).tr ([] ++ X.pn) fun _ _ => False) := ⟨p, hp, hm⟩
  refine wpAny_mono (T.done ((X.blk s3 H3 scope ce fp).tr ([] ++ X.pn) fun _ _ => False) rfl rfl rfl ho i [] s' σb H' (fun _ _ => False) (Ib.toTry fun _ _ => False) (fun b hb => ?_) st stop) (fun r s1 ⟨e, J1⟩ => ⟨e, ?_⟩) fun _ _ z => z
  · obtain ⟨f0, f1, f2, f3, f4, f5⟩ := hf b hb
    exact ⟨f0, f1, f2, f3, f4, fun q hq => f5 q (by simpa using hq)⟩
  · exact (Inv.ofTry (X := X.blk s3 H3 scope ce fp) (pins := X.pn) J1 Ib.ok).pins_of fun _ z => nomatch z
theorem blk_item {tg : Expr} {J : It} {fp : List Addr} {it : Addr} {tn : Nat → Heap → Prop} {scope : Scope} {ce : Env} {i : Nat} (hot : L2H.HotC X) (T : L2H.TurnH X.prog X.w X.K tg J fp it tn) (Ib : Inv (X.blk s3 H3 scope ce fp) X.pn σb H' s')
    (hf : ∀ b ∈ fp, FpOk (X.blk s3 H3 scope ce fp) X.pn H' b) (st : tn i s'.heap) (go : J.go i H') :
    wpAny (model X.prog X.w) X.A (pyNext (.ref it)) (fun r s1 => ∃ u, r = some u ∧ wpAny (model X.prog X.w) X.A (letOwnedTupleGo tg (.ref it) u) (fun _ s2 => ∃ x H2, Inv (X.blk s3 H3 scope ce fp) [] σb H2 s2 ∧ RelV x u ∧ J.yld i H' x H2 ∧ tn (i + 1) s2.heap ∧ ∀ b ∈ fp, H2 b = none) (fun _ _ => False) s1) (fun _ _ => False) s' := by
  obtain ⟨p, hp, hm⟩ := hot
  have ho : L2H.HotC ((X.blk s3 H3 scope ce fp).tr ([] ++ X.pn) fun _ _ => False) := ⟨p, hp, hm⟩
  refine wpAny_mono (T.item ((X.blk s3 H3 scope ce fp).tr ([] ++ X.pn) fun _ _ => False) rfl rfl rfl ho i [] s' σb H' (fun _ _ => False) (Ib.toTry fun _ _ => False) (fun b hb => ?_) st go) (fun r s1 ⟨u, e, q⟩ => ⟨u, e, wpAny_mono q (fun _ s2 ⟨x, H2, J1, r1⟩ => ⟨x, H2, ?_, r1⟩) fun _ _ z => z⟩) fun _ _ z => z
  · obtain ⟨f0, f1, f2, f3, f4, f5⟩ := hf b hb
    exact ⟨f0, f1, f2, f3, f4, fun q hq => f5 q (by simpa using hq)⟩
  · exact (Inv.ofTry (X := X.blk s3 H3 scope ce fp) (pins := X.pn) J1 Ib.ok).pins_of fun _ z => nomatch z
variable {i : Nat} {y : Str} {py : Pos} {elt tg iter : Expr} {ifs : List Expr} {scope : Scope} {own : List (Str × Nat)} {pos spos : Pos} {wi : TI} {g : TG} {tt : TT} {te : TE}
/-- name = [.. for .. in range(..) if ..] there -/
theorem ps_setLcH (hot : L2H.HotC X) (hN : X.N.Nodup) (hy : X.N[i]? = some y) (hyl : X.env.scope.names.lookup y = some .local)
    (hsw : swapsWith (.ListComp elt [⟨tg, iter, ifs, 0⟩] scope pos) (some (.Name y py)) spos.line X.env = pure true) (hi : L2H.PIH X tg iter wi) (ok : BlkOk X.N X.env.scope scope own)
    (hg : ∀ (s : Shared) (H : Hp) (C : Addr) (cl : List (Str × Addr)) (fp : List Addr), PG (X.blk s H scope (compEnvC scope cl C X.env) fp) tg g) (ht : ∀ (s : Shared) (H : Hp) (C : Addr) (cl : List (Str × Addr)) (fp : List Addr), PTs (X.blk s H scope (compEnvC scope cl C X.env) fp) ifs tt)
    (he : ∀ (s : Shared) (H : Hp) (C : Addr) (cl : List (Str × Addr)) (fp : List Addr), PE (X.blk s H scope (compEnvC scope cl C X.env) fp) elt te) (hs : ∀ x, foldedSetIterable iter X.env x = pure x := by intro _; rfl) :
    PS X (.Assign [.Name y py] (.ListComp elt [⟨tg, iter, ifs, 0⟩] scope pos) spos) (tAsg (tLc wi g tt te (own.map (·.2))) (gName i)) := by
  refine ⟨fun pins s σ H E I h => ?_⟩
  rw [exec_Assign_Name_used _ _ _ _ hsw]
  refine wpAny_bind (wpAny_standAt (wpAny_bind ?_))
  show wpAny _ X.A (do let _ ← comprehension (.ListComp elt [⟨tg, iter, ifs, 0⟩] scope pos) scope X.env (firstIterPos [⟨tg, iter, ifs, 0⟩] pos) (newList []) false (eval iter X.env) (some (assign (.Name y py) X.env))) _ _ s
  have hfree : ∀ z ∈ scope.names, z.2 = .free → ∃ c, X.env.cells.lookup z.1 = some c := fun z hz e => I.ok.has _ (ok.free z hz e)
  refine wpAny_bind (wpAny_comprehension_free (Q := fun _ s' => wpAny (model X.prog X.w) X.A (pure () : Sem Unit) (fun _ s2 => wpAny (model X.prog X.w) X.A (pure Flow.next : Sem Flow) (SP X pins E) X.xe s2) X.xe s') (use := some (assign (.Name y py) X.env)) rfl hs (closure_ok hfree) ok.kind (fun z hz e => by rw [ok.uniq z hz, e])
    (thn (hi.run pins s σ H _ I h) fun v s1 hv => thn hv fun iv s2 h2 => ?_))
  obtain ⟨it, fp, tn, J, H2, rfl, I2, T, st2, f2, q⟩ := h2
  refine wpAny_newObj_type (newEnv_comp ?_) (by show 0 ≤ sizeLine; decide)
  obtain ⟨D, hD⟩ : ∃ D, D = s2.heap.objs.size := ⟨_, rfl⟩
  rw [← hD]
  have nD : H2 D = none := I2.hok.fresh (Nat.le_of_eq hD.symm)
  obtain ⟨Wm, ⟨m0, w0⟩, turn⟩ := q D nD
  obtain ⟨s3, e3⟩ : ∃ s3 : Shared, s3 = { s2 with heap := s2.heap.push { cls := .type "list", data := .seq ([] : List Value).toArray } } := ⟨_, rfl⟩
  have g3 : ∀ b o, s2.heap.get? b = some o → s3.heap.get? b = some o := fun b o e => by rw [e3]; exact Heap.get?_push_of_some _ e
  have z3 : s3.heap.objs.size = s2.heap.objs.size + 1 := by rw [e3]; exact Heap.size_push ..
  have I3 : Inv X pins σ (upd H2 D (.lst [])) s3 := by
    rw [e3]
    refine I2.laid (t' := s2.toks) (fun b o e => Heap.get?_push_of_some _ e) (Nat.le_of_eq hD.symm) ⟨Nat.zero_le _, [], 0, .nil, ?_⟩
    rw [hD]
    exact Heap.get?_push_size _ rfl
  have lt2 : ∀ b ∈ fp, b < s2.heap.objs.size := fun b hb => let ⟨_, e, _⟩ := T.obj _ _ st2 b hb; Heap.lt_size e
  have f3 : ∀ b ∈ fp, FpOk X pins (upd H2 D (.lst [])) b := fun b hb => ⟨by rw [upd_ne (by rw [hD]; exact Nat.ne_of_lt (lt2 b hb))]; exact (f2 b hb).1, (f2 b hb).2⟩
  have st3 : tn 0 s3.heap := T.keep _ _ _ st2 fun b _ o e => g3 b o e
  have I4 := block_start I3 ok hN fun b hb => ⟨f3 b hb, by rw [z3]; exact Nat.lt_succ_of_lt (lt2 b hb)⟩
  obtain ⟨H3, eH3⟩ : ∃ H3, H3 = upd H2 D (.lst []) := ⟨_, rfl⟩
  rw [← eH3] at I3 I4 w0 f3
  show codeAny _ _ (.compStart (.ListComp elt [⟨tg, iter, ifs, 0⟩] scope pos) 0 (.ref it) (.ref D) (compEnvC scope (cellsFrom ({ s2 with heap := s2.heap.push { cls := .type "list", data := .seq ([] : List Value).toArray } } : Shared).heap.objs.size.succ scope.names (cloFrom X.env.cells scope.names [])) ({ s2 with heap := s2.heap.push { cls := .type "list", data := .seq ([] : List Value).toArray } } : Shared).heap.objs.size X.env)) _ { ({ s2 with heap := s2.heap.push { cls := .type "list", data := .seq ([] : List Value).toArray } } : Shared) with heap := pushCells (({ s2 with heap := s2.heap.push { cls := .type "list", data := .seq ([] : List Value).toArray } } : Shared).heap.push { cls := .type "dict", data := .dict #[] }) scope.names }
  rw [← e3]
  have pg := hg s3 H3 s3.heap.objs.size (cellsFrom (s3.heap.objs.size + 1) scope.names (cloFrom X.env.cells scope.names [])) fp
  have pt := ht s3 H3 s3.heap.objs.size (cellsFrom (s3.heap.objs.size + 1) scope.names (cloFrom X.env.cells scope.names [])) fp
  have pe := he s3 H3 s3.heap.objs.size (cellsFrom (s3.heap.objs.size + 1) scope.names (cloFrom X.env.cells scope.names [])) fp
  obtain ⟨ce, ece⟩ : ∃ ce, ce = compEnvC scope (cellsFrom (s3.heap.objs.size + 1) scope.names (cloFrom X.env.cells scope.names [])) s3.heap.objs.size X.env := ⟨_, rfl⟩
  have cL : ce.locals = s3.heap.objs.size := by rw [ece]; rfl
  rw [← ece] at I4 pg pt pe
  show codeAny _ _ (.compStart _ 0 (.ref it) (.ref D) (compEnvC scope (cellsFrom (s3.heap.objs.size + 1) scope.names (cloFrom X.env.cells scope.names [])) s3.heap.objs.size X.env)) (compPost _ _ _ _ _ _ s3.heap.objs.size) _
  rw [← ece]
  obtain ⟨s4, e4⟩ : ∃ s4 : Shared, s4 = { s3 with heap := pushCells (s3.heap.push { cls := .type "dict", data := .dict #[] }) scope.names } := ⟨_, rfl⟩
  rw [← e4] at I4 ⊢
  have st4 : tn 0 s4.heap := T.keep _ _ _ st3 fun b _ o e => by rw [e4]; exact pushCells_keeps _ _ _ _ (Heap.get?_push_of_some _ e)
  have fpB : ∀ {σ' : L2.St} {H' : Hp} {s' : Shared}, Inv (X.blk s3 H3 scope ce fp) X.pn σ' H' s' → (∀ b ∈ fp, H' b = none) → ∀ b ∈ fp, FpOk (X.blk s3 H3 scope ce fp) X.pn H' b := fun {σ' H' s'} I' hn b hb =>
    ⟨hn b hb, (I'.ok.exf b hb).1, I'.ok.exfs b hb, .inl hb, fun x c e => (I'.ok.exf b hb).2 x c e, fun p hp => (f3 b hb).2.2.2.2.2 p (List.mem_append_left _ (by simpa using hp))⟩
  have loop : codeAny (model X.prog X.w) X.A (.compLoop (.ListComp elt [⟨tg, iter, ifs, 0⟩] scope pos) 0 (.ref it) (.ref D) ce) (compPost (model X.prog X.w) X.A X.xe (some (assign (.Name y py) X.env)) (fun _ s' => wpAny (model X.prog X.w) X.A (pure () : Sem Unit) (fun _ s2 => wpAny (model X.prog X.w) X.A (pure Flow.next : Sem Flow) (SP X pins E) X.xe s2) X.xe s') (.ref D) s3.heap.objs.size) s4 := by
    refine compLoop_any (fun n s' => ∃ k H', Inv (X.blk s3 H3 scope ce fp) [] (wipe σ (own.map (·.2))) H' s' ∧ tn k s'.heap ∧ (∀ b ∈ fp, H' b = none) ∧ Wm k n H') ?_ m0 ⟨0, H3, I4, st4, fun b hb => (f3 b hb).1, w0⟩
    rintro n s5 ⟨k, H5, I5, st5, n5, w5⟩
    have J5 := blk_pins I3 f3 cL I5
    rcases turn k n H5 w5 with ⟨stop, qq⟩ | ⟨go, Nx, hNx, step⟩
    · refine thnF (blk_done hot T J5 (fpB J5 n5) st5 stop) fun r s6 ⟨hr, I6⟩ => ?_
      subst hr
      have I7 : Inv X pins σ H5 s6 := I3.call' (ch := fp) I6.os I6.base I6.hok I6.bare fun b hb => ⟨(f3 b hb).2.2.2.1, (f3 b hb).2.1, (f3 b hb).2.2.2.2.1, (f3 b hb).2.2.2.2.2⟩
      obtain ⟨m, hn, _⟩ := I6.loc
      have hn : s6.heap.Ns ce.locals m := hn
      have nC : H5 ce.locals = none := I6.free
      rw [cL] at hn nC
      obtain ⟨f0, f1, f2', f4, f5, f6⟩ := I3.fpOk (H' := H5) (Nat.le_refl _) nC
      show wpAny _ _ (assign (.Name y py) X.env (.ref D)) _ _ _
      refine wpAny_assign_Name (store_ok2 (v := V.ref D) I7 hN hy (.inl hyl) rfl (fun s8 I8 ⟨b, sb, hb⟩ => ?_) (.inr hyl))
      have far : s3.heap.objs.size ≠ b := by
        rcases hb with z | z
        · rw [z]; exact f1
        · exact fun e => f5 y b z e.symm
      refine ⟨m, hn.sameBut sb far, fun h9 sb9 => wpAny_pure (wpAny_pure ?_)⟩
      exact ⟨_, H5, I8.turned (t' := s8.toks) (fun b o hb e => (sb9.2 b hb).trans e) f0 f1 f4 f5 f6, qq⟩
    · refine thnF (blk_item hot T J5 (fpB J5 n5) st5 go) fun r s6 ⟨u, hr, h6⟩ => ?_
      subst hr
      refine thnF h6 fun _ s7 ⟨x, H7, I7, r7, y7, st7, n7⟩ => ?_
      have J7 := blk_pins I3 f3 cL I7
      have I7' := I7.pinned (fun b hb => (⟨(fpB J7 n7 b hb).1, (fpB J7 n7 b hb).2.1, (fpB J7 n7 b hb).2.2.1, (fpB J7 n7 b hb).2.2.2.1, (fpB J7 n7 b hb).2.2.2.2.1, fun _ z => nomatch z⟩ : FpOk (X.blk s3 H3 scope ce fp) [] H7 b)) (T.obj _ _ st7)
      refine thnF (pg.run _ s7 _ H7 x u _ I7' r7 (step x H7 y7)) fun _ s8 ⟨σ8, H8, I8, hw8, q8⟩ => ?_
      refine thnF (pt.run _ s8 σ8 H8 _ I8 q8) fun b s9 ⟨H9, I9, q9⟩ => ?_
      have again : ∀ {s' : Shared} {H' : Hp}, Inv (X.blk s3 H3 scope ce fp) ([] ++ pinsAt fp s7.heap) σ8 H' s' → Nx H' → ∃ m, m < n ∧ ∃ k H', Inv (X.blk s3 H3 scope ce fp) [] (wipe σ (own.map (·.2))) H' s' ∧ tn k s'.heap ∧ (∀ b ∈ fp, H' b = none) ∧ Wm k m H' := fun {s' H'} I' nx => by
        obtain ⟨m', hm, w'⟩ := hNx H' nx
        have stay : ∀ b ∈ fp, ∀ o, s7.heap.get? b = some o → s'.heap.get? b = some o ∧ H' b = none := fun b hb o e =>
          let z := I'.pin (b, o) (List.mem_append_right _ (List.mem_append_right _ (mem_pinsAt hb e)))
          ⟨z.1, z.2.1⟩
        refine ⟨m', hm, k + 1, H', (I'.unpinned (pins := [])).weak (by rw [← hw8, wipe_length]) (fun j v e => ?_), T.keep _ _ _ st7 fun b hb o e => (stay b hb o e).1, fun b hb => ?_, w'⟩
        · rw [← hw8] at e
          exact (wipe_some e).1
        · obtain ⟨o, e, _⟩ := T.obj _ _ st7 b hb
          exact (stay b hb o e).2
      cases b with
      | false =>
        simp only [Bool.false_eq_true, if_false] at q9 ⊢
        exact again I9 q9
      | true =>
        simp only [if_true] at q9 ⊢
        refine thnF (pe.run _ s9 σ8 H9 _ I9 q9) fun z s10 ⟨yv, H10, I10, r10, acc, hD10, hz10, nx⟩ => ?_
        exact app_ok (X := X.blk s3 H3 scope ce fp) I10 hD10 hz10 r10 fun s11 I11 => again I11 nx
  exact codeAny_compStart_list loop (T.self X.A 0 _ _ _ st4 loop)
end
end R
namespace R
open PySem PySem.StrLaws Builtin.Str L2
/-! ### cells of a change, and the fewest rows that give them -/
inductive Cel where
  | pl (i : Nat)
  | sg (c : Nat)
  deriving DecidableEq
def Cel.v : Cel → V
  | .pl i => .int (i : Nat)
  | .sg c => .str ⟨#[c]⟩
def Cel.ok (n : Nat) : Cel → Prop
  | .pl i => i < n
  | .sg c => c < 0x110000
def Cel.out (O : List Nat) : Cel → Nat
  | .pl i => O.getD i 0
  | .sg c => c
def Cel.w : Cel → Nat
  | .pl _ => 0
  | .sg _ => 1
def CRow.cels : CRow → List Cel
  | .put s => (cd s).map Cel.sg
  | .copy a n => (List.range n).map fun k => .pl (a + k)
abbrev celsL (rows : List CRow) : List Cel := rows.flatMap CRow.cels
theorem cels_v : ∀ rows : List CRow, cellsV rows = (celsL rows).map Cel.v
  | [] => rfl
  | r :: rows => by
    show r.cellV ++ cellsV rows = (r.cels ++ celsL rows).map Cel.v
    rw [List.map_append, ← cels_v rows]
    congr 1
    cases r with
    | put s =>
      show chars s = ((cd s).map Cel.sg).map Cel.v
      rw [List.map_map]
      rfl
    | copy a n =>
      show (List.range n).map _ = ((List.range n).map _).map Cel.v
      rw [List.map_map]
      rfl
theorem celsL_app (a b : List CRow) : celsL (a ++ b) = celsL a ++ celsL b := List.flatMap_append
theorem celsL_one (r : CRow) : celsL [r] = r.cels := List.append_nil _
theorem cels_len (rows : List CRow) : (celsL rows).length = givesL rows := by
  have h := cells_len rows
  rw [cels_v, List.length_map] at h
  exact h
theorem cel_cellok {n : Nat} {c : Cel} (h : c.ok n) : CellOk n c.v := by
  cases c with
  | pl i => exact .inl ⟨i, rfl, h⟩
  | sg c => exact .inr ⟨c, rfl, h⟩
theorem cels_ok {n : Nat} {rows : List CRow} (h : ∀ r ∈ rows, CRowOk n r) : ∀ c ∈ celsL rows, c.ok n := by
  intro c hc
  obtain ⟨r, hr, hc⟩ := List.mem_flatMap.mp hc
  have ro := h r hr
  cases r with
  | put s =>
    obtain ⟨d, hd, rfl⟩ := List.mem_map.mp hc
    exact ok_codes.mp ro.s.1 d hd
  | copy a k =>
    obtain ⟨j, hj, rfl⟩ := List.mem_map.mp hc
    have := List.mem_range.mp hj
    have hh : a + k ≤ n := ro.h
    show a + j < n
    omega
theorem out_cel (o : Str) (c : Cel) : outS o c.v = ⟨#[c.out (cd o)]⟩ := by
  cases c with
  | pl i => rfl
  | sg c => rfl
theorem outs_cels (o : Str) : ∀ cs : List Cel, ((cs.map Cel.v).map (outS o)).flatMap cd = cs.map (Cel.out (cd o))
  | [] => rfl
  | c :: cs => by
    rw [List.map_cons, List.map_cons, List.flatMap_cons, outs_cels o cs, out_cel]
    rfl
theorem mk_cels {o : Str} {rows : List CRow} (h : ∀ r ∈ rows, CRowOk o.length r) : rows.flatMap (CRow.mk (cd o)) = (celsL rows).map (Cel.out (cd o)) := by
  rw [← outs_rows o h, cels_v, outs_cels]
theorem cd_app (a b : Str) : cd (a ++ b) = cd a ++ cd b := TL.tl_append a b
def CRow.add : CRow → Cel → Option CRow
  | .copy a n, .pl i => if a + n = i then some (.copy a (n + 1)) else none
  | .put s, .sg c => some (.put (s ++ ⟨#[c]⟩))
  | _, _ => none
def CRow.one : Cel → CRow
  | .pl i => .copy i 1
  | .sg c => .put ⟨#[c]⟩
/-- one cell more, the last row ahead -/
def addC (rs : List CRow) (c : Cel) : List CRow :=
  match rs with
  | [] => [CRow.one c]
  | r :: t => match r.add c with
    | some q => q :: t
    | none => CRow.one c :: r :: t
def plainR (cs : List Cel) : List CRow := cs.foldl addC []
def plainL (cs : List Cel) : List CRow := (plainR cs).reverse
theorem plainR_snoc (cs : List Cel) (c : Cel) : plainR (cs ++ [c]) = addC (plainR cs) c := by
  unfold plainR
  rw [List.foldl_append]
  rfl
theorem plainR_take {cs : List Cel} {i : Nat} {c : Cel} (h : cs[i]? = some c) : plainR (cs.take (i + 1)) = addC (plainR (cs.take i)) c := by
  rw [List.take_add_one, h]
  exact plainR_snoc _ _
theorem one_cels (c : Cel) : (CRow.one c).cels = [c] := by
  cases c <;> rfl
theorem add_cels {r q : CRow} {c : Cel} (h : r.add c = some q) : q.cels = r.cels ++ [c] := by
  cases r with
  | put s =>
    cases c with
    | pl i => cases h
    | sg c =>
      have e := Option.some.inj h
      subst e
      show (cd (s ++ ⟨#[c]⟩)).map Cel.sg = _
      rw [cd_app, List.map_append]
      rfl
  | copy a n =>
    cases c with
    | sg c => cases h
    | pl i =>
      unfold CRow.add at h
      by_cases e : a + n = i
      · simp only [if_pos e] at h
        have e2 := Option.some.inj h
        subst e2
        subst e
        show (List.range (n + 1)).map _ = _
        rw [List.range_succ, List.map_append]
        rfl
      · simp only [if_neg e] at h
        cases h
theorem add_gives {r q : CRow} {c : Cel} (h : r.add c = some q) : 1 ≤ q.gives := by
  have e := congrArg List.length (add_cels h)
  have e2 := cels_len [q]
  rw [celsL_one] at e2
  have e3 : givesL [q] = q.gives + 0 := rfl
  rw [List.length_append] at e
  have e4 : [c].length = 1 := rfl
  omega
theorem addC_cels (rs : List CRow) (c : Cel) : celsL (addC rs c).reverse = celsL rs.reverse ++ [c] := by
  cases rs with
  | nil =>
    show (CRow.one c).cels ++ [] = [] ++ [c]
    rw [one_cels]
    rfl
  | cons r t =>
    show celsL (match r.add c with | some q => q :: t | none => CRow.one c :: r :: t).reverse = _
    cases h : r.add c with
    | some q =>
      show celsL (q :: t).reverse = _
      rw [List.reverse_cons, List.reverse_cons, celsL_app, celsL_app, List.append_assoc, celsL_one, celsL_one, add_cels h]
    | none =>
      show celsL (CRow.one c :: r :: t).reverse = _
      rw [List.reverse_cons, celsL_app, celsL_one, one_cels]
theorem addC_gives {rs : List CRow} (c : Cel) (h : ∀ r ∈ rs, 1 ≤ r.gives) : ∀ r ∈ addC rs c, 1 ≤ r.gives := by
  have h1 : 1 ≤ (CRow.one c).gives := by
    cases c <;> exact Nat.le_refl _
  cases rs with
  | nil =>
    intro r hr
    rw [List.mem_singleton.mp (show r ∈ [CRow.one c] from hr)]
    exact h1
  | cons r t =>
    intro x hx
    have hx : x ∈ (match r.add c with | some q => q :: t | none => CRow.one c :: r :: t) := hx
    cases e : r.add c with
    | some q =>
      rw [e] at hx
      rcases List.mem_cons.mp hx with rfl | hx
      · exact add_gives e
      · exact h x (List.mem_cons_of_mem _ hx)
    | none =>
      rw [e] at hx
      rcases List.mem_cons.mp hx with rfl | hx
      · exact h1
      · exact h x hx
theorem foldC : ∀ (cs : List Cel) (rs : List CRow), (∀ r ∈ rs, 1 ≤ r.gives) → celsL (cs.foldl addC rs).reverse = celsL rs.reverse ++ cs ∧ ∀ r ∈ cs.foldl addC rs, 1 ≤ r.gives
  | [], rs, h => ⟨(List.append_nil _).symm, h⟩
  | c :: cs, rs, h => by
    obtain ⟨h1, h2⟩ := foldC cs (addC rs c) (addC_gives c h)
    refine ⟨?_, h2⟩
    show celsL (cs.foldl addC (addC rs c)).reverse = _
    rw [h1, addC_cels, List.append_assoc]
    rfl
/-- the same cells -/
theorem plain_cels (cs : List Cel) : celsL (plainL cs) = cs := (foldC cs [] (fun _ h => nomatch h)).1
theorem plain_gives (cs : List Cel) : ∀ r ∈ plainL cs, 1 ≤ r.gives := fun r hr => (foldC cs [] (fun _ h => nomatch h)).2 r (List.mem_reverse.mp hr)
theorem row_le {rows : List CRow} {r : CRow} (h : r ∈ rows) : r.gives ≤ givesL rows := by
  induction rows with
  | nil => cases h
  | cons q rows ih =>
    show r.gives ≤ q.gives + givesL rows
    rcases List.mem_cons.mp h with rfl | h
    · omega
    · have := ih h
      omega
theorem rowsOk_of {n : Nat} {rows : List CRow} (h1 : ∀ r ∈ rows, 1 ≤ r.gives) (h2 : ∀ c ∈ celsL rows, c.ok n) (h3 : (celsL rows).length ≤ 400) : RowsOk n rows := by
  rw [cels_len] at h3
  refine ⟨fun r hr => ?_, h3⟩
  have g1 := h1 r hr
  have g2 := row_le hr
  have hc : ∀ c ∈ r.cels, c.ok n := fun c hc => h2 c (List.mem_flatMap.mpr ⟨r, hr, hc⟩)
  cases r with
  | put s =>
    refine ⟨⟨ok_codes.mpr fun c hd => hc (.sg c) (List.mem_map.mpr ⟨c, hd, rfl⟩), ?_⟩, g1, Nat.zero_le _⟩
    have : (CRow.put s).gives = s.length := rfl
    omega
  | copy a k =>
    refine ⟨trivial, g1, ?_⟩
    have g3 : 1 ≤ k := g1
    have := hc (.pl (a + (k - 1))) (List.mem_map.mpr ⟨k - 1, List.mem_range.mpr (by omega), rfl⟩)
    have h4 : a + (k - 1) < n := this
    show a + k ≤ n
    omega
theorem plain_ok {n : Nat} {cs : List Cel} (h : ∀ c ∈ cs, c.ok n) (hl : cs.length ≤ 400) : RowsOk n (plainL cs) := rowsOk_of (plain_gives cs) (by rw [plain_cels]; exact h) (by rw [plain_cels]; exact hl)
theorem plain_mk {o : Str} {cs : List Cel} (h : ∀ c ∈ cs, c.ok o.length) (hl : cs.length ≤ 400) : (plainL cs).flatMap (CRow.mk (cd o)) = cs.map (Cel.out (cd o)) := by
  rw [mk_cels (plain_ok h hl).ok, plain_cels]
theorem plain_same {o : Str} {rows : List CRow} (ok : RowsOk o.length rows) : (plainL (celsL rows)).flatMap (CRow.mk (cd o)) = rows.flatMap (CRow.mk (cd o)) := by
  rw [plain_mk (cels_ok ok.ok) (by rw [cels_len]; exact ok.sum), mk_cels ok.ok]
/-! ### back, and one behind the other -/
def midC (cs : List Cel) : Cel → Cel
  | .pl k => cs.getD k (.sg 0)
  | .sg c => .sg c
theorem mid_ok {cs ds : List Cel} {n : Nat} (h : ∀ c ∈ cs, c.ok n) (h2 : ∀ d ∈ ds, d.ok cs.length) : ∀ c ∈ ds.map (midC cs), c.ok n := by
  intro c hc
  obtain ⟨d, hd, rfl⟩ := List.mem_map.mp hc
  have := h2 d hd
  cases d with
  | pl k =>
    have hk : k < cs.length := this
    show (cs.getD k (.sg 0)).ok n
    rw [List.getD_eq_getElem?_getD, List.getElem?_eq_getElem hk]
    exact h _ (List.getElem_mem _)
  | sg c => exact this
theorem mid_out {cs ds : List Cel} {O : List Nat} (h2 : ∀ d ∈ ds, d.ok cs.length) : (ds.map (midC cs)).map (Cel.out O) = ds.map (Cel.out (cs.map (Cel.out O))) := by
  rw [List.map_map]
  refine List.map_congr_left fun d hd => ?_
  have := h2 d hd
  cases d with
  | pl k =>
    have hk : k < cs.length := this
    show (cs.getD k (.sg 0)).out O = (cs.map (Cel.out O)).getD k 0
    rw [List.getD_eq_getElem?_getD, List.getD_eq_getElem?_getD, List.getElem?_map, List.getElem?_eq_getElem hk]
    rfl
  | sg c => rfl
theorem addC_some {r q : CRow} {t : List CRow} {c : Cel} (h : r.add c = some q) : addC (r :: t) c = q :: t := by
  show (match r.add c with | some q => q :: t | none => CRow.one c :: r :: t) = _
  rw [h]
theorem addC_none {r : CRow} {t : List CRow} {c : Cel} (h : r.add c = none) : addC (r :: t) c = CRow.one c :: r :: t := by
  show (match r.add c with | some q => q :: t | none => CRow.one c :: r :: t) = _
  rw [h]
theorem dpa_init {K : PySem.W.Frag} {F : Hp} {v : V} {d : PyData} : ∀ {us : List V} {ds : List PyData}, DpAll K F (us ++ [v]) (ds ++ [d]) → DpAll K F us ds
  | [], [], _ => .nil
  | [], d2 :: ds, h => by
    have := dpa_len h
    simp at this
  | u :: us, [], h => by
    have := dpa_len h
    simp at this
  | u :: us, d2 :: ds, h => by
    cases h with
    | cons h1 h2 => exact .cons h1 (dpa_init h2)
theorem ix_last (us : List V) (x : V) : ixN (us ++ [x]).length (-1) = some us.length := by
  rw [List.length_append]
  show ixN (us.length + 1) (-1) = _
  unfold ixN
  simp
  try omega
theorem set_last (us : List V) (x y : V) : (us ++ [x]).set us.length y = us ++ [y] := by
  rw [List.set_append_right _ _ (Nat.le_refl _), Nat.sub_self]
  rfl
theorem dpa_takeN {K : PySem.W.Frag} {F : Hp} : ∀ {vs : List V} {ds : List PyData} (n : Nat), DpAll K F vs ds → DpAll K F (vs.take n) (ds.take n)
  | _, _, 0, _ => by rw [List.take_zero, List.take_zero]; exact .nil
  | _, _, n + 1, .nil => by rw [List.take_nil, List.take_nil]; exact .nil
  | _, _, n + 1, .cons h t => .cons h (dpa_takeN n t)
theorem dpa_dropN {K : PySem.W.Frag} {F : Hp} : ∀ {vs : List V} {ds : List PyData} (n : Nat), DpAll K F vs ds → DpAll K F (vs.drop n) (ds.drop n)
  | _, _, 0, h => h
  | _, _, n + 1, .nil => by rw [List.drop_nil, List.drop_nil]; exact .nil
  | _, _, n + 1, .cons h t => dpa_dropN n t
def Cel.d : Cel → PyData
  | .pl i => .int (i : Nat)
  | .sg c => .str ⟨#[c]⟩
/-! ### promises -/
def CRow.vals : CRow → List V
  | .put s => [.str "put", .str s]
  | .copy a n => [.str "copy", .int (a : Nat), .int (n : Nat)]
/-- the last row in hand: the one at the end, or a sham one -/
def LastIs (rs : List CRow) (us : List V) (la : Addr) (lv : List V) : Prop := (rs = [] ∧ us = [] ∧ lv = [.str "", .int 0, .int 0]) ∨ ∃ r t us', rs = r :: t ∧ us = us' ++ [.ref la] ∧ lv = r.vals
def φrows_of (K : PySem.W.Frag) : V → Hp → VK → Prop := fun x H Q => ∃ (F : Hp) (a : Addr) (cs : List Cel) (n : Nat), x = .ref a ∧ Same F H ∧ SqL K F a (cs.map Cel.v) ∧ (∀ c ∈ cs, c.ok n) ∧ n ≤ 1000 ∧ cs.length ≤ 400 ∧ ∀ p ys F2 H2, H p = none → W [] F H F2 H2 [mu p (.lst ys), dpa K ys ((plainL cs).map CRow.d)] → Q (.ref p) H2
def φplainest (K : PySem.W.Frag) : V → Hp → VK → Prop := fun x H Q => ∃ (F : Hp) (n : Nat) (rows : List CRow), Same F H ∧ Chg K F x n rows ∧ RowsOk n rows ∧ n ≤ 400 ∧ ∀ v F2 H2, W [] F H F2 H2 [chg K v n (plainL (celsL rows))] → Q v H2
def φbehind (K : PySem.W.Frag) : V → V → Hp → VK → Prop := fun x y H Q => ∃ (F : Hp) (n : Nat) (rows1 rows2 : List CRow), Same F H ∧ Chg K F x n rows1 ∧ Chg K F y (givesL rows1) rows2 ∧ RowsOk n rows1 ∧ RowsOk (givesL rows1) rows2 ∧ n ≤ 400 ∧ ∀ v F2 H2, W [] F H F2 H2 [chg K v n (plainL ((celsL rows2).map (midC (celsL rows1))))] → Q v H2
/-! d.setdefault(k, x), d.get(k, x) with keys that are numbers -/
def φceq (K : PySem.W.Frag) : V → V → Hp → VK → Prop := fun x y H Q => ∃ (F : Hp) (n : Nat) (rows : List CRow), Same F H ∧ Chg K F x n rows ∧ Chg K F y n rows ∧ RowsOk n rows ∧ ∀ F2 H2, W [] F H F2 H2 [] → Q (.bl true) H2
end R
namespace R
open PySem PySem.Spec PyProof.Rows L2
/-! ### list(reversed(a list)) -/
section
variable {X : Cx} {K : PySem.W.Frag}
def tListRev (K : PySem.W.Frag) (te : TE) : TE := fun σ H Q => te σ H fun v H1 => ∃ (a : Addr) (xs : List V), v = .ref a ∧ SqL K H1 a xs ∧ ∀ q, H1 q = none → Q (.ref q) (upd H1 q (.lst xs.reverse))
end
section
variable {K : PySem.W.Frag} {M : List Addr} {F0 H0 F H : Hp} {L : List Own} {σ : L2.St} {Q : VK} {te : TE} {a : Addr} {xs : List V}
def lrvG (K : PySem.W.Frag) (v : V) (H1 : Hp) (Q : VK) : Prop := ∃ (a : Addr) (xs : List V), v = .ref a ∧ SqL K H1 a xs ∧ ∀ q, H1 q = none → Q (.ref q) (upd H1 q (.lst xs.reverse))
theorem x_lrv (q : te σ H fun v H1 => lrvG K v H1 Q) : tListRev K te σ H Q := q
instance : Step (tListRev K te σ H Q) (te σ H fun v H1 => lrvG K v H1 Q) := ⟨x_lrv⟩ -- st
end
end R
namespace R
open PySem L2
/-! ### changes one behind the other -/
def ids (n : Nat) : List Cel := (List.range n).map Cel.pl
theorem ids_len (n : Nat) : (ids n).length = n := by unfold ids; rw [List.length_map, List.length_range]
theorem ids_get {n k : Nat} (h : k < n) : (ids n)[k]? = some (.pl k) := by
  unfold ids
  rw [List.getElem?_map, List.getElem?_range h]
  rfl
theorem ids_ok {n : Nat} : ∀ c ∈ ids n, c.ok n := by
  intro c hc
  obtain ⟨k, hk, rfl⟩ := List.mem_map.mp hc
  exact List.mem_range.mp hk
theorem ids_out {O : List Nat} {n : Nat} (h : O.length = n) : (ids n).map (Cel.out O) = O := by
  refine List.ext_getElem? fun k => ?_
  rw [List.getElem?_map]
  by_cases hk : k < n
  · rw [ids_get hk, List.getElem?_eq_getElem (by omega)]
    show some (O.getD k 0) = _
    rw [List.getD_eq_getElem?_getD, List.getElem?_eq_getElem (by omega)]
    rfl
  · rw [List.getElem?_eq_none (by rw [ids_len]; omega), List.getElem?_eq_none (by omega)]
    rfl
def foldX : List (List CRow) → List Cel → List Cel
  | [], cs => cs
  | r :: l, cs => foldX l ((celsL r).map (midC cs))
theorem foldX_snoc (r : List CRow) : ∀ (l : List (List CRow)) (cs : List Cel), foldX (l ++ [r]) cs = (celsL r).map (midC (foldX l cs))
  | [], _ => rfl
  | _ :: l, _ => foldX_snoc r l _
structure Chain (txs : List Str) (rss : List (List CRow)) : Prop where
  len : txs.length = rss.length + 1
  ok : ∀ (i : Nat) (t : Str), txs[i]? = some t → okS t ∧ t.length ≤ 400
  st : ∀ (i : Nat) (t u : Str) (rs : List CRow), txs[i]? = some t → rss[i]? = some rs → txs[i + 1]? = some u → RowsOk t.length rs ∧ rs.flatMap (CRow.mk (cd t)) = cd u
theorem chain_one {t : Str} (ok : okS t) (l : t.length ≤ 400) : Chain [t] [] := by
  refine ⟨rfl, fun i u h => ?_, fun i t u rs _ h => nomatch h⟩
  cases i with
  | zero => cases h; exact ⟨ok, l⟩
  | succ i => cases h
theorem chain_snoc {txs : List Str} {rss : List (List CRow)} {t u : Str} {rs : List CRow} (c : Chain txs rss) (ht : txs[rss.length]? = some t) (ok : RowsOk t.length rs) (h : rs.flatMap (CRow.mk (cd t)) = cd u) (oku : okS u) : Chain (txs ++ [u]) (rss ++ [rs]) := by
  have hl := c.len
  have lu : u.length ≤ 400 := by
    rw [← cd_len, ← h, mks_len (cd_len t) ok.ok]
    exact ok.sum
  refine ⟨by rw [List.length_append, List.length_append, hl]; rfl, fun i v hv => ?_, fun i v v2 r hv hr hv2 => ?_⟩
  · by_cases hi : i < txs.length
    · rw [List.getElem?_append_left hi] at hv
      exact c.ok i v hv
    · rw [List.getElem?_append_right (by omega)] at hv
      cases e : i - txs.length with
      | zero => rw [e] at hv; cases hv; exact ⟨oku, lu⟩
      | succ k => rw [e] at hv; cases hv
  · by_cases hi : i < rss.length
    · rw [List.getElem?_append_left (by omega)] at hv hv2
      rw [List.getElem?_append_left hi] at hr
      exact c.st i v v2 r hv hr hv2
    · rw [List.getElem?_append_right (by omega)] at hr
      have hi2 : i = rss.length := by
        cases e : i - rss.length with
        | zero => omega
        | succ k => rw [e] at hr; cases hr
      subst hi2
      rw [Nat.sub_self] at hr
      cases hr
      rw [List.getElem?_append_left (by omega), ht] at hv
      cases hv
      rw [List.getElem?_append_right (by omega), hl, Nat.sub_self] at hv2
      cases hv2
      exact ⟨ok, h⟩
theorem chain_get {txs : List Str} {rss : List (List CRow)} (c : Chain txs rss) {i : Nat} (h : i ≤ rss.length) : ∃ t, txs[i]? = some t := ⟨_, List.getElem?_eq_getElem (by have := c.len; omega)⟩
theorem chain_gives {txs : List Str} {rss : List (List CRow)} (c : Chain txs rss) {i : Nat} {t u : Str} {rs : List CRow} (ht : txs[i]? = some t) (hr : rss[i]? = some rs) (hu : txs[i + 1]? = some u) : givesL rs = u.length := by
  obtain ⟨ok, h⟩ := c.st i t u rs ht hr hu
  rw [← mks_len (cd_len t) ok.ok, h, cd_len]
/-- the cells behind the first j changes -/
theorem chain_at {txs : List Str} {rss : List (List CRow)} {t0 : Str} (c : Chain txs rss) (h0 : txs[0]? = some t0) : ∀ (j : Nat) (t : Str), j ≤ rss.length → txs[j]? = some t →
    (∀ x ∈ foldX (rss.take j) (ids t0.length), x.ok t0.length) ∧ (foldX (rss.take j) (ids t0.length)).length = t.length ∧ (foldX (rss.take j) (ids t0.length)).map (Cel.out (cd t0)) = cd t
  | 0, t, _, ht => by
    rw [h0] at ht
    cases ht
    exact ⟨ids_ok, ids_len _, ids_out (cd_len t0)⟩
  | j + 1, t, hj, ht => by
    obtain ⟨u, hu⟩ := chain_get c (i := j) (by omega)
    obtain ⟨rs, hr⟩ : ∃ rs, rss[j]? = some rs := ⟨_, List.getElem?_eq_getElem (by omega)⟩
    obtain ⟨i1, i2, i3⟩ := chain_at c h0 j u (by omega) hu
    obtain ⟨ok, hm⟩ := c.st j u t rs hu hr ht
    have hg := chain_gives c hu hr ht
    have e : rss.take (j + 1) = rss.take j ++ [rs] := by rw [List.take_add_one, hr]; rfl
    have hc : ∀ d ∈ celsL rs, d.ok (foldX (rss.take j) (ids t0.length)).length := by rw [i2]; exact cels_ok ok.ok
    rw [e, foldX_snoc]
    refine ⟨mid_ok i1 hc, by rw [List.length_map, cels_len, hg], ?_⟩
    rw [mid_out hc, i3, ← mk_cels ok.ok, hm]
/-! ### a list of changes -/
def ChgAll (K : PySem.W.Frag) (F : Hp) (vs : List V) (txs : List Str) (rss : List (List CRow)) : Prop := vs.length = rss.length ∧ ∀ (i : Nat) (v : V) (t : Str) (rs : List CRow), vs[i]? = some v → txs[i]? = some t → rss[i]? = some rs → Chg K F v t.length rs
theorem ChgAll.same {K : PySem.W.Frag} {F F2 : Hp} {vs : List V} {txs : List Str} {rss : List (List CRow)} (s : Same F F2) (h : ChgAll K F vs txs rss) : ChgAll K F2 vs txs rss := ⟨h.1, fun i v t rs h1 h2 h3 => (h.2 i v t rs h1 h2 h3).same s⟩
def chs (K : PySem.W.Frag) (vs : List V) (txs : List Str) (rss : List (List CRow)) : Own := pur (fun F => ChgAll K F vs txs rss) fun s h => h.same s
theorem chs_nil {K : PySem.W.Frag} {F : Hp} {txs : List Str} : ChgAll K F [] txs [] := ⟨rfl, fun i v t rs h => nomatch h⟩
theorem chs_snoc {K : PySem.W.Frag} {F : Hp} {vs : List V} {txs : List Str} {rss : List (List CRow)} {v : V} {t u : Str} {rs : List CRow} (h : ChgAll K F vs txs rss) (hl : txs.length = rss.length + 1) (ht : txs[rss.length]? = some t) (hc : Chg K F v t.length rs) : ChgAll K F (vs ++ [v]) (txs ++ [u]) (rss ++ [rs]) := by
  refine ⟨by rw [List.length_append, List.length_append, h.1]; rfl, fun i w t2 r2 h1 h2 h3 => ?_⟩
  have hv := h.1
  by_cases hi : i < rss.length
  · rw [List.getElem?_append_left (by omega)] at h1 h2 h3
    exact h.2 i w t2 r2 h1 h2 h3
  · have hi2 : i = rss.length := by
      rw [List.getElem?_append_right (by omega)] at h3
      cases e : i - rss.length with
      | zero => omega
      | succ k => rw [e] at h3; cases h3
    subst hi2
    rw [List.getElem?_append_right (by omega), hv, Nat.sub_self] at h1
    rw [List.getElem?_append_left (by omega), ht] at h2
    rw [List.getElem?_append_right (by omega), Nat.sub_self] at h3
    cases h1
    cases h2
    cases h3
    exact hc
def copyR (n : Nat) : List CRow := if n = 0 then [] else [.copy 0 n]
theorem copy_ok {n : Nat} (h : n ≤ 400) : RowsOk n (copyR n) := by
  unfold copyR
  by_cases h0 : n = 0
  · rw [if_pos h0]
    exact ⟨fun _ h => (nomatch h), Nat.zero_le _⟩
  · rw [if_neg h0]
    refine ⟨fun r hr => ?_, by show n + 0 ≤ 400; omega⟩
    rw [List.mem_singleton.mp hr]
    exact ⟨trivial, by show 1 ≤ n; omega, by show 0 + n ≤ n; omega⟩
/-! ### loops over reversed(range(n)), is of bools -/
section
variable {K : PySem.W.Frag} {M : List Addr} {F0 H0 F H : Hp} {L L1 : List Own} {σ : L2.St} {g : TG} {tbody : TS} {nx bk ct : L2.St → Hp → Prop} {rt Q : VK}
def rvG (a b : Int) (H1 : Hp) (R : It → Hp → Prop) : Prop := -(2 ^ 62) ≤ a ∧ a < 2 ^ 62 ∧ -(2 ^ 62) ≤ b ∧ b < 2 ^ 62 ∧ R (Itc (a + (((b - a).toNat : Nat) : Int) - 1) (-1) (b - a).toNat) H1
theorem x_revR {ta : TE} {R : It → Hp → Prop} (q : ta σ H fun x H1 => ∃ n, x = .int n ∧ rvG 0 n H1 R) : iRevR (tRg1 ta) σ H R := q
instance {ta : TE} {R : It → Hp → Prop} : Step (iRevR (tRg1 ta) σ H R) (ta σ H fun x H1 => ∃ n, x = .int n ∧ rvG 0 n H1 R) := ⟨x_revR⟩ -- st
theorem n_isB {a b : Bool} (q : Q (.bl (decide (a = b))) H) : rIsB (.bl a) (.bl b) H Q := ⟨a, b, rfl, rfl, q⟩
instance {a b : Bool} : Step (rIsB (.bl a) (.bl b) H Q) (Q (.bl (decide (a = b))) H) := ⟨n_isB⟩ -- st
theorem n_notB {a b : Bool} (q : Q (.bl (!decide (a = b))) H) : rNotB (.bl a) (.bl b) H Q := ⟨a, b, rfl, rfl, q⟩
instance {a b : Bool} : Step (rNotB (.bl a) (.bl b) H Q) (Q (.bl (!decide (a = b))) H) := ⟨n_notB⟩ -- st
end
theorem atI_neg1 {α : Type} {xs : List α} {v : α} (h : xs[xs.length - 1]? = some v) : atI xs (-1) = some v := by
  have hl := (List.getElem?_eq_some_iff.mp h).1
  unfold atI ixN
  rw [if_neg (by decide)]
  first
    | (rw [if_pos (by omega)]; show xs[(((xs.length : Nat) : Int) + -1).toNat]? = some v; rw [show (((xs.length : Nat) : Int) + -1).toNat = xs.length - 1 by omega]; exact h)
    | (rw [if_pos (by omega)]; show xs[((-1 : Int) + ((xs.length : Nat) : Int)).toNat]? = some v; rw [show ((-1 : Int) + ((xs.length : Nat) : Int)).toNat = xs.length - 1 by omega]; exact h)
/-! ### promises of k09 -/
end R
namespace R
open PySem PySem.Spec PyProof.Rows L2
/-! ### a shelf in the heap -/
structure ShA where
  c : Addr
  dx : Addr
  pt : Addr
  pw : Addr
/-- on its way: where to, its runner -/
structure ShR where
  goal : Nat
  rv : V
  o : Own
structure ShS where
  slots : Nat
  txs : List Str
  rss : List (List CRow)
  now : Str
  stand : Nat
  ph : Option ShR
def phO : Option ShR → Own
  | none => pur (fun _ => True) fun _ h => h
  | some r => r.o
def goalV : Option ShR → V
  | none => .non
  | some r => .int (r.goal : Nat)
def shAs (a : ShA) (ph : Option ShR) : List Addr := a.c :: a.pt :: a.pw :: (phO ph).as
abbrev shFs (a : ShA) (slots stand : Nat) (now : Str) (g rv : V) : List (Str × V) := [("slots", .int (slots : Nat)), ("texts", .ref a.pt), ("ways", .ref a.pw), ("now", .str now), ("stand", .int (stand : Nat)), ("goal", g), ("runner", rv)]
def shO (K : PySem.W.Frag) (a : ShA) (slots stand : Nat) (now : Str) (g rv : V) : HO := .ins (He.ga K "Shelf") a.dx (shFs a slots stand now g rv)
def RunV (ph : Option ShR) (rv : V) : Prop := ∀ r, ph = some r → rv = r.rv
def shf (K : PySem.W.Frag) (a : ShA) (S : ShS) : Own := ⟨shAs a S.ph, fun F H => ∃ (vs : List V) (rv : V), RunV S.ph rv ∧ Mu F H a.c (shO K a S.slots S.stand S.now (goalV S.ph) rv) ∧ Mu F H a.pt (.lst (S.txs.map V.str)) ∧ Mu F H a.pw (.lst vs) ∧ ChgAll K F vs S.txs S.rss ∧ (phO S.ph).φ F H,
  fun {F H F2 H2} ss h n m => by
    obtain ⟨vs, rv, e, m1, m2, m3, m4, m5⟩ := m
    have h1 : a.c ∈ shAs a S.ph := List.mem_cons_self ..
    have h2 : a.pt ∈ shAs a S.ph := List.mem_cons_of_mem _ (List.mem_cons_self ..)
    have h3 : a.pw ∈ shAs a S.ph := List.mem_cons_of_mem _ (List.mem_cons_of_mem _ (List.mem_cons_self ..))
    have h4 : ∀ x ∈ (phO S.ph).as, x ∈ shAs a S.ph := fun x hx => List.mem_cons_of_mem _ (List.mem_cons_of_mem _ (List.mem_cons_of_mem _ hx))
    exact ⟨vs, rv, e, ⟨n _ h1 m1.n, h _ h1 _ m1.h⟩, ⟨n _ h2 m2.n, h _ h2 _ m2.h⟩, ⟨n _ h3 m3.n, h _ h3 _ m3.h⟩, m4.same ss, (phO S.ph).st ss (fun x hx => h x (h4 x hx)) (fun x hx => n x (h4 x hx)) m5⟩,
  fun {F H} m x hx => by
    obtain ⟨vs, rv, e, m1, m2, m3, m4, m5⟩ := m
    rcases List.mem_cons.mp hx with rfl | hx
    · exact ne_none m1.h
    · rcases List.mem_cons.mp hx with rfl | hx
      · exact ne_none m2.h
      · rcases List.mem_cons.mp hx with rfl | hx
        · exact ne_none m3.h
        · exact (phO S.ph).al m5 x hx⟩
section
variable {K : PySem.W.Frag} {M : List Addr} {F0 H0 F H : Hp} {L : List Own} {a : ShA} {S : ShS}
theorem W.opnS (w : W M F0 H0 F H (shf K a S :: L)) : ∃ (vs : List V) (rv : V), RunV S.ph rv ∧ vs.length = S.rss.length ∧ W M F0 H0 F H (R.mu a.c (shO K a S.slots S.stand S.now (goalV S.ph) rv) :: R.mu a.pt (.lst (S.txs.map V.str)) :: R.mu a.pw (.lst vs) :: chs K vs S.txs S.rss :: phO S.ph :: L) := by
  obtain ⟨vs, rv, e, m1, m2, m3, m4, m5⟩ := w.i (shf K a S) (List.mem_cons_self ..)
  refine ⟨vs, rv, e, m4.1, w.g, fun o ho => ?_, w.d, w.o⟩
  simp only [List.mem_cons] at ho
  rcases ho with rfl | rfl | rfl | rfl | rfl | ho
  · exact m1
  · exact m2
  · exact m3
  · exact m4
  · exact m5
  · exact w.i o (List.mem_cons_of_mem _ ho)
theorem W.clsS {slots stand : Nat} {txs : List Str} {rss : List (List CRow)} {now : Str} {ph : Option ShR} {vs : List V} {rv : V} (w : W M F0 H0 F H (R.mu a.c (shO K a slots stand now (goalV ph) rv) :: R.mu a.pt (.lst (txs.map V.str)) :: R.mu a.pw (.lst vs) :: chs K vs txs rss :: phO ph :: L)) (e : RunV ph rv) :
    W M F0 H0 F H (shf K a ⟨slots, txs, rss, now, stand, ph⟩ :: L) := by
  refine ⟨w.g, fun o ho => ?_, w.d, w.o⟩
  rcases List.mem_cons.mp ho with rfl | ho
  · exact ⟨vs, rv, e, w.i (R.mu a.c _) (by simp), w.i (R.mu a.pt _) (by simp), w.i (R.mu a.pw _) (by simp), w.i (chs K vs _ _) (by simp), w.i (phO ph) (by simp)⟩
  · exact w.i o (by simp only [List.mem_cons]; simp [ho])
end
theorem ads_shf {K : PySem.W.Frag} {a : ShA} {S : ShS} : shAs a S.ph = ads [shf K a S] := (List.append_nil _).symm
theorem shw {K : PySem.W.Frag} {F H : Hp} {a : ShA} {S : ShS} (s : St F H [shf K a S]) : W (shAs a S.ph) F H F H [shf K a S] := s.w ads_shf
theorem last_txt {S : ShS} {t : Str} (c : Chain S.txs S.rss) (ht : S.txs[S.rss.length]? = some t) : (S.txs.map V.str)[(S.txs.map V.str).length - 1]? = some (.str t) := by
  rw [List.length_map, c.len, Nat.add_sub_cancel, List.getElem?_map, ht]
  rfl
theorem n_methS {K : PySem.W.Frag} {M : List Addr} {F0 H0 F H : Hp} {L : List Own} {a : ShA} {S : ShS} {m : Str} {P : Prop} (w : W M F0 H0 F H L) (k : shf K a S ∈ L) (l : ∀ slots stand now g rv, (shFs a slots stand now g rv).lookup m = none) (q : P) : mthG (He.ga K "Shelf") m (.ref a.c) H P := by
  obtain ⟨vs, rv, e, m1, _⟩ := w.i _ k
  exact n_meth m1.h (l _ _ _ _ _) q
theorem runV_none {rv : V} : RunV none rv := fun _ h => nomatch h
/-! ### the texts of a shelf -/
structure ShOk (S : ShS) : Prop where
  ch : Chain S.txs S.rss
  now : S.txs[S.stand]? = some S.now
  n : S.rss.length ≤ 100
  sl : S.slots ≤ 1000
def ShS.add (S : ShS) (u : Str) (rows : List CRow) : ShS := ⟨S.slots, S.txs ++ [u], S.rss ++ [plainL (celsL rows)], S.now, S.stand, S.ph⟩
def ShS.del (S : ShS) : ShS := ⟨S.slots, S.txs.dropLast, S.rss.dropLast, S.now, S.stand, S.ph⟩
/-- the cells of the change from a version to a later one -/
def cellsB (S : ShS) (i j n : Nat) : List Cel := foldX ((S.rss.drop i).take (j - i)) (ids n)
theorem ShOk.lt {S : ShS} (h : ShOk S) : S.stand ≤ S.rss.length := by
  have := (List.getElem?_eq_some_iff.mp h.now).1
  have := h.ch.len
  omega
theorem ShOk.add {S : ShS} {u t : Str} {rows : List CRow} (h : ShOk S) (hl : S.rss.length < 100) (ht : S.txs[S.rss.length]? = some t) (ok : RowsOk t.length rows) (hm : cd u = rows.flatMap (CRow.mk (cd t))) (oku : okS u) : ShOk (S.add u rows) := by
  have hlt := (List.getElem?_eq_some_iff.mp h.now).1
  have lt := (h.ch.ok _ t ht).2
  refine ⟨chain_snoc h.ch ht (plain_ok (cels_ok ok.ok) (by rw [cels_len]; exact ok.sum)) (by rw [plain_same ok, hm]) oku, ?_, ?_, h.sl⟩
  · show (S.txs ++ [u])[S.stand]? = _
    rw [List.getElem?_append_left hlt]
    exact h.now
  · show (S.rss ++ [_]).length ≤ 100
    rw [List.length_append]
    show S.rss.length + 1 ≤ 100
    omega
theorem chain_last {txs : List Str} {rss : List (List CRow)} (c : Chain txs rss) : Chain txs.dropLast rss.dropLast ∨ rss = [] := by
  by_cases h : rss = []
  · exact .inr h
  · left
    have hl := c.len
    have h1 : 0 < rss.length := List.length_pos_iff.mpr h
    refine ⟨by rw [List.length_dropLast, List.length_dropLast]; omega, fun i t ht => ?_, fun i t u rs ht hr hu => ?_⟩
    · rw [List.getElem?_dropLast] at ht
      split at ht
      · exact c.ok i t ht
      · cases ht
    · rw [List.getElem?_dropLast] at ht hr hu
      split at ht
      · split at hr
        · split at hu
          · exact c.st i t u rs ht hr hu
          · cases hu
        · cases hr
      · cases ht
theorem ShOk.del {S : ShS} (h : ShOk S) (hs : S.stand ≠ S.rss.length) : ShOk S.del := by
  have hlt := h.lt
  have hl := h.ch.len
  refine ⟨(chain_last h.ch).elim id fun z => absurd (by rw [z] at hlt ⊢; exact Nat.le_zero.mp hlt) hs, ?_, ?_, h.sl⟩
  · show S.txs.dropLast[S.stand]? = _
    rw [List.getElem?_dropLast, if_pos (by omega)]
    exact h.now
  · show S.rss.dropLast.length ≤ 100
    rw [List.length_dropLast]
    have := h.n
    omega
theorem chain_from {txs : List Str} {rss : List (List CRow)} (c : Chain txs rss) {i : Nat} (h : i ≤ rss.length) : Chain (txs.drop i) (rss.drop i) := by
  have hl := c.len
  refine ⟨by rw [List.length_drop, List.length_drop]; omega, fun k t ht => ?_, fun k t u rs ht hr hu => ?_⟩
  · rw [List.getElem?_drop] at ht
    exact c.ok _ t ht
  · rw [List.getElem?_drop] at ht hr hu
    exact c.st (i + k) t u rs ht hr (by rw [Nat.add_assoc]; exact hu)
/-- what stands between two versions -/
theorem ShOk.mid {S : ShS} (h : ShOk S) {i j : Nat} {ti tj : Str} (hij : i ≤ j) (hi : S.txs[i]? = some ti) (hj : S.txs[j]? = some tj) :
    (∀ x ∈ cellsB S i j ti.length, x.ok ti.length) ∧ (cellsB S i j ti.length).length = tj.length ∧ (cellsB S i j ti.length).map (Cel.out (cd ti)) = cd tj := by
  have hl := h.ch.len
  have hjl := (List.getElem?_eq_some_iff.mp hj).1
  refine chain_at (chain_from h.ch (i := i) (by omega)) (by rw [List.getElem?_drop]; exact hi) (j - i) tj (by rw [List.length_drop]; omega) ?_
  rw [List.getElem?_drop, show i + (j - i) = j by omega]
  exact hj
theorem cellsB_succ {S : ShS} {i j n : Nat} {r : List CRow} (hij : i ≤ j) (h : S.rss[j]? = some r) : cellsB S i (j + 1) n = (celsL r).map (midC (cellsB S i j n)) := by
  unfold cellsB
  rw [show j + 1 - i = j - i + 1 by omega, List.take_add_one, List.getElem?_drop, show i + (j - i) = j by omega, h]
  exact foldX_snoc _ _ _
theorem cellsB_same {S : ShS} {i n : Nat} : cellsB S i i n = ids n := by
  unfold cellsB
  rw [Nat.sub_self]
  rfl
/-- the copy of the whole is the plainest of its cells -/
theorem ids_plain (n : Nat) : plainL (ids n) = copyR n := by
  have key : ∀ m, plainR (ids (m + 1)) = [.copy 0 (m + 1)] := by
    intro m
    induction m with
    | zero => rfl
    | succ m ih =>
      have e : ids (m + 1 + 1) = ids (m + 1) ++ [.pl (m + 1)] := by
        unfold ids
        rw [List.range_succ, List.map_append]
        rfl
      rw [e, plainR_snoc, ih]
      show (match (CRow.copy 0 (m + 1)).add (.pl (m + 1)) with
        | some q => [q]
        | none => CRow.one (.pl (m + 1)) :: [.copy 0 (m + 1)]) = _
      have e2 : (CRow.copy 0 (m + 1)).add (.pl (m + 1)) = some (.copy 0 (m + 1 + 1)) := by
        show (if 0 + (m + 1) = m + 1 then some (CRow.copy 0 (m + 1 + 1)) else none) = _
        rw [if_pos (by omega)]
      rw [e2]
  cases n with
  | zero => rfl
  | succ m =>
    unfold plainL
    rw [key]
    rfl
theorem snoc_of {α : Type} {xs : List α} (h : 0 < xs.length) : ∃ ys y, xs = ys ++ [y] := ⟨xs.dropLast, xs.getLast (List.ne_nil_of_length_pos h), (List.dropLast_concat_getLast _).symm⟩
theorem chs_del {K : PySem.W.Frag} {F : Hp} {vs : List V} {txs : List Str} {rss : List (List CRow)} (h : ChgAll K F vs txs rss) : ChgAll K F vs.dropLast txs.dropLast rss.dropLast := by
  refine ⟨by rw [List.length_dropLast, List.length_dropLast, h.1], fun i v t rs h1 h2 h3 => ?_⟩
  rw [List.getElem?_dropLast] at h1 h2 h3
  split at h1
  · split at h2
    · split at h3
      · exact h.2 i v t rs h1 h2 h3
      · cases h3
    · cases h2
  · cases h1
/-! ### drawn rows -/
def blkR (p : Nat × Nat) : CRow := .copy p.1 p.2
def blkRD (p : Nat × Nat) : PyData := (blkR p).d
theorem blk_crows {N : Nat} {cs : List Nat} (q : cs.Pairwise (· < ·)) (h : ∀ c ∈ cs, c ≤ N) : (∀ r ∈ (blks cs).map blkR, CRowOk N r) ∧ givesL ((blks cs).map blkR) ≤ N := by
  refine ⟨fun r hr => ?_, ?_⟩
  · obtain ⟨p, hp, rfl⟩ := List.mem_map.mp hr
    obtain ⟨h1, h2⟩ := blks_ok q h p hp
    exact ⟨trivial, h1, h2⟩
  · unfold givesL
    rw [List.map_map]
    exact blk_sum q h
theorem gives_perm {a b : List CRow} (h : a.Perm b) : givesL a = givesL b := (h.map _).sum_nat
theorem crows_perm {n : Nat} {a b : List CRow} (h : a.Perm b) (ok : ∀ r ∈ a, CRowOk n r) : ∀ r ∈ b, CRowOk n r := fun r hr => ok r (h.mem_iff.mpr hr)
theorem ins_perm (rows : List CRow) (r : CRow) (j : Nat) : (rows ++ [r]).Perm (rows.take j ++ [r] ++ rows.drop j) := by
  conv => lhs; rw [← List.take_append_drop j rows]
  rw [List.append_assoc, List.append_assoc]
  exact List.Perm.append_left _ List.perm_append_comm
theorem dpa_insC {K : PySem.W.Frag} {F : Hp} {vs : List V} {ms : List CRow} {v : V} {m : CRow} (j : Nat) (h : DpAll K F vs (ms.map CRow.d)) (hm : Dp K F v m.d) : DpAll K F (vs.take j ++ [v] ++ vs.drop j) ((ms.take j ++ [m] ++ ms.drop j).map CRow.d) := by
  rw [List.map_append, List.map_append, List.map_take, List.map_drop]
  exact dpa_app (dpa_app (dpa_takeN j h) (.cons hm .nil)) (dpa_dropN j h)
/-! ### words told -/
def pickW (names : List Str) (bs : List Bool) (i : Nat) : List Str := ((names.zip bs).take i).filterMap fun p => if p.2 then some p.1 else none
theorem pickW_T {names : List Str} {bs : List Bool} {i : Nat} {z : Str} (hn : names[i]? = some z) (hb : bs[i]? = some true) : pickW names bs (i + 1) = pickW names bs i ++ [z] := by
  have e : (names.zip bs)[i]? = some (z, true) := by
    rw [List.getElem?_zip_eq_some]
    exact ⟨hn, hb⟩
  unfold pickW
  rw [List.take_add_one, e, List.filterMap_append]
  rfl
theorem pickW_F {names : List Str} {bs : List Bool} {i : Nat} {z : Str} (hn : names[i]? = some z) (hb : bs[i]? = some false) : pickW names bs (i + 1) = pickW names bs i := by
  have e : (names.zip bs)[i]? = some (z, false) := by
    rw [List.getElem?_zip_eq_some]
    exact ⟨hn, hb⟩
  unfold pickW
  rw [List.take_add_one, e, List.filterMap_append]
  show _ ++ [] = _
  rw [List.append_nil]
theorem pickW_len {names : List Str} {bs : List Bool} {i : Nat} : (pickW names bs i).length ≤ names.length := by
  unfold pickW
  refine Nat.le_trans (List.length_filterMap_le _ _) ?_
  rw [List.length_take, List.length_zip]
  omega
/-- what a deed of the law tells: what it gave, the names of its refusal -/
abbrev Tld (K : PySem.W.Frag) (a : ShA) (ph : Option ShR) (F H : Hp) (v : V) (ws : List Str) (S : ShS) (Q : VK) : Prop := ∀ (t p : Addr) (F2 H2 : Hp), H p = none → W (shAs a ph) F H F2 H2 [fx t (.tup [v, .ref p]), mu p (.lst (ws.map V.str)), shf K a S] → Q (.ref t) H2
/-! ### a change made of a list that may change -/
theorem c_initS {K : PySem.W.Frag} {M : List Addr} {F0 H0 F H : Hp} {L Rs Rs2 : List Own} {Q : VK} {E : XK} {c dx a : Addr} {vs : List V} {n : Nat} {rows : List CRow} (w : W M F0 H0 F H L) (k : Pick L [mu c (.ins (He.ga K "Change") dx [])] Rs) (ka : Pick L [mu a (.lst vs)] Rs2) (hc : H0 c = none) (hd : DpAll K F vs (rows.map CRow.d)) (hn : n ≤ 400) (ok : RowsOk n rows)
    (q : ∀ F2 H2, W M F0 H0 F2 H2 (chg K (.ref c) n rows :: Rs) → Q (.ref c) H2) : S3 (φinit K) [.ref c, .int (n : Nat), .ref a] H (aftG Q c) E := by
  have ma : Mu F H a (.lst vs) := (w.to ka).mu (List.mem_singleton.mpr rfl)
  have mc : Mu F H c (.ins (He.ga K "Change") dx []) := (w.to k).mu (List.mem_singleton.mpr rfl)
  have hne : c ≠ a := fun e => by
    have h1 := mc.h
    rw [e, ma.h] at h1
    cases h1
  have sF : Same F (upd F a (.lst vs)) := Same.new ma.n
  have sH : Same (upd F a (.lst vs)) H := fun b o e => by
    by_cases hb : b = a
    · subst hb
      rw [upd_same] at e
      rw [ma.h]
      exact e
    · rw [upd_ne hb] at e
      exact w.fh b o e
  have s0 : St (upd F a (.lst vs)) H [mu c (.ins (He.ga K "Change") dx [])] := by
    refine ⟨sH, fun o m => ?_, (w.st k).d⟩
    rw [List.mem_singleton.mp m]
    exact ⟨by rw [upd_ne hne]; exact mc.n, mc.h⟩
  refine ⟨upd F a (.lst vs), c, dx, a, vs, n, rows, rfl, rfl, rfl, s0, sqL_of upd_same, dpa_same sF _ _ hd, hn, ok, fun r F2 H2 hr w2 => ⟨rfl, ?_⟩⟩
  have m1 := w2.mu (p := c) (List.mem_cons_self ..)
  have m2 := w2.mu (p := r) (List.mem_cons_of_mem _ (List.mem_cons_self ..))
  have w3 : W [c] F H F H2 [mu c (insC (He.ga K "Change") dx r n), mu r (.lst vs)] := by
    refine ⟨w2.g.back sF, fun o m => ?_, w2.d, w2.o⟩
    rcases List.mem_cons.mp m with rfl | m
    · exact ⟨mc.n, m1.h⟩
    · rw [List.mem_singleton.mp m]
      exact ⟨w.fh.free hr, m2.h⟩
  have hr' := w.g.fresh hr
  have w := w.cal k w3 (.cons (.cons .nil)) rfl
  have m1 := w.mu (p := c) (List.mem_cons_self ..)
  have w := w.fz (.cons .here .nil) hc
  have hd2 := dpa_same (Same.new (o := insC (He.ga K "Change") dx r n) m1.n) _ _ hd
  have m2 := w.mu (p := r) (List.mem_cons_self ..)
  have w := w.fz (.cons .here .nil) hr'
  have hd2 := dpa_same (Same.new (o := .lst vs) m2.n) _ _ hd2
  refine q _ _ (w.push _ ⟨c, dx, r, vs, rfl, ?_, upd_same, hd2⟩)
  have hne : c ≠ r := fun e => by
    subst e
    have := m2.n
    rw [upd_same] at this
    cases this
  rw [upd_ne hne, upd_same]
theorem ref_good {ws : List Str} (h : ∀ x ∈ ws, okS x ∧ x.length ≤ 1000) (hl : ws.length ≤ 1000) (v : PyData) (hv : good v = true) (hd : v.depth = 0) : good (.tuple [v, .list (ws.map PyData.str)]) = true ∧ (PyData.tuple [v, .list (ws.map PyData.str)]).depth < 6 := by
  have g1 : good (.list (ws.map PyData.str)) = true := good_list (by rw [List.length_map]; omega) fun d hd => by
    obtain ⟨x, hx, rfl⟩ := List.mem_map.mp hd
    exact str_good (h x hx).1 (Nat.le_trans (h x hx).2 (by decide))
  have d1 : (PyData.list (ws.map PyData.str)).depth ≤ 1 := depth_list fun d hd => by
    obtain ⟨x, hx, rfl⟩ := List.mem_map.mp hd
    exact Nat.le_refl _
  constructor
  · refine good_tuple (by simp) fun d hd => ?_
    simp only [List.mem_cons, List.not_mem_nil, or_false] at hd
    rcases hd with rfl | rfl
    · exact hv
    · exact g1
  · refine Nat.lt_of_le_of_lt (depth_tuple (n := 1) fun d hd => ?_) (by decide)
    simp only [List.mem_cons, List.not_mem_nil, or_false] at hd
    rcases hd with rfl | rfl
    · omega
    · exact d1
theorem strs_dpa {K : PySem.W.Frag} {F : Hp} : ∀ ws : List Str, DpAll K F (ws.map V.str) (ws.map PyData.str)
  | [] => .nil
  | _ :: ws => .cons (.str _) (strs_dpa ws)
/-! ### promises -/
def φwhole_copy (K : PySem.W.Frag) : V → Hp → VK → Prop := fun x H Q => ∃ (F : Hp) (n : Nat), x = .int (n : Nat) ∧ Same F H ∧ n ≤ 400 ∧ ∀ v F2 H2, W [] F H F2 H2 [chg K v n (copyR n)] → Q v H2
def φshinit (K : PySem.W.Frag) : V → V → V → Hp → VK → Prop := fun x y z H Q => ∃ (F : Hp) (c dx : Addr) (t : Str) (slots : Nat), x = .ref c ∧ y = .str t ∧ z = .int (slots : Nat) ∧ St F H [mu c (.ins (He.ga K "Shelf") dx [])] ∧ okS t ∧ t.length ≤ 400 ∧
  ∀ a F2 H2, a.c = c → W [c] F H F2 H2 [shf K a ⟨slots, [t], [], t, 0, none⟩] → (∀ q ∈ [a.pt, a.pw], H q = none) → Q .non H2
def φtakeX (K : PySem.W.Frag) : V → V → Hp → VK → XK → Prop := fun x y H Q E => ∃ (F : Hp) (a : ShA) (S : ShS) (n : Nat) (rows : List CRow) (t : Str), x = .ref a.c ∧ St F H [shf K a S] ∧ Chg K F y n rows ∧ RowsOk n rows ∧ n ≤ 1000 ∧ ShOk S ∧ S.rss.length < 100 ∧ S.txs[S.rss.length]? = some t ∧
  (n = t.length → ∀ u F2 H2, W (shAs a S.ph) F H F2 H2 [shf K a (S.add u rows)] → cd u = rows.flatMap (CRow.mk (cd t)) → okS u → Q (.int ((S.rss.length + 1 : Nat) : Int)) H2) ∧
  (n ≠ t.length → ∀ F2 H2, W (shAs a S.ph) F H F2 H2 [shf K a S] → E (.ref (He.ga K "BadSize")) none H2)
def φneed (K : PySem.W.Frag) : V → V → Hp → VK → Prop := fun x y H Q => ∃ (F : Hp) (a : ShA) (S : ShS) (i : Nat), x = .ref a.c ∧ y = .int (i : Nat) ∧ St F H [shf K a S] ∧ i < S.txs.length ∧ S.txs.length ≤ 1000 ∧ ∀ F2 H2, W (shAs a S.ph) F H F2 H2 [shf K a S] → Q .non H2
/-- to a later version -/
def φbetweenF (K : PySem.W.Frag) : V → V → V → Hp → VK → Prop := fun x y z H Q => ∃ (F : Hp) (a : ShA) (S : ShS) (i j : Nat) (ti : Str), x = .ref a.c ∧ y = .int (i : Nat) ∧ z = .int (j : Nat) ∧ St F H [shf K a S] ∧ ShOk S ∧ i ≤ j ∧ j ≤ S.rss.length ∧ S.txs[i]? = some ti ∧
  ∀ v F2 H2, W (shAs a S.ph) F H F2 H2 [chg K v ti.length (plainL (cellsB S i j ti.length)), shf K a S] → Q v H2
def φat (K : PySem.W.Frag) : V → Hp → VK → Prop := fun x H Q => ∃ (F : Hp) (a : ShA) (S : ShS), x = .ref a.c ∧ St F H [shf K a S] ∧ ∀ F2 H2, W (shAs a S.ph) F H F2 H2 [shf K a S] → Q (match S.ph with | none => .int (S.stand : Nat) | some _ => .non) H2
def φshtext (K : PySem.W.Frag) : V → Hp → VK → Prop := fun x H Q => ∃ (F : Hp) (a : ShA) (S : ShS), x = .ref a.c ∧ St F H [shf K a S] ∧ S.ph = none ∧ ∀ F2 H2, W (shAs a S.ph) F H F2 H2 [shf K a S] → Q (.str S.now) H2
def φdropX (K : PySem.W.Frag) : V → Hp → VK → XK → Prop := fun x H Q E => ∃ (F : Hp) (a : ShA) (S : ShS), x = .ref a.c ∧ St F H [shf K a S] ∧ ShOk S ∧
  (S.ph = none → S.stand ≠ S.rss.length → ∀ F2 H2, W (shAs a S.ph) F H F2 H2 [shf K a S.del] → Q .non H2) ∧
  (S.ph = none → S.stand = S.rss.length → ∀ F2 H2, W (shAs a S.ph) F H F2 H2 [shf K a S] → E (.ref (He.ga K "NoVersion")) none H2) ∧
  (S.ph ≠ none → ∀ F2 H2, W (shAs a S.ph) F H F2 H2 [shf K a S] → E (.ref (He.ga K "Busy")) none H2)
def φversions (K : PySem.W.Frag) : V → Hp → VK → Prop := fun x H Q => ∃ (F : Hp) (a : ShA) (S : ShS), x = .ref a.c ∧ St F H [shf K a S] ∧ S.txs.length ≤ 1000 ∧ ∀ F2 H2, W (shAs a S.ph) F H F2 H2 [shf K a S] → Q (.int (S.txs.length : Nat)) H2
/-! ### what the laws of shelves draw -/
def φrows61 (K : PySem.W.Frag) : V → V → V → Hp → VK → Prop := fun x y z H Q => ∃ (F : Hp) (b : Addr) (n m : Nat), x = .ref b ∧ y = .int (n : Nat) ∧ z = .int (m : Nat) ∧ St F H [bag K b] ∧ n ≤ m ∧ m ≤ 400 ∧
  ∀ p ys rows F2 H2, H p = none → W [b] F H F2 H2 [mu p (.lst ys), dpa K ys (rows.map CRow.d), bag K b] → RowsOk n rows → givesL rows ≤ m → Q (.ref p) H2
def φparts61 (K : PySem.W.Frag) : V → V → Hp → VK → Prop := fun x y H Q => ∃ (F : Hp) (b : Addr) (n : Nat), x = .ref b ∧ y = .int (n : Nat) ∧ St F H [bag K b] ∧ n ≤ 400 ∧
  ∀ p ys rows F2 H2, H p = none → W [b] F H F2 H2 [mu p (.lst ys), dpa K ys (rows.map CRow.d), bag K b] → RowsOk n rows → givesL rows ≤ n → Q (.ref p) H2
def φdone61 (K : PySem.W.Frag) : V → V → Hp → VK → Prop := fun x y H Q => ∃ (F : Hp) (a : ShA) (S : ShS) (td : Addr), x = .ref a.c ∧ y = .ref td ∧ St F H [shf K a S] ∧ ShOk S ∧ S.rss.length < 100 ∧
  ((∃ (v : V) (n : Nat) (rows : List CRow) (t : Str), SqT K F td [.str "take", v] ∧ Chg K F v n rows ∧ RowsOk n rows ∧ n ≤ 1000 ∧ S.txs[S.rss.length]? = some t ∧
    (n = t.length → ∀ u, cd u = rows.flatMap (CRow.mk (cd t)) → okS u → Tld K a S.ph F H (.int ((S.rss.length + 1 : Nat) : Int)) [] (S.add u rows) Q) ∧ (n ≠ t.length → Tld K a S.ph F H .non ["BadSize"] S Q)) ∨
   (SqT K F td [.str "drop"] ∧ S.ph = none ∧ (S.stand = S.rss.length → Tld K a S.ph F H .non ["NoVersion"] S Q) ∧ (S.stand ≠ S.rss.length → Tld K a S.ph F H .non [] S.del Q)))
theorem looks_good {i j : Int} {s t : Str} (h1 : okS s) (h2 : okS t) (l1 : s.length ≤ 400) (l2 : t.length ≤ 400) : good (.list [.int i, .int j, .str s, .str t]) = true ∧ (PyData.list [.int i, .int j, .str s, .str t]).depth < 6 := by
  constructor
  · refine good_list (by simp) fun d hd => ?_
    simp only [List.mem_cons, List.not_mem_nil, or_false] at hd
    rcases hd with rfl | rfl | rfl | rfl
    · rfl
    · rfl
    · exact str_good h1 (Nat.le_trans l1 (by decide))
    · exact str_good h2 (Nat.le_trans l2 (by decide))
  · refine Nat.lt_of_le_of_lt (depth_list (n := 0) fun d hd => ?_) (by decide)
    simp only [List.mem_cons, List.not_mem_nil, or_false] at hd
    rcases hd with rfl | rfl | rfl | rfl <;> exact Nat.le_refl _
def φlooks61 (K : PySem.W.Frag) : V → V → Hp → VK → Prop := fun x y H Q => ∃ (F : Hp) (a : ShA) (S : ShS) (pt : Addr), x = .ref a.c ∧ y = .ref pt ∧ St F H [shf K a S, mu pt (.lst (S.txs.map V.str))] ∧ ShOk S ∧ S.ph = none ∧ S.stand = 0 ∧
  ∀ F2 H2, W (shAs a S.ph ++ [pt]) F H F2 H2 [shf K a S, mu pt (.lst (S.txs.map V.str))] → Q (.bl true) H2
/-- behind one deed of the law -/
def φtaken61 (K : PySem.W.Frag) : V → V → V → Hp → VK → Prop := fun x y z H Q => ∃ (F : Hp) (b : Addr) (a : ShA) (S : ShS) (pt : Addr), x = .ref b ∧ y = .ref a.c ∧ z = .ref pt ∧ St F H [bag K b, shf K a S, mu pt (.lst (S.txs.map V.str))] ∧ ShOk S ∧ S.ph = none ∧ S.stand = 0 ∧ S.rss.length < 100 ∧
  ∀ (S2 : ShS) F2 H2, W (b :: (shAs a S.ph ++ [pt])) F H F2 H2 [bag K b, shf K a S2, mu pt (.lst (S2.txs.map V.str))] → ShOk S2 → S2.ph = none → S2.stand = 0 → S2.rss.length ≤ S.rss.length + 1 → Q (.bl true) H2
def φlcells61 (K : PySem.W.Frag) : V → Hp → VK → Prop := fun x H Q => ∃ (F : Hp) (a : Addr) (vs : List V) (n : Nat) (rows : List CRow), x = .ref a ∧ Same F H ∧ SqL K F a vs ∧ DpAll K F vs (rows.map CRow.d) ∧ RowsOk n rows ∧ n ≤ 1000 ∧ ∀ p F2 H2, H p = none → W [] F H F2 H2 [mu p (.lst (cellsV rows))] → Q (.ref p) H2
def φmade61 (K : PySem.W.Frag) : V → V → Hp → VK → Prop := φldone K
end R
namespace Z
open PySem PySem.Spec PyProof.Rows L2 R
def topS (i : Nat) : Stmt := PySem.Challenge.pw_remadehere_k61_versions_taken.main.body.getD i (.Pass ⟨0, 0, 0, 0⟩)
abbrev s_gives : Stmt := topS 8
theorem sc_gives : FnScope ["row", "size"] ["row", "size"] (defScope s_gives) := ⟨rfl, rfl, rfl, by decide +kernel, rfl, by decide +kernel, by decide +kernel⟩
abbrev s_ChangeX_initX : Stmt := inClass (topS 10) 0
theorem sc_ChangeX_initX : FnScope ["self", "size", "rows", "many", "k", "more"] ["self", "size", "rows"] (defScope s_ChangeX_initX) := ⟨rfl, rfl, rfl, by decide +kernel, rfl, by decide +kernel, by decide +kernel⟩
abbrev s_ChangeX_eqX : Stmt := inClass (topS 10) 1
theorem sc_ChangeX_eqX : FnScope ["self", "other"] ["self", "other"] (defScope s_ChangeX_eqX) := ⟨rfl, rfl, rfl, by decide +kernel, rfl, by decide +kernel, by decide +kernel⟩
abbrev s_Change_cells : Stmt := inClass (topS 10) 4
theorem sc_Change_cells : FnScope ["self", "found", "row"] ["self"] (defScope s_Change_cells) := ⟨rfl, rfl, rfl, by decide +kernel, rfl, by decide +kernel, by decide +kernel⟩
abbrev s_Change_done : Stmt := inClass (topS 10) 6
theorem sc_Change_done : FnScope ["self", "old", "cell"] ["self", "old"] (defScope s_Change_done) := ⟨rfl, rfl, rfl, by decide +kernel, rfl, by decide +kernel, by decide +kernel⟩
abbrev s_rows_of : Stmt := topS 11
theorem sc_rows_of : FnScope ["cells", "rows", "last", "cell"] ["cells"] (defScope s_rows_of) := ⟨rfl, rfl, rfl, by decide +kernel, rfl, by decide +kernel, by decide +kernel⟩
abbrev s_plainest : Stmt := topS 12
theorem sc_plainest : FnScope ["change"] ["change"] (defScope s_plainest) := ⟨rfl, rfl, rfl, by decide +kernel, rfl, by decide +kernel, by decide +kernel⟩
abbrev s_behind : Stmt := topS 13
theorem sc_behind : FnScope ["first", "second", "cells", "cell"] ["first", "second"] (defScope s_behind) := ⟨rfl, rfl, rfl, by decide +kernel, rfl, by decide +kernel, by decide +kernel⟩
abbrev s_whole_copy : Stmt := topS 47
theorem sc_whole_copy : FnScope ["size"] ["size"] (defScope s_whole_copy) := ⟨rfl, rfl, rfl, by decide +kernel, rfl, by decide +kernel, by decide +kernel⟩
abbrev s_ShelfX_initX : Stmt := inClass (topS 48) 0
theorem sc_ShelfX_initX : FnScope ["self", "text", "spare"] ["self", "text", "spare"] (defScope s_ShelfX_initX) := ⟨rfl, rfl, rfl, by decide +kernel, rfl, by decide +kernel, by decide +kernel⟩
abbrev s_Shelf_take_r : Stmt := inClass (topS 48) 1
theorem sc_Shelf_take_r : FnScope ["self", "change"] ["self", "change"] (defScope s_Shelf_take_r) := ⟨rfl, rfl, rfl, by decide +kernel, rfl, by decide +kernel, by decide +kernel⟩
abbrev s_Shelf_need_version : Stmt := inClass (topS 48) 2
theorem sc_Shelf_need_version : FnScope ["self", "version"] ["self", "version"] (defScope s_Shelf_need_version) := ⟨rfl, rfl, rfl, by decide +kernel, rfl, by decide +kernel, by decide +kernel⟩
abbrev s_Shelf_between : Stmt := inClass (topS 48) 3
theorem sc_Shelf_between : FnScope ["self", "first", "last", "found", "way"] ["self", "first", "last"] (defScope s_Shelf_between) := ⟨rfl, rfl, rfl, by decide +kernel, rfl, by decide +kernel, by decide +kernel⟩
abbrev s_Shelf_at : Stmt := inClass (topS 48) 7
theorem sc_Shelf_at : FnScope ["self"] ["self"] (defScope s_Shelf_at) := ⟨rfl, rfl, rfl, by decide +kernel, rfl, by decide +kernel, by decide +kernel⟩
abbrev s_Shelf_text : Stmt := inClass (topS 48) 8
theorem sc_Shelf_text : FnScope ["self"] ["self"] (defScope s_Shelf_text) := ⟨rfl, rfl, rfl, by decide +kernel, rfl, by decide +kernel, by decide +kernel⟩
abbrev s_Shelf_drop_r : Stmt := inClass (topS 48) 9
theorem sc_Shelf_drop_r : FnScope ["self"] ["self"] (defScope s_Shelf_drop_r) := ⟨rfl, rfl, rfl, by decide +kernel, rfl, by decide +kernel, by decide +kernel⟩
abbrev s_Shelf_versions : Stmt := inClass (topS 48) 10
theorem sc_Shelf_versions : FnScope ["self"] ["self"] (defScope s_Shelf_versions) := ⟨rfl, rfl, rfl, by decide +kernel, rfl, by decide +kernel, by decide +kernel⟩
abbrev s_law_bag : Stmt := topS 50
theorem sc_law_bag : FnScope ["script", "stir", "cell"] ["script"] (defScope s_law_bag) := ⟨rfl, rfl, rfl, by decide +kernel, rfl, by decide +kernel, by decide +kernel⟩
abbrev s_law_stirred : Stmt := topS 51
theorem sc_law_stirred : FnScope ["bag", "many", "found", "k"] ["bag", "many"] (defScope s_law_stirred) := ⟨rfl, rfl, rfl, by decide +kernel, rfl, by decide +kernel, by decide +kernel⟩
abbrev s_law_draw : Stmt := topS 52
theorem sc_law_draw : FnScope ["bag", "many", "found"] ["bag", "many"] (defScope s_law_draw) := ⟨rfl, rfl, rfl, by decide +kernel, rfl, by decide +kernel, by decide +kernel⟩
abbrev s_law_alike : Stmt := topS 53
theorem sc_law_alike : FnScope ["found", "due", "k"] ["found", "due"] (defScope s_law_alike) := ⟨rfl, rfl, rfl, by decide +kernel, rfl, by decide +kernel, by decide +kernel⟩
abbrev s_law_text : Stmt := topS 54
theorem sc_law_text : FnScope ["bag", "many", "signs", "k"] ["bag", "many"] (defScope s_law_text) := ⟨rfl, rfl, rfl, by decide +kernel, rfl, by decide +kernel, by decide +kernel⟩
abbrev s_law_parts : Stmt := topS 55
theorem sc_law_parts : FnScope ["bag", "size", "cuts", "parts", "k"] ["bag", "size"] (defScope s_law_parts) := ⟨rfl, rfl, rfl, by decide +kernel, rfl, by decide +kernel, by decide +kernel⟩
abbrev s_law_rows : Stmt := topS 56
theorem sc_law_rows : FnScope ["bag", "size", "most", "way", "rows", "left", "k", "at", "many", "copied", "to", "row"] ["bag", "size", "most"] (defScope s_law_rows) := ⟨rfl, rfl, rfl, by decide +kernel, rfl, by decide +kernel, by decide +kernel⟩
abbrev s_law_cells : Stmt := topS 57
theorem sc_law_cells : FnScope ["rows", "found", "row"] ["rows"] (defScope s_law_cells) := ⟨rfl, rfl, rfl, by decide +kernel, rfl, by decide +kernel, by decide +kernel⟩
abbrev s_law_made : Stmt := topS 58
theorem sc_law_made : FnScope ["cells", "old", "one"] ["cells", "old"] (defScope s_law_made) := ⟨rfl, rfl, rfl, by decide +kernel, rfl, by decide +kernel, by decide +kernel⟩
abbrev s_law_done : Stmt := topS 59
theorem sc_law_done : FnScope ["shelf", "deed", "found", "words", "e", "kinds", "k"] ["shelf", "deed"] (defScope s_law_done) := ⟨rfl, rfl, rfl, by decide +kernel, rfl, by decide +kernel, by decide +kernel⟩
abbrev s_law_looks_right : Stmt := topS 60
theorem sc_law_looks_right : FnScope ["shelf", "texts", "found"] ["shelf", "texts"] (defScope s_law_looks_right) := ⟨rfl, rfl, rfl, by decide +kernel, rfl, by decide +kernel, by decide +kernel⟩
abbrev s_law_taken_right : Stmt := topS 61
theorem sc_law_taken_right : FnScope ["bag", "shelf", "texts", "size", "way", "other", "found", "due", "rows", "handed", "made"] ["bag", "shelf", "texts"] (defScope s_law_taken_right) := ⟨rfl, rfl, rfl, by decide +kernel, rfl, by decide +kernel, by decide +kernel⟩
abbrev s_law : Stmt := topS 62
theorem sc_law : FnScope ["script", "bag", "many", "texts", "shelf", "k"] ["script"] (defScope s_law) := ⟨rfl, rfl, rfl, by decide +kernel, rfl, by decide +kernel, by decide +kernel⟩
structure Txt (K : PySem.W.Frag) (mg : Str → Option Value) : Prop where
  b_KeyError : mg "KeyError" = none
  b_RuntimeError : mg "RuntimeError" = none
  b_ValueError : mg "ValueError" = none
  b_abs : mg "abs" = none
  b_all : mg "all" = none
  b_bool : mg "bool" = none
  b_int : mg "int" = none
  b_isinstance : mg "isinstance" = none
  b_len : mg "len" = none
  b_list : mg "list" = none
  b_max : mg "max" = none
  b_min : mg "min" = none
  b_range : mg "range" = none
  b_set : mg "set" = none
  b_sorted : mg "sorted" = none
  b_str : mg "str" = none
  b_tuple : mg "tuple" = none
  c_MOST_changes : ∃ t, mg "MOST_changes" = some (.int 400 t)
  k_Change : Cls K (He.ga K "Change")
  na_Change_size : NoAttr K (He.ga K "Change") "size"
  na_Change_rows : NoAttr K (He.ga K "Change") "rows"
  g_Change : mg "Change" = some (.ref (He.ga K "Change"))
  i_Change : C8.InsC K (He.ga K "Change")
  k_Shelf : Cls K (He.ga K "Shelf")
  na_Shelf_slots : NoAttr K (He.ga K "Shelf") "slots"
  na_Shelf_texts : NoAttr K (He.ga K "Shelf") "texts"
  na_Shelf_ways : NoAttr K (He.ga K "Shelf") "ways"
  na_Shelf_now : NoAttr K (He.ga K "Shelf") "now"
  na_Shelf_stand : NoAttr K (He.ga K "Shelf") "stand"
  na_Shelf_goal : NoAttr K (He.ga K "Shelf") "goal"
  na_Shelf_runner : NoAttr K (He.ga K "Shelf") "runner"
  e_BadSize : EC K mg "BadSize"
  g_BadSize : mg "BadSize" = some (.ref (He.ga K "BadSize"))
  g_Busy : mg "Busy" = some (.ref (He.ga K "Busy"))
  g_NoSpare : mg "NoSpare" = some (.ref (He.ga K "NoSpare"))
  g_NoVersion : mg "NoVersion" = some (.ref (He.ga K "NoVersion"))
  y_BadSize : ExcC K (He.ga K "BadSize")
  y_NoSpare : ExcC K (He.ga K "NoSpare")
  y_NoVersion : ExcC K (He.ga K "NoVersion")
  y_Busy : ExcC K (He.ga K "Busy")
  eb_NoVersion : ECB K mg keTail "LookupError.__new__" "NoVersion"
  eb_Busy : ECB K mg rtTail "RuntimeError.__new__" "Busy"
  q_0 : PySem.W.kitOne K (Value.ref (He.ga K "BadSize")) (Value.ref (He.ga K "BadSize")) = some true
  q_1 : PySem.W.kitOne K (Value.ref (He.ga K "BadSize")) (Value.type "ValueError") = some true
  q_2 : PySem.W.kitOne K (Value.ref (He.ga K "BadSize")) (Value.ref (He.ga K "Busy")) = some false
  q_3 : PySem.W.kitOne K (Value.ref (He.ga K "BadSize")) (Value.ref (He.ga K "NoSpare")) = some false
  q_4 : PySem.W.kitOne K (Value.ref (He.ga K "BadSize")) (Value.type "RuntimeError") = some false
  q_5 : PySem.W.kitOne K (Value.ref (He.ga K "BadSize")) (Value.ref (He.ga K "NoVersion")) = some false
  q_6 : PySem.W.kitOne K (Value.ref (He.ga K "BadSize")) (Value.type "KeyError") = some false
  q_7 : PySem.W.kitOne K (Value.ref (He.ga K "Busy")) (Value.ref (He.ga K "BadSize")) = some false
  q_8 : PySem.W.kitOne K (Value.ref (He.ga K "Busy")) (Value.type "ValueError") = some false
  q_9 : PySem.W.kitOne K (Value.ref (He.ga K "Busy")) (Value.ref (He.ga K "Busy")) = some true
  q_10 : PySem.W.kitOne K (Value.ref (He.ga K "Busy")) (Value.ref (He.ga K "NoSpare")) = some false
  q_11 : PySem.W.kitOne K (Value.ref (He.ga K "Busy")) (Value.type "RuntimeError") = some true
  q_12 : PySem.W.kitOne K (Value.ref (He.ga K "Busy")) (Value.ref (He.ga K "NoVersion")) = some false
  q_13 : PySem.W.kitOne K (Value.ref (He.ga K "Busy")) (Value.type "KeyError") = some false
  q_14 : PySem.W.kitOne K (Value.ref (He.ga K "NoSpare")) (Value.ref (He.ga K "BadSize")) = some false
  q_15 : PySem.W.kitOne K (Value.ref (He.ga K "NoSpare")) (Value.type "ValueError") = some false
  q_16 : PySem.W.kitOne K (Value.ref (He.ga K "NoSpare")) (Value.ref (He.ga K "Busy")) = some false
  q_17 : PySem.W.kitOne K (Value.ref (He.ga K "NoSpare")) (Value.ref (He.ga K "NoSpare")) = some true
  q_18 : PySem.W.kitOne K (Value.ref (He.ga K "NoSpare")) (Value.type "RuntimeError") = some false
  q_19 : PySem.W.kitOne K (Value.ref (He.ga K "NoSpare")) (Value.ref (He.ga K "NoVersion")) = some false
  q_20 : PySem.W.kitOne K (Value.ref (He.ga K "NoSpare")) (Value.type "KeyError") = some false
  q_21 : PySem.W.kitOne K (Value.ref (He.ga K "NoVersion")) (Value.ref (He.ga K "BadSize")) = some false
  q_22 : PySem.W.kitOne K (Value.ref (He.ga K "NoVersion")) (Value.type "ValueError") = some false
  q_23 : PySem.W.kitOne K (Value.ref (He.ga K "NoVersion")) (Value.ref (He.ga K "Busy")) = some false
  q_24 : PySem.W.kitOne K (Value.ref (He.ga K "NoVersion")) (Value.ref (He.ga K "NoSpare")) = some false
  q_25 : PySem.W.kitOne K (Value.ref (He.ga K "NoVersion")) (Value.type "RuntimeError") = some false
  q_26 : PySem.W.kitOne K (Value.ref (He.ga K "NoVersion")) (Value.ref (He.ga K "NoVersion")) = some true
  q_27 : PySem.W.kitOne K (Value.ref (He.ga K "NoVersion")) (Value.type "KeyError") = some true
  m_0 : PySem.W.exmAny K (Value.ref (He.ga K "BadSize")) [Value.ref (He.ga K "BadSize"), Value.ref (He.ga K "Busy"), Value.ref (He.ga K "NoSpare"), Value.ref (He.ga K "NoVersion")] = some true
  m_1 : PySem.W.exmAny K (Value.ref (He.ga K "Busy")) [Value.ref (He.ga K "BadSize"), Value.ref (He.ga K "Busy"), Value.ref (He.ga K "NoSpare"), Value.ref (He.ga K "NoVersion")] = some true
  m_2 : PySem.W.exmAny K (Value.ref (He.ga K "NoSpare")) [Value.ref (He.ga K "BadSize"), Value.ref (He.ga K "Busy"), Value.ref (He.ga K "NoSpare"), Value.ref (He.ga K "NoVersion")] = some true
  m_3 : PySem.W.exmAny K (Value.ref (He.ga K "NoVersion")) [Value.ref (He.ga K "BadSize"), Value.ref (He.ga K "Busy"), Value.ref (He.ga K "NoSpare"), Value.ref (He.ga K "NoVersion")] = some true
def d_gives : He.DefD := ⟨("gives", none), "gives", "gives", defArgs s_gives, defBody s_gives, defScope s_gives, [], []⟩
def d_ChangeX_initX : He.DefD := ⟨("Change", some "__init__"), "__init__", "Change.__init__", defArgs s_ChangeX_initX, defBody s_ChangeX_initX, defScope s_ChangeX_initX, [], []⟩
def d_ChangeX_eqX : He.DefD := ⟨("Change", some "__eq__"), "__eq__", "Change.__eq__", defArgs s_ChangeX_eqX, defBody s_ChangeX_eqX, defScope s_ChangeX_eqX, [], []⟩
def d_Change_cells : He.DefD := ⟨("Change", some "cells"), "cells", "Change.cells", defArgs s_Change_cells, defBody s_Change_cells, defScope s_Change_cells, [], []⟩
def d_Change_done : He.DefD := ⟨("Change", some "done"), "done", "Change.done", defArgs s_Change_done, defBody s_Change_done, defScope s_Change_done, [], []⟩
def d_rows_of : He.DefD := ⟨("rows_of", none), "rows_of", "rows_of", defArgs s_rows_of, defBody s_rows_of, defScope s_rows_of, [], []⟩
def d_plainest : He.DefD := ⟨("plainest", none), "plainest", "plainest", defArgs s_plainest, defBody s_plainest, defScope s_plainest, [], []⟩
def d_behind : He.DefD := ⟨("behind", none), "behind", "behind", defArgs s_behind, defBody s_behind, defScope s_behind, [], []⟩
def d_whole_copy : He.DefD := ⟨("whole_copy", none), "whole_copy", "whole_copy", defArgs s_whole_copy, defBody s_whole_copy, defScope s_whole_copy, [], []⟩
def d_ShelfX_initX : He.DefD := ⟨("Shelf", some "__init__"), "__init__", "Shelf.__init__", defArgs s_ShelfX_initX, defBody s_ShelfX_initX, defScope s_ShelfX_initX, [.int 1], []⟩
def d_Shelf_take_r : He.DefD := ⟨("Shelf", some "take"), "take", "Shelf.take", defArgs s_Shelf_take_r, defBody s_Shelf_take_r, defScope s_Shelf_take_r, [], []⟩
def d_Shelf_need_version : He.DefD := ⟨("Shelf", some "need_version"), "need_version", "Shelf.need_version", defArgs s_Shelf_need_version, defBody s_Shelf_need_version, defScope s_Shelf_need_version, [], []⟩
def d_Shelf_between : He.DefD := ⟨("Shelf", some "between"), "between", "Shelf.between", defArgs s_Shelf_between, defBody s_Shelf_between, defScope s_Shelf_between, [], []⟩
def d_Shelf_at : He.DefD := ⟨("Shelf", some "at"), "at", "Shelf.at", defArgs s_Shelf_at, defBody s_Shelf_at, defScope s_Shelf_at, [], []⟩
def d_Shelf_text : He.DefD := ⟨("Shelf", some "text"), "text", "Shelf.text", defArgs s_Shelf_text, defBody s_Shelf_text, defScope s_Shelf_text, [], []⟩
def d_Shelf_drop_r : He.DefD := ⟨("Shelf", some "drop"), "drop", "Shelf.drop", defArgs s_Shelf_drop_r, defBody s_Shelf_drop_r, defScope s_Shelf_drop_r, [], []⟩
def d_Shelf_versions : He.DefD := ⟨("Shelf", some "versions"), "versions", "Shelf.versions", defArgs s_Shelf_versions, defBody s_Shelf_versions, defScope s_Shelf_versions, [], []⟩
def d_law_bag : He.DefD := ⟨("_law_bag", none), "_law_bag", "_law_bag", defArgs s_law_bag, defBody s_law_bag, defScope s_law_bag, [], []⟩
def d_law_stirred : He.DefD := ⟨("_law_stirred", none), "_law_stirred", "_law_stirred", defArgs s_law_stirred, defBody s_law_stirred, defScope s_law_stirred, [], []⟩
def d_law_draw : He.DefD := ⟨("_law_draw", none), "_law_draw", "_law_draw", defArgs s_law_draw, defBody s_law_draw, defScope s_law_draw, [], []⟩
def d_law_alike : He.DefD := ⟨("_law_alike", none), "_law_alike", "_law_alike", defArgs s_law_alike, defBody s_law_alike, defScope s_law_alike, [], []⟩
def d_law_text : He.DefD := ⟨("_law_text", none), "_law_text", "_law_text", defArgs s_law_text, defBody s_law_text, defScope s_law_text, [], []⟩
def d_law_parts : He.DefD := ⟨("_law_parts", none), "_law_parts", "_law_parts", defArgs s_law_parts, defBody s_law_parts, defScope s_law_parts, [], []⟩
def d_law_rows : He.DefD := ⟨("_law_rows", none), "_law_rows", "_law_rows", defArgs s_law_rows, defBody s_law_rows, defScope s_law_rows, [], []⟩
def d_law_cells : He.DefD := ⟨("_law_cells", none), "_law_cells", "_law_cells", defArgs s_law_cells, defBody s_law_cells, defScope s_law_cells, [], []⟩
def d_law_made : He.DefD := ⟨("_law_made", none), "_law_made", "_law_made", defArgs s_law_made, defBody s_law_made, defScope s_law_made, [], []⟩
def d_law_done : He.DefD := ⟨("_law_done", none), "_law_done", "_law_done", defArgs s_law_done, defBody s_law_done, defScope s_law_done, [], []⟩
def d_law_looks_right : He.DefD := ⟨("_law_looks_right", none), "_law_looks_right", "_law_looks_right", defArgs s_law_looks_right, defBody s_law_looks_right, defScope s_law_looks_right, [], []⟩
def d_law_taken_right : He.DefD := ⟨("_law_taken_right", none), "_law_taken_right", "_law_taken_right", defArgs s_law_taken_right, defBody s_law_taken_right, defScope s_law_taken_right, [], []⟩
def d_law : He.DefD := ⟨("law", none), "law", "law", defArgs s_law, defBody s_law, defScope s_law, [], []⟩
def fn : List He.DefD := [d_gives, d_ChangeX_initX, d_ChangeX_eqX, d_Change_cells, d_Change_done, d_rows_of, d_plainest, d_behind, d_whole_copy, d_ShelfX_initX, d_Shelf_take_r, d_Shelf_need_version, d_Shelf_between, d_Shelf_at, d_Shelf_text, d_Shelf_drop_r, d_Shelf_versions, d_law_bag, d_law_stirred, d_law_draw, d_law_alike, d_law_text, d_law_parts, d_law_rows, d_law_cells, d_law_made, d_law_done, d_law_looks_right, d_law_taken_right, d_law]
def fa : List He.Fa := [.free "KeyError", .free "RuntimeError", .free "ValueError", .free "abs", .free "all", .free "bool", .free "int", .free "isinstance", .free "len", .free "list", .free "max", .free "min", .free "range", .free "set", .free "sorted", .free "str", .free "tuple", .int "MOST_changes" 400, .glo "gives", .glo "rows_of", .glo "plainest", .glo "behind", .glo "whole_copy", .glo "_law_bag", .glo "_law_stirred", .glo "_law_draw", .glo "_law_alike", .glo "_law_text", .glo "_law_parts", .glo "_law_rows", .glo "_law_cells", .glo "_law_made", .glo "_law_done", .glo "_law_looks_right", .glo "_law_taken_right", .glo "law", .glo "Change", .cls "Change", .mkr "Change", .noat "Change" "size", .noat "Change" "rows", .meth "Change" "__eq__", .meth "Change" "cells", .meth "Change" "done", .glo "Shelf", .cls "Shelf", .mkr "Shelf", .noat "Shelf" "slots", .noat "Shelf" "texts", .noat "Shelf" "ways", .noat "Shelf" "now", .noat "Shelf" "stand", .noat "Shelf" "goal", .noat "Shelf" "runner", .meth "Shelf" "take", .meth "Shelf" "need_version", .meth "Shelf" "between", .meth "Shelf" "at", .meth "Shelf" "text", .meth "Shelf" "drop", .meth "Shelf" "versions", .glo "BadSize", .exc "BadSize", .exm "BadSize" "BadSize" true, .glo "Busy", .glo "NoSpare", .glo "NoVersion"]
abbrev RR : PySem.W.OpenRow := PySem.W.OpenLaw.row PySem.Challenge.rw_remadehere_k61_versions_taken
def exB (K : PySem.W.Frag) : Bool := (insB K "Change" && (excB K "BadSize" && (excB K "NoSpare" && (excB K "NoVersion" && (excB K "Busy" && (ecbB K keTail "LookupError.__new__" "NoVersion" && (ecbB K rtTail "RuntimeError.__new__" "Busy" && (decide (PySem.W.kitOne K (Value.ref (He.ga K "BadSize")) (Value.ref (He.ga K "BadSize")) = some true) && (decide (PySem.W.kitOne K (Value.ref (He.ga K "BadSize")) (Value.type "ValueError") = some true) && (decide (PySem.W.kitOne K (Value.ref (He.ga K "BadSize")) (Value.ref (He.ga K "Busy")) = some false) && (decide (PySem.W.kitOne K (Value.ref (He.ga K "BadSize")) (Value.ref (He.ga K "NoSpare")) = some false) && (decide (PySem.W.kitOne K (Value.ref (He.ga K "BadSize")) (Value.type "RuntimeError") = some false) && (decide (PySem.W.kitOne K (Value.ref (He.ga K "BadSize")) (Value.ref (He.ga K "NoVersion")) = some false) && (decide (PySem.W.kitOne K (Value.ref (He.ga K "BadSize")) (Value.type "KeyError") = some false) && (decide (PySem.W.kitOne K (Value.ref (He.ga K "Busy")) (Value.ref (He.ga K "BadSize")) = some false) && (decide (PySem.W.kitOne K (Value.ref (He.ga K "Busy")) (Value.type "ValueError") = some false) && (decide (PySem.W.kitOne K (Value.ref (He.ga K "Busy")) (Value.ref (He.ga K "Busy")) = some true) && (decide (PySem.W.kitOne K (Value.ref (He.ga K "Busy")) (Value.ref (He.ga K "NoSpare")) = some false) && (decide (PySem.W.kitOne K (Value.ref (He.ga K "Busy")) (Value.type "RuntimeError") = some true) && (decide (PySem.W.kitOne K (Value.ref (He.ga K "Busy")) (Value.ref (He.ga K "NoVersion")) = some false) && (decide (PySem.W.kitOne K (Value.ref (He.ga K "Busy")) (Value.type "KeyError") = some false) && (decide (PySem.W.kitOne K (Value.ref (He.ga K "NoSpare")) (Value.ref (He.ga K "BadSize")) = some false) && (decide (PySem.W.kitOne K (Value.ref (He.ga K "NoSpare")) (Value.type "ValueError") = some false) && (decide (PySem.W.kitOne K (Value.ref (He.ga K "NoSpare")) (Value.ref (He.ga K "Busy")) = some false) && (decide (PySem.W.kitOne K (Value.ref (He.ga K "NoSpare")) (Value.ref (He.ga K "NoSpare")) = some true) && (decide (PySem.W.kitOne K (Value.ref (He.ga K "NoSpare")) (Value.type "RuntimeError") = some false) && (decide (PySem.W.kitOne K (Value.ref (He.ga K "NoSpare")) (Value.ref (He.ga K "NoVersion")) = some false) && (decide (PySem.W.kitOne K (Value.ref (He.ga K "NoSpare")) (Value.type "KeyError") = some false) && (decide (PySem.W.kitOne K (Value.ref (He.ga K "NoVersion")) (Value.ref (He.ga K "BadSize")) = some false) && (decide (PySem.W.kitOne K (Value.ref (He.ga K "NoVersion")) (Value.type "ValueError") = some false) && (decide (PySem.W.kitOne K (Value.ref (He.ga K "NoVersion")) (Value.ref (He.ga K "Busy")) = some false) && (decide (PySem.W.kitOne K (Value.ref (He.ga K "NoVersion")) (Value.ref (He.ga K "NoSpare")) = some false) && (decide (PySem.W.kitOne K (Value.ref (He.ga K "NoVersion")) (Value.type "RuntimeError") = some false) && (decide (PySem.W.kitOne K (Value.ref (He.ga K "NoVersion")) (Value.ref (He.ga K "NoVersion")) = some true) && (decide (PySem.W.kitOne K (Value.ref (He.ga K "NoVersion")) (Value.type "KeyError") = some true) && (decide (PySem.W.exmAny K (Value.ref (He.ga K "BadSize")) [Value.ref (He.ga K "BadSize"), Value.ref (He.ga K "Busy"), Value.ref (He.ga K "NoSpare"), Value.ref (He.ga K "NoVersion")] = some true) && (decide (PySem.W.exmAny K (Value.ref (He.ga K "Busy")) [Value.ref (He.ga K "BadSize"), Value.ref (He.ga K "Busy"), Value.ref (He.ga K "NoSpare"), Value.ref (He.ga K "NoVersion")] = some true) && (decide (PySem.W.exmAny K (Value.ref (He.ga K "NoSpare")) [Value.ref (He.ga K "BadSize"), Value.ref (He.ga K "Busy"), Value.ref (He.ga K "NoSpare"), Value.ref (He.ga K "NoVersion")] = some true) && (decide (PySem.W.exmAny K (Value.ref (He.ga K "NoVersion")) [Value.ref (He.ga K "BadSize"), Value.ref (He.ga K "Busy"), Value.ref (He.ga K "NoSpare"), Value.ref (He.ga K "NoVersion")] = some true) && true)))))))))))))))))))))))))))))))))))))))
abbrev hk : PySem.W.Hook := hookE 4 fa fn exB
def ob (s : PySem.W.SharedT) : He.AlD × Bool := obsEG 4 fa fn exB (HandSHeadRun.getT s)
theorem ob_eq (s : PySem.W.SharedT) : ob s = hk.obs s.abs := obsEG_eq (HandSHeadRun.getT_eq s)
theorem run (w : World) : HandSHeadRun.RunEq RR (PySem.W.view RR.prog [62]) hk ob 8000 ("BadRow" :: "BadSize" :: "NoSpare" :: "NoVersion" :: "Busy" :: "MOST_changes" :: "gives" :: "row_text" :: "Change" :: "rows_of" :: "plainest" :: "behind" :: "undone" :: "row_writes" :: "writes" :: "fewest_marks" :: "Runner" :: "moves_of" :: "reads" :: "lands" :: "writers" :: "aheads_of" :: "ring_of" :: "ordered" :: "lots_of" :: "fewest_kept" :: "gets" :: "changing" :: "readers" :: "all_rings" :: "is_pure" :: "spared_cell" :: "round_rows" :: "pure_rows" :: "unread_rows" :: "read_rows" :: "single_plan" :: "MOST_plans" :: "kept_plan" :: "planned" :: "whole_copy" :: "Shelf" :: "_law_bag" :: "_law_stirred" :: "_law_draw" :: "_law_alike" :: "_law_text" :: "_law_parts" :: "_law_rows" :: "_law_cells" :: "_law_made" :: "_law_done" :: "_law_looks_right" :: "_law_taken_right" :: []) w := by
  intro os
  kernel_rfl
def FactsP : Prop := ∀ (P : Program) (w : World) (K : PySem.W.Frag) (mg : Str → Option Value) (h : Heap) (f : Addr), K.In h → h.Ns mainGlobals mg → mg ("law" : Str) = some (.ref f) → He.SaysD fa fn K → exB K = true → ∃ fd : FuncData, (∀ (s : Shared) (v : Value), BindsTo s fd ⟨[v], []⟩ [("script", v)]) ∧ ∀ base : Heap, K.In base → base.Ns mainGlobals mg → FnOk P w K mg base CX0 11 f fd ["script"] (S1 (φlaw K))
end Z
section
open PySem PySem.W PySem.Calls PyProof.Rows
theorem Z.close (HF : Z.FactsP) : PySem.Challenge.rw_remadehere_k61_versions_taken.Holds := by
  w_on; o_law
  refine HandSHeadRun.head_any (r := OpenLaw.row PySem.Challenge.rw_remadehere_k61_versions_taken) (q := view (OpenLaw.row PySem.Challenge.rw_remadehere_k61_versions_taken).prog [62]) (H := Z.hk) (ob := Z.ob) (M := 8000) (loose := ("BadRow" :: "BadSize" :: "NoSpare" :: "NoVersion" :: "Busy" :: "MOST_changes" :: "gives" :: "row_text" :: "Change" :: "rows_of" :: "plainest" :: "behind" :: "undone" :: "row_writes" :: "writes" :: "fewest_marks" :: "Runner" :: "moves_of" :: "reads" :: "lands" :: "writers" :: "aheads_of" :: "ring_of" :: "ordered" :: "lots_of" :: "fewest_kept" :: "gets" :: "changing" :: "readers" :: "all_rings" :: "is_pure" :: "spared_cell" :: "round_rows" :: "pure_rows" :: "unread_rows" :: "read_rows" :: "single_plan" :: "MOST_plans" :: "kept_plan" :: "planned" :: "whole_copy" :: "Shelf" :: "_law_bag" :: "_law_stirred" :: "_law_draw" :: "_law_alike" :: "_law_text" :: "_law_parts" :: "_law_rows" :: "_law_cells" :: "_law_made" :: "_law_done" :: "_law_looks_right" :: "_law_taken_right" :: [])) (d := HandSHeadRun.topDef (OpenLaw.row PySem.Challenge.rw_remadehere_k61_versions_taken).prog 62) (kwd := []) Z.ob_eq
    (by kernel_rfl) (fun s => by kernel_rfl) Z.run (by kernel_rfl) (by kernel_rfl) (by kernel_rfl) (by rfl) (by first | assumption | decide +kernel) (by decide +kernel) ⟨rfl, rfl, rfl, rfl, rfl, by decide +kernel⟩ ?hw ?hc
  case hw => w_witness2
  case hc =>
    refine L2.walk_ofE (l := PySem.Challenge.rw_remadehere_k61_versions_taken) (n := 63) (k := 11) (x := "script") (CX := L2.CX0) rfl (by decide) (by kernel_rfl) ⟨rfl, by decide, by decide⟩ ?F (fun _ _ _ _ z => z)
    intro w mg fa h Y G hmg0
    obtain ⟨K, KX, c, ex⟩ := Y
    have hmg : mg ("law" : PySem.Str) = some (.ref fa) := by
      have e : (HandSHeadRun.topDef (OpenLaw.row PySem.Challenge.rw_remadehere_k61_versions_taken).prog 62).name = ("law" : PySem.Str) := by kernel_rfl
      rw [← e]
      exact hmg0
    obtain ⟨fd, hb, hF⟩ := HF _ w K mg _ fa KX G hmg c ex
    exact ⟨K, fd, (R.S1 (R.φlaw K)), KX, hb, fun H a ns hl hO hS => R.law_start a ns hl hO hS, hF⟩
end
namespace Z
open PySem PySem.Spec PyProof.Rows L2 R
local macro_rules | `(tactic| walk_at "osq") => `(tactic| first
  | assumption
  | exact sqL_of upd_same
  | exact sqL_of (by assumption)
  | exact sqL_same (by assumption) (by assumption)
  | exact Mu.sq (by assumption)
  | exact sqL_same (Gr.ws (by assumption)) (by assumption)
  | exact sqL_same (Gr.fh (by assumption)) (by assumption))
local macro_rules | `(tactic| walk_at "ost") => `(tactic| first
  | assumption
  | exact sqT_of upd_same
  | exact sqT_of (by assumption)
  | exact sqT_same (by assumption) (by assumption)
  | exact sqT_same (Gr.ws (by assumption)) (by assumption)
  | exact sqT_same (Gr.fh (by assumption)) (by assumption))
local macro_rules | `(tactic| walk_at "owp") => `(tactic| dsimp only [wipe, List.map, List.set_cons_succ, List.set_cons_zero])
local macro_rules | `(tactic| walk_at "s1") => `(tactic| first
  | ((with_reducible refine w_mul ?c ?_); (case c => first | exact .inl ⟨by omega, by omega⟩ | exact .inr ⟨by omega, by omega⟩))
  | ((with_reducible refine w_mod ?c ?_); (case c => first | omega | decide))
  | ((with_reducible refine w_fdiv ?c ?_); (case c => exact divw_ok (by omega) (by omega)))
  | ((with_reducible refine w_pow ?c ?_); (case c => exact ⟨by omega, by omega, by omega⟩)))
local macro_rules | `(tactic| walk_at "os2") => `(tactic| first
  | ((with_reducible apply w_ixL _ _ ?c ?d); (case c => walk_at "osq"); (case d => rfl))
  | ((with_reducible apply w_lenQ _ ?c); (case c => walk_at "osq"))
  | ((with_reducible apply w_ixT _ _ ?c ?d); (case c => walk_at "ost"); (case d => rfl))
  | ((with_reducible apply w_lenS ?c); (case c => first | assumption | exact szle (by omega)))
  | ((with_reducible apply w_lenQT _ ?c); (case c => walk_at "ost"))
  | ((with_reducible apply w_tyL _ ?c); (case c => walk_at "osq")))
local macro_rules | `(tactic| walk_at "os3") => `(tactic| first
  | ((with_reducible apply w_b1 _ _ _ _ _ ?c); (case c => first | exact upd_same | assumption))
  | ((with_reducible apply w_b2 _ _ _ _ _ ?c); (case c => first | exact upd_same | assumption))
  | ((with_reducible apply w_b3 _ _ _ _ _ ?c); (case c => first | exact upd_same | assumption))
  | ((with_reducible apply w_b4 _ _ _ _ _ ?c); (case c => first | exact upd_same | assumption))
  | ((with_reducible apply w_setL _ _ ?c ?d); (case c => first | exact upd_same | assumption); (case d => rfl))
  | ((with_reducible apply w_app _ ?c ?d); (case c => first | exact upd_same | assumption | exact Mu.h (by assumption)); (case d => first | exact small_lt (by omega) | assumption))
  | ((with_reducible apply w_slL _ ?c); (case c => walk_at "osq"))
  | ((with_reducible apply w_listOf _ ?c); (case c => walk_at "osq")))
local macro_rules | `(tactic| walk_at "s6") => `(tactic| first
  | ((with_reducible refine w_iteF ?c ?_); (case c => decide +kernel))
  | ((with_reducible refine w_iteT ?c ?_); (case c => decide +kernel)))
local macro_rules | `(tactic| walk_at "og1") => `(tactic| first
  | refine goOS ?_
  | refine goOO ?_
  | ((refine sideI 2 ?_); walk_at "os2")
  | ((refine sideI 1 ?_); walk_at "s1")
  | ((refine sideI 3 ?_); walk_at "os3")
  | ((refine sideI 5 ?_); (with_reducible apply w_tgt _ ?c ?d); (case c => walk_at "ost"); (case d => rfl))
  | ((refine sideI 6 ?_); walk_at "s6"))
local macro_rules | `(tactic| walk_at "og") => `(tactic| repeat walk_at "og1")
local macro_rules | `(tactic| walk_at "memr") => `(tactic| first | with_reducible exact List.mem_cons_self .. | ((with_reducible refine List.mem_cons_of_mem _ ?_); walk_at "memr"))
local macro_rules | `(tactic| walk_at "memd") => `(tactic| first | exact List.mem_cons_self .. | ((with_reducible refine List.mem_cons_of_mem _ ?_); walk_at "memd"))
local macro_rules | `(tactic| walk_at "mem") => `(tactic| first | walk_at "memr" | walk_at "memd")
local macro_rules | `(tactic| walk_at "rm") => `(tactic| first | with_reducible exact Rm.here | ((with_reducible apply Rm.there); walk_at "rm"))
local macro_rules | `(tactic| walk_at "rmd") => `(tactic| first | exact Rm.here | ((with_reducible apply Rm.there); walk_at "rmd"))
local macro_rules | `(tactic| walk_at "pick") => `(tactic| first | with_reducible exact Pick.nil | ((with_reducible apply Pick.cons); (first | walk_at "rm" | walk_at "rmd"); walk_at "pick"))
local macro_rules | `(tactic| walk_at "pk") => `(tactic| exact ⟨_, by walk_at "pick"⟩)
local macro_rules | `(tactic| walk_at "app") => `(tactic| first | with_reducible exact App.nil | ((with_reducible apply App.cons); walk_at "app"))
local macro_rules | `(tactic| walk_at "w") => `(tactic| first | assumption | exact W.to (by assumption) (by walk_at "pick"))
local macro_rules | `(tactic| walk_at "lb") => `(tactic| first | assumption | omega | exact szle (by simp) | exact szle (by omega) | exact szle (by simp; omega) | exact small_lt (by omega) | exact small_lt (by simp; omega))
local macro_rules | `(tactic| walk_at "sq") => `(tactic| first
  | assumption
  | exact W.sqM (by assumption) (by walk_at "mem")
  | exact W.sqF (by assumption) (by walk_at "mem")
  | exact W.sqI (by assumption) (by walk_at "mem")
  | exact W.sq0 (by assumption) (by assumption))
local macro_rules | `(tactic| walk_at "st") => `(tactic| first
  | assumption
  | exact W.stF (by assumption) (by walk_at "mem")
  | exact W.stI (by assumption) (by walk_at "mem")
  | exact W.st0 (by assumption) (by assumption))
local macro_rules | `(tactic| walk_at "at") => `(tactic| first
  | assumption
  | exact W.at_ (by assumption) (by walk_at "mem")
  | exact W.fx (by assumption) (by walk_at "mem"))
local macro_rules | `(tactic| walk_at "wp") => `(tactic| dsimp only [wipe, List.map, List.set_cons_succ, List.set_cons_zero])
local macro_rules | `(tactic| walk_at "s2") => `(tactic| first
  | ((with_reducible apply w_ixL _ _ ?c ?d); (case c => walk_at "sq"); (case d => rfl))
  | ((with_reducible apply w_lenQ _ ?c); (case c => walk_at "sq"))
  | ((with_reducible apply w_ixT _ _ ?c ?d); (case c => walk_at "st"); (case d => rfl))
  | ((with_reducible apply w_lenS ?c); (case c => first | assumption | exact szle (by omega)))
  | ((with_reducible apply w_lenQT _ ?c); (case c => walk_at "st"))
  | ((with_reducible apply w_tyL _ ?c); (case c => walk_at "sq")))
local macro_rules | `(tactic| walk_at "s4") => `(tactic| first
  | ((with_reducible apply n_fld ?c ?d ?a ?b); (case c => walk_at "at"); (case d => rfl); (case a => assumption); (case b => assumption))
  | ((with_reducible apply n_meth ?c ?d); (case c => walk_at "at"); (case d => rfl))
  | ((with_reducible apply x_aug ?c ?_); (case c => rfl))
  | ((with_reducible apply n_il ?c ?_); (case c => walk_at "sq"))
  | ((with_reducible apply n_it ?c ?_); (case c => walk_at "st")))
local macro_rules | `(tactic| walk_at "s5") => `(tactic| first
  | ((with_reducible refine n_rng1 ?c ?d ?_); (case c => omega); (case d => omega))
  | ((with_reducible refine n_rng2 ?c ?d ?e ?f ?_); (case c => omega); (case d => omega); (case e => omega); (case f => omega))
  | ((with_reducible apply w_tgt _ ?c ?d); (case c => walk_at "st"); (case d => rfl))
  | ((with_reducible refine n_ipI ?_); (try dsimp only [List.set_cons_succ, List.set_cons_zero]))
  | ((with_reducible refine n_adds ?c ?_); (case c => first | exact szle (by decide +kernel) | exact szle (by omega))))
local macro_rules | `(tactic| walk_at "s7") => `(tactic| first
  | walk_at "s6"
  | ((with_reducible refine x_wp ?c ?_); (case c => rfl)))
local macro_rules | `(tactic| walk_at "go1") => `(tactic| first
  | refine goNS ?_
  | refine goNN ?_
  | ((refine sideI 2 ?_); walk_at "s2")
  | ((refine sideI 4 ?_); walk_at "s4")
  | ((refine sideI 5 ?_); walk_at "s5")
  | ((refine sideI 1 ?_); walk_at "s1")
  | ((refine sideI 6 ?_); walk_at "s7")
  | walk_at "wp")
local macro_rules | `(tactic| walk_at "go") => `(tactic| repeat walk_at "go1")
section
variable {P : Program} {w : World} {K : PySem.W.Frag} {mg : Str → Option Value} {base : Heap}
-- gives
theorem ok_gives {f : Addr} {fd : FuncData} (F : FunD K "gives" "gives" (defArgs s_gives) (defBody s_gives) (defScope s_gives) [] [] f fd) (T : Txt K mg)  : FnOk P w K mg base CX0 1 f fd ["row", "size"] (S2 (φgives K)) := by
  refine F.ok sc_gives (fun vs H Q E h => ?_) (fun cdv A outer s H vs Q E hr h => ?_)
  · exact S2.len h
  · match vs, h with
    | [v0, v1], h =>
    have hu := hu_of hr
    refine ⟨_, PSs.nox (pss_cons (ps_if (pt_cmpR op_eq (pe_ix (ixT (K := K)) (pv 0) pe_int (fun _ _ => rfl)) pe_str (nomark _)) (pss_one (ps_ret (pe_callB clLenS (by rfl) T.b_len (by decide +kernel) (pa_cons (pe_ix (ixT (K := K)) (pv 0) pe_int (fun _ _ => rfl)) pa_nil)))) pss_nil)
      (pss_cons (ps_if (PW.pt (pw_or (pt_cmpR op_lt (pe_ix (ixT (K := K)) (pv 0) pe_int (fun _ _ => rfl)) pe_int (nomark _)) (pw_or (pt_cmpR op_lt (pe_ix (ixT (K := K)) (pv 0) pe_int (fun _ _ => rfl)) pe_int (nomark _)) (pw_or1 (pt_cmpR op_gt (pe_op op_add (pe_ix (ixT (K := K)) (pv 0) pe_int (fun _ _ => rfl)) (pe_ix (ixT (K := K)) (pv 0) pe_int (fun _ _ => rfl))) (pv 1) (nomark _)))))) (pss_one (ps_ret pe_int)) pss_nil)
      (pss_one (ps_ret (pe_ix (ixT (K := K)) (pv 0) pe_int (fun _ _ => rfl)))))), ?_⟩
    rw [show start ["row", "size"] [v0, v1] = [some v0, some v1] from rfl]
    obtain ⟨F, r, n, rfl, hw, hx, hok, q⟩ := h
    have w := W.start (M := []) hw
    cases r with
    | put s =>
      obtain ⟨a, rfl, hT⟩ := dp_cput hx
      have hl := hok.s.2
      walk_at "go"
      exact q _ _ w
    | copy a k =>
      obtain ⟨p, rfl, hT⟩ := dp_ccopy hx
      have hp : 1 ≤ k := hok.p
      have hh : a + k ≤ n := hok.h
      walk_at "go"
      refine w_iteF (by omega) ?_
      walk_at "go"
      refine w_iteF (by omega) ?_
      walk_at "go"
      refine w_iteF (by omega) ?_
      walk_at "go"
      exact q _ _ w
-- Change.__init__
theorem ok_ChangeX_initX {f : Addr} {fd : FuncData} (F : FunD K "__init__" "Change.__init__" (defArgs s_ChangeX_initX) (defBody s_ChangeX_initX) (defScope s_ChangeX_initX) [] [] f fd) (T : Txt K mg) (D_gives : DO P w K mg base 1 "gives" ["row", "size"] [] (S2 (φgives K))) : FnOk P w K mg base CX0 2 f fd ["self", "size", "rows"] (S3 (φinit K)) := by
  refine F.ok sc_ChangeX_initX (fun vs H Q E h => ?_) (fun cdv A outer s H vs Q E hr h => ?_)
  · exact S3.len h
  · match vs, h with
    | [v0, v1, v2], h =>
    have hu := hu_of hr
    refine ⟨_, PSs.nox (pss_cons (ps_if (PW.pt (pw_or (pt_cmpR op_lt (pv 1) pe_int (nomark _)) (pw_or1 (pt_cmpR op_gt (pv 1) (pe_gint (by rfl) T.c_MOST_changes) (nomark _))))) (pss_one ps_never) pss_nil)
      (pss_cons (ps_set (i := 3) sc_ChangeX_initX.nd rfl (.inl rfl) pe_int)
      (pss_cons (ps_for PassesOwn.never rfl (pi_range1 rfl T.b_range (pa_cons (pe_callB (clLenQ (K := K)) (by rfl) T.b_len (by decide +kernel) (pa_cons (pv 2) pa_nil)) pa_nil)) (pg_name (i := 4) sc_ChangeX_initX.nd rfl (.inl rfl)) (pss_cons (ps_set (i := 5) sc_ChangeX_initX.nd rfl (.inl rfl) (pcall D_gives hr (pa_cons (pe_ix (ixL (K := K)) (pv 2) (pv 4) (fun _ _ => rfl)) (pa_cons (pv 1) pa_nil))))
      (pss_cons (ps_set (i := 3) sc_ChangeX_initX.nd rfl (.inl rfl) (pe_op op_add (pv 3) (pv 5)))
      (pss_one (ps_if (PW.pt (pw_or (pt_cmpR op_eq (pv 5) pe_int (nomark _)) (pw_or1 (pt_cmpR op_gt (pv 3) (pe_gint (by rfl) T.c_MOST_changes) (nomark _))))) (pss_one ps_never) pss_nil)))))
      (pss_cons (psFld (K := K) (pv 0) (pv 1) rfl)
      (pss_one (psFld (K := K) (pv 0) (pe_callTy (clListOf (K := K)) (by rfl) T.b_list (by decide +kernel) (pa_cons (pv 2) pa_nil)) rfl)))))), ?_⟩
    rw [show start ["self", "size", "rows", "many", "k", "more"] [v0, v1, v2] = [some v0, some v1, some v2, none, none, none] from rfl]
    have kC := T.k_Change
    have kS := T.na_Change_size
    have kR := T.na_Change_rows
    
    obtain ⟨F, c, dx, a, vs, n, rows, rfl, rfl, rfl, s0, hS, hD, hn, hok, q⟩ := h
    have w := s0.w (M := [c])
    have hrl := hok.len
    have hvl : vs.length = rows.length := by rw [dpa_len hD, List.length_map]
    obtain ⟨tM, eM⟩ := T.c_MOST_changes
    walk_at "go"
    refine w_iteF (by omega) ?_
    walk_at "go"
    refine w_iteF (by omega) ?_
    walk_at "go"
    refine n_forR w (fun i σ L => ∃ y4 y5, σ = [some (.ref c), some (.int (n : Nat)), some (.ref a), some (.int ((givesL (rows.take i) : Nat) : Int)), y4, y5] ∧ L = [mu c (.ins (He.ga K "Change") dx [])]) ⟨none, none, rfl, rfl⟩ (fun i σ L F' H' hi hp w => ?_) (fun σ L F' H' hp w => ?_)
    · obtain ⟨y4, y5, rfl, rfl⟩ := hp
      have hi2 : i < vs.length := by omega
      obtain ⟨r, hr, dr⟩ := dpa_at hD (getD_of hi2)
      have ro := hok.ok r (List.mem_of_getElem? hr)
      have g1 := gives_take hr
      have g2 := gives_le rows (i + 1)
      have g3 := hok.sum
      have g4 := ro.p
      walk_at "go"
      refine w_ixL _ _ (by walk_at "sq") (atI_nat (getD_of hi2)) ?_
      walk_at "go"
      refine ⟨F', r, n, rfl, w.fh, w.dp0 dr, ro, fun F2 H2 w2 => ?_⟩
      replace w := w.cal .nil w2 (by walk_at "app")
      walk_at "go"
      refine w_iteF (by omega) ?_
      walk_at "go"
      refine w_iteF (by omega) ?_
      walk_at "go"
      exact nx_mk w ⟨_, _, by rw [g1]; rfl, rfl⟩ (by walk_at "pk")
    · obtain ⟨y4, y5, rfl, rfl⟩ := hp
      walk_at "go"
      refine n_sfld w (by walk_at "pick") kC kS (by show (0 : Nat) < 1000; decide) fun H2 w => ?_
      walk_at "go"
      refine n_listOf w (by walk_at "sq") fun r F3 H3 w hr => ?_
      walk_at "go"
      refine n_sfld w (by walk_at "pick") kC kR (by show (1 : Nat) < 1000; decide) fun H4 w => ?_
      exact q r F3 H4 hr (by walk_at "w")
-- Change.__eq__
theorem ok_ChangeX_eqX {f : Addr} {fd : FuncData} (F : FunD K "__eq__" "Change.__eq__" (defArgs s_ChangeX_eqX) (defBody s_ChangeX_eqX) (defScope s_ChangeX_eqX) [] [] f fd) (T : Txt K mg)  : FnOk P w K mg base CX0 6 f fd ["self", "other"] (S2 (φceq K)) := by
  refine F.ok sc_ChangeX_eqX (fun vs H Q E h => ?_) (fun cdv A outer s H vs Q E hr h => ?_)
  · exact S2.len h
  · match vs, h with
    | [v0, v1], h =>
    have hu := hu_of hr
    refine ⟨_, PSs.nox (pss_one (ps_ret (pe_and (pe_callB (clIsC T.i_Change) (by rfl) T.b_isinstance (by decide +kernel) (pa_cons (pv 1) (pa_cons (C8.pe_gc (v := .ref (He.ga K "Change")) (by rfl) ⟨_, T.g_Change, rfl⟩) pa_nil))) (pe_and (pe_cmpR op_eq (peFld (K := K) (pv 0)) (peFld (K := K) (pv 1)) (nomark _)) (pe_one (pe_cmpR (opEqD (K := K) hr.units) (peFld (K := K) (pv 0)) (peFld (K := K) (pv 1)) (nomark _))))))), ?_⟩
    rw [show start ["self", "other"] [v0, v1] = [some v0, some v1] from rfl]
    have kC := T.k_Change
    have kS := T.na_Change_size
    have kR := T.na_Change_rows
    
    obtain ⟨F, n, rows, hw, hC1, hC2, hok, q⟩ := h
    obtain ⟨c1, dx1, r1, vs1, rfl, hc1, hr1, hD1⟩ := hC1
    obtain ⟨c2, dx2, r2, vs2, rfl, hc2, hr2, hD2⟩ := hC2
    have w := ((((W.start (M := []) hw).push (fx c1 _) hc1).push (fx r1 (.lst vs1)) hr1).push (fx c2 _) hc2).push (fx r2 (.lst vs2)) hr2
    unfold insC at w
    have gok := crows_good (fun m hm => (hok.ok m hm).s) (show rows.length ≤ 100000 by have := hok.len; omega)
    walk_at "go"
    refine n_isC (by walk_at "at") ?_
    walk_at "go"
    refine u_eqD (Same.refl _) (d := .list (rows.map CRow.d)) (.lst (by walk_at "sq") (dpa_same w.fh _ _ hD1)) (.lst (by walk_at "sq") (dpa_same w.fh _ _ hD2)) gok.1 (by have := gok.2; omega) ?_
    walk_at "go"
    exact q _ _ (by walk_at "w")
-- Change.cells
theorem ok_Change_cells {f : Addr} {fd : FuncData} (F : FunD K "cells" "Change.cells" (defArgs s_Change_cells) (defBody s_Change_cells) (defScope s_Change_cells) [] [] f fd) (T : Txt K mg)  : FnOk P w K mg base CX0 1 f fd ["self"] (S1 (φcells K)) := by
  refine F.ok sc_Change_cells (fun vs H Q E h => ?_) (fun cdv A outer s H vs Q E hr h => ?_)
  · exact S1.len h
  · match vs, h with
    | [v0], h =>
    have hu := hu_of hr
    refine ⟨_, PSs.nox (pss_cons (ps_set (i := 1) sc_Change_cells.nd rfl (.inl rfl) (pe_lst pa_nil))
      (pss_cons (ps_for PassesOwn.never rfl (pi_list (peFld (K := K) (pv 0))) (pg_name (i := 2) sc_Change_cells.nd rfl (.inl rfl)) (pss_one (ps_if (pt_cmpR op_eq (pe_ix (ixT (K := K)) (pv 2) pe_int (fun _ _ => rfl)) pe_str (nomark _)) (pss_one (ps_expr (peBM (K := K) PySem.F.plainAttrs_list PySem.F.slot_list_extend PySem.F.type_list_extend mt_extend (pv 1) (pa_cons (pe_callTy clListS (by rfl) T.b_list (by decide +kernel) (pa_cons (pe_ix (ixT (K := K)) (pv 2) pe_int (fun _ _ => rfl)) pa_nil)) pa_nil)))) (pss_one (ps_expr (peBM (K := K) PySem.F.plainAttrs_list PySem.F.slot_list_extend PySem.F.type_list_extend mt_extend (pv 1) (pa_cons (pe_listRg rfl (by rfl) T.b_list (prg_2 (by rfl) T.b_range (pe_ix (ixT (K := K)) (pv 2) pe_int (fun _ _ => rfl)) (pe_op op_add (pe_ix (ixT (K := K)) (pv 2) pe_int (fun _ _ => rfl)) (pe_ix (ixT (K := K)) (pv 2) pe_int (fun _ _ => rfl))))) pa_nil)))))))
      (pss_one (ps_ret (pv 1))))), ?_⟩
    rw [show start ["self", "found", "row"] [v0] = [some v0, none, none] from rfl]
    have kC := T.k_Change
    have kS := T.na_Change_size
    have kR := T.na_Change_rows
    
    obtain ⟨F, n, rows, hw, hC, hok, hn, q⟩ := h
    obtain ⟨c, dx, r, vs, rfl, hc, hr, hD⟩ := hC
    have w := ((W.start (M := []) hw).push (fx c _) hc).push (fx r (.lst vs)) hr
    unfold insC at w
    walk_at "go"
    refine n_lst w (szle (by simp)) fun f F1 H1 w hf => ?_
    walk_at "go"
    refine n_forL vs w (fun i σ L => ∃ y2, σ = [some (.ref c), some (.ref f), y2] ∧ L = [mu f (.lst (cellsV (rows.take i))), fx r (.lst vs)]) ⟨none, rfl, rfl⟩ (fun i σ L F' H' hp w => ?_) (fun i x σ L F' H' hx hp w => ?_) (fun σ L F' H' hp w => ?_)
    · obtain ⟨y2, rfl, rfl⟩ := hp
      walk_at "sq"
    · obtain ⟨y2, rfl, rfl⟩ := hp
      obtain ⟨m, hm, dm⟩ := dpa_at hD hx
      have mo := hok.ok m (List.mem_of_getElem? hm)
      have e1 : cellsV (rows.take (i + 1)) = cellsV (rows.take i) ++ m.cellV := by
        unfold cellsV
        rw [List.take_add_one, hm, List.flatMap_append]
        simp
      have l1 := cells_len (rows.take i)
      have l2 := gives_le rows i
      have l3 := hok.sum
      cases m with
      | put s =>
        obtain ⟨pm, rfl, hT⟩ := dp_cput dm
        have hT := sqT_same (K := K) w.ws hT
        have hsl := mo.s.2
        walk_at "go"
        refine n_listS w (szle (by omega)) fun p2 F2 H2 w hp2 => ?_
        walk_at "go"
        refine n_ext w (by walk_at "at") (by walk_at "pick") (szle (by rw [chars_len]; omega)) fun H3 w => ?_
        rw [show chars s = (CRow.put s).cellV from rfl] at w
        rw [← e1] at w
        exact nx_mk w ⟨_, rfl, rfl⟩ (by walk_at "pk")
      | copy a k =>
        obtain ⟨pm, rfl, hT⟩ := dp_ccopy dm
        have hT := sqT_same (K := K) w.ws hT
        have hh : a + k ≤ n := mo.h
        have hk : 1 ≤ k := mo.p
        have hk2 := gives_take hm
        have hk3 := gives_le rows (i + 1)
        replace hk2 : givesL (rows.take (i + 1)) = givesL (rows.take i) + k := hk2
        walk_at "go"
        refine ⟨_, _, rfl, rfl, ?_⟩
        refine n_lstRg w (RgOk.of_le (by omega) (by omega) (by omega) (by omega)) fun p2 F2 H2 w hp2 => ?_
        rw [show rgV (a : Int) ((a : Int) + (k : Nat)) = CRow.cellV (.copy a k) by unfold rgV CRow.cellV; rw [show ((a : Int) + (k : Nat) - (a : Int)).toNat = k by omega]; rfl] at w
        walk_at "go"
        refine n_ext w (by walk_at "at") (by walk_at "pick") (szle (by rw [cellV_len]; show _ + k ≤ _; omega)) fun H3 w => ?_
        rw [← e1] at w
        exact nx_mk w ⟨_, rfl, rfl⟩ (by walk_at "pk")
    · obtain ⟨y2, rfl, rfl⟩ := hp
      rw [List.take_of_length_le (by rw [dpa_len hD, List.length_map]; exact Nat.le_refl _)] at w
      walk_at "go"
      exact q f F' H' hf (by walk_at "w")
-- Change.done
theorem ok_Change_done {f : Addr} {fd : FuncData} (F : FunD K "done" "Change.done" (defArgs s_Change_done) (defBody s_Change_done) (defScope s_Change_done) [] [] f fd) (T : Txt K mg)  (DM_Change_cells : DM P w K mg base 1 "Change" "cells" ["self"] [] (S1 (φcells K))) : FnOk P w K mg base CX0 2 f fd ["self", "old"] (S2 (φdoneC K)) := by
  refine F.ok sc_Change_done (fun vs H Q E h => ?_) (fun cdv A outer s H vs Q E hr h => ?_)
  · exact S2.len h
  · match vs, h with
    | [v0, v1], h =>
    have hu := hu_of hr
    refine ⟨_, PSs.nox (pss_cons (ps_if (pt_cmpR op_ne (pe_callB clLenS (by rfl) T.b_len (by decide +kernel) (pa_cons (pv 1) pa_nil)) (peFld (K := K) (pv 0)) (nomark _)) (pss_one ps_never) pss_nil)
      (pss_one (ps_ret (peJoin (K := K) pe_str (pe_lc (own := [("cell", 2)]) (g := gName 2) rfl sc_Change_done.nd (pi_list (pmeth0 DM_Change_cells hr (pv 0))) (blkOk_by (own := [("cell", 2)]) (N := ["self", "old", "cell"]) (sc := defScope s_Change_done) (by decide +kernel)) (fun _ _ _ _ _ => pg_name (i := 2) sc_Change_done.nd rfl (Or.inl rfl)) (fun _ _ _ _ _ => pts_nil) (fun _ _ _ _ _ => (pe_ifExp (pt_val (pe_callB (clIsi (K := K)) (by rfl) T.b_isinstance (by decide +kernel) (pa_cons (pv 2) (pa_cons (pe_bltn (v := .ty "int") (by rfl) T.b_int (by decide +kernel) rfl) pa_nil)))) (pe_ix ix_str (pv 1) (pv 2) (fun _ _ => rfl)) (pv 2)))))))), ?_⟩
    rw [show start ["self", "old", "cell"] [v0, v1] = [some v0, some v1, none] from rfl]
    have kC := T.k_Change
    have kS := T.na_Change_size
    have kR := T.na_Change_rows
    
    obtain ⟨F, o, rows, rfl, hw, hC, hok, oko, ho, q⟩ := h
    have hC0 := hC
    obtain ⟨c, dx, r, vs, rfl, hc, hr, hD⟩ := hC
    have w := (W.start (M := []) hw).push (fx c _) hc
    unfold insC at w
    have hcs := cells_ok hok.ok
    have hcl : (cellsV rows).length ≤ 400 := by rw [cells_len]; exact hok.sum
    walk_at "go"
    refine ⟨F, o.length, rows, w.fh, hC0, hok, ho, fun p1 F1 H1 hp1 w1 => ?_⟩
    have hp1' := w.g.fresh hp1
    replace w := w.cal .nil w1 (by walk_at "app")
    walk_at "go"
    
    refine n_lcL (cellsV rows) w (fun i ys L => ys = ((cellsV rows).take i).map (fun v => V.str (outS o v)) ∧ L = [mu p1 (.lst (cellsV rows))]) ⟨rfl, rfl⟩ (fun i ys L F' H' D hp w => ?_) (fun i x ys L F' H' D hx hp w hDn => ?_) (fun D ys L F' H' hp w hDn => ?_)
    · obtain ⟨rfl, rfl⟩ := hp
      walk_at "sq"
    · obtain ⟨rfl, rfl⟩ := hp
      have hi := (List.getElem?_eq_some_iff.mp hx).1
      have e1 : ((cellsV rows).take (i + 1)).map (fun v => V.str (outS o v)) = ((cellsV rows).take i).map (fun v => V.str (outS o v)) ++ [V.str (outS o x)] := by
        rw [List.take_add_one, hx, List.map_append]
        rfl
      have hl : (((cellsV rows).take i).map (fun v => V.str (outS o v))).length ≤ 1000 := by
        rw [List.length_map, List.length_take]
        omega
      walk_at "wp"
      walk_at "go"
      rcases hcs x (List.mem_of_getElem? hx) with ⟨k, rfl, hk⟩ | ⟨c, rfl, hc⟩
      · refine u_isi (F := F') (d := .int (k : Nat)) (.int _) w.fh (k_int _) ?_
        walk_at "go"
        refine w_is (c := true) rfl ?_
        walk_at "go"
        refine w_ixS (szle (by omega)) (sign_get hk) ?_
        exact n_acc _ w ⟨e1.symm, rfl⟩ (by walk_at "pk") (small_lt (by omega))
      · refine u_isi (F := F') (d := .str ⟨#[c]⟩) (.str _) w.fh (k_int _) ?_
        walk_at "go"
        refine w_is (c := false) rfl ?_
        walk_at "go"
        exact n_acc _ w ⟨e1.symm, rfl⟩ (by walk_at "pk") (small_lt (by omega))
    · obtain ⟨rfl, rfl⟩ := hp
      rw [List.take_of_length_le (Nat.le_refl _)] at w
      obtain ⟨zs, ezs⟩ : ∃ zs, zs = (cellsV rows).map (outS o) := ⟨_, rfl⟩
      have hzs : ∀ z ∈ zs, z.length = 1 ∧ okS z := fun z hz => by
        rw [ezs] at hz
        obtain ⟨v, hv, rfl⟩ := List.mem_map.mp hz
        exact outS_ok rfl oko (hcs v hv)
      rw [show (cellsV rows).map (fun v => V.str (outS o v)) = zs.map V.str by rw [ezs, List.map_map]; rfl] at w
      refine ⟨_, D, zs, rfl, rfl, .inl (by walk_at "sq"), ?_, ?_⟩
      · rw [sum_ones zs hzs]
        have : zs.length = (cellsV rows).length := by rw [ezs, List.length_map]
        show zs.length + zs.length * 0 ≤ 16777216
        omega
      · refine q _ F' H' (by walk_at "w") ?_ (joined zs hzs).2
        show cd (Txt.join ⟨#[]⟩ zs) = _
        rw [join_cd, ezs]
        exact outs_rows o hok.ok
-- rows_of
theorem ok_rows_of {f : Addr} {fd : FuncData} (F : FunD K "rows_of" "rows_of" (defArgs s_rows_of) (defBody s_rows_of) (defScope s_rows_of) [] [] f fd) (T : Txt K mg)  : FnOk P w K mg base CX0 1 f fd ["cells"] (S1 (φrows_of K)) := by
  refine F.ok sc_rows_of (fun vs H Q E h => ?_) (fun cdv A outer s H vs Q E hr h => ?_)
  · exact S1.len h
  · match vs, h with
    | [v0], h =>
    have hu := hu_of hr
    refine ⟨_, PSs.nox (pss_cons (ps_set (i := 1) sc_rows_of.nd rfl (.inl rfl) (pe_lst pa_nil))
      (pss_cons (ps_set (i := 2) sc_rows_of.nd rfl (.inl rfl) (pe_tup (pa_cons pe_str (pa_cons pe_int (pa_cons pe_int pa_nil)))))
      (pss_cons (ps_for PassesOwn.never rfl (pi_list (pv 0)) (pg_name (i := 3) sc_rows_of.nd rfl (.inl rfl)) (pss_one (ps_if (PW.pt (pw_and (pt_val (pe_callB (clIsi (K := K)) (by rfl) T.b_isinstance (by decide +kernel) (pa_cons (pv 3) (pa_cons (pe_bltn (v := .ty "int") (by rfl) T.b_int (by decide +kernel) rfl) pa_nil)))) (pw_and (pt_cmpR op_eq (pe_ix (ixT (K := K)) (pv 2) pe_int (fun _ _ => rfl)) pe_str (nomark _)) (pw_and1 (pt_cmpR op_eq (pe_op op_add (pe_ix (ixT (K := K)) (pv 2) pe_int (fun _ _ => rfl)) (pe_ix (ixT (K := K)) (pv 2) pe_int (fun _ _ => rfl))) (pv 3) (nomark _)))))) (pss_cons (ps_set (i := 2) sc_rows_of.nd rfl (.inl rfl) (pe_tup (pa_cons pe_str (pa_cons (pe_ix (ixT (K := K)) (pv 2) pe_int (fun _ _ => rfl)) (pa_cons (pe_op op_add (pe_ix (ixT (K := K)) (pv 2) pe_int (fun _ _ => rfl)) pe_int) pa_nil)))))
      (pss_one (ps_asg (pv 2) (pg_sub (pv 1) (pe_un un_neg pe_int) set_list)))) (pss_one (ps_if (PW.pt (pw_and (pt_not (pt_val (pe_callB (clIsi (K := K)) (by rfl) T.b_isinstance (by decide +kernel) (pa_cons (pv 3) (pa_cons (pe_bltn (v := .ty "int") (by rfl) T.b_int (by decide +kernel) rfl) pa_nil))))) (pw_and1 (pt_cmpR op_eq (pe_ix (ixT (K := K)) (pv 2) pe_int (fun _ _ => rfl)) pe_str (nomark _))))) (pss_cons (ps_set (i := 2) sc_rows_of.nd rfl (.inl rfl) (pe_tup (pa_cons pe_str (pa_cons (pe_op opAddS (pe_ix (ixT (K := K)) (pv 2) pe_int (fun _ _ => rfl)) (pv 3)) pa_nil))))
      (pss_one (ps_asg (pv 2) (pg_sub (pv 1) (pe_un un_neg pe_int) set_list)))) (pss_cons (ps_set (i := 2) sc_rows_of.nd rfl (.inl rfl) (pe_ifExp (pt_val (pe_callB (clIsi (K := K)) (by rfl) T.b_isinstance (by decide +kernel) (pa_cons (pv 3) (pa_cons (pe_bltn (v := .ty "int") (by rfl) T.b_int (by decide +kernel) rfl) pa_nil)))) (pe_tup (pa_cons pe_str (pa_cons (pv 3) (pa_cons pe_int pa_nil)))) (pe_tup (pa_cons pe_str (pa_cons (pv 3) pa_nil)))))
      (pss_one (ps_expr (peBM (K := K) PySem.F.plainAttrs_list PySem.F.slot_list_append PySem.F.type_list_append mt_append (pv 1) (pa_cons (pv 2) pa_nil))))))))))
      (pss_one (ps_ret (pv 1)))))), ?_⟩
    rw [show start ["cells", "rows", "last", "cell"] [v0] = [some v0, none, none, none] from rfl]
    obtain ⟨F, a, cs, n, rfl, hw, hS, hok, hn, hl, q⟩ := h
    have w := W.start (M := []) hw
    walk_at "go"
    refine n_lst w (szle (by simp)) fun f F1 H1 w hf => ?_
    walk_at "go"
    refine n_tup w (szle (by simp)) fun t0 F2 H2 w => ?_
    replace w := w.push (dpa K [] (([] : List CRow).map CRow.d)) .nil
    walk_at "go"
    refine n_forL (cs.map Cel.v) w (fun i σ L => ∃ (us : List V) (la : Addr) (lv : List V) (y3 : Option V), σ = [some (.ref a), some (.ref f), some (.ref la), y3] ∧ LastIs (plainR (cs.take i)) us la lv ∧
      L = [mu f (.lst us), dpa K us ((plainR (cs.take i)).reverse.map CRow.d), fx la (.tup lv)]) ⟨[], t0, _, none, rfl, .inl ⟨rfl, rfl, rfl⟩, rfl⟩ (fun i σ L F' H' hp w => ?_) (fun i x σ L F' H' hx hp w => ?_) (fun σ L F' H' hp w => ?_)
    · obtain ⟨us, la, lv, y3, rfl, hla, rfl⟩ := hp
      walk_at "sq"
    · obtain ⟨us, la, lv, y3, rfl, hla, rfl⟩ := hp
      rw [List.getElem?_map] at hx
      obtain ⟨c, hc, rfl⟩ : ∃ c, cs[i]? = some c ∧ x = c.v := by
        cases e : cs[i]? with
        | none => rw [e] at hx; cases hx
        | some c => rw [e] at hx; exact ⟨c, rfl, (Option.some.inj hx).symm⟩
      have e1 := plainR_take hc
      have hi := (List.getElem?_eq_some_iff.mp hc).1
      have co := hok c (List.mem_of_getElem? hc)
      have tok : ∀ d ∈ cs.take i, d.ok n := fun d hd => hok d (List.mem_of_mem_take hd)
      have tl : (cs.take i).length ≤ 400 := by rw [List.length_take]; omega
      have ro := plain_ok tok tl
      have rl := ro.len
      obtain ⟨rs, ers⟩ : ∃ rs, rs = plainR (cs.take i) := ⟨_, rfl⟩
      have ro' : RowsOk n rs.reverse := by rw [ers]; exact ro
      have rl' : rs.length ≤ 400 := by rw [ers]; have := rl; unfold plainL at this; rwa [List.length_reverse] at this
      rw [← ers] at hla e1 w
      have hul : us.length = rs.length := by rw [dpa_len (w.dpa (K := K) (xs := us) (ds := rs.reverse.map CRow.d) (by walk_at "mem")), List.length_map, List.length_reverse]
      clear hx
      have fin_new : ∀ {F2 H2 L} (p : Addr) (z : Option V), W [] F H F2 H2 L → Pk L [mu f (.lst (us ++ [.ref p])), dpa K us (rs.reverse.map CRow.d), fx p (.tup (CRow.one c).vals)] → addC rs c = CRow.one c :: rs → Nx [] F H (fun σ L => ∃ (us : List V) (la : Addr) (lv : List V) (y3 : Option V), σ = [some (.ref a), some (.ref f), some (.ref la), y3] ∧ LastIs (plainR (cs.take (i + 1))) us la lv ∧
          L = [mu f (.lst us), dpa K us ((plainR (cs.take (i + 1))).reverse.map CRow.d), fx la (.tup lv)]) [some (.ref a), some (.ref f), some (.ref p), z] H2 := by
        intro F2 H2 L p z w k ea
        have w := w.pk k
        have d1 : DpAll K F2 us (rs.reverse.map CRow.d) := w.dpa (by walk_at "mem")
        have d2 : F2 p = some (.tup (CRow.one c).vals) := w.i (fx p _) (by walk_at "mem")
        have d3 : Dp K F2 (.ref p) (CRow.one c).d := by
          cases c with
          | pl i => exact dp_ccopy' (sqT_of (K := K) d2)
          | sg c => exact dp_cput' (sqT_of (K := K) d2)
        have d4 := dpa_snoc d1 d3
        rw [show rs.reverse.map CRow.d ++ [(CRow.one c).d] = (plainR (cs.take (i + 1))).reverse.map CRow.d by rw [e1, ea, List.reverse_cons, List.map_append]; rfl] at d4
        exact nx_mk (w.push (dpa K _ _) d4) ⟨us ++ [.ref p], p, _, z, rfl, .inr ⟨CRow.one c, rs, us, by rw [e1, ea], rfl, rfl⟩, rfl⟩ (by walk_at "pk")
      have fin_old : ∀ {F2 H2 L} (p : Addr) (z : Option V) (r q : CRow) (t : List CRow) (us' : List V) (la : Addr), rs = r :: t → us = us' ++ [.ref la] → r.add c = some q → W [] F H F2 H2 L → Pk L [mu f (.lst (us' ++ [.ref p])), dpa K us (rs.reverse.map CRow.d), fx p (.tup q.vals)] → Nx [] F H (fun σ L => ∃ (us : List V) (la : Addr) (lv : List V) (y3 : Option V), σ = [some (.ref a), some (.ref f), some (.ref la), y3] ∧ LastIs (plainR (cs.take (i + 1))) us la lv ∧
          L = [mu f (.lst us), dpa K us ((plainR (cs.take (i + 1))).reverse.map CRow.d), fx la (.tup lv)]) [some (.ref a), some (.ref f), some (.ref p), z] H2 := by
        intro F2 H2 L p z r q t us' la er eu ea w k
        have w := w.pk k
        have d1 : DpAll K F2 us (rs.reverse.map CRow.d) := w.dpa (by walk_at "mem")
        rw [eu, er, List.reverse_cons, List.map_append] at d1
        have d1' := dpa_init d1
        have d2 : F2 p = some (.tup q.vals) := w.i (fx p _) (by walk_at "mem")
        have d3 : Dp K F2 (.ref p) q.d := by
          cases q with
          | copy a n => exact dp_ccopy' (sqT_of (K := K) d2)
          | put s => exact dp_cput' (sqT_of (K := K) d2)
        have d4 := dpa_snoc d1' d3
        have ee : addC rs c = q :: t := by rw [er]; exact addC_some ea
        rw [show t.reverse.map CRow.d ++ [q.d] = (plainR (cs.take (i + 1))).reverse.map CRow.d by rw [e1, ee, List.reverse_cons, List.map_append]; rfl] at d4
        exact nx_mk (w.push (dpa K _ _) d4) ⟨us' ++ [.ref p], p, _, z, rfl, .inr ⟨q, t, us', by rw [e1, ee], rfl, rfl⟩, rfl⟩ (by walk_at "pk")
      cases c with
      | pl j =>
        have hj : j < n := co
        dsimp only [Cel.v]
        walk_at "go"
        refine u_isi (F := F') (d := .int (j : Nat)) (.int _) w.fh (k_int _) ?_
        walk_at "go"
        refine w_is (c := true) rfl ?_
        walk_at "go"
        rcases hla with ⟨e0, rfl, rfl⟩ | ⟨r, t, us', er, eu, rfl⟩
        · walk_at "go"
          refine u_isi (F := F') (d := .int (j : Nat)) (.int _) w.fh (k_int _) ?_
          walk_at "go"
          refine w_is (c := false) rfl ?_
          walk_at "go"
          refine u_isi (F := F') (d := .int (j : Nat)) (.int _) w.fh (k_int _) ?_
          walk_at "go"
          refine w_is (c := true) rfl ?_
          walk_at "go"
          refine n_tup w (szle (by simp)) fun p F2 H2 w => ?_
          walk_at "go"
          refine n_app w (by walk_at "pick") (small_lt (by omega)) fun H3 w => ?_
          walk_at "go"
          exact fin_new p _ w (by walk_at "pk") (by rw [e0]; rfl)
        · cases r with
          | put s =>
            unfold CRow.vals at w
            walk_at "go"
            refine u_isi (F := F') (d := .int (j : Nat)) (.int _) w.fh (k_int _) ?_
            walk_at "go"
            refine w_is (c := false) rfl ?_
            walk_at "go"
            refine u_isi (F := F') (d := .int (j : Nat)) (.int _) w.fh (k_int _) ?_
            walk_at "go"
            refine w_is (c := true) rfl ?_
            walk_at "go"
            refine n_tup w (szle (by simp)) fun p F2 H2 w => ?_
            walk_at "go"
            refine n_app w (by walk_at "pick") (small_lt (by omega)) fun H3 w => ?_
            walk_at "go"
            exact fin_new p _ w (by walk_at "pk") (by rw [er]; exact addC_none rfl)
          | copy b m =>
            have bm : b + m ≤ n := (ro'.ok (.copy b m) (by rw [er]; simp)).h
            unfold CRow.vals at w
            walk_at "go"
            by_cases e : b + m = j
            · rw [decide_eq_true (show (b : Int) + (m : Nat) = (j : Nat) by omega)]
              walk_at "go"
              refine n_tup w (szle (by simp)) fun p F2 H2 w => ?_
              walk_at "go"
              subst eu
              refine n_setL w (by walk_at "pick") us'.length (ix_last _ _) fun H3 w => ?_
              rw [set_last] at w
              walk_at "go"
              exact fin_old p _ (.copy b m) (.copy b (m + 1)) t us' la er rfl (by show (if _ then _ else _) = _; rw [if_pos e]) w (by walk_at "pk")
            · rw [decide_eq_false (show ¬ (b : Int) + (m : Nat) = (j : Nat) by omega)]
              walk_at "go"
              refine u_isi (F := F') (d := .int (j : Nat)) (.int _) w.fh (k_int _) ?_
              walk_at "go"
              refine w_is (c := false) rfl ?_
              walk_at "go"
              refine u_isi (F := F') (d := .int (j : Nat)) (.int _) w.fh (k_int _) ?_
              walk_at "go"
              refine w_is (c := true) rfl ?_
              walk_at "go"
              refine n_tup w (szle (by simp)) fun p F2 H2 w => ?_
              walk_at "go"
              refine n_app w (by walk_at "pick") (small_lt (by omega)) fun H3 w => ?_
              walk_at "go"
              exact fin_new p _ w (by walk_at "pk") (by rw [er]; exact addC_none (by show (if _ then _ else _) = _; rw [if_neg e]))
      | sg j =>
        dsimp only [Cel.v]
        walk_at "go"
        refine u_isi (F := F') (d := .str ⟨#[j]⟩) (.str _) w.fh (k_int _) ?_
        walk_at "go"
        refine w_is (c := false) rfl ?_
        walk_at "go"
        refine u_isi (F := F') (d := .str ⟨#[j]⟩) (.str _) w.fh (k_int _) ?_
        walk_at "go"
        refine w_is (c := true) rfl ?_
        walk_at "go"
        rcases hla with ⟨e0, rfl, rfl⟩ | ⟨r, t, us', er, eu, rfl⟩
        · walk_at "go"
          refine u_isi (F := F') (d := .str ⟨#[j]⟩) (.str _) w.fh (k_int _) ?_
          walk_at "go"
          refine w_is (c := false) rfl ?_
          walk_at "go"
          refine n_tup w (szle (by simp)) fun p F2 H2 w => ?_
          walk_at "go"
          refine n_app w (by walk_at "pick") (small_lt (by omega)) fun H3 w => ?_
          walk_at "go"
          exact fin_new p _ w (by walk_at "pk") (by rw [e0]; rfl)
        · cases r with
          | put s =>
            have hsl := (ro'.ok (.put s) (by rw [er]; simp)).s.2
            unfold CRow.vals at w
            walk_at "go"
            refine n_adds (szle (by show s.length + 1 ≤ 1000000; omega)) ?_
            walk_at "go"
            refine n_tup w (szle (by simp)) fun p F2 H2 w => ?_
            walk_at "go"
            subst eu
            refine n_setL w (by walk_at "pick") us'.length (ix_last _ _) fun H3 w => ?_
            rw [set_last] at w
            walk_at "go"
            exact fin_old p _ (.put s) (.put (s ++ ⟨#[j]⟩)) t us' la er rfl (rfl) w (by walk_at "pk")
          | copy b m =>
            unfold CRow.vals at w
            walk_at "go"
            refine u_isi (F := F') (d := .str ⟨#[j]⟩) (.str _) w.fh (k_int _) ?_
            walk_at "go"
            refine w_is (c := false) rfl ?_
            walk_at "go"
            refine n_tup w (szle (by simp)) fun p F2 H2 w => ?_
            walk_at "go"
            refine n_app w (by walk_at "pick") (small_lt (by omega)) fun H3 w => ?_
            walk_at "go"
            exact fin_new p _ w (by walk_at "pk") (by rw [er]; exact addC_none rfl)
    · obtain ⟨us, la, lv, y3, rfl, hla, rfl⟩ := hp
      rw [List.take_of_length_le (by rw [List.length_map]; exact Nat.le_refl _)] at w
      walk_at "go"
      exact q f us F' H' hf (by walk_at "w")
-- plainest
theorem ok_plainest {f : Addr} {fd : FuncData} (F : FunD K "plainest" "plainest" (defArgs s_plainest) (defBody s_plainest) (defScope s_plainest) [] [] f fd) (T : Txt K mg) (D_rows_of : DO P w K mg base 1 "rows_of" ["cells"] [] (S1 (φrows_of K))) (DM_Change_cells : DM P w K mg base 1 "Change" "cells" ["self"] [] (S1 (φcells K))) (DN_Change_2 : DN P w K mg base 2 "Change" ["self", "size", "rows"] [] (S3 (φinit K))) : FnOk P w K mg base CX0 4 f fd ["change"] (S1 (φplainest K)) := by
  refine F.ok sc_plainest (fun vs H Q E h => ?_) (fun cdv A outer s H vs Q E hr h => ?_)
  · exact S1.len h
  · match vs, h with
    | [v0], h =>
    have hu := hu_of hr
    refine ⟨_, PSs.nox (pss_one (ps_ret (pmake DN_Change_2 hr (pa_cons (peFld (K := K) (pv 0)) (pa_cons (pcall D_rows_of hr (pa_cons (pmeth0 DM_Change_cells hr (pv 0)) pa_nil)) pa_nil))))), ?_⟩
    rw [show start ["change"] [v0] = [some v0] from rfl]
    have kC := T.k_Change
    have kS := T.na_Change_size
    have kR := T.na_Change_rows
    
    obtain ⟨F, n, rows, hw, hC, hok, hn, q⟩ := h
    have hC0 := hC
    obtain ⟨c, dx, r, vs, rfl, hc, hr, hD⟩ := hC
    have w := (W.start (M := []) hw).push (fx c _) hc
    unfold insC at w
    have hcl : (celsL rows).length ≤ 400 := by rw [cels_len]; exact hok.sum
    walk_at "go"
    refine ⟨F, n, rows, w.fh, hC0, hok, by omega, fun p1 F1 H1 hp1 w1 => ?_⟩
    have hp1' := w.g.fresh hp1
    replace w := w.cal .nil w1 (by walk_at "app")
    obtain ⟨F1, w⟩ := w.fzL (p := p1) (by walk_at "pick") hp1'
    walk_at "go"
    refine ⟨F1, p1, celsL rows, n, rfl, w.fh, by rw [← cels_v]; exact sqL_of (w.i (fx p1 _) (by walk_at "mem")), cels_ok hok.ok, by omega, hcl, fun p2 ys F2 H2 hp2 w2 => ?_⟩
    have hp2' := w.g.fresh hp2
    replace w := w.cal .nil w2 (by walk_at "app")
    obtain ⟨F2, w⟩ := w.fzL (p := p2) (by walk_at "pick") hp2'
    walk_at "go"
    refine n_make w fun c2 dx2 H3 w hc2 => ?_
    refine c_init w (by walk_at "pick") hc2 (sqL_of (w.i (fx p2 (.lst ys)) (by walk_at "mem"))) (w.dpa (by walk_at "mem")) hn (plain_ok (cels_ok hok.ok) hcl) fun F3 H3 w => ?_
    walk_at "go"
    exact q _ _ _ (by walk_at "w")
-- behind
theorem ok_behind {f : Addr} {fd : FuncData} (F : FunD K "behind" "behind" (defArgs s_behind) (defBody s_behind) (defScope s_behind) [] [] f fd) (T : Txt K mg) (D_rows_of : DO P w K mg base 1 "rows_of" ["cells"] [] (S1 (φrows_of K))) (DM_Change_cells : DM P w K mg base 1 "Change" "cells" ["self"] [] (S1 (φcells K))) (DN_Change_2 : DN P w K mg base 2 "Change" ["self", "size", "rows"] [] (S3 (φinit K))) : FnOk P w K mg base CX0 4 f fd ["first", "second"] (S2 (φbehind K)) := by
  refine F.ok sc_behind (fun vs H Q E h => ?_) (fun cdv A outer s H vs Q E hr h => ?_)
  · exact S2.len h
  · match vs, h with
    | [v0, v1], h =>
    have hu := hu_of hr
    refine ⟨_, PSs.nox (pss_cons (ps_set (i := 2) sc_behind.nd rfl (.inr rfl) (pmeth0 DM_Change_cells hr (pv 0)))
      (pss_cons (ps_if (pt_cmpR op_ne (peFld (K := K) (pv 1)) (pe_callB (clLenQ (K := K)) (by rfl) T.b_len (by decide +kernel) (pa_cons (pv 2) pa_nil)) (nomark _)) (pss_one ps_never) pss_nil)
      (pss_one (ps_ret (pmake DN_Change_2 hr (pa_cons (peFld (K := K) (pv 0)) (pa_cons (pcall D_rows_of hr (pa_cons (pe_lc (own := [("cell", 3)]) (g := gName 3) rfl sc_behind.nd (pi_list (pmeth0 DM_Change_cells hr (pv 1))) (blkOk_by (own := [("cell", 3)]) (N := ["first", "second", "cells", "cell"]) (sc := defScope s_behind) (by decide +kernel)) (fun _ _ _ _ _ => pg_name (i := 3) sc_behind.nd rfl (Or.inl rfl)) (fun _ _ _ _ _ => pts_nil) (fun _ _ _ _ _ => (pe_ifExp (pt_val (pe_callB (clIsi (K := K)) (by rfl) T.b_isinstance (by decide +kernel) (pa_cons (pv 3) (pa_cons (pe_bltn (v := .ty "int") (by rfl) T.b_int (by decide +kernel) rfl) pa_nil)))) (pe_ix (ixL (K := K)) (pv 2) (pv 3) (fun _ _ => rfl)) (pv 3)))) pa_nil)) pa_nil))))))), ?_⟩
    rw [show start ["first", "second", "cells", "cell"] [v0, v1] = [some v0, some v1, none, none] from rfl]
    have kC := T.k_Change
    have kS := T.na_Change_size
    have kR := T.na_Change_rows
    
    obtain ⟨F, n, rows1, rows2, hw, hC1, hC2, hok1, hok2, hn, q⟩ := h
    have hC10 := hC1
    have hC20 := hC2
    obtain ⟨c1, dx1, r1, vs1, rfl, hc1, hr1, hD1⟩ := hC1
    obtain ⟨c2, dx2, r2, vs2, rfl, hc2, hr2, hD2⟩ := hC2
    have w := ((W.start (M := []) hw).push (fx c1 _) hc1).push (fx c2 _) hc2
    unfold insC at w
    obtain ⟨cs, ecs⟩ : ∃ cs, cs = celsL rows1 := ⟨_, rfl⟩
    obtain ⟨ds, eds⟩ : ∃ ds, ds = celsL rows2 := ⟨_, rfl⟩
    have hcl : cs.length = givesL rows1 := by rw [ecs]; exact cels_len rows1
    have hdl : ds.length = givesL rows2 := by rw [eds]; exact cels_len rows2
    have hcl2 := hok1.sum
    have hdl2 := hok2.sum
    have ok1 : ∀ c ∈ cs, c.ok n := by rw [ecs]; exact cels_ok hok1.ok
    have ok2 : ∀ c ∈ ds, c.ok cs.length := by rw [eds, hcl]; exact cels_ok hok2.ok
    walk_at "go"
    refine ⟨F, n, rows1, w.fh, hC10, hok1, by omega, fun p1 F1 H1 hp1 w1 => ?_⟩
    have hp1' := w.g.fresh hp1
    replace w := w.cal .nil w1 (by walk_at "app")
    rw [cels_v, ← ecs] at w
    obtain ⟨F1, w⟩ := w.fzL (p := p1) (by walk_at "pick") hp1'
    walk_at "go"
    rw [List.length_map, hcl]
    walk_at "go"
    refine ⟨F1, _, rows2, w.fh, hC20.same w.ff, hok2, by omega, fun p2 F2 H2 hp2 w2 => ?_⟩
    have hp2' := w.g.fresh hp2
    replace w := w.cal .nil w2 (by walk_at "app")
    rw [cels_v, ← eds] at w
    obtain ⟨F2, w⟩ := w.fzL (p := p2) (by walk_at "pick") hp2'
    walk_at "go"
    refine n_lcL (ds.map Cel.v) w (fun i ys L => ys = ((ds.take i).map (midC cs)).map Cel.v ∧ L = [fx p2 (.lst (ds.map Cel.v)), fx p1 (.lst (cs.map Cel.v))]) ⟨rfl, rfl⟩ (fun i ys L F' H' D hp w => ?_) (fun i x ys L F' H' D hx hp w hDn => ?_) (fun D ys L F' H' hp w hDn => ?_)
    · obtain ⟨rfl, rfl⟩ := hp
      walk_at "sq"
    · obtain ⟨rfl, rfl⟩ := hp
      rw [List.getElem?_map] at hx
      obtain ⟨d, hd, rfl⟩ : ∃ d, ds[i]? = some d ∧ x = d.v := by
        cases e : ds[i]? with
        | none => rw [e] at hx; cases hx
        | some d => rw [e] at hx; exact ⟨d, rfl, (Option.some.inj hx).symm⟩
      have hi := (List.getElem?_eq_some_iff.mp hd).1
      have dok := ok2 d (List.mem_of_getElem? hd)
      have e1 : ((ds.take (i + 1)).map (midC cs)).map Cel.v = ((ds.take i).map (midC cs)).map Cel.v ++ [(midC cs d).v] := by
        rw [List.take_add_one, hd, List.map_append, List.map_append]
        rfl
      have hl : (((ds.take i).map (midC cs)).map Cel.v).length ≤ 1000 := by
        rw [List.length_map, List.length_map, List.length_take]
        omega
      clear hx
      cases d with
      | pl j =>
        have hj : j < cs.length := dok
        dsimp only [Cel.v]
        walk_at "wp"
        walk_at "go"
        refine u_isi (F := F') (d := .int (j : Nat)) (.int _) w.fh (k_int _) ?_
        walk_at "go"
        refine w_is (c := true) rfl ?_
        walk_at "go"
        have hx2 : (cs.map Cel.v)[j]? = some (midC cs (.pl j)).v := by
          rw [List.getElem?_map, List.getElem?_eq_getElem hj]
          show some (cs[j].v) = some (cs.getD j (.sg 0)).v
          rw [List.getD_eq_getElem?_getD, List.getElem?_eq_getElem hj]
          rfl
        refine w_ixL _ _ (by walk_at "sq") (atI_nat hx2) ?_
        exact n_acc _ w ⟨e1.symm, rfl⟩ (by walk_at "pk") (small_lt (by omega))
      | sg j =>
        dsimp only [Cel.v]
        walk_at "wp"
        walk_at "go"
        refine u_isi (F := F') (d := .str ⟨#[j]⟩) (.str _) w.fh (k_int _) ?_
        walk_at "go"
        refine w_is (c := false) rfl ?_
        walk_at "go"
        exact n_acc _ w ⟨e1.symm, rfl⟩ (by walk_at "pk") (small_lt (by omega))
    · obtain ⟨rfl, rfl⟩ := hp
      rw [List.take_of_length_le (by rw [List.length_map]; exact Nat.le_refl _)] at w
      obtain ⟨F', w⟩ := w.fzL (p := D) (by walk_at "pick") hDn
      walk_at "go"
      refine ⟨F', D, ds.map (midC cs), n, rfl, w.fh, sqL_of (w.i (fx D _) (by walk_at "mem")), mid_ok ok1 ok2, by omega, by rw [List.length_map]; omega, fun p3 ys F3 H3 hp3 w3 => ?_⟩
      have hp3' := w.g.fresh hp3
      replace w := w.cal .nil w3 (by walk_at "app")
      obtain ⟨F3, w⟩ := w.fzL (p := p3) (by walk_at "pick") hp3'
      walk_at "go"
      refine n_make w fun c3 dx3 H4 w hc3 => ?_
      refine c_init w (by walk_at "pick") hc3 (sqL_of (w.i (fx p3 (.lst ys)) (by walk_at "mem"))) (w.dpa (by walk_at "mem")) hn (plain_ok (mid_ok ok1 ok2) (by rw [List.length_map]; omega)) fun F5 H5 w => ?_
      rw [ecs, eds] at w
      exact q _ _ _ (by walk_at "w")
-- whole_copy
theorem ok_whole_copy {f : Addr} {fd : FuncData} (F : FunD K "whole_copy" "whole_copy" (defArgs s_whole_copy) (defBody s_whole_copy) (defScope s_whole_copy) [] [] f fd) (T : Txt K mg)  (DN_Change_2 : DN P w K mg base 2 "Change" ["self", "size", "rows"] [] (S3 (φinit K))) : FnOk P w K mg base CX0 4 f fd ["size"] (S1 (φwhole_copy K)) := by
  refine F.ok sc_whole_copy (fun vs H Q E h => ?_) (fun cdv A outer s H vs Q E hr h => ?_)
  · exact S1.len h
  · match vs, h with
    | [v0], h =>
    have hu := hu_of hr
    refine ⟨_, PSs.nox (pss_one (ps_ret (pmake DN_Change_2 hr (pa_cons (pv 0) (pa_cons (pe_ifExp (pt_cmpR op_gt (pv 0) pe_int (nomark _)) (pe_lst (pa_cons (pe_tup (pa_cons pe_str (pa_cons pe_int (pa_cons (pv 0) pa_nil)))) pa_nil)) (pe_lst pa_nil)) pa_nil))))), ?_⟩
    rw [show start ["size"] [v0] = [some v0] from rfl]
    obtain ⟨F, n, rfl, hw, hn, q⟩ := h
    have w := W.start (M := []) hw
    walk_at "go"
    refine w_ite (fun h0 => ?_) (fun h0 => ?_)
    · walk_at "go"
      refine n_tup w (szle (by simp)) fun t F1 H1 w => ?_
      walk_at "go"
      refine n_lst w (szle (by simp)) fun p F2 H2 w hp => ?_
      have d1 : F2 t = some (.tup [.str "copy", .int 0, .int (n : Nat)]) := w.i (fx t _) (by walk_at "mem")
      replace w := w.push (dpa K [.ref t] ([CRow.copy 0 n].map CRow.d)) (.cons (dp_ccopy' (sqT_of (K := K) d1)) .nil)
      obtain ⟨F2, w⟩ := w.fzL (p := p) (by walk_at "pick") hp
      walk_at "go"
      have e1 : copyR n = [CRow.copy 0 n] := by unfold copyR; rw [if_neg (by omega)]
      refine n_make w fun c dx H5 w hc => ?_
      refine c_init w (by walk_at "pick") hc (sqL_of (w.i (fx p _) (by walk_at "mem"))) (w.dpa (ds := [CRow.copy 0 n].map CRow.d) (by walk_at "mem")) hn (by rw [← e1]; exact copy_ok hn) fun F5 H5 w => ?_
      rw [← e1] at w
      walk_at "go"
      exact q _ _ _ (by walk_at "w")
    · walk_at "go"
      refine n_lst w (szle (by simp)) fun p F2 H2 w hp => ?_
      replace w := w.push (dpa K [] (([] : List CRow).map CRow.d)) .nil
      obtain ⟨F2, w⟩ := w.fzL (p := p) (by walk_at "pick") hp
      walk_at "go"
      have e1 : copyR n = [] := by unfold copyR; rw [if_pos (by omega)]
      refine n_make w fun c dx H5 w hc => ?_
      refine c_init w (by walk_at "pick") hc (sqL_of (w.i (fx p _) (by walk_at "mem"))) (w.dpa (ds := ([] : List CRow).map CRow.d) (by walk_at "mem")) hn (by rw [← e1]; exact copy_ok hn) fun F5 H5 w => ?_
      rw [← e1] at w
      walk_at "go"
      exact q _ _ _ (by walk_at "w")
-- Shelf.__init__
theorem ok_ShelfX_initX {f : Addr} {fd : FuncData} (F : FunD K "__init__" "Shelf.__init__" (defArgs s_ShelfX_initX) (defBody s_ShelfX_initX) (defScope s_ShelfX_initX) [.int 1] [] f fd) (T : Txt K mg)  : FnOk P w K mg base CX0 1 f fd ["self", "text", "spare"] (S3 (φshinit K)) := by
  refine F.ok sc_ShelfX_initX (fun vs H Q E h => ?_) (fun cdv A outer s H vs Q E hr h => ?_)
  · exact S3.len h
  · match vs, h with
    | [v0, v1, v2], h =>
    have hu := hu_of hr
    refine ⟨_, PSs.nox (pss_cons (psFld (K := K) (pv 0) (pv 2) rfl)
      (pss_cons (psFld (K := K) (pv 0) (pe_lst (pa_cons (pv 1) pa_nil)) rfl)
      (pss_cons (psFld (K := K) (pv 0) (pe_lst pa_nil) rfl)
      (pss_cons (psFld (K := K) (pv 0) (pv 1) rfl)
      (pss_cons (psFld (K := K) (pv 0) pe_int rfl)
      (pss_cons (psFld (K := K) (pv 0) pe_non rfl)
      (pss_one (psFld (K := K) (pv 0) pe_non rfl)))))))), ?_⟩
    rw [show start ["self", "text", "spare"] [v0, v1, v2] = [some v0, some v1, some v2] from rfl]
    have kC := T.k_Shelf
    have k1 := T.na_Shelf_slots
    have k2 := T.na_Shelf_texts
    have k3 := T.na_Shelf_ways
    have k4 := T.na_Shelf_now
    have k5 := T.na_Shelf_stand
    have k6 := T.na_Shelf_goal
    have k7 := T.na_Shelf_runner
    
    obtain ⟨F, c, dx, t, slots, rfl, rfl, rfl, s0, okt, htl, q⟩ := h
    have w := s0.w (M := [c])
    walk_at "go"
    refine n_sfld w (by walk_at "pick") kC k1 (by show (0 : Nat) < 1000; decide) fun H2 w => ?_
    walk_at "go"
    refine n_lst w (szle (by simp)) fun pt F1 H1 w hpt => ?_
    walk_at "go"
    refine n_sfld w (by walk_at "pick") kC k2 (by show (1 : Nat) < 1000; decide) fun H2 w => ?_
    walk_at "go"
    refine n_lst w (szle (by simp)) fun pw F1 H1 w hpw => ?_
    walk_at "go"
    refine n_sfld w (by walk_at "pick") kC k3 (by show (2 : Nat) < 1000; decide) fun H2 w => ?_
    walk_at "go"
    refine n_sfld w (by walk_at "pick") kC k4 (by show (3 : Nat) < 1000; decide) fun H2 w => ?_
    walk_at "go"
    refine n_sfld w (by walk_at "pick") kC k5 (by show (4 : Nat) < 1000; decide) fun H2 w => ?_
    walk_at "go"
    refine n_sfld w (by walk_at "pick") kC k6 (by show (5 : Nat) < 1000; decide) fun H2 w => ?_
    walk_at "go"
    refine n_sfld w (by walk_at "pick") kC k7 (by show (6 : Nat) < 1000; decide) fun H2 w => ?_
    replace w := (w.push (chs K [] [t] []) chs_nil).push (phO none) trivial
    refine q ⟨c, dx, pt, pw⟩ _ _ rfl (W.clsS (txs := [t]) (rss := []) (ph := none) (w.to (by walk_at "pick")) runV_none) fun x hx => ?_
    rcases List.mem_cons.mp hx with rfl | hx
    · exact hpt
    · rw [List.mem_singleton.mp hx]; exact hpw
-- Shelf.take!
theorem ok_Shelf_take_r {f : Addr} {fd : FuncData} (F : FunD K "take" "Shelf.take" (defArgs s_Shelf_take_r) (defBody s_Shelf_take_r) (defScope s_Shelf_take_r) [] [] f fd) (T : Txt K mg) (D_plainest : DO P w K mg base 4 "plainest" ["change"] [] (S1 (φplainest K))) (DM_Change_done : DM P w K mg base 2 "Change" "done" ["self", "old"] [] (S2 (φdoneC K))) : FnOk P w K mg base (L2N.CX P w) 6 f fd ["self", "change"] (SX2 (φtakeX K)) := by
  refine F.ok sc_Shelf_take_r (fun vs H Q E h => ?_) (fun cdv A outer s H vs Q E hr h => ?_)
  · exact SX2.len h
  · match vs, h with
    | [v0, v1], h =>
    have hu := hu_of hr
    refine ⟨_, (pss_cons (ps_if (PT.nox (pt_cmpR op_ne (peFld (K := K) (pv 1)) (pe_callB clLenS (by rfl) T.b_len (by decide +kernel) (pa_cons (pe_ix (ixL (K := K)) (peFld (K := K) (pv 0)) (pe_un un_neg pe_int) (fun _ _ => rfl)) pa_nil)) (nomark _))) (pss_one (ps_raiseON T.e_BadSize (L2N.takes_of rfl rfl rfl rfl) rfl)) pss_nil)
      (pss_cons (PS.nox (ps_expr (peBM (K := K) PySem.F.plainAttrs_list PySem.F.slot_list_append PySem.F.type_list_append mt_append (peFld (K := K) (pv 0)) (pa_cons (pmeth DM_Change_done hr (pv 1) (pa_cons (pe_ix (ixL (K := K)) (peFld (K := K) (pv 0)) (pe_un un_neg pe_int) (fun _ _ => rfl)) pa_nil)) pa_nil))))
      (pss_cons (PS.nox (ps_expr (peBM (K := K) PySem.F.plainAttrs_list PySem.F.slot_list_append PySem.F.type_list_append mt_append (peFld (K := K) (pv 0)) (pa_cons (pcall D_plainest hr (pa_cons (pv 1) pa_nil)) pa_nil))))
      (pss_one (PS.nox (ps_ret (pe_callB (clLenQ (K := K)) (by rfl) T.b_len (by decide +kernel) (pa_cons (peFld (K := K) (pv 0)) pa_nil)))))))), ?_⟩
    rw [show start ["self", "change"] [v0, v1] = [some v0, some v1] from rfl]
    have kC := T.k_Shelf
    have k1 := T.na_Shelf_slots
    have k2 := T.na_Shelf_texts
    have k3 := T.na_Shelf_ways
    have k4 := T.na_Shelf_now
    have k5 := T.na_Shelf_stand
    have k6 := T.na_Shelf_goal
    have k7 := T.na_Shelf_runner
    have kD := T.k_Change
    have d1 := T.na_Change_size
    have d2 := T.na_Change_rows
    
    obtain ⟨F, a, S, n, rows, t, rfl, s0, hC, hok, hn, hS, hl, ht, q1, q2⟩ := h
    have hC0 := hC
    obtain ⟨c2, dx2, r2, vs2, rfl, hc2, hr2, hD2⟩ := hC
    obtain ⟨vs, rv, hrv, hvl, w⟩ := (shw s0).opnS
    unfold shO at w
    replace w := (w.push (chg K (.ref c2) n rows) hC0).push (fx c2 _) hc2
    unfold insC at w
    have hch := hS.ch
    have hlt := hch.len
    have htl := (hch.ok _ t ht)
    walk_at "go"
    refine w_ixL _ _ (by walk_at "sq") (atI_neg1 (last_txt hch ht)) ?_
    walk_at "go"
    by_cases h1 : n = t.length
    · subst h1
      rw [decide_eq_true (show ((t.length : Nat) : Int) = ((t.length : Nat) : Int) from rfl)]
      walk_at "go"
      refine w_ixL _ _ (by walk_at "sq") (atI_neg1 (last_txt hch ht)) ?_
      walk_at "go"
      refine ⟨_, t, rows, rfl, w.fh, w.i (chg K (.ref c2) t.length rows) (by walk_at "mem"), hok, htl.1, hn, fun u F2 H2 w2 hu oku => ?_⟩
      replace w := w.cal .nil w2 (by walk_at "app")
      walk_at "go"
      refine n_app w (by walk_at "pick") (small_lt (by rw [List.length_map]; omega)) fun H3 w => ?_
      walk_at "go"
      refine ⟨_, t.length, rows, w.fh, w.i (chg K (.ref c2) t.length rows) (by walk_at "mem"), hok, htl.2, fun v F4 H4 w4 => ?_⟩
      replace w := w.cal .nil w4 (by walk_at "app")
      walk_at "go"
      refine n_app w (by walk_at "pick") (small_lt (by omega)) fun H5 w => ?_
      walk_at "go"
      rw [show S.txs.map V.str ++ [V.str u] = (S.txs ++ [u]).map V.str by rw [List.map_append]; rfl] at w
      replace w := w.push (chs K (vs ++ [v]) (S.txs ++ [u]) (S.rss ++ [plainL (celsL rows)])) (chs_snoc (w.i (chs K vs S.txs S.rss) (by walk_at "mem")) hlt ht (w.i (chg K v t.length (plainL (celsL rows))) (by walk_at "mem")))
      rw [show (((vs ++ [v]).length : Nat) : Int) = ((S.rss.length + 1 : Nat) : Int) by rw [List.length_append, hvl]; rfl]
      exact q1 rfl u _ _ (W.clsS (txs := S.txs ++ [u]) (rss := S.rss ++ [plainL (celsL rows)]) (w.to (by walk_at "pick")) hrv) hu oku
    · rw [decide_eq_false (show ¬ ((n : Nat) : Int) = ((t.length : Nat) : Int) by omega)]
      walk_at "go"
      exact q2 h1 _ _ (W.clsS (w.to (by walk_at "pick")) hrv)
-- Shelf.need_version
theorem ok_Shelf_need_version {f : Addr} {fd : FuncData} (F : FunD K "need_version" "Shelf.need_version" (defArgs s_Shelf_need_version) (defBody s_Shelf_need_version) (defScope s_Shelf_need_version) [] [] f fd) (T : Txt K mg)  : FnOk P w K mg base CX0 1 f fd ["self", "version"] (S2 (φneed K)) := by
  refine F.ok sc_Shelf_need_version (fun vs H Q E h => ?_) (fun cdv A outer s H vs Q E hr h => ?_)
  · exact S2.len h
  · match vs, h with
    | [v0, v1], h =>
    have hu := hu_of hr
    refine ⟨_, PSs.nox (pss_one (ps_if (PW.pt (pw_or (pt_cmpR op_lt (pv 1) pe_int (nomark _)) (pw_or1 (pt_cmpR op_ge (pv 1) (pe_callB (clLenQ (K := K)) (by rfl) T.b_len (by decide +kernel) (pa_cons (peFld (K := K) (pv 0)) pa_nil)) (nomark _))))) (pss_one ps_none) pss_nil)), ?_⟩
    rw [show start ["self", "version"] [v0, v1] = [some v0, some v1] from rfl]
    have kC := T.k_Shelf
    have k1 := T.na_Shelf_slots
    have k2 := T.na_Shelf_texts
    have k3 := T.na_Shelf_ways
    have k4 := T.na_Shelf_now
    have k5 := T.na_Shelf_stand
    have k6 := T.na_Shelf_goal
    have k7 := T.na_Shelf_runner
    
    obtain ⟨F, a, S, i, rfl, rfl, s0, hi, hn, q⟩ := h
    obtain ⟨vs, rv, hrv, hvl, w⟩ := (shw s0).opnS
    unfold shO at w
    walk_at "go"
    refine w_iteF (by omega) ?_
    walk_at "go"
    rw [List.length_map]
    refine w_iteF (by omega) ?_
    walk_at "go"
    exact q _ _ (W.clsS (w.to (by walk_at "pick")) hrv)
-- Shelf.between
theorem ok_Shelf_between {f : Addr} {fd : FuncData} (F : FunD K "between" "Shelf.between" (defArgs s_Shelf_between) (defBody s_Shelf_between) (defScope s_Shelf_between) [] [] f fd) (T : Txt K mg) (D_behind : DO P w K mg base 4 "behind" ["first", "second"] [] (S2 (φbehind K))) (D_whole_copy : DO P w K mg base 4 "whole_copy" ["size"] [] (S1 (φwhole_copy K))) (DM_Shelf_need_version : DM P w K mg base 1 "Shelf" "need_version" ["self", "version"] [] (S2 (φneed K))) : FnOk P w K mg base CX0 5 f fd ["self", "first", "last"] (S3 (φbetweenF K)) := by
  refine F.ok sc_Shelf_between (fun vs H Q E h => ?_) (fun cdv A outer s H vs Q E hr h => ?_)
  · exact S3.len h
  · match vs, h with
    | [v0, v1, v2], h =>
    have hu := hu_of hr
    refine ⟨_, PSs.nox (pss_cons (ps_expr (pmeth DM_Shelf_need_version hr (pv 0) (pa_cons (pv 1) pa_nil)))
      (pss_cons (ps_expr (pmeth DM_Shelf_need_version hr (pv 0) (pa_cons (pv 2) pa_nil)))
      (pss_cons (ps_if (pt_cmpR op_lt (pv 2) (pv 1) (nomark _)) (pss_one ps_none) pss_nil)
      (pss_cons (ps_set (i := 3) sc_Shelf_between.nd rfl (.inl rfl) (pcall D_whole_copy hr (pa_cons (pe_callB clLenS (by rfl) T.b_len (by decide +kernel) (pa_cons (pe_ix (ixL (K := K)) (peFld (K := K) (pv 0)) (pv 1) (fun _ _ => rfl)) pa_nil)) pa_nil)))
      (pss_cons (ps_for PassesOwn.never rfl (pi_list (pe_slice (slL (K := K)) (peFld (K := K) (pv 0)) (po_some (pv 1)) (po_some (pv 2)))) (pg_name (i := 4) sc_Shelf_between.nd rfl (.inl rfl)) (pss_one (ps_set (i := 3) sc_Shelf_between.nd rfl (.inl rfl) (pcall D_behind hr (pa_cons (pv 3) (pa_cons (pv 4) pa_nil))))))
      (pss_one (ps_ret (pv 3)))))))), ?_⟩
    rw [show start ["self", "first", "last", "found", "way"] [v0, v1, v2] = [some v0, some v1, some v2, none, none] from rfl]
    have kC := T.k_Shelf
    have k1 := T.na_Shelf_slots
    have k2 := T.na_Shelf_texts
    have k3 := T.na_Shelf_ways
    have k4 := T.na_Shelf_now
    have k5 := T.na_Shelf_stand
    have k6 := T.na_Shelf_goal
    have k7 := T.na_Shelf_runner
    have kD := T.k_Change
    have d1 := T.na_Change_size
    have d2 := T.na_Change_rows
    
    obtain ⟨F, a, S, i, j, ti, rfl, rfl, rfl, s0, hS, hij, hj, hti, q⟩ := h
    have w := shw s0
    have hl := hS.ch.len
    have hn := hS.n
    have lti := (hS.ch.ok i ti hti).2
    walk_at "go"
    refine n_methS w (by walk_at "mem") (fun _ _ _ _ _ => rfl) ?_
    walk_at "go"
    refine ⟨_, a, S, i, rfl, rfl, w.st (by walk_at "pick"), by omega, by omega, fun F2 H2 w2 => ?_⟩
    replace w := w.cal (D := [shf K a S]) (by walk_at "pick") w2 (by walk_at "app") ads_shf
    walk_at "go"
    refine n_methS w (by walk_at "mem") (fun _ _ _ _ _ => rfl) ?_
    walk_at "go"
    refine ⟨_, a, S, j, rfl, rfl, w.st (by walk_at "pick"), by omega, by omega, fun F2 H2 w2 => ?_⟩
    replace w := w.cal (D := [shf K a S]) (by walk_at "pick") w2 (by walk_at "app") ads_shf
    walk_at "go"
    refine w_iteF (by omega) ?_
    walk_at "go"
    obtain ⟨vs, rv, hrv, hvl, w⟩ := w.opnS
    unfold shO at w
    have eti : (S.txs.map V.str)[i]? = some (.str ti) := by rw [List.getElem?_map, hti]; rfl
    walk_at "go"
    refine w_ixL _ _ (by walk_at "sq") (atI_nat eti) ?_
    walk_at "go"
    refine ⟨_, ti.length, rfl, w.fh, lti, fun v F3 H3 w3 => ?_⟩
    replace w := w.cal .nil w3 (by walk_at "app")
    walk_at "go"
    refine n_slL w (by walk_at "sq") fun p F4 H4 w hp => ?_
    rw [cut_nat, ← ids_plain, ← cellsB_same (S := S) (i := i)] at w
    walk_at "go"
    refine n_forL ((vs.drop i).take (j - i)) w (fun k σ L => ∃ v y2, σ = [some (.ref a.c), some (.int (i : Nat)), some (.int (j : Nat)), some v, y2] ∧ L = [chg K v ti.length (plainL (cellsB S i (i + k) ti.length)), mu p (.lst ((vs.drop i).take (j - i))), R.mu a.c (shO K a S.slots S.stand S.now (goalV S.ph) rv), R.mu a.pt (.lst (S.txs.map V.str)), R.mu a.pw (.lst vs), chs K vs S.txs S.rss, phO S.ph]) ⟨v, none, rfl, rfl⟩ (fun k σ L F' H' hp w => ?_) (fun k x σ L F' H' hx hp w => ?_) (fun σ L F' H' hp w => ?_)
    · obtain ⟨v, y2, rfl, rfl⟩ := hp
      walk_at "sq"
    · obtain ⟨v, y2, rfl, rfl⟩ := hp
      have hkl := (List.getElem?_eq_some_iff.mp hx).1
      rw [List.length_take, List.length_drop] at hkl
      rw [List.getElem?_take, if_pos (by omega), List.getElem?_drop] at hx
      obtain ⟨r, hr⟩ : ∃ r, S.rss[i + k]? = some r := ⟨_, List.getElem?_eq_getElem (by omega)⟩
      obtain ⟨t, ht⟩ := chain_get hS.ch (i := i + k) (by omega)
      obtain ⟨u, hu⟩ := chain_get hS.ch (i := i + k + 1) (by omega)
      obtain ⟨okr, mr⟩ := hS.ch.st (i + k) t u r ht hr hu
      obtain ⟨a1, a2, a3⟩ := hS.mid (by omega) hti ht
      have lt := (hS.ch.ok _ t ht).2
      have e2 := cellsB_succ (S := S) (n := ti.length) (show i ≤ i + k by omega) hr
      obtain ⟨C, eC⟩ : ∃ C, C = cellsB S i (i + k) ti.length := ⟨_, rfl⟩
      rw [← eC] at a1 a2 w e2
      have gv : givesL (plainL C) = t.length := by rw [← cels_len, plain_cels, a2]
      walk_at "go"
      refine ⟨_, ti.length, plainL C, r, w.fh, w.i (chg K v ti.length (plainL C)) (by walk_at "mem"), by rw [gv]; exact (show ChgAll K _ vs S.txs S.rss from w.i (chs K vs S.txs S.rss) (by walk_at "mem")).2 (i + k) x t r hx ht hr, plain_ok a1 (by omega), by rw [gv]; exact okr, by omega, fun v2 F6 H6 w2 => ?_⟩
      replace w := w.cal .nil w2 (by walk_at "app")
      rw [plain_cels, ← e2] at w
      walk_at "go"
      exact nx_mk w ⟨v2, _, rfl, rfl⟩ (by walk_at "pk")
    · obtain ⟨v, y2, rfl, rfl⟩ := hp
      rw [show i + ((vs.drop i).take (j - i)).length = j by rw [List.length_take, List.length_drop]; omega] at w
      walk_at "go"
      exact q _ _ _ ((W.clsS (L := [chg K v ti.length (plainL (cellsB S i j ti.length))]) (w.to (by walk_at "pick")) hrv).to (by walk_at "pick"))
-- Shelf.at
theorem ok_Shelf_at {f : Addr} {fd : FuncData} (F : FunD K "at" "Shelf.at" (defArgs s_Shelf_at) (defBody s_Shelf_at) (defScope s_Shelf_at) [] [] f fd) (T : Txt K mg)  : FnOk P w K mg base CX0 1 f fd ["self"] (S1 (φat K)) := by
  refine F.ok sc_Shelf_at (fun vs H Q E h => ?_) (fun cdv A outer s H vs Q E hr h => ?_)
  · exact S1.len h
  · match vs, h with
    | [v0], h =>
    have hu := hu_of hr
    refine ⟨_, PSs.nox (pss_one (ps_ret (pe_ifExp (pt_cmp (pc_isN (peFld (K := K) (pv 0))) (by rfl)) (peFld (K := K) (pv 0)) pe_non))), ?_⟩
    rw [show start ["self"] [v0] = [some v0] from rfl]
    have kC := T.k_Shelf
    have k1 := T.na_Shelf_slots
    have k2 := T.na_Shelf_texts
    have k3 := T.na_Shelf_ways
    have k4 := T.na_Shelf_now
    have k5 := T.na_Shelf_stand
    have k6 := T.na_Shelf_goal
    have k7 := T.na_Shelf_runner
    
    obtain ⟨F, a, S, rfl, s0, q⟩ := h
    obtain ⟨vs, rv, hrv, hvl, w⟩ := (shw s0).opnS
    unfold shO at w
    obtain ⟨slots, txs, rss, now, stand, ph⟩ := S
    cases ph with
    | none =>
      dsimp only [goalV, phO] at w
      walk_at "go"
      exact q _ _ (W.clsS (w.to (by walk_at "pick")) hrv)
    | some r =>
      dsimp only [goalV, phO] at w
      walk_at "go"
      refine w_iteF (fun z => nomatch z) ?_
      walk_at "go"
      exact q _ _ (W.clsS (ph := some r) (w.to (by walk_at "pick")) hrv)
-- Shelf.text
theorem ok_Shelf_text {f : Addr} {fd : FuncData} (F : FunD K "text" "Shelf.text" (defArgs s_Shelf_text) (defBody s_Shelf_text) (defScope s_Shelf_text) [] [] f fd) (T : Txt K mg)  : FnOk P w K mg base CX0 1 f fd ["self"] (S1 (φshtext K)) := by
  refine F.ok sc_Shelf_text (fun vs H Q E h => ?_) (fun cdv A outer s H vs Q E hr h => ?_)
  · exact S1.len h
  · match vs, h with
    | [v0], h =>
    have hu := hu_of hr
    refine ⟨_, PSs.nox (pss_cons (ps_if (pt_cmp (pc_notN (peFld (K := K) (pv 0))) (by rfl)) (pss_one ps_none) pss_nil)
      (pss_one (ps_ret (peFld (K := K) (pv 0))))), ?_⟩
    rw [show start ["self"] [v0] = [some v0] from rfl]
    have kC := T.k_Shelf
    have k1 := T.na_Shelf_slots
    have k2 := T.na_Shelf_texts
    have k3 := T.na_Shelf_ways
    have k4 := T.na_Shelf_now
    have k5 := T.na_Shelf_stand
    have k6 := T.na_Shelf_goal
    have k7 := T.na_Shelf_runner
    
    obtain ⟨F, a, S, rfl, s0, hp, q⟩ := h
    obtain ⟨vs, rv, hrv, hvl, w⟩ := (shw s0).opnS
    unfold shO at w
    obtain ⟨slots, txs, rss, now, stand, ph⟩ := S
    cases ph with
    | some r => cases hp
    | none =>
      dsimp only [goalV, phO] at w
      walk_at "go"
      exact q _ _ (W.clsS (w.to (by walk_at "pick")) hrv)
-- Shelf.drop!
theorem ok_Shelf_drop_r {f : Addr} {fd : FuncData} (F : FunD K "drop" "Shelf.drop" (defArgs s_Shelf_drop_r) (defBody s_Shelf_drop_r) (defScope s_Shelf_drop_r) [] [] f fd) (T : Txt K mg)  : FnOk P w K mg base (L2N.CX P w) 2 f fd ["self"] (SX1 (φdropX K)) := by
  refine F.ok sc_Shelf_drop_r (fun vs H Q E h => ?_) (fun cdv A outer s H vs Q E hr h => ?_)
  · exact SX1.len h
  · match vs, h with
    | [v0], h =>
    have hu := hu_of hr
    refine ⟨_, (pss_cons (ps_if (PT.nox (pt_cmp (pc_notN (peFld (K := K) (pv 0))) (by rfl))) (pss_one (ps_raiseBN PySem.F.excBase_RuntimeError T.eb_Busy (L2N.takes_of rfl rfl rfl rfl) rfl)) pss_nil)
      (pss_cons (ps_if (PT.nox (pt_cmpR op_eq (peFld (K := K) (pv 0)) (pe_callB (clLenQ (K := K)) (by rfl) T.b_len (by decide +kernel) (pa_cons (peFld (K := K) (pv 0)) pa_nil)) (nomark _))) (pss_one (ps_raiseKN PySem.F.excBase_LookupError kb_KeyError T.eb_NoVersion (L2N.takes_of rfl rfl rfl rfl) rfl)) pss_nil)
      (pss_cons (PS.nox (ps_expr (peBM0 (K := K) PySem.F.plainAttrs_list PySem.F.slot_list_pop PySem.F.type_list_pop mt_pop (peFld (K := K) (pv 0)))))
      (pss_one (PS.nox (ps_expr (peBM0 (K := K) PySem.F.plainAttrs_list PySem.F.slot_list_pop PySem.F.type_list_pop mt_pop (peFld (K := K) (pv 0))))))))), ?_⟩
    rw [show start ["self"] [v0] = [some v0] from rfl]
    have kC := T.k_Shelf
    have k1 := T.na_Shelf_slots
    have k2 := T.na_Shelf_texts
    have k3 := T.na_Shelf_ways
    have k4 := T.na_Shelf_now
    have k5 := T.na_Shelf_stand
    have k6 := T.na_Shelf_goal
    have k7 := T.na_Shelf_runner
    
    obtain ⟨F, a, S, rfl, s0, hS, q1, q2, q3⟩ := h
    obtain ⟨vs, rv, hrv, hvl, w⟩ := (shw s0).opnS
    unfold shO at w
    obtain ⟨slots, txs, rss, now, stand, ph⟩ := S
    cases ph with
    | some r =>
      dsimp only [goalV, phO] at w
      walk_at "go"
      rw [show decide (V.int (r.goal : Nat) = V.non) = false from decide_eq_false fun z => nomatch z]
      walk_at "go"
      exact q3 (fun z => nomatch z) _ _ (W.clsS (ph := some r) (w.to (by walk_at "pick")) hrv)
    | none =>
      dsimp only [goalV, phO] at w
      walk_at "go"
      have hch := hS.ch
      have hlt := hS.lt
      dsimp only at hch hlt hvl q1 q2
      by_cases h1 : stand = rss.length
      · rw [decide_eq_true (show ((stand : Nat) : Int) = ((vs.length : Nat) : Int) by omega)]
        walk_at "go"
        exact q2 rfl h1 _ _ (W.clsS (w.to (by walk_at "pick")) hrv)
      · rw [decide_eq_false (show ¬ ((stand : Nat) : Int) = ((vs.length : Nat) : Int) by omega)]
        walk_at "go"
        have hl := hch.len
        obtain ⟨tx, tl, rfl⟩ := snoc_of (show 0 < txs.length by omega)
        obtain ⟨vx, vl, rfl⟩ := snoc_of (show 0 < vs.length by omega)
        replace w := w.push (chs K (vx ++ [vl]).dropLast (tx ++ [tl]).dropLast rss.dropLast) (chs_del (w.i (chs K (vx ++ [vl]) (tx ++ [tl]) rss) (by walk_at "mem")))
        rw [show (tx ++ [tl]).map V.str = tx.map V.str ++ [V.str tl] by rw [List.map_append]; rfl] at w
        refine n_pop w (by walk_at "pick") fun H2 w => ?_
        walk_at "go"
        refine n_pop w (by walk_at "pick") fun H3 w => ?_
        walk_at "go"
        unfold ShS.del at q1
        dsimp only at q1
        rw [List.dropLast_concat] at w q1
        rw [List.dropLast_concat] at w
        exact q1 rfl h1 _ _ (W.clsS (txs := tx) (rss := rss.dropLast) (ph := none) (w.to (by walk_at "pick")) hrv)
-- Shelf.versions
theorem ok_Shelf_versions {f : Addr} {fd : FuncData} (F : FunD K "versions" "Shelf.versions" (defArgs s_Shelf_versions) (defBody s_Shelf_versions) (defScope s_Shelf_versions) [] [] f fd) (T : Txt K mg)  : FnOk P w K mg base CX0 1 f fd ["self"] (S1 (φversions K)) := by
  refine F.ok sc_Shelf_versions (fun vs H Q E h => ?_) (fun cdv A outer s H vs Q E hr h => ?_)
  · exact S1.len h
  · match vs, h with
    | [v0], h =>
    have hu := hu_of hr
    refine ⟨_, PSs.nox (pss_one (ps_ret (pe_callB (clLenQ (K := K)) (by rfl) T.b_len (by decide +kernel) (pa_cons (peFld (K := K) (pv 0)) pa_nil)))), ?_⟩
    rw [show start ["self"] [v0] = [some v0] from rfl]
    have kC := T.k_Shelf
    have k1 := T.na_Shelf_slots
    have k2 := T.na_Shelf_texts
    have k3 := T.na_Shelf_ways
    have k4 := T.na_Shelf_now
    have k5 := T.na_Shelf_stand
    have k6 := T.na_Shelf_goal
    have k7 := T.na_Shelf_runner
    
    obtain ⟨F, a, S, rfl, s0, hn, q⟩ := h
    obtain ⟨vs, rv, hrv, hvl, w⟩ := (shw s0).opnS
    unfold shO at w
    walk_at "go"
    rw [List.length_map]
    exact q _ _ (W.clsS (w.to (by walk_at "pick")) hrv)
-- _law_bag
theorem ok_law_bag {f : Addr} {fd : FuncData} (F : FunD K "_law_bag" "_law_bag" (defArgs s_law_bag) (defBody s_law_bag) (defScope s_law_bag) [] [] f fd) (T : Txt K mg)  : FnOk P w K mg base CX0 1 f fd ["script"] (S1 (φbag K)) := by
  refine F.ok sc_law_bag (fun vs H Q E h => ?_) (fun cdv A outer s H vs Q E hr h => ?_)
  · exact S1.len h
  · match vs, h with
    | [v0], h =>
    have hu := hu_of hr
    refine ⟨_, PSs.nox (pss_cons (ps_set (i := 1) sc_law_bag.nd rfl (.inl rfl) pe_int)
      (pss_cons (ps_for PassesOwn.never rfl (pi_list (pe_slice (slL (K := K)) (pv 0) po_none (po_some pe_int))) (pg_name (i := 2) sc_law_bag.nd rfl (.inl rfl)) (pss_one (ps_set (i := 1) sc_law_bag.nd rfl (.inl rfl) (pe_op op_mod (pe_op op_add (pe_op op_add (pe_op op_mul (pv 1) pe_int) (pe_op op_mod (pv 2) pe_int)) pe_int) pe_int))))
      (pss_one (ps_ret (pe_lst (pa_cons (pe_lc (own := [("cell", 2)]) (g := gName 2) rfl sc_law_bag.nd (pi_list (pe_slice (slL (K := K)) (pv 0) po_none (po_some pe_int))) (blkOk_by (own := [("cell", 2)]) (N := ["script", "stir", "cell"]) (sc := defScope s_law_bag) (by decide +kernel)) (fun _ _ _ _ _ => pg_name (i := 2) sc_law_bag.nd rfl (Or.inl rfl)) (fun _ _ _ _ _ => pts_nil) (fun _ _ _ _ _ => (pe_op op_mod (pe_callB clAbs (by rfl) T.b_abs (by decide +kernel) (pa_cons (pv 2) pa_nil)) (pe_op op_pow pe_int pe_int)))) (pa_cons pe_int (pa_cons pe_int (pa_cons (pv 1) (pa_cons pe_int pa_nil)))))))))), ?_⟩
    rw [show start ["script", "stir", "cell"] [v0] = [some v0, none, none] from rfl]
    obtain ⟨a, ns, rfl, hS, hl, q⟩ := h
    walk_at "og"
    intro l nl
    rw [cut63 hl]
    refine ⟨l, rfl, ⟨_, sqL_of upd_same⟩, f_list (xs := ns.map V.int) (fun i σ H' => ∃ (st : Int) (y : Option V), σ = [some (.ref a), some (.int st), y] ∧ 0 ≤ st ∧ st < 2147483647 ∧ H' = upd H l (.lst (ns.map V.int))) ⟨19, none, rfl, by decide, by decide, rfl⟩ (fun i σ H' _ hp => ?_) (fun i x σ H' hx hp => ?_) (fun σ H' hp => ?_)⟩
    · obtain ⟨st, y, _, _, _, rfl⟩ := hp
      exact sqL_of upd_same
    · obtain ⟨st, y, rfl, s0, s1, rfl⟩ := hp
      obtain ⟨z, rfl⟩ := map_get hx
      walk_at "og"
      exact ⟨_, _, rfl, mod_nn (by decide), mod_lt (by decide), rfl⟩
    · obtain ⟨st, y, rfl, s0, s1, rfl⟩ := hp
      have hS2 : SqL K (upd H l (.lst (ns.map V.int))) a (ns.map V.int) := sqL_same (Same.new nl) hS
      walk_at "og"
      intro l2 nl2
      rw [cut63 hl]
      have g0 : Gr [] H H H (upd H l (.lst (ns.map V.int))) := .new (Same.refl H) nl
      have g1 := g0.add (o := .lst (ns.map V.int)) nl2
      refine ⟨l2, rfl, ⟨_, sqL_of upd_same⟩, fun D nD => ?_⟩
      have g2 := g1.addm (o := .lst []) nD
      refine lc_list (xs := ns.map V.int) (fun i H' => ∃ vs : List Int, Gr [] H H (upd H l2 (.lst (ns.map V.int))) H' ∧ Mu (upd H l2 (.lst (ns.map V.int))) H' D (.lst (vs.map V.int)) ∧ (∀ x ∈ vs, 0 ≤ x ∧ x < 10 ^ 60) ∧ vs.length = i) ⟨[], g2, Mu.new g1.fh nD, by simp, rfl⟩ (fun i H' _ hp => ?_) (fun i x H' hx hp => ?_) (fun H' hp => ?_)
      · obtain ⟨vs, g, _⟩ := hp
        exact sqL_same g.fh (sqL_of upd_same)
      · obtain ⟨vs, g, mu, hv, hn⟩ := hp
        obtain ⟨z, rfl⟩ := map_get hx
        have hi : i < ns.length := by
          have := (List.getElem?_eq_some_iff.mp hx).1
          rwa [List.length_map] at this
        show gName 2 _ [some (.ref a), some (.int st), none] H' _
        walk_at "og"
        refine ⟨rfl, ?_⟩
        walk_at "og"
        refine ⟨_, mu.h, small1000 (by rw [List.length_map]; omega), vs ++ [_], g.wrn mu.n (g1.fresh nD), by rw [List.map_append]; exact mu.wr, ?_, by simp [hn]⟩
        intro x hx
        rcases List.mem_append.mp hx with hx | hx
        · exact hv x hx
        · rw [List.mem_singleton.mp hx]
          exact ⟨mod_nn (by decide), mod_lt (by decide)⟩
      · obtain ⟨vs, g, mu, hv, hn⟩ := hp
        walk_at "og"
        refine ⟨le1000 (by simp), fun p np => ?_⟩
        have g5 := (g.frz (g1.fresh nD) mu).addm (o := .lst [.ref D, .int 0, .int 0, .int st, .int 0]) np
        refine q p _ _ g5 ⟨D, vs, 0, 0, st, 0, ?_, upd_same, sqL_of upd_same, by rw [hn, List.length_map]; exact hl, hv, by decide, by decide, by decide, s0, s1⟩
        have nF := g.fh.free np
        rw [upd_ne (mu.ne_new np).symm]
        exact nF
-- _law_stirred
theorem ok_law_stirred {f : Addr} {fd : FuncData} (F : FunD K "_law_stirred" "_law_stirred" (defArgs s_law_stirred) (defBody s_law_stirred) (defScope s_law_stirred) [] [] f fd) (T : Txt K mg)  : FnOk P w K mg base CX0 1 f fd ["bag", "many"] (S2 (φdraw K)) := by
  refine F.ok sc_law_stirred (fun vs H Q E h => ?_) (fun cdv A outer s H vs Q E hr h => ?_)
  · exact S2.len h
  · match vs, h with
    | [v0, v1], h =>
    have hu := hu_of hr
    refine ⟨_, PSs.nox (pss_cons (ps_set (i := 2) sc_law_stirred.nd rfl (.inl rfl) pe_int)
      (pss_cons (ps_for PassesOwn.never rfl (pi_range1 rfl T.b_range (pa_cons (pe_op op_add pe_int (pe_op op_fdivW (pe_bits (pv 1)) pe_int)) pa_nil)) (pg_name (i := 3) sc_law_stirred.nd rfl (.inl rfl)) (pss_cons (ps_asg (pe_op op_add (pe_ix (ixL (K := K)) (pv 0) pe_int (fun _ _ => rfl)) pe_int) (pg_sub (pv 0) pe_int set_list))
      (pss_cons (ps_asg (pe_op op_mod (pe_op op_add (pe_op op_add (pe_op op_add (pe_op op_pow (pe_ix (ixL (K := K)) (pv 0) pe_int (fun _ _ => rfl)) pe_int) (pe_op op_mul pe_int (pe_ix (ixL (K := K)) (pv 0) pe_int (fun _ _ => rfl)))) (pe_op op_mul pe_int (pe_ix (ixL (K := K)) (pv 0) pe_int (fun _ _ => rfl)))) pe_int) pe_int) (pg_sub (pv 0) pe_int set_list))
      (pss_one (ps_set (i := 2) sc_law_stirred.nd rfl (.inl rfl) (pe_op op_add (pe_op op_mul (pv 2) pe_int) (pe_op op_fdivW (pe_ix (ixL (K := K)) (pv 0) pe_int (fun _ _ => rfl)) pe_int)))))))
      (pss_one (ps_ret (pe_op op_mod (pv 2) (pv 1)))))), ?_⟩
    rw [show start ["bag", "many", "found", "k"] [v0, v1] = [some v0, some v1, none, none] from rfl]
    obtain ⟨b, m, F, rfl, rfl, hw, hb, h0, h1, q⟩ := h
    have hbits := bits_le h0 h1
    have hb0 : (0 : Int) ≤ (Builtin.Int.intBits m : Nat) := Int.natCast_nonneg _
    have hd0 : (0 : Int) ≤ (Builtin.Int.intBits m : Nat) / 27 := div_nn hb0 (by decide)
    have hd1 : (Builtin.Int.intBits m : Int) / 27 ≤ (Builtin.Int.intBits m : Nat) := div_le' hb0 (by decide)
    walk_at "og"
    refine ⟨_, rfl, by omega, by omega, f_range0 (fun i σ H' => ∃ (f : Int) (y : Option V) (F2 : Hp), σ = [some (.ref b), some (.int m), some (.int f), y] ∧ Gr [b] F H F2 H' ∧ Bag K F2 H' b) ⟨0, none, F, rfl, .refl hw, hb⟩ (fun i σ H' hi hp => ?_) (fun σ H' hp => ?_)⟩
    · obtain ⟨f, y, F2, rfl, g, hB⟩ := hp
      obtain ⟨c, cells, i1, cur, st, n, e1, e2, e3, e4, e5, e6, e7, e8, e9, e10⟩ := hB.ex
      walk_at "og"
      exact ⟨_, _, F2, rfl, (g.put e1 (by simp)).put e1 (by simp), ⟨c, cells, i1, cur, _, _, e1, upd_same, e3, e4, e5, e6, e7, e8, mod_nn (by decide), mod_lt (by decide)⟩⟩
    · obtain ⟨f, y, F2, rfl, g, hB⟩ := hp
      walk_at "og"
      exact q _ F2 H' g hB (mod_nn h0) (mod_lt h0)
-- _law_draw
theorem ok_law_draw {f : Addr} {fd : FuncData} (F : FunD K "_law_draw" "_law_draw" (defArgs s_law_draw) (defBody s_law_draw) (defScope s_law_draw) [] [] f fd) (T : Txt K mg) (D_law_stirred : DO P w K mg base 1 "_law_stirred" ["bag", "many"] [] (S2 (φdraw K))) : FnOk P w K mg base CX0 2 f fd ["bag", "many"] (S2 (φdraw K)) := by
  refine F.ok sc_law_draw (fun vs H Q E h => ?_) (fun cdv A outer s H vs Q E hr h => ?_)
  · exact S2.len h
  · match vs, h with
    | [v0, v1], h =>
    have hu := hu_of hr
    refine ⟨_, PSs.nox (pss_cons (ps_if (PW.pt (pw_and (pt_cmpR op_eq (pe_ix (ixL (K := K)) (pv 0) pe_int (fun _ _ => rfl)) pe_int (nomark _)) (pw_and1 (pt_cmpR op_lt (pe_ix (ixL (K := K)) (pv 0) pe_int (fun _ _ => rfl)) (pe_callB (clLenQ (K := K)) (by rfl) T.b_len (by decide +kernel) (pa_cons (pe_ix (ixL (K := K)) (pv 0) pe_int (fun _ _ => rfl)) pa_nil)) (nomark _))))) (pss_cons (ps_asg (pe_ix (ixL (K := K)) (pe_ix (ixL (K := K)) (pv 0) pe_int (fun _ _ => rfl)) (pe_ix (ixL (K := K)) (pv 0) pe_int (fun _ _ => rfl)) (fun _ _ => rfl)) (pg_sub (pv 0) pe_int set_list))
      (pss_one (ps_asg (pe_op op_add (pe_ix (ixL (K := K)) (pv 0) pe_int (fun _ _ => rfl)) pe_int) (pg_sub (pv 0) pe_int set_list)))) (pss_one (ps_if (pt_cmpR op_eq (pe_ix (ixL (K := K)) (pv 0) pe_int (fun _ _ => rfl)) pe_int (nomark _)) (pss_one (ps_ret (pcall D_law_stirred hr (pa_cons (pv 0) (pa_cons (pv 1) pa_nil))))) pss_nil)))
      (pss_cons (ps_set (i := 2) sc_law_draw.nd rfl (.inl rfl) (pe_op op_mod (pe_ix (ixL (K := K)) (pv 0) pe_int (fun _ _ => rfl)) (pv 1)))
      (pss_cons (ps_asg (pe_op op_fdivW (pe_ix (ixL (K := K)) (pv 0) pe_int (fun _ _ => rfl)) (pv 1)) (pg_sub (pv 0) pe_int set_list))
      (pss_one (ps_ret (pv 2)))))), ?_⟩
    rw [show start ["bag", "many", "found"] [v0, v1] = [some v0, some v1, none] from rfl]
    obtain ⟨b, m, F, rfl, rfl, hw, hb, h0, h1, q⟩ := h
    obtain ⟨c, cells, i1, cur, st, n, e1, e2, e3, e4, e5, e6, e7, e8, e9, e10⟩ := hb.ex
    have e3' := sqL_same hw e3
    have gr := Gr.refl (M := [b]) hw
    walk_at "og"
    refine w_ite (fun hc => ?_) (fun hc => ?_)
    · walk_at "og"
      refine w_ite (fun hd => ?_) (fun hd => ?_)
      · obtain ⟨x, hx, ex⟩ := cell_at e6 hd
        have bx := e5 x hx
        walk_at "og"
        refine w_ixL _ _ e3' ex ?_
        walk_at "og"
        exact q _ F _ (((gr.put e1 (by simp)).put e1 (by simp)).put e1 (by simp)) ⟨c, cells, i1 + 1, x / m, st, n, e1, upd_same, e3, e4, e5, by omega, div_nn bx.1 h0, Int.lt_of_le_of_lt (div_le' bx.1 h0) bx.2, e9, e10⟩ (mod_nn h0) (mod_lt h0)
      · walk_at "og"
        refine w_iteT hc ?_
        walk_at "og"
        exact ⟨b, m, F, rfl, rfl, hw, hb, h0, h1, q⟩
    · walk_at "og"
      refine w_iteF hc ?_
      walk_at "og"
      exact q _ F _ (gr.put e1 (by simp)) ⟨c, cells, i1, cur / m, st, n, e1, upd_same, e3, e4, e5, e6, div_nn e7 h0, Int.lt_of_le_of_lt (div_le' e7 h0) e8, e9, e10⟩ (mod_nn h0) (mod_lt h0)
-- _law_alike
theorem ok_law_alike {f : Addr} {fd : FuncData} (F : FunD K "_law_alike" "_law_alike" (defArgs s_law_alike) (defBody s_law_alike) (defScope s_law_alike) [] [] f fd) (T : Txt K mg) {n : Nat} (D_law_alike : DO P w K mg base n "_law_alike" ["found", "due"] [] (S2 (φalike K n))) : FnOk P w K mg base CX0 (n + 1) f fd ["found", "due"] (S2 (φalike K (n + 1))) := by
  refine F.ok sc_law_alike (fun vs H Q E h => ?_) (fun cdv A outer s H vs Q E hr h => ?_)
  · exact S2.len h
  · match vs, h with
    | [v0, v1], h =>
    have hu := hu_of hr
    refine ⟨_, PSs.nox (pss_cons (ps_if (pt_val (pe_callB (clIsiT (K := K)) (by rfl) T.b_isinstance (by decide +kernel) (pa_cons (pv 1) (pa_cons (pe_tup (pa_cons (pe_bltn (v := .ty "list") (by rfl) T.b_list (by decide +kernel) rfl) (pa_cons (pe_bltn (v := .ty "tuple") (by rfl) T.b_tuple (by decide +kernel) rfl) pa_nil))) pa_nil)))) (pss_cons (ps_if (PW.pt (pw_or (pt_not (pt_val (pe_callB (clIsiT (K := K)) (by rfl) T.b_isinstance (by decide +kernel) (pa_cons (pv 0) (pa_cons (pe_tup (pa_cons (pe_bltn (v := .ty "list") (by rfl) T.b_list (by decide +kernel) rfl) (pa_cons (pe_bltn (v := .ty "tuple") (by rfl) T.b_tuple (by decide +kernel) rfl) pa_nil))) pa_nil))))) (pw_or1 (pt_cmpR op_ne (pe_callB (clIsi (K := K)) (by rfl) T.b_isinstance (by decide +kernel) (pa_cons (pv 0) (pa_cons (pe_bltn (v := .ty "list") (by rfl) T.b_list (by decide +kernel) rfl) pa_nil))) (pe_callB (clIsi (K := K)) (by rfl) T.b_isinstance (by decide +kernel) (pa_cons (pv 1) (pa_cons (pe_bltn (v := .ty "list") (by rfl) T.b_list (by decide +kernel) rfl) pa_nil))) (nomark _))))) (pss_one (ps_ret pe_bl)) pss_nil)
      (pss_cons (ps_if (pt_cmpR op_ne (pe_callB (clLenQ (K := K)) (by rfl) T.b_len (by decide +kernel) (pa_cons (pv 0) pa_nil)) (pe_callB (clLenQ (K := K)) (by rfl) T.b_len (by decide +kernel) (pa_cons (pv 1) pa_nil)) (nomark _)) (pss_one (ps_ret pe_bl)) pss_nil)
      (pss_one (ps_ret (pe_callB (clAll (K := K)) (by rfl) T.b_all (by decide +kernel) (pa_cons (pe_lc (own := [("k", 2)]) (g := gName 2) rfl sc_law_alike.nd (pi_range1 rfl T.b_range (pa_cons (pe_callB (clLenQ (K := K)) (by rfl) T.b_len (by decide +kernel) (pa_cons (pv 1) pa_nil)) pa_nil)) (blkOk_by (own := [("k", 2)]) (N := ["found", "due", "k"]) (sc := defScope s_law_alike) (by decide +kernel)) (fun _ _ _ _ _ => pg_name (i := 2) sc_law_alike.nd rfl (Or.inl rfl)) (fun _ _ _ _ _ => pts_nil) (fun _ _ _ _ _ => (pcall D_law_alike hr (pa_cons (pe_ix (ixQ (K := K)) (pv 0) (pv 2) (fun _ _ => rfl)) (pa_cons (pe_ix (ixQ (K := K)) (pv 1) (pv 2) (fun _ _ => rfl)) pa_nil))))) pa_nil)))))) pss_nil)
      (pss_cons (ps_if (PW.pt (pw_or (pt_cmpR op_ne (pe_callB (clIsi (K := K)) (by rfl) T.b_isinstance (by decide +kernel) (pa_cons (pv 0) (pa_cons (pe_bltn (v := .ty "bool") (by rfl) T.b_bool (by decide +kernel) rfl) pa_nil))) (pe_callB (clIsi (K := K)) (by rfl) T.b_isinstance (by decide +kernel) (pa_cons (pv 1) (pa_cons (pe_bltn (v := .ty "bool") (by rfl) T.b_bool (by decide +kernel) rfl) pa_nil))) (nomark _)) (pw_or1 (pt_cmpR op_ne (pe_callB (clIsi (K := K)) (by rfl) T.b_isinstance (by decide +kernel) (pa_cons (pv 0) (pa_cons (pe_bltn (v := .ty "int") (by rfl) T.b_int (by decide +kernel) rfl) pa_nil))) (pe_callB (clIsi (K := K)) (by rfl) T.b_isinstance (by decide +kernel) (pa_cons (pv 1) (pa_cons (pe_bltn (v := .ty "int") (by rfl) T.b_int (by decide +kernel) rfl) pa_nil))) (nomark _))))) (pss_one (ps_ret pe_bl)) pss_nil)
      (pss_one (ps_ret (pe_and (pe_cmpR op_eq (pe_callB (clIsi (K := K)) (by rfl) T.b_isinstance (by decide +kernel) (pa_cons (pv 0) (pa_cons (pe_bltn (v := .ty "str") (by rfl) T.b_str (by decide +kernel) rfl) pa_nil))) (pe_callB (clIsi (K := K)) (by rfl) T.b_isinstance (by decide +kernel) (pa_cons (pv 1) (pa_cons (pe_bltn (v := .ty "str") (by rfl) T.b_str (by decide +kernel) rfl) pa_nil))) (nomark _)) (pe_one (pe_cmpR op_eq (pv 0) (pv 1) (nomark _)))))))), ?_⟩
    rw [show start ["found", "due", "k"] [v0, v1] = [some v0, some v1, none] from rfl]
    obtain ⟨F, d, hw, hx, hy, hn, hgd, q⟩ := h
    walk_at "og"
    refine ⟨le1000 (by simp), fun p np => ?_⟩
    have g1 : Gr [] F H F (upd H p (.tup [.ty "list", .ty "tuple"])) := .new hw np
    walk_at "og"
    refine u_isiT hy g1.fh upd_same (k_list d) (k_tuple d) ?_
    walk_at "og"
    cases hs : isSeq d with
    | false =>
      have e1 : isLst d = false := by cases d <;> first | rfl | cases hs
      have e2 : isTup d = false := by cases d <;> first | rfl | cases hs
      refine w_is (c := false) (by rw [e1, e2]; rfl) ?_
      obtain ⟨rfl, hsc⟩ := sca_of hx hy hs
      walk_at "og"
      refine u_isi hx g1.fh (k_bool d) ?_
      walk_at "og"
      refine u_isi hy g1.fh (k_bool d) ?_
      walk_at "og"
      refine u_isi hx g1.fh (k_int d) ?_
      walk_at "og"
      refine u_isi hy g1.fh (k_int d) ?_
      walk_at "og"
      refine u_isi hx g1.fh (k_str d) ?_
      walk_at "og"
      refine u_isi hy g1.fh (k_str d) ?_
      walk_at "og"
      refine ⟨hsc, ?_⟩
      rw [decide_eq_true rfl]
      exact q F _ g1
    | true =>
      refine w_is (c := true) (by cases d <;> first | rfl | cases hs) ?_
      obtain ⟨a, vs, rfl, ha, das⟩ := seq_of hx hs
      obtain ⟨b, us, rfl, hb, dbs⟩ := seq_of hy hs
      have hl : (itemsD d).length ≤ 100000 := good_len hgd
      walk_at "og"
      refine ⟨le1000 (by simp), fun p2 np2 => ?_⟩
      have g2 := g1.addm (o := .tup [.ty "list", .ty "tuple"]) np2
      walk_at "og"
      refine u_isiT hx g2.fh upd_same (k_list d) (k_tuple d) ?_
      walk_at "og"
      refine w_is (c := false) (by cases d <;> first | rfl | cases hs) ?_
      walk_at "og"
      refine u_isi hx g2.fh (k_list d) ?_
      walk_at "og"
      refine u_isi hy g2.fh (k_list d) ?_
      walk_at "og"
      refine ⟨a, vs, rfl, sq_same g2.fh ha, ?_⟩
      walk_at "og"
      refine ⟨b, us, rfl, sq_same g2.fh hb, ?_⟩
      walk_at "og"
      have el : vs.length = us.length := (dpa_len das).trans (dpa_len dbs).symm
      have lv : vs.length = (itemsD d).length := dpa_len das
      rw [el]
      refine w_nself ?_
      walk_at "og"
      refine ⟨b, us, rfl, sq_same g2.fh hb, ?_⟩
      walk_at "og"
      refine ⟨_, rfl, by omega, by omega, fun D nD => ?_⟩
      have g3 := g2.addm (o := .lst []) nD
      refine lc_rng (fun i H' => ∃ F2, Gr [] F H F2 H' ∧ Mu F2 H' D (.lst ((List.replicate i true).map V.bl))) ⟨F, g3, Mu.new g2.fh nD⟩ (fun i H' hi hp => ?_) (fun H' hp => ?_)
      · obtain ⟨F2, g, mu⟩ := hp
        have hi' : i < us.length := by omega
        have hid : (itemsD d)[i]? = some (itemsD d)[i] := List.getElem?_eq_getElem (by omega)
        obtain ⟨v, gv, dv⟩ := dpa_get das hid
        obtain ⟨u, gu, du⟩ := dpa_get dbs hid
        have hdep := depth_item hs hid
        show gName 2 _ [some (.ref a), some (.ref b), none] H' _
        walk_at "og"
        refine ⟨rfl, ?_⟩
        walk_at "og"
        have wF : Same F H' := g.ff.trans g.fh
        refine w_ixQ _ _ (sq_same wF ha) (atI_nat gv) ?_
        walk_at "og"
        refine w_ixQ _ _ (sq_same wF hb) (atI_nat gu) ?_
        walk_at "og"
        refine ⟨F2, _, g.fh, dp_same g.ff _ _ dv, dp_same g.ff _ _ du, by omega, good_item hgd hid, fun F3 H3 g3 => ?_⟩
        have mu3 := g3.mu0 mu
        refine ⟨_, mu3.h, small_lt (by rw [List.length_map, List.length_replicate]; omega), F3, (g.trans g3).wrn mu3.n (g2.fresh nD), ?_⟩
        rw [List.replicate_succ', List.map_append]
        exact mu3.wr
      · obtain ⟨F2, g, mu⟩ := hp
        walk_at "og"
        refine ⟨D, _, rfl, mu.sq, ?_⟩
        rw [all_rep]
        exact q F2 H' g
-- _law_text
theorem ok_law_text {f : Addr} {fd : FuncData} (F : FunD K "_law_text" "_law_text" (defArgs s_law_text) (defBody s_law_text) (defScope s_law_text) [] [] f fd) (T : Txt K mg) (D_law_draw : DO P w K mg base 2 "_law_draw" ["bag", "many"] [] (S2 (φdraw K))) : FnOk P w K mg base CX0 3 f fd ["bag", "many"] (S2 (φtextN K)) := by
  refine F.ok sc_law_text (fun vs H Q E h => ?_) (fun cdv A outer s H vs Q E hr h => ?_)
  · exact S2.len h
  · match vs, h with
    | [v0, v1], h =>
    have hu := hu_of hr
    refine ⟨_, PSs.nox (pss_cons (ps_set (i := 2) sc_law_text.nd rfl (.inr rfl) pe_str)
      (C8.pss_cut (ps_if (pt_cmpR op_eq (pcall D_law_draw hr (pa_cons (pv 0) (pa_cons pe_int pa_nil))) pe_int (nomark _)) (pss_one (ps_set (i := 2) sc_law_text.nd rfl (.inr rfl) pe_str)) pss_nil)
      (pss_one (ps_ret (peJoin (K := K) pe_str (pe_lc (own := [("k", 3)]) (g := gName 3) rfl sc_law_text.nd (pi_range1 rfl T.b_range (pa_cons (pv 1) pa_nil)) (blkOk_by (own := [("k", 3)]) (N := ["bag", "many", "signs", "k"]) (sc := defScope s_law_text) (by decide +kernel)) (fun _ _ _ _ _ => pg_name (i := 3) sc_law_text.nd rfl (Or.inl rfl)) (fun _ _ _ _ _ => pts_nil) (fun _ _ _ _ _ => (pe_ix ix_str (pv 2) (pcall D_law_draw hr (pa_cons (pv 0) (pa_cons (pe_callB clLenS (by rfl) T.b_len (by decide +kernel) (pa_cons (pv 2) pa_nil)) pa_nil))) (fun _ _ => rfl))))))))), ?_⟩
    rw [show start ["bag", "many", "signs", "k"] [v0, v1] = [some v0, some v1, none, none] from rfl]
    obtain ⟨F, b, n, rfl, rfl, s0, n0, n1, q⟩ := h
    have w := s0.w (M := [b])
    walk_at "go"
    refine n_cut w (fun σ L => ∃ sg : Str, okS sg ∧ 2 ≤ sg.length ∧ sg.length ≤ 100 ∧ σ = [some (.ref b), some (.int n), some (.str sg), none] ∧ L = [bag K b]) ?_ (fun σ L F' H' hp w => ?_)
    · walk_at "go"
      refine n_draw w (by walk_at "pick") (by decide) (by decide) fun r F1 H1 w r0 r1 => ?_
      walk_at "go"
      refine w_ite (fun h1 => ?_) (fun h1 => ?_)
      · walk_at "go"
        refine nx_mk w ⟨_, ?_, ?_, ?_, rfl, rfl⟩ (by walk_at "pk")
        · decide +kernel
        · decide +kernel
        · decide +kernel
      · walk_at "go"
        refine nx_mk w ⟨_, ?_, ?_, ?_, rfl, rfl⟩ (by walk_at "pk")
        · decide +kernel
        · decide +kernel
        · decide +kernel
    · obtain ⟨sg, oks, l2, l1, rfl, rfl⟩ := hp
      walk_at "go"
      refine n_lcR w (fun i ys L => ∃ zs : List Str, ys = zs.map V.str ∧ zs.length = i ∧ (∀ y ∈ zs, y.length = 1 ∧ okS y) ∧ L = [bag K b]) ⟨[], rfl, rfl, by simp, rfl⟩ (fun i ys L F' H' D hi hp w hD => ?_) (fun D ys L F' H' hp w hD => ?_)
      · obtain ⟨zs, rfl, hz, hy, rfl⟩ := hp
        walk_at "wp"
        walk_at "go"
        refine n_draw w (by walk_at "pick") (by omega) (by omega) fun r F1 H1 w r0 r1 => ?_
        walk_at "go"
        refine w_ixL1 oks rfl (by omega) r0 r1 fun s hs oks => ?_
        refine n_acc _ w ⟨zs ++ [s], by rw [List.map_append]; rfl, by simp [hz], ?_, rfl⟩ (by walk_at "pk") (small_lt (by rw [List.length_map]; omega))
        intro y hy'
        rcases List.mem_append.mp hy' with h | h
        · exact hy y h
        · rw [List.mem_singleton.mp h]
          exact ⟨hs, oks⟩
      · obtain ⟨zs, rfl, hz, hy, rfl⟩ := hp
        refine ⟨_, D, zs, rfl, rfl, .inl (by walk_at "sq"), ?_, ?_⟩
        · rw [sum_ones zs hy]
          show zs.length + zs.length * 0 ≤ 16777216
          omega
        · obtain ⟨j1, j2⟩ := joined zs hy
          exact q _ F' H' (by walk_at "w") (by
            show (((Txt.join ⟨#[]⟩ zs).length : Nat) : Int) = n
            rw [j1, hz]
            omega) j2
-- _law_parts
theorem ok_law_parts {f : Addr} {fd : FuncData} (F : FunD K "_law_parts" "_law_parts" (defArgs s_law_parts) (defBody s_law_parts) (defScope s_law_parts) [] [] f fd) (T : Txt K mg) (D_law_draw : DO P w K mg base 2 "_law_draw" ["bag", "many"] [] (S2 (φdraw K))) : FnOk P w K mg base CX0 4 f fd ["bag", "size"] (S2 (φparts61 K)) := by
  refine F.ok sc_law_parts (fun vs H Q E h => ?_) (fun cdv A outer s H vs Q E hr h => ?_)
  · exact S2.len h
  · match vs, h with
    | [v0, v1], h =>
    have hu := hu_of hr
    refine ⟨_, PSs.nox (pss_cons (ps_set (i := 2) sc_law_parts.nd rfl (.inr rfl) (pe_callB (clSortS (w := w)) (by rfl) T.b_sorted (by decide +kernel) (pa_cons (pe_callTy (clSetL (K := K) (w := w)) (by rfl) T.b_set (by decide +kernel) (pa_cons (pe_op op_cat (pe_lc (own := [("k", 4)]) (g := gName 4) rfl sc_law_parts.nd (pi_range1 rfl T.b_range (pa_cons (pcall D_law_draw hr (pa_cons (pv 0) (pa_cons pe_int pa_nil))) pa_nil)) (blkOk_by (own := [("k", 4)]) (N := ["bag", "size", "cuts", "parts", "k"]) (sc := defScope s_law_parts) (by decide +kernel)) (fun _ _ _ _ _ => pg_name (i := 4) sc_law_parts.nd rfl (Or.inl rfl)) (fun _ _ _ _ _ => pts_nil) (fun _ _ _ _ _ => (pcall D_law_draw hr (pa_cons (pv 0) (pa_cons (pe_op op_add (pv 1) pe_int) pa_nil))))) (pe_lst (pa_cons pe_int (pa_cons (pv 1) pa_nil)))) pa_nil)) pa_nil)))
      (pss_cons (ps_set (i := 3) sc_law_parts.nd rfl (.inr rfl) (pe_lc (own := [("k", 4)]) (g := gName 4) rfl sc_law_parts.nd (pi_range1 rfl T.b_range (pa_cons (pe_op op_sub (pe_callB (clLenQ (K := K)) (by rfl) T.b_len (by decide +kernel) (pa_cons (pv 2) pa_nil)) pe_int) pa_nil)) (blkOk_by (own := [("k", 4)]) (N := ["bag", "size", "cuts", "parts", "k"]) (sc := defScope s_law_parts) (by decide +kernel)) (fun _ _ _ _ _ => pg_name (i := 4) sc_law_parts.nd rfl (Or.inl rfl)) (fun _ _ _ _ _ => pts_nil) (fun _ _ _ _ _ => (pe_tup (pa_cons pe_str (pa_cons (pe_ix (ixL (K := K)) (pv 2) (pv 4) (fun _ _ => rfl)) (pa_cons (pe_op op_sub (pe_ix (ixL (K := K)) (pv 2) (pe_op op_add (pv 4) pe_int) (fun _ _ => rfl)) (pe_ix (ixL (K := K)) (pv 2) (pv 4) (fun _ _ => rfl))) pa_nil)))))))
      (pss_one (ps_ret (pe_lc (own := [("k", 4)]) (g := gName 4) rfl sc_law_parts.nd (pi_range1 rfl T.b_range (pa_cons (pe_callB (clLenQ (K := K)) (by rfl) T.b_len (by decide +kernel) (pa_cons (pv 3) pa_nil)) pa_nil)) (blkOk_by (own := [("k", 4)]) (N := ["bag", "size", "cuts", "parts", "k"]) (sc := defScope s_law_parts) (by decide +kernel)) (fun _ _ _ _ _ => pg_name (i := 4) sc_law_parts.nd rfl (Or.inl rfl)) (fun _ _ _ _ _ => pts_nil) (fun _ _ _ _ _ => (peBM (K := K) PySem.F.plainAttrs_list PySem.F.slot_list_pop PySem.F.type_list_pop mt_popAt (pv 3) (pa_cons (pcall D_law_draw hr (pa_cons (pv 0) (pa_cons (pe_callB (clLenQ (K := K)) (by rfl) T.b_len (by decide +kernel) (pa_cons (pv 3) pa_nil)) pa_nil))) pa_nil)))))))), ?_⟩
    rw [show start ["bag", "size", "cuts", "parts", "k"] [v0, v1] = [some v0, some v1, none, none, none] from rfl]
    obtain ⟨F, b, N, rfl, rfl, s0, hN, q⟩ := h
    have w := s0.w (M := [b])
    walk_at "go"
    refine n_draw w (by walk_at "pick") (by decide) (by decide) fun many F1 H1 w m0 m1 => ?_
    walk_at "go"
    refine n_lcR w (fun i ys L => ∃ rs : List Int, ys = rs.map V.int ∧ rs.length = i ∧ (∀ r ∈ rs, 0 ≤ r ∧ r ≤ (N : Int)) ∧ L = [bag K b]) ⟨[], rfl, rfl, by simp, rfl⟩ (fun i ys L F' H' D hi hp w hD => ?_) (fun D ys L F' H' hp w hD => ?_)
    · obtain ⟨rs, rfl, hl, hr, rfl⟩ := hp
      walk_at "wp"
      walk_at "go"
      refine n_draw w (by walk_at "pick") (by omega) (by omega) fun r F1 H1 w r0 r1 => ?_
      refine n_acc _ w ⟨rs ++ [r], by rw [List.map_append]; rfl, by simp [hl], ?_, rfl⟩ (by walk_at "pk") (small_lt (by rw [List.length_map]; omega))
      intro x hx
      rcases List.mem_append.mp hx with h | h
      · exact hr x h
      · rw [List.mem_singleton.mp h]
        omega
    obtain ⟨rs, rfl, hl, hr, rfl⟩ := hp
    walk_at "go"
    refine n_lst w (szle (by simp)) fun p1 F1 H1 w hp1 => ?_
    walk_at "go"
    refine n_cat w (by walk_at "at") (by walk_at "at") (szle (by simp [hl]; omega)) fun p2 F1 H1 w hp2 => ?_
    rw [show rs.map V.int ++ [V.int 0, V.int (N : Nat)] = (rs ++ [0, (N : Int)]).map V.int by rw [List.map_append]; rfl] at w
    walk_at "go"
    refine n_setI w (ns := rs ++ [0, (N : Int)]) (by walk_at "sq") (by simp [hl]; omega) fun p3 c F1 H1 w hc hp3 => ?_
    walk_at "go"
    refine n_sortS w (by walk_at "at") (by simp [hl] at hc; omega) fun ns p4 F1 H1 w hs hm hn hp4 => ?_
    have hb : ∀ x ∈ ns, 0 ≤ x ∧ x ≤ (N : Int) := fun x hx => by
      have h := (hm x).mp hx
      rw [decide_eq_true_eq, List.mem_append, List.mem_cons, List.mem_singleton] at h
      rcases h with h | h | h
      · exact hr x h
      · omega
      · omega
    have hnl : 1 ≤ ns.length := by
      have h1 : (0 : Int) ∈ ns := (hm 0).mpr (by simp)
      match ns, h1 with
      | [], h1 => cases h1
      | _ :: _, _ => simp
    have hnl2 : ns.length ≤ 1002 := by
      rw [hn]
      simp [hl] at hc
      omega
    obtain ⟨cs, ecs, hcs, hcN, _, hcl⟩ := cuts_nat hb hs
    rw [ecs] at w
    rw [← hcl] at hnl hnl2
    clear hm hn hb hs ecs hc hr hl hcl
    walk_at "go"
    have enl : (((nV cs).length : Nat) : Int) - 1 = ((cs.length - 1 : Nat) : Int) := by
      unfold nV
      rw [List.length_map]
      omega
    rw [enl]
    walk_at "go"
    refine n_lcR (w.push (dpa K [] (((blks cs).take 0).map blkRD)) .nil) (fun i ys L => L = [dpa K ys (((blks cs).take i).map blkRD), mu p4 (.lst (nV cs)), bag K b]) rfl (fun i ys L F' H' D hi hp w hD => ?_) (fun D ys L F' H' hp w hD => ?_)
    · subst hp
      have hi2 : i < cs.length - 1 := by omega
      have e1 : (nV cs)[i]? = some (.int ((cs.getD i 0 : Nat) : Int)) := by
        unfold nV
        rw [List.getElem?_map, List.getD_eq_getElem?_getD, List.getElem?_eq_getElem (by omega)]
        rfl
      have e2 : (nV cs)[i + 1]? = some (.int ((cs.getD (i + 1) 0 : Nat) : Int)) := by
        unfold nV
        rw [List.getElem?_map, List.getD_eq_getElem?_getD, List.getElem?_eq_getElem (by omega)]
        rfl
      have c1 : cs[i]? = some (cs.getD i 0) := by
        rw [List.getD_eq_getElem?_getD, List.getElem?_eq_getElem (by omega)]
        rfl
      have c2 : cs[i + 1]? = some (cs.getD (i + 1) 0) := by
        rw [List.getD_eq_getElem?_getD, List.getElem?_eq_getElem (by omega)]
        rfl
      have hb := blks_get c1 c2
      have hlt : cs.getD i 0 < cs.getD (i + 1) 0 := by
        have g1 := (List.getElem?_eq_some_iff.mp c1).2
        have g2 := (List.getElem?_eq_some_iff.mp c2).2
        rw [← g1, ← g2]
        exact List.pairwise_iff_getElem.mp hcs i (i + 1) (by omega) (by omega) (by omega)
      have yl : ys.length ≤ 100000 := by
        rw [dpa_len (w.dpa (K := K) (ds := ((blks cs).take i).map blkRD) (by walk_at "mem")), List.length_map, List.length_take, blks_len]
        omega
      generalize cs.getD i 0 = x at e1 hb hlt
      generalize cs.getD (i + 1) 0 = y at e2 hb hlt
      walk_at "wp"
      walk_at "go"
      refine w_ixL _ _ (by walk_at "sq") (atI_nat e1) ?_
      walk_at "go"
      refine w_ixL _ _ (by walk_at "sq") (show atI (nV cs) ((i : Int) + 1) = _ from atI_nat (j := i + 1) e2) ?_
      walk_at "go"
      refine w_ixL _ _ (by walk_at "sq") (atI_nat e1) ?_
      walk_at "go"
      refine n_tup w (szle (by simp)) fun t F2 H2 w => ?_
      have d1 : DpAll K F2 ys (((blks cs).take i).map blkRD) := w.dpa (by walk_at "mem")
      have d2 : F2 t = some (.tup [.str "copy", .int (x : Nat), .int ((y : Int) - (x : Nat))]) := w.i (fx t _) (by walk_at "mem")
      rw [show (y : Int) - (x : Nat) = ((y - x : Nat) : Int) by omega] at d2
      have d3 := dpa_snoc d1 (d := blkRD (x, y - x)) (dp_ccopy' (sqT_of (K := K) d2))
      have e3 : ((blks cs).take (i + 1)).map blkRD = ((blks cs).take i).map blkRD ++ [blkRD (x, y - x)] := by
        rw [List.take_add_one, hb, List.map_append]
        rfl
      rw [← e3] at d3
      refine n_acc ys (w.push (dpa K _ _) d3) rfl (by walk_at "pk") (small_lt (by omega))
    subst hp
    have d1 : DpAll K F' ys ((blks cs).map blkRD) := by
      have := w.dpa (K := K) (xs := ys) (ds := ((blks cs).take (((cs.length - 1 : Nat) : Int).toNat)).map blkRD) (by walk_at "mem")
      rwa [List.take_of_length_le (by rw [blks_len]; omega)] at this
    have yl : ys.length ≤ 10000 := by
      rw [dpa_len d1, List.length_map, blks_len]
      omega
    
    obtain ⟨okB, suB⟩ := blk_crows hcs hcN
    have d1 : DpAll K F' ys (((blks cs).map blkR).map CRow.d) := by rw [List.map_map]; exact d1
    have ebl : ((blks cs).map blkR).length = ys.length := by
      have := dpa_len d1
      rw [List.length_map] at this
      exact this.symm
    generalize (blks cs).map blkR = rows0 at okB suB d1 ebl
    replace w := w.push (dpa K ys (rows0.map CRow.d)) d1
    walk_at "go"
    refine n_lcR (n := ys.length) w (fun i us L => ∃ zs : List V, zs.length + i = ys.length ∧ ys.Perm (us ++ zs) ∧ L = [mu D (.lst zs), dpa K ys (rows0.map CRow.d), bag K b]) ⟨ys, by simp, by simp, rfl⟩ (fun i us L F' H' D2 hi hp w hD2 => ?_) (fun D2 us L F' H' hp w hD2 => ?_)
    · obtain ⟨zs, hz, hperm, rfl⟩ := hp
      walk_at "wp"
      walk_at "go"
      refine n_draw w (by walk_at "pick") (by omega) (by omega) fun r F1 H1 w r0 r1 => ?_
      walk_at "go"
      have hr : r.toNat < zs.length := by omega
      refine n_popAt w (by walk_at "pick") r.toNat (by omega) (by omega) (getD_of hr) fun H2 w => ?_
      refine n_acc us w (Rs := [mu D (.lst (zs.eraseIdx r.toNat)), dpa K ys (rows0.map CRow.d), bag K b]) ⟨zs.eraseIdx r.toNat, by rw [List.length_eraseIdx]; simp [hr]; omega, ?_, rfl⟩ (by walk_at "pk") (small_lt ?_)
      · rw [List.append_assoc]
        refine hperm.trans (List.Perm.append_left _ ?_)
        exact (erase_perm zs r.toNat _ (getD_of hr)).symm
      · have := hperm.length_eq
        rw [List.length_append] at this
        omega
    · obtain ⟨zs, hz, hperm, rfl⟩ := hp
      have hz0 : zs = [] := by
        refine List.eq_nil_of_length_eq_zero ?_
        omega
      subst hz0
      rw [List.append_nil] at hperm
      obtain ⟨ks, hk, dk⟩ := dpa_perm hperm (w.dpa (K := K) (xs := ys) (ds := rows0.map CRow.d) (by walk_at "mem"))
      have hg := gives_perm hk
      exact q D2 us ks _ _ hD2 ((w.push (dpa K us (ks.map CRow.d)) dk).to (by walk_at "pick")) ⟨crows_perm hk okB, by omega⟩ (by omega)
-- _law_rows
theorem ok_law_rows {f : Addr} {fd : FuncData} (F : FunD K "_law_rows" "_law_rows" (defArgs s_law_rows) (defBody s_law_rows) (defScope s_law_rows) [] [] f fd) (T : Txt K mg) (D_law_draw : DO P w K mg base 2 "_law_draw" ["bag", "many"] [] (S2 (φdraw K))) (D_law_parts : DO P w K mg base 4 "_law_parts" ["bag", "size"] [] (S2 (φparts61 K))) (D_law_text : DO P w K mg base 3 "_law_text" ["bag", "many"] [] (S2 (φtextN K))) : FnOk P w K mg base CX0 5 f fd ["bag", "size", "most"] (S3 (φrows61 K)) := by
  refine F.ok sc_law_rows (fun vs H Q E h => ?_) (fun cdv A outer s H vs Q E hr h => ?_)
  · exact S3.len h
  · match vs, h with
    | [v0, v1, v2], h =>
    have hu := hu_of hr
    refine ⟨_, PSs.nox (pss_cons (ps_set (i := 3) sc_law_rows.nd rfl (.inl rfl) (pcall D_law_draw hr (pa_cons (pv 0) (pa_cons pe_int pa_nil))))
      (C8.pss_cut (ps_set (i := 4) sc_law_rows.nd rfl (.inl rfl) (pe_ifExp (pt_cmpR op_gt (pv 3) pe_int (nomark _)) (pcall D_law_parts hr (pa_cons (pv 0) (pa_cons (pv 1) pa_nil))) (pe_lst pa_nil)))
      (pss_cons (ps_set (i := 5) sc_law_rows.nd rfl (.inl rfl) (pe_op op_sub (pv 2) (pe_op op_mul (pv 1) (pe_callTy clInt1 (by rfl) T.b_int (by decide +kernel) (pa_cons (pe_cmpR op_gt (pv 3) pe_int (nomark _)) pa_nil)))))
      (pss_cons (ps_for PassesOwn.never rfl (pi_range1 rfl T.b_range (pa_cons (pe_op op_mul (pe_ix (ixL (K := K)) (pe_lst (pa_cons pe_int (pa_cons pe_int (pa_cons pe_int pa_nil)))) (pv 3) (fun _ _ => rfl)) (pe_callTy clInt1 (by rfl) T.b_int (by decide +kernel) (pa_cons (pe_cmpR op_gt (pv 5) pe_int (nomark _)) pa_nil))) pa_nil)) (pg_name (i := 6) sc_law_rows.nd rfl (.inl rfl)) (pss_cons (ps_set (i := 7) sc_law_rows.nd rfl (.inl rfl) (pcall D_law_draw hr (pa_cons (pv 0) (pa_cons (pe_op op_add (pv 1) pe_int) pa_nil))))
      (pss_cons (ps_set (i := 8) sc_law_rows.nd rfl (.inl rfl) (pe_callB clMin2 (by rfl) T.b_min (by decide +kernel) (pa_cons (pv 5) (pa_cons (pe_op op_add pe_int (pcall D_law_draw hr (pa_cons (pv 0) (pa_cons (pe_ix (ixL (K := K)) (pe_lst (pa_cons pe_int (pa_cons pe_int (pa_cons pe_int pa_nil)))) (pcall D_law_draw hr (pa_cons (pv 0) (pa_cons pe_int pa_nil))) (fun _ _ => rfl)) pa_nil)))) pa_nil))))
      (C8.pss_cut (ps_set (i := 9) sc_law_rows.nd rfl (.inl rfl) (pe_and (pe_cmpR op_gt (pcall D_law_draw hr (pa_cons (pv 0) (pa_cons pe_int pa_nil))) pe_int (nomark _)) (pe_one (pe_cmpR op_lt (pv 7) (pv 1) (nomark _)))))
      (C8.pss_cut (ps_set (i := 8) sc_law_rows.nd rfl (.inl rfl) (pe_callB clMin2 (by rfl) T.b_min (by decide +kernel) (pa_cons (pv 8) (pa_cons (pe_ifExp (pt_val (pv 9)) (pe_op op_sub (pv 1) (pv 7)) pe_int) pa_nil))))
      (pss_cons (ps_set (i := 10) sc_law_rows.nd rfl (.inl rfl) (pcall D_law_draw hr (pa_cons (pv 0) (pa_cons (pe_op op_add (pe_callB (clLenQ (K := K)) (by rfl) T.b_len (by decide +kernel) (pa_cons (pv 4) pa_nil)) pe_int) pa_nil))))
      (pss_one (ps_if (PW.pt (pw_and (pt_cmpR op_gt (pv 8) pe_int (nomark _)) (pw_and1 (pt_cmpR op_gt (pcall D_law_draw hr (pa_cons (pv 0) (pa_cons pe_int pa_nil))) pe_int (nomark _))))) (C8.pss_cut (ps_set (i := 11) sc_law_rows.nd rfl (.inl rfl) (pe_ifExp (pt_val (pv 9)) (pe_tup (pa_cons pe_str (pa_cons (pv 7) (pa_cons (pv 8) pa_nil)))) (pe_tup (pa_cons pe_str (pa_cons (pcall D_law_text hr (pa_cons (pv 0) (pa_cons (pv 8) pa_nil))) pa_nil)))))
      (pss_cons (ps_set (i := 4) sc_law_rows.nd rfl (.inl rfl) (pe_op op_cat (pe_op op_cat (pe_slice (slL (K := K)) (pv 4) po_none (po_some (pv 10))) (pe_lst (pa_cons (pv 11) pa_nil))) (pe_slice (slL (K := K)) (pv 4) (po_some (pv 10)) po_none)))
      (pss_one (ps_set (i := 5) sc_law_rows.nd rfl (.inl rfl) (pe_op op_sub (pv 5) (pv 8)))))) pss_nil))))))))
      (pss_one (ps_ret (pv 4))))))), ?_⟩
    rw [show start ["bag", "size", "most", "way", "rows", "left", "k", "at", "many", "copied", "to", "row"] [v0, v1, v2] = [some v0, some v1, some v2, none, none, none, none, none, none, none, none, none] from rfl]
    obtain ⟨F, b, n, m, rfl, rfl, rfl, s0, hnm, hm, q⟩ := h
    have w := s0.w (M := [b])
    walk_at "go"
    refine n_draw w (by walk_at "pick") (by decide) (by decide) fun way F1 H1 w wy0 wy1 => ?_
    walk_at "go"
    refine n_cut w (fun σ L => ∃ (p : Addr) (ys : List V) (rows : List CRow), H p = none ∧ σ = [some (.ref b), some (.int (n : Nat)), some (.int (m : Nat)), some (.int way), some (.ref p), none, none, none, none, none, none, none] ∧ (∀ r ∈ rows, CRowOk n r) ∧ (way = 0 → rows = []) ∧ givesL rows ≤ n ∧ L = [mu p (.lst ys), dpa K ys (rows.map CRow.d), bag K b]) ?_ (fun σ L F' H' hp w => ?_)
    · walk_at "go"
      refine w_ite (fun h1 => ?_) (fun h1 => ?_)
      · walk_at "go"
        refine ⟨_, b, n, rfl, rfl, w.st (by walk_at "pick"), by omega, fun p ys rows F2 H2 hp w2 ok hg => ?_⟩
        have hp' := w.g.fresh hp
        replace w := w.calB (by walk_at "pick") w2 (by walk_at "app")
        walk_at "go"
        exact nx_mk w ⟨p, ys, rows, hp', rfl, ok.ok, fun z => by omega, hg, rfl⟩ (by walk_at "pk")
      · walk_at "go"
        refine n_lst w (szle (by simp)) fun p F2 H2 w hp => ?_
        replace w := w.push (dpa K [] (([] : List CRow).map CRow.d)) .nil
        walk_at "go"
        exact nx_mk w ⟨p, [], [], hp, rfl, by simp, fun _ => rfl, Nat.zero_le _, rfl⟩ (by walk_at "pk")
    obtain ⟨p, ys, rows, hp, rfl, hok, hw0, hg, rfl⟩ := hp
    walk_at "go"
    obtain ⟨lf, elf, hlf⟩ : ∃ lf : Nat, ((m : Nat) : Int) - ((n : Nat) : Int) * (if decide (0 < way) = true then 1 else 0) = (lf : Int) ∧ givesL rows + lf ≤ m := by
      by_cases h1 : 0 < way
      · exact ⟨m - n, by rw [if_pos (decide_eq_true h1)]; omega, by omega⟩
      · refine ⟨m, by rw [if_neg (by rw [decide_eq_true_eq]; exact h1)]; omega, ?_⟩
        rw [hw0 (by omega)]
        show 0 + m ≤ m
        omega
    rw [elf]
    refine n_lst w (szle (by simp)) fun p2 F2 H2 w hp2 => ?_
    walk_at "go"
    obtain ⟨c0, ec0, c00, c01⟩ := pick_ix (ns := [9, 1, 3]) (lo := 1) (hi := 9) wy0 wy1 (by decide)
    refine w_ixL _ _ (by walk_at "sq") ec0 ?_
    walk_at "go"
    obtain ⟨cn, ecn, hcn⟩ : ∃ cn : Nat, c0 * (if decide (0 < (lf : Int)) = true then 1 else 0) = (cn : Int) ∧ cn ≤ 9 := by
      split
      · exact ⟨c0.toNat, by omega, by omega⟩
      · exact ⟨0, by omega, by omega⟩
    rw [ecn]
    walk_at "go"
    refine n_forR (n := cn) w (fun i σ L => ∃ (p : Addr) (ys : List V) (rows : List CRow) (lf : Nat), ∃ y6 y7 y8 y9 y10 y11, H p = none ∧ σ = [some (.ref b), some (.int (n : Nat)), some (.int (m : Nat)), some (.int way), some (.ref p), some (.int (lf : Nat)), y6, y7, y8, y9, y10, y11] ∧ (∀ r ∈ rows, CRowOk n r) ∧ givesL rows + lf ≤ m ∧ L = [mu p (.lst ys), dpa K ys (rows.map CRow.d), bag K b]) ⟨p, ys, rows, lf, none, none, none, none, none, none, hp, rfl, hok, hlf, rfl⟩ (fun i σ L F' H' hi hp w => ?_) (fun σ L F' H' hp w => ?_)
    · obtain ⟨p, ys, rows, lf, y6, y7, y8, y9, y10, y11, hp, rfl, hok, hlf, rfl⟩ := hp
      have hyl := dpa_len (w.dpa (K := K) (xs := ys) (ds := rows.map CRow.d) (by walk_at "mem"))
      rw [List.length_map] at hyl
      have hrl := rows_len (rows := rows) (fun r hr => (hok r hr).p)
      walk_at "go"
      refine n_draw w (by walk_at "pick") (by omega) (by omega) fun r1 F1 H1 w r10 r11 => ?_
      obtain ⟨at_, rfl⟩ : ∃ at_ : Nat, r1 = (at_ : Int) := ⟨r1.toNat, by omega⟩
      walk_at "go"
      refine n_lst w (szle (by simp)) fun p3 F1 H1 w hp3 => ?_
      walk_at "go"
      refine n_draw w (by walk_at "pick") (by decide) (by decide) fun r2 F1 H1 w r20 r21 => ?_
      obtain ⟨wd, ew, wd0, wd1⟩ := pick_ix (ns := [3, 12, 400]) (lo := 3) (hi := 400) r20 r21 (by decide)
      walk_at "go"
      refine w_ixL _ _ (by walk_at "sq") ew ?_
      walk_at "go"
      refine n_draw w (by walk_at "pick") (by omega) (by omega) fun r3 F1 H1 w r30 r31 => ?_
      walk_at "go"
      obtain ⟨m1, em1⟩ : ∃ m1, m1 = (if 1 + r3 < ((lf : Nat) : Int) then 1 + r3 else ((lf : Nat) : Int)) := ⟨_, rfl⟩
      have hm1 : 0 ≤ m1 ∧ m1 ≤ lf ∧ m1 ≤ 400 := by split at em1 <;> omega
      rw [← em1]
      clear em1
      walk_at "go"
      refine n_cut w (fun σ L => ∃ cb : Bool, (cb = true → at_ < n) ∧ σ = [some (.ref b), some (.int (n : Nat)), some (.int (m : Nat)), some (.int way), some (.ref p), some (.int (lf : Nat)), some (.int (i : Nat)), some (.int (at_ : Nat)), some (.int m1), some (.bl cb), y10, y11] ∧ L = [mu p (.lst ys), dpa K ys (rows.map CRow.d), bag K b]) ?_ (fun σ L F' H' hp2 w => ?_)
      · walk_at "go"
        refine n_draw w (by walk_at "pick") (by decide) (by decide) fun r4 F1 H1 w r40 r41 => ?_
        walk_at "go"
        by_cases h4 : 0 < r4
        · rw [decide_eq_true h4]
          walk_at "go"
          exact nx_mk w ⟨_, fun z => by have := of_decide_eq_true z; omega, rfl, rfl⟩ (by walk_at "pk")
        · rw [decide_eq_false h4]
          walk_at "go"
          exact nx_mk w ⟨false, (fun z => nomatch z), rfl, rfl⟩ (by walk_at "pk")
      obtain ⟨cb, hcb, rfl, rfl⟩ := hp2
      walk_at "go"
      refine n_cut w (fun σ L => ∃ mn : Nat, mn ≤ lf ∧ mn ≤ 400 ∧ (cb = true → at_ + mn ≤ n) ∧ σ = [some (.ref b), some (.int (n : Nat)), some (.int (m : Nat)), some (.int way), some (.ref p), some (.int (lf : Nat)), some (.int (i : Nat)), some (.int (at_ : Nat)), some (.int (mn : Nat)), some (.bl cb), y10, y11] ∧ L = [mu p (.lst ys), dpa K ys (rows.map CRow.d), bag K b]) ?_ (fun σ L F' H' hp2 w => ?_)
      · cases cb with
        | true =>
          have hc := hcb rfl
          walk_at "go"
          obtain ⟨mn, emn⟩ : ∃ mn, mn = (if ((n : Nat) : Int) - ((at_ : Nat) : Int) < m1 then ((n : Nat) : Int) - ((at_ : Nat) : Int) else m1) := ⟨_, rfl⟩
          rw [← emn]
          obtain ⟨mk, rfl⟩ : ∃ mk : Nat, mn = (mk : Int) := ⟨mn.toNat, by split at emn <;> omega⟩
          walk_at "go"
          exact nx_mk w ⟨mk, by split at emn <;> omega, by split at emn <;> omega, fun _ => by split at emn <;> omega, rfl, rfl⟩ (by walk_at "pk")
        | false =>
          walk_at "go"
          obtain ⟨mn, emn⟩ : ∃ mn, mn = (if (12 : Int) < m1 then 12 else m1) := ⟨_, rfl⟩
          rw [← emn]
          obtain ⟨mk, rfl⟩ : ∃ mk : Nat, mn = (mk : Int) := ⟨mn.toNat, by split at emn <;> omega⟩
          walk_at "go"
          exact nx_mk w ⟨mk, by split at emn <;> omega, by split at emn <;> omega, (fun z => nomatch z), rfl, rfl⟩ (by walk_at "pk")
      obtain ⟨mn, hmn1, hmn2, hmn3, rfl, rfl⟩ := hp2
      walk_at "go"
      refine n_draw w (by walk_at "pick") (by omega) (by omega) fun r5 F1 H1 w r50 r51 => ?_
      obtain ⟨to_, rfl⟩ : ∃ to_ : Nat, r5 = (to_ : Int) := ⟨r5.toNat, by omega⟩
      walk_at "go"
      by_cases h6 : 0 < mn
      · rw [decide_eq_true (show (0 : Int) < ((mn : Nat) : Int) by omega)]
        walk_at "go"
        refine n_draw w (by walk_at "pick") (by decide) (by decide) fun r6 F1 H1 w r60 r61 => ?_
        walk_at "go"
        refine w_ite (fun h7 => ?_) (fun h7 => ?_)
        · walk_at "go"
          refine n_cut w (fun σ L => ∃ (v : V) (r : CRow), CRowOk n r ∧ r.gives = mn ∧ σ = [some (.ref b), some (.int (n : Nat)), some (.int (m : Nat)), some (.int way), some (.ref p), some (.int (lf : Nat)), some (.int (i : Nat)), some (.int (at_ : Nat)), some (.int (mn : Nat)), some (.bl cb), some (.int (to_ : Nat)), some v] ∧ L = [dat K v r.d, mu p (.lst ys), dpa K ys (rows.map CRow.d), bag K b]) ?_ (fun σ L F' H' hp2 w => ?_)
          · cases cb with
            | true =>
              have hc := hmn3 rfl
              walk_at "go"
              refine n_tup w (szle (by simp)) fun t F2 H2 w => ?_
              have d1 : F2 t = some (.tup [.str "copy", .int (at_ : Nat), .int (mn : Nat)]) := w.i (fx t _) (by walk_at "mem")
              replace w := w.push (dat K (.ref t) (CRow.copy at_ mn).d) (dp_ccopy' (sqT_of d1))
              walk_at "go"
              exact nx_mk w ⟨.ref t, .copy at_ mn, ⟨trivial, h6, hc⟩, rfl, rfl, rfl⟩ (by walk_at "pk")
            | false =>
              walk_at "go"
              refine ⟨_, b, (mn : Nat), rfl, rfl, w.st (by walk_at "pick"), by omega, by omega, fun s F2 H2 w2 hsl oks => ?_⟩
              replace w := w.calB (by walk_at "pick") w2 (by walk_at "app")
              walk_at "go"
              refine n_tup w (szle (by simp)) fun t F2 H2 w => ?_
              have d1 : F2 t = some (.tup [.str "put", .str s]) := w.i (fx t _) (by walk_at "mem")
              replace w := w.push (dat K (.ref t) (CRow.put s).d) (dp_cput' (sqT_of d1))
              walk_at "go"
              have hsl2 : s.length = mn := by omega
              exact nx_mk w ⟨.ref t, .put s, ⟨⟨oks, by omega⟩, by show 1 ≤ s.length; omega, Nat.zero_le _⟩, hsl2, rfl, rfl⟩ (by walk_at "pk")
          obtain ⟨v, r, okr, hgr, rfl, rfl⟩ := hp2
          have hg3 : givesL (rows.take to_ ++ [r] ++ rows.drop to_) = givesL rows + mn := by rw [← gives_perm (ins_perm rows r to_), gives_snoc, hgr]
          walk_at "go"
          refine n_slL w (by walk_at "sq") fun q1 F2 H2 w hq1 => ?_
          rw [cut_to] at w
          walk_at "go"
          refine n_lst w (szle (by simp)) fun q2 F2 H2 w hq2 => ?_
          walk_at "go"
          refine n_cat w (by walk_at "at") (by walk_at "at") (szle (by rw [List.length_take]; show _ + 1 ≤ _; omega)) fun q3 F2 H2 w hq3 => ?_
          walk_at "go"
          refine n_slL w (by walk_at "sq") fun q4 F2 H2 w hq4 => ?_
          rw [cut_from] at w
          walk_at "go"
          refine n_cat w (by walk_at "at") (by walk_at "at") (szle (by rw [List.length_append, List.length_take, List.length_drop]; show _ + 1 + _ ≤ _; omega)) fun q5 F2 H2 w hq5 => ?_
          replace w := w.push (dpa K (ys.take to_ ++ [v] ++ ys.drop to_) ((rows.take to_ ++ [r] ++ rows.drop to_).map CRow.d)) (dpa_insC to_ (w.dpa (by walk_at "mem")) (w.dat (by walk_at "mem")))
          walk_at "go"
          rw [show ((lf : Nat) : Int) - ((mn : Nat) : Int) = ((lf - mn : Nat) : Int) by omega]
          exact nx_mk w ⟨q5, _, rows.take to_ ++ [r] ++ rows.drop to_, lf - mn, _, _, _, _, _, _, hq5, rfl, crows_perm (ins_perm rows r to_) (crows_snoc hok okr), by rw [hg3]; omega, rfl⟩ (by walk_at "pk")
        · walk_at "go"
          exact nx_mk w ⟨p, ys, rows, lf, _, _, _, _, _, _, hp, rfl, hok, hlf, rfl⟩ (by walk_at "pk")
      · rw [decide_eq_false (show ¬ (0 : Int) < ((mn : Nat) : Int) by omega)]
        walk_at "go"
        exact nx_mk w ⟨p, ys, rows, lf, _, _, _, _, _, _, hp, rfl, hok, hlf, rfl⟩ (by walk_at "pk")
    · obtain ⟨p, ys, rows, lf, y6, y7, y8, y9, y10, y11, hp, rfl, hok, hlf, rfl⟩ := hp
      walk_at "go"
      exact q p ys rows _ _ hp (w.to (by walk_at "pick")) ⟨hok, by omega⟩ (by omega)
-- _law_cells
theorem ok_law_cells {f : Addr} {fd : FuncData} (F : FunD K "_law_cells" "_law_cells" (defArgs s_law_cells) (defBody s_law_cells) (defScope s_law_cells) [] [] f fd) (T : Txt K mg)  : FnOk P w K mg base CX0 1 f fd ["rows"] (S1 (φlcells61 K)) := by
  refine F.ok sc_law_cells (fun vs H Q E h => ?_) (fun cdv A outer s H vs Q E hr h => ?_)
  · exact S1.len h
  · match vs, h with
    | [v0], h =>
    have hu := hu_of hr
    refine ⟨_, PSs.nox (pss_cons (ps_set (i := 1) sc_law_cells.nd rfl (.inl rfl) (pe_lst pa_nil))
      (pss_cons (ps_for PassesOwn.never rfl (pi_list (pv 0)) (pg_name (i := 2) sc_law_cells.nd rfl (.inl rfl)) (pss_one (ps_set (i := 1) sc_law_cells.nd rfl (.inl rfl) (pe_op op_cat (pv 1) (pe_ifExp (pt_cmpR op_eq (pe_ix (ixT (K := K)) (pv 2) pe_int (fun _ _ => rfl)) pe_str (nomark _)) (pe_callTy clListS (by rfl) T.b_list (by decide +kernel) (pa_cons (pe_ix (ixT (K := K)) (pv 2) pe_int (fun _ _ => rfl)) pa_nil)) (pe_listRg rfl (by rfl) T.b_list (prg_2 (by rfl) T.b_range (pe_ix (ixT (K := K)) (pv 2) pe_int (fun _ _ => rfl)) (pe_op op_add (pe_ix (ixT (K := K)) (pv 2) pe_int (fun _ _ => rfl)) (pe_ix (ixT (K := K)) (pv 2) pe_int (fun _ _ => rfl))))))))))
      (pss_one (ps_ret (pv 1))))), ?_⟩
    rw [show start ["rows", "found", "row"] [v0] = [some v0, none, none] from rfl]
    obtain ⟨F, a, vs, n, rows, rfl, hw, hS, hD, hok, hn, q⟩ := h
    have w := W.start (M := []) hw
    have hrl := hok.len
    walk_at "go"
    refine n_lst w (szle (by simp)) fun f F1 H1 w hf => ?_
    walk_at "go"
    refine n_forL vs w (fun i σ L => ∃ f y2, H f = none ∧ σ = [some (.ref a), some (.ref f), y2] ∧ L = [mu f (.lst (cellsV (rows.take i)))]) ⟨f, none, hf, rfl, rfl⟩ (fun i σ L F' H' hp w => ?_) (fun i x σ L F' H' hx hp w => ?_) (fun σ L F' H' hp w => ?_)
    · obtain ⟨f, y2, hf, rfl, rfl⟩ := hp
      walk_at "sq"
    · obtain ⟨f, y2, hf, rfl, rfl⟩ := hp
      obtain ⟨m, hm, dm⟩ := dpa_at hD hx
      have mo := hok.ok m (List.mem_of_getElem? hm)
      have e1 : cellsV (rows.take (i + 1)) = cellsV (rows.take i) ++ m.cellV := by
        unfold cellsV
        rw [List.take_add_one, hm, List.flatMap_append]
        simp
      have l1 := cells_len (rows.take i)
      have l2 := gives_le rows i
      have l3 := hok.sum
      have l4 := gives_take hm
      have l5 := gives_le rows (i + 1)
      cases m with
      | put s =>
        obtain ⟨pm, rfl, hT⟩ := dp_cput dm
        have hT := sqT_same (K := K) w.ws hT
        have hsl := mo.s.2
        walk_at "go"
        refine n_listS w (szle (by omega)) fun p2 F2 H2 w hp2 => ?_
        walk_at "go"
        refine n_cat w (by walk_at "at") (by walk_at "at") (szle (by rw [chars_len]; omega)) fun p3 F3 H3 w hp3 => ?_
        walk_at "go"
        rw [show cellsV (rows.take i) ++ chars s = cellsV (rows.take (i + 1)) from e1.symm] at w
        exact nx_mk w ⟨p3, _, hp3, rfl, rfl⟩ (by walk_at "pk")
      | copy b k =>
        obtain ⟨pm, rfl, hT⟩ := dp_ccopy dm
        have hT := sqT_same (K := K) w.ws hT
        have hh : b + k ≤ n := mo.h
        replace l4 : givesL (rows.take (i + 1)) = givesL (rows.take i) + k := l4
        walk_at "go"
        refine ⟨_, _, rfl, rfl, ?_⟩
        refine n_lstRg w (RgOk.of_le (by omega) (by omega) (by omega) (by omega)) fun p2 F2 H2 w hp2 => ?_
        rw [show rgV (b : Int) ((b : Int) + (k : Nat)) = CRow.cellV (.copy b k) by unfold rgV CRow.cellV; rw [show ((b : Int) + (k : Nat) - (b : Int)).toNat = k by omega]; rfl] at w
        walk_at "go"
        refine n_cat w (by walk_at "at") (by walk_at "at") (szle (by rw [cellV_len]; show _ + k ≤ _; omega)) fun p3 F3 H3 w hp3 => ?_
        walk_at "go"
        rw [← e1] at w
        exact nx_mk w ⟨p3, _, hp3, rfl, rfl⟩ (by walk_at "pk")
    · obtain ⟨f, y2, hf, rfl, rfl⟩ := hp
      rw [List.take_of_length_le (by rw [dpa_len hD, List.length_map]; exact Nat.le_refl _)] at w
      walk_at "go"
      exact q f F' H' hf (by walk_at "w")
-- _law_made
theorem ok_law_made {f : Addr} {fd : FuncData} (F : FunD K "_law_made" "_law_made" (defArgs s_law_made) (defBody s_law_made) (defScope s_law_made) [] [] f fd) (T : Txt K mg)  : FnOk P w K mg base CX0 1 f fd ["cells", "old"] (S2 (φmade61 K)) := by
  refine F.ok sc_law_made (fun vs H Q E h => ?_) (fun cdv A outer s H vs Q E hr h => ?_)
  · exact S2.len h
  · match vs, h with
    | [v0, v1], h =>
    have hu := hu_of hr
    refine ⟨_, PSs.nox (pss_one (ps_ret (peJoin (K := K) pe_str (pe_lc (own := [("one", 2)]) (g := gName 2) rfl sc_law_made.nd (pi_list (pv 0)) (blkOk_by (own := [("one", 2)]) (N := ["cells", "old", "one"]) (sc := defScope s_law_made) (by decide +kernel)) (fun _ _ _ _ _ => pg_name (i := 2) sc_law_made.nd rfl (Or.inl rfl)) (fun _ _ _ _ _ => pts_nil) (fun _ _ _ _ _ => (pe_ifExp (pt_val (pe_callB (clIsi (K := K)) (by rfl) T.b_isinstance (by decide +kernel) (pa_cons (pv 2) (pa_cons (pe_bltn (v := .ty "str") (by rfl) T.b_str (by decide +kernel) rfl) pa_nil)))) (pv 2) (pe_ix ix_str (pv 1) (pv 2) (fun _ _ => rfl)))))))), ?_⟩
    rw [show start ["cells", "old", "one"] [v0, v1] = [some v0, some v1, none] from rfl]
    obtain ⟨F, a, cs, o, rfl, rfl, hw, hS, hcs, hcl, oko, ho, q⟩ := h
    have w := W.start (M := []) hw
    walk_at "go"
    
    refine n_lcL (cs) w (fun i ys L => ys = ((cs).take i).map (fun v => V.str (outS o v)) ∧ L = []) ⟨rfl, rfl⟩ (fun i ys L F' H' D hp w => ?_) (fun i x ys L F' H' D hx hp w hDn => ?_) (fun D ys L F' H' hp w hDn => ?_)
    · obtain ⟨rfl, rfl⟩ := hp
      walk_at "sq"
    · obtain ⟨rfl, rfl⟩ := hp
      have hi := (List.getElem?_eq_some_iff.mp hx).1
      have e1 : ((cs).take (i + 1)).map (fun v => V.str (outS o v)) = ((cs).take i).map (fun v => V.str (outS o v)) ++ [V.str (outS o x)] := by
        rw [List.take_add_one, hx, List.map_append]
        rfl
      have hl : (((cs).take i).map (fun v => V.str (outS o v))).length ≤ 1000 := by
        rw [List.length_map, List.length_take]
        omega
      walk_at "wp"
      walk_at "go"
      rcases hcs x (List.mem_of_getElem? hx) with ⟨k, rfl, hk⟩ | ⟨c, rfl, hc⟩
      · refine u_isi (F := F') (d := .int (k : Nat)) (.int _) w.fh (k_str _) ?_
        walk_at "go"
        refine w_is (c := false) rfl ?_
        walk_at "go"
        refine w_ixS (szle (by omega)) (sign_get hk) ?_
        exact n_acc _ w ⟨e1.symm, rfl⟩ (by walk_at "pk") (small_lt (by omega))
      · refine u_isi (F := F') (d := .str ⟨#[c]⟩) (.str _) w.fh (k_str _) ?_
        walk_at "go"
        refine w_is (c := true) rfl ?_
        walk_at "go"
        exact n_acc _ w ⟨e1.symm, rfl⟩ (by walk_at "pk") (small_lt (by omega))
    · obtain ⟨rfl, rfl⟩ := hp
      rw [List.take_of_length_le (Nat.le_refl _)] at w
      obtain ⟨zs, ezs⟩ : ∃ zs, zs = (cs).map (outS o) := ⟨_, rfl⟩
      have hzs : ∀ z ∈ zs, z.length = 1 ∧ okS z := fun z hz => by
        rw [ezs] at hz
        obtain ⟨v, hv, rfl⟩ := List.mem_map.mp hz
        exact outS_ok rfl oko (hcs v hv)
      rw [show (cs).map (fun v => V.str (outS o v)) = zs.map V.str by rw [ezs, List.map_map]; rfl] at w
      refine ⟨_, D, zs, rfl, rfl, .inl (by walk_at "sq"), ?_, ?_⟩
      · rw [sum_ones zs hzs]
        have : zs.length = (cs).length := by rw [ezs, List.length_map]
        show zs.length + zs.length * 0 ≤ 16777216
        omega
      · refine q _ F' H' (by walk_at "w") ?_ (joined zs hzs).2
        show cd (Txt.join ⟨#[]⟩ zs) = _
        rw [join_cd, ezs]
-- _law_done
theorem ok_law_done {f : Addr} {fd : FuncData} (F : FunD K "_law_done" "_law_done" (defArgs s_law_done) (defBody s_law_done) (defScope s_law_done) [] [] f fd) (T : Txt K mg)  (DX_Shelf_drop_r : DMXN P w K mg base 2 "Shelf" "drop" ["self"] (SX1 (φdropX K))) (DXK_Shelf_take_r_change : DMKXN P w K mg base 6 "Shelf" "take" ["self", "change"] ["change"] [(0, 0), (1, 0)] [] (SX2 (φtakeX K))) : FnOk P w K mg base CX0 8 f fd ["shelf", "deed"] (S2 (φdone61 K)) := by
  refine F.ok sc_law_done (fun vs H Q E h => ?_) (fun cdv A outer s H vs Q E hr h => ?_)
  · exact S2.len h
  · match vs, h with
    | [v0, v1], h =>
    have hu := hu_of hr
    refine' ⟨_, PSs.nox (pss_cons (ps_set (i := 2) sc_law_done.nd rfl (.inl rfl) pe_non)
      (pss_cons (ps_set (i := 3) sc_law_done.nd rfl (.inl rfl) (pe_lst pa_nil))
      (pss_cons (ps_keepN rfl rfl sc_law_done.nd rfl takes0N ?tr1 (HdKN.named (i := 4) (tst_four ⟨by rfl, by decide, .inl T.g_BadSize⟩ ⟨by rfl, by decide, .inl T.g_Busy⟩ ⟨by rfl, by decide, .inl T.g_NoSpare⟩ ⟨by rfl, by decide, .inl T.g_NoVersion⟩) rfl rfl (fun a oe cls d pn hz hf => (pss_cons (ps_set (i := 5) sc_law_done.nd rfl (.inr rfl) (pe_lst (pa_cons (pe_and (pe_callB (clIsS (K := K) hz.zc hf) (by rfl) T.b_isinstance (by decide +kernel) (pa_cons (pv 4) (pa_cons (C8.pe_gc (v := .ref (He.ga K "BadSize")) (by rfl) ⟨_, T.g_BadSize, rfl⟩) pa_nil))) (pe_one (pe_callB (clIsS (K := K) hz.zc hf) (by rfl) T.b_isinstance (by decide +kernel) (pa_cons (pv 4) (pa_cons (pe_bltn (v := .ty "ValueError") (by rfl) T.b_ValueError (by decide +kernel) rfl) pa_nil))))) (pa_cons (pe_callB (clIsS (K := K) hz.zc hf) (by rfl) T.b_isinstance (by decide +kernel) (pa_cons (pv 4) (pa_cons (C8.pe_gc (v := .ref (He.ga K "Busy")) (by rfl) ⟨_, T.g_Busy, rfl⟩) pa_nil))) (pa_cons (pe_callB (clIsS (K := K) hz.zc hf) (by rfl) T.b_isinstance (by decide +kernel) (pa_cons (pv 4) (pa_cons (C8.pe_gc (v := .ref (He.ga K "NoSpare")) (by rfl) ⟨_, T.g_NoSpare, rfl⟩) pa_nil))) pa_nil)))))
      (pss_cons (ps_asg (pe_and (pe_ix (ixL (K := K)) (pv 5) pe_int (fun _ _ => rfl)) (pe_one (pe_callB (clIsS (K := K) hz.zc hf) (by rfl) T.b_isinstance (by decide +kernel) (pa_cons (pv 4) (pa_cons (pe_bltn (v := .ty "RuntimeError") (by rfl) T.b_RuntimeError (by decide +kernel) rfl) pa_nil))))) (pg_sub (pv 5) pe_int set_list))
      (pss_cons (ps_expr (peBM (K := K) PySem.F.plainAttrs_list PySem.F.slot_list_append PySem.F.type_list_append mt_append (pv 5) (pa_cons (pe_and (pe_callB (clIsS (K := K) hz.zc hf) (by rfl) T.b_isinstance (by decide +kernel) (pa_cons (pv 4) (pa_cons (C8.pe_gc (v := .ref (He.ga K "NoVersion")) (by rfl) ⟨_, T.g_NoVersion, rfl⟩) pa_nil))) (pe_one (pe_callB (clIsS (K := K) hz.zc hf) (by rfl) T.b_isinstance (by decide +kernel) (pa_cons (pv 4) (pa_cons (pe_bltn (v := .ty "KeyError") (by rfl) T.b_KeyError (by decide +kernel) rfl) pa_nil))))) pa_nil)))
      (pss_one (ps_setLcH (i := 3) (own := [("k", 6)]) (g := gName 6) (hotN hz hf) sc_law_done.nd rfl rfl (sw_true rfl rfl rfl (by decide +kernel)) (L2H.pi_range1H rfl T.b_range (pa_cons pe_int pa_nil)) (blkOk_by (own := [("k", 6)]) (N := ["shelf", "deed", "found", "words", "e", "kinds", "k"]) (sc := defScope s_law_done) (by decide +kernel)) (fun _ _ _ _ _ => pg_name (i := 6) sc_law_done.nd rfl (Or.inl rfl)) (fun _ _ _ _ _ => pts_one (pt_val (pe_ix (ixL (K := K)) (pv 5) (pv 6) (fun _ _ => rfl)))) (fun _ _ _ _ _ => (pe_ix (ixL (K := K)) (pe_lst (pa_cons pe_str (pa_cons pe_str (pa_cons pe_str (pa_cons pe_str pa_nil))))) (pv 6) (fun _ _ => rfl))))))))) HdKN.nil))
      (pss_one (ps_ret (pe_tup (pa_cons (pv 2) (pa_cons (pv 3) pa_nil)))))))), ?_⟩
    case tr1 => exact fun _ _ _ tk => (pss_one (ps_if (PT.nox (pt_cmpR op_eq (pe_ix (ixT (K := K)) (pv 1) pe_int (fun _ _ => rfl)) pe_str (nomark _))) (pss_one (ps_set (i := 2) sc_law_done.nd rfl (.inl rfl) (pmethKX0N (K := K) DXK_Shelf_take_r_change hr tk (pv 0) (pk_cons (pe_ix (ixT (K := K)) (pv 1) pe_int (fun _ _ => rfl)) pk_nil)))) (pss_one (ps_if (PT.nox (pt_cmpR op_eq (pe_ix (ixT (K := K)) (pv 1) pe_int (fun _ _ => rfl)) pe_str (nomark _))) (PSs.nox (pss_one ps_none)) (pss_one (ps_if (PT.nox (pt_cmpR op_eq (pe_ix (ixT (K := K)) (pv 1) pe_int (fun _ _ => rfl)) pe_str (nomark _))) (PSs.nox (pss_one ps_none)) (pss_one (ps_if (PT.nox (pt_cmpR op_eq (pe_ix (ixT (K := K)) (pv 1) pe_int (fun _ _ => rfl)) pe_str (nomark _))) (pss_one (ps_set (i := 2) sc_law_done.nd rfl (.inl rfl) (pmethX0N (K := K) DX_Shelf_drop_r hr tk (pv 0)))) (PSs.nox (pss_one ps_none))))))))))
    rw [show start ["shelf", "deed", "found", "words", "e", "kinds", "k"] [v0, v1] = [some v0, some v1, none, none, none, none, none] from rfl]
    obtain ⟨F, a, S, td, rfl, rfl, s0, hS, hl, h⟩ := h
    have w := shw s0
    rcases h with ⟨v, n, rows, t, hT, hC, hok, hn, ht, q1, q2⟩ | ⟨hT, hp, q1, q2⟩
    · replace w := (w.push (imT K td [.str "take", v]) hT).push (chg K v n rows) hC
      walk_at "go"
      refine n_lst w (szle (by simp)) fun p0 F1 H1 w hp0 => ?_
      walk_at "go"
      refine n_methS w (by walk_at "mem") (fun _ _ _ _ _ => rfl) ?_
      walk_at "go"
      refine ⟨rfl, ?_⟩
      refine ⟨_, a, S, n, rows, t, rfl, w.st (by walk_at "pick"), w.i (chg K v n rows) (by walk_at "mem"), hok, hn, hS, hl, ht, fun hnt u F2 H2 w2 hu oku => ?_, fun hnt F2 H2 w2 => ?_⟩
      · replace w := w.cal (D := [shf K a S]) (by walk_at "pick") w2 (by walk_at "app") ads_shf
        walk_at "go"
        refine n_tup w (szle (by simp)) fun tt F6 H6 w => ?_
        exact q1 hnt u hu oku tt p0 _ _ hp0 (w.to (D := [fx tt (.tup [.int ((S.rss.length + 1 : Nat) : Int), .ref p0]), mu p0 (.lst []), shf K a (S.add u rows)]) (by walk_at "pick"))
      · replace w := w.cal (D := [shf K a S]) (by walk_at "pick") w2 (by walk_at "app") ads_shf
        refine w_clY T.m_0 fun xa hxa => ?_
        try dsimp only [List.set_cons_succ, List.set_cons_zero]
        walk_at "go"
        refine ⟨_, _, _, true, rfl, rfl, .inl rfl, T.y_BadSize, .own _, T.q_0, ?_⟩
        walk_at "go"
        refine ⟨_, _, _, true, rfl, rfl, .inl rfl, T.y_BadSize, .ty _, T.q_1, ?_⟩
        walk_at "go"
        refine ⟨_, _, _, false, rfl, rfl, .inl rfl, T.y_BadSize, .own _, T.q_2, ?_⟩
        walk_at "go"
        refine ⟨_, _, _, false, rfl, rfl, .inl rfl, T.y_BadSize, .own _, T.q_3, ?_⟩
        walk_at "go"
        refine n_lst w (szle (by simp)) fun pk F2 H2 w hpk => ?_
        walk_at "go"
        refine n_setL w (by walk_at "pick") 1 (by rfl) fun H3 w => ?_
        walk_at "go"
        refine ⟨_, _, _, false, rfl, rfl, .inl rfl, T.y_BadSize, .own _, T.q_5, ?_⟩
        walk_at "go"
        refine n_app w (by walk_at "pick") (small_lt (by show 3 ≤ 1000000; decide)) fun H4 w => ?_
        walk_at "go"
        replace w := w.to (D := [mu pk (.lst [.bl true, .bl false, .bl false, .bl false]), shf K a S]) (by walk_at "pick")
        refine n_lcR (n := 4) w (fun i ys L => ys = (pickW ["BadSize", "Busy", "NoSpare", "NoVersion"] [true, false, false, false] i).map V.str ∧ L = [mu pk (.lst [.bl true, .bl false, .bl false, .bl false]), shf K a S]) ⟨rfl, rfl⟩ (fun i ys L F' H' D hi hp w hD => ?_) (fun D ys L F' H' hp w hD => ?_)
        · obtain ⟨rfl, rfl⟩ := hp
          have hwl : (pickW ["BadSize", "Busy", "NoSpare", "NoVersion"] [true, false, false, false] i).length ≤ 4 := pickW_len
          obtain ⟨z, hz⟩ : ∃ z : Str, (["BadSize", "Busy", "NoSpare", "NoVersion"] : List Str)[i]? = some z := ⟨_, List.getElem?_eq_getElem hi⟩
          obtain ⟨bi, hb⟩ : ∃ bi, [true, false, false, false][i]? = some bi := ⟨_, List.getElem?_eq_getElem hi⟩
          have hx : [V.bl true, V.bl false, V.bl false, V.bl false][i]? = some (V.bl bi) := by
            rw [show [V.bl true, V.bl false, V.bl false, V.bl false] = [true, false, false, false].map V.bl from rfl, List.getElem?_map, hb]
            rfl
          have hn : [V.str "BadSize", V.str "Busy", V.str "NoSpare", V.str "NoVersion"][i]? = some (V.str z) := by
            rw [show [V.str "BadSize", V.str "Busy", V.str "NoSpare", V.str "NoVersion"] = (["BadSize", "Busy", "NoSpare", "NoVersion"] : List Str).map V.str from rfl, List.getElem?_map, hz]
            rfl
          walk_at "wp"
          walk_at "go"
          refine w_ixL _ _ (by walk_at "sq") (atI_nat hx) ?_
          walk_at "go"
          cases bi with
          | true =>
            walk_at "go"
            refine n_lst w (szle (by simp)) fun pn F5 H5 w hpn => ?_
            walk_at "go"
            refine w_ixL _ _ (by walk_at "sq") (atI_nat hn) ?_
            exact n_acc _ w ⟨by rw [pickW_T hz hb, List.map_append]; rfl, rfl⟩ (by walk_at "pk") (small_lt (by rw [List.length_map]; omega))
          | false =>
            walk_at "go"
            exact ⟨_, _, _, ⟨by rw [pickW_F hz hb], rfl⟩, w.to (by walk_at "pick")⟩
        obtain ⟨rfl, rfl⟩ := hp
        walk_at "go"
        intro na
        try dsimp only [List.set_cons_succ, List.set_cons_zero]
        replace w := w.nw (u := exk xa (.ref (He.ga K "BadSize")) none) na
        walk_at "go"
        refine n_tup w (szle (by simp)) fun tt F6 H6 w => ?_
        rw [show pickW ["BadSize", "Busy", "NoSpare", "NoVersion"] _ 4 = (["BadSize"] : List Str) from rfl] at w
        exact q2 hnt tt D _ _ hD (w.to (D := [fx tt (.tup [.non, .ref D]), mu D (.lst [.str "BadSize"]), shf K a S]) (by walk_at "pick"))
    · replace w := w.push (imT K td [.str "drop"]) hT
      walk_at "go"
      refine n_lst w (szle (by simp)) fun p0 F1 H1 w hp0 => ?_
      walk_at "go"
      refine n_methS w (by walk_at "mem") (fun _ _ _ _ _ => rfl) ?_
      walk_at "go"
      refine ⟨_, a, S, rfl, w.st (by walk_at "pick"), hS, fun _ hne F2 H2 w2 => ?_, fun _ heq F2 H2 w2 => ?_, fun hb => absurd hp hb⟩
      · replace w := w.cal (D := [shf K a S]) (by walk_at "pick") w2 (by walk_at "app") ads_shf
        walk_at "go"
        refine n_tup w (szle (by simp)) fun tt F6 H6 w => ?_
        exact q2 hne tt p0 _ _ hp0 (w.to (D := [fx tt (.tup [.non, .ref p0]), mu p0 (.lst []), shf K a S.del]) (by walk_at "pick"))
      · replace w := w.cal (D := [shf K a S]) (by walk_at "pick") w2 (by walk_at "app") ads_shf
        refine w_clY T.m_3 fun xa hxa => ?_
        try dsimp only [List.set_cons_succ, List.set_cons_zero]
        walk_at "go"
        refine ⟨_, _, _, false, rfl, rfl, .inl rfl, T.y_NoVersion, .own _, T.q_21, ?_⟩
        walk_at "go"
        refine ⟨_, _, _, false, rfl, rfl, .inl rfl, T.y_NoVersion, .own _, T.q_23, ?_⟩
        walk_at "go"
        refine ⟨_, _, _, false, rfl, rfl, .inl rfl, T.y_NoVersion, .own _, T.q_24, ?_⟩
        walk_at "go"
        refine n_lst w (szle (by simp)) fun pk F2 H2 w hpk => ?_
        walk_at "go"
        refine n_setL w (by walk_at "pick") 1 (by rfl) fun H3 w => ?_
        walk_at "go"
        refine ⟨_, _, _, true, rfl, rfl, .inl rfl, T.y_NoVersion, .own _, T.q_26, ?_⟩
        walk_at "go"
        refine ⟨_, _, _, true, rfl, rfl, .inl rfl, T.y_NoVersion, .ty _, T.q_27, ?_⟩
        walk_at "go"
        refine n_app w (by walk_at "pick") (small_lt (by show 3 ≤ 1000000; decide)) fun H4 w => ?_
        walk_at "go"
        replace w := w.to (D := [mu pk (.lst [.bl false, .bl false, .bl false, .bl true]), shf K a S]) (by walk_at "pick")
        refine n_lcR (n := 4) w (fun i ys L => ys = (pickW ["BadSize", "Busy", "NoSpare", "NoVersion"] [false, false, false, true] i).map V.str ∧ L = [mu pk (.lst [.bl false, .bl false, .bl false, .bl true]), shf K a S]) ⟨rfl, rfl⟩ (fun i ys L F' H' D hi hp w hD => ?_) (fun D ys L F' H' hp w hD => ?_)
        · obtain ⟨rfl, rfl⟩ := hp
          have hwl : (pickW ["BadSize", "Busy", "NoSpare", "NoVersion"] [false, false, false, true] i).length ≤ 4 := pickW_len
          obtain ⟨z, hz⟩ : ∃ z : Str, (["BadSize", "Busy", "NoSpare", "NoVersion"] : List Str)[i]? = some z := ⟨_, List.getElem?_eq_getElem hi⟩
          obtain ⟨bi, hb⟩ : ∃ bi, [false, false, false, true][i]? = some bi := ⟨_, List.getElem?_eq_getElem hi⟩
          have hx : [V.bl false, V.bl false, V.bl false, V.bl true][i]? = some (V.bl bi) := by
            rw [show [V.bl false, V.bl false, V.bl false, V.bl true] = [false, false, false, true].map V.bl from rfl, List.getElem?_map, hb]
            rfl
          have hn : [V.str "BadSize", V.str "Busy", V.str "NoSpare", V.str "NoVersion"][i]? = some (V.str z) := by
            rw [show [V.str "BadSize", V.str "Busy", V.str "NoSpare", V.str "NoVersion"] = (["BadSize", "Busy", "NoSpare", "NoVersion"] : List Str).map V.str from rfl, List.getElem?_map, hz]
            rfl
          walk_at "wp"
          walk_at "go"
          refine w_ixL _ _ (by walk_at "sq") (atI_nat hx) ?_
          walk_at "go"
          cases bi with
          | true =>
            walk_at "go"
            refine n_lst w (szle (by simp)) fun pn F5 H5 w hpn => ?_
            walk_at "go"
            refine w_ixL _ _ (by walk_at "sq") (atI_nat hn) ?_
            exact n_acc _ w ⟨by rw [pickW_T hz hb, List.map_append]; rfl, rfl⟩ (by walk_at "pk") (small_lt (by rw [List.length_map]; omega))
          | false =>
            walk_at "go"
            exact ⟨_, _, _, ⟨by rw [pickW_F hz hb], rfl⟩, w.to (by walk_at "pick")⟩
        obtain ⟨rfl, rfl⟩ := hp
        walk_at "go"
        intro na
        try dsimp only [List.set_cons_succ, List.set_cons_zero]
        replace w := w.nw (u := exk xa (.ref (He.ga K "NoVersion")) none) na
        walk_at "go"
        refine n_tup w (szle (by simp)) fun tt F6 H6 w => ?_
        rw [show pickW ["BadSize", "Busy", "NoSpare", "NoVersion"] _ 4 = (["NoVersion"] : List Str) from rfl] at w
        exact q1 heq tt D _ _ hD (w.to (D := [fx tt (.tup [.non, .ref D]), mu D (.lst [.str "NoVersion"]), shf K a S]) (by walk_at "pick"))
-- _law_looks_right
theorem ok_law_looks_right {f : Addr} {fd : FuncData} (F : FunD K "_law_looks_right" "_law_looks_right" (defArgs s_law_looks_right) (defBody s_law_looks_right) (defScope s_law_looks_right) [] [] f fd) (T : Txt K mg) (D_law_alike : DO P w K mg base 6 "_law_alike" ["found", "due"] [] (S2 (φalike K 6))) (DM_Change_done : DM P w K mg base 2 "Change" "done" ["self", "old"] [] (S2 (φdoneC K))) (DM_Shelf_at : DM P w K mg base 1 "Shelf" "at" ["self"] [] (S1 (φat K))) (DM_Shelf_between : DM P w K mg base 5 "Shelf" "between" ["self", "first", "last"] [] (S3 (φbetweenF K))) (DM_Shelf_text : DM P w K mg base 1 "Shelf" "text" ["self"] [] (S1 (φshtext K))) (DM_Shelf_versions : DM P w K mg base 1 "Shelf" "versions" ["self"] [] (S1 (φversions K))) : FnOk P w K mg base CX0 10 f fd ["shelf", "texts"] (S2 (φlooks61 K)) := by
  refine F.ok sc_law_looks_right (fun vs H Q E h => ?_) (fun cdv A outer s H vs Q E hr h => ?_)
  · exact S2.len h
  · match vs, h with
    | [v0, v1], h =>
    have hu := hu_of hr
    refine ⟨_, PSs.nox (pss_cons (ps_set (i := 2) sc_law_looks_right.nd rfl (.inl rfl) (pe_lst (pa_cons (pmeth0 DM_Shelf_versions hr (pv 0)) (pa_cons (pmeth0 DM_Shelf_at hr (pv 0)) (pa_cons (pmeth0 DM_Shelf_text hr (pv 0)) (pa_cons (pmeth DM_Change_done hr (pmeth DM_Shelf_between hr (pv 0) (pa_cons pe_int (pa_cons (pe_op op_sub (pe_callB (clLenQ (K := K)) (by rfl) T.b_len (by decide +kernel) (pa_cons (pv 1) pa_nil)) pe_int) pa_nil))) (pa_cons (pe_ix (ixL (K := K)) (pv 1) pe_int (fun _ _ => rfl)) pa_nil)) pa_nil))))))
      (pss_one (ps_ret (pcall D_law_alike hr (pa_cons (pv 2) (pa_cons (pe_lst (pa_cons (pe_callB (clLenQ (K := K)) (by rfl) T.b_len (by decide +kernel) (pa_cons (pv 1) pa_nil)) (pa_cons pe_int (pa_cons (pe_ix (ixL (K := K)) (pv 1) pe_int (fun _ _ => rfl)) (pa_cons (pe_ix (ixL (K := K)) (pv 1) (pe_un un_neg pe_int) (fun _ _ => rfl)) pa_nil))))) pa_nil)))))), ?_⟩
    rw [show start ["shelf", "texts", "found"] [v0, v1] = [some v0, some v1, none] from rfl]
    have kC := T.k_Change
    have kS := T.na_Change_size
    have kR := T.na_Change_rows
    
    obtain ⟨F, a, S, pt, rfl, rfl, s0, hS, hp, hst, q⟩ := h
    have w := s0.w (M := shAs a S.ph ++ [pt])
    obtain ⟨t0, ht0⟩ := chain_get hS.ch (i := 0) (Nat.zero_le _)
    obtain ⟨tl, htl⟩ := chain_get hS.ch (i := S.rss.length) (Nat.le_refl _)
    have hl := hS.ch.len
    have hn := hS.n
    have hnow : S.now = t0 := by
      have h := hS.now
      rw [hst, ht0] at h
      exact (Option.some.inj h).symm
    have e0 : (S.txs.map V.str)[0]? = some (.str t0) := by rw [List.getElem?_map, ht0]; rfl
    have el := last_txt hS.ch htl
    obtain ⟨a1, a2, a3⟩ := hS.mid (Nat.zero_le _) ht0 htl
    have okt := hS.ch.ok 0 t0 ht0
    have okl := hS.ch.ok _ tl htl
    have htl4 := okt.2
    walk_at "go"
    refine n_methS w (by walk_at "mem") (fun _ _ _ _ _ => rfl) ?_
    walk_at "go"
    refine ⟨_, a, S, rfl, w.st (by walk_at "pick"), by omega, fun F2 H2 w2 => ?_⟩
    replace w := w.cal (D := [shf K a S]) (by walk_at "pick") w2 (by walk_at "app") ads_shf
    walk_at "go"
    refine n_methS w (by walk_at "mem") (fun _ _ _ _ _ => rfl) ?_
    walk_at "go"
    refine ⟨_, a, S, rfl, w.st (by walk_at "pick"), fun F2 H2 w2 => ?_⟩
    replace w := w.cal (D := [shf K a S]) (by walk_at "pick") w2 (by walk_at "app") ads_shf
    rw [hp, hst]
    walk_at "go"
    refine n_methS w (by walk_at "mem") (fun _ _ _ _ _ => rfl) ?_
    walk_at "go"
    refine ⟨_, a, S, rfl, w.st (by walk_at "pick"), hp, fun F2 H2 w2 => ?_⟩
    replace w := w.cal (D := [shf K a S]) (by walk_at "pick") w2 (by walk_at "app") ads_shf
    rw [hnow]
    walk_at "go"
    refine n_methS w (by walk_at "mem") (fun _ _ _ _ _ => rfl) ?_
    walk_at "go"
    rw [show (((S.txs.map V.str).length : Nat) : Int) - 1 = ((S.rss.length : Nat) : Int) by rw [List.length_map]; omega]
    refine ⟨_, a, S, 0, S.rss.length, t0, rfl, rfl, rfl, w.st (by walk_at "pick"), hS, Nat.zero_le _, Nat.le_refl _, ht0, fun v1 F2 H2 w2 => ?_⟩
    replace w := w.cal (D := [shf K a S]) (by walk_at "pick") w2 (by walk_at "app") ads_shf
    
    have hC1 : Chg K _ v1 t0.length (plainL (cellsB S 0 S.rss.length t0.length)) := w.i (chg K v1 t0.length (plainL (cellsB S 0 S.rss.length t0.length))) (by walk_at "mem")
    obtain ⟨c1, dx1, r1, vs1, rfl, hc1, hr1, hD1⟩ := hC1
    replace w := ((w.push (fx c1 _) hc1).push (fx r1 (.lst vs1)) hr1).push (dpa K vs1 _) hD1
    unfold insC at w
    have okC := plain_ok a1 (by rw [a2]; exact okl.2)
    walk_at "go"
    refine w_ixL _ _ (by walk_at "sq") (atI_nat (j := 0) e0) ?_
    walk_at "go"
    
    refine ⟨_, t0, (plainL (cellsB S 0 S.rss.length t0.length)), rfl, w.fh, w.i (chg K (.ref c1) t0.length (plainL (cellsB S 0 S.rss.length t0.length))) (by walk_at "mem"), okC, okt.1, by omega, fun s1 F5 H5 w5 h_s1 ok_s1 => ?_⟩
    replace w := w.cal .nil w5 (by walk_at "app")
    walk_at "go"
    have es : s1 = tl := cd_inj (by rw [h_s1, plain_mk a1 (by rw [a2]; exact okl.2), a3])
    subst es
    refine n_lst w (szle (by simp)) fun p1 F5 H5 w hp1 => ?_
    walk_at "go"
    refine w_ixL _ _ (by walk_at "sq") (atI_nat (j := 0) e0) ?_
    walk_at "go"
    refine w_ixL _ _ (by walk_at "sq") (atI_neg1 el) ?_
    walk_at "go"
    refine n_lst w (szle (by simp)) fun p2 F5 H5 w hp2 => ?_
    rw [List.length_map] at w
    obtain ⟨F6, w⟩ := w.fzL (p := p1) (by walk_at "pick") hp1
    obtain ⟨F6, w⟩ := w.fzL (p := p2) (by walk_at "pick") hp2
    have gl := looks_good (i := (S.txs.length : Nat)) (j := 0) okt.1 okl.1 okt.2 okl.2
    walk_at "go"
    refine ⟨_, _, w.fh, .lst (sqL_of (w.i (fx p1 _) (by walk_at "mem"))) (.cons (.int _) (.cons (.int _) (.cons (.str _) (.cons (.str _) .nil)))), .lst (sqL_of (w.i (fx p2 _) (by walk_at "mem"))) (.cons (.int _) (.cons (.int _) (.cons (.str _) (.cons (.str _) .nil)))), gl.2, gl.1, fun F9 H9 g9 => ?_⟩
    replace w := w.gr0 g9
    exact q _ _ (w.to (by walk_at "pick"))
-- _law_taken_right
theorem ok_law_taken_right {f : Addr} {fd : FuncData} (F : FunD K "_law_taken_right" "_law_taken_right" (defArgs s_law_taken_right) (defBody s_law_taken_right) (defScope s_law_taken_right) [] [] f fd) (T : Txt K mg) (D_law_alike : DO P w K mg base 6 "_law_alike" ["found", "due"] [] (S2 (φalike K 6))) (D_law_cells : DO P w K mg base 1 "_law_cells" ["rows"] [] (S1 (φlcells61 K))) (D_law_done : DO P w K mg base 8 "_law_done" ["shelf", "deed"] [] (S2 (φdone61 K))) (D_law_draw : DO P w K mg base 2 "_law_draw" ["bag", "many"] [] (S2 (φdraw K))) (D_law_made : DO P w K mg base 1 "_law_made" ["cells", "old"] [] (S2 (φmade61 K))) (D_law_rows : DO P w K mg base 5 "_law_rows" ["bag", "size", "most"] [] (S3 (φrows61 K))) (DM_ChangeX_eqX : DM P w K mg base 6 "Change" "__eq__" ["self", "other"] [] (S2 (φceq K))) (DN_Change_2 : DN P w K mg base 2 "Change" ["self", "size", "rows"] [] (S3 (φinit K))) : FnOk P w K mg base CX0 10 f fd ["bag", "shelf", "texts"] (S3 (φtaken61 K)) := by
  refine F.ok sc_law_taken_right (fun vs H Q E h => ?_) (fun cdv A outer s H vs Q E hr h => ?_)
  · exact S3.len h
  · match vs, h with
    | [v0, v1, v2], h =>
    have hu := hu_of hr
    refine ⟨_, PSs.nox (pss_cons (ps_set (i := 3) sc_law_taken_right.nd rfl (.inl rfl) (pe_callB clLenS (by rfl) T.b_len (by decide +kernel) (pa_cons (pe_ix (ixL (K := K)) (pv 2) (pe_un un_neg pe_int) (fun _ _ => rfl)) pa_nil)))
      (pss_cons (ps_set (i := 4) sc_law_taken_right.nd rfl (.inl rfl) (pcall D_law_draw hr (pa_cons (pv 0) (pa_cons pe_int pa_nil))))
      (C8.pss_cut (ps_set (i := 5) sc_law_taken_right.nd rfl (.inl rfl) (pe_ifExp (pt_cmpR op_eq (pv 4) pe_int (nomark _)) (pe_ix (ixL (K := K)) (pe_lst (pa_cons (pe_op op_add (pv 3) pe_int) (pa_cons (pe_callB clMax2 (by rfl) T.b_max (by decide +kernel) (pa_cons pe_int (pa_cons (pe_op op_sub (pv 3) pe_int) pa_nil))) (pa_cons (pcall D_law_draw hr (pa_cons (pv 0) (pa_cons pe_int pa_nil))) pa_nil)))) (pcall D_law_draw hr (pa_cons (pv 0) (pa_cons pe_int pa_nil))) (fun _ _ => rfl)) (pv 3)))
      (pss_cons (ps_set (i := 5) sc_law_taken_right.nd rfl (.inl rfl) (pe_callB clMin2 (by rfl) T.b_min (by decide +kernel) (pa_cons (pv 5) (pa_cons pe_int pa_nil))))
      (pss_cons (ps_if (pt_cmpR op_eq (pv 4) pe_int (nomark _)) (pss_cons (ps_set (i := 6) sc_law_taken_right.nd rfl (.inl rfl) (pcall D_law_done hr (pa_cons (pv 1) (pa_cons (pe_tup (pa_cons pe_str pa_nil)) pa_nil))))
      (pss_cons (ps_set (i := 7) sc_law_taken_right.nd rfl (.inl rfl) (pe_tup (pa_cons pe_non (pa_cons (pe_ifExp (pt_cmpR op_eq (pe_callB (clLenQ (K := K)) (by rfl) T.b_len (by decide +kernel) (pa_cons (pv 2) pa_nil)) pe_int (nomark _)) (pe_lst (pa_cons pe_str pa_nil)) (pe_lst pa_nil)) pa_nil))))
      (pss_cons (ps_if (pt_cmpR op_gt (pe_callB (clLenQ (K := K)) (by rfl) T.b_len (by decide +kernel) (pa_cons (pv 2) pa_nil)) pe_int (nomark _)) (pss_one (ps_expr (peBM0 (K := K) PySem.F.plainAttrs_list PySem.F.slot_list_pop PySem.F.type_list_pop mt_pop (pv 2)))) pss_nil)
      (pss_one (ps_ret (pcall D_law_alike hr (pa_cons (pv 6) (pa_cons (pv 7) pa_nil)))))))) pss_nil)
      (pss_cons (ps_set (i := 8) sc_law_taken_right.nd rfl (.inl rfl) (pcall D_law_rows hr (pa_cons (pv 0) (pa_cons (pv 5) (pa_cons pe_int pa_nil)))))
      (pss_cons (ps_set (i := 9) sc_law_taken_right.nd rfl (.inl rfl) (pe_callTy (clListOf (K := K)) (by rfl) T.b_list (by decide +kernel) (pa_cons (pv 8) pa_nil)))
      (pss_cons (ps_set (i := 10) sc_law_taken_right.nd rfl (.inl rfl) (pmake DN_Change_2 hr (pa_cons (pv 5) (pa_cons (pv 9) pa_nil))))
      (pss_cons (ps_expr (peBM (K := K) PySem.F.plainAttrs_list PySem.F.slot_list_append PySem.F.type_list_append mt_append (pv 9) (pa_cons (pe_tup (pa_cons pe_str (pa_cons pe_str pa_nil))) pa_nil)))
      (pss_cons (ps_set (i := 6) sc_law_taken_right.nd rfl (.inl rfl) (pcall D_law_done hr (pa_cons (pv 1) (pa_cons (pe_tup (pa_cons pe_str (pa_cons (pv 10) pa_nil))) pa_nil))))
      (pss_cons (ps_if (pt_cmpR op_ne (pv 5) (pv 3) (nomark _)) (pss_one (ps_ret (pcall D_law_alike hr (pa_cons (pv 6) (pa_cons (pe_tup (pa_cons pe_non (pa_cons (pe_lst (pa_cons pe_str pa_nil)) pa_nil))) pa_nil))))) pss_nil)
      (pss_cons (ps_expr (peBM (K := K) PySem.F.plainAttrs_list PySem.F.slot_list_append PySem.F.type_list_append mt_append (pv 2) (pa_cons (pcall D_law_made hr (pa_cons (pcall D_law_cells hr (pa_cons (pv 8) pa_nil)) (pa_cons (pe_ix (ixL (K := K)) (pv 2) (pe_un un_neg pe_int) (fun _ _ => rfl)) pa_nil))) pa_nil)))
      (pss_one (ps_ret (pe_and (pcall D_law_alike hr (pa_cons (pv 6) (pa_cons (pe_tup (pa_cons (pe_op op_sub (pe_callB (clLenQ (K := K)) (by rfl) T.b_len (by decide +kernel) (pa_cons (pv 2) pa_nil)) pe_int) (pa_cons (pe_lst pa_nil) pa_nil))) pa_nil))) (pe_one (pe_cmpR (opEqO DM_ChangeX_eqX hr (by decide)) (pv 10) (pmake DN_Change_2 hr (pa_cons (pv 3) (pa_cons (pv 8) pa_nil))) (nomark _)))))))))))))))))), ?_⟩
    rw [show start ["bag", "shelf", "texts", "size", "way", "other", "found", "due", "rows", "handed", "made"] [v0, v1, v2] = [some v0, some v1, some v2, none, none, none, none, none, none, none, none] from rfl]
    have kC := T.k_Change
    have kS := T.na_Change_size
    have kR := T.na_Change_rows
    
    obtain ⟨F, b, a, S, pt, rfl, rfl, rfl, s0, hS, hphn, hst, hlt, q⟩ := h
    have w := s0.w (M := b :: (shAs a S.ph ++ [pt]))
    obtain ⟨tl, htl⟩ := chain_get hS.ch (i := S.rss.length) (Nat.le_refl _)
    have hl := hS.ch.len
    have el := last_txt hS.ch htl
    have okl := hS.ch.ok _ tl htl
    have okl2 := okl.2
    walk_at "go"
    refine w_ixL _ _ (by walk_at "sq") (atI_neg1 el) ?_
    walk_at "go"
    refine n_draw w (by walk_at "pick") (by decide) (by decide) fun way F1 H1 w wy0 wy1 => ?_
    walk_at "go"
    refine n_cut w (fun σ L => ∃ oi : Int, 0 ≤ oi ∧ oi ≤ 1000 ∧ σ = [some (.ref b), some (.ref a.c), some (.ref pt), some (.int (tl.length : Nat)), some (.int way), some (.int oi), none, none, none, none, none] ∧ L = [bag K b, shf K a S, mu pt (.lst (S.txs.map V.str))]) ?_ (fun σ L F' H' hp2 w => ?_)
    · walk_at "go"
      refine w_ite (fun h7 => ?_) (fun h7 => ?_)
      · walk_at "go"
        obtain ⟨mx, emx⟩ : ∃ mx, mx = (if ((tl.length : Nat) : Int) - 1 > 0 then ((tl.length : Nat) : Int) - 1 else 0) := ⟨_, rfl⟩
        have hmx : 0 ≤ mx ∧ mx ≤ 1000 := by split at emx <;> omega
        try rw [← emx]
        walk_at "go"
        refine n_draw w (by walk_at "pick") (by decide) (by decide) fun r1 F1 H1 w r10 r11 => ?_
        walk_at "go"
        refine n_lst w (szle (by simp)) fun p1 F1 H1 w hp1 => ?_
        walk_at "go"
        refine n_draw w (by walk_at "pick") (by decide) (by decide) fun r2 F1 H1 w r20 r21 => ?_
        obtain ⟨oi, eoi, oi0, oi1⟩ := pick_ix (ns := [((tl.length : Nat) : Int) + 1, mx, r1]) (lo := 0) (hi := 1000) r20 (by show r2 < 3; exact r21) (by
          intro x hx
          simp only [List.mem_cons, List.not_mem_nil, or_false] at hx
          rcases hx with rfl | rfl | rfl <;> omega)
        walk_at "go"
        refine w_ixL _ _ (by walk_at "sq") eoi ?_
        walk_at "go"
        exact nx_mk w ⟨oi, oi0, oi1, rfl, rfl⟩ (by walk_at "pk")
      · walk_at "go"
        exact nx_mk w ⟨_, by omega, by omega, rfl, rfl⟩ (by walk_at "pk")
    obtain ⟨oi, oi0, oi1, rfl, rfl⟩ := hp2
    walk_at "go"
    obtain ⟨ot, eot, hot⟩ : ∃ ot : Nat, (if (400 : Int) < oi then 400 else oi) = (ot : Int) ∧ ot ≤ 400 := by
      split
      · exact ⟨400, rfl, Nat.le_refl _⟩
      · exact ⟨oi.toNat, by omega, by omega⟩
    rw [eot]
    walk_at "go"
    refine w_ite (fun h6 => ?_) (fun h6 => ?_)
    · walk_at "go"
      refine n_tup w (szle (by simp)) fun td F1 H1 w => ?_
      walk_at "go"
      refine ⟨_, a, S, td, rfl, rfl, w.st (by walk_at "pick"), hS, hlt, .inr ⟨sqT_of (w.i (fx td _) (by walk_at "mem")), hphn, fun heq tt p F2 H2 hp2 w2 => ?_, fun hne tt p F2 H2 hp2 w2 => ?_⟩⟩
      · have hp := w.g.fresh hp2
        replace w := w.cal (D := [shf K a S]) (by walk_at "pick") w2 (by walk_at "app") ads_shf
        walk_at "go"
        rw [List.length_map, decide_eq_true (show ((S.txs.length : Nat) : Int) = 1 by omega)]
        walk_at "go"
        refine n_lst w (szle (by simp)) fun pd F3 H3 w hpd => ?_
        walk_at "go"
        refine n_tup w (szle (by simp)) fun td2 F4 H4 w => ?_
        walk_at "go"
        rw [List.length_map]
        refine w_iteF (by omega) ?_
        walk_at "go"
        obtain ⟨F8, w⟩ := w.fzL (p := p) (by walk_at "pick") hp
        obtain ⟨F8, w⟩ := w.fzL (p := pd) (by walk_at "pick") hpd
        have gl := ref_good (ws := ["NoVersion"]) (by intro x hx; rw [List.mem_singleton.mp hx]; exact ⟨by decide +kernel, by decide +kernel⟩) (by decide) .none rfl rfl
        refine ⟨_, _, w.fh, .tup (sqT_of (w.i (fx tt _) (by walk_at "mem"))) (.cons .non (.cons (.lst (sqL_of (w.i (fx p _) (by walk_at "mem"))) (strs_dpa ["NoVersion"])) .nil)), .tup (sqT_of (w.i (fx td2 _) (by walk_at "mem"))) (.cons .non (.cons (.lst (sqL_of (w.i (fx pd _) (by walk_at "mem"))) (strs_dpa ["NoVersion"])) .nil)), gl.2, gl.1, fun F9 H9 g9 => ?_⟩
        replace w := w.gr0 g9
        exact q S _ _ (w.to (by walk_at "pick")) hS hphn hst (by omega)
      · have hp := w.g.fresh hp2
        replace w := w.cal (D := [shf K a S]) (by walk_at "pick") w2 (by walk_at "app") ads_shf
        walk_at "go"
        rw [List.length_map, decide_eq_false (show ¬ ((S.txs.length : Nat) : Int) = 1 by omega)]
        walk_at "go"
        refine n_lst w (szle (by simp)) fun pd F3 H3 w hpd => ?_
        walk_at "go"
        refine n_tup w (szle (by simp)) fun td2 F4 H4 w => ?_
        walk_at "go"
        rw [List.length_map, decide_eq_true (show (1 : Int) < ((S.txs.length : Nat) : Int) by omega)]
        walk_at "go"
        obtain ⟨tx, tz, etx⟩ := snoc_of (show 0 < S.txs.length by omega)
        rw [show S.txs.map V.str = tx.map V.str ++ [V.str tz] by rw [etx, List.map_append]; rfl] at w
        refine n_pop w (by walk_at "pick") fun H5 w => ?_
        rw [show tx = S.del.txs by show tx = S.txs.dropLast; rw [etx, List.dropLast_concat]] at w
        walk_at "go"
        obtain ⟨F8, w⟩ := w.fzL (p := p) (by walk_at "pick") hp
        obtain ⟨F8, w⟩ := w.fzL (p := pd) (by walk_at "pick") hpd
        have gl := ref_good (ws := []) (by intro x hx; cases hx) (by decide) .none rfl rfl
        refine ⟨_, _, w.fh, .tup (sqT_of (w.i (fx tt _) (by walk_at "mem"))) (.cons .non (.cons (.lst (sqL_of (w.i (fx p _) (by walk_at "mem"))) (strs_dpa [])) .nil)), .tup (sqT_of (w.i (fx td2 _) (by walk_at "mem"))) (.cons .non (.cons (.lst (sqL_of (w.i (fx pd _) (by walk_at "mem"))) (strs_dpa [])) .nil)), gl.2, gl.1, fun F9 H9 g9 => ?_⟩
        replace w := w.gr0 g9
        exact q S.del _ _ (w.to (by walk_at "pick")) (hS.del hne) hphn hst (by show S.rss.dropLast.length ≤ _; rw [List.length_dropLast]; omega)
    · walk_at "go"
      refine ⟨_, b, ot, 400, rfl, rfl, rfl, w.st (by walk_at "pick"), hot, Nat.le_refl _, fun pr ys rows F2 H2 hpr w2 ok hg => ?_⟩
      have hpr := w.g.fresh hpr
      replace w := w.calB (by walk_at "pick") w2 (by walk_at "app")
      walk_at "go"
      refine n_listOf w (by walk_at "sq") fun ph F3 H3 w hph => ?_
      walk_at "go"
      refine n_make w fun c dx H5 w hc => ?_
      refine c_initS w (by walk_at "pick") (a := ph) (by walk_at "pick") hc (w.dpa (by walk_at "mem")) hot ok fun F5 H5 w => ?_
      walk_at "go"
      refine n_tup w (szle (by simp)) fun tq F3 H3 w => ?_
      walk_at "go"
      have hyl := dpa_len (w.dpa (K := K) (xs := ys) (ds := rows.map CRow.d) (by walk_at "mem"))
      rw [List.length_map] at hyl
      have hrl := ok.len
      refine n_app w (p := ph) (by walk_at "pick") (small_lt (by omega)) fun H6 w => ?_
      walk_at "go"
      refine n_tup w (szle (by simp)) fun td F7 H7 w => ?_
      obtain ⟨F7, w⟩ := w.fzL (p := pr) (by walk_at "pick") hpr
      walk_at "go"
      refine ⟨_, a, S, td, rfl, rfl, w.st (by walk_at "pick"), hS, hlt, .inl ⟨.ref c, ot, rows, tl, sqT_of (w.i (fx td _) (by walk_at "mem")), w.i (chg K (.ref c) ot rows) (by walk_at "mem"), ok, by omega, htl, fun hoe u hu oku tt p F2 H2 hp2 w2 => ?_, fun hne tt p F2 H2 hp2 w2 => ?_⟩⟩
      · have hp := w.g.fresh hp2
        replace w := w.cal (D := [shf K a S]) (by walk_at "pick") w2 (by walk_at "app") ads_shf
        walk_at "go"
        rw [decide_eq_true (show ((ot : Nat) : Int) = ((tl.length : Nat) : Int) by omega)]
        walk_at "go"
        have eo : ot = tl.length := by omega
        subst eo
        refine ⟨_, pr, ys, tl.length, rows, rfl, w.fh, sqL_of (w.i (fx pr _) (by walk_at "mem")), w.dpa (by walk_at "mem"), ok, by omega, fun pc F4 H4 hpc w4 => ?_⟩
        have hpc := w.g.fresh hpc
        replace w := w.cal .nil w4 (by walk_at "app")
        obtain ⟨F4, w⟩ := w.fzL (p := pc) (by walk_at "pick") hpc
        walk_at "go"
        refine w_ixL _ _ (by walk_at "sq") (atI_neg1 el) ?_
        walk_at "go"
        have hcl : (cellsV rows).length = givesL rows := cells_len rows
        refine ⟨_, pc, cellsV rows, tl, rfl, rfl, w.fh, sqL_of (w.i (fx pc _) (by walk_at "mem")), (fun v hv => by
          rw [cels_v] at hv
          obtain ⟨x, hx, rfl⟩ := List.mem_map.mp hv
          exact cel_cellok (cels_ok ok.ok x hx)), by omega, okl.1, by omega, fun s F5 H5 w5 hs oks => ?_⟩
        replace w := w.cal .nil w5 (by walk_at "app")
        have es : s = u := cd_inj (by rw [hs, outs_rows tl ok.ok, hu])
        subst es
        walk_at "go"
        refine n_app w (p := pt) (by walk_at "pick") (small_lt (by rw [List.length_map]; omega)) fun H6 w => ?_
        rw [show S.txs.map V.str ++ [V.str s] = (S.add s rows).txs.map V.str by show _ = (S.txs ++ [s]).map V.str; rw [List.map_append]; rfl] at w
        have hal : (S.add s rows).txs.length = S.rss.length + 2 := by show (S.txs ++ [s]).length = _; rw [List.length_append, hl]; rfl
        walk_at "go"
        rw [show ((((S.add s rows).txs.map V.str).length : Nat) : Int) - 1 = ((S.rss.length + 1 : Nat) : Int) by rw [List.length_map]; omega]
        refine n_lst w (szle (by simp)) fun pd F3 H3 w hpd => ?_
        walk_at "go"
        refine n_tup w (szle (by simp)) fun td2 F4 H4 w => ?_
        walk_at "go"
        obtain ⟨F8, w⟩ := w.fzL (p := p) (by walk_at "pick") hp
        obtain ⟨F8, w⟩ := w.fzL (p := pd) (by walk_at "pick") hpd
        have gl := ref_good (ws := []) (by intro x hx; cases hx) (by decide) (.int ((S.rss.length + 1 : Nat) : Int)) rfl rfl
        refine ⟨_, _, w.fh, .tup (sqT_of (w.i (fx tt _) (by walk_at "mem"))) (.cons (.int _) (.cons (.lst (sqL_of (w.i (fx p _) (by walk_at "mem"))) (strs_dpa [])) .nil)), .tup (sqT_of (w.i (fx td2 _) (by walk_at "mem"))) (.cons (.int _) (.cons (.lst (sqL_of (w.i (fx pd _) (by walk_at "mem"))) (strs_dpa [])) .nil)), gl.2, gl.1, fun F9 H9 g9 => ?_⟩
        replace w := w.gr0 g9
        walk_at "go"
        refine n_make w fun c2 dx2 H7 w hc2 => ?_
        refine c_init w (by walk_at "pick") hc2 (sqL_of (w.i (fx pr _) (by walk_at "mem"))) (w.dpa (by walk_at "mem")) hot ok fun F8 H8 w => ?_
        walk_at "go"
        obtain ⟨ca, da, ra, va, hce, hca, _, _⟩ := (w.i (chg K (.ref c) tl.length rows) (by walk_at "mem") : Chg K F8 (.ref c) tl.length rows)
        cases hce
        obtain ⟨cb, db, rb, vb, hcf, hcb, _, _⟩ := (w.i (chg K (.ref c2) tl.length rows) (by walk_at "mem") : Chg K F8 (.ref c2) tl.length rows)
        cases hcf
        refine n_eqO (w.fh _ _ hca) (w.fh _ _ hcb) ?_
        refine ⟨_, tl.length, rows, w.fh, w.i (chg K (.ref c) tl.length rows) (by walk_at "mem"), w.i (chg K (.ref c2) tl.length rows) (by walk_at "mem"), ok, fun F9 H9 w9 => ?_⟩
        replace w := w.cal .nil w9 (by walk_at "app")
        exact ⟨true, rfl, q (S.add s rows) _ _ (w.to (by walk_at "pick")) (hS.add hlt htl ok hu oku) hphn hst (by show (S.rss ++ [_]).length ≤ _; rw [List.length_append]; exact Nat.le_refl _)⟩
      · have hp := w.g.fresh hp2
        replace w := w.cal (D := [shf K a S]) (by walk_at "pick") w2 (by walk_at "app") ads_shf
        walk_at "go"
        rw [decide_eq_false (show ¬ ((ot : Nat) : Int) = ((tl.length : Nat) : Int) by omega)]
        walk_at "go"
        refine n_lst w (szle (by simp)) fun pd F3 H3 w hpd => ?_
        walk_at "go"
        refine n_tup w (szle (by simp)) fun td2 F4 H4 w => ?_
        walk_at "go"
        obtain ⟨F8, w⟩ := w.fzL (p := p) (by walk_at "pick") hp
        obtain ⟨F8, w⟩ := w.fzL (p := pd) (by walk_at "pick") hpd
        have gl := ref_good (ws := ["BadSize"]) (by intro x hx; rw [List.mem_singleton.mp hx]; exact ⟨by decide +kernel, by decide +kernel⟩) (by decide) .none rfl rfl
        refine ⟨_, _, w.fh, .tup (sqT_of (w.i (fx tt _) (by walk_at "mem"))) (.cons .non (.cons (.lst (sqL_of (w.i (fx p _) (by walk_at "mem"))) (strs_dpa ["BadSize"])) .nil)), .tup (sqT_of (w.i (fx td2 _) (by walk_at "mem"))) (.cons .non (.cons (.lst (sqL_of (w.i (fx pd _) (by walk_at "mem"))) (strs_dpa ["BadSize"])) .nil)), gl.2, gl.1, fun F9 H9 g9 => ?_⟩
        replace w := w.gr0 g9
        exact q S _ _ (w.to (by walk_at "pick")) hS hphn hst (by omega)
-- law
theorem ok_law {f : Addr} {fd : FuncData} (F : FunD K "law" "law" (defArgs s_law) (defBody s_law) (defScope s_law) [] [] f fd) (T : Txt K mg) (D_law_bag : DO P w K mg base 1 "_law_bag" ["script"] [] (S1 (φbag K))) (D_law_draw : DO P w K mg base 2 "_law_draw" ["bag", "many"] [] (S2 (φdraw K))) (D_law_looks_right : DO P w K mg base 10 "_law_looks_right" ["shelf", "texts"] [] (S2 (φlooks61 K))) (D_law_taken_right : DO P w K mg base 10 "_law_taken_right" ["bag", "shelf", "texts"] [] (S3 (φtaken61 K))) (D_law_text : DO P w K mg base 3 "_law_text" ["bag", "many"] [] (S2 (φtextN K))) (DN_Shelf_1 : DN P w K mg base 1 "Shelf" ["self", "text", "spare"] [.int 1] (S3 (φshinit K))) : FnOk P w K mg base CX0 11 f fd ["script"] (S1 (φlaw K)) := by
  refine F.ok sc_law (fun vs H Q E h => ?_) (fun cdv A outer s H vs Q E hr h => ?_)
  · exact S1.len h
  · match vs, h with
    | [v0], h =>
    have hu := hu_of hr
    refine ⟨_, PSs.nox (pss_cons (ps_set (i := 1) sc_law.nd rfl (.inl rfl) (pcall D_law_bag hr (pa_cons (pv 0) pa_nil)))
      (pss_cons (ps_set (i := 2) sc_law.nd rfl (.inl rfl) (pe_ix (ixL (K := K)) (pe_lst (pa_cons (pcall D_law_draw hr (pa_cons (pv 1) (pa_cons pe_int pa_nil))) (pa_cons (pcall D_law_draw hr (pa_cons (pv 1) (pa_cons pe_int pa_nil))) pa_nil))) (pe_op op_fdivW (pcall D_law_draw hr (pa_cons (pv 1) (pa_cons pe_int pa_nil))) pe_int) (fun _ _ => rfl)))
      (pss_cons (ps_set (i := 3) sc_law.nd rfl (.inl rfl) (pe_lst (pa_cons (pcall D_law_text hr (pa_cons (pv 1) (pa_cons (pv 2) pa_nil))) pa_nil)))
      (pss_cons (ps_set (i := 4) sc_law.nd rfl (.inl rfl) (pmake DN_Shelf_1 hr (pa_cons (pe_ix (ixL (K := K)) (pv 3) pe_int (fun _ _ => rfl)) pa_nil)))
      (pss_cons (ps_if (pt_not (pt_val (pcall D_law_looks_right hr (pa_cons (pv 4) (pa_cons (pv 3) pa_nil))))) (pss_one (ps_ret pe_bl)) pss_nil)
      (pss_cons (ps_for PassesOwn.never rfl (pi_range1 rfl T.b_range (pa_cons pe_int pa_nil)) (pg_name (i := 5) sc_law.nd rfl (.inl rfl)) (pss_one (ps_if (PW.pt (pw_or (pt_not (pt_val (pcall D_law_taken_right hr (pa_cons (pv 1) (pa_cons (pv 4) (pa_cons (pv 3) pa_nil)))))) (pw_or1 (pt_not (pt_val (pcall D_law_looks_right hr (pa_cons (pv 4) (pa_cons (pv 3) pa_nil)))))))) (pss_one (ps_ret pe_bl)) pss_nil)))
      (pss_one (ps_ret pe_bl)))))))), ?_⟩
    rw [show start ["script", "bag", "many", "texts", "shelf", "k"] [v0] = [some v0, none, none, none, none, none] from rfl]
    have kC := T.k_Change
    have kS := T.na_Change_size
    have kR := T.na_Change_rows
    
    obtain ⟨sc, ns, rfl, hS, hl, q⟩ := h
    walk_at "go"
    refine ⟨sc, ns, rfl, hS, hl, fun b F1 H1 g1 hb => ?_⟩
    have w := W.bag0 g1 hb
    walk_at "go"
    refine n_draw w (by walk_at "pick") (by decide) (by decide) fun r1 F1 H1 w r10 r11 => ?_
    walk_at "go"
    refine n_draw w (by walk_at "pick") (by decide) (by decide) fun r2 F1 H1 w r20 r21 => ?_
    walk_at "go"
    refine n_lst w (szle (by simp)) fun p1 F1 H1 w hp1 => ?_
    walk_at "go"
    refine n_draw w (by walk_at "pick") (by decide) (by decide) fun r3 F1 H1 w r30 r31 => ?_
    obtain ⟨many, em, m0, m1⟩ := pick_ix (ns := [r1, r2]) (i := r3 / 7) (lo := 0) (hi := 400) (by omega) (by show r3 / 7 < 2; omega) (by
      intro x hx
      simp only [List.mem_cons, List.not_mem_nil, or_false] at hx
      rcases hx with rfl | rfl <;> omega)
    walk_at "go"
    refine w_ixL _ _ (by walk_at "sq") em ?_
    walk_at "go"
    refine ⟨_, b, many, rfl, rfl, w.st (by walk_at "pick"), m0, by omega, fun s F2 H2 w2 hsl oks => ?_⟩
    replace w := w.calB (by walk_at "pick") w2 (by walk_at "app")
    walk_at "go"
    refine n_lst w (szle (by simp)) fun pt F1 H1 w hpt => ?_
    walk_at "go"
    refine n_make w fun c dx H5 w hc => ?_
    refine ⟨_, c, dx, s, 1, rfl, rfl, rfl, w.st (by walk_at "pick"), oks, by omega, fun a F2 H2 ha w2 hn2 => ⟨rfl, ?_⟩⟩
    subst ha
    replace w := w.cal (D := [mu a.c (.ins (He.ga K "Shelf") dx [])]) (by walk_at "pick") w2 (by walk_at "app")
    replace w := w.to (D := [bag K b, shf K a ⟨1, [s], [], s, 0, none⟩, mu pt (.lst [.str s])]) (by walk_at "pick")
    have hs0 : ShOk ⟨1, [s], [], s, 0, none⟩ := ⟨chain_one oks (by omega), rfl, Nat.zero_le _, by show 1 ≤ 1000; decide⟩
    walk_at "go"
    refine ⟨_, a, ⟨1, [s], [], s, 0, none⟩, pt, rfl, rfl, w.st (by walk_at "pick"), hs0, rfl, rfl, fun F3 H3 w3 => ?_⟩
    replace w := w.cal (D := [shf K a ⟨1, [s], [], s, 0, none⟩, mu pt (.lst [.str s])]) (by walk_at "pick") w3 (by walk_at "app")
    walk_at "go"
    refine n_forR (n := 8) w (fun i σ L => ∃ (S : ShS) (y5 : Option V), ShOk S ∧ S.ph = none ∧ S.stand = 0 ∧ S.rss.length ≤ i ∧ σ = [some (.ref sc), some (.ref b), some (.int many), some (.ref pt), some (.ref a.c), y5] ∧ L = [bag K b, shf K a S, mu pt (.lst (S.txs.map V.str))]) ⟨_, none, hs0, rfl, rfl, Nat.le_refl _, rfl, rfl⟩ (fun i σ L F' H' hi hp w => ?_) (fun σ L F' H' hp w => ?_)
    · obtain ⟨S, y5, hSo, hph, hst, hln, rfl, rfl⟩ := hp
      walk_at "go"
      refine ⟨_, b, a, S, pt, rfl, rfl, rfl, w.st (by walk_at "pick"), hSo, hph, hst, by omega, fun S2 F2 H2 w2 h1 h2 h3 h4 => ?_⟩
      replace w := w.cal (D := [bag K b, shf K a S, mu pt (.lst (S.txs.map V.str))]) (by walk_at "pick") w2 (by walk_at "app")
      walk_at "go"
      refine ⟨_, a, S2, pt, rfl, rfl, w.st (by walk_at "pick"), h1, h2, h3, fun F3 H3 w3 => ?_⟩
      replace w := w.cal (D := [shf K a S2, mu pt (.lst (S2.txs.map V.str))]) (by walk_at "pick") w3 (by walk_at "app")
      walk_at "go"
      exact nx_mk w ⟨S2, _, h1, h2, h3, by omega, rfl, rfl⟩ (by walk_at "pk")
    · obtain ⟨S, y5, hSo, hph, hst, hln, rfl, rfl⟩ := hp
      walk_at "go"
      exact q _
end
theorem facts {P : Program} {w : World} {K : PySem.W.Frag} {mg : Str → Option Value} {h : Heap} {f : Addr} (X : K.In h) (G : h.Ns mainGlobals mg) (hfa : mg ("law" : Str) = some (.ref f)) (c : He.SaysD fa fn K) (ex : exB K = true) :
    ∃ fd : FuncData, (∀ (s : Shared) (v : Value), BindsTo s fd ⟨[v], []⟩ [("script", v)]) ∧ ∀ base : Heap, K.In base → base.Ns mainGlobals mg → FnOk P w K mg base CX0 11 f fd ["script"] (S1 (φlaw K)) := by
  unfold exB at ex
  simp only [Bool.and_eq_true] at ex
  have T : Txt K mg := ⟨He.free_ok X G (c.fact 0 (f := .free "KeyError") rfl), He.free_ok X G (c.fact 1 (f := .free "RuntimeError") rfl), He.free_ok X G (c.fact 2 (f := .free "ValueError") rfl), He.free_ok X G (c.fact 3 (f := .free "abs") rfl), He.free_ok X G (c.fact 4 (f := .free "all") rfl), He.free_ok X G (c.fact 5 (f := .free "bool") rfl), He.free_ok X G (c.fact 6 (f := .free "int") rfl), He.free_ok X G (c.fact 7 (f := .free "isinstance") rfl), He.free_ok X G (c.fact 8 (f := .free "len") rfl), He.free_ok X G (c.fact 9 (f := .free "list") rfl), He.free_ok X G (c.fact 10 (f := .free "max") rfl), He.free_ok X G (c.fact 11 (f := .free "min") rfl), He.free_ok X G (c.fact 12 (f := .free "range") rfl), He.free_ok X G (c.fact 13 (f := .free "set") rfl), He.free_ok X G (c.fact 14 (f := .free "sorted") rfl), He.free_ok X G (c.fact 15 (f := .free "str") rfl), He.free_ok X G (c.fact 16 (f := .free "tuple") rfl), He.int_ok X G (c.fact 17 (f := .int "MOST_changes" 400) rfl), He.cls_ok (c.fact 37 (f := .cls "Change") rfl), He.noat_ok (c.fact 39 (f := .noat "Change" "size") rfl), He.noat_ok (c.fact 40 (f := .noat "Change" "rows") rfl), He.glo_ok X G (c.fact 36 (f := .glo "Change") rfl), insB_ok (He.cls_ok (c.fact 37 (f := .cls "Change") rfl)) ex.1, He.cls_ok (c.fact 45 (f := .cls "Shelf") rfl), He.noat_ok (c.fact 47 (f := .noat "Shelf" "slots") rfl), He.noat_ok (c.fact 48 (f := .noat "Shelf" "texts") rfl), He.noat_ok (c.fact 49 (f := .noat "Shelf" "ways") rfl), He.noat_ok (c.fact 50 (f := .noat "Shelf" "now") rfl), He.noat_ok (c.fact 51 (f := .noat "Shelf" "stand") rfl), He.noat_ok (c.fact 52 (f := .noat "Shelf" "goal") rfl), He.noat_ok (c.fact 53 (f := .noat "Shelf" "runner") rfl), ec_ok (He.glo_ok X G (c.fact 61 (f := .glo "BadSize") rfl)) (He.exc_ok (c.fact 62 (f := .exc "BadSize") rfl)) (He.exm_ok (c.fact 63 (f := .exm "BadSize" "BadSize" true) rfl)), He.glo_ok X G (c.fact 61 (f := .glo "BadSize") rfl), He.glo_ok X G (c.fact 64 (f := .glo "Busy") rfl), He.glo_ok X G (c.fact 65 (f := .glo "NoSpare") rfl), He.glo_ok X G (c.fact 66 (f := .glo "NoVersion") rfl), (excB_ok ex.2.1), (excB_ok ex.2.2.1), (excB_ok ex.2.2.2.1), (excB_ok ex.2.2.2.2.1), (ecbB_ok (He.glo_ok X G (c.fact 66 (f := .glo "NoVersion") rfl)) ex.2.2.2.2.2.1), (ecbB_ok (He.glo_ok X G (c.fact 64 (f := .glo "Busy") rfl)) ex.2.2.2.2.2.2.1), (of_decide_eq_true ex.2.2.2.2.2.2.2.1), (of_decide_eq_true ex.2.2.2.2.2.2.2.2.1), (of_decide_eq_true ex.2.2.2.2.2.2.2.2.2.1), (of_decide_eq_true ex.2.2.2.2.2.2.2.2.2.2.1), (of_decide_eq_true ex.2.2.2.2.2.2.2.2.2.2.2.1), (of_decide_eq_true ex.2.2.2.2.2.2.2.2.2.2.2.2.1), (of_decide_eq_true ex.2.2.2.2.2.2.2.2.2.2.2.2.2.1), (of_decide_eq_true ex.2.2.2.2.2.2.2.2.2.2.2.2.2.2.1), (of_decide_eq_true ex.2.2.2.2.2.2.2.2.2.2.2.2.2.2.2.1), (of_decide_eq_true ex.2.2.2.2.2.2.2.2.2.2.2.2.2.2.2.2.1), (of_decide_eq_true ex.2.2.2.2.2.2.2.2.2.2.2.2.2.2.2.2.2.1), (of_decide_eq_true ex.2.2.2.2.2.2.2.2.2.2.2.2.2.2.2.2.2.2.1), (of_decide_eq_true ex.2.2.2.2.2.2.2.2.2.2.2.2.2.2.2.2.2.2.2.1), (of_decide_eq_true ex.2.2.2.2.2.2.2.2.2.2.2.2.2.2.2.2.2.2.2.2.1), (of_decide_eq_true ex.2.2.2.2.2.2.2.2.2.2.2.2.2.2.2.2.2.2.2.2.2.1), (of_decide_eq_true ex.2.2.2.2.2.2.2.2.2.2.2.2.2.2.2.2.2.2.2.2.2.2.1), (of_decide_eq_true ex.2.2.2.2.2.2.2.2.2.2.2.2.2.2.2.2.2.2.2.2.2.2.2.1), (of_decide_eq_true ex.2.2.2.2.2.2.2.2.2.2.2.2.2.2.2.2.2.2.2.2.2.2.2.2.1), (of_decide_eq_true ex.2.2.2.2.2.2.2.2.2.2.2.2.2.2.2.2.2.2.2.2.2.2.2.2.2.1), (of_decide_eq_true ex.2.2.2.2.2.2.2.2.2.2.2.2.2.2.2.2.2.2.2.2.2.2.2.2.2.2.1), (of_decide_eq_true ex.2.2.2.2.2.2.2.2.2.2.2.2.2.2.2.2.2.2.2.2.2.2.2.2.2.2.2.1), (of_decide_eq_true ex.2.2.2.2.2.2.2.2.2.2.2.2.2.2.2.2.2.2.2.2.2.2.2.2.2.2.2.2.1), (of_decide_eq_true ex.2.2.2.2.2.2.2.2.2.2.2.2.2.2.2.2.2.2.2.2.2.2.2.2.2.2.2.2.2.1), (of_decide_eq_true ex.2.2.2.2.2.2.2.2.2.2.2.2.2.2.2.2.2.2.2.2.2.2.2.2.2.2.2.2.2.2.1), (of_decide_eq_true ex.2.2.2.2.2.2.2.2.2.2.2.2.2.2.2.2.2.2.2.2.2.2.2.2.2.2.2.2.2.2.2.1), (of_decide_eq_true ex.2.2.2.2.2.2.2.2.2.2.2.2.2.2.2.2.2.2.2.2.2.2.2.2.2.2.2.2.2.2.2.2.1), (of_decide_eq_true ex.2.2.2.2.2.2.2.2.2.2.2.2.2.2.2.2.2.2.2.2.2.2.2.2.2.2.2.2.2.2.2.2.2.1), (of_decide_eq_true ex.2.2.2.2.2.2.2.2.2.2.2.2.2.2.2.2.2.2.2.2.2.2.2.2.2.2.2.2.2.2.2.2.2.2.1), (of_decide_eq_true ex.2.2.2.2.2.2.2.2.2.2.2.2.2.2.2.2.2.2.2.2.2.2.2.2.2.2.2.2.2.2.2.2.2.2.2.1), (of_decide_eq_true ex.2.2.2.2.2.2.2.2.2.2.2.2.2.2.2.2.2.2.2.2.2.2.2.2.2.2.2.2.2.2.2.2.2.2.2.2.1), (of_decide_eq_true ex.2.2.2.2.2.2.2.2.2.2.2.2.2.2.2.2.2.2.2.2.2.2.2.2.2.2.2.2.2.2.2.2.2.2.2.2.2.1), (of_decide_eq_true ex.2.2.2.2.2.2.2.2.2.2.2.2.2.2.2.2.2.2.2.2.2.2.2.2.2.2.2.2.2.2.2.2.2.2.2.2.2.2.1)⟩
  obtain ⟨fd_gives, F_gives⟩ := c.def_ 0 (d := d_gives) rfl
  obtain ⟨fd_ChangeX_initX, F_ChangeX_initX⟩ := c.def_ 1 (d := d_ChangeX_initX) rfl
  obtain ⟨fd_ChangeX_eqX, F_ChangeX_eqX⟩ := c.def_ 2 (d := d_ChangeX_eqX) rfl
  obtain ⟨fd_Change_cells, F_Change_cells⟩ := c.def_ 3 (d := d_Change_cells) rfl
  obtain ⟨fd_Change_done, F_Change_done⟩ := c.def_ 4 (d := d_Change_done) rfl
  obtain ⟨fd_rows_of, F_rows_of⟩ := c.def_ 5 (d := d_rows_of) rfl
  obtain ⟨fd_plainest, F_plainest⟩ := c.def_ 6 (d := d_plainest) rfl
  obtain ⟨fd_behind, F_behind⟩ := c.def_ 7 (d := d_behind) rfl
  obtain ⟨fd_whole_copy, F_whole_copy⟩ := c.def_ 8 (d := d_whole_copy) rfl
  obtain ⟨fd_ShelfX_initX, F_ShelfX_initX⟩ := c.def_ 9 (d := d_ShelfX_initX) rfl
  obtain ⟨fd_Shelf_take_r, F_Shelf_take_r⟩ := c.def_ 10 (d := d_Shelf_take_r) rfl
  obtain ⟨fd_Shelf_need_version, F_Shelf_need_version⟩ := c.def_ 11 (d := d_Shelf_need_version) rfl
  obtain ⟨fd_Shelf_between, F_Shelf_between⟩ := c.def_ 12 (d := d_Shelf_between) rfl
  obtain ⟨fd_Shelf_at, F_Shelf_at⟩ := c.def_ 13 (d := d_Shelf_at) rfl
  obtain ⟨fd_Shelf_text, F_Shelf_text⟩ := c.def_ 14 (d := d_Shelf_text) rfl
  obtain ⟨fd_Shelf_drop_r, F_Shelf_drop_r⟩ := c.def_ 15 (d := d_Shelf_drop_r) rfl
  obtain ⟨fd_Shelf_versions, F_Shelf_versions⟩ := c.def_ 16 (d := d_Shelf_versions) rfl
  obtain ⟨fd_law_bag, F_law_bag⟩ := c.def_ 17 (d := d_law_bag) rfl
  obtain ⟨fd_law_stirred, F_law_stirred⟩ := c.def_ 18 (d := d_law_stirred) rfl
  obtain ⟨fd_law_draw, F_law_draw⟩ := c.def_ 19 (d := d_law_draw) rfl
  obtain ⟨fd_law_alike, F_law_alike⟩ := c.def_ 20 (d := d_law_alike) rfl
  obtain ⟨fd_law_text, F_law_text⟩ := c.def_ 21 (d := d_law_text) rfl
  obtain ⟨fd_law_parts, F_law_parts⟩ := c.def_ 22 (d := d_law_parts) rfl
  obtain ⟨fd_law_rows, F_law_rows⟩ := c.def_ 23 (d := d_law_rows) rfl
  obtain ⟨fd_law_cells, F_law_cells⟩ := c.def_ 24 (d := d_law_cells) rfl
  obtain ⟨fd_law_made, F_law_made⟩ := c.def_ 25 (d := d_law_made) rfl
  obtain ⟨fd_law_done, F_law_done⟩ := c.def_ 26 (d := d_law_done) rfl
  obtain ⟨fd_law_looks_right, F_law_looks_right⟩ := c.def_ 27 (d := d_law_looks_right) rfl
  obtain ⟨fd_law_taken_right, F_law_taken_right⟩ := c.def_ 28 (d := d_law_taken_right) rfl
  obtain ⟨fd_law, F_law⟩ := c.def_ 29 (d := d_law) rfl
  have D_gives : ∀ base, DO P w K mg base 1 "gives" ["row", "size"] [] (S2 (φgives K)) := fun base => ⟨_, _, [], ok_gives F_gives T , He.glo_ok X G (c.fact 18 (f := .glo "gives") rfl), F_gives.kp, F_gives.bindsN fun _ _ _ _ _ _ us hl => match us, hl with | [_, _], _ => rfl, .nil⟩
  have DN_Change_2 : ∀ base, DN P w K mg base 2 "Change" ["self", "size", "rows"] [] (S3 (φinit K)) := fun base => ⟨_, [], ok_ChangeX_initX F_ChangeX_initX T (D_gives base), He.mkr_ok (c.fact 38 (f := .mkr "Change") rfl), He.glo_ok X G (c.fact 36 (f := .glo "Change") rfl), F_ChangeX_initX.bindsN fun _ _ _ _ _ _ us hl => match us, hl with | [_, _, _], _ => rfl, .nil⟩
  have DM_ChangeX_eqX : ∀ base, DM P w K mg base 6 "Change" "__eq__" ["self", "other"] [] (S2 (φceq K)) := fun base => ⟨_, [], ok_ChangeX_eqX F_ChangeX_eqX T , He.meth_ok (c.fact 41 (f := .meth "Change" "__eq__") rfl), T.k_Change, F_ChangeX_eqX.bindsN fun _ _ _ _ _ _ us hl => match us, hl with | [_, _], _ => rfl, .nil⟩
  have DM_Change_cells : ∀ base, DM P w K mg base 1 "Change" "cells" ["self"] [] (S1 (φcells K)) := fun base => ⟨_, [], ok_Change_cells F_Change_cells T , He.meth_ok (c.fact 42 (f := .meth "Change" "cells") rfl), T.k_Change, F_Change_cells.bindsN fun _ _ _ _ _ _ us hl => match us, hl with | [_], _ => rfl, .nil⟩
  have DM_Change_done : ∀ base, DM P w K mg base 2 "Change" "done" ["self", "old"] [] (S2 (φdoneC K)) := fun base => ⟨_, [], ok_Change_done F_Change_done T (DM_Change_cells base), He.meth_ok (c.fact 43 (f := .meth "Change" "done") rfl), T.k_Change, F_Change_done.bindsN fun _ _ _ _ _ _ us hl => match us, hl with | [_, _], _ => rfl, .nil⟩
  have D_rows_of : ∀ base, DO P w K mg base 1 "rows_of" ["cells"] [] (S1 (φrows_of K)) := fun base => ⟨_, _, [], ok_rows_of F_rows_of T , He.glo_ok X G (c.fact 19 (f := .glo "rows_of") rfl), F_rows_of.kp, F_rows_of.bindsN fun _ _ _ _ _ _ us hl => match us, hl with | [_], _ => rfl, .nil⟩
  have D_plainest : ∀ base, DO P w K mg base 4 "plainest" ["change"] [] (S1 (φplainest K)) := fun base => ⟨_, _, [], ok_plainest F_plainest T (D_rows_of base) (DM_Change_cells base) (DN_Change_2 base), He.glo_ok X G (c.fact 20 (f := .glo "plainest") rfl), F_plainest.kp, F_plainest.bindsN fun _ _ _ _ _ _ us hl => match us, hl with | [_], _ => rfl, .nil⟩
  have D_behind : ∀ base, DO P w K mg base 4 "behind" ["first", "second"] [] (S2 (φbehind K)) := fun base => ⟨_, _, [], ok_behind F_behind T (D_rows_of base) (DM_Change_cells base) (DN_Change_2 base), He.glo_ok X G (c.fact 21 (f := .glo "behind") rfl), F_behind.kp, F_behind.bindsN fun _ _ _ _ _ _ us hl => match us, hl with | [_, _], _ => rfl, .nil⟩
  have D_whole_copy : ∀ base, DO P w K mg base 4 "whole_copy" ["size"] [] (S1 (φwhole_copy K)) := fun base => ⟨_, _, [], ok_whole_copy F_whole_copy T (DN_Change_2 base), He.glo_ok X G (c.fact 22 (f := .glo "whole_copy") rfl), F_whole_copy.kp, F_whole_copy.bindsN fun _ _ _ _ _ _ us hl => match us, hl with | [_], _ => rfl, .nil⟩
  have DN_Shelf_1 : ∀ base, DN P w K mg base 1 "Shelf" ["self", "text", "spare"] [.int 1] (S3 (φshinit K)) := fun base => by
    obtain ⟨ds, rd, bd⟩ := FunD.binds1 F_ShelfX_initX (ps := ["self", "text", "spare"]) 2 0 (by intro z; cases z) rfl (fun T' kV doc pm an cdv ct us its hu hi => match us, its, hu, hi with | [_, _], [_], _, _ => ⟨_, rfl, rfl⟩)
    exact ⟨_, ds, ok_ShelfX_initX F_ShelfX_initX T , He.mkr_ok (c.fact 46 (f := .mkr "Shelf") rfl), He.glo_ok X G (c.fact 44 (f := .glo "Shelf") rfl), bd, rd⟩
  have DX_Shelf_take_r : ∀ base, DMXN P w K mg base 6 "Shelf" "take" ["self", "change"] (SX2 (φtakeX K)) := fun base => ⟨_, ok_Shelf_take_r F_Shelf_take_r T (D_plainest base) (DM_Change_done base), He.meth_ok (c.fact 54 (f := .meth "Shelf" "take") rfl), T.k_Shelf, F_Shelf_take_r.bindsN fun _ _ _ _ _ _ us hl => match us, hl with | [_, _], _ => rfl⟩
  have DXK_Shelf_take_r_change : ∀ base, DMKXN P w K mg base 6 "Shelf" "take" ["self", "change"] ["change"] [(0, 0), (1, 0)] [] (SX2 (φtakeX K)) := fun base => ⟨_, [], ok_Shelf_take_r F_Shelf_take_r T (D_plainest base) (DM_Change_done base), He.meth_ok (c.fact 54 (f := .meth "Shelf" "take") rfl), T.k_Shelf, kbN F_Shelf_take_r (fun _ _ _ _ _ _ us ws hu hw => match us, ws, hu, hw with | [_], [_], _, _ => rfl)⟩
  have DM_Shelf_need_version : ∀ base, DM P w K mg base 1 "Shelf" "need_version" ["self", "version"] [] (S2 (φneed K)) := fun base => ⟨_, [], ok_Shelf_need_version F_Shelf_need_version T , He.meth_ok (c.fact 55 (f := .meth "Shelf" "need_version") rfl), T.k_Shelf, F_Shelf_need_version.bindsN fun _ _ _ _ _ _ us hl => match us, hl with | [_, _], _ => rfl, .nil⟩
  have DM_Shelf_between : ∀ base, DM P w K mg base 5 "Shelf" "between" ["self", "first", "last"] [] (S3 (φbetweenF K)) := fun base => ⟨_, [], ok_Shelf_between F_Shelf_between T (D_behind base) (D_whole_copy base) (DM_Shelf_need_version base), He.meth_ok (c.fact 56 (f := .meth "Shelf" "between") rfl), T.k_Shelf, F_Shelf_between.bindsN fun _ _ _ _ _ _ us hl => match us, hl with | [_, _, _], _ => rfl, .nil⟩
  have DM_Shelf_at : ∀ base, DM P w K mg base 1 "Shelf" "at" ["self"] [] (S1 (φat K)) := fun base => ⟨_, [], ok_Shelf_at F_Shelf_at T , He.meth_ok (c.fact 57 (f := .meth "Shelf" "at") rfl), T.k_Shelf, F_Shelf_at.bindsN fun _ _ _ _ _ _ us hl => match us, hl with | [_], _ => rfl, .nil⟩
  have DM_Shelf_text : ∀ base, DM P w K mg base 1 "Shelf" "text" ["self"] [] (S1 (φshtext K)) := fun base => ⟨_, [], ok_Shelf_text F_Shelf_text T , He.meth_ok (c.fact 58 (f := .meth "Shelf" "text") rfl), T.k_Shelf, F_Shelf_text.bindsN fun _ _ _ _ _ _ us hl => match us, hl with | [_], _ => rfl, .nil⟩
  have DX_Shelf_drop_r : ∀ base, DMXN P w K mg base 2 "Shelf" "drop" ["self"] (SX1 (φdropX K)) := fun base => ⟨_, ok_Shelf_drop_r F_Shelf_drop_r T , He.meth_ok (c.fact 59 (f := .meth "Shelf" "drop") rfl), T.k_Shelf, F_Shelf_drop_r.bindsN fun _ _ _ _ _ _ us hl => match us, hl with | [_], _ => rfl⟩
  have DM_Shelf_versions : ∀ base, DM P w K mg base 1 "Shelf" "versions" ["self"] [] (S1 (φversions K)) := fun base => ⟨_, [], ok_Shelf_versions F_Shelf_versions T , He.meth_ok (c.fact 60 (f := .meth "Shelf" "versions") rfl), T.k_Shelf, F_Shelf_versions.bindsN fun _ _ _ _ _ _ us hl => match us, hl with | [_], _ => rfl, .nil⟩
  have D_law_bag : ∀ base, DO P w K mg base 1 "_law_bag" ["script"] [] (S1 (φbag K)) := fun base => ⟨_, _, [], ok_law_bag F_law_bag T , He.glo_ok X G (c.fact 23 (f := .glo "_law_bag") rfl), F_law_bag.kp, F_law_bag.bindsN fun _ _ _ _ _ _ us hl => match us, hl with | [_], _ => rfl, .nil⟩
  have D_law_stirred : ∀ base, DO P w K mg base 1 "_law_stirred" ["bag", "many"] [] (S2 (φdraw K)) := fun base => ⟨_, _, [], ok_law_stirred F_law_stirred T , He.glo_ok X G (c.fact 24 (f := .glo "_law_stirred") rfl), F_law_stirred.kp, F_law_stirred.bindsN fun _ _ _ _ _ _ us hl => match us, hl with | [_, _], _ => rfl, .nil⟩
  have D_law_draw : ∀ base, DO P w K mg base 2 "_law_draw" ["bag", "many"] [] (S2 (φdraw K)) := fun base => ⟨_, _, [], ok_law_draw F_law_draw T (D_law_stirred base), He.glo_ok X G (c.fact 25 (f := .glo "_law_draw") rfl), F_law_draw.kp, F_law_draw.bindsN fun _ _ _ _ _ _ us hl => match us, hl with | [_, _], _ => rfl, .nil⟩
  have D_law_alike : ∀ base, DO P w K mg base 6 "_law_alike" ["found", "due"] [] (S2 (φalike K 6)) := fun base => recDO (φ := fun n => (S2 (φalike K n))) (fun vs H Q E h => alike0 h) (He.glo_ok X G (c.fact 26 (f := .glo "_law_alike") rfl)) F_law_alike.kp (F_law_alike.bindsN fun _ _ _ _ _ _ us hl => match us, hl with | [_, _], _ => rfl) (fun n ih => ok_law_alike F_law_alike T ih) 6
  have D_law_text : ∀ base, DO P w K mg base 3 "_law_text" ["bag", "many"] [] (S2 (φtextN K)) := fun base => ⟨_, _, [], ok_law_text F_law_text T (D_law_draw base), He.glo_ok X G (c.fact 27 (f := .glo "_law_text") rfl), F_law_text.kp, F_law_text.bindsN fun _ _ _ _ _ _ us hl => match us, hl with | [_, _], _ => rfl, .nil⟩
  have D_law_parts : ∀ base, DO P w K mg base 4 "_law_parts" ["bag", "size"] [] (S2 (φparts61 K)) := fun base => ⟨_, _, [], ok_law_parts F_law_parts T (D_law_draw base), He.glo_ok X G (c.fact 28 (f := .glo "_law_parts") rfl), F_law_parts.kp, F_law_parts.bindsN fun _ _ _ _ _ _ us hl => match us, hl with | [_, _], _ => rfl, .nil⟩
  have D_law_rows : ∀ base, DO P w K mg base 5 "_law_rows" ["bag", "size", "most"] [] (S3 (φrows61 K)) := fun base => ⟨_, _, [], ok_law_rows F_law_rows T (D_law_draw base) (D_law_parts base) (D_law_text base), He.glo_ok X G (c.fact 29 (f := .glo "_law_rows") rfl), F_law_rows.kp, F_law_rows.bindsN fun _ _ _ _ _ _ us hl => match us, hl with | [_, _, _], _ => rfl, .nil⟩
  have D_law_cells : ∀ base, DO P w K mg base 1 "_law_cells" ["rows"] [] (S1 (φlcells61 K)) := fun base => ⟨_, _, [], ok_law_cells F_law_cells T , He.glo_ok X G (c.fact 30 (f := .glo "_law_cells") rfl), F_law_cells.kp, F_law_cells.bindsN fun _ _ _ _ _ _ us hl => match us, hl with | [_], _ => rfl, .nil⟩
  have D_law_made : ∀ base, DO P w K mg base 1 "_law_made" ["cells", "old"] [] (S2 (φmade61 K)) := fun base => ⟨_, _, [], ok_law_made F_law_made T , He.glo_ok X G (c.fact 31 (f := .glo "_law_made") rfl), F_law_made.kp, F_law_made.bindsN fun _ _ _ _ _ _ us hl => match us, hl with | [_, _], _ => rfl, .nil⟩
  have D_law_done : ∀ base, DO P w K mg base 8 "_law_done" ["shelf", "deed"] [] (S2 (φdone61 K)) := fun base => ⟨_, _, [], ok_law_done F_law_done T (DX_Shelf_drop_r base) (DXK_Shelf_take_r_change base), He.glo_ok X G (c.fact 32 (f := .glo "_law_done") rfl), F_law_done.kp, F_law_done.bindsN fun _ _ _ _ _ _ us hl => match us, hl with | [_, _], _ => rfl, .nil⟩
  have D_law_looks_right : ∀ base, DO P w K mg base 10 "_law_looks_right" ["shelf", "texts"] [] (S2 (φlooks61 K)) := fun base => ⟨_, _, [], ok_law_looks_right F_law_looks_right T (D_law_alike base) (DM_Change_done base) (DM_Shelf_at base) (DM_Shelf_between base) (DM_Shelf_text base) (DM_Shelf_versions base), He.glo_ok X G (c.fact 33 (f := .glo "_law_looks_right") rfl), F_law_looks_right.kp, F_law_looks_right.bindsN fun _ _ _ _ _ _ us hl => match us, hl with | [_, _], _ => rfl, .nil⟩
  have D_law_taken_right : ∀ base, DO P w K mg base 10 "_law_taken_right" ["bag", "shelf", "texts"] [] (S3 (φtaken61 K)) := fun base => ⟨_, _, [], ok_law_taken_right F_law_taken_right T (D_law_alike base) (D_law_cells base) (D_law_done base) (D_law_draw base) (D_law_made base) (D_law_rows base) (DM_ChangeX_eqX base) (DN_Change_2 base), He.glo_ok X G (c.fact 34 (f := .glo "_law_taken_right") rfl), F_law_taken_right.kp, F_law_taken_right.bindsN fun _ _ _ _ _ _ us hl => match us, hl with | [_, _, _], _ => rfl, .nil⟩
  have e := hfa.symm.trans (He.glo_ok X G (c.fact 35 (f := .glo "law") rfl))
  cases e
  have b := FunD.bindsA (ps := ["script"]) F_law fun _ _ _ _ _ _ us hl => match us, hl with | [_], _ => rfl
  exact ⟨fd_law, fun s v => b s [v] rfl, fun base _ _ => ok_law F_law T (D_law_bag base) (D_law_draw base) (D_law_looks_right base) (D_law_taken_right base) (D_law_text base) (DN_Shelf_1 base)⟩
end Z
theorem PySem.Challenge.cw_remadehere_k61_versions_taken_holds : PySem.Challenge.rw_remadehere_k61_versions_taken.Holds :=
  Z.close fun _ _ _ _ _ _ X G hfa c ex => Z.facts X G hfa c ex
