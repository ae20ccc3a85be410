import PyProof.Rows.All
import Wide.All
import OpenK.AllK
import Wide.FinOn
import KE.KStateDown
import Lean
import HandS.Base
import HandS.Call
import HandS.List
import HandS.Comp
import HandS.Ends
import HandS.Dict
import HandS.Iter
import HandS.Text
import HandS.Words
import HandS.WordsList
import HandS.Defaults
import HandS.IsInst
import HandS.Wide
import HandS.WideBits
import HandS.Conv
import HandS.Flow
import HandS.Style
import HandS.Flt
import HandS.More
import HandS.Set
import HandS.SetFor
import HandS.Strs
import HandS.SortInts
import HandS.MakeKw
import HandS.MakeKwOnly
import HandS.Codes
import HandS.SetKeys
import HandS.FStr
import HandS.SortKw
import HandS.Head0
import HandS.Head1
import HandS.Head2
import HandS.HeadEnd
import HandS.HeadHook1
import HandS.HeadHook2
import PyProof.DictMoreH
import PyProof.ListStr
import HandS.OwnEq
import PyProof.StrLawsIn
import PyProof.StrLawsFirst
import PyProof.StrOps2
import HandS.Exc
import HandS.ExcOwn
import HandS.TryOnly
import HandS.WordsExc
import HandS.RevTup
import HandS.Rev
import PyProof.CallStr
import PyProof.FString2
import PyProof.FString3
import OpenK.KOps
import HandS.RevRange
import HandS.TupLe
import HandS.ExcInit
import HandS.ExcField
import KE.KExcInit
import HandS.ExcIs
import KE.KIsAll
import KE.KTryMore
import HandS.RaiseMore
import KE.DatumOrd
import KE.DataMinMax
import PySem.Challenge.RW_remadehere_k01_changes_made
set_option Elab.async false
set_option linter.all false
set_option maxRecDepth 100000
set_option maxHeartbeats 8000000
set_option synthInstance.maxHeartbeats 2000000
set_option synthInstance.maxSize 100000
namespace R
open PySem L2
/-! ### steps as classes: one look finds the rule for a goal -/
class Step (P : Prop) (Q : outParam Prop) : Prop where mk ::
  h : Q → P
class StepO (P : Prop) (Q : outParam Prop) : Prop where mk ::
  h : Q → P
class StepN (P : Prop) (Q : outParam Prop) : Prop where mk ::
  h : Q → P
class SideK (P : Prop) (k : Nat) : Prop where mk ::
/-- rows of steps: the new walk's, the old walk's -/
class GoN (P : Prop) (Q : outParam Prop) : Prop where mk ::
  h : Q → P
class GoO (P : Prop) (Q : outParam Prop) : Prop where mk ::
  h : Q → P
instance (priority := low) goN_end {P : Prop} : GoN P P := ⟨id⟩
instance (priority := low) goO_end {P : Prop} : GoO P P := ⟨id⟩
instance goN_n {P Q R : Prop} [s : StepN P Q] [g : GoN Q R] : GoN P R := ⟨fun r => s.h (g.h r)⟩
instance goO_o {P Q R : Prop} [s : StepO P Q] [g : GoO Q R] : GoO P R := ⟨fun r => s.h (g.h r)⟩
instance goN_s {P Q R : Prop} [s : Step P Q] [g : GoN Q R] : GoN P R := ⟨fun r => s.h (g.h r)⟩
instance goO_s {P Q R : Prop} [s : Step P Q] [g : GoO Q R] : GoO P R := ⟨fun r => s.h (g.h r)⟩
theorem goNS {P Q R : Prop} [s : Step P Q] [g : GoN Q R] (r : R) : P := s.h (g.h r)
theorem goNN {P Q R : Prop} [s : StepN P Q] [g : GoN Q R] (r : R) : P := s.h (g.h r)
theorem goOS {P Q R : Prop} [s : Step P Q] [g : GoO Q R] (r : R) : P := s.h (g.h r)
theorem goOO {P Q R : Prop} [s : StepO P Q] [g : GoO Q R] (r : R) : P := s.h (g.h r)
theorem sideI {P : Prop} (k : Nat) [SideK P k] (q : P) : P := q
/-! ### worlds: F the part that stays, H all that is tracked -/
theorem ne_none {α : Type} {o : Option α} {x : α} (h : o = some x) : o ≠ none := fun e => by rw [h] at e; cases e
theorem Same.new {H : Hp} {p : Addr} {o : HO} (h : H p = none) : Same H (upd H p o) := fun a u e => by
  rw [upd_ne (ne_of_none e h)]
  exact e
theorem rd_same {F H : Hp} {a : Addr} {u : HO} (e : Same F H) (h : Rd F a u) : Rd H a u := by
  rcases h with h | ⟨o, h⟩
  · exact .inl (e _ _ h)
  · exact .inr ⟨o, e _ _ h⟩
theorem sqL_same {K : PySem.W.Frag} {F H : Hp} {a : Addr} {xs : List V} (e : Same F H) (h : SqL K F a xs) : SqL K H a xs := by
  rcases h with h | h
  · exact .inl (rd_same e h)
  · exact .inr h
theorem sqT_same {K : PySem.W.Frag} {F H : Hp} {a : Addr} {xs : List V} (e : Same F H) (h : SqT K F a xs) : SqT K H a xs := by
  rcases h with h | h
  · exact .inl (rd_same e h)
  · exact .inr h
theorem sqL_of {K : PySem.W.Frag} {H : Hp} {a : Addr} {xs : List V} (h : H a = some (.lst xs)) : SqL K H a xs := .inl (.inl h)
theorem sqT_of {K : PySem.W.Frag} {H : Hp} {a : Addr} {xs : List V} (h : H a = some (.tup xs)) : SqT K H a xs := .inl (.inl h)
mutual
theorem dp_same {K : PySem.W.Frag} {F H : Hp} (e : Same F H) : ∀ (d : PyData) (v : V), Dp K F v d → Dp K H v d
  | .none, _, .non => .non
  | .bool _, _, .bl b => .bl b
  | .int _, _, .int i => .int i
  | .str _, _, .str x => .str x
  | .list ds, _, .lst h hs => .lst (sqL_same e h) (dpa_same e ds _ hs)
  | .tuple ds, _, .tup h hs => .tup (sqT_same e h) (dpa_same e ds _ hs)
theorem dpa_same {K : PySem.W.Frag} {F H : Hp} (e : Same F H) : ∀ (ds : List PyData) (vs : List V), DpAll K F vs ds → DpAll K H vs ds
  | [], _, .nil => .nil
  | d :: ds, _, .cons h hs => .cons (dp_same e d _ h) (dpa_same e ds _ hs)
end
/-- what a deed does: F grows to F2, H to H2; of what H has outside of F only the objects at M change -/
structure Gr (M : List Addr) (F H F2 H2 : Hp) : Prop where
  ff : Same F F2
  fh : Same F2 H2
  hh : ∀ a o, a ∉ M → H a = some o → H2 a = some o
  al : ∀ a, H a ≠ none → H2 a ≠ none
  nw : ∀ a, H a ≠ none → F a = none → F2 a = none
theorem Gr.refl {M : List Addr} {F H : Hp} (h : Same F H) : Gr M F H F H := ⟨Same.refl F, h, fun _ _ _ e => e, fun _ e => e, fun _ _ e => e⟩
theorem Gr.trans {M : List Addr} {F H F1 H1 F2 H2 : Hp} (a : Gr M F H F1 H1) (b : Gr M F1 H1 F2 H2) : Gr M F H F2 H2 :=
  ⟨a.ff.trans b.ff, b.fh, fun x o n e => b.hh x o n (a.hh x o n e), fun x e => b.al x (a.al x e), fun x e n => b.nw x (a.al x e) (a.nw x e n)⟩
/-- a new object that stays -/
theorem Gr.im {M : List Addr} {F H : Hp} {p : Addr} {o : HO} (w : Same F H) (h : H p = none) : Gr M F H (upd F p o) (upd H p o) := by
  have hF : F p = none := w.free h
  refine ⟨Same.new hF, fun a u e => ?_, fun a u _ e => ?_, fun a e => ?_, fun a e n => ?_⟩
  · by_cases q : a = p
    · subst q
      rw [upd_same] at e ⊢
      exact e
    · rw [upd_ne q] at e ⊢
      exact w a u e
  · rw [upd_ne (ne_of_none e h)]
    exact e
  · by_cases q : a = p
    · subst q
      rw [upd_same]
      exact fun z => nomatch z
    · rw [upd_ne q]
      exact e
  · have q : a ≠ p := fun z => by subst z; exact e h
    rw [upd_ne q]
    exact n
/-- a new object that may change -/
theorem Gr.new {M : List Addr} {F H : Hp} {p : Addr} {o : HO} (w : Same F H) (h : H p = none) : Gr M F H F (upd H p o) := by
  refine ⟨Same.refl F, w.trans (Same.new h), fun a u _ e => ?_, fun a e => ?_, fun a e n => n⟩
  · rw [upd_ne (ne_of_none e h)]
    exact e
  · by_cases q : a = p
    · subst q
      rw [upd_same]
      exact fun z => nomatch z
    · rw [upd_ne q]
      exact e
/-- a change of an object that may change -/
theorem Gr.wr {M : List Addr} {F H : Hp} {p : Addr} {o : HO} (w : Same F H) (h : F p = none) (hm : p ∈ M) : Gr M F H F (upd H p o) := by
  refine ⟨Same.refl F, fun a u e => ?_, fun a u n e => ?_, fun a e => ?_, fun a e n => n⟩
  · have q : a ≠ p := ne_of_none e h
    rw [upd_ne q]
    exact w a u e
  · have q : a ≠ p := fun z => by subst z; exact n hm
    rw [upd_ne q]
    exact e
  · by_cases q : a = p
    · subst q
      rw [upd_same]
      exact fun z => nomatch z
    · rw [upd_ne q]
      exact e
/-- .. of one that was new behind the start -/
theorem Gr.wrn {M : List Addr} {F0 H0 F H : Hp} {p : Addr} {o : HO} (g : Gr M F0 H0 F H) (h : F p = none) (hn : H0 p = none) : Gr M F0 H0 F (upd H p o) := by
  refine ⟨g.ff, fun a u e => ?_, fun a u n e => ?_, fun a e => ?_, g.nw⟩
  · have q : a ≠ p := ne_of_none e h
    rw [upd_ne q]
    exact g.fh a u e
  · have q : a ≠ p := fun z => by subst z; rw [hn] at e; cases e
    rw [upd_ne q]
    exact g.hh a u n e
  · by_cases q : a = p
    · subst q
      rw [upd_same]
      exact fun z => nomatch z
    · rw [upd_ne q]
      exact g.al a e
/-- an object that may change -/
structure Mu (F H : Hp) (p : Addr) (o : HO) : Prop where
  n : F p = none
  h : H p = some o
theorem Gr.mu {M : List Addr} {F H F2 H2 : Hp} {p : Addr} {o : HO} (g : Gr M F H F2 H2) (m : Mu F H p o) (hp : p ∉ M) : Mu F2 H2 p o := ⟨g.nw p (ne_none m.h) m.n, g.hh p o hp m.h⟩
theorem Gr.mu0 {F H F2 H2 : Hp} {p : Addr} {o : HO} (g : Gr [] F H F2 H2) (m : Mu F H p o) : Mu F2 H2 p o := g.mu m (fun h => nomatch h)
theorem Mu.new {F H : Hp} {p : Addr} {o : HO} (w : Same F H) (h : H p = none) : Mu F (upd H p o) p o := ⟨w.free h, upd_same⟩
theorem Mu.wr {F H : Hp} {p : Addr} {o u : HO} (m : Mu F H p o) : Mu F (upd H p u) p u := ⟨m.n, upd_same⟩
theorem Mu.oth {F H : Hp} {p q : Addr} {o u : HO} (m : Mu F H p o) (h : p ≠ q) : Mu F (upd H q u) p o := ⟨m.n, by rw [upd_ne h]; exact m.h⟩
theorem Mu.sq {K : PySem.W.Frag} {F H : Hp} {p : Addr} {xs : List V} (m : Mu F H p (.lst xs)) : SqL K H p xs := sqL_of m.h
theorem Mu.ne_new {F H : Hp} {p q : Addr} {o : HO} (m : Mu F H p o) (h : H q = none) : p ≠ q := ne_of_none m.h h
/-! ### promises by the number of arguments -/
def S1 (φ : V → Hp → VK → Prop) : Sp := fun vs H Q _ => match vs with
  | [a] => φ a H Q
  | _ => False
def S2 (φ : V → V → Hp → VK → Prop) : Sp := fun vs H Q _ => match vs with
  | [a, b] => φ a b H Q
  | _ => False
def S3 (φ : V → V → V → Hp → VK → Prop) : Sp := fun vs H Q _ => match vs with
  | [a, b, c] => φ a b c H Q
  | _ => False
def S4 (φ : V → V → V → V → Hp → VK → Prop) : Sp := fun vs H Q _ => match vs with
  | [a, b, c, d] => φ a b c d H Q
  | _ => False
def S5 (φ : V → V → V → V → V → Hp → VK → Prop) : Sp := fun vs H Q _ => match vs with
  | [a, b, c, d, e] => φ a b c d e H Q
  | _ => False
def S6 (φ : V → V → V → V → V → V → Hp → VK → Prop) : Sp := fun vs H Q _ => match vs with
  | [a, b, c, d, e, f] => φ a b c d e f H Q
  | _ => False
def S7 (φ : V → V → V → V → V → V → V → Hp → VK → Prop) : Sp := fun vs H Q _ => match vs with
  | [a, b, c, d, e, f, g] => φ a b c d e f g H Q
  | _ => False
def S0 (φ : Hp → VK → Prop) : Sp := fun vs H Q _ => match vs with
  | [] => φ H Q
  | _ => False
theorem S0.len {φ : Hp → VK → Prop} {vs : List V} {H : Hp} {Q : VK} {E : XK} (h : S0 φ vs H Q E) : vs.length = 0 := by
  match vs, h with
  | [], _ => rfl
theorem S1.len {φ : V → Hp → VK → Prop} {vs : List V} {H : Hp} {Q : VK} {E : XK} (h : S1 φ vs H Q E) : vs.length = 1 := by
  match vs, h with
  | [_], _ => rfl
theorem S2.len {φ : V → V → Hp → VK → Prop} {vs : List V} {H : Hp} {Q : VK} {E : XK} (h : S2 φ vs H Q E) : vs.length = 2 := by
  match vs, h with
  | [_, _], _ => rfl
theorem S3.len {φ : V → V → V → Hp → VK → Prop} {vs : List V} {H : Hp} {Q : VK} {E : XK} (h : S3 φ vs H Q E) : vs.length = 3 := by
  match vs, h with
  | [_, _, _], _ => rfl
theorem S4.len {φ : V → V → V → V → Hp → VK → Prop} {vs : List V} {H : Hp} {Q : VK} {E : XK} (h : S4 φ vs H Q E) : vs.length = 4 := by
  match vs, h with
  | [_, _, _, _], _ => rfl
theorem S5.len {φ : V → V → V → V → V → Hp → VK → Prop} {vs : List V} {H : Hp} {Q : VK} {E : XK} (h : S5 φ vs H Q E) : vs.length = 5 := by
  match vs, h with
  | [_, _, _, _, _], _ => rfl
theorem S6.len {φ : V → V → V → V → V → V → Hp → VK → Prop} {vs : List V} {H : Hp} {Q : VK} {E : XK} (h : S6 φ vs H Q E) : vs.length = 6 := by
  match vs, h with
  | [_, _, _, _, _, _], _ => rfl
theorem S7.len {φ : V → V → V → V → V → V → V → Hp → VK → Prop} {vs : List V} {H : Hp} {Q : VK} {E : XK} (h : S7 φ vs H Q E) : vs.length = 7 := by
  match vs, h with
  | [_, _, _, _, _, _, _], _ => rfl
/-! ### a def as it stands, with its promise -/
structure DO (P : Program) (w : World) (K : PySem.W.Frag) (mg : Str → Option Value) (base : Heap) (k : Nat) (x : Str) (ps : List Str) (dvs : List V) (sp : Sp) : Prop where
  ex : ∃ (f : Addr) (fd : FuncData) (ds : List Value), FnOk P w K mg base CX0 k f fd ps sp ∧ mg x = some (.ref f) ∧ PySem.W.keepIn K (.ref f) = true ∧ Binds K fd ps ds ∧ Vals dvs ds
section
variable {X : Cx} {k j : Nat} {ps : List Str} {sp : Sp} {dvs : List V} {x : Str} {p pos : Pos} {e : Expr} {es : List Expr} {t : TA}
theorem pcall (D : DO X.prog X.w X.K X.mg X.base k x ps dvs sp) (hr : Room j X.A) (ha : PA X (e :: es) t) (hj : k ≤ j := by first | decide | exact Nat.le_refl _ | omega) (hg : Gl X x := by rfl) (hdb : (x == ("__debug__" : Str)) = false := by decide)
    (he : starEach (e :: es) X.env = (false, eval e X.env) :: starEach es X.env := by rfl) (hpl : (backTo pos (starEach es X.env)).any (·.1) = false := by rfl) :
    PE X (.Call (.Name x p) (e :: es) [] pos) (tCall sp dvs E0 t) := by
  obtain ⟨f, fd, ds, F, hm, hk, hb, hd⟩ := D.ex
  exact pe_call F (hr.mono hj) hg hm hk hb hd pass0 ha hdb he hpl
theorem pcall0 (D : DO X.prog X.w X.K X.mg X.base k x ps dvs sp) (hr : Room j X.A) (hj : k ≤ j := by first | decide | exact Nat.le_refl _ | omega) (hg : Gl X x := by rfl) (hdb : (x == ("__debug__" : Str)) = false := by decide) :
    PE X (.Call (.Name x p) [] [] pos) (tCall sp dvs E0 tNil) := by
  obtain ⟨f, fd, ds, F, hm, hk, hb, hd⟩ := D.ex
  exact pe_call0 F (hr.mono hj) hg hm hk hb hd pass0 hdb
end
theorem recDO {P : Program} {w : World} {K : PySem.W.Frag} {mg : Str → Option Value} {base : Heap} {x : Str} {f : Addr} {fd : FuncData} {ps : List Str} {φ : Nat → Sp} (h0 : ∀ vs H Q E, φ 0 vs H Q E → False) (hm : mg x = some (.ref f)) (hk : PySem.W.keepIn K (.ref f) = true) (hb : Binds K fd ps [])
    (hs : ∀ n, DO P w K mg base n x ps [] (φ n) → FnOk P w K mg base CX0 (n + 1) f fd ps (φ (n + 1))) : ∀ n, DO P w K mg base n x ps [] (φ n)
  | 0 => ⟨f, fd, [], ⟨fun vs H Q E h => (h0 vs H Q E h).elim, fun A outer s H args us vs Q E _ _ _ _ h => (h0 vs H Q E h).elim⟩, hm, hk, hb, .nil⟩
  | n + 1 => ⟨f, fd, [], hs n (recDO h0 hm hk hb hs n), hm, hk, hb, .nil⟩
/-! ### calls with keywords -/
theorem pe_gint {X : Cx} {x : Str} {i : Int} {pos : Pos} (hg : Gl X x) (hm : ∃ t, X.mg x = some (.int i t)) (hd : (x == ("__debug__" : Str)) = false := by decide) : PE X (.Name x pos) (tC (.int i)) := by
  obtain ⟨t, h⟩ := hm
  exact pe_glob hg h ⟨_, rfl⟩ hd
/-! ### rules with the written part by its own name -/
section
variable {X : Cx} {K : PySem.W.Frag}
theorem ixL (h : X.K = K := by rfl) : IxR X (rIxL K) := by subst h; exact ix_list
theorem ixT (h : X.K = K := by rfl) : IxR X (rIxT K) := by subst h; exact ix_tup
theorem ixQ (h : X.K = K := by rfl) : IxR X (rIx K) := by subst h; exact ix_seq
theorem slL (h : X.K = K := by rfl) : SlR X (rSlL K) := by subst h; exact sl_list
theorem slT (h : X.K = K := by rfl) : SlR X (rSlT K) := by subst h; exact sl_tup
theorem opEqD (A : X.A.units + 64 < cLine) (h : X.K = K := by rfl) : OpR X (compareOp .Eq) (rEqD K) := by subst h; exact op_eqD A
theorem opNeD (A : X.A.units + 64 < cLine) (h : X.K = K := by rfl) : OpR X (compareOp .NotEq) (rNeD K) := by subst h; exact op_neD A
def rLenQ (K : PySem.W.Frag) : List V → Hp → VK → Prop := fun xs H Q => ∃ p ys, xs = [.ref p] ∧ (SqL K H p ys ∨ SqT K H p ys) ∧ Q (.int ys.length) H
def rListOf (K : PySem.W.Frag) : List V → Hp → VK → Prop := fun xs H Q => ∃ p ys, xs = [.ref p] ∧ (SqL K H p ys ∨ SqT K H p ys) ∧ ∀ l, H l = none → Q (.ref l) (upd H l (.lst ys))
def rLenS : List V → Hp → VK → Prop := fun xs H Q => ∃ z, xs = [.str z] ∧ z.length ≤ sizeLine ∧ Q (.int z.length) H
def rInt1 : List V → Hp → VK → Prop := fun xs H Q => (∃ i, xs = [.int i] ∧ Q (.int i) H) ∨ ∃ k, xs = [.bl k] ∧ Q (.int (if k then 1 else 0)) H
def rAbs : List V → Hp → VK → Prop := fun xs H Q => ∃ i, xs = [.int i] ∧ Q (.int (if i < 0 then -i else i)) H
def rMin2 : List V → Hp → VK → Prop := fun xs H Q => ∃ i j, xs = [.int i, .int j] ∧ Q (.int (if j < i then j else i)) H
def rMax2 : List V → Hp → VK → Prop := fun xs H Q => ∃ i j, xs = [.int i, .int j] ∧ Q (.int (if j > i then j else i)) H
theorem clLenQ (h : X.K = K := by rfl) : CallR X (.builtin "len") (rLenQ K) := by subst h; exact call_len_seq
theorem clLenS : CallR X (.builtin "len") rLenS := call_len_str
theorem clListOf (h : X.K = K := by rfl) : CallR X (.type "list") (rListOf K) := by subst h; exact call_list_of
theorem clInt1 : CallR X (.type "int") rInt1 := call_int1
theorem clAbs : CallR X (.builtin "abs") rAbs := call_abs
theorem clMin2 (hc : X.calm = true := by rfl) : CallR X (.builtin "min") rMin2 := call_min2 hc
theorem clAll (hc : X.calm = true := by rfl) (h : X.K = K := by rfl) : CallR X (.builtin "all") (rAll K) := by subst h; exact cr_all hc
theorem clIsi (h : X.K = K := by rfl) : CallR X (.builtin "isinstance") (rIsi K) := by subst h; exact call_isi
theorem clIsiT (h : X.K = K := by rfl) : CallR X (.builtin "isinstance") (rIsiT K) := by subst h; exact call_isiT
def tTruth (K : PySem.W.Frag) (ta : TE) : TT := fun σ H Q => ta σ H fun x H' => ∃ k, TruV K x H' k ∧ Q k H'
variable {o e : Expr} {es : List Expr} {to te : TE} {t : TA} {name : Str} {apos cpos : Pos} {T id : String} {r : V → List V → Hp → VK → Prop}
theorem peBM (pa : PlainAttrs T) (slot : Slot T name id) (hty : typeOf (.builtin id) = pure (.type "method_descriptor")) (hm : MtR X id r) (ho : PE X o to) (ha : PA X (e :: es) t) (h : X.K = K := by rfl)
    (hbase : attributeBase o name X.env (eval o X.env) = eval o X.env := by rfl)
    (hfew : ((backTo cpos (starEach (e :: es) X.env)).all (fun x => !x.1) && (backToKw cpos (keywordEach [] X.env)).all (fun x => x.1.isSome)
      && decide ((e :: es).length + ([] : List Keyword).length + (if ([] : List Keyword).isEmpty then 0 else 1) < 30)) = true := by rfl)
    (hline : (apos.endLine == cpos.line) = true := by rfl) (hs : starEach (e :: es) X.env = (false, eval e X.env) :: starEach es X.env := by rfl) (hplain : (backTo cpos (starEach es X.env)).any (·.1) = false := by rfl) :
    PE X (.Call (.Attribute o name apos) (e :: es) [] cpos) (tBM K T r to t) := by
  subst h
  exact pe_bm pa slot hty hm ho ha hbase hfew hline hs hplain
def rJoin (K : PySem.W.Frag) : V → List V → Hp → VK → Prop := fun x xs H Q => ∃ a p, ∃ ys : List Str, x = .str a ∧ xs = [.ref p] ∧ (SqL K H p (ys.map V.str) ∨ SqT K H p (ys.map V.str)) ∧
      (ys.map (·.length)).sum + ys.length * a.length ≤ 16777216 ∧ Q (.str (Txt.join a ys)) H
theorem peJoin (ho : PE X o to) (he : PE X e te) (h : X.K = K := by rfl) (hs : starEach [e] X.env = [(false, eval e X.env)] := by rfl) (hbase : attributeBase o "join" X.env (eval o X.env) = eval o X.env := by rfl) (hline : (apos.endLine == cpos.line) = true := by rfl) :
    PE X (.Call (.Attribute o "join" apos) [e] [] cpos) (tM1 (rJoin K) to te) := by
  subst h
  exact pe_join ho he hs hbase hline
theorem peFld {f : Str} {pos : Pos} (he : PE X o to) (h : X.K = K := by rfl) (hb : attributeBase o f X.env (eval o X.env) = eval o X.env := by rfl) : PE X (.Attribute o f pos) (tFld K to f) := by
  subst h
  exact pe_fld he hb
end
/-! ### steps of a reading -/
section
variable {K : PySem.W.Frag} {σ : L2.St} {H : Hp} {Q : VK} {ta tb te : TE} {x y v : V} {nx bk ct : L2.St → Hp → Prop} {rt : VK}
-- slots
section
variable {a0 a1 a2 a3 a4 a5 a6 a7 a8 a9 a10 a11 a12 a13 : Option V} {r : L2.St}
theorem w_v0 (q : Q v H) : tVar 0 (some v :: r) H Q := ⟨v, rfl, q⟩
instance : Step (tVar 0 (some v :: r) H Q) (Q v H) := ⟨w_v0⟩ -- st
theorem w_v1 (q : Q v H) : tVar 1 (a0 :: some v :: r) H Q := ⟨v, rfl, q⟩
instance : Step (tVar 1 (a0 :: some v :: r) H Q) (Q v H) := ⟨w_v1⟩ -- st
theorem w_v2 (q : Q v H) : tVar 2 (a0 :: a1 :: some v :: r) H Q := ⟨v, rfl, q⟩
instance : Step (tVar 2 (a0 :: a1 :: some v :: r) H Q) (Q v H) := ⟨w_v2⟩ -- st
theorem w_v3 (q : Q v H) : tVar 3 (a0 :: a1 :: a2 :: some v :: r) H Q := ⟨v, rfl, q⟩
instance : Step (tVar 3 (a0 :: a1 :: a2 :: some v :: r) H Q) (Q v H) := ⟨w_v3⟩ -- st
theorem w_v4 (q : Q v H) : tVar 4 (a0 :: a1 :: a2 :: a3 :: some v :: r) H Q := ⟨v, rfl, q⟩
instance : Step (tVar 4 (a0 :: a1 :: a2 :: a3 :: some v :: r) H Q) (Q v H) := ⟨w_v4⟩ -- st
theorem w_v5 (q : Q v H) : tVar 5 (a0 :: a1 :: a2 :: a3 :: a4 :: some v :: r) H Q := ⟨v, rfl, q⟩
instance : Step (tVar 5 (a0 :: a1 :: a2 :: a3 :: a4 :: some v :: r) H Q) (Q v H) := ⟨w_v5⟩ -- st
theorem w_v6 (q : Q v H) : tVar 6 (a0 :: a1 :: a2 :: a3 :: a4 :: a5 :: some v :: r) H Q := ⟨v, rfl, q⟩
instance : Step (tVar 6 (a0 :: a1 :: a2 :: a3 :: a4 :: a5 :: some v :: r) H Q) (Q v H) := ⟨w_v6⟩ -- st
theorem w_v7 (q : Q v H) : tVar 7 (a0 :: a1 :: a2 :: a3 :: a4 :: a5 :: a6 :: some v :: r) H Q := ⟨v, rfl, q⟩
instance : Step (tVar 7 (a0 :: a1 :: a2 :: a3 :: a4 :: a5 :: a6 :: some v :: r) H Q) (Q v H) := ⟨w_v7⟩ -- st
theorem w_v8 (q : Q v H) : tVar 8 (a0 :: a1 :: a2 :: a3 :: a4 :: a5 :: a6 :: a7 :: some v :: r) H Q := ⟨v, rfl, q⟩
instance : Step (tVar 8 (a0 :: a1 :: a2 :: a3 :: a4 :: a5 :: a6 :: a7 :: some v :: r) H Q) (Q v H) := ⟨w_v8⟩ -- st
theorem w_v9 (q : Q v H) : tVar 9 (a0 :: a1 :: a2 :: a3 :: a4 :: a5 :: a6 :: a7 :: a8 :: some v :: r) H Q := ⟨v, rfl, q⟩
instance : Step (tVar 9 (a0 :: a1 :: a2 :: a3 :: a4 :: a5 :: a6 :: a7 :: a8 :: some v :: r) H Q) (Q v H) := ⟨w_v9⟩ -- st
theorem w_v10 (q : Q v H) : tVar 10 (a0 :: a1 :: a2 :: a3 :: a4 :: a5 :: a6 :: a7 :: a8 :: a9 :: some v :: r) H Q := ⟨v, rfl, q⟩
instance : Step (tVar 10 (a0 :: a1 :: a2 :: a3 :: a4 :: a5 :: a6 :: a7 :: a8 :: a9 :: some v :: r) H Q) (Q v H) := ⟨w_v10⟩ -- st
theorem w_v11 (q : Q v H) : tVar 11 (a0 :: a1 :: a2 :: a3 :: a4 :: a5 :: a6 :: a7 :: a8 :: a9 :: a10 :: some v :: r) H Q := ⟨v, rfl, q⟩
instance : Step (tVar 11 (a0 :: a1 :: a2 :: a3 :: a4 :: a5 :: a6 :: a7 :: a8 :: a9 :: a10 :: some v :: r) H Q) (Q v H) := ⟨w_v11⟩ -- st
theorem w_v12 (q : Q v H) : tVar 12 (a0 :: a1 :: a2 :: a3 :: a4 :: a5 :: a6 :: a7 :: a8 :: a9 :: a10 :: a11 :: some v :: r) H Q := ⟨v, rfl, q⟩
instance : Step (tVar 12 (a0 :: a1 :: a2 :: a3 :: a4 :: a5 :: a6 :: a7 :: a8 :: a9 :: a10 :: a11 :: some v :: r) H Q) (Q v H) := ⟨w_v12⟩ -- st
theorem w_v13 (q : Q v H) : tVar 13 (a0 :: a1 :: a2 :: a3 :: a4 :: a5 :: a6 :: a7 :: a8 :: a9 :: a10 :: a11 :: a12 :: some v :: r) H Q := ⟨v, rfl, q⟩
instance : Step (tVar 13 (a0 :: a1 :: a2 :: a3 :: a4 :: a5 :: a6 :: a7 :: a8 :: a9 :: a10 :: a11 :: a12 :: some v :: r) H Q) (Q v H) := ⟨w_v13⟩ -- st
variable {N : L2.St → Hp → Prop}
theorem w_n0 (q : N (some v :: r) H) : gName 0 v (a0 :: r) H N := q
instance : Step (gName 0 v (a0 :: r) H N) (N (some v :: r) H) := ⟨w_n0⟩ -- st
theorem w_n1 (q : N (a0 :: some v :: r) H) : gName 1 v (a0 :: a1 :: r) H N := q
instance : Step (gName 1 v (a0 :: a1 :: r) H N) (N (a0 :: some v :: r) H) := ⟨w_n1⟩ -- st
theorem w_n2 (q : N (a0 :: a1 :: some v :: r) H) : gName 2 v (a0 :: a1 :: a2 :: r) H N := q
instance : Step (gName 2 v (a0 :: a1 :: a2 :: r) H N) (N (a0 :: a1 :: some v :: r) H) := ⟨w_n2⟩ -- st
theorem w_n3 (q : N (a0 :: a1 :: a2 :: some v :: r) H) : gName 3 v (a0 :: a1 :: a2 :: a3 :: r) H N := q
instance : Step (gName 3 v (a0 :: a1 :: a2 :: a3 :: r) H N) (N (a0 :: a1 :: a2 :: some v :: r) H) := ⟨w_n3⟩ -- st
theorem w_n4 (q : N (a0 :: a1 :: a2 :: a3 :: some v :: r) H) : gName 4 v (a0 :: a1 :: a2 :: a3 :: a4 :: r) H N := q
instance : Step (gName 4 v (a0 :: a1 :: a2 :: a3 :: a4 :: r) H N) (N (a0 :: a1 :: a2 :: a3 :: some v :: r) H) := ⟨w_n4⟩ -- st
theorem w_n5 (q : N (a0 :: a1 :: a2 :: a3 :: a4 :: some v :: r) H) : gName 5 v (a0 :: a1 :: a2 :: a3 :: a4 :: a5 :: r) H N := q
instance : Step (gName 5 v (a0 :: a1 :: a2 :: a3 :: a4 :: a5 :: r) H N) (N (a0 :: a1 :: a2 :: a3 :: a4 :: some v :: r) H) := ⟨w_n5⟩ -- st
theorem w_n6 (q : N (a0 :: a1 :: a2 :: a3 :: a4 :: a5 :: some v :: r) H) : gName 6 v (a0 :: a1 :: a2 :: a3 :: a4 :: a5 :: a6 :: r) H N := q
instance : Step (gName 6 v (a0 :: a1 :: a2 :: a3 :: a4 :: a5 :: a6 :: r) H N) (N (a0 :: a1 :: a2 :: a3 :: a4 :: a5 :: some v :: r) H) := ⟨w_n6⟩ -- st
theorem w_n7 (q : N (a0 :: a1 :: a2 :: a3 :: a4 :: a5 :: a6 :: some v :: r) H) : gName 7 v (a0 :: a1 :: a2 :: a3 :: a4 :: a5 :: a6 :: a7 :: r) H N := q
instance : Step (gName 7 v (a0 :: a1 :: a2 :: a3 :: a4 :: a5 :: a6 :: a7 :: r) H N) (N (a0 :: a1 :: a2 :: a3 :: a4 :: a5 :: a6 :: some v :: r) H) := ⟨w_n7⟩ -- st
theorem w_n8 (q : N (a0 :: a1 :: a2 :: a3 :: a4 :: a5 :: a6 :: a7 :: some v :: r) H) : gName 8 v (a0 :: a1 :: a2 :: a3 :: a4 :: a5 :: a6 :: a7 :: a8 :: r) H N := q
instance : Step (gName 8 v (a0 :: a1 :: a2 :: a3 :: a4 :: a5 :: a6 :: a7 :: a8 :: r) H N) (N (a0 :: a1 :: a2 :: a3 :: a4 :: a5 :: a6 :: a7 :: some v :: r) H) := ⟨w_n8⟩ -- st
theorem w_n9 (q : N (a0 :: a1 :: a2 :: a3 :: a4 :: a5 :: a6 :: a7 :: a8 :: some v :: r) H) : gName 9 v (a0 :: a1 :: a2 :: a3 :: a4 :: a5 :: a6 :: a7 :: a8 :: a9 :: r) H N := q
instance : Step (gName 9 v (a0 :: a1 :: a2 :: a3 :: a4 :: a5 :: a6 :: a7 :: a8 :: a9 :: r) H N) (N (a0 :: a1 :: a2 :: a3 :: a4 :: a5 :: a6 :: a7 :: a8 :: some v :: r) H) := ⟨w_n9⟩ -- st
theorem w_n10 (q : N (a0 :: a1 :: a2 :: a3 :: a4 :: a5 :: a6 :: a7 :: a8 :: a9 :: some v :: r) H) : gName 10 v (a0 :: a1 :: a2 :: a3 :: a4 :: a5 :: a6 :: a7 :: a8 :: a9 :: a10 :: r) H N := q
instance : Step (gName 10 v (a0 :: a1 :: a2 :: a3 :: a4 :: a5 :: a6 :: a7 :: a8 :: a9 :: a10 :: r) H N) (N (a0 :: a1 :: a2 :: a3 :: a4 :: a5 :: a6 :: a7 :: a8 :: a9 :: some v :: r) H) := ⟨w_n10⟩ -- st
theorem w_n11 (q : N (a0 :: a1 :: a2 :: a3 :: a4 :: a5 :: a6 :: a7 :: a8 :: a9 :: a10 :: some v :: r) H) : gName 11 v (a0 :: a1 :: a2 :: a3 :: a4 :: a5 :: a6 :: a7 :: a8 :: a9 :: a10 :: a11 :: r) H N := q
instance : Step (gName 11 v (a0 :: a1 :: a2 :: a3 :: a4 :: a5 :: a6 :: a7 :: a8 :: a9 :: a10 :: a11 :: r) H N) (N (a0 :: a1 :: a2 :: a3 :: a4 :: a5 :: a6 :: a7 :: a8 :: a9 :: a10 :: some v :: r) H) := ⟨w_n11⟩ -- st
theorem w_n12 (q : N (a0 :: a1 :: a2 :: a3 :: a4 :: a5 :: a6 :: a7 :: a8 :: a9 :: a10 :: a11 :: some v :: r) H) : gName 12 v (a0 :: a1 :: a2 :: a3 :: a4 :: a5 :: a6 :: a7 :: a8 :: a9 :: a10 :: a11 :: a12 :: r) H N := q
instance : Step (gName 12 v (a0 :: a1 :: a2 :: a3 :: a4 :: a5 :: a6 :: a7 :: a8 :: a9 :: a10 :: a11 :: a12 :: r) H N) (N (a0 :: a1 :: a2 :: a3 :: a4 :: a5 :: a6 :: a7 :: a8 :: a9 :: a10 :: a11 :: some v :: r) H) := ⟨w_n12⟩ -- st
theorem w_n13 (q : N (a0 :: a1 :: a2 :: a3 :: a4 :: a5 :: a6 :: a7 :: a8 :: a9 :: a10 :: a11 :: a12 :: some v :: r) H) : gName 13 v (a0 :: a1 :: a2 :: a3 :: a4 :: a5 :: a6 :: a7 :: a8 :: a9 :: a10 :: a11 :: a12 :: a13 :: r) H N := q
instance : Step (gName 13 v (a0 :: a1 :: a2 :: a3 :: a4 :: a5 :: a6 :: a7 :: a8 :: a9 :: a10 :: a11 :: a12 :: a13 :: r) H N) (N (a0 :: a1 :: a2 :: a3 :: a4 :: a5 :: a6 :: a7 :: a8 :: a9 :: a10 :: a11 :: a12 :: some v :: r) H) := ⟨w_n13⟩ -- st
end
-- expressions
theorem w_c (q : Q v H) : tC v σ H Q := q
instance : Step (tC v σ H Q) (Q v H) := ⟨w_c⟩ -- st
theorem w_op {r : R2} (q : ta σ H fun x H1 => tb σ H1 fun y H2 => r x y H2 Q) : tOp r ta tb σ H Q := q
instance {r : R2} : Step (tOp r ta tb σ H Q) (ta σ H fun x H1 => tb σ H1 fun y H2 => r x y H2 Q) := ⟨w_op⟩ -- st
theorem w_un {r : V → Hp → VK → Prop} (q : ta σ H fun x H1 => r x H1 Q) : tUn r ta σ H Q := q
instance {r : V → Hp → VK → Prop} : Step (tUn r ta σ H Q) (ta σ H fun x H1 => r x H1 Q) := ⟨w_un⟩ -- st
theorem w_add {i j : Int} (q : Q (.int (i + j)) H) : rI0 (fun i j => V.int (i + j)) (.int i) (.int j) H Q := ⟨i, j, rfl, rfl, q⟩
instance {i j : Int} : Step (rI0 (fun i j => V.int (i + j)) (.int i) (.int j) H Q) (Q (.int (i + j)) H) := ⟨w_add⟩ -- st
theorem w_subt {i j : Int} (q : Q (.int (i - j)) H) : rI0 (fun i j => V.int (i - j)) (.int i) (.int j) H Q := ⟨i, j, rfl, rfl, q⟩
instance {i j : Int} : Step (rI0 (fun i j => V.int (i - j)) (.int i) (.int j) H Q) (Q (.int (i - j)) H) := ⟨w_subt⟩ -- st
theorem w_lt {i j : Int} (q : Q (.bl (decide (i < j))) H) : rI0 (fun i j => V.bl (decide (i < j))) (.int i) (.int j) H Q := ⟨i, j, rfl, rfl, q⟩
instance {i j : Int} : Step (rI0 (fun i j => V.bl (decide (i < j))) (.int i) (.int j) H Q) (Q (.bl (decide (i < j))) H) := ⟨w_lt⟩ -- st
theorem w_le {i j : Int} (q : Q (.bl (decide (i ≤ j))) H) : rI0 (fun i j => V.bl (decide (i ≤ j))) (.int i) (.int j) H Q := ⟨i, j, rfl, rfl, q⟩
instance {i j : Int} : Step (rI0 (fun i j => V.bl (decide (i ≤ j))) (.int i) (.int j) H Q) (Q (.bl (decide (i ≤ j))) H) := ⟨w_le⟩ -- st
theorem w_gt {i j : Int} (q : Q (.bl (decide (j < i))) H) : rI0 (fun i j => V.bl (decide (j < i))) (.int i) (.int j) H Q := ⟨i, j, rfl, rfl, q⟩
instance {i j : Int} : Step (rI0 (fun i j => V.bl (decide (j < i))) (.int i) (.int j) H Q) (Q (.bl (decide (j < i))) H) := ⟨w_gt⟩ -- st
theorem w_ge {i j : Int} (q : Q (.bl (decide (j ≤ i))) H) : rI0 (fun i j => V.bl (decide (j ≤ i))) (.int i) (.int j) H Q := ⟨i, j, rfl, rfl, q⟩
instance {i j : Int} : Step (rI0 (fun i j => V.bl (decide (j ≤ i))) (.int i) (.int j) H Q) (Q (.bl (decide (j ≤ i))) H) := ⟨w_ge⟩ -- st
theorem w_mul {i j : Int} (c : CMul i j) (q : Q (.int (i * j)) H) : rI CMul (fun i j => V.int (i * j)) (.int i) (.int j) H Q := ⟨i, j, rfl, rfl, c, q⟩
instance {i j : Int} : SideK (rI CMul (fun i j => V.int (i * j)) (.int i) (.int j) H Q) 1 := ⟨⟩ -- st
theorem w_mod {i j : Int} (c : 0 < j) (q : Q (.int (i % j)) H) : rI (fun _ j => 0 < j) (fun i j => V.int (i % j)) (.int i) (.int j) H Q := ⟨i, j, rfl, rfl, c, q⟩
instance {i j : Int} : SideK (rI (fun _ j => 0 < j) (fun i j => V.int (i % j)) (.int i) (.int j) H Q) 1 := ⟨⟩ -- st
theorem w_fdiv {i j : Int} (c : CDivW i j) (q : Q (.int (i / j)) H) : rI CDivW (fun i j => V.int (i / j)) (.int i) (.int j) H Q := ⟨i, j, rfl, rfl, c, q⟩
instance {i j : Int} : SideK (rI CDivW (fun i j => V.int (i / j)) (.int i) (.int j) H Q) 1 := ⟨⟩ -- st
theorem w_pow {i j : Int} (c : CPow i j) (q : Q (.int (i ^ j.toNat)) H) : rI CPow (fun i j => V.int (i ^ j.toNat)) (.int i) (.int j) H Q := ⟨i, j, rfl, rfl, c, q⟩
instance {i j : Int} : SideK (rI CPow (fun i j => V.int (i ^ j.toNat)) (.int i) (.int j) H Q) 1 := ⟨⟩ -- st
theorem w_neg {i : Int} (q : Q (.int (-i)) H) : rU (fun i => V.int (-i)) (.int i) H Q := ⟨i, rfl, q⟩
instance {i : Int} : Step (rU (fun i => V.int (-i)) (.int i) H Q) (Q (.int (-i)) H) := ⟨w_neg⟩ -- st
def asInt (x : V) (H : Hp) (Z : Int → Hp → Prop) : Prop := ∃ i, x = .int i ∧ Z i H
def asBl (x : V) (H : Hp) (T : Bool → Hp → Prop) : Prop := ∃ k, x = .bl k ∧ T k H
theorem w_asInt {i : Int} {Z : Int → Hp → Prop} (q : Z i H) : asInt (.int i) H Z := ⟨i, rfl, q⟩
instance {i : Int} {Z : Int → Hp → Prop} : Step (asInt (.int i) H Z) (Z i H) := ⟨w_asInt⟩ -- st
theorem w_asBl {b : Bool} {T : Bool → Hp → Prop} (q : T b H) : asBl (.bl b) H T := ⟨b, rfl, q⟩
instance {b : Bool} {T : Bool → Hp → Prop} : Step (asBl (.bl b) H T) (T b H) := ⟨w_asBl⟩ -- st
theorem w_bits {to : TE} (q : to σ H fun x H1 => asInt x H1 fun i H2 => Q (.int (Builtin.Int.intBits i : Nat)) H2) : tBits to σ H Q := q
instance {to : TE} : Step (tBits to σ H Q) (to σ H fun x H1 => asInt x H1 fun i H2 => Q (.int (Builtin.Int.intBits i : Nat)) H2) := ⟨w_bits⟩ -- st
theorem w_eqI {i j : Int} (q : Q (.bl (decide (i = j))) H) : rEq (.int i) (.int j) H Q := ⟨rfl, by
  have e : decide (V.int i = V.int j) = decide (i = j) := by
    by_cases h : i = j
    · subst h; simp
    · rw [decide_eq_false h, decide_eq_false fun z => h (V.int.inj z)]
  rw [e]
  exact q⟩
instance {i j : Int} : Step (rEq (.int i) (.int j) H Q) (Q (.bl (decide (i = j))) H) := ⟨w_eqI⟩ -- st
theorem w_neI {i j : Int} (q : Q (.bl (!decide (i = j))) H) : rNe (.int i) (.int j) H Q := ⟨rfl, by
  have e : decide (V.int i = V.int j) = decide (i = j) := by
    by_cases h : i = j
    · subst h; simp
    · rw [decide_eq_false h, decide_eq_false fun z => h (V.int.inj z)]
  rw [e]
  exact q⟩
instance {i j : Int} : Step (rNe (.int i) (.int j) H Q) (Q (.bl (!decide (i = j))) H) := ⟨w_neI⟩ -- st
theorem w_eqS {a b : Str} (q : Q (.bl (decide (a = b))) H) : rEq (.str a) (.str b) H Q := ⟨rfl, by
  have e : decide (V.str a = V.str b) = decide (a = b) := by
    by_cases h : a = b
    · subst h; simp
    · rw [decide_eq_false h, decide_eq_false fun z => h (V.str.inj z)]
  rw [e]
  exact q⟩
instance {a b : Str} : Step (rEq (.str a) (.str b) H Q) (Q (.bl (decide (a = b))) H) := ⟨w_eqS⟩ -- st
theorem w_neS {a b : Str} (q : Q (.bl (!decide (a = b))) H) : rNe (.str a) (.str b) H Q := ⟨rfl, by
  have e : decide (V.str a = V.str b) = decide (a = b) := by
    by_cases h : a = b
    · subst h; simp
    · rw [decide_eq_false h, decide_eq_false fun z => h (V.str.inj z)]
  rw [e]
  exact q⟩
instance {a b : Str} : Step (rNe (.str a) (.str b) H Q) (Q (.bl (!decide (a = b))) H) := ⟨w_neS⟩ -- st
theorem w_eqB {a b : Bool} (q : Q (.bl (decide (a = b))) H) : rEq (.bl a) (.bl b) H Q := ⟨rfl, by
  have e : decide (V.bl a = V.bl b) = decide (a = b) := by
    by_cases h : a = b
    · subst h; simp
    · rw [decide_eq_false h, decide_eq_false fun z => h (V.bl.inj z)]
  rw [e]
  exact q⟩
instance {a b : Bool} : Step (rEq (.bl a) (.bl b) H Q) (Q (.bl (decide (a = b))) H) := ⟨w_eqB⟩ -- st
theorem w_neB {a b : Bool} (q : Q (.bl (!decide (a = b))) H) : rNe (.bl a) (.bl b) H Q := ⟨rfl, by
  have e : decide (V.bl a = V.bl b) = decide (a = b) := by
    by_cases h : a = b
    · subst h; simp
    · rw [decide_eq_false h, decide_eq_false fun z => h (V.bl.inj z)]
  rw [e]
  exact q⟩
instance {a b : Bool} : Step (rNe (.bl a) (.bl b) H Q) (Q (.bl (!decide (a = b))) H) := ⟨w_neB⟩ -- st
theorem w_isN (q : ta σ H fun x H1 => Q (.bl (decide (x = .non))) H1) : tIsN ta σ H Q := q
instance : Step (tIsN ta σ H Q) (ta σ H fun x H1 => Q (.bl (decide (x = .non))) H1) := ⟨w_isN⟩ -- st
theorem w_notN (q : ta σ H fun x H1 => Q (.bl (!decide (x = .non))) H1) : tNotN ta σ H Q := q
instance : Step (tNotN ta σ H Q) (ta σ H fun x H1 => Q (.bl (!decide (x = .non))) H1) := ⟨w_notN⟩ -- st
-- tests
section
variable {T : Bool → Hp → Prop} {t u : TT}
theorem w_test (q : te σ H fun x H1 => asBl x H1 T) : tTest te σ H T := q
instance : Step (tTest te σ H T) (te σ H fun x H1 => asBl x H1 T) := ⟨w_test⟩ -- st
theorem w_tB (q : te σ H fun x H1 => asBl x H1 T) : tB te σ H T := q
instance : Step (tB te σ H T) (te σ H fun x H1 => asBl x H1 T) := ⟨w_tB⟩ -- st
theorem w_and (q : t σ H fun c H1 => if c = true then u σ H1 T else T false H1) : tAnd t u σ H T := q
instance : Step (tAnd t u σ H T) (t σ H fun c H1 => if c = true then u σ H1 T else T false H1) := ⟨w_and⟩ -- st
theorem w_or (q : t σ H fun c H1 => if c = true then T true H1 else u σ H1 T) : tOr t u σ H T := q
instance : Step (tOr t u σ H T) (t σ H fun c H1 => if c = true then T true H1 else u σ H1 T) := ⟨w_or⟩ -- st
theorem w_not (q : t σ H fun c H1 => T (!c) H1) : tNot t σ H T := q
instance : Step (tNot t σ H T) (t σ H fun c H1 => T (!c) H1) := ⟨w_not⟩ -- st
theorem w_yes (q : T true H) : tYes σ H T := q
instance : Step (tYes σ H T) (T true H) := ⟨w_yes⟩ -- st
theorem w_if (q : t σ H fun c H1 => if c = true then ta σ H1 Q else tb σ H1 Q) : tIf t ta tb σ H Q := q
instance : Step (tIf t ta tb σ H Q) (t σ H fun c H1 => if c = true then ta σ H1 Q else tb σ H1 Q) := ⟨w_if⟩ -- st
theorem w_truth (q : ta σ H fun x H' => ∃ k, TruV K x H' k ∧ T k H') : tTruth K ta σ H T := q
instance : Step (tTruth K ta σ H T) (ta σ H fun x H' => ∃ k, TruV K x H' k ∧ T k H') := ⟨w_truth⟩ -- st
end
theorem w_andV (q : ta σ H fun x H1 => asBl x H1 fun c H2 => if c = true then tb σ H2 Q else Q (.bl false) H2) : tAndV ta tb σ H Q := q
instance : Step (tAndV ta tb σ H Q) (ta σ H fun x H1 => asBl x H1 fun c H2 => if c = true then tb σ H2 Q else Q (.bl false) H2) := ⟨w_andV⟩ -- st
theorem w_orV (q : ta σ H fun x H1 => asBl x H1 fun c H2 => if c = true then Q (.bl true) H2 else tb σ H2 Q) : tOrV ta tb σ H Q := q
instance : Step (tOrV ta tb σ H Q) (ta σ H fun x H1 => asBl x H1 fun c H2 => if c = true then Q (.bl true) H2 else tb σ H2 Q) := ⟨w_orV⟩ -- st
theorem w_notV (q : ta σ H fun x H1 => asBl x H1 fun c H2 => Q (.bl (!c)) H2) : tNotV ta σ H Q := q
instance : Step (tNotV ta σ H Q) (ta σ H fun x H1 => asBl x H1 fun c H2 => Q (.bl (!c)) H2) := ⟨w_notV⟩ -- st
-- arguments
theorem w_nil {L : List V → Hp → Prop} (q : L [] H) : tNil σ H L := q
instance {L : List V → Hp → Prop} : Step (tNil σ H L) (L [] H) := ⟨w_nil⟩ -- st
theorem w_cons {tr : TA} {L : List V → Hp → Prop} (q : ta σ H fun x H1 => tr σ H1 fun xs H2 => L (x :: xs) H2) : tCons ta tr σ H L := q
instance {tr : TA} {L : List V → Hp → Prop} : Step (tCons ta tr σ H L) (ta σ H fun x H1 => tr σ H1 fun xs H2 => L (x :: xs) H2) := ⟨w_cons⟩ -- st
theorem w_call {sp : Sp} {dvs : List V} {E : XK} {t : TA} (q : t σ H fun vs H1 => sp (vs ++ dvs) H1 Q E) : tCall sp dvs E t σ H Q := q
instance {sp : Sp} {dvs : List V} {E : XK} {t : TA} : Step (tCall sp dvs E t σ H Q) (t σ H fun vs H1 => sp (vs ++ dvs) H1 Q E) := ⟨w_call⟩ -- st
theorem w_callN {n m : Nat} {sp : Sp} {gV : List V → List V → List V} {E : XK} {t tk : TA} (q : t σ H fun vs H1 => tk σ H1 fun zs H2 => vs.length = n ∧ zs.length = m ∧ sp (gV vs zs) H2 Q E) : tCallN n m sp gV E t tk σ H Q := q
instance {n m : Nat} {sp : Sp} {gV : List V → List V → List V} {E : XK} {t tk : TA} : Step (tCallN n m sp gV E t tk σ H Q) (t σ H fun vs H1 => tk σ H1 fun zs H2 => vs.length = n ∧ zs.length = m ∧ sp (gV vs zs) H2 Q E) := ⟨w_callN⟩ -- st
theorem w_CB {r : List V → Hp → VK → Prop} {t : TA} (q : t σ H fun vs H1 => r vs H1 Q) : tCB r t σ H Q := q
instance {r : List V → Hp → VK → Prop} {t : TA} : Step (tCB r t σ H Q) (t σ H fun vs H1 => r vs H1 Q) := ⟨w_CB⟩ -- st
theorem w_tup {t : TA} (q : t σ H fun xs H1 => xs.length ≤ sizeLine ∧ ∀ p, H1 p = none → Q (.ref p) (upd H1 p (.tup xs))) : tTup t σ H Q := q
instance {t : TA} : StepO (tTup t σ H Q) (t σ H fun xs H1 => xs.length ≤ sizeLine ∧ ∀ p, H1 p = none → Q (.ref p) (upd H1 p (.tup xs))) := ⟨w_tup⟩ -- st
theorem w_lst {t : TA} (q : t σ H fun xs H1 => xs.length ≤ sizeLine ∧ ∀ p, H1 p = none → Q (.ref p) (upd H1 p (.lst xs))) : tLst t σ H Q := q
instance {t : TA} : StepO (tLst t σ H Q) (t σ H fun xs H1 => xs.length ≤ sizeLine ∧ ∀ p, H1 p = none → Q (.ref p) (upd H1 p (.lst xs))) := ⟨w_lst⟩ -- st
theorem w_sl {r : V → Option Int → Option Int → Hp → VK → Prop} {tl th : TO} (q : te σ H fun x H1 => tl σ H1 fun l H2 => th σ H2 fun u H3 => r x l u H3 Q) : tSl r te tl th σ H Q := q
instance {r : V → Option Int → Option Int → Hp → VK → Prop} {tl th : TO} : Step (tSl r te tl th σ H Q) (te σ H fun x H1 => tl σ H1 fun l H2 => th σ H2 fun u H3 => r x l u H3 Q) := ⟨w_sl⟩ -- st
theorem w_nop {Z : Option Int → Hp → Prop} (q : Z none H) : tNoPart σ H Z := q
instance {Z : Option Int → Hp → Prop} : Step (tNoPart σ H Z) (Z none H) := ⟨w_nop⟩ -- st
theorem w_part {Z : Option Int → Hp → Prop} (q : te σ H fun x H1 => asInt x H1 fun i H2 => Z (some i) H2) : tPart te σ H Z := q
instance {Z : Option Int → Hp → Prop} : Step (tPart te σ H Z) (te σ H fun x H1 => asInt x H1 fun i H2 => Z (some i) H2) := ⟨w_part⟩ -- st
theorem w_BM0 {T : String} {r : V → List V → Hp → VK → Prop} (q : ta σ H fun x H1 => tyV K T x H1 ∧ r x [] H1 Q) : tBM0 K T r ta σ H Q := q
instance {T : String} {r : V → List V → Hp → VK → Prop} : Step (tBM0 K T r ta σ H Q) (ta σ H fun x H1 => tyV K T x H1 ∧ r x [] H1 Q) := ⟨w_BM0⟩ -- st
theorem w_BM {T : String} {r : V → List V → Hp → VK → Prop} {t : TA} (q : ta σ H fun x H1 => tyV K T x H1 ∧ t σ H1 fun xs H2 => r x xs H2 Q) : tBM K T r ta t σ H Q := q
instance {T : String} {r : V → List V → Hp → VK → Prop} {t : TA} : Step (tBM K T r ta t σ H Q) (ta σ H fun x H1 => tyV K T x H1 ∧ t σ H1 fun xs H2 => r x xs H2 Q) := ⟨w_BM⟩ -- st
def asStr (x : V) (P : Prop) : Prop := (∃ a, x = .str a) ∧ P
theorem w_M0 {r : V → List V → Hp → VK → Prop} (q : ta σ H fun x H1 => asStr x (r x [] H1 Q)) : tM0 r ta σ H Q := q
instance {r : V → List V → Hp → VK → Prop} : Step (tM0 r ta σ H Q) (ta σ H fun x H1 => asStr x (r x [] H1 Q)) := ⟨w_M0⟩ -- st
theorem w_M1 {r : V → List V → Hp → VK → Prop} (q : ta σ H fun x H1 => asStr x (te σ H1 fun y H2 => r x [y] H2 Q)) : tM1 r ta te σ H Q := q
instance {r : V → List V → Hp → VK → Prop} : Step (tM1 r ta te σ H Q) (ta σ H fun x H1 => asStr x (te σ H1 fun y H2 => r x [y] H2 Q)) := ⟨w_M1⟩ -- st
theorem w_asStr {a : Str} {P : Prop} (q : P) : asStr (.str a) P := ⟨⟨a, rfl⟩, q⟩
instance {a : Str} {P : Prop} : Step (asStr (.str a) P) (P) := ⟨w_asStr⟩ -- st
theorem w_sub {to ti : TE} {t : TSet} {Z : L2.St → Hp → Prop} (q : to σ H fun o H1 => ti σ H1 fun i H2 => t o i v H2 fun H3 => Z σ H3) : gSub to ti t v σ H Z := q
instance {to ti : TE} {t : TSet} {Z : L2.St → Hp → Prop} : Step (gSub to ti t v σ H Z) (to σ H fun o H1 => ti σ H1 fun i H2 => t o i v H2 fun H3 => Z σ H3) := ⟨w_sub⟩ -- st
-- statements
section
variable {t u tbody : TS} {c : TT} {g : TG}
theorem w_seq (q : t ⟨u ⟨nx, rt, bk, ct⟩, rt, bk, ct⟩ σ H) : tSeq t u ⟨nx, rt, bk, ct⟩ σ H := q
instance : Step (tSeq t u ⟨nx, rt, bk, ct⟩ σ H) (t ⟨u ⟨nx, rt, bk, ct⟩, rt, bk, ct⟩ σ H) := ⟨w_seq⟩ -- st
theorem w_cut (Mid : L2.St → Hp → Prop) (h1 : t ⟨Mid, rt, bk, ct⟩ σ H) (h2 : ∀ σ' H', Mid σ' H' → u ⟨nx, rt, bk, ct⟩ σ' H') : C8.tCut t u ⟨nx, rt, bk, ct⟩ σ H := ⟨Mid, h1, h2⟩
theorem w_asg (q : te σ H fun x H1 => g x σ H1 nx) : tAsg te g ⟨nx, rt, bk, ct⟩ σ H := q
instance : Step (tAsg te g ⟨nx, rt, bk, ct⟩ σ H) (te σ H fun x H1 => g x σ H1 nx) := ⟨w_asg⟩ -- st
theorem w_ret (q : te σ H rt) : tRet te ⟨nx, rt, bk, ct⟩ σ H := q
instance : Step (tRet te ⟨nx, rt, bk, ct⟩ σ H) (te σ H rt) := ⟨w_ret⟩ -- st
theorem w_retN (q : rt .non H) : tRetN ⟨nx, rt, bk, ct⟩ σ H := q
instance : Step (tRetN ⟨nx, rt, bk, ct⟩ σ H) (rt .non H) := ⟨w_retN⟩ -- st
theorem w_drop (q : te σ H fun _ H1 => nx σ H1) : tDrop te ⟨nx, rt, bk, ct⟩ σ H := q
instance : Step (tDrop te ⟨nx, rt, bk, ct⟩ σ H) (te σ H fun _ H1 => nx σ H1) := ⟨w_drop⟩ -- st
theorem w_ifS (q : c σ H fun b H1 => if b = true then t ⟨nx, rt, bk, ct⟩ σ H1 else u ⟨nx, rt, bk, ct⟩ σ H1) : tIfS c t u ⟨nx, rt, bk, ct⟩ σ H := q
instance : Step (tIfS c t u ⟨nx, rt, bk, ct⟩ σ H) (c σ H fun b H1 => if b = true then t ⟨nx, rt, bk, ct⟩ σ H1 else u ⟨nx, rt, bk, ct⟩ σ H1) := ⟨w_ifS⟩ -- st
theorem w_nx (q : nx σ H) : tNext ⟨nx, rt, bk, ct⟩ σ H := q
instance : Step (tNext ⟨nx, rt, bk, ct⟩ σ H) (nx σ H) := ⟨w_nx⟩ -- st
theorem w_cont (q : ct σ H) : tCont ⟨nx, rt, bk, ct⟩ σ H := q
instance : Step (tCont ⟨nx, rt, bk, ct⟩ σ H) (ct σ H) := ⟨w_cont⟩ -- st
theorem w_brk (q : bk σ H) : tBreak ⟨nx, rt, bk, ct⟩ σ H := q
instance : Step (tBreak ⟨nx, rt, bk, ct⟩ σ H) (bk σ H) := ⟨w_brk⟩ -- st
theorem w_tgt {n : Nat} {ts : TGs} {Z : L2.St → Hp → Prop} {a : Addr} (xs : List V) (h : SqT K H a xs) (hn : xs.length = n) (q : ts xs σ H Z) : gTup K n ts (.ref a) σ H Z := ⟨a, xs, rfl, h, hn, q⟩
instance {n : Nat} {ts : TGs} {Z : L2.St → Hp → Prop} {a : Addr} : SideK (gTup K n ts (.ref a) σ H Z) 5 := ⟨⟩ -- st
theorem w_gc {ts : TGs} {xs : List V} {Z : L2.St → Hp → Prop} (q : g v σ H fun σ' H' => ts xs σ' H' Z) : gCons g ts (v :: xs) σ H Z := ⟨v, xs, rfl, q⟩
instance {ts : TGs} {xs : List V} {Z : L2.St → Hp → Prop} : Step (gCons g ts (v :: xs) σ H Z) (g v σ H fun σ' H' => ts xs σ' H' Z) := ⟨w_gc⟩ -- st
theorem w_gn {Z : L2.St → Hp → Prop} (q : Z σ H) : gNil [] σ H Z := ⟨rfl, q⟩
instance {Z : L2.St → Hp → Prop} : Step (gNil [] σ H Z) (Z σ H) := ⟨w_gn⟩ -- st
/-- for k in range(n), range(a, b) -/
theorem w_for {wi : TI} (q : wi σ H fun J H1 => ∃ W : Nat → Nat → L2.St → Hp → Prop, (∃ m, W 0 m σ H1) ∧ ∀ i m σ H, W i m σ H →
      (J.stop i H ∧ nx σ H) ∨ (J.go i H ∧ ∃ N : L2.St → Hp → Prop, (∀ σ' H', N σ' H' → ∃ m', m' < m ∧ W (i + 1) m' σ' H') ∧ ∀ x H', J.yld i H x H' → g x σ H' fun σ2 H2 => tbody ⟨N, rt, nx, N⟩ σ2 H2)) : tFor wi g tbody ⟨nx, rt, bk, ct⟩ σ H := q
instance {wi : TI} : StepO (tFor wi g tbody ⟨nx, rt, bk, ct⟩ σ H) (wi σ H fun J H1 => ∃ W : Nat → Nat → L2.St → Hp → Prop, (∃ m, W 0 m σ H1) ∧ ∀ i m σ H, W i m σ H → (J.stop i H ∧ nx σ H) ∨ (J.go i H ∧ ∃ N : L2.St → Hp → Prop, (∀ σ' H', N σ' H' → ∃ m', m' < m ∧ W (i + 1) m' σ' H') ∧ ∀ x H', J.yld i H x H' → g x σ H' fun σ2 H2 => tbody ⟨N, rt, nx, N⟩ σ2 H2)) := ⟨w_for⟩ -- st
end
theorem w_rng1 {t : TA} {R : It → Hp → Prop} (q : t σ H fun vs H1 => ∃ j : Int, vs = [.int j] ∧ -(2 ^ 62) ≤ j ∧ j < 2 ^ 62 ∧ R (Itr 0 j.toNat) H1) : iRng1 t σ H R := q
instance {t : TA} {R : It → Hp → Prop} : StepO (iRng1 t σ H R) (t σ H fun vs H1 => ∃ j : Int, vs = [.int j] ∧ -(2 ^ 62) ≤ j ∧ j < 2 ^ 62 ∧ R (Itr 0 j.toNat) H1) := ⟨w_rng1⟩ -- st
theorem w_rng2 {t : TA} {R : It → Hp → Prop} (q : t σ H fun vs H1 => ∃ i j : Int, vs = [.int i, .int j] ∧ (-(2 ^ 62) ≤ i ∧ i < 2 ^ 62 ∧ -(2 ^ 62) ≤ j ∧ j < 2 ^ 62) ∧ R (Itr i (j - i).toNat) H1) : iRng2 t σ H R := q
instance {t : TA} {R : It → Hp → Prop} : StepO (iRng2 t σ H R) (t σ H fun vs H1 => ∃ i j : Int, vs = [.int i, .int j] ∧ (-(2 ^ 62) ≤ i ∧ i < 2 ^ 62 ∧ -(2 ^ 62) ≤ j ∧ j < 2 ^ 62) ∧ R (Itr i (j - i).toNat) H1) := ⟨w_rng2⟩ -- st
theorem w_ilist {R : It → Hp → Prop} (q : te σ H fun x H1 => ∃ a, x = .ref a ∧ (∃ xs, SqL K H1 a xs) ∧ R (Itl K a) H1) : iList K te σ H R := q
instance {R : It → Hp → Prop} : StepO (iList K te σ H R) (te σ H fun x H1 => ∃ a, x = .ref a ∧ (∃ xs, SqL K H1 a xs) ∧ R (Itl K a) H1) := ⟨w_ilist⟩ -- st
theorem w_itup {R : It → Hp → Prop} (q : te σ H fun x H1 => ∃ a, x = .ref a ∧ (∃ xs, SqT K H1 a xs) ∧ R (Itt K a) H1) : iTup K te σ H R := q
instance {R : It → Hp → Prop} : StepO (iTup K te σ H R) (te σ H fun x H1 => ∃ a, x = .ref a ∧ (∃ xs, SqT K H1 a xs) ∧ R (Itt K a) H1) := ⟨w_itup⟩ -- st
theorem w_istr {R : It → Hp → Prop} (q : te σ H fun v H1 => ∃ x, v = .str x ∧ R (Its x) H1) : iStr te σ H R := q
instance {R : It → Hp → Prop} : StepO (iStr te σ H R) (te σ H fun v H1 => ∃ x, v = .str x ∧ R (Its x) H1) := ⟨w_istr⟩ -- st
theorem w_lc {wi : TI} {g : TG} {tt : TT} {vs : List Nat} (q : wi σ H fun J H1 => ∀ D, H1 D = none → ∃ W : Nat → Nat → Hp → Prop, (∃ m, W 0 m (upd H1 D (.lst []))) ∧ ∀ i m H, W i m H →
    (J.stop i H ∧ Q (.ref D) H) ∨ (J.go i H ∧ ∃ Nx : Hp → Prop, (∀ H', Nx H' → ∃ m', m' < m ∧ W (i + 1) m' H') ∧ ∀ x H', J.yld i H x H' → g x (wipe σ vs) H' fun σ2 H2 => wipe σ2 vs = wipe σ vs ∧ tt σ2 H2 fun b H3 =>
      if b = true then te σ2 H3 fun y H4 => ∃ acc, H4 D = some (.lst acc) ∧ acc.length < sizeLine ∧ Nx (upd H4 D (.lst (acc ++ [y]))) else Nx H3)) : tLc wi g tt te vs σ H Q := q
instance {wi : TI} {g : TG} {tt : TT} {vs : List Nat} : StepO (tLc wi g tt te vs σ H Q) (wi σ H fun J H1 => ∀ D, H1 D = none → ∃ W : Nat → Nat → Hp → Prop, (∃ m, W 0 m (upd H1 D (.lst []))) ∧ ∀ i m H, W i m H → (J.stop i H ∧ Q (.ref D) H) ∨ (J.go i H ∧ ∃ Nx : Hp → Prop, (∀ H', Nx H' → ∃ m', m' < m ∧ W (i + 1) m' H') ∧ ∀ x H', J.yld i H x H' → g x (wipe σ vs) H' fun σ2 H2 => wipe σ2 vs = wipe σ vs ∧ tt σ2 H2 fun b H3 => if b = true then te σ2 H3 fun y H4 => ∃ acc, H4 D = some (.lst acc) ∧ acc.length < sizeLine ∧ Nx (upd H4 D (.lst (acc ++ [y]))) else Nx H3)) := ⟨w_lc⟩ -- st
/-- a test that is open -/
theorem w_ite {p : Prop} [Decidable p] {A B : Prop} (h1 : p → A) (h2 : ¬ p → B) : if decide p = true then A else B := by
  by_cases h : p
  · rw [if_pos (decide_eq_true h)]
    exact h1 h
  · rw [if_neg (by simpa using h)]
    exact h2 h
theorem w_iteT {p : Prop} [Decidable p] {A B : Prop} (hp : p) (h1 : A) : if decide p = true then A else B := by
  rw [if_pos (decide_eq_true hp)]
  exact h1
instance {p : Prop} [Decidable p] {A B : Prop} : SideK (if decide p = true then A else B) 6 := ⟨⟩ -- st
theorem w_iteF {p : Prop} [Decidable p] {A B : Prop} (hp : ¬ p) (h2 : B) : if decide p = true then A else B := by
  rw [if_neg (by simpa using hp)]
  exact h2
theorem w_tt {A B : Prop} (h : A) : if true = true then A else B := by rw [if_pos rfl]; exact h
instance {A B : Prop} : Step (if true = true then A else B) (A) := ⟨w_tt⟩ -- st
theorem w_ff {A B : Prop} (h : B) : if false = true then A else B := by rw [if_neg Bool.false_ne_true]; exact h
instance {A B : Prop} : Step (if false = true then A else B) (B) := ⟨w_ff⟩ -- st
theorem w_ntt {A B : Prop} (h : B) : if (!true) = true then A else B := by rw [if_neg (by decide)]; exact h
instance {A B : Prop} : Step (if (!true) = true then A else B) (B) := ⟨w_ntt⟩ -- st
theorem w_nff {A B : Prop} (h : A) : if (!false) = true then A else B := by rw [if_pos (by rfl)]; exact h
instance {A B : Prop} : Step (if (!false) = true then A else B) (A) := ⟨w_nff⟩ -- st
/-- subscripts -/
theorem w_ixL {p : Addr} {i : Int} (xs : List V) (v : V) (h : SqL K H p xs) (a : atI xs i = some v) (q : Q v H) : rIxL K (.ref p) (.int i) H Q := ⟨p, xs, i, v, rfl, rfl, h, a, q⟩
instance {p : Addr} {i : Int} : SideK (rIxL K (.ref p) (.int i) H Q) 2 := ⟨⟩ -- st
theorem w_ixT {p : Addr} {i : Int} (xs : List V) (v : V) (h : SqT K H p xs) (a : atI xs i = some v) (q : Q v H) : rIxT K (.ref p) (.int i) H Q := ⟨p, xs, i, v, rfl, rfl, h, a, q⟩
instance {p : Addr} {i : Int} : SideK (rIxT K (.ref p) (.int i) H Q) 2 := ⟨⟩ -- st
theorem w_ixS {z : Str} {i : Int} {c : Nat} (h : z.length ≤ sizeLine) (a : atI z.cps.toList i = some c) (q : Q (.str ⟨#[c]⟩) H) : rIxS (.str z) (.int i) H Q := ⟨z, i, c, rfl, rfl, h, a, q⟩
theorem w_setL {p : Addr} {k : Int} {Z : Hp → Prop} (xs : List V) (j : Nat) (h : H p = some (.lst xs)) (a : ixN xs.length k = some j) (q : Z (upd H p (.lst (xs.set j v)))) : rSetL (.ref p) (.int k) v H Z := ⟨p, xs, k, j, rfl, rfl, h, a, q⟩
instance {p : Addr} {k : Int} {Z : Hp → Prop} : SideK (rSetL (.ref p) (.int k) v H Z) 3 := ⟨⟩ -- st
theorem w_b1 {p : Addr} (a0 a1 a2 a3 a4 : V) {Z : Hp → Prop} (h : H p = some (.lst [a0, a1, a2, a3, a4])) (q : Z (upd H p (.lst [a0, v, a2, a3, a4]))) : rSetL (.ref p) (.int 1) v H Z := ⟨p, _, 1, 1, rfl, rfl, h, rfl, q⟩
instance {p : Addr} {Z : Hp → Prop} : SideK (rSetL (.ref p) (.int 1) v H Z) 3 := ⟨⟩ -- st
theorem w_b2 {p : Addr} (a0 a1 a2 a3 a4 : V) {Z : Hp → Prop} (h : H p = some (.lst [a0, a1, a2, a3, a4])) (q : Z (upd H p (.lst [a0, a1, v, a3, a4]))) : rSetL (.ref p) (.int 2) v H Z := ⟨p, _, 2, 2, rfl, rfl, h, rfl, q⟩
theorem w_b3 {p : Addr} (a0 a1 a2 a3 a4 : V) {Z : Hp → Prop} (h : H p = some (.lst [a0, a1, a2, a3, a4])) (q : Z (upd H p (.lst [a0, a1, a2, v, a4]))) : rSetL (.ref p) (.int 3) v H Z := ⟨p, _, 3, 3, rfl, rfl, h, rfl, q⟩
theorem w_b4 {p : Addr} (a0 a1 a2 a3 a4 : V) {Z : Hp → Prop} (h : H p = some (.lst [a0, a1, a2, a3, a4])) (q : Z (upd H p (.lst [a0, a1, a2, a3, v]))) : rSetL (.ref p) (.int 4) v H Z := ⟨p, _, 4, 4, rfl, rfl, h, rfl, q⟩
theorem w_app {l : Addr} (xs : List V) (h : H l = some (.lst xs)) (hn : xs.length < sizeLine) (q : Q .non (upd H l (.lst (xs ++ [y])))) : rAppend (.ref l) [y] H Q := ⟨l, xs, y, rfl, rfl, h, hn, q⟩
instance {l : Addr} : SideK (rAppend (.ref l) [y] H Q) 3 := ⟨⟩ -- st
theorem w_tyL {l : Addr} {P : Prop} (xs : List V) (h : SqL K H l xs) (q : P) : tyV K "list" (.ref l) H ∧ P := ⟨.inl ⟨rfl, _, h⟩, q⟩
instance {l : Addr} {P : Prop} : SideK (tyV K "list" (.ref l) H ∧ P) 2 := ⟨⟩ -- st
theorem w_lenQ {p : Addr} (xs : List V) (h : SqL K H p xs) (q : Q (.int xs.length) H) : rLenQ K [.ref p] H Q := ⟨p, xs, rfl, .inl h, q⟩
instance {p : Addr} : SideK (rLenQ K [.ref p] H Q) 2 := ⟨⟩ -- st
theorem w_lenQT {p : Addr} (xs : List V) (h : SqT K H p xs) (q : Q (.int xs.length) H) : rLenQ K [.ref p] H Q := ⟨p, xs, rfl, .inr h, q⟩
theorem w_lenS {z : Str} (h : z.length ≤ sizeLine) (q : Q (.int z.length) H) : rLenS [.str z] H Q := ⟨z, rfl, h, q⟩
instance {z : Str} : SideK (rLenS [.str z] H Q) 2 := ⟨⟩ -- st
theorem w_listOf {p : Addr} (xs : List V) (h : SqL K H p xs) (q : ∀ l, H l = none → Q (.ref l) (upd H l (.lst xs))) : rListOf K [.ref p] H Q := ⟨p, xs, rfl, .inl h, q⟩
instance {p : Addr} : SideK (rListOf K [.ref p] H Q) 3 := ⟨⟩ -- st
theorem w_int1 {i : Int} (q : Q (.int i) H) : rInt1 [.int i] H Q := .inl ⟨i, rfl, q⟩
instance {i : Int} : Step (rInt1 [.int i] H Q) (Q (.int i) H) := ⟨w_int1⟩ -- st
theorem w_int1b {b : Bool} (q : Q (.int (if b then 1 else 0)) H) : rInt1 [.bl b] H Q := .inr ⟨b, rfl, q⟩
instance {b : Bool} : Step (rInt1 [.bl b] H Q) (Q (.int (if b then 1 else 0)) H) := ⟨w_int1b⟩ -- st
theorem w_abs {i : Int} (q : Q (.int (if i < 0 then -i else i)) H) : rAbs [.int i] H Q := ⟨i, rfl, q⟩
instance {i : Int} : Step (rAbs [.int i] H Q) (Q (.int (if i < 0 then -i else i)) H) := ⟨w_abs⟩ -- st
theorem w_min2 {i j : Int} (q : Q (.int (if j < i then j else i)) H) : rMin2 [.int i, .int j] H Q := ⟨i, j, rfl, q⟩
instance {i j : Int} : Step (rMin2 [.int i, .int j] H Q) (Q (.int (if j < i then j else i)) H) := ⟨w_min2⟩ -- st
theorem w_max2 {i j : Int} (q : Q (.int (if j > i then j else i)) H) : rMax2 [.int i, .int j] H Q := ⟨i, j, rfl, q⟩
instance {i j : Int} : Step (rMax2 [.int i, .int j] H Q) (Q (.int (if j > i then j else i)) H) := ⟨w_max2⟩ -- st
theorem w_min3 {i j k : Int} (q : Q (.int (min (min i j) k)) H) : rNuC3 nuMin3 [.int i, .int j, .int k] H Q := by
  refine ⟨.int i, .int j, .int k, .int (min (min i j) k), rfl, ?_, q⟩
  have e1 : nuMin2 (.int i) (.int j) = some (.int (min i j)) := by
    show some (if decide (j < i) = true then V.int j else V.int i) = _
    by_cases h : j < i
    · rw [if_pos (decide_eq_true h)]
      congr 2
      omega
    · rw [if_neg (by simpa using h)]
      congr 2
      omega
  have e2 : nuMin2 (.int (min i j)) (.int k) = some (.int (min (min i j) k)) := by
    show some (if decide (k < min i j) = true then V.int k else V.int (min i j)) = _
    by_cases h : k < min i j
    · rw [if_pos (decide_eq_true h)]
      congr 2
      omega
    · rw [if_neg (by simpa using h)]
      congr 2
      omega
  show (nuMin2 (.int i) (.int j)).bind (fun m => nuMin2 m (.int k)) = _
  rw [e1]
  exact e2
instance {i j k : Int} : Step (rNuC3 nuMin3 [.int i, .int j, .int k] H Q) (Q (.int (min (min i j) k)) H) := ⟨w_min3⟩ -- st
theorem w_slL {p : Addr} {lo hi : Option Int} (xs : List V) (h : SqL K H p xs) (q : ∀ l, H l = none → Q (.ref l) (upd H l (.lst (cutV xs lo hi)))) : rSlL K (.ref p) lo hi H Q := ⟨p, xs, rfl, h, q⟩
instance {p : Addr} {lo hi : Option Int} : SideK (rSlL K (.ref p) lo hi H Q) 3 := ⟨⟩ -- st
end
end R
namespace R
open PySem L2
/-! ### the bag of a law: its cells (never changed), a place, what is left, the stirred number, a count -/
structure Bag (K : PySem.W.Frag) (F H : Hp) (b : Addr) : Prop where
  ex : ∃ (c : Addr) (cells : List Int) (i cur st n : Int), F b = none ∧ H b = some (.lst [.ref c, .int i, .int cur, .int st, .int n]) ∧ SqL K F c (cells.map V.int) ∧ cells.length ≤ 63 ∧
    (∀ x ∈ cells, 0 ≤ x ∧ x < 10 ^ 60) ∧ 0 ≤ i ∧ 0 ≤ cur ∧ cur < 10 ^ 60 ∧ 0 ≤ st ∧ st < 2147483647
theorem Bag.keep {K : PySem.W.Frag} {M : List Addr} {F H F2 H2 : Hp} {b : Addr} (g : Gr M F H F2 H2) (h : Bag K F H b) (hb : b ∉ M) : Bag K F2 H2 b := by
  obtain ⟨c, cells, i, cur, st, n, h1, h2, h3, h4⟩ := h.ex
  exact ⟨c, cells, i, cur, st, n, g.nw b (ne_none h2) h1, g.hh b _ hb h2, sqL_same g.ff h3, h4⟩
theorem Bag.ne_new {K : PySem.W.Frag} {F H : Hp} {b q : Addr} (h : Bag K F H b) (hq : H q = none) : b ≠ q := by
  obtain ⟨c, cells, i, cur, st, n, h1, h2, _⟩ := h.ex
  exact ne_of_none h2 hq
/-- a draw: a number from 0 on below n -/
def φdraw (K : PySem.W.Frag) : V → V → Hp → VK → Prop := fun x y H Q => ∃ (b : Addr) (m : Int) (F : Hp), x = .ref b ∧ y = .int m ∧ Same F H ∧ Bag K F H b ∧ 0 < m ∧ m < 2 ^ 200 ∧
  ∀ (r : Int) (F2 H2 : Hp), Gr [b] F H F2 H2 → Bag K F2 H2 b → 0 ≤ r → r < m → Q (.int r) H2
theorem u_draw {K : PySem.W.Frag} {b : Addr} {m : Int} {F H : Hp} {Q : VK} {E : XK} (w : Same F H) (hb : Bag K F H b) (h0 : 0 < m) (h1 : m < 2 ^ 200) (q : ∀ (r : Int) (F2 H2 : Hp), Gr [b] F H F2 H2 → Bag K F2 H2 b → 0 ≤ r → r < m → Q (.int r) H2) :
    S2 (φdraw K) ([.ref b, .int m] ++ []) H Q E := ⟨b, m, F, rfl, rfl, w, hb, h0, h1, q⟩
def φbag (K : PySem.W.Frag) : V → Hp → VK → Prop := fun x H Q => ∃ (a : Addr) (ns : List Int), x = .ref a ∧ SqL K H a (ns.map V.int) ∧ ns.length ≤ 63 ∧
  ∀ (b : Addr) (F2 H2 : Hp), Gr [] H H F2 H2 → Bag K F2 H2 b → Q (.ref b) H2
theorem bits_le {m : Int} (h0 : 0 < m) (h1 : m < 2 ^ 200) : (Builtin.Int.intBits m : Int) ≤ 200 := by
  have h : m.natAbs < 2 ^ 200 := by omega
  have e := PyProof.Rows.intBits_le h
  omega
theorem mod_nn {a b : Int} (h : 0 < b) : 0 ≤ a % b := Int.emod_nonneg a (by omega)
theorem mod_lt {a b : Int} (h : 0 < b) : a % b < b := Int.emod_lt_of_pos a h
theorem div_nn {a b : Int} (ha : 0 ≤ a) (hb : 0 < b) : 0 ≤ a / b := Int.ediv_nonneg ha (by omega)
theorem div_le' {a b : Int} (ha : 0 ≤ a) (hb : 0 < b) : a / b ≤ a := Int.ediv_le_self b ha
theorem log2_lt {j : Int} (h : j.natAbs < 2 ^ 8999) (h0 : 0 < j) : CDivW 0 j := by
  refine ⟨h0, ?_⟩
  have hp : j.natAbs ≠ 0 := by omega
  have := (Nat.log2_lt hp).mpr h
  omega
theorem divw_ok {i j : Int} (h0 : 0 < j) (h1 : j < 2 ^ 200) : CDivW i j := by
  refine ⟨h0, ?_⟩
  have hp : j.natAbs ≠ 0 := by omega
  have h : j.natAbs < 2 ^ 200 := by omega
  have := (Nat.log2_lt hp).mpr h
  omega
/-! ### loops by what holds at each turn -/
section
variable {K : PySem.W.Frag} {σ : L2.St} {H : Hp} {Q : VK} {nx bk ct : L2.St → Hp → Prop} {rt : VK} {g : TG} {tb : TS}
/-- what tFor asks of a range, by what holds ahead of turn i -/
theorem f_range {lo : Int} {n : Nat} (Pv : Nat → L2.St → Hp → Prop) (h0 : Pv 0 σ H) (hs : ∀ i σ H, i < n → Pv i σ H → g (.int (lo + i)) σ H fun σ2 H2 => tb ⟨Pv (i + 1), rt, nx, Pv (i + 1)⟩ σ2 H2) (hd : ∀ σ H, Pv n σ H → nx σ H) :
    ∃ W : Nat → Nat → L2.St → Hp → Prop, (∃ m, W 0 m σ H) ∧ ∀ i m σ H, W i m σ H →
      ((Itr lo n).stop i H ∧ nx σ H) ∨ ((Itr lo n).go i H ∧ ∃ N : L2.St → Hp → Prop, (∀ σ' H', N σ' H' → ∃ m', m' < m ∧ W (i + 1) m' σ' H') ∧ ∀ x H', (Itr lo n).yld i H x H' → g x σ H' fun σ2 H2 => tb ⟨N, rt, nx, N⟩ σ2 H2) := by
  refine ⟨fun i m σ H => m = n - i ∧ i ≤ n ∧ Pv i σ H, ⟨n, by simp, Nat.zero_le _, h0⟩, ?_⟩
  rintro i m σ H ⟨rfl, hi, p⟩
  by_cases hlt : i < n
  · refine .inr ⟨hlt, Pv (i + 1), fun σ' H' p' => ⟨n - (i + 1), by omega, rfl, hlt, p'⟩, fun x H' y => ?_⟩
    obtain ⟨e, y⟩ := y
    subst e y
    exact hs i σ _ hlt p
  · have e : i = n := by omega
    subst e
    exact .inl ⟨Nat.le_refl _, hd σ H p⟩
theorem f_range0 {n : Nat} (Pv : Nat → L2.St → Hp → Prop) (h0 : Pv 0 σ H) (hs : ∀ i σ H, i < n → Pv i σ H → g (.int (i : Int)) σ H fun σ2 H2 => tb ⟨Pv (i + 1), rt, nx, Pv (i + 1)⟩ σ2 H2) (hd : ∀ σ H, Pv n σ H → nx σ H) :
    ∃ W : Nat → Nat → L2.St → Hp → Prop, (∃ m, W 0 m σ H) ∧ ∀ i m σ H, W i m σ H →
      ((Itr 0 n).stop i H ∧ nx σ H) ∨ ((Itr 0 n).go i H ∧ ∃ N : L2.St → Hp → Prop, (∀ σ' H', N σ' H' → ∃ m', m' < m ∧ W (i + 1) m' σ' H') ∧ ∀ x H', (Itr 0 n).yld i H x H' → g x σ H' fun σ2 H2 => tb ⟨N, rt, nx, N⟩ σ2 H2) :=
  f_range Pv h0 (fun i σ H hi hp => by rw [Int.zero_add]; exact hs i σ H hi hp) hd
theorem f_list {a : Addr} {xs : List V} (Pv : Nat → L2.St → Hp → Prop) (h0 : Pv 0 σ H) (hl : ∀ i σ H, i ≤ xs.length → Pv i σ H → SqL K H a xs)
    (hs : ∀ i x σ H, xs[i]? = some x → Pv i σ H → g x σ H fun σ2 H2 => tb ⟨Pv (i + 1), rt, nx, Pv (i + 1)⟩ σ2 H2) (hd : ∀ σ H, Pv xs.length σ H → nx σ H) :
    ∃ W : Nat → Nat → L2.St → Hp → Prop, (∃ m, W 0 m σ H) ∧ ∀ i m σ H, W i m σ H →
      ((Itl K a).stop i H ∧ nx σ H) ∨ ((Itl K a).go i H ∧ ∃ N : L2.St → Hp → Prop, (∀ σ' H', N σ' H' → ∃ m', m' < m ∧ W (i + 1) m' σ' H') ∧ ∀ x H', (Itl K a).yld i H x H' → g x σ H' fun σ2 H2 => tb ⟨N, rt, nx, N⟩ σ2 H2) := by
  refine ⟨fun i m σ H => m = xs.length - i ∧ i ≤ xs.length ∧ Pv i σ H, ⟨xs.length, by simp, Nat.zero_le _, h0⟩, ?_⟩
  rintro i m σ H ⟨rfl, hi, p⟩
  have q := hl i σ H hi p
  by_cases hlt : i < xs.length
  · refine .inr ⟨⟨xs, xs[i], q, by simp [hlt]⟩, Pv (i + 1), fun σ' H' p' => ⟨xs.length - (i + 1), by omega, rfl, hlt, p'⟩, fun x H' y => ?_⟩
    obtain ⟨e, y⟩ := y
    subst e
    exact hs i x σ _ (y xs q) p
  · have e : i = xs.length := by omega
    subst e
    exact .inl ⟨⟨xs, q, Nat.le_refl _⟩, hd σ H p⟩
variable {tt : TT} {te : TE} {vs : List Nat} {D : Addr} {Qd : Hp → Prop}
theorem lc_rng {n : Nat} (Pv : Nat → Hp → Prop) (h0 : Pv 0 (upd H D (.lst []))) (hs : ∀ i H, i < n → Pv i H → g (.int (i : Int)) (wipe σ vs) H fun σ2 H2 => wipe σ2 vs = wipe σ vs ∧ tt σ2 H2 fun b H3 =>
      if b = true then te σ2 H3 fun y H4 => ∃ acc, H4 D = some (.lst acc) ∧ acc.length < sizeLine ∧ Pv (i + 1) (upd H4 D (.lst (acc ++ [y]))) else Pv (i + 1) H3) (hd : ∀ H, Pv n H → Qd H) :
    ∃ W : Nat → Nat → Hp → Prop, (∃ m, W 0 m (upd H D (.lst []))) ∧ ∀ i m H, W i m H →
      ((Itr 0 n).stop i H ∧ Qd H) ∨ ((Itr 0 n).go i H ∧ ∃ Nx : Hp → Prop, (∀ H', Nx H' → ∃ m', m' < m ∧ W (i + 1) m' H') ∧ ∀ x H', (Itr 0 n).yld i H x H' → g x (wipe σ vs) H' fun σ2 H2 => wipe σ2 vs = wipe σ vs ∧ tt σ2 H2 fun b H3 =>
        if b = true then te σ2 H3 fun y H4 => ∃ acc, H4 D = some (.lst acc) ∧ acc.length < sizeLine ∧ Nx (upd H4 D (.lst (acc ++ [y]))) else Nx H3) :=
  lc_range (lo := 0) Pv h0 (fun i H hi hp => by rw [Int.zero_add]; exact hs i H hi hp) hd
end
end R
namespace R
open PySem L2
theorem Gr.put {M : List Addr} {F0 H0 F H : Hp} {p : Addr} {o : HO} (g : Gr M F0 H0 F H) (h : F p = none) (hm : p ∈ M) : Gr M F0 H0 F (upd H p o) := g.trans (.wr g.fh h hm)
theorem Gr.add {M : List Addr} {F0 H0 F H : Hp} {p : Addr} {o : HO} (g : Gr M F0 H0 F H) (h : H p = none) : Gr M F0 H0 (upd F p o) (upd H p o) := g.trans (.im g.fh h)
theorem Gr.addm {M : List Addr} {F0 H0 F H : Hp} {p : Addr} {o : HO} (g : Gr M F0 H0 F H) (h : H p = none) : Gr M F0 H0 F (upd H p o) := g.trans (.new g.fh h)
theorem Gr.ws {M : List Addr} {F H F2 H2 : Hp} (g : Gr M F H F2 H2) : Same F H2 := g.ff.trans g.fh
theorem Gr.transN {M N : List Addr} {F H F1 H1 F2 H2 : Hp} (a : Gr M F H F1 H1) (b : Gr N F1 H1 F2 H2) (h : ∀ x ∈ N, x ∈ M ∨ H x = none) : Gr M F H F2 H2 :=
  ⟨a.ff.trans b.ff, b.fh, fun x o n e => b.hh x o (fun m => (h x m).elim n fun z => by rw [z] at e; cases e) (a.hh x o n e), fun x e => b.al x (a.al x e), fun x e n => b.nw x (a.al x e) (a.nw x e n)⟩
theorem Gr.fresh {M : List Addr} {F0 H0 F H : Hp} {p : Addr} (g : Gr M F0 H0 F H) (h : H p = none) : H0 p = none := by
  cases e : H0 p with
  | none => rfl
  | some o => exact absurd h (g.al p (ne_none e))
/-- an object that was new behind the start, and changes no more -/
theorem Gr.frz {M : List Addr} {F0 H0 F H : Hp} {p : Addr} {o : HO} (g : Gr M F0 H0 F H) (hn : H0 p = none) (m : Mu F H p o) : Gr M F0 H0 (upd F p o) H := by
  refine ⟨g.ff.trans (Same.new m.n), fun a u e => ?_, g.hh, g.al, fun a e n => ?_⟩
  · by_cases q : a = p
    · subst q
      rw [upd_same] at e
      exact m.h.trans e
    · rw [upd_ne q] at e
      exact g.fh a u e
  · have q : a ≠ p := fun z => by subst z; exact e hn
    rw [upd_ne q]
    exact g.nw a e n
theorem Mu.same {F H : Hp} {p : Addr} {o : HO} (m : Mu F H p o) (w : Same F H) : Same (upd F p o) H := fun a u e => by
  by_cases q : a = p
  · subst q
    rw [upd_same] at e
    exact m.h.trans e
  · rw [upd_ne q] at e
    exact w a u e
theorem Mu.frz {F H : Hp} {p q : Addr} {o u : HO} (m : Mu F H p o) (h : p ≠ q) : Mu (upd F q u) H p o := ⟨by rw [upd_ne h]; exact m.n, m.h⟩
theorem Bag.frz {K : PySem.W.Frag} {F H : Hp} {b q : Addr} {u : HO} (h : Bag K F H b) (hn : F q = none) (hq : b ≠ q) : Bag K (upd F q u) H b := by
  obtain ⟨c, cells, i, cur, st, n, h1, h2, h3, h4⟩ := h.ex
  exact ⟨c, cells, i, cur, st, n, by rw [upd_ne hq]; exact h1, h2, sqL_same (Same.new hn) h3, h4⟩
theorem Bag.put {K : PySem.W.Frag} {F H : Hp} {b q : Addr} {u : HO} (h : Bag K F H b) (hq : b ≠ q) : Bag K F (upd H q u) b := by
  obtain ⟨c, cells, i, cur, st, n, h1, h2, h3, h4⟩ := h.ex
  exact ⟨c, cells, i, cur, st, n, h1, by rw [upd_ne hq]; exact h2, h3, h4⟩
theorem Bag.addm {K : PySem.W.Frag} {F H : Hp} {b q : Addr} {u : HO} (h : Bag K F H b) (hq : H q = none) : Bag K F (upd H q u) b := h.put (h.ne_new hq)
theorem Bag.add {K : PySem.W.Frag} {F H : Hp} {b q : Addr} {u : HO} (w : Same F H) (h : Bag K F H b) (hq : H q = none) : Bag K (upd F q u) (upd H q u) b := (h.addm hq).frz (w.free hq) (h.ne_new hq)
theorem Mu.addm {F H : Hp} {p q : Addr} {o u : HO} (m : Mu F H p o) (hq : H q = none) : Mu F (upd H q u) p o := m.oth (m.ne_new hq)
theorem Mu.add {F H : Hp} {p q : Addr} {o u : HO} (m : Mu F H p o) (hq : H q = none) : Mu (upd F q u) (upd H q u) p o := (m.addm hq).frz (m.ne_new hq)
/-! ### data -/
theorem dpa_len {K : PySem.W.Frag} {F : Hp} : ∀ {vs : List V} {ds : List PyData}, DpAll K F vs ds → vs.length = ds.length
  | _, _, .nil => rfl
  | _, _, .cons _ t => congrArg (· + 1) (dpa_len t)
theorem dpa_get {K : PySem.W.Frag} {F : Hp} : ∀ {vs : List V} {ds : List PyData} {i : Nat} {d : PyData}, DpAll K F vs ds → ds[i]? = some d → ∃ v, vs[i]? = some v ∧ Dp K F v d
  | _, _, _, _, .nil, e => by simp at e
  | _, _, 0, _, .cons h _, e => by
    have e' := Option.some.inj e
    subst e'
    exact ⟨_, rfl, h⟩
  | _, _, i + 1, _, .cons _ t, e => dpa_get (i := i) t e
theorem dpa_app {K : PySem.W.Frag} {F : Hp} : ∀ {vs us : List V} {ds es : List PyData}, DpAll K F vs ds → DpAll K F us es → DpAll K F (vs ++ us) (ds ++ es)
  | _, _, _, _, .nil, h => h
  | _, _, _, _, .cons h t, u => .cons h (dpa_app t u)
theorem dpa_snoc {K : PySem.W.Frag} {F : Hp} {vs : List V} {ds : List PyData} {v : V} {d : PyData} (h : DpAll K F vs ds) (hd : Dp K F v d) : DpAll K F (vs ++ [v]) (ds ++ [d]) := dpa_app h (.cons hd .nil)
def tyD : PyData → String
  | .none => "NoneType" | .bool _ => "bool" | .int _ => "int" | .str _ => "str" | .list _ => "list" | .tuple _ => "tuple" | .dict _ => "dict"
theorem tyx_of {K : PySem.W.Frag} {F H : Hp} {x : V} {d : PyData} (h : Dp K F x d) (w : Same F H) : TyX K H x (.type (tyD d)) := by
  cases h with
  | non => exact .base .non
  | bl b => exact .base (.bl b)
  | int i => exact .base (.int i)
  | str s => exact .base (.str s)
  | lst hs _ =>
    rcases hs with (h | ⟨o, h⟩) | ⟨o, its, n, e1, e2, _⟩
    · exact .base (.lst (w _ _ h))
    · exact .base (.frz (w _ _ h))
    · exact .kList e1 e2
  | tup hs _ =>
    rcases hs with (h | ⟨o, h⟩) | ⟨o, its, n, e1, e2, _⟩
    · exact .base (.tup (w _ _ h))
    · exact .fTuple (w _ _ h)
    · exact .kTuple e1 e2
section
variable {K : PySem.W.Frag} {F H : Hp} {x y : V} {d : PyData} {Q : VK} {n m : String} {p : Addr}
theorem u_isi {b : Bool} (h : Dp K F x d) (w : Same F H) (e : kitB (tyD d) n = some b) (q : Q (.bl b) H) : rIsi K [x, .ty n] H Q :=
  ⟨x, .ty n, _, _, b, rfl, .ty n, tyx_of h w, kit_ty e, q⟩
theorem u_isiT {b c : Bool} (h : Dp K F x d) (w : Same F H) (hp : H p = some (.tup [.ty n, .ty m])) (e1 : kitB (tyD d) n = some b) (e2 : kitB (tyD d) m = some c) (q : Q (.bl (b || c)) H) : rIsiT K [x, .ref p] H Q := by
  refine ⟨x, p, _, _, _, b || c, rfl, hp, .cons (.ty n) (.cons (.ty m) .nil), tyx_of h w, ?_, q⟩
  refine kitAny_cons (kit_ty e1) (fun hb => ?_) (fun hb => by rw [hb]; rfl)
  refine kitAny_cons (kit_ty e2) (fun hc => ?_) (fun hc => by rw [hc]; simp)
  rw [hb, hc]
  exact kitAny_nil
end
/-- the answers of isinstance for data -/
def isSeq : PyData → Bool
  | .list _ | .tuple _ => true
  | _ => false
def isLst : PyData → Bool
  | .list _ => true
  | _ => false
def isTup : PyData → Bool
  | .tuple _ => true
  | _ => false
def isBol : PyData → Bool
  | .bool _ => true
  | _ => false
def isInt : PyData → Bool
  | .bool _ | .int _ => true
  | _ => false
def isStr : PyData → Bool
  | .str _ => true
  | _ => false
theorem k_list : ∀ d : PyData, kitB (tyD d) "list" = some (isLst d) := by intro d; cases d <;> simp only [tyD, isLst, isTup, isBol, isInt, isStr] <;> decide +kernel
theorem k_tuple : ∀ d : PyData, kitB (tyD d) "tuple" = some (isTup d) := by intro d; cases d <;> simp only [tyD, isLst, isTup, isBol, isInt, isStr] <;> decide +kernel
theorem k_bool : ∀ d : PyData, kitB (tyD d) "bool" = some (isBol d) := by intro d; cases d <;> simp only [tyD, isLst, isTup, isBol, isInt, isStr] <;> decide +kernel
theorem k_int : ∀ d : PyData, kitB (tyD d) "int" = some (isInt d) := by intro d; cases d <;> simp only [tyD, isLst, isTup, isBol, isInt, isStr] <;> decide +kernel
theorem k_str : ∀ d : PyData, kitB (tyD d) "str" = some (isStr d) := by intro d; cases d <;> simp only [tyD, isLst, isTup, isBol, isInt, isStr] <;> decide +kernel
def itemsD : PyData → List PyData
  | .list ds | .tuple ds => ds
  | _ => []
theorem seq_of {K : PySem.W.Frag} {F : Hp} {x : V} {d : PyData} (h : Dp K F x d) (s : isSeq d = true) : ∃ (a : Addr) (vs : List V), x = .ref a ∧ (SqL K F a vs ∨ SqT K F a vs) ∧ DpAll K F vs (itemsD d) := by
  cases h with
  | lst hs ha => exact ⟨_, _, rfl, .inl hs, ha⟩
  | tup hs ha => exact ⟨_, _, rfl, .inr hs, ha⟩
  | _ => cases s
theorem sca_of {K : PySem.W.Frag} {F : Hp} {x y : V} {d : PyData} (h : Dp K F x d) (h' : Dp K F y d) (s : isSeq d = false) : y = x ∧ scal x x = true := by
  cases h with
  | lst hs ha => cases s
  | tup hs ha => cases s
  | non => cases h'; exact ⟨rfl, rfl⟩
  | bl => cases h'; exact ⟨rfl, rfl⟩
  | int => cases h'; exact ⟨rfl, rfl⟩
  | str => cases h'; exact ⟨rfl, rfl⟩
theorem depth_item : ∀ {d e : PyData} {i : Nat}, isSeq d = true → (itemsD d)[i]? = some e → e.depth < d.depth := by
  have key : ∀ (ds : List PyData) (i : Nat) (e : PyData), ds[i]? = some e → e.depth ≤ PyData.depthAll ds := by
    intro ds
    induction ds with
    | nil => intro i e h; simp at h
    | cons d ds ih =>
      intro i e h
      cases i with
      | zero =>
        have e' := Option.some.inj h
        subst e'
        rw [PyData.depthAll]
        exact Nat.le_max_left _ _
      | succ i =>
        have := ih i e h
        rw [PyData.depthAll]
        exact Nat.le_trans this (Nat.le_max_right _ _)
  intro d e i s h
  cases d with
  | list ds => rw [PyData.depth]; exact Nat.lt_succ_of_le (key ds i e h)
  | tuple ds => rw [PyData.depth]; exact Nat.lt_succ_of_le (key ds i e h)
  | _ => cases s
section
variable {K : PySem.W.Frag} {H : Hp} {Q : VK} {v : V} {A B : Prop}
theorem w_ixQ {a : Addr} {i : Int} (vs : List V) (v : V) (h : SqL K H a vs ∨ SqT K H a vs) (e : atI vs i = some v) (q : Q v H) : rIx K (.ref a) (.int i) H Q := by
  rcases h with h | h
  · exact .inl ⟨a, vs, i, v, rfl, rfl, h, e, q⟩
  · exact .inr (.inl ⟨a, vs, i, v, rfl, rfl, h, e, q⟩)
theorem sq_same {F : Hp} {a : Addr} {vs : List V} (w : Same F H) (h : SqL K F a vs ∨ SqT K F a vs) : SqL K H a vs ∨ SqT K H a vs := h.elim (fun h => .inl (sqL_same w h)) fun h => .inr (sqT_same w h)
theorem w_nself {α : Type} [DecidableEq α] {a : α} (h : B) : if (!decide (a = a)) = true then A else B := by
  rw [if_neg (by simp)]
  exact h
instance {α : Type} [DecidableEq α] {a : α} : Step (if (!decide (a = a)) = true then A else B) (B) := ⟨w_nself⟩ -- st
theorem w_self {α : Type} [DecidableEq α] {a : α} (h : A) : if decide (a = a) = true then A else B := by
  rw [if_pos (by simp)]
  exact h
instance {α : Type} [DecidableEq α] {a : α} : Step (if decide (a = a) = true then A else B) (A) := ⟨w_self⟩ -- st
theorem w_is {b c : Bool} (e : b = c) (h : if c = true then A else B) : if b = true then A else B := by rw [e]; exact h
end
theorem le1000 {n : Nat} (h : n ≤ 1000) : n ≤ sizeLine := Nat.le_of_lt (small1000 h)
theorem small_lt {n : Nat} (h : n ≤ 1000000) : n < sizeLine := by rw [sizeLine_eq]; omega
theorem all_rep (n : Nat) : (List.replicate n true).all id = true := by
  induction n with
  | zero => rfl
  | succ n ih => rw [List.replicate_succ, List.all_cons, ih]; rfl
theorem szle {n : Nat} (h : n ≤ 1000000) : n ≤ sizeLine := Nat.le_of_lt (by rw [sizeLine_eq]; omega)
section
variable {K : PySem.W.Frag} {σ : L2.St} {H : Hp} {Q : VK} {ta : TE}
theorem w_lstRg {te : L2.St → Hp → (Int → Int → Hp → Prop) → Prop} (q : te σ H fun a b H1 => RgOk a b ∧ ∀ q, H1 q = none → Q (.ref q) (upd H1 q (.lst (rgV a b)))) : tLstRg te σ H Q := q
instance {te : L2.St → Hp → (Int → Int → Hp → Prop) → Prop} : StepO (tLstRg te σ H Q) (te σ H fun a b H1 => RgOk a b ∧ ∀ q, H1 q = none → Q (.ref q) (upd H1 q (.lst (rgV a b)))) := ⟨w_lstRg⟩ -- st
theorem w_rg1 {R : Int → Int → Hp → Prop} (q : ta σ H fun x H1 => asInt x H1 fun n H2 => R 0 n H2) : tRg1 ta σ H R := q
instance {R : Int → Int → Hp → Prop} : Step (tRg1 ta σ H R) (ta σ H fun x H1 => asInt x H1 fun n H2 => R 0 n H2) := ⟨w_rg1⟩ -- st
theorem w_revL (q : ta σ H fun x H1 => ∃ a xs, x = .ref a ∧ SqL K H1 a xs ∧ ∀ p, H1 p = none → Q (.ref p) (upd H1 p (.lst xs.reverse))) : tRevL K ta σ H Q := q
instance : StepO (tRevL K ta σ H Q) (ta σ H fun x H1 => ∃ a xs, x = .ref a ∧ SqL K H1 a xs ∧ ∀ p, H1 p = none → Q (.ref p) (upd H1 p (.lst xs.reverse))) := ⟨w_revL⟩ -- st
end
def nV (l : List Nat) : List V := l.map fun k => V.int (k : Nat)
theorem pick_ix {ns : List Int} {i lo hi : Int} (h0 : 0 ≤ i) (h1 : i < (ns.length : Int)) (hb : ∀ x ∈ ns, lo ≤ x ∧ x ≤ hi) : ∃ m, atI (ns.map V.int) i = some (.int m) ∧ lo ≤ m ∧ m ≤ hi := by
  have hi : i.toNat < ns.length := by omega
  refine ⟨ns[i.toNat], ?_, hb _ (List.getElem_mem hi)⟩
  refine at_of (j := i.toNat) (by omega) ?_
  rw [List.getElem?_map, List.getElem?_eq_getElem hi]
  rfl
theorem cell_at {cells : List Int} {i : Int} (h0 : 0 ≤ i) (h1 : i < ((cells.map V.int).length : Nat)) : ∃ x, x ∈ cells ∧ atI (cells.map V.int) i = some (.int x) := by
  rw [List.length_map] at h1
  have hi : i.toNat < cells.length := by omega
  refine ⟨cells[i.toNat], List.getElem_mem hi, ?_⟩
  refine at_of (j := i.toNat) (by omega) ?_
  rw [List.getElem?_map, List.getElem?_eq_getElem hi]
  rfl
theorem cut63 {ns : List Int} (h : ns.length ≤ 63) : cutV (ns.map V.int) none (some 63) = ns.map V.int := by
  unfold cutV
  rw [HT.sIx_none, show HT.sIx (ns.map V.int).length (ns.map V.int).length (some 63) = min 63 (ns.map V.int).length from HT.sIx_nat _ _ 63, List.drop_zero, List.length_map]
  refine List.take_of_length_le ?_
  rw [List.length_map]
  omega
theorem map_get {ns : List Int} {i : Nat} {x : V} (h : (ns.map V.int)[i]? = some x) : ∃ c, x = .int c := by
  rw [List.getElem?_map] at h
  cases e : ns[i]? with
  | none => rw [e] at h; cases h
  | some c =>
    rw [e] at h
    exact ⟨c, (Option.some.inj h).symm⟩
/-! data of modest size, no dicts, plain signs -/
mutual
def good : PyData → Bool
  | .none | .bool _ | .int _ => true
  | .str x => PyData.strOk x && decide (x.length ≤ 100000)
  | .list ds | .tuple ds => decide (ds.length ≤ 100000) && goodAll ds
  | .dict _ => false
def goodAll : List PyData → Bool
  | [] => true
  | d :: ds => good d && goodAll ds
end
theorem goodAll_iff : ∀ {ds : List PyData}, goodAll ds = true ↔ ∀ d ∈ ds, good d = true
  | [] => by simp [goodAll]
  | d :: ds => by simp [goodAll, goodAll_iff (ds := ds)]
mutual
theorem lay_good : ∀ d : PyData, good d = true → d.canLay0 = true
  | .none, _ => rfl
  | .bool _, _ => rfl
  | .int _, _ => rfl
  | .str x, h => by
    rw [good, Bool.and_eq_true] at h
    exact h.1
  | .list ds, h => by
    rw [good, Bool.and_eq_true] at h
    exact lay_goodAll ds h.2
  | .tuple ds, h => by
    rw [good, Bool.and_eq_true] at h
    exact lay_goodAll ds h.2
  | .dict _, h => by cases h
theorem lay_goodAll : ∀ ds : List PyData, goodAll ds = true → PyData.canLayAll0 ds = true
  | [], _ => rfl
  | d :: ds, h => by
    rw [goodAll, Bool.and_eq_true] at h
    rw [PyData.canLayAll0, lay_good d h.1, lay_goodAll ds h.2]
    rfl
end
theorem good_item {d e : PyData} {i : Nat} (h : good d = true) (he : (itemsD d)[i]? = some e) : good e = true := by
  cases d with
  | list ds =>
    rw [good, Bool.and_eq_true] at h
    exact goodAll_iff.mp h.2 e (List.mem_of_getElem? he)
  | tuple ds =>
    rw [good, Bool.and_eq_true] at h
    exact goodAll_iff.mp h.2 e (List.mem_of_getElem? he)
  | _ => simp [itemsD] at he
theorem good_len {d : PyData} (h : good d = true) : (itemsD d).length ≤ 100000 := by
  cases d with
  | list ds =>
    rw [good, Bool.and_eq_true] at h
    exact of_decide_eq_true h.1
  | tuple ds =>
    rw [good, Bool.and_eq_true] at h
    exact of_decide_eq_true h.1
  | _ => exact Nat.zero_le _
theorem good_shaped {d : PyData} (h : good d = true) (hd : d.depth ≤ 64) : SeqAt.shaped d = true := by
  unfold SeqAt.shaped
  rw [lay_good d h, decide_eq_true hd]
  rfl
theorem good_refl {d : PyData} (h : good d = true) : PyData.eqv d d = true := SeqAt.eqv_refl d (lay_good d h)
theorem good_list {ds : List PyData} (hl : ds.length ≤ 100000) (h : ∀ d ∈ ds, good d = true) : good (.list ds) = true := by
  rw [good, Bool.and_eq_true]
  exact ⟨decide_eq_true hl, goodAll_iff.mpr h⟩
theorem good_tuple {ds : List PyData} (hl : ds.length ≤ 100000) (h : ∀ d ∈ ds, good d = true) : good (.tuple ds) = true := by
  rw [good, Bool.and_eq_true]
  exact ⟨decide_eq_true hl, goodAll_iff.mpr h⟩
theorem depth_list {ds : List PyData} {n : Nat} (h : ∀ d ∈ ds, d.depth ≤ n) : (PyData.list ds).depth ≤ n + 1 := by
  have key : ∀ ds : List PyData, (∀ d ∈ ds, d.depth ≤ n) → PyData.depthAll ds ≤ n := by
    intro ds
    induction ds with
    | nil => intro _; exact Nat.zero_le _
    | cons d ds ih =>
      intro h
      rw [PyData.depthAll]
      exact Nat.max_le.mpr ⟨h d (List.mem_cons_self ..), ih fun e he => h e (List.mem_cons_of_mem _ he)⟩
  rw [PyData.depth]
  exact Nat.succ_le_succ (key ds h)
theorem depth_tuple {ds : List PyData} {n : Nat} (h : ∀ d ∈ ds, d.depth ≤ n) : (PyData.tuple ds).depth ≤ n + 1 := depth_list (ds := ds) h
/-! == and != of equal data -/
section
variable {K : PySem.W.Frag} {F H : Hp} {x y : V} {d : PyData} {Q : VK}
theorem u_eqD (w : Same F H) (hx : Dp K F x d) (hy : Dp K F y d) (hg : good d = true) (hd : d.depth ≤ 64) (q : Q (.bl true) H) : rEqD K x y H Q :=
  ⟨d, d, dp_same w _ _ hx, dp_same w _ _ hy, good_shaped hg hd, good_shaped hg hd, by rw [good_refl hg]; exact q⟩
theorem u_neD (w : Same F H) (hx : Dp K F x d) (hy : Dp K F y d) (hg : good d = true) (hd : d.depth ≤ 64) (q : Q (.bl false) H) : rNeD K x y H Q :=
  ⟨d, d, dp_same w _ _ hx, dp_same w _ _ hy, good_shaped hg hd, good_shaped hg hd, by rw [good_refl hg]; exact q⟩
end
/-- two things of the same data -/
def φalike (K : PySem.W.Frag) (n : Nat) : V → V → Hp → VK → Prop := fun x y H Q => ∃ (F : Hp) (d : PyData), Same F H ∧ Dp K F x d ∧ Dp K F y d ∧ d.depth < n ∧ good d = true ∧
  ∀ F2 H2 : Hp, Gr [] F H F2 H2 → Q (.bl true) H2
theorem alike0 {K : PySem.W.Frag} {vs : List V} {H : Hp} {Q : VK} {E : XK} (h : S2 (φalike K 0) vs H Q E) : False := by
  match vs, h with
  | [_, _], h =>
    obtain ⟨F, d, _, _, _, hn, _⟩ := h
    exact absurd hn (Nat.not_lt_zero _)
end R
namespace R
open PySem L2
/-! ### data taken apart -/
section
variable {K : PySem.W.Frag} {F : Hp} {x v : V}
theorem dp_int {i : Int} (h : Dp K F x (.int i)) : x = .int i := by cases h; rfl
theorem dp_str {s : Str} (h : Dp K F x (.str s)) : x = .str s := by cases h; rfl
theorem dp_tup {ds : List PyData} (h : Dp K F x (.tuple ds)) : ∃ (a : Addr) (vs : List V), x = .ref a ∧ SqT K F a vs ∧ DpAll K F vs ds := by
  cases h with
  | tup hs ha => exact ⟨_, _, rfl, hs, ha⟩
theorem dpa_cons {vs : List V} {d : PyData} {ds : List PyData} (h : DpAll K F vs (d :: ds)) : ∃ v us, vs = v :: us ∧ Dp K F v d ∧ DpAll K F us ds := by
  cases h with
  | cons h t => exact ⟨_, _, rfl, h, t⟩
theorem dpa_nil {vs : List V} (h : DpAll K F vs []) : vs = [] := by cases h; rfl
theorem dp_tup3 {d1 d2 d3 : PyData} (h : Dp K F x (.tuple [d1, d2, d3])) : ∃ (a : Addr) (v1 v2 v3 : V), x = .ref a ∧ SqT K F a [v1, v2, v3] ∧ Dp K F v1 d1 ∧ Dp K F v2 d2 ∧ Dp K F v3 d3 := by
  obtain ⟨a, vs, rfl, hs, h0⟩ := dp_tup h
  obtain ⟨v1, us, rfl, h1, h0⟩ := dpa_cons h0
  obtain ⟨v2, us, rfl, h2, h0⟩ := dpa_cons h0
  obtain ⟨v3, us, rfl, h3, h0⟩ := dpa_cons h0
  cases dpa_nil h0
  exact ⟨a, v1, v2, v3, rfl, hs, h1, h2, h3⟩
end
/-! ### texts -/
/-- a text of plain signs -/
def okS (z : Str) : Prop := PyData.strOk z = true
instance (z : Str) : Decidable (okS z) := inferInstanceAs (Decidable (PyData.strOk z = true))
theorem joined (ys : List Str) (h : ∀ y ∈ ys, y.length = 1 ∧ okS y) : (Txt.join ⟨#[]⟩ ys).length = ys.length ∧ okS (Txt.join ⟨#[]⟩ ys) := by
  have e : TL.tl (Txt.join ⟨#[]⟩ ys) = (ys.map TL.tl).flatten := by
    rw [TL.join_eq, TL.tl_join]
    have key : ∀ l : List (List Nat), TL.joinL [] l = l.flatten := by
      intro l
      induction l with
      | nil => rfl
      | cons p r ih =>
        cases r with
        | nil => simp [TL.joinL]
        | cons q r =>
          show p ++ ([] ++ TL.joinL [] (q :: r)) = _
          rw [ih, List.nil_append]
          rfl
    exact key _
  have hl : ∀ z : Str, z.length = (TL.tl z).length := fun z => by simp [TL.tl, Str.length]
  constructor
  · rw [hl, e]
    clear e
    induction ys with
    | nil => rfl
    | cons y r ih =>
      rw [List.map_cons, List.flatten_cons, List.length_append, ih fun z hz => h z (List.mem_cons_of_mem _ hz), ← hl, (h y (List.mem_cons_self ..)).1, List.length_cons]
      omega
  · show (Txt.join ⟨#[]⟩ ys).cps.all (· < 0x110000) = true
    rw [← Array.all_toList]
    show (TL.tl (Txt.join ⟨#[]⟩ ys)).all _ = true
    rw [e, List.all_eq_true]
    intro c hc
    obtain ⟨l, hl1, hc⟩ := List.mem_flatten.mp hc
    obtain ⟨y, hy, rfl⟩ := List.mem_map.mp hl1
    have h2 : y.cps.all (· < 0x110000) = true := (h y hy).2
    rw [← Array.all_toList, List.all_eq_true] at h2
    exact h2 c hc
theorem sum_ones : ∀ (ys : List Str), (∀ y ∈ ys, y.length = 1 ∧ okS y) → (ys.map (·.length)).sum = ys.length
  | [], _ => rfl
  | y :: r, h => by
    rw [List.map_cons, List.sum_cons, sum_ones r fun z hz => h z (List.mem_cons_of_mem _ hz), (h y (List.mem_cons_self ..)).1, List.length_cons]
    omega
theorem at_of' {α : Type} {xs : List α} {z : Int} {j : Nat} {v : α} (e : z = (j : Int)) (h : xs[j]? = some v) : atI xs z = some v := by
  rw [e]
  exact atI_nat h
theorem sign_at {z : Str} {r : Int} (ok : okS z) (h0 : 0 ≤ r) (h1 : r < (z.length : Nat)) : ∃ c : Nat, atI z.cps.toList r = some c ∧ okS ⟨#[c]⟩ := by
  have hi : r.toNat < z.cps.toList.length := by
    have : z.cps.toList.length = z.length := by simp [Str.length]
    omega
  refine ⟨z.cps.toList[r.toNat], at_of' (by omega) (List.getElem?_eq_getElem hi), ?_⟩
  have h2 : z.cps.all (· < 0x110000) = true := ok
  rw [← Array.all_toList, List.all_eq_true] at h2
  have h3 := h2 _ (List.getElem_mem hi)
  show (#[z.cps.toList[r.toNat]] : Array Nat).all (· < 0x110000) = true
  simpa using h3
theorem sign_get {z : Str} {k : Nat} (h1 : k < z.length) : atI z.cps.toList (k : Int) = some (z.cps.toList.getD k 0) := by
  have hi : k < z.cps.toList.length := by
    have : z.cps.toList.length = z.length := by simp [Str.length]
    omega
  refine atI_nat ?_
  rw [List.getD_eq_getElem?_getD, List.getElem?_eq_getElem hi]
  rfl
theorem ok_sign {z : Str} {k : Nat} (ok : okS z) (h1 : k < z.length) : okS ⟨#[z.cps.toList.getD k 0]⟩ := by
  have hi : k < z.cps.toList.length := by
    have : z.cps.toList.length = z.length := by simp [Str.length]
    omega
  have h2 : z.cps.all (· < 0x110000) = true := ok
  rw [← Array.all_toList, List.all_eq_true] at h2
  have h3 := h2 _ (List.getElem_mem hi)
  rw [List.getD_eq_getElem?_getD, List.getElem?_eq_getElem hi]
  show (#[z.cps.toList[k]] : Array Nat).all (· < 0x110000) = true
  simpa using h3
/-! ### rows of a plan -/
inductive Wd where | copy | keep | lay
  deriving DecidableEq
def Wd.s : Wd → Str
  | .copy => "copy" | .keep => "keep" | .lay => "lay"
inductive PRow where
  | put (to : Int) (s : Str)
  | mv (w : Wd) (to at_ n : Int)
def PRow.d : PRow → PyData
  | .put to s => .tuple [.str "put", .int to, .str s]
  | .mv w to a n => .tuple [.str w.s, .int to, .int a, .int n]
def PRow.size : PRow → Nat
  | .put _ s => s.length
  | .mv _ _ _ n => n.toNat
def PRow.ok : PRow → Prop
  | .put _ s => okS s ∧ s.length ≤ 5000
  | .mv _ _ _ n => 0 ≤ n ∧ n ≤ 5000
def wr (a : Str) (i : Int) (b : Str) (x : PyData) : PyData := .tuple [.str a, .int i, .str b, x]
def Wd.cell (w : Wd) : Str := if w = .keep then "slot" else "cell"
/-! ### the law's makers -/
theorem w_ixL1 {z : Str} {r : Int} {n : Int} {H : Hp} {Q : VK} (ok : okS z) (hn : (z.length : Int) = n) (hs : z.length ≤ 1000) (r0 : 0 ≤ r) (r1 : r < n) (q : ∀ s : Str, s.length = 1 → okS s → Q (.str s) H) : rIxS (.str z) (.int r) H Q := by
  obtain ⟨c, ec, oc⟩ := sign_at (z := z) ok r0 (by rw [hn]; exact r1)
  exact w_ixS (le1000 hs) ec (q _ rfl oc)
/-- a list of truths of this length, that may change -/
def Hs (F H : Hp) (t : Addr) (n : Nat) : Prop := ∃ bs : List Bool, bs.length = n ∧ Mu F H t (.lst (bs.map V.bl))
theorem Hs.keep {M : List Addr} {F H F2 H2 : Hp} {t : Addr} {n : Nat} (g : Gr M F H F2 H2) (h : Hs F H t n) (ht : t ∉ M) : Hs F2 H2 t n := by
  obtain ⟨bs, l, m⟩ := h
  exact ⟨bs, l, g.mu m ht⟩
theorem Hs.addm {F H : Hp} {t p : Addr} {n : Nat} {u : HO} (h : Hs F H t n) (hp : H p = none) : Hs F (upd H p u) t n := by
  obtain ⟨bs, l, m⟩ := h
  exact ⟨bs, l, m.addm hp⟩
theorem Hs.add {F H : Hp} {t p : Addr} {n : Nat} {u : HO} (h : Hs F H t n) (hp : H p = none) : Hs (upd F p u) (upd H p u) t n := by
  obtain ⟨bs, l, m⟩ := h
  exact ⟨bs, l, m.add hp⟩
theorem Hs.ne_new {F H : Hp} {t q : Addr} {n : Nat} (h : Hs F H t n) (hq : H q = none) : t ≠ q := by
  obtain ⟨_, _, m⟩ := h
  exact m.ne_new hq
theorem Hs.put {F H : Hp} {t q : Addr} {n : Nat} {u : HO} (h : Hs F H t n) (hq : t ≠ q) : Hs F (upd H q u) t n := by
  obtain ⟨bs, l, m⟩ := h
  exact ⟨bs, l, m.oth hq⟩
theorem Hs.set {F H : Hp} {t p : Addr} {n : Nat} {cs : List Bool} (h : Hs F H t n) (hp : t = p → cs.length = n) (m : Mu F H p (.lst (cs.map V.bl))) {j : Nat} : Hs F (upd H p (.lst ((cs.map V.bl).set j (V.bl true)))) t n := by
  by_cases e : t = p
  · subst e
    refine ⟨cs.set j true, by rw [List.length_set]; exact hp rfl, ?_⟩
    rw [List.map_set]
    exact m.wr
  · obtain ⟨bs, l, m'⟩ := h
    exact ⟨bs, l, m'.oth e⟩
theorem str_good {z : Str} (h : okS z) (hl : z.length ≤ 100000) : good (.str z) = true := by
  rw [good, h, decide_eq_true hl]
  rfl
def φlaw (K : PySem.W.Frag) : V → Hp → VK → Prop := fun x H Q => ∃ (a : Addr) (ns : List Int), x = .ref a ∧ SqL K H a (ns.map V.int) ∧ ns.length ≤ 63 ∧ ∀ H', Q (.bl true) H'
theorem law_start {K : PySem.W.Frag} {H : Hp} (a : Addr) (ns : List Int) (hl : ns.length ≤ 63) (hO : Only H) (hS : SqL K H a (ns.map V.int)) : (S1 (φlaw K)) [.ref a] H (fun v _ => v = .bl true) fun _ _ _ => False := ⟨a, ns, rfl, hS, hl, fun _ => rfl⟩
end R
namespace R
open PySem PySem.Spec PyProof.Rows L2
/-- d.setdefault(t, z), t a tuple -/
def tDSetT (td ty tx : TE) : TE := fun σ H Q => td σ H fun x H1 => ∃ a, x = .ref a ∧ IsD H1 a ∧ ty σ H1 fun y H2 => tx σ H2 fun z H3 => ∃ (b : Addr) (kvs : List (List Key × V)) (k : List Key), H3 a = some (.dT kvs) ∧ y = .ref b ∧ H3 b = some (.tup (k.map kV)) ∧ kvs.length < sizeLine ∧
  (∀ v, valV kvs k = some v → Q v H3) ∧ (valV kvs k = none → Q z (upd H3 a (.dT (putK kvs k z))))
end R
namespace R
open PySem L2
/-! ### dicts in a reading -/
def gDGet (x y : V) (H : Hp) (Q : VK) : Prop := ∃ a v, x = .ref a ∧ DGet H a y (some v) ∧ Q v H
def gDIn (x y : V) (H : Hp) (Q : VK) : Prop := ∃ a o, x = .ref a ∧ DGet H a y o ∧ Q (.bl o.isSome) H
def gDNotIn (x y : V) (H : Hp) (Q : VK) : Prop := ∃ a o, x = .ref a ∧ DGet H a y o ∧ Q (.bl (!o.isSome)) H
def gDPut (x y v : V) (H : Hp) (Z : Hp → Prop) : Prop := ∃ a H4, x = .ref a ∧ DPut H a y v H4 ∧ Z H4
section
variable {K : PySem.W.Frag} {σ : L2.St} {H : Hp} {Q : VK} {td ty tv tx te : TE} {x y v : V} {nx bk ct : L2.St → Hp → Prop} {rt : VK} {D p : Addr} {kvs : List (List Key × V)} {ks : List Key}
theorem w_dnewT (q : ∀ p, H p = none → Q (.ref p) (upd H p (.dT []))) : tDNewT σ H Q := q
instance : Step (tDNewT σ H Q) (∀ p, H p = none → Q (.ref p) (upd H p (.dT []))) := ⟨w_dnewT⟩ -- st
theorem w_dnewK (q : ∀ p, H p = none → Q (.ref p) (upd H p (.dK []))) : tDNewK σ H Q := q
instance : Step (tDNewK σ H Q) (∀ p, H p = none → Q (.ref p) (upd H p (.dK []))) := ⟨w_dnewK⟩ -- st
theorem w_dget (q : td σ H fun x H1 => ty σ H1 fun y H2 => gDGet x y H2 Q) : tDGet td ty σ H Q := q
instance : Step (tDGet td ty σ H Q) (td σ H fun x H1 => ty σ H1 fun y H2 => gDGet x y H2 Q) := ⟨w_dget⟩ -- st
theorem w_din (q : ty σ H fun y H1 => td σ H1 fun x H2 => gDIn x y H2 Q) : tDIn ty td σ H Q := q
instance : Step (tDIn ty td σ H Q) (ty σ H fun y H1 => td σ H1 fun x H2 => gDIn x y H2 Q) := ⟨w_din⟩ -- st
theorem w_dnotin (q : ty σ H fun y H1 => td σ H1 fun x H2 => gDNotIn x y H2 Q) : tDNotIn ty td σ H Q := q
instance : Step (tDNotIn ty td σ H Q) (ty σ H fun y H1 => td σ H1 fun x H2 => gDNotIn x y H2 Q) := ⟨w_dnotin⟩ -- st
theorem w_dput (q : tv σ H fun v H1 => td σ H1 fun x H2 => ty σ H2 fun y H3 => gDPut x y v H3 fun H4 => nx σ H4) : sDPut td ty tv ⟨nx, rt, bk, ct⟩ σ H := q
instance : Step (sDPut td ty tv ⟨nx, rt, bk, ct⟩ σ H) (tv σ H fun v H1 => td σ H1 fun x H2 => ty σ H2 fun y H3 => gDPut x y v H3 fun H4 => nx σ H4) := ⟨w_dput⟩ -- st
theorem w_dsetT (q : td σ H fun x H1 => ∃ a, x = .ref a ∧ IsD H1 a ∧ ty σ H1 fun y H2 => tx σ H2 fun z H3 => ∃ (b : Addr) (kvs : List (List Key × V)) (k : List Key), H3 a = some (.dT kvs) ∧ y = .ref b ∧ H3 b = some (.tup (k.map kV)) ∧ kvs.length < sizeLine ∧
  (∀ v, valV kvs k = some v → Q v H3) ∧ (valV kvs k = none → Q z (upd H3 a (.dT (putK kvs k z))))) : tDSetT td ty tx σ H Q := q
instance : Step (tDSetT td ty tx σ H Q) (td σ H fun x H1 => ∃ a, x = .ref a ∧ IsD H1 a ∧ ty σ H1 fun y H2 => tx σ H2 fun z H3 => ∃ (b : Addr) (kvs : List (List Key × V)) (k : List Key), H3 a = some (.dT kvs) ∧ y = .ref b ∧ H3 b = some (.tup (k.map kV)) ∧ kvs.length < sizeLine ∧ (∀ v, valV kvs k = some v → Q v H3) ∧ (valV kvs k = none → Q z (upd H3 a (.dT (putK kvs k z))))) := ⟨w_dsetT⟩ -- st
end
theorem w_rg2 {σ : L2.St} {H : Hp} {ta tb : TE} {R : Int → Int → Hp → Prop} (q : ta σ H fun x H1 => tb σ H1 fun y H2 => ∃ i j, x = .int i ∧ y = .int j ∧ R i j H2) : tRg2 ta tb σ H R := q
instance {σ : L2.St} {H : Hp} {ta tb : TE} {R : Int → Int → Hp → Prop} : Step (tRg2 ta tb σ H R) (ta σ H fun x H1 => tb σ H1 fun y H2 => ∃ i j, x = .int i ∧ y = .int j ∧ R i j H2) := ⟨w_rg2⟩ -- st
/-! ### writes as acts -/
structure WAct where
  w : Str
  n : Int
  s : Str
  x : Key
def keyD : Key → PyData
  | .inl i => .int i
  | .inr z => .str z
def WAct.d (t : WAct) : PyData := .tuple [.str t.w, .int t.n, .str t.s, keyD t.x]
def keyOk : Key → Prop
  | .inl _ => True
  | .inr z => okS z ∧ z.length ≤ 100
def WAct.ok (t : WAct) : Prop := (okS t.w ∧ t.w.length ≤ 100) ∧ (okS t.s ∧ t.s.length ≤ 100) ∧ keyOk t.x
/-! ### the fault of a row of acts -/
/-- a fault as a value -/
def ResV (F : Hp) (v : V) : Option (Nat × Nat) → Prop
  | none => v = .non
  | some (i, j) => ∃ p, v = .ref p ∧ F p = some (.tup [.int (i : Nat), .int (j : Nat)])
theorem ResV.same {F F2 : Hp} {v : V} {o : Option (Nat × Nat)} (h : ResV F v o) (w : Same F F2) : ResV F2 v o := by
  cases o with
  | none => exact h
  | some p =>
    obtain ⟨a, e1, e2⟩ := h
    exact ⟨a, e1, w _ _ e2⟩
/-! ### the law's makers -/
/-- marks that stay -/
structure Mks (F : Hp) (p : Addr) (n : Nat) (ms : List Nat) : Prop where
  at_ : F p = some (.lst (nV ms))
  ok : ∀ k ∈ ms, 1 ≤ k ∧ k < n
  len : ms.length ≤ 20000
theorem Mks.same {F F2 : Hp} {p : Addr} {n : Nat} {ms : List Nat} (h : Mks F p n ms) (w : Same F F2) : Mks F2 p n ms := ⟨w _ _ h.at_, h.ok, h.len⟩
/-- a list of lists of marks -/
def PL (F : Hp) (n : Nat) (v : V) : Prop := ∃ p ms, v = .ref p ∧ Mks F p n ms
theorem PL.same {F F2 : Hp} {n : Nat} {v : V} (h : PL F n v) (w : Same F F2) : PL F2 n v := by
  obtain ⟨p, ms, e, m⟩ := h
  exact ⟨p, ms, e, m.same w⟩
end R
namespace R
open PySem L2
/-! ### parts of the heap, one beside the other -/
structure Own where
  as : List Addr
  φ : Hp → Hp → Prop
  st : ∀ {F H F2 H2 : Hp}, Same F F2 → (∀ a ∈ as, ∀ o, H a = some o → H2 a = some o) → (∀ a ∈ as, F a = none → F2 a = none) → φ F H → φ F2 H2
  al : ∀ {F H : Hp}, φ F H → ∀ a ∈ as, H a ≠ none
theorem Own.gr (o : Own) {M : List Addr} {F H F2 H2 : Hp} (g : Gr M F H F2 H2) (h : ∀ a ∈ o.as, a ∉ M) (x : o.φ F H) : o.φ F2 H2 :=
  o.st g.ff (fun a m u e => g.hh a u (h a m) e) (fun a m e => g.nw a (o.al x a m) e) x
def mu (p : Addr) (o : HO) : Own := ⟨[p], fun F H => Mu F H p o, fun s h n m => ⟨n p (List.mem_singleton.mpr rfl) m.n, h p (List.mem_singleton.mpr rfl) o m.h⟩, fun m a h => by
  rw [List.mem_singleton.mp h]
  exact ne_none m.h⟩
def bag (K : PySem.W.Frag) (b : Addr) : Own := ⟨[b], fun F H => Bag K F H b, fun s h n m => by
  obtain ⟨c, cells, i, cur, st, k, h1, h2, h3, h4⟩ := m.ex
  exact ⟨c, cells, i, cur, st, k, n b (List.mem_singleton.mpr rfl) h1, h b (List.mem_singleton.mpr rfl) _ h2, sqL_same s h3, h4⟩, fun m a h => by
  rw [List.mem_singleton.mp h]
  obtain ⟨c, cells, i, cur, st, k, h1, h2, h3, h4⟩ := m.ex
  exact ne_none h2⟩
def pur (φ : Hp → Prop) (h : ∀ {F F2 : Hp}, Same F F2 → φ F → φ F2) : Own := ⟨[], fun F _ => φ F, fun s _ _ x => h s x, fun _ a h => nomatch h⟩
def dat (K : PySem.W.Frag) (v : V) (d : PyData) : Own := pur (fun F => Dp K F v d) fun s x => dp_same s _ _ x
def dpa (K : PySem.W.Frag) (vs : List V) (ds : List PyData) : Own := pur (fun F => DpAll K F vs ds) fun s x => dpa_same s _ _ x
def imL (K : PySem.W.Frag) (a : Addr) (xs : List V) : Own := pur (fun F => SqL K F a xs) fun s x => sqL_same s x
def imT (K : PySem.W.Frag) (a : Addr) (xs : List V) : Own := pur (fun F => SqT K F a xs) fun s x => sqT_same s x
/-- an object that stays -/
def fx (p : Addr) (o : HO) : Own := pur (fun F => F p = some o) fun s x => s _ _ x
abbrev ads (L : List Own) : List Addr := L.flatMap Own.as
structure St (F H : Hp) (L : List Own) : Prop where
  s : Same F H
  i : ∀ o ∈ L, o.φ F H
  d : (ads L).Nodup
structure W (M : List Addr) (F0 H0 F H : Hp) (L : List Own) : Prop where
  g : Gr M F0 H0 F H
  i : ∀ o ∈ L, o.φ F H
  d : (ads L).Nodup
  o : ∀ a ∈ ads L, a ∈ M ∨ H0 a = none
/-- D taken out of L leaves Rs -/
inductive Rm (x : Own) : List Own → List Own → Prop
  | here {L : List Own} : Rm x (x :: L) L
  | there {y : Own} {L Rs : List Own} : Rm x L Rs → Rm x (y :: L) (y :: Rs)
inductive Pick : List Own → List Own → List Own → Prop
  | nil {L : List Own} : Pick L [] L
  | cons {o : Own} {L L1 D Rs : List Own} : Rm o L L1 → Pick L1 D Rs → Pick L (o :: D) Rs
theorem Rm.perm {x : Own} {L Rs : List Own} (h : Rm x L Rs) : L.Perm (x :: Rs) := by
  induction h with
  | here => exact .refl _
  | there _ ih => exact (ih.cons _).trans (.swap _ _ _)
theorem Pick.perm {L D Rs : List Own} (h : Pick L D Rs) : L.Perm (D ++ Rs) := by
  induction h with
  | nil => exact .refl _
  | cons h _ ih => exact h.perm.trans (ih.cons _)
theorem ads_perm {L L' : List Own} (h : L.Perm L') : (ads L).Perm (ads L') := h.flatMap_right Own.as
theorem ads_app (L L' : List Own) : ads (L ++ L') = ads L ++ ads L' := by simp [ads]
section
variable {K : PySem.W.Frag} {M N : List Addr} {F0 H0 F H F1 H1 F2 H2 : Hp} {L L2 D Rs : List Own} {p a : Addr} {u o2 : HO}
theorem W.perm (w : W M F0 H0 F H L) (h : L.Perm L2) : W M F0 H0 F H L2 :=
  ⟨w.g, fun o m => w.i o (h.mem_iff.mpr m), (ads_perm h).nodup_iff.mp w.d, fun a m => w.o a ((ads_perm h).mem_iff.mpr m)⟩
theorem W.to (w : W M F0 H0 F H L) (k : Pick L D Rs) : W M F0 H0 F H D := by
  have w := w.perm k.perm
  refine ⟨w.g, fun o m => w.i o (List.mem_append_left _ m), ?_, fun a m => w.o a (by rw [ads_app]; exact List.mem_append_left _ m)⟩
  have h := w.d
  rw [ads_app] at h
  exact (List.nodup_append.mp h).1
def Pk (L D : List Own) : Prop := ∃ Rs, Pick L D Rs
theorem W.pk (w : W M F0 H0 F H L) (k : Pk L D) : W M F0 H0 F H D := k.elim fun _ k => w.to k
theorem W.st (w : W M F0 H0 F H L) (k : Pick L D Rs) : St F H D := ⟨w.g.fh, (w.to k).i, (w.to k).d⟩
theorem St.w (s : St F H L) (h : M = ads L := by rfl) : W M F H F H L := ⟨.refl s.s, s.i, s.d, fun a m => .inl (by rw [h]; exact m)⟩
theorem W.start (s : Same F H) : W M F H F H [] := ⟨.refl s, (fun _ h => nomatch h), .nil, (fun _ h => nomatch h)⟩
theorem W.call (w : W M F0 H0 F H L) (k : Pick L D Rs) (w2 : W N F H F2 H2 L2) (hN : N = ads D := by rfl) : W M F0 H0 F2 H2 (L2 ++ Rs) := by
  subst hN
  have w := w.perm k.perm
  have hd := w.d
  have ho := w.o
  rw [ads_app] at hd ho
  obtain ⟨d1, d2, d3⟩ := List.nodup_append.mp hd
  have hR : ∀ a ∈ ads Rs, H a ≠ none := fun a m => by
    obtain ⟨o, mo, ma⟩ := List.mem_flatMap.mp m
    exact o.al (w.i o (List.mem_append_right _ mo)) a ma
  refine ⟨w.g.transN w2.g fun x m => ho x (List.mem_append_left _ m), fun o m => ?_, ?_, fun a m => ?_⟩
  · rcases List.mem_append.mp m with m | m
    · exact w2.i o m
    · refine o.gr w2.g (fun a ha hb => d3 a hb a (List.mem_flatMap.mpr ⟨o, m, ha⟩) rfl) (w.i o (List.mem_append_right _ m))
  · rw [ads_app]
    refine List.nodup_append.mpr ⟨w2.d, d2, fun a ha b hb e => ?_⟩
    subst e
    rcases w2.o a ha with h | h
    · exact d3 a h a hb rfl
    · exact hR a hb h
  · rw [ads_app] at m
    rcases List.mem_append.mp m with m | m
    · rcases w2.o a m with h | h
      · exact ho a (List.mem_append_left _ h)
      · exact .inr (w.g.fresh h)
    · exact ho a (List.mem_append_right _ m)
theorem W.ws (w : W M F0 H0 F H L) : Same F0 H := w.g.ws
theorem W.fh (w : W M F0 H0 F H L) : Same F H := w.g.fh
theorem W.ff (w : W M F0 H0 F H L) : Same F0 F := w.g.ff
theorem W.push (w : W M F0 H0 F H L) (o : Own) (h : o.φ F H) (e : o.as = [] := by rfl) : W M F0 H0 F H (o :: L) := by
  refine ⟨w.g, fun q m => ?_, ?_, fun a m => ?_⟩
  · rcases List.mem_cons.mp m with rfl | m
    · exact h
    · exact w.i q m
  · show ((o :: L).flatMap Own.as).Nodup
    rw [List.flatMap_cons, e]
    exact w.d
  · have m' : a ∈ (o :: L).flatMap Own.as := m
    rw [List.flatMap_cons, e] at m'
    exact w.o a m'
/-- a new object that stays -/
theorem W.im (w : W M F0 H0 F H L) (h : H p = none) : W M F0 H0 (upd F p u) (upd H p u) L := by
  have w2 : W [] F H (upd F p u) (upd H p u) [] := ⟨.im w.g.fh h, (fun _ h => nomatch h), .nil, (fun _ h => nomatch h)⟩
  exact w.call .nil w2
/-- a new object that may change -/
theorem W.nw (w : W M F0 H0 F H L) (h : H p = none) : W M F0 H0 F (upd H p u) (mu p u :: L) := by
  have w2 : W [] F H F (upd H p u) [mu p u] := by
    refine ⟨.new w.g.fh h, fun q m => ?_, ?_, fun a m => ?_⟩
    · rw [List.mem_singleton.mp m]
      exact Mu.new w.g.fh h
    · show ([p] : List Addr).Nodup
      simp
    · have : a = p := List.mem_singleton.mp m
      subst this
      exact .inr h
  exact w.call .nil w2
/-- a change -/
theorem W.wr (w : W M F0 H0 F H L) (k : Pick L [mu p o2] Rs) : W M F0 H0 F (upd H p u) (mu p u :: Rs) := by
  have m : Mu F H p o2 := (w.to k).i _ (List.mem_singleton.mpr rfl)
  have w2 : W [p] F H F (upd H p u) [mu p u] := by
    refine ⟨.wr w.g.fh m.n (List.mem_singleton.mpr rfl), fun q h => ?_, ?_, fun a h => ?_⟩
    · rw [List.mem_singleton.mp h]
      exact m.wr
    · show ([p] : List Addr).Nodup
      simp
    · exact .inl h
  exact w.call k w2 rfl
/-- an object that changes no more -/
theorem W.fz (w : W M F0 H0 F H L) (k : Pick L [mu p u] Rs) (hn : H0 p = none) : W M F0 H0 (upd F p u) H Rs := by
  have w := w.perm k.perm
  have m : Mu F H p u := w.i _ (List.mem_cons_self ..)
  have hd := w.d
  rw [ads_app] at hd
  obtain ⟨d1, d2, d3⟩ := List.nodup_append.mp hd
  refine ⟨w.g.frz hn m, fun o ho => ?_, d2, fun a ha => w.o a (by rw [ads_app]; exact List.mem_append_right _ ha)⟩
  have hp : ∀ a ∈ o.as, a ≠ p := fun a ha e => d3 p (List.mem_singleton.mpr rfl) a (List.mem_flatMap.mpr ⟨o, ho, ha⟩) e.symm
  refine o.st (Same.new m.n) (fun a _ _ e => e) (fun a ha e => ?_) (w.i o (List.mem_append_right _ ho))
  rw [upd_ne (hp a ha)]
  exact e
theorem W.fzL {xs : List V} (w : W M F0 H0 F H L) (k : Pick L [mu p (.lst xs)] Rs) (hn : H0 p = none) : ∃ F2, W M F0 H0 F2 H (fx p (.lst xs) :: Rs) := ⟨_, (w.fz k hn).push (fx p (.lst xs)) upd_same⟩
end
inductive App : List Own → List Own → List Own → Prop
  | nil {Rs : List Own} : App [] Rs Rs
  | cons {o : Own} {L Rs L' : List Own} : App L Rs L' → App (o :: L) Rs (o :: L')
theorem App.eq {L Rs L' : List Own} (h : App L Rs L') : L ++ Rs = L' := by
  induction h with
  | nil => rfl
  | cons _ ih => rw [List.cons_append, ih]
section
variable {K : PySem.W.Frag} {M N : List Addr} {F0 H0 F H F1 H1 F2 H2 : Hp} {L L2 L3 D Rs : List Own} {p a : Addr} {u o2 : HO} {xs ys : List V} {ds : List PyData} {d : PyData} {v : V}
theorem W.cal (w : W M F0 H0 F H L) (k : Pick L D Rs) (w2 : W N F H F2 H2 L2) (e : App L2 Rs L3) (hN : N = ads D := by rfl) : W M F0 H0 F2 H2 L3 := by
  rw [← e.eq]
  exact w.call k w2 hN
/-- .. by what the older promises tell -/
theorem W.gr (w : W M F0 H0 F H L) (k : Pick L D Rs) (g : Gr N F H F2 H2) (i : ∀ o ∈ D, o.φ F2 H2) (e : App D Rs L3) (hN : N = ads D := by rfl) : W M F0 H0 F2 H2 L3 :=
  w.cal k (L2 := D) ⟨g, i, (w.to k).d, fun a m => .inl (by rw [hN]; exact m)⟩ e hN
theorem W.gr0 (w : W M F0 H0 F H L) (g : Gr [] F H F2 H2) : W M F0 H0 F2 H2 L := w.gr (D := []) .nil g (fun _ h => nomatch h) .nil
theorem W.gr1 {o : Own} (w : W M F0 H0 F H L) (k : Pick L [o] Rs) (g : Gr N F H F2 H2) (i : o.φ F2 H2) (hN : N = ads [o] := by rfl) : W M F0 H0 F2 H2 (o :: Rs) :=
  w.gr k g (fun q m => by rw [List.mem_singleton.mp m]; exact i) (.cons .nil) hN
theorem W.mu (w : W M F0 H0 F H L) (m : mu p u ∈ L) : Mu F H p u := w.i _ m
theorem W.bag {b : Addr} (w : W M F0 H0 F H L) (m : bag K b ∈ L) : Bag K F H b := w.i _ m
theorem W.dat (w : W M F0 H0 F H L) (m : dat K v d ∈ L) : Dp K F v d := w.i _ m
theorem W.dpa (w : W M F0 H0 F H L) (m : dpa K xs ds ∈ L) : DpAll K F xs ds := w.i _ m
theorem W.imL (w : W M F0 H0 F H L) (m : imL K p xs ∈ L) : SqL K F p xs := w.i _ m
theorem W.imT (w : W M F0 H0 F H L) (m : imT K p xs ∈ L) : SqT K F p xs := w.i _ m
theorem W.at_ (w : W M F0 H0 F H L) (m : R.mu p u ∈ L) : H p = some u := (w.mu m).h
theorem W.sqM (w : W M F0 H0 F H L) (m : R.mu p (.lst xs) ∈ L) : SqL K H p xs := (w.mu m).sq
theorem W.fx (w : W M F0 H0 F H L) (m : R.fx p u ∈ L) : H p = some u := w.fh _ _ (w.i _ m)
theorem W.sqF (w : W M F0 H0 F H L) (m : R.fx p (.lst xs) ∈ L) : SqL K H p xs := sqL_of (w.fx m)
theorem W.stF (w : W M F0 H0 F H L) (m : R.fx p (.tup xs) ∈ L) : SqT K H p xs := sqT_of (w.fx m)
theorem W.sqI (w : W M F0 H0 F H L) (m : R.imL K p xs ∈ L) : SqL K H p xs := sqL_same w.fh (w.imL m)
theorem W.sq0 (w : W M F0 H0 F H L) (h : SqL K F0 p xs) : SqL K H p xs := sqL_same w.ws h
theorem W.stI (w : W M F0 H0 F H L) (m : R.imT K p xs ∈ L) : SqT K H p xs := sqT_same w.fh (w.imT m)
theorem W.st0 (w : W M F0 H0 F H L) (h : SqT K F0 p xs) : SqT K H p xs := sqT_same w.ws h
theorem W.dp0 (w : W M F0 H0 F H L) (h : Dp K F0 v d) : Dp K F v d := dp_same w.ff _ _ h
end
/-! ### steps -/
def mkT (xs : List V) (H : Hp) (Q : VK) : Prop := xs.length ≤ sizeLine ∧ ∀ p, H p = none → Q (.ref p) (upd H p (.tup xs))
def mkL (xs : List V) (H : Hp) (Q : VK) : Prop := xs.length ≤ sizeLine ∧ ∀ p, H p = none → Q (.ref p) (upd H p (.lst xs))
def forG (g : TG) (tb : TS) (D : Ends) (J : It) (σ : L2.St) (H : Hp) : Prop := ∃ W : Nat → Nat → L2.St → Hp → Prop, (∃ m, W 0 m σ H) ∧ ∀ i m σ H, W i m σ H →
  (J.stop i H ∧ D.nx σ H) ∨ (J.go i H ∧ ∃ N : L2.St → Hp → Prop, (∀ σ' H', N σ' H' → ∃ m', m' < m ∧ W (i + 1) m' σ' H') ∧ ∀ x H', J.yld i H x H' → g x σ H' fun σ2 H2 => tb ⟨N, D.rt, D.nx, N⟩ σ2 H2)
def lcG (g : TG) (tt : TT) (te : TE) (vs : List Nat) (J : It) (σ : L2.St) (H : Hp) (Q : VK) : Prop := ∀ D, H D = none → ∃ W : Nat → Nat → Hp → Prop, (∃ m, W 0 m (upd H D (.lst []))) ∧ ∀ i m H, W i m H →
  (J.stop i H ∧ Q (.ref D) H) ∨ (J.go i H ∧ ∃ Nx : Hp → Prop, (∀ H', Nx H' → ∃ m', m' < m ∧ W (i + 1) m' H') ∧ ∀ x H', J.yld i H x H' → g x (wipe σ vs) H' fun σ2 H2 => wipe σ2 vs = wipe σ vs ∧ tt σ2 H2 fun b H3 =>
    if b = true then te σ2 H3 fun y H4 => ∃ acc, H4 D = some (.lst acc) ∧ acc.length < sizeLine ∧ Nx (upd H4 D (.lst (acc ++ [y]))) else Nx H3)
def accG (D : Addr) (Z : Hp → Prop) (y : V) (H : Hp) : Prop := ∃ acc, H D = some (.lst acc) ∧ acc.length < sizeLine ∧ Z (upd H D (.lst (acc ++ [y])))
def Nx (M : List Addr) (F0 H0 : Hp) (Inv : L2.St → List Own → Prop) : L2.St → Hp → Prop := fun σ H => ∃ L F, Inv σ L ∧ W M F0 H0 F H L
def NxC (M : List Addr) (F0 H0 : Hp) (P : List V → List Own → Prop) (D : Addr) : Hp → Prop := fun H => ∃ ys L F, P ys L ∧ W M F0 H0 F H (mu D (.lst ys) :: L)
section
variable {K : PySem.W.Frag} {M N : List Addr} {F0 H0 F H : Hp} {L Rs T : List Own} {σ : L2.St} {Q : VK} {ta tb te : TE} {x y v : V} {nx bk ct : L2.St → Hp → Prop} {rt : VK} {p q a D : Addr} {xs ys : List V} {u : HO}
variable {t : TA} {wi : TI} {g : TG} {tbody : TS} {c tt : TT} {vs : List Nat} {ts us : TS}
theorem x_tup (h : t σ H fun xs H1 => mkT xs H1 Q) : tTup t σ H Q := h
instance : StepN (tTup t σ H Q) (t σ H fun xs H1 => mkT xs H1 Q) := ⟨x_tup⟩ -- st
theorem x_lst (h : t σ H fun xs H1 => mkL xs H1 Q) : tLst t σ H Q := h
instance : StepN (tLst t σ H Q) (t σ H fun xs H1 => mkL xs H1 Q) := ⟨x_lst⟩ -- st
theorem x_for (h : wi σ H fun J H1 => forG g tbody ⟨nx, rt, bk, ct⟩ J σ H1) : tFor wi g tbody ⟨nx, rt, bk, ct⟩ σ H := h
instance : StepN (tFor wi g tbody ⟨nx, rt, bk, ct⟩ σ H) (wi σ H fun J H1 => forG g tbody ⟨nx, rt, bk, ct⟩ J σ H1) := ⟨x_for⟩ -- st
theorem x_lc (h : wi σ H fun J H1 => lcG g tt te vs J σ H1 Q) : tLc wi g tt te vs σ H Q := h
instance : StepN (tLc wi g tt te vs σ H Q) (wi σ H fun J H1 => lcG g tt te vs J σ H1 Q) := ⟨x_lc⟩ -- st
theorem x_wp {a b : L2.St} {B : Prop} (h : a = b) (q : B) : a = b ∧ B := ⟨h, q⟩
instance {a b : L2.St} {B : Prop} : SideK (a = b ∧ B) 6 := ⟨⟩ -- st
theorem n_tup (w : W M F0 H0 F H L) (hs : xs.length ≤ sizeLine) (h : ∀ p F2 H2, W M F0 H0 F2 H2 (fx p (.tup xs) :: L) → Q (.ref p) H2) : mkT xs H Q :=
  ⟨hs, fun p np => h p _ _ ((w.im (u := .tup xs) np).push (fx p (.tup xs)) upd_same)⟩
theorem n_new (w : W M F0 H0 F H L) (h : ∀ p F2 H2, W M F0 H0 F2 H2 (mu p u :: L) → H0 p = none → Q (.ref p) H2) : ∀ p, H p = none → Q (.ref p) (upd H p u) := fun p np => h p _ _ (w.nw np) (w.g.fresh np)
theorem n_lst (w : W M F0 H0 F H L) (hs : xs.length ≤ sizeLine) (h : ∀ p F2 H2, W M F0 H0 F2 H2 (mu p (.lst xs) :: L) → H0 p = none → Q (.ref p) H2) : mkL xs H Q := ⟨hs, n_new w h⟩
theorem n_slL {lo hi : Option Int} (w : W M F0 H0 F H L) (hs : SqL K H p xs) (h : ∀ p F2 H2, W M F0 H0 F2 H2 (mu p (.lst (cutV xs lo hi)) :: L) → H0 p = none → Q (.ref p) H2) : rSlL K (.ref p) lo hi H Q := w_slL xs hs (n_new w h)
theorem n_listOf (w : W M F0 H0 F H L) (hs : SqL K H p xs) (h : ∀ p F2 H2, W M F0 H0 F2 H2 (mu p (.lst xs) :: L) → H0 p = none → Q (.ref p) H2) : rListOf K [.ref p] H Q := w_listOf xs hs (n_new w h)
def revG (K : PySem.W.Frag) (x : V) (H : Hp) (Q : VK) : Prop := ∃ a xs, x = .ref a ∧ SqL K H a xs ∧ ∀ p, H p = none → Q (.ref p) (upd H p (.lst xs.reverse))
theorem x_revL (h : ta σ H fun x H1 => revG K x H1 Q) : tRevL K ta σ H Q := h
instance : StepN (tRevL K ta σ H Q) (ta σ H fun x H1 => revG K x H1 Q) := ⟨x_revL⟩ -- st
def lrgG (a b : Int) (H : Hp) (Q : VK) : Prop := RgOk a b ∧ ∀ q, H q = none → Q (.ref q) (upd H q (.lst (rgV a b)))
theorem x_lstRg {te : L2.St → Hp → (Int → Int → Hp → Prop) → Prop} (h : te σ H fun a b H1 => lrgG a b H1 Q) : tLstRg te σ H Q := h
instance {te : L2.St → Hp → (Int → Int → Hp → Prop) → Prop} : StepN (tLstRg te σ H Q) (te σ H fun a b H1 => lrgG a b H1 Q) := ⟨x_lstRg⟩ -- st
theorem n_lstRg {i j : Int} (w : W M F0 H0 F H L) (hs : RgOk i j) (h : ∀ p F2 H2, W M F0 H0 F2 H2 (mu p (.lst (rgV i j)) :: L) → H0 p = none → Q (.ref p) H2) : lrgG i j H Q := ⟨hs, n_new w h⟩
theorem n_cat (w : W M F0 H0 F H L) (h1 : H p = some (.lst xs)) (h2 : H q = some (.lst ys)) (hs : xs.length + ys.length ≤ sizeLine) (h : ∀ p F2 H2, W M F0 H0 F2 H2 (mu p (.lst (xs ++ ys)) :: L) → H0 p = none → Q (.ref p) H2) : rCat (.ref p) (.ref q) H Q :=
  ⟨p, q, xs, ys, rfl, rfl, h1, h2, hs, n_new w h⟩
theorem n_app (w : W M F0 H0 F H L) (k : Pick L [mu p (.lst xs)] Rs) (hn : xs.length < sizeLine) (h : ∀ H2, W M F0 H0 F H2 (mu p (.lst (xs ++ [y])) :: Rs) → Q .non H2) : rAppend (.ref p) [y] H Q :=
  w_app xs ((w.to k).at_ (List.mem_singleton.mpr rfl)) hn (h _ (w.wr k))
theorem n_setL {k : Int} {Z : Hp → Prop} (w : W M F0 H0 F H L) (kk : Pick L [mu p (.lst xs)] Rs) (j : Nat) (e : ixN xs.length k = some j) (h : ∀ H2, W M F0 H0 F H2 (mu p (.lst (xs.set j v)) :: Rs) → Z H2) : rSetL (.ref p) (.int k) v H Z :=
  w_setL xs j ((w.to kk).at_ (List.mem_singleton.mpr rfl)) e (h _ (w.wr kk))
theorem n_draw {m : Int} {E : XK} {b : Addr} (w : W M F0 H0 F H L) (k : Pick L [bag K b] Rs) (h0 : 0 < m) (h1 : m < 2 ^ 200) (h : ∀ r F2 H2, W M F0 H0 F2 H2 (bag K b :: Rs) → 0 ≤ r → r < m → Q (.int r) H2) : S2 (φdraw K) ([.ref b, .int m] ++ []) H Q E :=
  u_draw w.fh ((w.to k).bag (List.mem_singleton.mpr rfl)) h0 h1 fun r F2 H2 g hb r0 r1 => h r F2 H2 (w.gr1 k g hb) r0 r1
def rg1G (vs : List V) (H : Hp) (Rr : It → Hp → Prop) : Prop := ∃ j : Int, vs = [.int j] ∧ -(2 ^ 62) ≤ j ∧ j < 2 ^ 62 ∧ Rr (Itr 0 j.toNat) H
def rg2G (vs : List V) (H : Hp) (Rr : It → Hp → Prop) : Prop := ∃ i j : Int, vs = [.int i, .int j] ∧ (-(2 ^ 62) ≤ i ∧ i < 2 ^ 62 ∧ -(2 ^ 62) ≤ j ∧ j < 2 ^ 62) ∧ Rr (Itr i (j - i).toNat) H
def ilG (K : PySem.W.Frag) (x : V) (H : Hp) (Rr : It → Hp → Prop) : Prop := ∃ a, x = .ref a ∧ (∃ xs, SqL K H a xs) ∧ Rr (Itl K a) H
def itG (K : PySem.W.Frag) (x : V) (H : Hp) (Rr : It → Hp → Prop) : Prop := ∃ a, x = .ref a ∧ (∃ xs, SqT K H a xs) ∧ Rr (Itt K a) H
def isG (x : V) (H : Hp) (Rr : It → Hp → Prop) : Prop := ∃ z, x = .str z ∧ Rr (Its z) H
theorem x_rng1 {Rr : It → Hp → Prop} (h : t σ H fun vs H1 => rg1G vs H1 Rr) : iRng1 t σ H Rr := h
instance {Rr : It → Hp → Prop} : StepN (iRng1 t σ H Rr) (t σ H fun vs H1 => rg1G vs H1 Rr) := ⟨x_rng1⟩ -- st
theorem x_rng2 {Rr : It → Hp → Prop} (h : t σ H fun vs H1 => rg2G vs H1 Rr) : iRng2 t σ H Rr := h
instance {Rr : It → Hp → Prop} : StepN (iRng2 t σ H Rr) (t σ H fun vs H1 => rg2G vs H1 Rr) := ⟨x_rng2⟩ -- st
theorem x_il {Rr : It → Hp → Prop} (h : te σ H fun x H1 => ilG K x H1 Rr) : iList K te σ H Rr := h
instance {Rr : It → Hp → Prop} : StepN (iList K te σ H Rr) (te σ H fun x H1 => ilG K x H1 Rr) := ⟨x_il⟩ -- st
theorem x_it {Rr : It → Hp → Prop} (h : te σ H fun x H1 => itG K x H1 Rr) : iTup K te σ H Rr := h
instance {Rr : It → Hp → Prop} : StepN (iTup K te σ H Rr) (te σ H fun x H1 => itG K x H1 Rr) := ⟨x_it⟩ -- st
theorem x_is {Rr : It → Hp → Prop} (h : te σ H fun x H1 => isG x H1 Rr) : iStr te σ H Rr := h
instance {Rr : It → Hp → Prop} : StepN (iStr te σ H Rr) (te σ H fun x H1 => isG x H1 Rr) := ⟨x_is⟩ -- st
theorem n_rng1 {j : Int} {Rr : It → Hp → Prop} (h0 : -(2 ^ 62) ≤ j) (h1 : j < 2 ^ 62) (h : Rr (Itr 0 j.toNat) H) : rg1G [.int j] H Rr := ⟨j, rfl, h0, h1, h⟩
instance {j : Int} {Rr : It → Hp → Prop} : SideK (rg1G [.int j] H Rr) 5 := ⟨⟩ -- st
theorem n_rng2 {i j : Int} {Rr : It → Hp → Prop} (h0 : -(2 ^ 62) ≤ i) (h1 : i < 2 ^ 62) (h2 : -(2 ^ 62) ≤ j) (h3 : j < 2 ^ 62) (h : Rr (Itr i (j - i).toNat) H) : rg2G [.int i, .int j] H Rr := ⟨i, j, rfl, ⟨h0, h1, h2, h3⟩, h⟩
instance {i j : Int} {Rr : It → Hp → Prop} : SideK (rg2G [.int i, .int j] H Rr) 5 := ⟨⟩ -- st
theorem n_il {Rr : It → Hp → Prop} (hs : SqL K H a xs) (h : Rr (Itl K a) H) : ilG K (.ref a) H Rr := ⟨a, rfl, ⟨xs, hs⟩, h⟩
instance {Rr : It → Hp → Prop} : SideK (ilG K (.ref a) H Rr) 4 := ⟨⟩ -- st
theorem n_it {Rr : It → Hp → Prop} (hs : SqT K H a xs) (h : Rr (Itt K a) H) : itG K (.ref a) H Rr := ⟨a, rfl, ⟨xs, hs⟩, h⟩
instance {Rr : It → Hp → Prop} : SideK (itG K (.ref a) H Rr) 4 := ⟨⟩ -- st
theorem n_is {z : Str} {Rr : It → Hp → Prop} (h : Rr (Its z) H) : isG (.str z) H Rr := ⟨z, rfl, h⟩
instance {z : Str} {Rr : It → Hp → Prop} : StepN (isG (.str z) H Rr) (Rr (Its z) H) := ⟨n_is⟩ -- st
theorem nx_mk {Inv : L2.St → List Own → Prop} {L2 : List Own} (w : W M F0 H0 F H L) (h : Inv σ L2) (k : Pk L L2) : Nx M F0 H0 Inv σ H := ⟨L2, F, h, w.pk k⟩
def addsG : R2 := fun x y H Q => ∃ a b, x = .str a ∧ y = .str b ∧ a.length + b.length ≤ sizeLine ∧ Q (.str (a ++ b)) H
theorem opAddS {X : Cx} : OpR X (binaryOp .Add) addsG := op_add_str
theorem n_adds {a b : Str} (hl : a.length + b.length ≤ sizeLine) (h : Q (.str (a ++ b)) H) : addsG (.str a) (.str b) H Q := ⟨a, b, rfl, rfl, hl, h⟩
instance {a b : Str} : SideK (addsG (.str a) (.str b) H Q) 5 := ⟨⟩ -- st
theorem x_aug {i : Nat} {ti : TIp} {x : V} {H : Hp} (h : σ[i]? = some (some x)) (q : te σ H fun y H1 => ti x y H1 fun z H2 => nx (σ.set i (some z)) H2) : tAug i te ti ⟨nx, rt, bk, ct⟩ σ H := ⟨x, h, q⟩
instance {i : Nat} {ti : TIp} {H : Hp} : SideK (tAug i te ti ⟨nx, rt, bk, ct⟩ σ H) 4 := ⟨⟩ -- st
theorem n_ipI {g : Int → Int → Int} {i j : Int} {Z : VK} (q : Z (.int (g i j)) H) : ipI g (.int i) (.int j) H Z := ⟨i, j, rfl, rfl, q⟩
instance {g : Int → Int → Int} {i j : Int} {Z : VK} : SideK (ipI g (.int i) (.int j) H Z) 5 := ⟨⟩ -- st
/-- loops -/
theorem n_forR {n : Nat} (w : W M F0 H0 F H L) (Inv : Nat → L2.St → List Own → Prop) {L1 : List Own} (h0 : Inv 0 σ L1)
    (hs : ∀ (i : Nat) σ L F H, i < n → Inv i σ L → W M F0 H0 F H L → g (.int (i : Int)) σ H fun σ2 H2 => tbody ⟨Nx M F0 H0 (Inv (i + 1)), rt, nx, Nx M F0 H0 (Inv (i + 1))⟩ σ2 H2)
    (hd : ∀ σ L F H, Inv n σ L → W M F0 H0 F H L → nx σ H) (k : Pk L L1 := by walk_at "pk") : forG g tbody ⟨nx, rt, bk, ct⟩ (Itr 0 n) σ H :=
  f_range0 (fun i σ H => Nx M F0 H0 (Inv i) σ H) ⟨L1, F, h0, w.pk k⟩ (fun i σ H hi ⟨L, F, h, w⟩ => hs i σ L F H hi h w) fun σ H ⟨L, F, h, w⟩ => hd σ L F H h w
theorem n_forL (xs : List V) (w : W M F0 H0 F H L) (Inv : Nat → L2.St → List Own → Prop) {L1 : List Own} (h0 : Inv 0 σ L1) (hl : ∀ i σ L F H, Inv i σ L → W M F0 H0 F H L → SqL K H a xs)
    (hs : ∀ (i : Nat) x σ L F H, xs[i]? = some x → Inv i σ L → W M F0 H0 F H L → g x σ H fun σ2 H2 => tbody ⟨Nx M F0 H0 (Inv (i + 1)), rt, nx, Nx M F0 H0 (Inv (i + 1))⟩ σ2 H2)
    (hd : ∀ σ L F H, Inv xs.length σ L → W M F0 H0 F H L → nx σ H) (k : Pk L L1 := by walk_at "pk") : forG g tbody ⟨nx, rt, bk, ct⟩ (Itl K a) σ H :=
  f_list (xs := xs) (fun i σ H => Nx M F0 H0 (Inv i) σ H) ⟨L1, F, h0, w.pk k⟩ (fun i σ H _ ⟨L, F, h, w⟩ => hl i σ L F H h w) (fun i x σ H hx ⟨L, F, h, w⟩ => hs i x σ L F H hx h w) fun σ H ⟨L, F, h, w⟩ => hd σ L F H h w
theorem n_cut (w : W M F0 H0 F H L) (Mid : L2.St → List Own → Prop) (h1 : ts ⟨Nx M F0 H0 Mid, rt, bk, ct⟩ σ H) (h2 : ∀ σ L F H, Mid σ L → W M F0 H0 F H L → us ⟨nx, rt, bk, ct⟩ σ H) : C8.tCut ts us ⟨nx, rt, bk, ct⟩ σ H :=
  w_cut (Nx M F0 H0 Mid) h1 fun σ' H' ⟨L, F, h, w⟩ => h2 σ' L F H' h w
theorem n_lcR {n : Nat} (w : W M F0 H0 F H L) (P : Nat → List V → List Own → Prop) {L1 : List Own} (h0 : P 0 [] L1)
    (hs : ∀ (i : Nat) ys L F H D, i < n → P i ys L → W M F0 H0 F H (mu D (.lst ys) :: L) → H0 D = none → g (.int (i : Int)) (wipe σ vs) H fun σ2 H2 => wipe σ2 vs = wipe σ vs ∧ tt σ2 H2 fun b H3 =>
      if b = true then te σ2 H3 (accG D (NxC M F0 H0 (P (i + 1)) D)) else NxC M F0 H0 (P (i + 1)) D H3)
    (hd : ∀ D ys L F H, P n ys L → W M F0 H0 F H (mu D (.lst ys) :: L) → H0 D = none → Q (.ref D) H) (k : Pk L L1 := by walk_at "pk") : lcG g tt te vs (Itr 0 n) σ H Q := fun D nD =>
  lc_rng (fun i H => NxC M F0 H0 (P i) D H) ⟨[], L1, F, h0, (w.pk k).nw nD⟩ (fun i H hi ⟨ys, L, F, h, w'⟩ => hs i ys L F H D hi h w' (w.g.fresh nD)) fun H ⟨ys, L, F, h, w'⟩ => hd D ys L F H h w' (w.g.fresh nD)
theorem n_lcL (xs : List V) (w : W M F0 H0 F H L) (P : Nat → List V → List Own → Prop) {L1 : List Own} (h0 : P 0 [] L1) (hl : ∀ i ys L F H D, P i ys L → W M F0 H0 F H (mu D (.lst ys) :: L) → SqL K H a xs)
    (hs : ∀ (i : Nat) x ys L F H D, xs[i]? = some x → P i ys L → W M F0 H0 F H (mu D (.lst ys) :: L) → H0 D = none → g x (wipe σ vs) H fun σ2 H2 => wipe σ2 vs = wipe σ vs ∧ tt σ2 H2 fun b H3 =>
      if b = true then te σ2 H3 (accG D (NxC M F0 H0 (P (i + 1)) D)) else NxC M F0 H0 (P (i + 1)) D H3)
    (hd : ∀ D ys L F H, P xs.length ys L → W M F0 H0 F H (mu D (.lst ys) :: L) → H0 D = none → Q (.ref D) H) (k : Pk L L1 := by walk_at "pk") : lcG g tt te vs (Itl K a) σ H Q := fun D nD =>
  lc_list (xs := xs) (fun i H => NxC M F0 H0 (P i) D H) ⟨[], L1, F, h0, (w.pk k).nw nD⟩ (fun i H _ ⟨ys, L, F, h, w'⟩ => hl i ys L F H D h w') (fun i x H hx ⟨ys, L, F, h, w'⟩ => hs i x ys L F H D hx h w' (w.g.fresh nD)) fun H ⟨ys, L, F, h, w'⟩ => hd D ys L F H h w' (w.g.fresh nD)
theorem n_ext (w : W M F0 H0 F H L) (hb : H q = some (.lst ys)) (kk : Pick L [mu p (.lst xs)] Rs) (hl : xs.length + ys.length ≤ sizeLine) (h : ∀ H2, W M F0 H0 F H2 (mu p (.lst (xs ++ ys)) :: Rs) → Q .non H2) : rExtend (.ref p) [.ref q] H Q :=
  ⟨p, q, xs, ys, rfl, rfl, (w.to kk).at_ (List.mem_singleton.mpr rfl), hb, hl, h _ (w.wr kk)⟩
theorem getD_of {l : List V} {j : Nat} (h : j < l.length) : l[j]? = some (l.getD j .non) := by
  rw [List.getD_eq_getElem?_getD, List.getElem?_eq_getElem h]
  rfl
theorem n_lcJ (J : It) (n : Nat) (w : W M F0 H0 F H L) (P : Nat → List V → List Own → Prop) {L1 : List Own} (h0 : P 0 [] L1) (hg : ∀ i ys L F H D, i < n → P i ys L → W M F0 H0 F H (mu D (.lst ys) :: L) → J.go i H) (ht : ∀ ys L F H D, P n ys L → W M F0 H0 F H (mu D (.lst ys) :: L) → J.stop n H)
    (hs : ∀ (i : Nat) x ys L F H H' D, i < n → P i ys L → W M F0 H0 F H (mu D (.lst ys) :: L) → J.yld i H x H' → H0 D = none → g x (wipe σ vs) H' fun σ2 H2 => wipe σ2 vs = wipe σ vs ∧ tt σ2 H2 fun b H3 =>
      if b = true then te σ2 H3 (accG D (NxC M F0 H0 (P (i + 1)) D)) else NxC M F0 H0 (P (i + 1)) D H3)
    (hd : ∀ D ys L F H, P n ys L → W M F0 H0 F H (mu D (.lst ys) :: L) → H0 D = none → Q (.ref D) H) (k : Pk L L1 := by walk_at "pk") : lcG g tt te vs J σ H Q := by
  intro D nD
  have hD := w.g.fresh nD
  refine ⟨fun i m H => m = n - i ∧ i ≤ n ∧ NxC M F0 H0 (P i) D H, ⟨n, by simp, Nat.zero_le _, [], L1, F, h0, (w.pk k).nw nD⟩, ?_⟩
  rintro i m H ⟨rfl, hi, ys, L, F, h, w⟩
  by_cases hlt : i < n
  · exact .inr ⟨hg i ys L F H D hlt h w, NxC M F0 H0 (P (i + 1)) D, fun H' p' => ⟨n - (i + 1), by omega, rfl, hlt, p'⟩, fun x H' y => hs i x ys L F H H' D hlt h w y hD⟩
  · have e : i = n := by omega
    subst e
    exact .inl ⟨ht ys L F H D h w, hd D ys L F H h w hD⟩
/-- over enumerate(list) -/
def enG (K : PySem.W.Frag) (vs : List V) (H : Hp) (Rr : It → Hp → Prop) : Prop := ∃ a xs, vs = [.ref a] ∧ SqL K H a xs ∧ Rr (Ite K a) H
theorem x_en {Rr : It → Hp → Prop} (h : t σ H fun vs H1 => enG K vs H1 Rr) : iEnum K t σ H Rr := h
instance {Rr : It → Hp → Prop} : Step (iEnum K t σ H Rr) (t σ H fun vs H1 => enG K vs H1 Rr) := ⟨x_en⟩ -- st
theorem W.calB {b : Addr} {F2 H2 : Hp} {L2 L3 : List Own} (w : W M F0 H0 F H L) (k : Pick L [R.bag K b] Rs) (w2 : W [b] F H F2 H2 L2) (e : App L2 Rs L3) : W M F0 H0 F2 H2 L3 := w.cal k w2 e rfl
theorem W.bag0 {b : Addr} {F2 H2 : Hp} (g : Gr [] H H F2 H2) (h : Bag K F2 H2 b) : W [] H H F2 H2 [R.bag K b] := by
  obtain ⟨c, cells, i, cur, st, k, h1, h2, _⟩ := h.ex
  refine ⟨g, fun o m => ?_, ?_, fun a m => ?_⟩
  · rw [List.mem_singleton.mp m]
    exact h
  · show ([b] : List Addr).Nodup
    simp
  · rw [show a = b from List.mem_singleton.mp m]
    exact .inr (g.ff.free h1)
theorem n_acc (ys : List V) {P : List V → List Own → Prop} (w : W M F0 H0 F H L) (hp : P (ys ++ [y]) Rs) (k : Pk L (mu D (.lst ys) :: Rs)) (hl : ys.length < sizeLine) : accG D (NxC M F0 H0 P D) y H := by
  have w' := w.pk k
  refine ⟨ys, w'.at_ (List.mem_cons_self ..), hl, ys ++ [y], Rs, F, hp, ?_⟩
  exact w'.wr (.cons .here .nil)
end
end R
namespace R
open PySem PySem.Spec PyProof.Rows L2
section
variable {X : Cx} {K : PySem.W.Frag} {w : World}
def rSetL (K : PySem.W.Frag) (w : World) : List V → Hp → VK → Prop := fun xs H Q => ∃ (a : Addr) (ns : List Int), xs = [.ref a] ∧ SqL K H a (ns.map V.int) ∧ ns.length ≤ 4000 ∧ ∀ p c, c ≤ ns.length → H p = none → Q (.ref p) (upd H p (SetO w p (fun j => decide (j ∈ ns)) c))
end
end R
namespace R
open PySem PySem.Spec PyProof.Rows L2
/-! ### list(s) of a text -/
def chars (z : Str) : List V := z.cps.toList.map fun c => V.str ⟨#[c]⟩
theorem chars_len (z : Str) : (chars z).length = z.length := by simp [chars, Str.length]
def rListS : List V → Hp → VK → Prop := fun xs H Q => ∃ z : Str, xs = [.str z] ∧ z.length ≤ sizeLine ∧ ∀ q, H q = none → Q (.ref q) (upd H q (.lst (chars z)))
theorem clListS {X : Cx} (hc : X.calm = true := by rfl) : CallR X (.type "list") rListS := by
  intro pins s σ H xs us Q I r h
  obtain ⟨z, rfl, hz, q⟩ := h
  obtain ⟨u, rfl, rx⟩ := vals1 r
  obtain ⟨t, rfl⟩ := rx
  refine PySem.call_list_str (I.ok.hd hc) z t (fun h' tk acc c' hk e hi => ?_) hz
  refine ⟨.ref s.heap.objs.size, upd H s.heap.objs.size (.lst (chars z)), I.laid hk (Nat.le_refl _) ⟨by rw [chars_len]; exact hz, acc.toList, c', ?_, by rw [Array.toArray_toList]; exact e⟩, rfl, q _ (I.hok.fresh (Nat.le_refl _))⟩
  refine vals_of_idx _ _ (by rw [chars_len, Array.length_toList]; exact hi.1) fun j u hj => ?_
  obtain ⟨c, t', hc, rfl⟩ := hi.2 j u (by rw [← Array.getElem?_toList]; exact hj)
  refine ⟨.str ⟨#[c]⟩, ?_, ⟨_, rfl⟩⟩
  unfold chars
  rw [List.getElem?_map, Array.getElem?_toList, hc]
  rfl
theorem n_listS {M : List Addr} {F0 H0 F H : Hp} {L : List Own} {Q : VK} {z : Str} (w : W M F0 H0 F H L) (hz : z.length ≤ sizeLine) (h : ∀ p F2 H2, W M F0 H0 F2 H2 (mu p (.lst (chars z)) :: L) → H0 p = none → Q (.ref p) H2) : rListS [.str z] H Q := ⟨z, rfl, hz, n_new w h⟩
/-! ### flat values -/
/-! ### slices -/
/-! ### items put one by one from a place on -/
/-! ### moves -/
inductive Mv where
  | put (to : Nat) (s : Str)
  | copy (to a n : Nat)
def Mv.d : Mv → PyData
  | .put to s => .tuple [.str "put", .int to, .str s]
  | .copy to a n => .tuple [.str "copy", .int to, .int a, .int n]
def Mv.to : Mv → Nat
  | .put to _ => to
  | .copy to _ _ => to
def Mv.len : Mv → Nat
  | .put _ s => s.length
  | .copy _ _ n => n
def Mv.hi : Mv → Nat
  | .put _ _ => 0
  | .copy _ a n => a + n
def Mv.sOk : Mv → Prop
  | .put _ s => okS s ∧ s.length ≤ 1000
  | .copy to a _ => to ≠ a
structure MvOk (N : Nat) (m : Mv) : Prop where
  s : m.sOk
  p : 1 ≤ m.len
  t : m.to + m.len ≤ N
  h : m.hi ≤ N
def Mv.some (xs : List V) : Mv → List V
  | .put _ s => chars s
  | .copy _ a n => (xs.drop a).take n
section
variable {K : PySem.W.Frag} {F : Hp} {x : V}
/-- item i of a list of data -/
theorem dpa_at {α : Type} {f : α → PyData} {us : List V} {as : List α} {i : Nat} {y : V} (h : DpAll K F us (as.map f)) (hx : us[i]? = some y) : ∃ r, as[i]? = some r ∧ Dp K F y (f r) := by
  have hl := dpa_len h
  have hi := (List.getElem?_eq_some_iff.mp hx).1
  rw [List.length_map] at hl
  have hr : as[i]? = some as[i] := List.getElem?_eq_getElem (by omega)
  obtain ⟨v, hv, dv⟩ := dpa_get (i := i) (d := f as[i]) h (by rw [List.getElem?_map, hr]; rfl)
  rw [hx] at hv
  rw [Option.some.inj hv]
  exact ⟨_, hr, dv⟩
end
/-- no cell is written twice -/
def Apart (ms : List Mv) : Prop := ms.Pairwise fun m k => m.to + m.len ≤ k.to ∨ k.to + k.len ≤ m.to
theorem Apart.perm {ms ks : List Mv} (h : Apart ms) (p : ms.Perm ks) : Apart ks := (p.pairwise_iff (fun h => h.symm)).mp h
structure MvsOk (N : Nat) (ms : List Mv) : Prop where
  ok : ∀ m ∈ ms, MvOk N m
  ap : Apart ms
theorem MvsOk.perm {N : Nat} {ms ks : List Mv} (h : MvsOk N ms) (p : ms.Perm ks) : MvsOk N ks := ⟨fun m hm => h.ok m (p.mem_iff.mpr hm), h.ap.perm p⟩
theorem nodup_lt : ∀ (N : Nat) (l : List Nat), l.Nodup → (∀ x ∈ l, x < N) → l.length ≤ N
  | 0, [], _, _ => Nat.le_refl _
  | 0, x :: l, _, h => absurd (h x (List.mem_cons_self ..)) (Nat.not_lt_zero _)
  | N + 1, l, hn, h => by
    have ih := nodup_lt N (l.erase N) (hn.erase N) fun x hx => by
      have h1 := h x (List.mem_of_mem_erase hx)
      have h2 : x ≠ N := fun e => by
        subst e
        exact (List.Nodup.mem_erase_iff hn).mp hx |>.1 rfl
      omega
    rw [List.length_erase] at ih
    split at ih <;> omega
/-- fewer than N + 1 of them -/
theorem MvsOk.len {N : Nat} {ms : List Mv} (h : MvsOk N ms) : ms.length ≤ N := by
  have hn : (ms.map Mv.to).Nodup := by
    refine List.pairwise_map.mpr (h.ap.imp_of_mem fun ha hb z => ?_)
    have := (h.ok _ ha).p
    have := (h.ok _ hb).p
    omega
  have hs : ∀ x ∈ ms.map Mv.to, x < N := fun x hx => by
    obtain ⟨m, hm, rfl⟩ := List.mem_map.mp hx
    have := (h.ok m hm).p
    have := (h.ok m hm).t
    omega
  have := nodup_lt N _ hn hs
  rwa [List.length_map] at this
/-! ### cuts and blocks -/
/-! ### promises -/
def φtextN (K : PySem.W.Frag) : V → V → Hp → VK → Prop := fun x y H Q => ∃ (F : Hp) (b : Addr) (n : Int), x = .ref b ∧ y = .int n ∧ St F H [bag K b] ∧ 0 ≤ n ∧ n ≤ 1000 ∧
  ∀ (s : Str) F2 H2, W [b] F H F2 H2 [bag K b] → (s.length : Int) = n → okS s → Q (.str s) H2
end R
namespace R
open PySem L2
/-! ### a class of the text: its methods with their promises, its making -/
structure DM (P : Program) (w : World) (K : PySem.W.Frag) (mg : Str → Option Value) (base : Heap) (k : Nat) (C m : Str) (ps : List Str) (dvs : List V) (sp : Sp) : Prop where
  ex : ∃ (fd : FuncData) (ds : List Value), FnOk P w K mg base CX0 k (He.ma K (He.ga K C) m) fd ps sp ∧ Meth K (He.ga K C) m (He.ma K (He.ga K C) m) ∧ Cls K (He.ga K C) ∧ Binds K fd ps ds ∧ Vals dvs ds
structure DN (P : Program) (w : World) (K : PySem.W.Frag) (mg : Str → Option Value) (base : Heap) (k : Nat) (C : Str) (ps : List Str) (dvs : List V) (sp : Sp) : Prop where
  ex : ∃ (fd : FuncData) (ds : List Value), FnOk P w K mg base CX0 k (He.ma K (He.ga K C) "__init__") fd ps sp ∧ Mk K (He.ga K C) (He.ma K (He.ga K C) "__init__") ∧ mg C = some (.ref (He.ga K C)) ∧ Binds K fd ps ds ∧ Vals dvs ds
section
variable {X : Cx} {k j n : Nat} {ps ks : List Str} {sp : Sp} {dvs : List V} {C m x : Str} {p pos apos : Pos} {o e : Expr} {es : List Expr} {kws : List Keyword} {ta : TE} {t tk : TA} {tp : List (Nat × Nat)} {pl : Sem Bool}
theorem pmake (D : DN X.prog X.w X.K X.mg X.base k x ps dvs sp) (hr : Room j X.A) (ha : PA X (e :: es) t) (hj : k + 1 ≤ j := by first | decide | exact Nat.le_refl _ | omega) (hg : Gl X x := by rfl) (hdb : (x == ("__debug__" : Str)) = false := by decide)
    (he : starEach (e :: es) X.env = (false, eval e X.env) :: starEach es X.env := by rfl) (hpl : (backTo pos (starEach es X.env)).any (·.1) = false := by rfl) :
    PE X (.Call (.Name x p) (e :: es) [] pos) (tMake (He.ga X.K x) sp dvs E0 t) := by
  obtain ⟨fd, ds, F, M, hm, hb, hd⟩ := D.ex
  exact pe_make M F (hr.mono hj) hg hm hb hd pass0 ha hdb he hpl
theorem pmeth (D : DM X.prog X.w X.K X.mg X.base k C m ps dvs sp) (hr : Room j X.A) (he : PE X o ta) (ha : PA X (e :: es) t) (hj : k ≤ j := by first | decide | exact Nat.le_refl _ | omega)
    (h1 : starEach (e :: es) X.env = (false, eval e X.env) :: starEach es X.env := by rfl) (h2 : (backTo pos (starEach es X.env)).any (·.1) = false := by rfl)
    (h3 : eval (.Call (.Attribute o m apos) (e :: es) [] pos) X.env = (eval o X.env >>= fun ov => standAt apos.atName >>= fun _ => holding [ov] (getMethod ov m pl) >>= fun q =>
      callWith pos q.1 q.2 (backTo pos (starEach (e :: es) X.env)) (backToKw pos (keywordEach [] X.env))) := by rfl) :
    PE X (.Call (.Attribute o m apos) (e :: es) [] pos) (tMeth (He.ga X.K C) m sp dvs E0 ta t) := by
  obtain ⟨fd, ds, F, M, c, hb, hd⟩ := D.ex
  exact pe_meth he c M F (hr.mono hj) hb hd pass0 ha h1 h2 h3
theorem pmeth0 (D : DM X.prog X.w X.K X.mg X.base k C m ps dvs sp) (hr : Room j X.A) (he : PE X o ta) (hj : k ≤ j := by first | decide | exact Nat.le_refl _ | omega)
    (h3 : eval (.Call (.Attribute o m apos) [] [] pos) X.env = (eval o X.env >>= fun ov => standAt apos.atName >>= fun _ => holding [ov] (getMethod ov m pl) >>= fun q =>
      callWith pos q.1 q.2 (backTo pos (starEach [] X.env)) (backToKw pos (keywordEach [] X.env))) := by rfl) :
    PE X (.Call (.Attribute o m apos) [] [] pos) (tMeth (He.ga X.K C) m sp dvs E0 ta tNil) := by
  obtain ⟨fd, ds, F, M, c, hb, hd⟩ := D.ex
  exact pe_meth0 he c M F (hr.mono hj) hb hd pass0 h3
end
/-! ### rules with the written part by its own name -/
section
variable {X : Cx} {K : PySem.W.Frag} {o value : Expr} {f : Str} {ta tv : TE} {pos p2 : Pos}
theorem psFld (ha : PE X o ta) (hv : PE X value tv) (hs : swapsWith value (some (.Attribute o f p2)) pos.line X.env = pure false) (h : X.K = K := by rfl) : PS X (.Assign [.Attribute o f p2] value pos) (sFld K ta tv f) := by
  subst h
  exact ps_fld ha hv hs
end
/-! ### steps -/
section
variable {K : PySem.W.Frag} {σ : L2.St} {H : Hp} {Q : VK} {ta tv : TE} {x v : V} {nx bk ct : L2.St → Hp → Prop} {rt : VK} {C a dx : Addr} {f m : Str} {fs : List (Str × V)}
/-- what an instance's field asks -/
def gFld (K : PySem.W.Frag) (f : Str) (x : V) (H : Hp) (Q : VK) : Prop := ∃ a C dx fs v, x = .ref a ∧ H a = some (.ins C dx fs) ∧ Cls K C ∧ NoAttr K C f ∧ fs.lookup f = some v ∧ Q v H
theorem w_fldE (q : ta σ H fun x H1 => gFld K f x H1 Q) : tFld K ta f σ H Q := q
instance : Step (tFld K ta f σ H Q) (ta σ H fun x H1 => gFld K f x H1 Q) := ⟨w_fldE⟩ -- st
theorem w_fld (c : Cls K C) (n : NoAttr K C f) (h : H a = some (.ins C dx fs)) (l : fs.lookup f = some v) (q : Q v H) : gFld K f (.ref a) H Q := ⟨a, C, dx, fs, v, rfl, h, c, n, l, q⟩
def gSFld (K : PySem.W.Frag) (f : Str) (x y : V) (H : Hp) (Z : Hp → Prop) : Prop := ∃ a C dx fs, x = .ref a ∧ H a = some (.ins C dx fs) ∧ Cls K C ∧ NoAttr K C f ∧ fs.length < 1000 ∧ Z (upd H a (.ins C dx (putF f y fs)))
theorem w_sfldE (q : tv σ H fun y H1 => ta σ H1 fun x H2 => gSFld K f x y H2 fun H3 => nx σ H3) : sFld K ta tv f ⟨nx, rt, bk, ct⟩ σ H := q
instance : Step (sFld K ta tv f ⟨nx, rt, bk, ct⟩ σ H) (tv σ H fun y H1 => ta σ H1 fun x H2 => gSFld K f x y H2 fun H3 => nx σ H3) := ⟨w_sfldE⟩ -- st
theorem w_sfld {Z : Hp → Prop} (c : Cls K C) (n : NoAttr K C f) (h : H a = some (.ins C dx fs)) (l : fs.length < 1000) (q : Z (upd H a (.ins C dx (putF f v fs)))) : gSFld K f (.ref a) v H Z := ⟨a, C, dx, fs, rfl, h, c, n, l, q⟩
theorem w_meth {sp : Sp} {dvs : List V} {E : XK} {t : TA} (q : ta σ H fun x H1 => ∃ a dx fs, x = .ref a ∧ H1 a = some (.ins C dx fs) ∧ fs.lookup m = none ∧ t σ H1 fun vs H2 => sp (x :: (vs ++ dvs)) H2 Q E) : tMeth C m sp dvs E ta t σ H Q := q
end
end R
namespace R
open PySem PySem.Spec PyProof.Rows L2
/-! ### the head's facts with one more of the written part -/
def obsEG (n : Nat) (fa : List He.Fa) (fn : List He.DefD) (ex : PySem.W.Frag → Bool) (g : Addr → Option Obj) : He.AlD × Bool := (He.obsDG n fa fn g, ex (He.frG g (He.asD g n)))
def hookE (n : Nat) (fa : List He.Fa) (fn : List He.DefD) (ex : PySem.W.Frag → Bool) : PySem.W.Hook where
  α := He.AlD × Bool
  obs := fun s => obsEG n fa fn ex s.heap.get?
  val := fun _ => (He.valD fn, true)
  says := fun _ h => ∃ K : PySem.W.Frag, K.In h ∧ He.SaysD fa fn K ∧ ex K = true
  of := fun _ _ e => ⟨_, He.frG_in, congrArg Prod.fst e, congrArg Prod.snd e⟩
  keeps := fun _ _ _ ⟨K, hK, c⟩ k => ⟨K, PySem.W.Frag.In.keeps hK k, c⟩
theorem obsEG_eq {n : Nat} {fa : List He.Fa} {fn : List He.DefD} {ex : PySem.W.Frag → Bool} {g : Addr → Option Obj} {s : Shared} (h : ∀ a, g a = s.heap.get? a) : obsEG n fa fn ex g = (hookE n fa fn ex).obs s := by
  have e : g = s.heap.get? := funext h
  rw [e] <;> rfl
def eqV2 (a b : Option (Option Value)) : Bool := decide (a = b)
/-- what isinstance asks of an own class -/
def insB (K : PySem.W.Frag) (C : Str) : Bool := eqV2 (PySem.W.findIn K (.ref (He.ga K C)) "__class__") (some (some (.builtin "object.__class__"))) &&
  (eqV2 (PySem.W.specialIn K (.builtin "object.__class__") "__get__") (some (some (.builtin "getset_descriptor.__get__"))) &&
  (decide (PySem.W.takesIn K (.builtin "object.__class__") = some true) && (decide (PySem.W.mroIn K (He.ga K C) (.type "object") = some true) && decide (PySem.W.kitOne K (.ref (He.ga K C)) (.ref (He.ga K C)) = some true))))
theorem insB_ok {K : PySem.W.Frag} {C : Str} (c : Cls K (He.ga K C)) (h : insB K C = true) : C8.InsC K (He.ga K C) := by
  unfold insB at h
  simp only [Bool.and_eq_true, eqV2, decide_eq_true_eq] at h
  obtain ⟨h1, h2, h3, h4, h5⟩ := h
  exact ⟨c, h1, h2, h3, h4, h5⟩
/-- a class's own function for a special name -/
def spcB (K : PySem.W.Frag) (C m : Str) : Bool := eqV2 (PySem.W.findIn K (.ref (He.ga K C)) m) (some (some (.ref (He.ma K (He.ga K C) m)))) && PySem.W.isFn K (.ref (He.ma K (He.ga K C) m))
section
variable {X : Cx} {K : PySem.W.Frag} {k : Nat} {C : Str} {ps : List Str} {sp : Sp}
def rIsC (K : PySem.W.Frag) (C : Str) : List V → Hp → VK → Prop := fun xs H Q => ∃ a dx fs, xs = [.ref a, .ref (He.ga K C)] ∧ H a = some (.ins (He.ga K C) dx fs) ∧ Q (.bl true) H
theorem clIsC (c : C8.InsC X.K (He.ga X.K C)) : CallR X (.builtin "isinstance") (rIsC X.K C) := C8.call_isC c
def aftI (Q : VK) : VK := fun v H2 => ∃ n : Int, v = .int n ∧ (0 ≤ n ∧ n < 2 ^ 63) ∧ Q (.int n) H2
def aftB (Q : VK) : VK := fun v H2 => ∃ k : Bool, v = .bl k ∧ Q (.bl k) H2
/-- len(x) by an own __len__ -/
def rLenO (C : Addr) (sp : Sp) : List V → Hp → VK → Prop := fun xs H Q => ∃ a dx fs, xs = [.ref a] ∧ H a = some (.ins C dx fs) ∧ sp [.ref a] H (aftI Q) E0
theorem clLenO (D : DM X.prog X.w X.K X.mg X.base k C "__len__" ps [] sp) {j : Nat} (hr : Room j X.A) (hj : k + 1 ≤ j) : CallR X (.builtin "len") (rLenO (He.ga X.K C) sp) := by
  obtain ⟨fd, ds, F, c, _, hb, hv⟩ := D.ex
  cases hv
  intro pins s σ H xs us Q I r h
  obtain ⟨a, dx, fs, rfl, ha, q⟩ := h
  rw [Vals.ref1 r]
  obtain ⟨mA, J, _⟩ := ins_get I.hok ha
  obtain ⟨od, J, _⟩ := J.look
  obtain ⟨m, hF⟩ := I.fr
  refine PySem.W.len_K hF I.ok.mod.kin J c.at_ c.fn ?_
  have e0 : Env0 X.prog X.w X.K X.mg X.base X.A.in1 X.stack s H := by
    have e := I.env0
    exact ⟨e.frames, e.mod, e.bs, e.bsz, e.funs, e.frf, e.hok, e.bare⟩
  have hl := F.len _ _ _ _ q
  refine wpAny_call (codeAny_mono (F.run X.A.in1 X.stack s H ⟨[.ref a], []⟩ [.ref a] [.ref a] _ E0 (hr.mono hj).in1 e0 (by
    have := hb s [.ref a] I.kIn (by simpa using hl)
    simpa using this) (.cons rfl .nil) q) fun r s' hq => ?_)
  cases r with
  | error e => exact pass0 pins σ H s e s' I hq
  | ok fl =>
    cases fl with
    | ret w =>
      obtain ⟨z, H', I', rz, n, ez, hn, q⟩ := I.after hq
      subst ez
      obtain ⟨t, rfl⟩ := rz
      exact ⟨hn, .int n, H', I'.tok _, ⟨_, rfl⟩, q⟩
    | next => exact False.elim hq
    | brk => exact False.elim hq
    | cont => exact False.elim hq
/-- x == y of two own instances by an own __eq__ -/
def rEqO (C : Addr) (sp : Sp) : R2 := fun x y H Q => ∃ a b dx dy fs gs, x = .ref a ∧ y = .ref b ∧ H a = some (.ins C dx fs) ∧ H b = some (.ins C dy gs) ∧ sp [.ref a, .ref b] H (aftB Q) E0
theorem opEqO (D : DM X.prog X.w X.K X.mg X.base k C "__eq__" ps [] sp) {j : Nat} (hr : Room j X.A) (hj : k ≤ j) : OpR X (compareOp .Eq) (rEqO (He.ga X.K C) sp) := by
  obtain ⟨fd, ds, F, c, _, hb, hv⟩ := D.ex
  cases hv
  intro pins s σ H x y u v Q I rx ry h
  obtain ⟨a, b, dx, dy, fs, gs, rfl, rfl, ha, hb', q⟩ := h
  cases rx
  cases ry
  obtain ⟨mA, J, _⟩ := ins_get I.hok ha
  obtain ⟨mB, J', _⟩ := ins_get I.hok hb'
  obtain ⟨od, J, _⟩ := J.look
  obtain ⟨od', J', _⟩ := J'.look
  obtain ⟨m, hF⟩ := I.fr
  show wpAny (model X.prog X.w) X.A (richCompare .Eq (.ref a) (.ref b)) (EP X pins σ Q) X.xe s
  refine PySem.W.cmp_K (op := .Eq) (tb := .ref (He.ga X.K C)) hr.units0 hF I.ok.mod.kin J J'.type (by simp [PySem.W.notFirst]) c.at_ c.fn ?_
  have hl := F.len _ _ _ _ q
  refine wpAny_call (codeAny_mono (F.run X.A X.stack s H ⟨[.ref a, .ref b], []⟩ [.ref a, .ref b] [.ref a, .ref b] _ E0 (hr.mono hj) I.env0 (by
    have := hb s [.ref a, .ref b] I.kIn (by simpa using hl)
    simpa using this) (.cons rfl (.cons rfl .nil)) q) fun r s' hq => ?_)
  cases r with
  | error e => exact pass0 pins σ H s e s' I hq
  | ok fl =>
    cases fl with
    | ret w =>
      obtain ⟨z, H', I', rz, n, ez, q⟩ := I.after hq
      subst ez
      cases rz
      exact ⟨.bl n, H', I', rfl, q⟩
    | next => exact False.elim hq
    | brk => exact False.elim hq
    | cont => exact False.elim hq
end
section
variable {K : PySem.W.Frag} {H : Hp} {Q : VK} {C : Str} {c : Addr} {a b dx dy : Addr} {fs gs : List (Str × V)} {sp : Sp}
theorem n_isC (h : H a = some (.ins (He.ga K C) dx fs)) (q : Q (.bl true) H) : rIsC K C [.ref a, .ref (He.ga K C)] H Q := ⟨a, dx, fs, rfl, h, q⟩
theorem n_lenO (h : H a = some (.ins c dx fs)) (q : sp [.ref a] H (aftI Q) E0) : rLenO c sp [.ref a] H Q := ⟨a, dx, fs, rfl, h, q⟩
theorem n_eqO (h : H a = some (.ins c dx fs)) (h' : H b = some (.ins c dy gs)) (q : sp [.ref a, .ref b] H (aftB Q) E0) : rEqO c sp (.ref a) (.ref b) H Q := ⟨a, b, dx, dy, fs, gs, rfl, rfl, h, h', q⟩
end
end R
namespace R
open PySem L2
/-! ### instances in a reading -/
def mthG (C : Addr) (m : Str) (x : V) (H : Hp) (P : Prop) : Prop := (∃ a dx fs, x = .ref a ∧ H a = some (.ins C dx fs) ∧ fs.lookup m = none) ∧ P
def aftG (Q : VK) (x : Addr) : VK := fun v H2 => v = .non ∧ Q (.ref x) H2
def makG (C : Addr) (sp : Sp) (ws : List V) (E : XK) (H : Hp) (Q : VK) : Prop := ∀ x dx, H x = none → H dx = none → dx ≠ x → sp (.ref x :: ws) (upd (upd H dx (.own x)) x (.ins C dx [])) (aftG Q x) E
section
variable {K : PySem.W.Frag} {M : List Addr} {F0 H0 F H : Hp} {L Rs : List Own} {σ : L2.St} {Q : VK} {ta : TE} {v : V} {nx bk ct : L2.St → Hp → Prop} {rt : VK} {C a dx : Addr} {f m : Str} {fs : List (Str × V)}
theorem n_fld (h : H a = some (.ins C dx fs)) (l : fs.lookup f = some v) (c : Cls K C) (n : NoAttr K C f) (q : Q v H) : gFld K f (.ref a) H Q := w_fld c n h l q
instance : SideK (gFld K f (.ref a) H Q) 4 := ⟨⟩ -- st
theorem n_sfld {Z : Hp → Prop} (w : W M F0 H0 F H L) (k : Pick L [mu a (.ins C dx fs)] Rs) (c : Cls K C) (n : NoAttr K C f) (l : fs.length < 1000) (q : ∀ H2, W M F0 H0 F H2 (mu a (.ins C dx (putF f v fs)) :: Rs) → Z H2) : gSFld K f (.ref a) v H Z :=
  w_sfld c n ((w.to k).at_ (List.mem_singleton.mpr rfl)) l (q _ (w.wr k))
theorem x_meth {sp : Sp} {dvs : List V} {E : XK} {t : TA} (q : ta σ H fun x H1 => mthG C m x H1 (t σ H1 fun vs H2 => sp (x :: (vs ++ dvs)) H2 Q E)) : tMeth C m sp dvs E ta t σ H Q := by
  refine w_meth ?_
  refine cast ?_ q
  congr 1
  funext x H1
  unfold mthG
  refine propext ⟨?_, ?_⟩
  · rintro ⟨⟨a, dx, fs, h1, h2, h3⟩, h4⟩
    exact ⟨a, dx, fs, h1, h2, h3, h4⟩
  · rintro ⟨a, dx, fs, h1, h2, h3, h4⟩
    exact ⟨⟨a, dx, fs, h1, h2, h3⟩, h4⟩
instance {sp : Sp} {dvs : List V} {E : XK} {t : TA} : Step (tMeth C m sp dvs E ta t σ H Q) (ta σ H fun x H1 => mthG C m x H1 (t σ H1 fun vs H2 => sp (x :: (vs ++ dvs)) H2 Q E)) := ⟨x_meth⟩ -- st
theorem n_meth {P : Prop} (h : H a = some (.ins C dx fs)) (l : fs.lookup m = none) (q : P) : mthG C m (.ref a) H P := ⟨⟨a, dx, fs, rfl, h, l⟩, q⟩
instance {P : Prop} : SideK (mthG C m (.ref a) H P) 4 := ⟨⟩ -- st
theorem x_make {sp : Sp} {dvs : List V} {E : XK} {t : TA} (q : t σ H fun vs H1 => makG C sp (vs ++ dvs) E H1 Q) : tMake C sp dvs E t σ H Q := q
instance {sp : Sp} {dvs : List V} {E : XK} {t : TA} : Step (tMake C sp dvs E t σ H Q) (t σ H fun vs H1 => makG C sp (vs ++ dvs) E H1 Q) := ⟨x_make⟩ -- st
theorem n_make {sp : Sp} {ws : List V} {E : XK} (w : W M F0 H0 F H L) (q : ∀ x dx H2, W M F0 H0 F H2 (mu x (.ins C dx []) :: mu dx (.own x) :: L) → H0 x = none → sp (.ref x :: ws) H2 (aftG Q x) E) : makG C sp ws E H Q := by
  intro x dx nx ndx hne
  have w1 := w.nw (u := .own x) ndx
  have nx1 : upd H dx (.own x) x = none := by rw [upd_ne hne.symm]; exact nx
  exact q x dx _ (w1.nw (u := .ins C dx []) nx1) (w.g.fresh nx)
end
/-! ### rows of a change -/
inductive CRow where
  | put (s : Str)
  | copy (a n : Nat)
def CRow.d : CRow → PyData
  | .put s => .tuple [.str "put", .str s]
  | .copy a n => .tuple [.str "copy", .int a, .int n]
def CRow.gives : CRow → Nat
  | .put s => s.length
  | .copy _ n => n
def CRow.hi : CRow → Nat
  | .put _ => 0
  | .copy a n => a + n
def CRow.sOk : CRow → Prop
  | .put s => okS s ∧ s.length ≤ 1000
  | .copy _ _ => True
structure CRowOk (size : Nat) (r : CRow) : Prop where
  s : r.sOk
  p : 1 ≤ r.gives
  h : r.hi ≤ size
abbrev givesL (rows : List CRow) : Nat := (rows.map CRow.gives).sum
structure RowsOk (size : Nat) (rows : List CRow) : Prop where
  ok : ∀ r ∈ rows, CRowOk size r
  sum : givesL rows ≤ 400
theorem rows_len : ∀ {rows : List CRow}, (∀ r ∈ rows, 1 ≤ r.gives) → rows.length ≤ givesL rows
  | [], _ => Nat.le_refl _
  | r :: rows, h => by
    have ih := rows_len (rows := rows) fun q hq => h q (List.mem_cons_of_mem _ hq)
    have h1 := h r (List.mem_cons_self ..)
    show rows.length + 1 ≤ r.gives + givesL rows
    omega
theorem RowsOk.len {size : Nat} {rows : List CRow} (h : RowsOk size rows) : rows.length ≤ 400 := Nat.le_trans (rows_len fun r hr => (h.ok r hr).p) h.sum
section
variable {K : PySem.W.Frag} {F : Hp} {x : V}
theorem dp_cput {s : Str} (h : Dp K F x (CRow.put s).d) : ∃ a, x = .ref a ∧ SqT K F a [.str "put", .str s] := by
  obtain ⟨a, vs, rfl, hs, h0⟩ := dp_tup h
  obtain ⟨v1, us, rfl, h1, h0⟩ := dpa_cons h0
  obtain ⟨v2, us, rfl, h2, h0⟩ := dpa_cons h0
  cases dpa_nil h0
  rw [dp_str h1, dp_str h2] at hs
  exact ⟨a, rfl, hs⟩
theorem dp_ccopy {a n : Nat} (h : Dp K F x (CRow.copy a n).d) : ∃ p, x = .ref p ∧ SqT K F p [.str "copy", .int a, .int n] := by
  obtain ⟨a, v1, v2, v3, rfl, hs, h1, h2, h3⟩ := dp_tup3 h
  rw [dp_str h1, dp_int h2, dp_int h3] at hs
  exact ⟨a, rfl, hs⟩
theorem dp_cput' {p : Addr} {s : Str} (h : SqT K F p [.str "put", .str s]) : Dp K F (.ref p) (CRow.put s).d := .tup h (.cons (.str _) (.cons (.str _) .nil))
theorem dp_ccopy' {p : Addr} {a n : Nat} (h : SqT K F p [.str "copy", .int a, .int n]) : Dp K F (.ref p) (CRow.copy a n).d := .tup h (.cons (.str _) (.cons (.int _) (.cons (.int _) .nil)))
end
theorem crow_good {m : CRow} (h : m.sOk) : good m.d = true ∧ m.d.depth ≤ 1 := by
  cases m with
  | put s =>
    constructor
    · refine good_tuple (by simp) fun d hd => ?_
      simp only [List.mem_cons, List.not_mem_nil, or_false] at hd
      rcases hd with rfl | rfl
      · decide +kernel
      · exact str_good h.1 (Nat.le_trans h.2 (by decide))
    · refine depth_tuple fun d hd => ?_
      simp only [List.mem_cons, List.not_mem_nil, or_false] at hd
      rcases hd with rfl | rfl <;> exact Nat.le_refl _
  | copy a n =>
    constructor
    · refine good_tuple (by simp) fun d hd => ?_
      simp only [List.mem_cons, List.not_mem_nil, or_false] at hd
      rcases hd with rfl | rfl | rfl
      · decide +kernel
      · rfl
      · rfl
    · refine depth_tuple fun d hd => ?_
      simp only [List.mem_cons, List.not_mem_nil, or_false] at hd
      rcases hd with rfl | rfl | rfl <;> exact Nat.le_refl _
theorem crows_good {ms : List CRow} (h : ∀ m ∈ ms, m.sOk) (hl : ms.length ≤ 100000) : good (.list (ms.map CRow.d)) = true ∧ (PyData.list (ms.map CRow.d)).depth ≤ 2 := by
  constructor
  · refine good_list (by rw [List.length_map]; exact hl) fun d hd => ?_
    obtain ⟨r, hr, rfl⟩ := List.mem_map.mp hd
    exact (crow_good (h r hr)).1
  · refine depth_list fun d hd => ?_
    obtain ⟨r, hr, rfl⟩ := List.mem_map.mp hd
    exact (crow_good (h r hr)).2
/-- a change that stays -/
def insC (C dx r : Addr) (n : Nat) : HO := .ins C dx [("size", .int (n : Nat)), ("rows", .ref r)]
def Chg (K : PySem.W.Frag) (F : Hp) (x : V) (n : Nat) (rows : List CRow) : Prop := ∃ c dx r vs, x = .ref c ∧ F c = some (insC (He.ga K "Change") dx r n) ∧ F r = some (.lst vs) ∧ DpAll K F vs (rows.map CRow.d)
theorem Chg.same {K : PySem.W.Frag} {F F2 : Hp} {x : V} {n : Nat} {rows : List CRow} (s : Same F F2) (h : Chg K F x n rows) : Chg K F2 x n rows := by
  obtain ⟨c, dx, r, vs, e, h1, h2, h3⟩ := h
  exact ⟨c, dx, r, vs, e, s _ _ h1, s _ _ h2, dpa_same s _ _ h3⟩
def chg (K : PySem.W.Frag) (x : V) (n : Nat) (rows : List CRow) : Own := pur (fun F => Chg K F x n rows) fun s h => h.same s
/-! ### moves of a change -/
theorem gives_take {rows : List CRow} {i : Nat} {r : CRow} (h : rows[i]? = some r) : givesL (rows.take (i + 1)) = givesL (rows.take i) + r.gives := by
  unfold givesL
  rw [List.take_add_one, h, List.map_append, List.sum_append]
  rfl
theorem gives_le (rows : List CRow) (i : Nat) : givesL (rows.take i) ≤ givesL rows := by
  have := List.sum_append (l₁ := (rows.take i).map CRow.gives) (l₂ := (rows.drop i).map CRow.gives)
  rw [← List.map_append, List.take_append_drop] at this
  show ((rows.take i).map CRow.gives).sum ≤ (rows.map CRow.gives).sum
  omega
/-! ### promises -/
def φinit (K : PySem.W.Frag) : V → V → V → Hp → VK → Prop := fun x y z H Q => ∃ (F : Hp) (c dx a : Addr) (vs : List V) (n : Nat) (rows : List CRow), x = .ref c ∧ y = .int (n : Nat) ∧ z = .ref a ∧ St F H [mu c (.ins (He.ga K "Change") dx [])] ∧ SqL K F a vs ∧ DpAll K F vs (rows.map CRow.d) ∧ n ≤ 400 ∧ RowsOk n rows ∧
  ∀ r F2 H2, H r = none → W [c] F H F2 H2 [mu c (insC (He.ga K "Change") dx r n), mu r (.lst vs)] → Q .non H2
/-- the making of a change -/
theorem c_init {K : PySem.W.Frag} {M : List Addr} {F0 H0 F H : Hp} {L Rs : List Own} {Q : VK} {E : XK} {c dx a : Addr} {vs : List V} {n : Nat} {rows : List CRow} (w : W M F0 H0 F H L) (k : Pick L [mu c (.ins (He.ga K "Change") dx [])] Rs) (hc : H0 c = none) (hs : SqL K F a vs) (hd : DpAll K F vs (rows.map CRow.d)) (hn : n ≤ 400) (ok : RowsOk n rows)
    (q : ∀ F2 H2, W M F0 H0 F2 H2 (chg K (.ref c) n rows :: Rs) → Q (.ref c) H2) : S3 (φinit K) [.ref c, .int (n : Nat), .ref a] H (aftG Q c) E := by
  refine ⟨F, c, dx, a, vs, n, rows, rfl, rfl, rfl, w.st k, hs, hd, hn, ok, fun r F2 H2 hr w2 => ⟨rfl, ?_⟩⟩
  have hr' := w.g.fresh hr
  have hd2 := dpa_same w2.ff _ _ hd
  have w := w.cal k w2 (.cons (.cons .nil)) rfl
  have m1 := w.mu (p := c) (List.mem_cons_self ..)
  have w := w.fz (.cons .here .nil) hc
  have hd2 := dpa_same (Same.new (o := insC (He.ga K "Change") dx r n) m1.n) _ _ hd2
  have m2 := w.mu (p := r) (List.mem_cons_self ..)
  have w := w.fz (.cons .here .nil) hr'
  have hd2 := dpa_same (Same.new (o := .lst vs) m2.n) _ _ hd2
  refine q _ _ (w.push _ ⟨c, dx, r, vs, rfl, ?_, upd_same, hd2⟩)
  have hne : c ≠ r := fun e => by
    subst e
    have := m2.n
    rw [upd_same] at this
    cases this
  rw [upd_ne hne, upd_same]
theorem crows_snoc {n : Nat} {rows : List CRow} {r : CRow} (h : ∀ q ∈ rows, CRowOk n q) (hr : CRowOk n r) : ∀ q ∈ rows ++ [r], CRowOk n q := by
  intro q hq
  rcases List.mem_append.mp hq with hq | hq
  · exact h q hq
  · rw [List.mem_singleton.mp hq]
    exact hr
theorem gives_snoc (rows : List CRow) (r : CRow) : givesL (rows ++ [r]) = givesL rows + r.gives := by
  unfold givesL
  rw [List.map_append, List.sum_append]
  rfl
/-! ### the makers of k01 .. k16 -/
theorem cut_last (xs : List V) : cutV xs (some (-1)) none = xs.drop (xs.length - 1) := by
  unfold cutV
  rw [HT.sIx_none]
  have e : HT.sIx xs.length 0 (some (-1)) = xs.length - 1 := by
    unfold HT.sIx
    simp
    omega
  rw [e]
  exact List.take_of_length_le (by rw [List.length_drop]; exact Nat.le_refl _)
theorem cut_last_snoc (xs : List V) (v : V) : cutV (xs ++ [v]) (some (-1)) none = [v] := by
  rw [cut_last, List.length_append]
  show (xs ++ [v]).drop (xs.length + 1 - 1) = [v]
  rw [Nat.add_sub_cancel, List.drop_left]
def sig93 : Str := "!\"#$&'()*+,-./0123456789:;<=>?@ABCDEFGHIJKLMNOPQRSTUVWXYZ" ++ "[\\]^_`abcdefghijklmnopqrstuvwxyz{|}~"
theorem sig_len : sig93.length = 93 := by decide +kernel
theorem sig_ok : okS sig93 := by decide +kernel
def φsigns : Hp → VK → Prop := fun H Q => Q (.str sig93) H
/-- the last row at the end of a list, or none -/
def φrow1 (K : PySem.W.Frag) : V → V → V → V → Hp → VK → Prop := fun x1 x2 x3 x4 H Q => ∃ (F : Hp) (b l : Addr) (n : Nat) (left : Int) (zs : List V), x1 = .ref b ∧ x2 = .int (n : Nat) ∧ x3 = .int left ∧ x4 = .ref l ∧ St F H [bag K b] ∧ SqL K F l zs ∧ (zs = [] ∨ ∃ v r, zs = [v] ∧ Dp K F v (CRow.d r) ∧ CRowOk n r) ∧ n ≤ 400 ∧ 1 ≤ left ∧ left ≤ 400 ∧
  ∀ v r F2 H2, W [b] F H F2 H2 [dat K v (CRow.d r), bag K b] → CRowOk n r → (r.gives : Int) ≤ left → Q v H2
def φrows1 (K : PySem.W.Frag) : V → V → V → V → Hp → VK → Prop := fun x1 x2 x3 x4 H Q => ∃ (F : Hp) (b : Addr) (n : Nat) (many most : Int), x1 = .ref b ∧ x2 = .int (n : Nat) ∧ x3 = .int many ∧ x4 = .int most ∧ St F H [bag K b] ∧ n ≤ 400 ∧ 0 ≤ many ∧ many ≤ 1000 ∧ 0 ≤ most ∧ most ≤ 400 ∧
  ∀ p ys rows F2 H2, H p = none → W [b] F H F2 H2 [mu p (.lst ys), dpa K ys (rows.map CRow.d), bag K b] → RowsOk n rows → (givesL rows : Int) ≤ most → Q (.ref p) H2
/-- len(change) -/
def φclen (K : PySem.W.Frag) : V → Hp → VK → Prop := fun x H Q => ∃ (F : Hp) (n : Nat) (rows : List CRow), Same F H ∧ Chg K F x n rows ∧ rows.length ≤ 100000 ∧ ∀ F2 H2, W [] F H F2 H2 [] → Q (.int (rows.length : Nat)) H2
theorem n_signs {H : Hp} {Q : VK} {E : XK} (q : Q (.str sig93) H) : S0 φsigns ([] ++ []) H Q E := q
end R
namespace R
open PySem PySem.StrLaws Builtin.Str L2
/-! ### stretches of a text, by its signs -/
/-! ### the least cost of each beginning -/
section
variable (p : Nat) (O N : List Nat)
/-- any rows that make the new text cost at least so much -/
def CRow.mk (O : List Nat) : CRow → List Nat
  | .put s => s.cps.toList
  | .copy a n => (O.drop a).take n
end
/-! ### texts by their signs -/
abbrev cd (z : Str) : List Nat := z.cps.toList
theorem cd_len (z : Str) : (cd z).length = z.length := by simp [Str.length]
theorem cd_inj {a b : Str} (h : cd a = cd b) : a = b := by
  obtain ⟨x⟩ := a
  obtain ⟨y⟩ := b
  have e : x = y := Array.toList_inj.mp h
  rw [e]
/-! ### the table -/
theorem ok_codes {z : Str} : okS z ↔ ∀ c ∈ cd z, c < 0x110000 := by
  show (z.cps.all (· < 0x110000)) = true ↔ _
  rw [← Array.all_toList, List.all_eq_true]
  exact ⟨fun h c hc => of_decide_eq_true (h c hc), fun h c hc => decide_eq_true (h c hc)⟩
theorem mk_len {O : List Nat} {n : Nat} (hO : O.length = n) {r : CRow} (ro : CRowOk n r) : (CRow.mk O r).length = r.gives := by
  cases r with
  | put s => simp [CRow.mk, CRow.gives, Str.length]
  | copy a k =>
    have h2 : a + k ≤ n := ro.h
    show ((O.drop a).take k).length = k
    rw [List.length_take, List.length_drop]
    omega
theorem mks_len {O : List Nat} {n : Nat} (hO : O.length = n) : ∀ {rows : List CRow}, (∀ r ∈ rows, CRowOk n r) → (rows.flatMap (CRow.mk O)).length = givesL rows
  | [], _ => rfl
  | r :: rows, h => by
    rw [List.flatMap_cons, List.length_append, mk_len hO (h r (List.mem_cons_self ..)), mks_len hO fun q hq => h q (List.mem_cons_of_mem _ hq)]
    rfl
/-! ### cells -/
def CRow.cellV : CRow → List V
  | .put s => chars s
  | .copy a n => (List.range n).map fun k => V.int ((a + k : Nat) : Int)
abbrev cellsV (rows : List CRow) : List V := rows.flatMap CRow.cellV
theorem cellV_len (r : CRow) : r.cellV.length = r.gives := by
  cases r with
  | put s => exact chars_len s
  | copy a n => simp [CRow.cellV, CRow.gives]
theorem cells_len : ∀ rows : List CRow, (cellsV rows).length = givesL rows
  | [] => rfl
  | r :: rows => by
    show (r.cellV ++ cellsV rows).length = r.gives + givesL rows
    rw [List.length_append, cellV_len, cells_len rows]
/-- a cell of a change of this size: a place or a sign -/
def CellOk (n : Nat) (v : V) : Prop := (∃ i : Nat, v = .int (i : Nat) ∧ i < n) ∨ ∃ c : Nat, v = .str ⟨#[c]⟩ ∧ c < 0x110000
theorem chars_get' {z : Str} {v : V} (h : v ∈ chars z) : ∃ c ∈ cd z, v = .str ⟨#[c]⟩ := by
  unfold chars at h
  obtain ⟨c, hc, rfl⟩ := List.mem_map.mp h
  exact ⟨c, hc, rfl⟩
theorem cells_ok {n : Nat} {rows : List CRow} (h : ∀ r ∈ rows, CRowOk n r) : ∀ v ∈ cellsV rows, CellOk n v := by
  intro v hv
  obtain ⟨r, hr, hv⟩ := List.mem_flatMap.mp hv
  have ro := h r hr
  cases r with
  | put s =>
    obtain ⟨c, hc, rfl⟩ := chars_get' hv
    exact .inr ⟨c, rfl, ok_codes.mp ro.s.1 c hc⟩
  | copy a k =>
    obtain ⟨j, hj, rfl⟩ := List.mem_map.mp hv
    have := List.mem_range.mp hj
    have hh : a + k ≤ n := ro.h
    exact .inl ⟨a + j, rfl, by omega⟩
/-- the sign that a cell gives of an old text -/
def outS (o : Str) : V → Str
  | .int i => ⟨#[(cd o).getD i.toNat 0]⟩
  | .str z => z
  | _ => ⟨#[]⟩
theorem outs_chars (o : Str) (l : List Nat) : ((l.map fun c => V.str ⟨#[c]⟩).map (outS o)).flatMap cd = l := by
  induction l with
  | nil => rfl
  | cons c l ih =>
    rw [List.map_cons, List.map_cons, List.flatMap_cons, ih]
    rfl
theorem outs_range (o : Str) (a : Nat) : ∀ n, a + n ≤ (cd o).length → (((List.range n).map fun k => V.int ((a + k : Nat) : Int)).map (outS o)).flatMap cd = ((cd o).drop a).take n
  | 0, _ => by simp
  | n + 1, h => by
    rw [List.range_succ, List.map_append, List.map_append, List.flatMap_append, outs_range o a n (by omega)]
    have e : ((cd o).drop a)[n]? = some ((cd o).getD (a + n) 0) := by
      rw [List.getElem?_drop, List.getD_eq_getElem?_getD, List.getElem?_eq_getElem (by omega)]
      rfl
    rw [List.take_add_one, e]
    rfl
theorem outs_rows (o : Str) {rows : List CRow} (h : ∀ r ∈ rows, CRowOk o.length r) : ((cellsV rows).map (outS o)).flatMap cd = rows.flatMap (CRow.mk (cd o)) := by
  induction rows with
  | nil => rfl
  | cons r rows ih =>
    show ((r.cellV ++ cellsV rows).map (outS o)).flatMap cd = CRow.mk (cd o) r ++ _
    rw [List.map_append, List.flatMap_append, ih fun q hq => h q (List.mem_cons_of_mem _ hq)]
    congr 1
    cases r with
    | put s => exact outs_chars o _
    | copy a n =>
      have hh : a + n ≤ o.length := (h _ (List.mem_cons_self ..)).h
      exact outs_range o a n (by rw [cd_len]; exact hh)
theorem join_cd (ys : List Str) : cd (Txt.join ⟨#[]⟩ ys) = ys.flatMap cd := by
  have e : TL.tl (Txt.join ⟨#[]⟩ ys) = (ys.map TL.tl).flatten := by
    rw [TL.join_eq, TL.tl_join]
    have key : ∀ l : List (List Nat), TL.joinL [] l = l.flatten := by
      intro l
      induction l with
      | nil => rfl
      | cons a l ih =>
        cases l with
        | nil => simp [TL.joinL]
        | cons b l =>
          rw [TL.joinL, ih]
          simp
    exact key _
  exact e.trans (by rw [List.flatMap_def])
theorem outS_ok {o : Str} {n : Nat} {v : V} (hn : o.length = n) (ok : okS o) (h : CellOk n v) : (outS o v).length = 1 ∧ okS (outS o v) := by
  rcases h with ⟨i, rfl, hi⟩ | ⟨c, rfl, hc⟩
  · refine ⟨rfl, ?_⟩
    show okS ⟨#[(cd o).getD i 0]⟩
    exact ok_sign ok (by omega)
  · exact ⟨rfl, ok_codes.mpr fun d hd => by
      have hd' : d ∈ [c] := hd
      rw [List.mem_singleton.mp hd']
      exact hc⟩
/-! ### promises -/
def φcells (K : PySem.W.Frag) : V → Hp → VK → Prop := fun x H Q => ∃ (F : Hp) (n : Nat) (rows : List CRow), Same F H ∧ Chg K F x n rows ∧ RowsOk n rows ∧ n ≤ 1000 ∧ ∀ p F2 H2, H p = none → W [] F H F2 H2 [mu p (.lst (cellsV rows))] → Q (.ref p) H2
def φlcells (K : PySem.W.Frag) : V → Hp → VK → Prop := fun x H Q => ∃ (F : Hp) (a : Addr) (vs : List V) (n : Nat) (rows : List CRow), x = .ref a ∧ Same F H ∧ SqL K F a vs ∧ DpAll K F vs (rows.map CRow.d) ∧ RowsOk n rows ∧ ∀ p F2 H2, H p = none → W [] F H F2 H2 [mu p (.lst (cellsV rows))] → Q (.ref p) H2
def φdoneC (K : PySem.W.Frag) : V → V → Hp → VK → Prop := fun x y H Q => ∃ (F : Hp) (o : Str) (rows : List CRow), y = .str o ∧ Same F H ∧ Chg K F x o.length rows ∧ RowsOk o.length rows ∧ okS o ∧ o.length ≤ 1000 ∧ ∀ s F2 H2, W [] F H F2 H2 [] → cd s = rows.flatMap (CRow.mk (cd o)) → okS s → Q (.str s) H2
def φldone (K : PySem.W.Frag) : V → V → Hp → VK → Prop := fun x y H Q => ∃ (F : Hp) (a : Addr) (cs : List V) (o : Str), x = .ref a ∧ y = .str o ∧ Same F H ∧ SqL K F a cs ∧ (∀ v ∈ cs, CellOk o.length v) ∧ cs.length ≤ 1000 ∧ okS o ∧ o.length ≤ 1000 ∧ ∀ s F2 H2, W [] F H F2 H2 [] → cd s = (cs.map (outS o)).flatMap cd → okS s → Q (.str s) H2
theorem len_app (a b : Str) : (a ++ b).length = a.length + b.length := by
  rw [← cd_len, ← cd_len, ← cd_len, ← List.length_append]
  congr 1
  exact TL.tl_append a b
/-! ### plain finds -/
end R
namespace R
open PySem PySem.StrLaws Builtin.Str L2
/-! ### cells of a change, and the fewest rows that give them -/
inductive Cel where
  | pl (i : Nat)
  | sg (c : Nat)
  deriving DecidableEq
def Cel.v : Cel → V
  | .pl i => .int (i : Nat)
  | .sg c => .str ⟨#[c]⟩
def Cel.ok (n : Nat) : Cel → Prop
  | .pl i => i < n
  | .sg c => c < 0x110000
def Cel.out (O : List Nat) : Cel → Nat
  | .pl i => O.getD i 0
  | .sg c => c
def Cel.w : Cel → Nat
  | .pl _ => 0
  | .sg _ => 1
def CRow.cels : CRow → List Cel
  | .put s => (cd s).map Cel.sg
  | .copy a n => (List.range n).map fun k => .pl (a + k)
abbrev celsL (rows : List CRow) : List Cel := rows.flatMap CRow.cels
theorem cels_v : ∀ rows : List CRow, cellsV rows = (celsL rows).map Cel.v
  | [] => rfl
  | r :: rows => by
    show r.cellV ++ cellsV rows = (r.cels ++ celsL rows).map Cel.v
    rw [List.map_append, ← cels_v rows]
    congr 1
    cases r with
    | put s =>
      show chars s = ((cd s).map Cel.sg).map Cel.v
      rw [List.map_map]
      rfl
    | copy a n =>
      show (List.range n).map _ = ((List.range n).map _).map Cel.v
      rw [List.map_map]
      rfl
theorem cels_len (rows : List CRow) : (celsL rows).length = givesL rows := by
  have h := cells_len rows
  rw [cels_v, List.length_map] at h
  exact h
theorem cel_cellok {n : Nat} {c : Cel} (h : c.ok n) : CellOk n c.v := by
  cases c with
  | pl i => exact .inl ⟨i, rfl, h⟩
  | sg c => exact .inr ⟨c, rfl, h⟩
theorem cels_ok {n : Nat} {rows : List CRow} (h : ∀ r ∈ rows, CRowOk n r) : ∀ c ∈ celsL rows, c.ok n := by
  intro c hc
  obtain ⟨r, hr, hc⟩ := List.mem_flatMap.mp hc
  have ro := h r hr
  cases r with
  | put s =>
    obtain ⟨d, hd, rfl⟩ := List.mem_map.mp hc
    exact ok_codes.mp ro.s.1 d hd
  | copy a k =>
    obtain ⟨j, hj, rfl⟩ := List.mem_map.mp hc
    have := List.mem_range.mp hj
    have hh : a + k ≤ n := ro.h
    show a + j < n
    omega
theorem out_cel (o : Str) (c : Cel) : outS o c.v = ⟨#[c.out (cd o)]⟩ := by
  cases c with
  | pl i => rfl
  | sg c => rfl
theorem outs_cels (o : Str) : ∀ cs : List Cel, ((cs.map Cel.v).map (outS o)).flatMap cd = cs.map (Cel.out (cd o))
  | [] => rfl
  | c :: cs => by
    rw [List.map_cons, List.map_cons, List.flatMap_cons, outs_cels o cs, out_cel]
    rfl
theorem mk_cels {o : Str} {rows : List CRow} (h : ∀ r ∈ rows, CRowOk o.length r) : rows.flatMap (CRow.mk (cd o)) = (celsL rows).map (Cel.out (cd o)) := by
  rw [← outs_rows o h, cels_v, outs_cels]
theorem cd_app (a b : Str) : cd (a ++ b) = cd a ++ cd b := TL.tl_append a b
def CRow.add : CRow → Cel → Option CRow
  | .copy a n, .pl i => if a + n = i then some (.copy a (n + 1)) else none
  | .put s, .sg c => some (.put (s ++ ⟨#[c]⟩))
  | _, _ => none
theorem row_le {rows : List CRow} {r : CRow} (h : r ∈ rows) : r.gives ≤ givesL rows := by
  induction rows with
  | nil => cases h
  | cons q rows ih =>
    show r.gives ≤ q.gives + givesL rows
    rcases List.mem_cons.mp h with rfl | h
    · omega
    · have := ih h
      omega
/-! ### back, and one behind the other -/
theorem cut_to_V (xs : List V) (k : Nat) : cutV xs none (some (k : Int)) = xs.take k := by
  unfold cutV
  rw [HT.sIx_none, HT.sIx_nat, List.drop_zero, Nat.sub_zero]
  by_cases h : k ≤ xs.length
  · rw [Nat.min_eq_left h]
  · rw [Nat.min_eq_right (by omega), List.take_of_length_le (by omega), List.take_of_length_le (by omega)]
theorem cut_from_V (xs : List V) (k : Nat) : cutV xs (some (k : Int)) none = xs.drop k := by
  unfold cutV
  rw [HT.sIx_none, HT.sIx_nat]
  by_cases h : k ≤ xs.length
  · rw [Nat.min_eq_left h]
    exact List.take_of_length_le (by rw [List.length_drop]; exact Nat.le_refl _)
  · rw [Nat.min_eq_right (by omega), Nat.sub_self, List.take_zero, List.drop_eq_nil_of_le (by omega)]
theorem dpa_takeN {K : PySem.W.Frag} {F : Hp} : ∀ {vs : List V} {ds : List PyData} (n : Nat), DpAll K F vs ds → DpAll K F (vs.take n) (ds.take n)
  | _, _, 0, _ => by rw [List.take_zero, List.take_zero]; exact .nil
  | _, _, n + 1, .nil => by rw [List.take_nil, List.take_nil]; exact .nil
  | _, _, n + 1, .cons h t => .cons h (dpa_takeN n t)
theorem dpa_dropN {K : PySem.W.Frag} {F : Hp} : ∀ {vs : List V} {ds : List PyData} (n : Nat), DpAll K F vs ds → DpAll K F (vs.drop n) (ds.drop n)
  | _, _, 0, h => h
  | _, _, n + 1, .nil => by rw [List.drop_nil, List.drop_nil]; exact .nil
  | _, _, n + 1, .cons h t => dpa_dropN n t
def Cel.d : Cel → PyData
  | .pl i => .int (i : Nat)
  | .sg c => .str ⟨#[c]⟩
theorem dpa_cels {K : PySem.W.Frag} {F : Hp} : ∀ cs : List Cel, DpAll K F (cs.map Cel.v) (cs.map Cel.d)
  | [] => .nil
  | .pl i :: cs => .cons (.int _) (dpa_cels cs)
  | .sg c :: cs => .cons (.str _) (dpa_cels cs)
theorem cels_good {cs : List Cel} {n : Nat} (h : ∀ c ∈ cs, c.ok n) (hl : cs.length ≤ 100000) : good (.list (cs.map Cel.d)) = true ∧ (PyData.list (cs.map Cel.d)).depth ≤ 1 := by
  constructor
  · refine good_list (by rw [List.length_map]; exact hl) fun d hd => ?_
    obtain ⟨c, hc, rfl⟩ := List.mem_map.mp hd
    cases c with
    | pl i => rfl
    | sg c =>
      refine str_good (ok_codes.mpr fun e he => ?_) (by show 1 ≤ _; decide)
      have he' : e ∈ [c] := he
      rw [List.mem_singleton.mp he']
      exact h _ hc
  · refine depth_list fun d hd => ?_
    obtain ⟨c, hc, rfl⟩ := List.mem_map.mp hd
    cases c <;> exact Nat.le_refl _
/-! ### promises -/
def CRow.vals : CRow → List V
  | .put s => [.str "put", .str s]
  | .copy a n => [.str "copy", .int (a : Nat), .int (n : Nat)]
/-! d.setdefault(k, x), d.get(k, x) with keys that are numbers -/
def φceq (K : PySem.W.Frag) : V → V → Hp → VK → Prop := fun x y H Q => ∃ (F : Hp) (n : Nat) (rows : List CRow), Same F H ∧ Chg K F x n rows ∧ Chg K F y n rows ∧ RowsOk n rows ∧ ∀ F2 H2, W [] F H F2 H2 [] → Q (.bl true) H2
end R
namespace R
open PySem PySem.StrLaws Builtin.Str L2
/-! ### a sign so many times -/
/-! ### == of cells -/
theorem ix_nat {n i : Nat} (h : i < n) : ixN n (i : Int) = some i := by
  unfold ixN
  rw [if_pos (by omega), if_pos (by omega)]
  simp
/-! ### promises -/
end R
namespace R
open PySem PySem.Spec PyProof.Rows L2
/-! ### defs that raise an own exception, caught by except of its class -/
def SX1 (φ : V → Hp → VK → XK → Prop) : Sp := fun vs H Q E => match vs with | [x] => φ x H Q E | _ => False
def SX2 (φ : V → V → Hp → VK → XK → Prop) : Sp := fun vs H Q E => match vs with | [x, y] => φ x y H Q E | _ => False
def SX3 (φ : V → V → V → Hp → VK → XK → Prop) : Sp := fun vs H Q E => match vs with | [x, y, z] => φ x y z H Q E | _ => False
theorem SX1.len {φ : V → Hp → VK → XK → Prop} {vs : List V} {H : Hp} {Q : VK} {E : XK} (h : SX1 φ vs H Q E) : vs.length = 1 := by
  match vs, h with
  | [_], _ => rfl
theorem SX2.len {φ : V → V → Hp → VK → XK → Prop} {vs : List V} {H : Hp} {Q : VK} {E : XK} (h : SX2 φ vs H Q E) : vs.length = 2 := by
  match vs, h with
  | [_, _], _ => rfl
theorem SX3.len {φ : V → V → V → Hp → VK → XK → Prop} {vs : List V} {H : Hp} {Q : VK} {E : XK} (h : SX3 φ vs H Q E) : vs.length = 3 := by
  match vs, h with
  | [_, _, _], _ => rfl
/-- an own class of exceptions over ValueError, without own __init__ -/
structure EC (K : PySem.W.Frag) (mg : Str → Option Value) (C : Str) : Prop where
  g : mg C = some (.ref (He.ga K C))
  x : PySem.W.excIn K (He.ga K C) He.veBase "ValueError.__new__" = true
  k : PySem.W.keepIn K (.ref (He.ga K C)) = true
  s : PySem.W.subIn K (.ref (He.ga K C)) (.type "BaseException") = some true
  t : PySem.W.typeIn K (.ref (He.ga K C)) = some (.type "type")
  m : PySem.W.exmOne K (.ref (He.ga K C)) (.ref (He.ga K C)) = some true
theorem ec_ok {K : PySem.W.Frag} {mg : Str → Option Value} {C : Str} (g : mg C = some (.ref (He.ga K C)))
    (h : PySem.W.excIn K (He.ga K C) He.veBase "ValueError.__new__" = true ∧ PySem.W.keepIn K (.ref (He.ga K C)) = true ∧ PySem.W.subIn K (.ref (He.ga K C)) (.type "BaseException") = some true ∧ PySem.W.typeIn K (.ref (He.ga K C)) = some (.type "type"))
    (m : PySem.W.exmOne K (.ref (He.ga K C)) (.ref (He.ga K C)) = some true) : EC K mg C := ⟨g, h.1, h.2.1, h.2.2.1, h.2.2.2, m⟩
theorem PS.nox {X : Cx} {st : Stmt} {t : TS} (h : PS X.nox st t) : PS X st t := ⟨fun pins s σ H D I hw =>
  wpAny_mono (h.run pins s σ H D (I.wish _) hw) (fun _ _ q => q.unwish) fun _ _ z => False.elim z⟩
section
variable {X : Cx} {CX : CXT} {k j : Nat} {f C : Addr} {fd : FuncData} {ps : List Str} {sp : Sp} {E : L2.St → XK} {x m : Str} {p pos apos : Pos} {e o : Expr} {es : List Expr} {ta : TE} {t : TA} {W : WX} {pl : Sem Bool}
def tMethS (C : Addr) (m : Str) (sp : Sp) (E : L2.St → XK) (ta : TE) (t : TA) : TE := fun σ H Q => ta σ H fun x H1 => ∃ a dx fs, x = .ref a ∧ H1 a = some (.ins C dx fs) ∧ fs.lookup m = none ∧ t σ H1 fun vs H2 => sp (x :: vs) H2 Q (E σ)
/-- raise C('..') -/
def tRaiseO (K : PySem.W.Frag) (C : Str) (W : WX) : TS := fun _ σ H => W (.ref (He.ga K C)) none σ H
theorem ps_raiseO {C : Str} {z : Str} {jj : Nat} {p2 pos3 : Pos} (c : EC X.K X.mg C) (tk : Takes X W) (hc : X.calm = true) (hg : Gl X C := by rfl) (hdb : (C == ("__debug__" : Str)) = false := by decide) :
    PS X (.Raise (some (.Call (.Name C p) [.Constant (.str z) jj p2] [] pos)) none pos3) (tRaiseO X.K C W) :=
  ps_raise hc tk (pmk_own PySem.F.excBase_ValueError c.x c.g c.k (raises_own c.s c.t) hg hdb)
/-- try: .. except C: .. -/
def wTry (K : PySem.W.Frag) (C : Addr) (ts : TS) (D : Ends) : WX := wOnly K (.ref C) (fun _ _ _ => ts) (fun _ _ _ _ => False) D
def tTry (K : PySem.W.Frag) (C : Addr) (tb : WX → TS) (ts : TS) : TS := fun D σ H => tb (wTry K C ts D) D σ H
end
section
variable {K : PySem.W.Frag} {mg : Str → Option Value} {σ : L2.St} {H : Hp} {Q : VK} {E : XK} {C : Str} {D : Ends} {W : WX} {tb : WX → TS} {ts : TS} {sp : Sp} {m : Str} {ta : TE} {t : TA} {Cc : Addr} {EE : L2.St → XK}
theorem x_try (q : tb (wTry K Cc ts D) D σ H) : tTry K Cc tb ts D σ H := q
instance : Step (tTry K Cc tb ts D σ H) (tb (wTry K Cc ts D) D σ H) := ⟨x_try⟩ -- st
theorem x_callS (q : t σ H fun vs H1 => sp vs H1 Q (EE σ)) : tCallS sp EE t σ H Q := q
instance : Step (tCallS sp EE t σ H Q) (t σ H fun vs H1 => sp vs H1 Q (EE σ)) := ⟨x_callS⟩ -- st
theorem x_methS (q : ta σ H fun x H1 => mthG Cc m x H1 (t σ H1 fun vs H2 => sp (x :: vs) H2 Q (EE σ))) : tMethS Cc m sp EE ta t σ H Q := by
  unfold tMethS
  refine cast ?_ q
  congr 1
  funext x H1
  unfold mthG
  refine propext ⟨?_, ?_⟩
  · rintro ⟨⟨a, dx, fs, h1, h2, h3⟩, h4⟩
    exact ⟨a, dx, fs, h1, h2, h3, h4⟩
  · rintro ⟨a, dx, fs, h1, h2, h3, h4⟩
    exact ⟨⟨a, dx, fs, h1, h2, h3⟩, h4⟩
instance : Step (tMethS Cc m sp EE ta t σ H Q) (ta σ H fun x H1 => mthG Cc m x H1 (t σ H1 fun vs H2 => sp (x :: vs) H2 Q (EE σ))) := ⟨x_methS⟩ -- st
theorem x_raise (q : W (.ref (He.ga K C)) none σ H) : tRaiseO K C W D σ H := q
instance : Step (tRaiseO K C W D σ H) (W (.ref (He.ga K C)) none σ H) := ⟨x_raise⟩ -- st
end
/-! ### promises -/
end R
namespace R
open PySem L2
/-! ### the first place of a cell -/
/-! ### promises of the laws that catch BadSize -/
end R
namespace R
open PySem L2
/-! ### told lists of cells, each beside what was due -/
/-! ### promises of k02 -/
end R
namespace R
open PySem PySem.Spec PyProof.Rows L2 PySem.W
/-! ### str(x) by an own __str__ -/
section
variable {prog : Program} {w : World} {A : Around} {E : Value → Shared → Prop} {s : Shared} {K : PySem.W.Frag} {x C f : Addr} {ox : Obj} {od : Option Obj}
theorem plain_str_new : plainId "str.__new__" = true := by decide +kernel
theorem strOf_K {Q : Value → Shared → Prop} (hu : A.units < cLine) (X : K.In s.heap) (I : InstAt s.heap x ox C od) (hs : findIn K (.ref C) "__str__" = some (some (.ref f))) (hf : isFn K (.ref f) = true)
    (h : wpAny (model prog w) A (call (.ref f) [.ref x]) (StrBack Q) E s) : wpAny (model prog w) A (Builtin.Str.strOf (.ref x)) Q E s := by
  unfold Builtin.Str.strOf
  rw [show Builtin.Str.isExactStr (.ref x) = false from rfl]
  show wpAny _ _ (cRoomFor "str" [.ref x] >>= _) _ _ _
  refine wpAny_bind (wpAny_cRoomFor hu ?_)
  refine wpAny_bind (m := callSpecial? (.ref x) (Str.ofString "__str__")) (special_fn X I hs (beq_iff_eq.mp hf) (wpAny_mono h (fun r s' hr => ?_) fun _ _ y => y))
  cases r <;> first | exact hr.elim | skip
  exact wpAny_pure hr
theorem code_str_new {Q₁ : Value → Shared → Prop} (hu : A.units + 1 < cLine) (X : K.In s.heap) (I : InstAt s.heap x ox C od) (hs : findIn K (.ref C) "__str__" = some (some (.ref f))) (hf : isFn K (.ref f) = true)
    (h : wpAny (model prog w) A.in1 (call (.ref f) [.ref x]) (StrBack Q₁) E s) : codeAny (model prog w) A (.call (.builtin "str.__new__") ⟨[.type "str", .ref x], []⟩) (wants Q₁ E) s := by
  refine codeAny_of_tree ?_
  show wpAny _ A.in1 (do checkBuiltinCall "str.__new__" ⟨[.type "str", .ref x], []⟩; again (.builtin "str.__new__" ⟨[.type "str", .ref x], []⟩)) _ _ s
  refine wpAny_bind (wpAny_of_eq (F.newCall_str_1 _) (wpAny_pure ⟨plainId_quiet plain_str_new _, codeAny_builtin F.entry_str_new ?_⟩))
  rw [Around.under_plainId plain_str_new _]
  rw [str_new_tree]
  refine wpAny_bind (wpAny_pure ?_)
  refine wpAny_bind (wpAny_of_eq isSubtype_str_str ?_)
  refine wpAny_bind (wpAny_mono (strOf_K (A := A.in1) hu X I hs hf h) (fun r s' h' => wpAny_pure ?_) fun _ _ e => e)
  exact h'
theorem str_own {Q : Value → Shared → Prop} (hu : A.units + 2 < cLine) (X : K.In s.heap) (I : InstAt s.heap x ox C od) (hs : findIn K (.ref C) "__str__" = some (some (.ref f))) (hf : isFn K (.ref f) = true)
    (h : wpAny (model prog w) A.in1.in1 (call (.ref f) [.ref x]) (StrBack Q) E s) : wpAny (model prog w) A (call (.type "str") [.ref x]) Q E s := by
  refine callType_codes (Q₁ := fun obj s₁ => s₁.TypeIs obj "str" ∧ Q obj s₁) F.called_str (F.typeCall_str_1 _) F.entry_object_init
    (code_str_new (A := A.in1) hu X I hs hf (wpAny_mono h (fun r s' hr => ?_) fun _ _ e => e)) fun obj s₁ h₁ => ?_
  · cases r <;> first | exact hr.elim | skip
    exact ⟨typeIs_str _ _ _, hr⟩
  · exact ⟨h₁.1, F.args_object_init_2 obj _, object_init_meets F.called_str.init.lookup F.called_str.made (by decide) prog w A.in1 _ s₁ ⟨h₁.1, rfl, h₁.2⟩⟩
end
/-- what str(x), f'{x}' ask of an own class -/
def strB (K : PySem.W.Frag) (C : Str) : Bool := spcB K C "__str__" && (eqV2 (PySem.W.findIn K (.ref (He.ga K C)) "__format__") (some (some (.builtin "object.__format__"))) && decide (PySem.W.mroIn K (He.ga K C) (.type "object") = some true))
structure StrC (K : PySem.W.Frag) (C : Str) : Prop where
  f : PySem.W.findIn K (.ref (He.ga K C)) "__format__" = some (some (.builtin "object.__format__"))
  o : PySem.W.mroIn K (He.ga K C) (.type "object") = some true
theorem strB_ok {K : PySem.W.Frag} {C : Str} (h : strB K C = true) : StrC K C := by
  unfold strB at h
  simp only [Bool.and_eq_true, eqV2, decide_eq_true_eq] at h
  exact ⟨h.2.1, h.2.2⟩
section
variable {X : Cx} {K : PySem.W.Frag} {k : Nat} {C : Str} {ps : List Str} {sp : Sp}
def aftS (Q : VK) : VK := fun v H2 => ∃ z : Str, v = .str z ∧ Q (.str z) H2
/-- str(x) by an own __str__ -/
def rStrO (C : Addr) (sp : Sp) : List V → Hp → VK → Prop := fun xs H Q => ∃ a dx fs, xs = [.ref a] ∧ H a = some (.ins C dx fs) ∧ sp [.ref a] H (aftS Q) E0
theorem clStrO (D : DM X.prog X.w X.K X.mg X.base k C "__str__" ps [] sp) {j : Nat} (hr : Room j X.A) (hj : k + 2 ≤ j) : CallR X (.type "str") (rStrO (He.ga X.K C) sp) := by
  obtain ⟨fd, ds, F, c, _, hb, hv⟩ := D.ex
  cases hv
  intro pins s σ H xs us Q I r h
  obtain ⟨a, dx, fs, rfl, ha, q⟩ := h
  rw [Vals.ref1 r]
  obtain ⟨mA, J, _⟩ := ins_get I.hok ha
  obtain ⟨od, J, _⟩ := J.look
  have e0 : Env0 X.prog X.w X.K X.mg X.base X.A.in1.in1 X.stack s H := by
    have e := I.env0
    exact ⟨e.frames, e.mod, e.bs, e.bsz, e.funs, e.frf, e.hok, e.bare⟩
  have hl := F.len _ _ _ _ q
  refine str_own (by have := hr.un; omega) I.kIn J c.at_ c.fn ?_
  refine wpAny_call (codeAny_mono (F.run X.A.in1.in1 X.stack s H ⟨[.ref a], []⟩ [.ref a] [.ref a] _ E0 (hr.mono hj).in1.in1 e0 (by
    have := hb s [.ref a] I.kIn (by simpa using hl)
    simpa using this) (.cons rfl .nil) q) fun r s' hq => ?_)
  cases r with
  | error e => exact pass0 pins σ H s e s' I hq
  | ok fl =>
    cases fl with
    | ret w =>
      obtain ⟨z, H', I', rz, n, ez, q⟩ := I.after hq
      subst ez
      obtain ⟨t, rfl⟩ := rz
      exact ⟨.str n, H', I', ⟨_, rfl⟩, q⟩
    | next => exact False.elim hq
    | brk => exact False.elim hq
    | cont => exact False.elim hq
/-- {x} of an own instance -/
def tFmtO (C : Addr) (sp : Sp) (te : TE) : TE := fun σ H Q => te σ H fun x H1 => ∃ a dx fs, x = .ref a ∧ H1 a = some (.ins C dx fs) ∧ sp [.ref a] H1 (aftS Q) E0
end
section
variable {σ : L2.St} {H : Hp} {Q : VK} {te : TE} {C : Addr} {m : Nat} {sp : Sp} {gV : List V → List V → List V} {E : XK} {tk : TA} {ts : List TE} {acc y : Str} {x : V} {R : Str → Hp → Prop} {i : Int}
def fmtG (x : V) (H1 : Hp) (Q : VK) : Prop := (∃ y : Str, x = .str y ∧ y.length ≤ sizeLine ∧ Q (.str y) H1) ∨ ∃ i : Int, x = .int i ∧ i.natAbs.log2 < 1920 ∧ Q (.str (toString i)) H1
theorem x_fmt (q : te σ H fun x H1 => fmtG x H1 Q) : tFmt te σ H Q := q
instance : Step (tFmt te σ H Q) (te σ H fun x H1 => fmtG x H1 Q) := ⟨x_fmt⟩ -- st
theorem n_fmtI (h : i.natAbs.log2 < 1920) (q : Q (.str (toString i)) H) : fmtG (.int i) H Q := .inr ⟨i, rfl, h, q⟩
def fmtGO (C : Addr) (sp : Sp) (x : V) (H1 : Hp) (Q : VK) : Prop := ∃ a dx fs, x = .ref a ∧ H1 a = some (.ins C dx fs) ∧ sp [.ref a] H1 (aftS Q) E0
theorem x_fmtO (q : te σ H fun x H1 => fmtGO C sp x H1 Q) : tFmtO C sp te σ H Q := q
instance : Step (tFmtO C sp te σ H Q) (te σ H fun x H1 => fmtGO C sp x H1 Q) := ⟨x_fmtO⟩ -- st
theorem n_strO {a dx : Addr} {fs : List (Str × V)} (h : H a = some (.ins C dx fs)) (q : sp [.ref a] H (aftS Q) E0) : rStrO C sp [.ref a] H Q := ⟨a, dx, fs, rfl, h, q⟩
def jsG (ts : List TE) (acc : Str) (σ : L2.St) (x : V) (H1 : Hp) (R : Str → Hp → Prop) : Prop := ∃ y : Str, x = .str y ∧ (acc ++ y).length ≤ sizeLine ∧ tJs ts (acc ++ y) σ H1 R
theorem x_js (q : te σ H fun x H1 => jsG ts acc σ x H1 R) : tJs (te :: ts) acc σ H R := q
instance : Step (tJs (te :: ts) acc σ H R) (te σ H fun x H1 => jsG ts acc σ x H1 R) := ⟨x_js⟩ -- st
theorem x_js0 (q : R acc H) : tJs [] acc σ H R := q
instance : Step (tJs [] acc σ H R) (R acc H) := ⟨x_js0⟩ -- st
theorem n_js (h : (acc ++ y).length ≤ sizeLine) (q : tJs ts (acc ++ y) σ H R) : jsG ts acc σ (.str y) H R := ⟨y, rfl, h, q⟩
/-- an instance made by keywords alone -/
def makKG (C : Addr) (sp : Sp) (gV : List V → List V → List V) (zs : List V) (E : XK) (H : Hp) (Q : VK) : Prop := ∀ x dx, H x = none → H dx = none → dx ≠ x → sp (gV [.ref x] zs) (upd (upd H dx (.own x)) x (.ins C dx [])) (aftG Q x) E
theorem x_makeK0 (q : tk σ H fun zs H2 => zs.length = m ∧ makKG C sp gV zs E H2 Q) : tMakeK C 0 m sp gV E tNil tk σ H Q := by
  show tk σ H _
  refine cast ?_ q
  congr 1
  funext zs H2
  refine propext ⟨?_, ?_⟩
  · rintro ⟨h1, h3⟩
    exact ⟨rfl, h1, fun x dx a b c => h3 x dx a b c⟩
  · rintro ⟨_, h1, h3⟩
    exact ⟨h1, fun x dx a b c => h3 x dx a b c⟩
instance : Step (tMakeK C 0 m sp gV E tNil tk σ H Q) (tk σ H fun zs H2 => zs.length = m ∧ makKG C sp gV zs E H2 Q) := ⟨x_makeK0⟩ -- st
end
end R
namespace R
open PySem L2
/-! ### the writing of a change -/
def numS (n : Nat) : Str := Str.ofString (toString ((n : Nat) : Int))
def smallNum (n : Nat) : Bool := (numS n).cps.all (· < 0x110000) && decide ((numS n).length ≤ 3)
theorem nums_small : ∀ n, n < 401 → smallNum n = true := by decide +kernel
theorem num_ok {n : Nat} (h : n ≤ 400) : okS (numS n) ∧ (numS n).length ≤ 3 := by
  have := nums_small n (by omega)
  unfold smallNum at this
  rw [Bool.and_eq_true, decide_eq_true_eq] at this
  exact this
theorem num_log {n : Nat} (h : n ≤ 400) : ((n : Nat) : Int).natAbs.log2 < 1920 := by
  have : ((n : Nat) : Int).natAbs = n := by simp
  rw [this]
  by_cases h0 : n = 0
  · rw [h0]
    decide
  · exact (Nat.log2_lt h0).mpr (Nat.lt_of_le_of_lt h (by decide +kernel : 400 < 2 ^ 1920))
def rowW : CRow → List Nat
  | .put s => cd (Str.ofString "put ") ++ cd s
  | .copy a n => cd (Str.ofString "copy ") ++ cd (numS a) ++ cd (Str.ofString " ") ++ cd (numS n)
def rowsW (rows : List CRow) : List Nat := rows.flatMap fun r => 10 :: rowW r
def writL (n : Nat) (rows : List CRow) : List Nat := (cd (Str.ofString "size ") ++ cd (numS n)) ++ rowsW rows
theorem len_put : (cd (Str.ofString "put ")).length = 4 := by decide +kernel
theorem len_copy : (cd (Str.ofString "copy ")).length = 5 := by decide +kernel
theorem len_size : (cd (Str.ofString "size ")).length = 5 := by decide +kernel
theorem len_sp : (cd (Str.ofString " ")).length = 1 := by decide +kernel
theorem nl_cd : cd (Str.ofString "\n") = [10] := by decide +kernel
theorem row_len {r : CRow} {n : Nat} (h : CRowOk n r) (hn : n ≤ 400) : (rowW r).length ≤ 12 + r.gives := by
  cases r with
  | put s =>
    show (cd (Str.ofString "put ") ++ cd s).length ≤ 12 + s.length
    rw [List.length_append, len_put, cd_len]
    omega
  | copy a m =>
    have h1 : a + m ≤ n := h.h
    have h2 := (num_ok (n := a) (by omega)).2
    have h3 := (num_ok (n := m) (by omega)).2
    show (cd (Str.ofString "copy ") ++ cd (numS a) ++ cd (Str.ofString " ") ++ cd (numS m)).length ≤ _
    rw [List.length_append, List.length_append, List.length_append, len_copy, len_sp, cd_len, cd_len]
    omega
theorem okc {z : Str} (h : okS z) : ∀ c ∈ cd z, c < 0x110000 := ok_codes.mp h
theorem ok_lit1 : ∀ c ∈ cd (Str.ofString "put "), c < 0x110000 := by decide +kernel
theorem ok_lit2 : ∀ c ∈ cd (Str.ofString "copy "), c < 0x110000 := by decide +kernel
theorem ok_lit3 : ∀ c ∈ cd (Str.ofString "size "), c < 0x110000 := by decide +kernel
theorem ok_lit4 : ∀ c ∈ cd (Str.ofString " "), c < 0x110000 := by decide +kernel
theorem row_okc {r : CRow} {n : Nat} (h : CRowOk n r) (hn : n ≤ 400) : ∀ c ∈ rowW r, c < 0x110000 := by
  intro c hc
  cases r with
  | put s =>
    rcases List.mem_append.mp hc with hc | hc
    · exact ok_lit1 c hc
    · exact okc h.s.1 c hc
  | copy a m =>
    have h1 : a + m ≤ n := h.h
    rcases List.mem_append.mp hc with hc | hc
    · rcases List.mem_append.mp hc with hc | hc
      · rcases List.mem_append.mp hc with hc | hc
        · exact ok_lit2 c hc
        · exact okc (num_ok (n := a) (by omega)).1 c hc
      · exact ok_lit4 c hc
    · exact okc (num_ok (n := m) (by omega)).1 c hc
theorem wrows_len {n : Nat} (hn : n ≤ 400) : ∀ {rows : List CRow}, (∀ r ∈ rows, CRowOk n r) → (rowsW rows).length ≤ 13 * rows.length + givesL rows
  | [], _ => Nat.le_refl _
  | r :: rows, h => by
    have h1 := row_len (h r (List.mem_cons_self ..)) hn
    have h2 := wrows_len hn (rows := rows) fun q hq => h q (List.mem_cons_of_mem _ hq)
    show ((10 :: rowW r) ++ rowsW rows).length ≤ 13 * (rows.length + 1) + givesL (r :: rows)
    have h3 : givesL (r :: rows) = r.gives + givesL rows := rfl
    rw [List.length_append, List.length_cons, h3]
    omega
theorem wrows_okc {n : Nat} {rows : List CRow} (hn : n ≤ 400) (h : ∀ r ∈ rows, CRowOk n r) : ∀ c ∈ rowsW rows, c < 0x110000 := by
  intro c hc
  obtain ⟨r, hr, hc⟩ := List.mem_flatMap.mp hc
  rcases List.mem_cons.mp hc with rfl | hc
  · decide
  · exact row_okc (h r hr) hn c hc
theorem writ_len {n : Nat} {rows : List CRow} (hn : n ≤ 400) (ok : RowsOk n rows) : (writL n rows).length ≤ 6000 := by
  have h1 := wrows_len hn ok.ok
  have h2 := ok.len
  have h3 := ok.sum
  have h4 := (num_ok hn).2
  unfold writL
  rw [List.length_append, List.length_append, len_size, cd_len]
  omega
theorem writ_ok {n : Nat} {rows : List CRow} {s : Str} (hn : n ≤ 400) (ok : RowsOk n rows) (h : cd s = writL n rows) : okS s ∧ s.length ≤ 6000 := by
  refine ⟨ok_codes.mpr fun c hc => ?_, by rw [← cd_len, h]; exact writ_len hn ok⟩
  rw [h] at hc
  rcases List.mem_append.mp hc with hc | hc
  · rcases List.mem_append.mp hc with hc | hc
    · exact ok_lit3 c hc
    · exact okc (num_ok hn).1 c hc
  · exact wrows_okc hn ok.ok c hc
theorem rowsW_take {rows : List CRow} {i : Nat} {r : CRow} (h : rows[i]? = some r) : rowsW (rows.take (i + 1)) = rowsW (rows.take i) ++ (10 :: rowW r) := by
  unfold rowsW
  rw [List.take_add_one, h, List.flatMap_append]
  show _ ++ ((10 :: rowW r) ++ []) = _
  rw [List.append_nil]
theorem rowsW_le {n : Nat} {rows : List CRow} (hn : n ≤ 400) (ok : RowsOk n rows) (i : Nat) : (rowsW (rows.take i)).length ≤ 6000 := by
  have h1 := wrows_len hn (rows := rows.take i) fun r hr => ok.ok r (List.mem_of_mem_take hr)
  have h2 := ok.len
  have h3 := ok.sum
  have h4 := gives_le rows i
  have h5 : (rows.take i).length ≤ rows.length := by rw [List.length_take]; omega
  omega
theorem joinL_nl (a : List Nat) : ∀ l : List (List Nat), TL.joinL [10] (a :: l) = a ++ l.flatMap fun t => 10 :: t := by
  intro l
  induction l generalizing a with
  | nil => simp [TL.joinL]
  | cons b l ih =>
    rw [TL.joinL, ih]
    simp
theorem join_nl (t : Str) (ts : List Str) : cd (Txt.join (Str.ofString "\n") (t :: ts)) = cd t ++ (ts.map cd).flatMap fun c => 10 :: c := by
  have e : TL.tl (Txt.join (Str.ofString "\n") (t :: ts)) = TL.joinL [10] ((t :: ts).map TL.tl) := by
    rw [TL.join_eq, TL.tl_join]
    first | rfl | (congr 1; done) | (congr 1; exact nl_cd)
  refine e.trans ?_
  rw [List.map_cons, joinL_nl]
  try rfl
theorem sum_le {l : List Str} {m : Nat} (h : ∀ t ∈ l, t.length ≤ m) : (l.map (·.length)).sum ≤ l.length * m := by
  induction l with
  | nil => exact Nat.zero_le _
  | cons a l ih =>
    have h1 := h a (List.mem_cons_self ..)
    have h2 := ih fun t ht => h t (List.mem_cons_of_mem _ ht)
    rw [List.map_cons, List.sum_cons, List.length_cons, Nat.succ_mul]
    omega
theorem slen_copy : (Str.ofString "copy ").length = 5 := by decide +kernel
theorem slen_size : (Str.ofString "size ").length = 5 := by decide +kernel
theorem slen_sp : (Str.ofString " ").length = 1 := by decide +kernel
theorem slen_nl : (Str.ofString "\n").length = 1 := by decide +kernel
theorem slen_e : Str.empty.length = 0 := rfl
theorem cd_e : cd Str.empty = [] := rfl
/-! ### promises -/
def φrowtext (K : PySem.W.Frag) : V → Hp → VK → Prop := fun x H Q => ∃ (F : Hp) (r : CRow) (n : Nat), Same F H ∧ Dp K F x r.d ∧ CRowOk n r ∧ n ≤ 400 ∧ ∀ s F2 H2, W [] F H F2 H2 [] → cd s = rowW r → Q (.str s) H2
def φstr (K : PySem.W.Frag) : V → Hp → VK → Prop := fun x H Q => ∃ (F : Hp) (n : Nat) (rows : List CRow), Same F H ∧ Chg K F x n rows ∧ RowsOk n rows ∧ n ≤ 400 ∧ ∀ s F2 H2, W [] F H F2 H2 [] → cd s = writL n rows → Q (.str s) H2
end R
namespace R
open PySem PySem.Spec PyProof.Rows L2
/-! ### list(reversed(a list)) -/
section
variable {X : Cx} {K : PySem.W.Frag}
def tListRev (K : PySem.W.Frag) (te : TE) : TE := fun σ H Q => te σ H fun v H1 => ∃ (a : Addr) (xs : List V), v = .ref a ∧ SqL K H1 a xs ∧ ∀ q, H1 q = none → Q (.ref q) (upd H1 q (.lst xs.reverse))
end
section
variable {K : PySem.W.Frag} {M : List Addr} {F0 H0 F H : Hp} {L : List Own} {σ : L2.St} {Q : VK} {te : TE} {a : Addr} {xs : List V}
def lrvG (K : PySem.W.Frag) (v : V) (H1 : Hp) (Q : VK) : Prop := ∃ (a : Addr) (xs : List V), v = .ref a ∧ SqL K H1 a xs ∧ ∀ q, H1 q = none → Q (.ref q) (upd H1 q (.lst xs.reverse))
theorem x_lrv (q : te σ H fun v H1 => lrvG K v H1 Q) : tListRev K te σ H Q := q
instance : Step (tListRev K te σ H Q) (te σ H fun v H1 => lrvG K v H1 Q) := ⟨x_lrv⟩ -- st
end
end R
namespace R
open PySem L2
/-! ### changes one behind the other -/
/-! ### a list of changes -/
def ChgAll (K : PySem.W.Frag) (F : Hp) (vs : List V) (txs : List Str) (rss : List (List CRow)) : Prop := vs.length = rss.length ∧ ∀ (i : Nat) (v : V) (t : Str) (rs : List CRow), vs[i]? = some v → txs[i]? = some t → rss[i]? = some rs → Chg K F v t.length rs
theorem ChgAll.same {K : PySem.W.Frag} {F F2 : Hp} {vs : List V} {txs : List Str} {rss : List (List CRow)} (s : Same F F2) (h : ChgAll K F vs txs rss) : ChgAll K F2 vs txs rss := ⟨h.1, fun i v t rs h1 h2 h3 => (h.2 i v t rs h1 h2 h3).same s⟩
/-! ### loops over reversed(range(n)), is of bools -/
section
variable {K : PySem.W.Frag} {M : List Addr} {F0 H0 F H : Hp} {L L1 : List Own} {σ : L2.St} {g : TG} {tbody : TS} {nx bk ct : L2.St → Hp → Prop} {rt Q : VK}
def rvG (a b : Int) (H1 : Hp) (R : It → Hp → Prop) : Prop := -(2 ^ 62) ≤ a ∧ a < 2 ^ 62 ∧ -(2 ^ 62) ≤ b ∧ b < 2 ^ 62 ∧ R (Itc (a + (((b - a).toNat : Nat) : Int) - 1) (-1) (b - a).toNat) H1
theorem x_revR {ta : TE} {R : It → Hp → Prop} (q : ta σ H fun x H1 => ∃ n, x = .int n ∧ rvG 0 n H1 R) : iRevR (tRg1 ta) σ H R := q
instance {ta : TE} {R : It → Hp → Prop} : Step (iRevR (tRg1 ta) σ H R) (ta σ H fun x H1 => ∃ n, x = .int n ∧ rvG 0 n H1 R) := ⟨x_revR⟩ -- st
theorem n_isB {a b : Bool} (q : Q (.bl (decide (a = b))) H) : rIsB (.bl a) (.bl b) H Q := ⟨a, b, rfl, rfl, q⟩
instance {a b : Bool} : Step (rIsB (.bl a) (.bl b) H Q) (Q (.bl (decide (a = b))) H) := ⟨n_isB⟩ -- st
theorem n_notB {a b : Bool} (q : Q (.bl (!decide (a = b))) H) : rNotB (.bl a) (.bl b) H Q := ⟨a, b, rfl, rfl, q⟩
instance {a b : Bool} : Step (rNotB (.bl a) (.bl b) H Q) (Q (.bl (!decide (a = b))) H) := ⟨n_notB⟩ -- st
end
/-! ### promises of k09 -/
end R
namespace R
open PySem PySem.Spec PyProof.Rows L2
/-! ### xs.insert(i, y) -/
end R
/-! ### own exceptions with a field, over a built-in class that the kit's rules for ValueError leave out -/
namespace R
section
open PySem PySem.W PySem.Calls PyProof.Rows PySem.HandSPX Builtin Builtin.ObjectAttr
/-- what a built-in class is known by -/
structure XBase (B newId initId : String) (tail : List Value) : Prop where
  f : ExcBaseFacts B newId initId tail
  s : StoreFacts B tail "object.__setattr__" "object"
  o : tail.contains (.type "object") = true
theorem xb_ValueError : XBase "ValueError" "ValueError.__new__" "ValueError.__init__" veTail := ⟨PySem.F.excBase_ValueError, PySem.F.store_ValueError, by decide +kernel⟩
variable {prog : Program} {w : World} {A : Around} {R : Result → Shared → Prop} {hp : Heap} {gs : Array GenState} {dr : Drawn} {n0 : Nat} {oss : OsState}
theorem xf_osa {B newId initId : String} {tail : List Value} {K : W.Frag} {z : Str} {tk : Tok} {v : Value} {x C : Addr} {fv : Array Value} {cd : ClassData} (XB : XBase B newId initId tail)
    (kin : K.In hp) (ox : hp.get? x = some { cls := .ref C, data := .fields fv }) (cdC : W.clsIn K C = some cd) (hm : cd.mro = .ref C :: tail) (hasD : cd.hasDict = true) (no : W.findIn K (.ref C) z = some none)
    (fin : ∀ h2 tk2 dx, (∀ b o, b ≠ x → hp.get? b = some o → h2.get? b = some o) → hp.objs.size ≤ dx → dx ≠ x → h2.get? x = some { cls := .ref C, dict := some dx, data := .fields fv } →
      h2.Ns1 dx (fun y => if y = z then some v else none) → R (.ok (.ret .none)) ⟨h2, gs, dr, tk2, oss⟩) :
    codeAny (model prog w) A (.call (.builtin "object.__setattr__") ⟨[.ref x, .str z tk, v], []⟩) R ⟨hp, gs, dr, n0, oss⟩ := by
  have IA : W.InstAt hp x { cls := .ref C, data := .fields fv } C none := ⟨ox, rfl, rfl, trivial⟩
  have SO := PySem.F.store_object
  have ob : cd.mro.contains (.type "object") = true := by rw [hm, List.contains_cons, XB.o, Bool.or_true]
  have far : x ≠ hp.objs.size := Nat.ne_of_lt (Heap.lt_size ox)
  have su : W.Looks (model prog w) hp (isInstance (.ref x) (.type "object")) true := IA.type.andThen (W.looks_mroIn kin (by unfold W.mroIn; rw [cdC, Option.bind_some, if_neg (by rw [hm]; exact Bool.false_ne_true), ob]))
  refine codeAny_call_builtin SO.slot.plain SO.entry (@W.check_slot (model prog w) _ _ ⟨hp, gs, dr, n0, oss⟩ "object.__setattr__" "object" "__setattr__" (.ref x) [.str z tk, v] [] _ SO.kind SO.split su (SO.args (.ref x) (.str z tk) v) ?_)
  have lm : W.Looks (model prog w) hp (mroOf (.ref C)) cd.mro := (W.looks_clsIn kin cdC).andThen .now
  have lt : W.Looks (model prog w) hp (storeTaker? none) none := .now
  have lc : W.Looks (model prog w) hp (classData C) cd := W.looks_clsIn kin cdC
  rw [W.osa_eq, refuse_eq]
  refine wpAny_bind (wpAny_bind (IA.type.at (wpAny_bind (lm.at ?_))))
  rw [hm, refuseLoop_ref, XB.s.passes]
  refine wpAny_pure (wpAny_bind (IA.type.at (wpAny_bind ((W.looks_findIn kin no).at (wpAny_bind (lt.at ?_))))))
  show wpAny _ _ (storeInOwnDict (.ref x) (.ref C) (.str z tk) z v false) _ _ _
  obtain ⟨c1, c2, c3, c4, c5, c6, c7, c8, c9, c10, c11⟩ := cd
  dsimp only at hasD
  subst hasD
  unfold storeInOwnDict ownDictForStores
  repeat (first | with_reducible refine store_in_new ?_ ?_ | with_reducible refine wpAny_loadPart_at ox ?_ | with_reducible refine lc.at ?_ | wp_step)
  · exact ⟨_, #[], _, (Heap.get?_update_ne _ _ _ _ far.symm).trans (Heap.get?_push_at rfl rfl), rfl, fun e he => absurd he (by simp), fun _ => rfl⟩
  · intro h2 tk2 hn hs
    have ox2 : (hp.push { cls := .type "dict", data := .dict #[] }).get? x = some { cls := .ref C, data := .fields fv } := Heap.get?_push_of_some _ ox
    refine fin h2 tk2 hp.objs.size (fun b o hb ho => ?_) (Nat.le_refl _) far.symm ?_ hn
    · exact (hs.2 b (Nat.ne_of_lt (Heap.lt_size ho))).trans ((Heap.get?_update_ne _ _ _ _ hb).trans (Heap.get?_push_of_some _ ho))
    · exact (hs.2 x far).trans (Heap.get?_update_self _ ox2 rfl)
end
section
open PySem PySem.Spec PyProof.Rows L2
/-- what the text's class is known by -/
structure XCls (K : PySem.W.Frag) (C : Addr) (tail : List Value) (newId : String) : Prop where
  cls : ∃ nm q N bs sn sub ab col dd k0 k1 k2 k3 k5, K.lookup C = some (excClassObj nm q C N bs tail true sn sub ab col dd k0 k1 k2 k3 k5 newId)
  sa : PySem.W.findIn K (.ref C) "__setattr__" = some (some (.builtin "object.__setattr__"))
  s : PySem.W.subIn K (.ref C) (.type "BaseException") = some true
  t : PySem.W.typeIn K (.ref C) = some (.type "type")
  k : PySem.W.keepIn K (.ref C) = true
def xclsB (K : PySem.W.Frag) (C : Addr) (tail : List Value) (newId : String) : Bool := match K.lookup C with
  | some ob => (match ob.cls, ob.data, ob.slots.toList with
    | .type ty, .cls c, [_, _, _, _, some (.builtin nn), _] => (match c.mro with
      | .ref C2 :: r => ty == "type" && (C2 == C && (nn == newId && (!c.hasDel && (c.hasDict && r == tail))))
      | _ => false)
    | _, _, _ => false)
  | none => false
theorem xclsB_ok {K : PySem.W.Frag} {C : Addr} {tail : List Value} {newId : String} (h : xclsB K C tail newId = true) : ∃ nm q N bs sn sub ab col dd k0 k1 k2 k3 k5, K.lookup C = some (excClassObj nm q C N bs tail true sn sub ab col dd k0 k1 k2 k3 k5 newId) := by
  unfold xclsB at h
  cases e : K.lookup C with
  | none => rw [e] at h; cases h
  | some ob =>
    rw [e] at h
    obtain ⟨oc, od, dat, sl⟩ := ob
    dsimp only at h
    split at h
    · rename_i ty c k0 k1 k2 k3 nn k5 hsl
      obtain ⟨nm, bs, mro, ns, qn, hd, sn, sub, ab, col, del⟩ := c
      dsimp only at h
      split at h
      · rename_i C2 r
        simp only [Bool.and_eq_true, beq_iff_eq, Bool.not_eq_true'] at h
        obtain ⟨rfl, rfl, rfl, rfl, rfl, rfl⟩ := h
        have hs2 : sl = #[k0, k1, k2, k3, some (.builtin nn), k5] := by
          obtain ⟨l⟩ := sl
          simp only at hsl
          rw [hsl]
        subst hs2
        exact ⟨nm, qn, ns, bs, sn, sub, ab, col, od, k0, k1, k2, k3, k5, rfl⟩
      · cases h
    · cases h
section
variable {X : Cx} {pins : List (Addr × Obj)} {σ : L2.St} {H : Hp} {s : Shared} {a C dx : Addr} {f : Str} {y : V} {u : Value} {Q : Unit → Shared → Prop} {Q1 : Value → Shared → Prop} {E : Value → Shared → Prop} {A : Around} {B newId initId : String} {tail : List Value}
/-- self.f = y -/
theorem xf_store (XB : XBase B newId initId tail) (T : XCls X.K C tail newId) (I : Inv X pins σ H s) (e : H a = some (exo a C none)) (hno : PySem.W.findIn X.K (.ref C) f = some none) (ry : RelV y u)
    (q : ∀ dx s2, H dx = none → dx ≠ a → Inv X pins σ (upd (upd H dx (exd dx [(f, y)])) a (exo a C (some dx))) s2 → Q () s2) : wpAny (model X.prog X.w) A (setAttr (.ref a) f u) Q E s := by
  obtain ⟨c1, c2, c3, c4, c5, c6, c7, c8, c9, d0, d1, d2, d3, d5, lk⟩ := T.cls
  have cI : PySem.W.clsIn X.K C = some { name := c1, bases := c4, mro := .ref C :: tail, ns := c3, qualname := c2, hasDict := true, slotNames := c5, subclasses := c6, abstract := c7, collection := c8, hasDel := false } := by unfold PySem.W.clsIn; rw [lk] <;> rfl
  obtain ⟨t0, oa⟩ := exo_at I.hok e
  obtain ⟨hp, gg, dd, tt, oo⟩ := s
  refine PySem.W.set_plain I.kIn (ox := { cls := .ref C, dict := none, data := .fields #[.ref t0, .none, .none, .none, .bool false, .none] }) (od := none) ⟨oa, rfl, rfl, trivial⟩ T.sa ?_
  refine xf_osa XB I.kIn oa cI rfl rfl hno fun h2 tk2 dx kp big ne ox ns => ?_
  have free : H dx = none := I.hok.fresh big
  have old : ∀ {b : Addr} {o : Obj}, hp.get? b = some o → b ≠ dx := fun {b o} z => Nat.ne_of_lt (Nat.lt_of_lt_of_le (Heap.lt_size z) big)
  have oth : ∀ {b : Addr}, H b = none → b ≠ a := fun {b} n z => by
    rw [z, e] at n
    cases n
  have un : Un X.fs [] H (upd (upd H dx (exd dx [(f, y)])) a (exo a C (some dx))) hp h2 :=
    { keep := fun b o z n _ _ => kp b o (oth n) z
      slot := fun b o z n _ _ => ⟨o.slots, kp b o (oth n) z⟩
      free := fun b o z n _ => by rw [upd_ne (oth n), upd_ne (old z)] <;> exact n
      there := fun b o z _ => (Classical.em (b = a)).elim (fun hb => ⟨_, (congrArg h2.get? hb).trans ox⟩) fun hb => ⟨o, kp b o hb z⟩
      tups := fun b xs z => by rw [upd_ne (at_ne e z exo_tup), upd_ne (ne_of_none z free)] <;> exact z
      frzs := fun b o v z => by rw [upd_ne (at_ne e z exo_frz), upd_ne (ne_of_none z free)] <;> exact z
      tbls := fun b ps z => ⟨#[], by rw [upd_ne (at_ne e z exo_tbl), upd_ne (ne_of_none z free), z]; simp⟩ }
  refine q dx _ free ne (I.un (t' := tk2) un fun b o z => ?_)
  by_cases hb : b = a
  · subst hb
    rw [upd_same] at z
    cases z
    exact exo_ok ox
  · rw [upd_ne hb] at z
    by_cases hd : b = dx
    · subst hd
      rw [upd_same] at z
      cases z
      exact exd_ok ns (relO_put (fs := []) ry fun g => True.intro)
    · rw [upd_ne hd] at z
      refine (I.hok b o z).stay (fun c v hc zz => kp c v ?_ zz) (fun c hc => ?_) (fun c xs hc => ?_)
      · rcases hc with rfl | hc
        · exact hb
        · exact at_ne e hc exo_own
      · rw [upd_ne (at_ne e hc exo_own), upd_ne (ne_of_none hc free)] <;> exact hc
      · rw [upd_ne (at_ne e hc exo_tup), upd_ne (ne_of_none hc free)] <;> exact hc
/-- B.__init__(self, ..) -/
theorem xf_base (XB : XBase B newId initId tail) {us : List Value} (T : XCls X.K C tail newId) (I : Inv X pins σ H s) (e : H a = some (exo a C none)) (hl : us.length ≤ sizeLine) (q : ∀ s2, Inv X pins σ H s2 → Q1 .none s2) :
    wpAny (model X.prog X.w) A (call (.builtin initId) (.ref a :: us)) Q1 E s := by
  obtain ⟨c1, c2, c3, c4, c5, c6, c7, c8, c9, d0, d1, d2, d3, d5, lk⟩ := T.cls
  obtain ⟨t0, oa⟩ := exo_at I.hok e
  obtain ⟨hp, gg, dd, tt, oo⟩ := s
  refine wpAny_call (PySem.HandSPX.init_base XB.f (fun _ => rfl) (I.kIn _ _ lk) oa hl fun h2 t2 kp ox => ?_)
  have un : Un X.fs [] H (upd H a (exo a C none)) hp h2 :=
    { keep := fun b o z n _ _ => kp b o (fun w => by rw [w, e] at n; cases n) z
      slot := fun b o z n _ _ => ⟨o.slots, kp b o (fun w => by rw [w, e] at n; cases n) z⟩
      free := fun b o z n _ => by rw [upd_ne (fun w => by rw [w, e] at n; cases n)] <;> exact n
      there := fun b o z _ => (Classical.em (b = a)).elim (fun hb => ⟨_, (congrArg h2.get? hb).trans ox⟩) fun hb => ⟨o, kp b o hb z⟩
      tups := fun b xs z => by rw [upd_ne (at_ne e z exo_tup)] <;> exact z
      frzs := fun b o v z => by rw [upd_ne (at_ne e z exo_frz)] <;> exact z
      tbls := fun b ps z => ⟨#[], by rw [upd_ne (at_ne e z exo_tbl), z]; simp⟩ }
  have J := I.un (t' := tt) (H' := upd H a (exo a C none)) un fun b o z => by
    by_cases hb : b = a
    · subst hb
      rw [upd_same] at z
      cases z
      exact exo_ok ox
    · rw [upd_ne hb] at z
      refine (I.hok b o z).stay (fun c v hc zz => kp c v ?_ zz) (fun c hc => ?_) (fun c xs hc => ?_)
      · rcases hc with rfl | hc
        · exact hb
        · exact at_ne e hc exo_own
      · rw [upd_ne (at_ne e hc exo_own)] <;> exact hc
      · rw [upd_ne (at_ne e hc exo_tup)] <;> exact hc
  rw [show upd H a (exo a C none) = H from by
    funext b
    by_cases hb : b = a
    · rw [hb, upd_same, e]
    · rw [upd_ne hb]] at J
  exact q _ J
end
/-- the facts of a class with its field -/
structure XF (K : PySem.W.Frag) (mg : Str → Option Value) (B newId initId : String) (tail : List Value) (C f : Str) : Prop where
  g : mg C = some (.ref (He.ga K C))
  c : XCls K (He.ga K C) tail newId
  xa : PySem.W.findIn K (.ref (He.ga K C)) "__getattribute__" = some (some (.builtin "BaseException.__getattribute__"))
  xg : PySem.W.findIn K (.ref (He.ga K C)) "__getattr__" = some none
  no : PySem.W.findIn K (.ref (He.ga K C)) f = some none
  i : PySem.W.findIn K (.ref (He.ga K C)) "__init__" = some (some (.ref (He.ma K (He.ga K C) "__init__")))
  fn : PySem.W.typeIn K (.ref (He.ma K (He.ga K C) "__init__")) = some (.type "function")
  hd : PySem.W.hasDictIn K (He.ga K C) = true
  m : PySem.W.exmOne K (.ref (He.ga K C)) (.ref (He.ga K C)) = some true
  b : PySem.W.findCls K (.type B) (.type "type") "__init__" = some (.val (.builtin initId))
def valB (a : Option PySem.W.CFound) (z : String) : Bool := match a with
  | some (.val (.builtin y)) => y == z
  | _ => false
theorem valB_ok {a : Option PySem.W.CFound} {z : String} (h : valB a z = true) : a = some (.val (.builtin z)) := by
  unfold valB at h
  split at h
  · rw [beq_iff_eq.mp h]
  · cases h
def xfB (K : PySem.W.Frag) (B newId initId : String) (tail : List Value) (C f : Str) : Bool :=
  xclsB K (He.ga K C) tail newId && (eqV2 (PySem.W.findIn K (.ref (He.ga K C)) "__setattr__") (some (some (.builtin "object.__setattr__"))) && (decide (PySem.W.subIn K (.ref (He.ga K C)) (.type "BaseException") = some true) && (decide (PySem.W.typeIn K (.ref (He.ga K C)) = some (.type "type")) && (PySem.W.keepIn K (.ref (He.ga K C)) &&
  (eqV2 (PySem.W.findIn K (.ref (He.ga K C)) "__getattribute__") (some (some (.builtin "BaseException.__getattribute__"))) && (eqV2 (PySem.W.findIn K (.ref (He.ga K C)) "__getattr__") (some none) && (eqV2 (PySem.W.findIn K (.ref (He.ga K C)) f) (some none) &&
  (eqV2 (PySem.W.findIn K (.ref (He.ga K C)) "__init__") (some (some (.ref (He.ma K (He.ga K C) "__init__")))) && (decide (PySem.W.typeIn K (.ref (He.ma K (He.ga K C) "__init__")) = some (.type "function")) && (PySem.W.hasDictIn K (He.ga K C) &&
  (decide (PySem.W.exmOne K (.ref (He.ga K C)) (.ref (He.ga K C)) = some true) && valB (PySem.W.findCls K (.type B) (.type "type") "__init__") initId)))))))))))
theorem xfB_ok2 {K : PySem.W.Frag} {mg : Str → Option Value} {B newId initId : String} {tail : List Value} {C f : Str} (g : mg C = some (.ref (He.ga K C))) (h : xfB K B newId initId tail C f = true) : XF K mg B newId initId tail C f := by
  unfold xfB at h
  simp only [Bool.and_eq_true, eqV2, decide_eq_true_eq] at h
  obtain ⟨h1, h2, h3, h4, h5, h6, h7, h8, h9, h10, h11, h12, h13⟩ := h
  exact ⟨g, ⟨xclsB_ok h1, h2, h3, h4, h5⟩, h6, h7, h8, h9, h10, h11, h12, valB_ok h13⟩
/-! ### the steps -/
section
variable {X : Cx} {B newId initId : String} {tail : List Value} {C f x : Str} {ta to te : TE} {t tk : TA} {e o : Expr} {es : List Expr} {kws : List Keyword} {p p1 p2 pos : Pos} {k j n : Nat} {ps ks : List Str} {sp : Sp} {dvs : List V} {W : WX} {tp : List (Nat × Nat)}
/-- B.__init__(self, ..) -/
def tXi (K : PySem.W.Frag) (tail : List Value) (newId : String) (t : TA) : TE := fun σ H Q => t σ H fun vs H1 => ∃ (a C : Addr) (ws : List V), vs = .ref a :: ws ∧ ws.length ≤ 1000 ∧ XCls K C tail newId ∧ H1 a = some (exo a C none) ∧ Q .non H1
theorem pe_xi {nB : Str} {pl : Sem Bool} (XB : XBase B newId initId tail) (hg : Gl X nB) (hm : X.mg nB = none) (boot : bootBuiltins nB = some (.type B)) (ty : typeOf (.type B) = pure (.type "type")) (st : Manifest.isStub B = false)
    (b : PySem.W.findCls X.K (.type B) (.type "type") "__init__" = some (.val (.builtin initId))) (hd : PySem.W.handedIn (.builtin initId) = true) (ha : PA X (e :: es) t) (n1 : nB ≠ "__name__" := by decide) (n2 : (nB == ("__debug__" : Str)) = false := by decide)
    (hc : eval (.Call (.Attribute (.Name nB p1) "__init__" p2) (e :: es) [] pos) X.env = (eval (.Name nB p1) X.env >>= fun ov => standAt p2.atName >>= fun _ => holding [ov] (getMethod ov "__init__" pl) >>= fun q =>
      callWith pos q.1 q.2 (backTo pos (starEach (e :: es) X.env)) (backToKw pos (keywordEach [] X.env))) := by rfl)
    (he : starEach (e :: es) X.env = (false, eval e X.env) :: starEach es X.env := by rfl) (hpl : (backTo pos (starEach es X.env)).any (·.1) = false := by rfl) :
    PE X (.Call (.Attribute (.Name nB p1) "__init__" p2) (e :: es) [] pos) (tXi X.K tail newId t) := by
  refine ⟨fun pins s σ H Q I h => ?_⟩
  refine PySem.W.methodCall_KW (ld_blt I hg hm boot ?_ n1 n2) hc
  obtain ⟨m, fr⟩ := I.fr
  refine PySem.W.method_type fr I.ok.mod.kin ty st b hd ?_
  show wpAny _ _ (callWith pos (Value.builtin initId) [] (backTo pos (starEach (e :: es) X.env)) []) _ _ _
  refine PyProof.Rows.callWith_method1 (thn (ha.run pos pins _ σ H _ (I.tok _) h) fun us s1 ⟨vs, H1, I1, r1, a, C, ws, ev, hl, T, ea, q⟩ => ?_) he hpl
  subst ev
  cases r1 with
  | cons ra rr =>
    rename_i u0 ur
    cases ra
    exact xf_base XB T I1 ea (by rw [← Paired.length rr, sizeLine_eq]; omega) fun s2 J => ⟨.non, H1, J, rfl, q⟩
/-- self.f = e in an own __init__ of an exception -/
def tXo (K : PySem.W.Frag) (tail : List Value) (newId : String) (f : Str) (to te : TE) : TS := fun D σ H => te σ H fun y H1 => to σ H1 fun x H2 => ∃ a C : Addr, x = .ref a ∧ XCls K C tail newId ∧ PySem.W.findIn K (.ref C) f = some none ∧ H2 a = some (exo a C none) ∧
  ∀ dx, H2 dx = none → dx ≠ a → D.nx σ (upd (upd H2 dx (exd dx [(f, y)])) a (exo a C (some dx)))
theorem ps_xo (XB : XBase B newId initId tail) (ho : PE X o to) (he : PE X e te) (hs : swapsWith e (some (.Attribute o f p)) pos.line X.env = pure false := by rfl) : PS X (.Assign [.Attribute o f p] e pos) (tXo X.K tail newId f to te) := by
  refine ⟨fun pins s σ H D I h => ?_⟩
  refine plainObj_wpAny_Assign_Attribute (thn (he.run pins s σ H _ I h) fun v s1 ⟨y, H1, I1, r1, q1⟩ => thn (ho.run pins s1 σ H1 _ I1 q1) fun u s2 ⟨x, H2, I2, r2, a, C, ex, T, hno, ea, q⟩ => ?_) hs
  subst ex
  cases r2
  exact xf_store XB T I2 ea hno r1 fun dx s3 n ne J => ⟨σ, _, J, q dx n ne⟩
/-- what such an __init__ keeps -/
def φxinit (K : PySem.W.Frag) (C f : Str) : V → V → Hp → VK → Prop := fun x y H Q => ∃ a : Addr, x = .ref a ∧ H a = some (exo a (He.ga K C) none) ∧ ∀ dx, H dx = none → dx ≠ a → Q .non (upd (upd H dx (exd dx [(f, y)])) a (exo a (He.ga K C) (some dx)))
structure DXI (P : Program) (w : World) (K : PySem.W.Frag) (mg : Str → Option Value) (base : Heap) (k : Nat) (C f : Str) (ps : List Str) : Prop where
  ex : ∃ fd : FuncData, FnOk P w K mg base CX0 k (He.ma K (He.ga K C) "__init__") fd ps (S2 (φxinit K C f)) ∧ Binds K fd ps []
/-- C(e) made to be raised -/
def tMkF (C : Addr) (f : Str) (t : TA) : L2.St → Hp → XK → Prop := fun σ H Q => t σ H fun vs H1 => ∃ y, vs = [y] ∧ ∀ d, H1 d = none → Q (.ref C) (some d) (upd H1 d (.xd [(f, y)]))
theorem pmk_f (XB : XBase B newId initId tail) (T : XF X.K X.mg B newId initId tail C f) (D : DXI X.prog X.w X.K X.mg X.base k C f ps) (hr : Room j X.A) (ha : PA X [e] t) (hj : k + 1 ≤ j := by first | decide | omega) (hg : Gl X C := by rfl) (hdb : (C == ("__debug__" : Str)) = false := by decide)
    (he : starEach (e :: []) X.env = (false, eval e X.env) :: starEach [] X.env := by rfl) (hpl : (backTo pos (starEach [] X.env)).any (·.1) = false := by rfl) : PMk X (.Call (.Name C p) [e] [] pos) (tMkF (He.ga X.K C) f t) := by
  obtain ⟨fd, F1, hb⟩ := D.ex
  intro pins s σ H Q I h
  obtain ⟨c1, c2, c3, c4, c5, c6, c7, c8, c9, d0, d1, d2, d3, d5, lk⟩ := T.c.cls
  refine wpAny_Call_Name_kw (ld_glob I hg T.g ?_ hdb)
  refine PySem.W.callWith_K (h₀ := X.base) I.ok.mod.kin T.c.k (thn (ha.run pos pins s σ H _ I h) fun us s1 ⟨vs, H1, I1, r1, y, ev, q1⟩ => ⟨I1.kIn, ?_⟩) he hpl
  subst ev
  obtain ⟨u, eu, ru⟩ := vals1 r1
  subst eu
  show wpAny _ _ (call (.ref (He.ga X.K C)) [u]) _ _ _
  obtain ⟨hp, gg, dr, tk, oo⟩ := s1
  have big : hp.objs.size ≤ hp.objs.size + 1 := Nat.le_succ _
  have na : H1 (hp.objs.size + 1) = none := I1.hok.fresh big
  have kp : ∀ b o, hp.get? b = some o → ((hp.push (PySem.W.kdv_tup [u])).push (PySem.HandSPX.excO (He.ga X.K C) hp.objs.size)).get? b = some o := fun b o z => Heap.get?_push_of_some _ (Heap.get?_push_of_some _ z)
  have at_ : ((hp.push (PySem.W.kdv_tup [u])).push (PySem.HandSPX.excO (He.ga X.K C) hp.objs.size)).get? (hp.objs.size + 1) = some (PySem.HandSPX.excO (He.ga X.K C) hp.objs.size) := by heap_get
  have J := I1.laid (t' := tk) (a := hp.objs.size + 1) (o := exo (hp.objs.size + 1) (He.ga X.K C) none) (h' := (hp.push (PySem.W.kdv_tup [u])).push (PySem.HandSPX.excO (He.ga X.K C) hp.objs.size)) kp big (exo_ok at_)
  let Q2 : VK := fun v H2 => v = .non ∧ ∃ d : Addr, H2 (hp.objs.size + 1) = some (exo (hp.objs.size + 1) (He.ga X.K C) (some d)) ∧ H2 d = some (exd d [(f, y)]) ∧ H1 d = none ∧ Q (.ref (He.ga X.K C)) (some d) (upd (del H2 (hp.objs.size + 1)) d (.xd [(f, y)]))
  have hsp : S2 (φxinit X.K C f) [V.ref (hp.objs.size + 1), y] (upd H1 (hp.objs.size + 1) (exo (hp.objs.size + 1) (He.ga X.K C) none)) Q2 (fun _ _ _ => False) := by
    refine ⟨hp.objs.size + 1, rfl, upd_same, fun dx n ne => ⟨rfl, dx, upd_same, by rw [upd_ne ne, upd_same], ?_, ?_⟩⟩
    · rw [upd_ne ne] at n
      exact n
    · rw [upd_ne ne] at n
      have q9 := q1 dx n
      refine cast ?_ q9
      congr 1
      funext b
      by_cases hbd : b = dx
      · rw [hbd, upd_same, upd_same]
      · rw [upd_ne hbd, upd_ne hbd]
        by_cases hba : b = hp.objs.size + 1
        · rw [hba, del_same, na]
        · rw [del_ne hba, upd_ne hba, upd_ne hbd, upd_ne hba]
  have hl : [Value.ref (hp.objs.size + 1), u].length = ps.length := (F1.len _ _ _ _ hsp)
  have hbd := hb _ [Value.ref (hp.objs.size + 1), u] J.kIn (by simpa using hl)
  rw [List.append_nil] at hbd
  refine wpAny_call (PySem.HandSPX.call_own XB.f (fun _ => rfl) (I1.kIn _ _ lk) (PySem.W.looks_findIn I1.kIn T.i) (fun self => PySem.W.bind_fn I1.kIn self T.fn) (by rw [sizeLine_eq]; exact (by decide : 1 ≤ 16777216))
    (codeAny_mono (F1.run _ X.stack _ _ ⟨[Value.ref (hp.objs.size + 1), u], []⟩ [Value.ref (hp.objs.size + 1), u] [V.ref (hp.objs.size + 1), y] _ (fun _ _ _ => False) ((hr.mono hj).make (He.ga X.K C) [u] []) (J.env0.make (He.ga X.K C) [u] []) hbd (.cons rfl (.cons ru .nil)) hsp) fun r s2 hq => ?_))
  cases r with
  | error er => exact pass0 pins σ _ _ er s2 J hq
  | ok fl =>
    cases fl with
    | ret v9 =>
      obtain ⟨v, H2, os2, bare2, un2, hok2, rv, ev, d, ea, ed, hd1, q2⟩ := hq
      subst ev
      obtain ⟨h2, g2, r2, t2, o2⟩ := s2
      exact ⟨rv, mk_end (raises_own T.c.s T.c.t) I1 big kp un2 hok2 os2 bare2 ea ed hd1 q2⟩
    | next => exact False.elim hq
    | brk => exact False.elim hq
    | cont => exact False.elim hq
/-- raise C(e) -/
def tRaiseF (C : Addr) (f : Str) (W : WX) (t : TA) : TS := fun _ σ H => tMkF C f t σ H fun cls d H2 => W cls d σ H2
theorem ps_raiseF {pos2 : Pos} (XB : XBase B newId initId tail) (hc : X.calm = true) (T : XF X.K X.mg B newId initId tail C f) (D : DXI X.prog X.w X.K X.mg X.base k C f ps) (hr : Room j X.A) (tk : Takes X W) (ha : PA X [e] t) (hj : k + 1 ≤ j := by first | decide | omega) (hg : Gl X C := by rfl) (hdb : (C == ("__debug__" : Str)) = false := by decide)
    (he : starEach (e :: []) X.env = (false, eval e X.env) :: starEach [] X.env := by rfl) (hpl : (backTo pos (starEach [] X.env)).any (·.1) = false := by rfl) :
    PS X (.Raise (some (.Call (.Name C p) [e] [] pos)) none pos2) (tRaiseF (He.ga X.K C) f W t) := ps_raise hc tk (pmk_f XB T D hr ha hj hg hdb he hpl)
/-- e.f of the exception in hand -/
theorem pe_xff {a : Addr} {oe : Obj} {cls : Value} {d : Option Addr} {pn : List (Addr × Obj)} (T : XF X.K X.mg B newId initId tail C f) (hz : Zc cls d oe) (hf : ∃ vs, oe.data = .fields vs) (he : PE (X.suite a ((a, oe) :: pn)) e te)
    (hb : attributeBase e f X.env (eval e X.env) = eval e X.env := by rfl) : PE (X.suite a ((a, oe) :: pn)) (.Attribute e f pos) (tXf a cls d (He.ga X.K C) f te) :=
  pe_xf ⟨T.xa, T.xg, T.c.s, T.hd⟩ T.no hz hf he hb
/-! ### defs that may raise, called with defaults and keywords -/
def tCallD (sp : Sp) (dvs : List V) (E : L2.St → XK) (t : TA) : TE := fun σ H Q => t σ H fun vs H1 => sp (vs ++ dvs) H1 Q (E σ)
def tCallKD (n m : Nat) (sp : Sp) (g : List V → List V → List V) (E : L2.St → XK) (t tk : TA) : TE := fun σ H Q => t σ H fun vs H1 => tk σ H1 fun zs H2 => vs.length = n ∧ zs.length = m ∧ sp (g vs zs) H2 Q (E σ)
/-! ### try: .. except C as n: .. -/
def wTryA (K : PySem.W.Frag) (C : Addr) (i : Nat) (ts : Addr → Value → Option Addr → TS) (D : Ends) : WX := wAs K (.ref C) i ts (fun _ _ _ _ => False) D
def tTryA (K : PySem.W.Frag) (C : Addr) (i : Nat) (tb : WX → TS) (ts : Addr → Value → Option Addr → TS) : TS := fun D σ H => tb (wTryA K C i ts D) D σ H
theorem ps_tryA {nm : Str} {i : Nat} {body suite : List Stmt} {b₀ : Stmt} {np pos2 : Pos} {tb : WX → TS} {ts : Addr → Value → Option Addr → TS} (g : X.mg C = some (.ref (He.ga X.K C))) (hN : X.N.Nodup) (hi : X.N[i]? = some nm) (hs : X.stack = X.env :: X.outer) (hf : X.env.frame = some X.env.locals) (hln : X.env.kindOf nm = some .local) (hg : Gl X C)
    (hb : ∀ (W : WX) (pn : List (Addr × Obj)) (xe : Value → Shared → Prop), Takes (X.tr pn xe) W → PSs (X.tr pn xe) body (tb W))
    (hsu : ∀ (a : Addr) (oe : Obj) (cls : Value) (d : Option Addr) (pn : List (Addr × Obj)), Zc cls d oe → (∃ vs, oe.data = .fields vs) → PSs (X.suite a ((a, oe) :: pn)) (b₀ :: suite) (ts a cls d)) (hdb : (C == ("__debug__" : Str)) = false := by decide) :
    PS X (.Try body [.ExceptHandler (some (.Name C np)) (some nm) (b₀ :: suite) pos2] [] [] pos) (tTryA X.K (He.ga X.K C) i tb ts) :=
  ps_try_as (Wout := fun _ _ _ _ => False) hs hf hN hi hln ⟨hg, hdb, .inl g⟩ takes0 (fun W pn xe tk _ => hb W pn xe tk) hsu
end
section
variable {K : PySem.W.Frag} {mg : Str → Option Value} {σ : L2.St} {H : Hp} {Q : VK} {C f : Str} {D : Ends} {W : WX} {tb : WX → TS} {ts : Addr → Value → Option Addr → TS} {sp : Sp} {dvs : List V} {t tk : TA} {n m i : Nat} {Cc : Addr} {EE : L2.St → XK} {te : TE} {g : List V → List V → List V}
theorem x_tryA (q : tb (wTryA K Cc i ts D) D σ H) : tTryA K Cc i tb ts D σ H := q
instance : Step (tTryA K Cc i tb ts D σ H) (tb (wTryA K Cc i ts D) D σ H) := ⟨x_tryA⟩ -- st
theorem x_callD (q : t σ H fun vs H1 => sp (vs ++ dvs) H1 Q (EE σ)) : tCallD sp dvs EE t σ H Q := q
instance : Step (tCallD sp dvs EE t σ H Q) (t σ H fun vs H1 => sp (vs ++ dvs) H1 Q (EE σ)) := ⟨x_callD⟩ -- st
theorem x_callKD (q : t σ H fun vs H1 => tk σ H1 fun zs H2 => vs.length = n ∧ zs.length = m ∧ sp (g vs zs) H2 Q (EE σ)) : tCallKD n m sp g EE t tk σ H Q := q
instance : Step (tCallKD n m sp g EE t tk σ H Q) (t σ H fun vs H1 => tk σ H1 fun zs H2 => vs.length = n ∧ zs.length = m ∧ sp (g vs zs) H2 Q (EE σ)) := ⟨x_callKD⟩ -- st
/-- what a suite finds -/
theorem w_caughtA {d : Option Addr} (em : PySem.W.exmOne K (.ref Cc) (.ref Cc) = some true) (q : ∀ a, H a = none → ts a (.ref Cc) d { nx := fun σ2 H2 => D.nx (σ2.set i none) H2, rt := D.rt, bk := fun σ2 H2 => D.bk (σ2.set i none) H2, ct := fun σ2 H2 => D.ct (σ2.set i none) H2 } (σ.set i (some (.ref a))) H) :
    wTryA K Cc i ts D (.ref Cc) d σ H := ⟨true, em, fun _ => q, fun z => nomatch z⟩
def gXi (K : PySem.W.Frag) (tail : List Value) (newId : String) (vs : List V) (H1 : Hp) (Q : VK) : Prop := ∃ (a C : Addr) (ws : List V), vs = .ref a :: ws ∧ ws.length ≤ 1000 ∧ XCls K C tail newId ∧ H1 a = some (exo a C none) ∧ Q .non H1
theorem x_xi {tail : List Value} {newId : String} (q : t σ H fun vs H1 => gXi K tail newId vs H1 Q) : tXi K tail newId t σ H Q := q
instance {tail : List Value} {newId : String} : Step (tXi K tail newId t σ H Q) (t σ H fun vs H1 => gXi K tail newId vs H1 Q) := ⟨x_xi⟩ -- st
def gXo (K : PySem.W.Frag) (tail : List Value) (newId : String) (f : Str) (D : Ends) (σ : L2.St) (y x : V) (H2 : Hp) : Prop := ∃ a C : Addr, x = .ref a ∧ XCls K C tail newId ∧ PySem.W.findIn K (.ref C) f = some none ∧ H2 a = some (exo a C none) ∧
  ∀ dx, H2 dx = none → dx ≠ a → D.nx σ (upd (upd H2 dx (exd dx [(f, y)])) a (exo a C (some dx)))
theorem x_xo {tail : List Value} {newId : String} {to : TE} (q : te σ H fun y H1 => to σ H1 fun x H2 => gXo K tail newId f D σ y x H2) : tXo K tail newId f to te D σ H := q
instance {tail : List Value} {newId : String} {to : TE} : Step (tXo K tail newId f to te D σ H) (te σ H fun y H1 => to σ H1 fun x H2 => gXo K tail newId f D σ y x H2) := ⟨x_xo⟩ -- st
def gRF (C : Addr) (f : Str) (W : WX) (σ : L2.St) (vs : List V) (H1 : Hp) : Prop := ∃ y, vs = [y] ∧ ∀ d, H1 d = none → W (.ref C) (some d) σ (upd H1 d (.xd [(f, y)]))
theorem x_rf (q : t σ H fun vs H1 => gRF Cc f W σ vs H1) : tRaiseF Cc f W t D σ H := q
instance : Step (tRaiseF Cc f W t D σ H) (t σ H fun vs H1 => gRF Cc f W σ vs H1) := ⟨x_rf⟩ -- st
def gXf (a : Addr) (cls : Value) (d : Option Addr) (C : Addr) (f : Str) (x : V) (H : Hp) (Q : VK) : Prop := x = .ref a ∧ cls = .ref C ∧ ∃ (dd : Addr) (fs : List (Str × V)) (v : V), d = some dd ∧ H dd = some (.xd fs) ∧ fs.lookup f = some v ∧ Q v H
theorem x_xf {a : Addr} {cls : Value} {d : Option Addr} (q : te σ H fun x H1 => gXf a cls d Cc f x H1 Q) : tXf a cls d Cc f te σ H Q := q
instance {a : Addr} {cls : Value} {d : Option Addr} : Step (tXf a cls d Cc f te σ H Q) (te σ H fun x H1 => gXf a cls d Cc f x H1 Q) := ⟨x_xf⟩ -- st
theorem n_xf {a dd : Addr} {fs : List (Str × V)} {v : V} (h : H dd = some (.xd fs)) (l : fs.lookup f = some v) (q : Q v H) : gXf a (.ref Cc) (some dd) Cc f (.ref a) H Q := ⟨rfl, rfl, dd, fs, v, rfl, h, l, q⟩
end
end
end R
/-! ### exceptions that are kept behind their suite -/
namespace R
open PySem PySem.Spec PyProof.Rows L2
/-- at a: an exception of the class cls, its dict at d -/
def exk (a : Addr) (cls : Value) (d : Option Addr) : HO := .ext fun h => ∃ (oe : Obj) (vs : Array Value), h.get? a = some oe ∧ Zc cls d oe ∧ oe.data = .fields vs
theorem exk_ok {P : Program} {w : World} {H : Hp} {h : Heap} {a : Addr} {cls : Value} {d : Option Addr} {oe : Obj} {vs : Array Value} (e : h.get? a = some oe) (z : Zc cls d oe) (f : oe.data = .fields vs) : ObjOk P w H h a (exk a cls d) :=
  ⟨⟨oe, vs, e, z, f⟩, ⟨oe, e⟩, fun h1 h2 x k => by
    obtain ⟨o2, v2, e2, r2⟩ := x
    exact ⟨o2, v2, k _ e2, r2⟩⟩
theorem exk_at {P : Program} {w : World} {H : Hp} {h : Heap} {a : Addr} {cls : Value} {d : Option Addr} (hok : HOk P w H h) (e : H a = some (exk a cls d)) : ∃ (oe : Obj) (vs : Array Value), h.get? a = some oe ∧ Zc cls d oe ∧ oe.data = .fields vs := by
  have x : ObjOk P w H h a (.ext fun h => ∃ (oe : Obj) (vs : Array Value), h.get? a = some oe ∧ Zc cls d oe ∧ oe.data = .fields vs) := hok a _ e
  exact x.1
section
variable {X : Cx} {pins : List (Addr × Obj)} {σ : L2.St} {H : Hp} {s : Shared} {a : Addr} {o : HO}
/-- an object that stands already is tracked from now on -/
theorem trk (I : Inv X pins σ H s) (na : H a = none) (nb : X.s_0.heap.get? a = none) (nL : a ≠ X.env.locals) (nC : ∀ x c, X.env.cells.lookup x = some c → c ≠ a) (nP : ∀ p ∈ X.pn ++ pins, p.1 ≠ a) (ok : ObjOk X.prog X.w (upd H a o) s.heap a o) :
    Inv X pins σ (upd H a o) s := by
  have far : ∀ {b : Addr} {u : HO}, H b = some u → b ≠ a := fun {b u} e z => by
    rw [z, na] at e
    cases e
  refine ⟨I.ok, I.os, I.bare, ⟨I.base.keep, I.base.slot, fun b ob e n hx => ?_, I.base.there, fun b xs e => ?_, fun b ob u e => ?_, fun b ps e => ?_⟩, I.loc, I.cell, ?_, fun x c e => ?_, fun p hp => ?_, fun b ob e => ?_, I.len⟩
  · rw [upd_ne (fun z => by rw [z, nb] at e; cases e)]
    exact I.base.free b ob e n hx
  · have q := I.base.tups b xs e
    rw [upd_ne (far q)]
    exact q
  · have q := I.base.frzs b ob u e
    rw [upd_ne (far q)]
    exact q
  · obtain ⟨more, q⟩ := I.base.tbls b ps e
    exact ⟨more, by rw [upd_ne (far q)]; exact q⟩
  · rw [upd_ne nL.symm]
    exact I.free
  · rw [upd_ne (nC x c e)]
    exact I.freeC x c e
  · obtain ⟨p1, p2, p3⟩ := I.pin p hp
    exact ⟨p1, by rw [upd_ne (nP p hp)]; exact p2, p3⟩
  · by_cases hb : b = a
    · subst hb
      rw [upd_same] at e
      cases e
      exact ok
    · rw [upd_ne hb] at e
      exact (I.hok b ob e).stay (fun _ _ _ r => r) (fun c q => by rw [upd_ne (far q)]; exact q) fun c xs q => by rw [upd_ne (far q)]; exact q
/-- what a clause's test asks -/
def TstOk (X : Cx) (t : Expr) (m : Value → Option Bool) : Prop := ∀ (a : Addr) (pn : List (Addr × Obj)) (σ : L2.St) (H : Hp) (s : Shared) (cls : Value) (b : Bool) (Q : Bool → Shared → Prop) (E : Value → Shared → Prop), Inv (X.suite a pn) [] σ H s →
  PySem.W.Looks (model X.prog X.w) s.heap (typeOf (.ref a)) cls → m cls = some b → (∀ h2, (∀ q o, s.heap.get? q = some o → h2.get? q = some o) → Q b { s with heap := h2 }) →
  wpAny (model X.prog X.w) (X.A.mark (some (.ref a))) (eval t X.env) (fun c s1 => wpAny (model X.prog X.w) (X.A.mark (some (.ref a))) (excMatches (.ref a) c) Q E s1) E s
theorem tst_one {x : Str} {c : Value} {np : Pos} (hc : Names X x c) : TstOk X (.Name x np) (fun cls => PySem.W.exmOne X.K cls c) := by
  intro a pn σ H s cls b Q E I LT hm q
  have z : wpAny (model X.prog X.w) (X.A.mark (some (.ref a))) (excMatches (.ref a) c) Q E s := (PySem.W.exm_one I.kIn LT hm).here (q s.heap fun _ _ z => z)
  obtain ⟨hg, hd, e | ⟨e, v, n⟩⟩ := hc
  · exact ld_glob I hg e z hd
  · exact ld_blt I hg e v z n hd
/-! ### the clauses -/
structure Cl where
  m : Value → Option Bool
  i : Option Nat
  ts : Addr → Value → Option Addr → TS
def setK (i : Option Nat) (a : Addr) (σ : L2.St) : L2.St := match i with
  | some i => σ.set i (some (.ref a))
  | none => σ
def unK (i : Option Nat) (σ : L2.St) : L2.St := match i with
  | some i => σ.set i none
  | none => σ
/-- the ends of a suite that keeps its exception -/
def endK (i : Option Nat) (a : Addr) (cls : Value) (d : Option Addr) (D : Ends) : Ends where
  nx := fun σ2 H2 => H2 a = none → D.nx (unK i σ2) (upd H2 a (exk a cls d))
  rt := D.rt
  bk := fun σ2 H2 => D.bk (unK i σ2) H2
  ct := fun σ2 H2 => D.ct (unK i σ2) H2
def wK (Wout : WX) (D : Ends) : List Cl → WX
  | [] => Wout
  | c :: r => fun cls d σ H => ∃ b, c.m cls = some b ∧ (b = true → ∀ a, H a = none → c.ts a cls d (endK c.i a cls d D) (setK c.i a σ) H) ∧ (b = false → wK Wout D r cls d σ H)
inductive HdK (X : Cx) : List ExceptHandler → List Cl → Prop
  | nil : HdK X [] []
  | plain {t : Expr} {m : Value → Option Bool} {ts : Addr → Value → Option Addr → TS} {b₀ : Stmt} {suite : List Stmt} {p2 : Pos} {hds : List ExceptHandler} {l : List Cl} (ht : TstOk X t m)
      (hsu : ∀ (a : Addr) (oe : Obj) (cls : Value) (d : Option Addr) (pn : List (Addr × Obj)), Zc cls d oe → (∃ vs, oe.data = .fields vs) → PSs (X.suite a ((a, oe) :: pn)) (b₀ :: suite) (ts a cls d)) (r : HdK X hds l) :
      HdK X (.ExceptHandler (some t) none (b₀ :: suite) p2 :: hds) (⟨m, none, ts⟩ :: l)
  | named {t : Expr} {m : Value → Option Bool} {ts : Addr → Value → Option Addr → TS} {b₀ : Stmt} {suite : List Stmt} {p2 : Pos} {hds : List ExceptHandler} {l : List Cl} {n : Str} {i : Nat} (ht : TstOk X t m) (hi : X.N[i]? = some n) (hl : X.env.kindOf n = some .local)
      (hsu : ∀ (a : Addr) (oe : Obj) (cls : Value) (d : Option Addr) (pn : List (Addr × Obj)), Zc cls d oe → (∃ vs, oe.data = .fields vs) → PSs (X.suite a ((a, oe) :: pn)) (b₀ :: suite) (ts a cls d)) (r : HdK X hds l) :
      HdK X (.ExceptHandler (some t) (some n) (b₀ :: suite) p2 :: hds) (⟨m, some i, ts⟩ :: l)
theorem nocell {h : Heap} {a : Addr} {oe : Obj} {vs : Array Value} {v : Option Value} (e : h.get? a = some oe) (f : oe.data = .fields vs) (c : h.IsCell a v) : False := by
  obtain ⟨oc, ec, dc⟩ := c
  rw [e] at ec
  cases ec
  rw [f] at dc
  cases dc
theorem flies_on {B : Heap} {l : List Env} {a : Addr} {Z : Obj → Prop} {h h2 : Heap} (k : ∀ b o, h.get? b = some o → h2.get? b = some o) (f : HandSPX.FlyingZ B l a Z h) : HandSPX.FlyingZ B l a Z h2 := by
  obtain ⟨f1, f2, f3, oe, vs, T, oT, ts, g1, g2, g3, g4, g5, g6, g7, g8, g9⟩ := f
  exact ⟨fun b o e => k b o (f1 b o e), f2, Heap.FunFrames.of_keeps (fun b o e _ => ⟨o, k b o e, rfl⟩) f3, oe, vs, T, oT, ts, k _ _ g1, g2, g3, g4, g5, g6, k _ _ g7, g8, g9⟩
theorem ups_of {h h2 : Heap} (k : ∀ b o, h.get? b = some o → h2.get? b = some o) : h.UpToSlots h2 := Heap.UpToSlots.of_keeps k
end
section
variable {X : Cx} {body : List Stmt} {h₀ : ExceptHandler} {hds : List ExceptHandler} {cs : List Cl} {pos : Pos} {tb : WX → TS} {Wout : WX}
/-- what follows a catch: through the clauses -/
theorem go_cl (hs : X.stack = X.env :: X.outer) (hf : X.env.frame = some X.env.locals) (hN : X.N.Nodup) (hex : X.ex = []) (tk : Takes X Wout) {pins : List (Addr × Obj)} {D : Ends} {a : Addr} {B : Heap} {sI : Shared} {σ : L2.St} {H : Hp} {cls : Value} {d : Option Addr}
    (J : Inv X pins σ H sI) (nb : ∀ b o, sI.heap.get? b = some o → b ∉ frs X.stack → B.get? b = some o) (na : H a = none) :
    ∀ {hds : List ExceptHandler} {cs : List Cl}, HdK X hds cs → ∀ {s3 : Shared}, sI.heap.UpToSlots s3.heap → HandSPX.FlyingZ B (X.env :: X.outer) a (Zc cls d) s3.heap → s3.os = sI.os → AllBare s3.gens → wK Wout D cs cls d σ H →
      wpAny (model X.prog X.w) X.A (handleBy (.ref a) X.env hds) (SP X pins D) X.xe s3 := by
  have ok := J.ok
  intro hds cs hk
  induction hk with
  | nil =>
    intro s3 up fl os ag wish
    obtain ⟨hp, gg, dr, tt, oo⟩ := s3
    refine wpAny_handleBy_nil ?_
    obtain ⟨_, _, _, oe, vs, T, oT, ts2, he, _, hd, h1, _⟩ := id fl
    unfold PySem.passOn
    refine wpAny_bind (wpAny_field he hd h1 ?_)
    rw [if_neg (show ¬ ((Value.ref T == Value.none) = true) from by simp)]
    have fin : wpAny (model X.prog X.w) X.A (setFlight (.ref a) X.env.frame) (fun _ s4 => wpAny (model X.prog X.w) X.A (throw (.ref a) : Sem Flow) (SP X pins D) X.xe s4) X.xe ⟨hp, gg, dr, tt, oo⟩ := by
      rw [hf]
      refine HandSPX.setFlight_upZ fl fun h4 hh up4 => wpAny_throw (tk _ _ ?_)
      exact ⟨a, B, sI, pins, σ, H, cls, d, rfl, J, nb, up.trans up4, .inr (.inr (by rw [hs]; exact hh)), na, os, ag, wish⟩
    first
      | exact wpAny_bind (wpAny_pure (wpAny_bind fin))
      | exact wpAny_bind fin
  | plain ht hsu r ih =>
    intro s3 up fl os ag wish
    obtain ⟨b, hm, hyes, hno⟩ := wish
    obtain ⟨hp, gg, dr, tt, oo⟩ := s3
    have J3 := J.landed (s' := ⟨hp, gg, dr, tt, oo⟩) nb fl.1 up os ag
    obtain ⟨oe3, vs3, he3, hz3, hd3⟩ := fl.there
    have nfr : a ∉ frs (X.env :: X.outer) := fun hm2 => by
      obtain ⟨_, o2, e2, hnf⟩ := fl.2.2.1.mem hm2
      rw [he3] at e2
      cases e2
      exact hnf _ hd3
    have nL : a ≠ X.env.locals := fun z => nfr (List.mem_filterMap.mpr ⟨X.env, List.mem_cons_self, by rw [hf, z]⟩)
    have nF : a ∉ X.fs := fun hm2 => by
      obtain ⟨e2, he2, q2⟩ := List.mem_filterMap.mp hm2
      exact nfr (List.mem_filterMap.mpr ⟨e2, List.mem_cons_of_mem _ he2, q2⟩)
    have LT : PySem.W.Looks (model X.prog X.w) hp (typeOf (.ref a)) cls := fun A Q E s k q => wpAny_typeOf_ref (k _ _ he3) (by rw [hz3.1]; exact q)
    refine wpAny_handleBy_cons (codeAny_handlers_test ?_) (by intro q; cases q)
    refine ht a ((a, oe3) :: (X.pn ++ pins)) σ H ⟨hp, gg, dr, tt, oo⟩ cls b _ _ (J3.suite he3 hd3 na nL nF) LT hm fun h5 k5 => ?_
    have fl5 := flies_on k5 fl
    have up5 := up.trans (ups_of k5)
    cases b with
    | true =>
      refine codeAny_handlers_suite ?_
      refine HandSPX.lands_againZ fl5 fun h4 fl4 up4 => ?_
      have J4 := J.landed (s' := ⟨h4, gg, dr, tt, oo⟩) nb fl4.1 (up5.trans up4) os ag
      obtain ⟨oe4, vs4, he4, hz4, hd4⟩ := fl4.there
      have nb0 : X.s_0.heap.get? a = none := by
        cases q : X.s_0.heap.get? a with
        | none => rfl
        | some o0 =>
          obtain ⟨o5, e5⟩ := J.base.there a o0 q (by rw [hex]; exact fun hx => nomatch hx)
          have e6 := nb a o5 e5 (by rw [hs]; exact nfr)
          rw [fl.2.1] at e6
          cases e6
      have nP : ∀ p ∈ X.pn ++ pins, p.1 ≠ a := fun p hp2 e => by
        have e7 := (J.pin p hp2).1
        rw [e] at e7
        have e8 := nb a _ e7 (by rw [hs]; exact nfr)
        rw [fl.2.1] at e8
        cases e8
      refine wpAny_mono ((hsu a oe4 cls d (X.pn ++ pins) hz4 ⟨_, hd4⟩).run [] _ σ H (endK none a cls d D) (J4.suite he4 hd4 na nL nF) (hyes rfl a na)) (fun f s6 hsp => ?_) (fun _ _ z => False.elim z)
      cases f with
      | next =>
        obtain ⟨σ6, H6, S6, q6⟩ := hsp
        obtain ⟨p1, p2, p3, p4, p5⟩ := S6.pin (a, oe4) (List.mem_append_left _ List.mem_cons_self)
        have J6 := S6.unsuite ok
        exact ⟨σ6, _, trk J6 p2 nb0 nL (fun x c e z => by
          obtain ⟨v, q⟩ := J6.cell x c e
          rw [z] at q
          exact nocell p1 hd4 q) nP (exk_ok p1 hz4 hd4), q6 p2⟩
      | brk =>
        obtain ⟨σ6, H6, S6, q6⟩ := hsp
        exact ⟨σ6, H6, S6.unsuite ok, q6⟩
      | cont =>
        obtain ⟨σ6, H6, S6, q6⟩ := hsp
        exact ⟨σ6, H6, S6.unsuite ok, q6⟩
      | ret u =>
        obtain ⟨v6, σ6, H6, S6, r6, q6⟩ := hsp
        exact ⟨v6, σ6, H6, S6.unsuite ok, r6, q6⟩
    | false =>
      show wpAny _ X.A (handleBy (.ref a) X.env _) _ _ _
      exact ih (s3 := ⟨h5, gg, dr, tt, oo⟩) up5 fl5 os ag (hno rfl)
  | named ht hi hl hsu r ih =>
    intro s3 up fl os ag wish
    obtain ⟨b, hm, hyes, hno⟩ := wish
    obtain ⟨hp, gg, dr, tt, oo⟩ := s3
    have J3 := J.landed (s' := ⟨hp, gg, dr, tt, oo⟩) nb fl.1 up os ag
    obtain ⟨oe3, vs3, he3, hz3, hd3⟩ := fl.there
    have nfr : a ∉ frs (X.env :: X.outer) := fun hm2 => by
      obtain ⟨_, o2, e2, hnf⟩ := fl.2.2.1.mem hm2
      rw [he3] at e2
      cases e2
      exact hnf _ hd3
    have nL : a ≠ X.env.locals := fun z => nfr (List.mem_filterMap.mpr ⟨X.env, List.mem_cons_self, by rw [hf, z]⟩)
    have nF : a ∉ X.fs := fun hm2 => by
      obtain ⟨e2, he2, q2⟩ := List.mem_filterMap.mp hm2
      exact nfr (List.mem_filterMap.mpr ⟨e2, List.mem_cons_of_mem _ he2, q2⟩)
    have LT : PySem.W.Looks (model X.prog X.w) hp (typeOf (.ref a)) cls := fun A Q E s k q => wpAny_typeOf_ref (k _ _ he3) (by rw [hz3.1]; exact q)
    refine wpAny_handleBy_cons (codeAny_handlers_test ?_) (by intro q; cases q)
    refine ht a ((a, oe3) :: (X.pn ++ pins)) σ H ⟨hp, gg, dr, tt, oo⟩ cls b _ _ (J3.suite he3 hd3 na nL nF) LT hm fun h5 k5 => ?_
    have fl5 := flies_on k5 fl
    have up5 := up.trans (ups_of k5)
    cases b with
    | true =>
      refine codeAny_handlers_suite_as ?_
      refine HandSPX.lands_againZ fl5 fun h4 fl4 up4 => ?_
      have J4 := J.landed (s' := ⟨h4, gg, dr, tt, oo⟩) nb fl4.1 (up5.trans up4) os ag
      obtain ⟨oe4, vs4, he4, hz4, hd4⟩ := fl4.there
      have nb0 : X.s_0.heap.get? a = none := by
        cases q : X.s_0.heap.get? a with
        | none => rfl
        | some o0 =>
          obtain ⟨o5, e5⟩ := J.base.there a o0 q (by rw [hex]; exact fun hx => nomatch hx)
          have e6 := nb a o5 e5 (by rw [hs]; exact nfr)
          rw [fl.2.1] at e6
          cases e6
      have nP : ∀ p ∈ X.pn ++ pins, p.1 ≠ a := fun p hp2 e => by
        have e7 := (J.pin p hp2).1
        rw [e] at e7
        have e8 := nb a _ e7 (by rw [hs]; exact nfr)
        rw [fl.2.1] at e8
        cases e8
      have out : ∀ {pp : Pos} {s6 : Shared} {σ6 : L2.St} {H6 : Hp} {Q : Shared → Prop}, Inv X pins σ6 H6 s6 → (∀ s7, Inv X pins (σ6.set _ none) H6 s7 → Q s7) → wpAny (model X.prog X.w) X.A (do bindName X.env _ .none; unbindBehindTheSuite X.env _ pp) (fun _ s7 => Q s7) X.xe s6 := fun {pp s6 σ6 H6 Q} J6 q => gone_ok J6 hN hi hl q
      refine store_ok (X := X.suite a ((a, oe4) :: (X.pn ++ pins))) (v := .ref a) (J4.suite he4 hd4 na nL nF) hN hi (.inl hl) rfl (fun s5 S5 => ?_) (.inr hl)
      refine wpAny_mono ((hsu a oe4 cls d (X.pn ++ pins) hz4 ⟨_, hd4⟩).run [] s5 _ H (endK _ a cls d D) S5 (hyes rfl a na)) (fun f s6 hsp => ?_) (fun _ _ z => False.elim z)
      cases f with
      | next =>
        obtain ⟨σ6, H6, S6, q6⟩ := hsp
        obtain ⟨p1, p2, p3, p4, p5⟩ := S6.pin (a, oe4) (List.mem_append_left _ List.mem_cons_self)
        have J6 := S6.unsuite ok
        have J7 := trk J6 p2 nb0 nL (fun x c e z => by
          obtain ⟨v, q⟩ := J6.cell x c e
          rw [z] at q
          exact nocell p1 hd4 q) nP (exk_ok p1 hz4 hd4)
        exact out J7 fun s7 J8 => ⟨_, _, J8, q6 p2⟩
      | brk =>
        obtain ⟨σ6, H6, S6, q6⟩ := hsp
        exact out (S6.unsuite ok) fun s7 J7 => ⟨_, _, J7, q6⟩
      | cont =>
        obtain ⟨σ6, H6, S6, q6⟩ := hsp
        exact out (S6.unsuite ok) fun s7 J7 => ⟨_, _, J7, q6⟩
      | ret u =>
        obtain ⟨v6, σ6, H6, S6, r6, q6⟩ := hsp
        exact out (S6.unsuite ok) fun s7 J7 => ⟨_, _, _, J7, r6, q6⟩
    | false =>
      show wpAny _ X.A (handleBy (.ref a) X.env _) _ _ _
      exact ih (s3 := ⟨h5, gg, dr, tt, oo⟩) up5 fl5 os ag (hno rfl)
/-- try: body, except A as n: .., except (B, C ..): .. -/
theorem ps_tryK (hs : X.stack = X.env :: X.outer) (hf : X.env.frame = some X.env.locals) (hN : X.N.Nodup) (hex : X.ex = []) (tk : Takes X Wout)
    (hb : ∀ (W : WX) (pn : List (Addr × Obj)) (xe : Value → Shared → Prop), Takes (X.tr pn xe) W → PSs (X.tr pn xe) body (tb W)) (hh : HdK X (h₀ :: hds) cs) :
    PS X (.Try body (h₀ :: hds) [] [] pos) (fun D σ H => tb (wK Wout D cs) D σ H) := by
  refine ⟨fun pins s σ H D I h => ?_⟩
  have ok := I.ok
  have hfr : X.A.frames = some (X.env :: X.outer) := by
    rw [ok.frames, hs]
  refine wpAny_Try_except (wpAny_mono ((hb (wK Wout D cs) (X.pn ++ pins) _ (fun u s2 xx => ?_)).run [] s σ H D (I.toTry _) h) (fun f s1 hsp => ?_) (fun e s1 he => he))
  · obtain ⟨a, B, sI, pn2, σ2, H2, cls, d, rfl, J0, nb, up, sky, na, os, ag, wish⟩ := xx
    have J : Inv X pins σ2 H2 sI := J0.ofTry ok
    have sky2 : Sky B (X.env :: X.outer) a (Zc cls d) X.env.locals s2.heap := by
      rw [← hs]
      exact sky
    refine Sky.land Zc.steady hfr hf sky2 fun h3 fl3 up3 => ?_
    exact go_cl hs hf hN hex tk J nb na hh (s3 := { s2 with heap := h3 }) (up.trans up3) fl3 os ag wish
  · cases f with
    | next =>
      obtain ⟨σ2, H2, J, q⟩ := hsp
      exact wpAny_execs_nil ⟨σ2, H2, J.ofTry ok, q⟩
    | brk =>
      obtain ⟨σ2, H2, J, q⟩ := hsp
      exact ⟨σ2, H2, J.ofTry ok, q⟩
    | cont =>
      obtain ⟨σ2, H2, J, q⟩ := hsp
      exact ⟨σ2, H2, J.ofTry ok, q⟩
    | ret u =>
      obtain ⟨v2, σ2, H2, J, r, q⟩ := hsp
      exact ⟨v2, σ2, H2, J.ofTry ok, r, q⟩
end
/-! ### what is asked of them -/
section
open PySem.W PySem.Calls
variable {prog : Program} {w : World} {A : Around} {E : Value → Shared → Prop} {s : Shared} {K : Frag} {x D : Addr} {ox : Obj}
theorem find_cls {od : Option Obj} {n : Str} {v g : Value} (c : (clsIn K D).isSome = true) (e : findIn K (.ref D) n = some (some v)) (eg : specialIn K v "__get__" = some (some g)) (et : takesIn K v = some true) : findObj K D od n = some (.bind g v) := by
  obtain ⟨cd, c⟩ := Option.isSome_iff_exists.mp c
  unfold findObj
  rw [c, Option.bind_some, e, Option.bind_some]
  simp [eg, et]
/-- e.__class__ of an own exception, with a dict or without -/
theorem cls_exc {od : Option Obj} {Q : Option Value → Shared → Prop} (T : ExcC K D) (k : K.In s.heap) (I : InstAt s.heap x ox D od) (q : Q (some (.ref D)) { s with toks := s.toks + 1 }) : wpAny (model prog w) A (getAttr? (.ref x) "__class__") Q E s := by
  have hf : findObj K D od "__class__" = some (.bind (.builtin "getset_descriptor.__get__") (.builtin "object.__class__")) := find_cls (by obtain ⟨cd, c, _⟩ := any_some T.hd; rw [c] <;> rfl) T.ha T.hn T.ht
  obtain ⟨hp, gg, dr, tt, oo⟩ := s
  have l0 := I.type (M := model prog w)
  have l1 := looks_findIn (M := model prog w) k T.hg
  have l2 := looks_findIn (M := model prog w) k T.hk
  have l3 := looks_find (M := model prog w) k I hf
  have su : Looks (model prog w) hp (isInstance (.ref x) (.type "BaseException")) true := l0.andThen (looks_subIn k T.hs)
  have n1 : (onTheHeap (Value.ref D) && Value.builtin "BaseException.__getattribute__" == Value.builtin "object.__getattribute__") = false := by
    rw [show (Value.builtin "BaseException.__getattribute__" == Value.builtin "object.__getattribute__") = false by decide +kernel] <;> rfl
  unfold getAttr? getAttrBy? getAttrBy
  refine wpAny_bind (wpAny_mkText (wpAny_bind (wpAny_attempt (wpAny_holding (wpAny_bind (l0.at (wpAny_bind (l1.at ?_))))))))
  show wpAny _ _ (if (onTheHeap (Value.ref D) && Value.builtin "BaseException.__getattribute__" == Value.builtin "object.__getattribute__") = true then _ else _) _ _ _
  rw [n1, if_neg Bool.false_ne_true]
  unfold getAttrByItsOwn hookBefore
  refine wpAny_bind ?_
  rw [if_pos (show onTheHeap (Value.ref D) = true from rfl)]
  refine l2.at (wpAny_bind (wpAny_attempt (wpAny_holding ?_)))
  unfold callGetattribute
  rw [show (false && onTheHeap (Value.builtin "BaseException.__getattribute__")) = false from rfl, if_neg Bool.false_ne_true]
  unfold boundAndCalled
  rw [PySem.F.excAttr_ValueError.ga.bind (.ref x)]
  refine wpAny_bind (wpAny_pure ?_)
  show wpAny _ _ (call (.builtin "BaseException.__getattribute__") [.ref x, .str "__class__" tt]) _ _ _
  refine wpAny_call (codeAny_call_builtin PySem.F.excAttr_ValueError.ga.plain PySem.F.entry_bexc_ga ?_)
  refine @check_slot (model prog w) _ _ ⟨hp, gg, dr, tt + 1, oo⟩ "BaseException.__getattribute__" "BaseException" "__getattribute__" (.ref x) [.str "__class__" tt] [] _ (by decide +kernel) (by decide +kernel) su (PySem.F.args_bexc_ga (.ref x) (.str "__class__" tt)) ?_
  unfold Builtin.«object.__getattribute__»
  refine wpAny_bind (wpAny_of_eq (a := ((Value.ref x : Value), [Value.str "__class__" tt])) (by first | rfl | (simp only [slotArgs] <;> rfl)) ?_)
  refine wpAny_bind (wpAny_pure (wpAny_bind (l0.at (wpAny_bind (l3.at ?_)))))
  show wpAny _ _ (holding [Value.builtin "object.__class__"] (call (.builtin "getset_descriptor.__get__") [.builtin "object.__class__", .ref x, .ref D]) >>= ret) _ _ _
  refine wpAny_bind (wpAny_holding (wpAny_call (class_get (s := ⟨hp, gg, dr, tt + 1, oo⟩) (ox := ox) (od := od) k I T.hm (wpAny_pure ?_))))
  show wpAny _ _ (handedOut (.ref D)) _ _ _
  rw [handedOut_of (v := .ref D) rfl]
  first
    | exact wpAny_pure (wpAny_pure q)
    | exact wpAny_pure q
    | exact wpAny_pure (wpAny_bind (wpAny_pure (wpAny_pure q)))
theorem kit_exc (T : ExcC K D) : KitX K (.ref x) (.ref D) (fun h => ∃ (ox : Obj) (od : Option Obj), InstAt h x ox D od) where
  ty := fun _ _ _ ⟨_, _, I⟩ => I.type
  it := fun _ _ k _ => by
    obtain ⟨cd, c, _⟩ := any_some T.hd
    unfold clsIn at c
    split at c
    · rename_i e
      intro A2 Q2 E2 s2 k2 q2
      unfold isType loadHead
      exact wpAny_bind (wpAny_loadPart (k2 _ _ (k _ _ e)) (wpAny_pure q2))
    · cases c
  ne := fun h tp dd its n sl k e => by
    obtain ⟨cd, c, _⟩ := any_some T.hd
    refine Bool.eq_false_iff.mpr fun q => ?_
    have e2 : D = tp := Value.ref.inj (beq_iff_eq.mp q)
    subst e2
    unfold clsIn at c
    split at c
    · rename_i e3
      have z := (k _ _ e3).symm.trans e
      cases z
    · cases c
  ca := fun k ⟨_, _, I⟩ q => cls_exc T k I q
end
/-- its dict is tracked, too -/
def KDk (H : Hp) (d : Option Addr) : Prop := d = none ∨ ∃ (dd : Addr) (fs : List (Str × V)), d = some dd ∧ H dd = some (.xd fs)
theorem ins_exk {P : Program} {w : World} {H : Hp} {h : Heap} {a D : Addr} {d : Option Addr} (hok : HOk P w H h) (e : H a = some (exk a (.ref D) d)) (kd : KDk H d) : ∃ (ox : Obj) (od : Option Obj), PySem.W.InstAt h a ox D od := by
  obtain ⟨oe, vs, e1, z, f⟩ := exk_at hok e
  have nc : PySem.W.notCls oe = true := by
    unfold PySem.W.notCls
    rw [f] <;> rfl
  rcases kd with rfl | ⟨dd, fs, rfl, ed⟩
  · exact ⟨oe, none, e1, z.1, nc, by rw [z.2]; exact True.intro⟩
  · have x : ObjOk P w H h dd (.xd fs) := hok dd _ ed
    obtain ⟨mA, hns, _⟩ := x
    obtain ⟨od, ho, _⟩ := lookIn_ns hns
    exact ⟨oe, some od, e1, z.1, nc, by rw [z.2]; exact ho⟩
/-- isinstance(e, C) -/
def rIsK (K : PySem.W.Frag) : List V → Hp → VK → Prop := fun xs H Q => ∃ (a D : Addr) (d : Option Addr) (c : V) (cv : Value) (b : Bool), xs = [.ref a, c] ∧ H a = some (exk a (.ref D) d) ∧ KDk H d ∧ ExcC K D ∧ ClsV c cv ∧ PySem.W.kitOne K (.ref D) cv = some b ∧ Q (.bl b) H
section
variable {X : Cx}
theorem clIsK {K : PySem.W.Frag} (hK : X.K = K := by rfl) : CallR X (.builtin "isinstance") (rIsK K) := by
  subst hK
  intro pins s σ H xs us Q I r h
  obtain ⟨a, D, d, c, cv, b, rfl, e, kd, T, k, eb, q⟩ := h
  obtain ⟨u1, u2, rfl, r1, r2⟩ := vals2 r
  cases (show u1 = Value.ref a from r1)
  have e2 := k.eq r2
  subst e2
  exact PySem.W.kia_one (kit_exc T) I.kIn (ins_exk I.hok e kd) eb (fun z => nomatch z) fun tk => ⟨.bl b, H, I.tok tk, rfl, q⟩
/-- e.f of a kept exception -/
def gKf (C : Addr) (f : Str) (x : V) (H : Hp) (Q : VK) : Prop := ∃ (a dd : Addr) (fs : List (Str × V)) (v : V), x = .ref a ∧ H a = some (exk a (.ref C) (some dd)) ∧ H dd = some (.xd fs) ∧ fs.lookup f = some v ∧ Q v H
def tKf (C : Addr) (f : Str) (te : TE) : TE := fun σ H Q => te σ H fun x H1 => gKf C f x H1 Q
end
/-! ### the steps -/
def tTryK (tb : WX → TS) (Wout : WX) (cs : List Cl) : TS := fun D σ H => tb (wK Wout D cs) D σ H
section
variable {K : PySem.W.Frag} {σ : L2.St} {H : Hp} {Q : VK} {f : Str} {D : Ends} {Wout : WX} {tb : WX → TS} {te : TE} {C : Addr} {cl : Cl} {r : List Cl} {cs : List Cl} {cls : Value} {d : Option Addr}
theorem x_tryK (q : tb (wK Wout D cs) D σ H) : tTryK tb Wout cs D σ H := q
instance : Step (tTryK tb Wout cs D σ H) (tb (wK Wout D cs) D σ H) := ⟨x_tryK⟩ -- st
theorem x_kf (q : te σ H fun x H1 => gKf C f x H1 Q) : tKf C f te σ H Q := q
instance : Step (tKf C f te σ H Q) (te σ H fun x H1 => gKf C f x H1 Q) := ⟨x_kf⟩ -- st
theorem w_clY {m : Value → Option Bool} {i : Nat} {ts : Addr → Value → Option Addr → TS} (h : m cls = some true) (q : ∀ a, H a = none → ts a cls d ⟨fun σ2 H2 => H2 a = none → D.nx (σ2.set i none) (upd H2 a (exk a cls d)), D.rt, fun σ2 H2 => D.bk (σ2.set i none) H2, fun σ2 H2 => D.ct (σ2.set i none) H2⟩ (σ.set i (some (.ref a))) H) :
    wK Wout D (⟨m, some i, ts⟩ :: r) cls d σ H := ⟨true, h, fun _ => q, fun z => nomatch z⟩
theorem w_clN (h : cl.m cls = some false) (q : wK Wout D r cls d σ H) : wK Wout D (cl :: r) cls d σ H := ⟨false, h, fun z => (nomatch z), fun _ => q⟩
end
/-- the same by the reading's name -/
theorem ps_keep {X : Cx} {body : List Stmt} {h₀ : ExceptHandler} {hds : List ExceptHandler} {cs : List Cl} {pos : Pos} {tb : WX → TS} {Wout : WX} (hs : X.stack = X.env :: X.outer) (hf : X.env.frame = some X.env.locals) (hN : X.N.Nodup) (hex : X.ex = []) (tk : Takes X Wout)
    (hb : ∀ (W : WX) (pn : List (Addr × Obj)) (xe : Value → Shared → Prop), Takes (X.tr pn xe) W → PSs (X.tr pn xe) body (tb W)) (hh : HdK X (h₀ :: hds) cs) : PS X (.Try body (h₀ :: hds) [] [] pos) (tTryK tb Wout cs) := ps_tryK hs hf hN hex tk hb hh
/-- raise C(e), the class read off K -/
theorem ps_raiseFK {X : Cx} {K : PySem.W.Frag} {B newId initId : String} {tail : List Value} {C f : Str} {t : TA} {e : Expr} {p pos pos2 : Pos} {k j : Nat} {ps : List Str} {W : WX} (XB : XBase B newId initId tail) (hc : X.calm = true) (T : XF K X.mg B newId initId tail C f) (D : DXI X.prog X.w K X.mg X.base k C f ps) (hr : Room j X.A) (tk : Takes X W) (ha : PA X [e] t) (hK : X.K = K := by rfl) (hj : k + 1 ≤ j := by first | decide | omega) (hg : Gl X C := by rfl) (hdb : (C == ("__debug__" : Str)) = false := by decide)
    (he : starEach (e :: []) X.env = (false, eval e X.env) :: starEach [] X.env := by rfl) (hpl : (backTo pos (starEach [] X.env)).any (·.1) = false := by rfl) :
    PS X (.Raise (some (.Call (.Name C p) [e] [] pos)) none pos2) (tRaiseF (He.ga K C) f W t) := by
  subst hK
  exact ps_raiseF XB hc T D hr tk ha hj hg hdb he hpl
/-- isinstance asks its instances rightly -/
def excB (K : PySem.W.Frag) (C : Str) : Bool := eqV2 (PySem.W.findIn K (.ref (He.ga K C)) "__getattribute__") (some (some (.builtin "BaseException.__getattribute__"))) && (eqV2 (PySem.W.findIn K (.ref (He.ga K C)) "__getattr__") (some none) &&
  (decide (PySem.W.subIn K (.ref (He.ga K C)) (.type "BaseException") = some true) && (PySem.W.hasDictIn K (He.ga K C) && (eqV2 (PySem.W.findIn K (.ref (He.ga K C)) "__class__") (some (some (.builtin "object.__class__"))) &&
  (eqV2 (PySem.W.specialIn K (.builtin "object.__class__") "__get__") (some (some (.builtin "getset_descriptor.__get__"))) && (decide (PySem.W.takesIn K (.builtin "object.__class__") = some true) && decide (PySem.W.mroIn K (He.ga K C) (.type "object") = some true)))))))
theorem excB_ok {K : PySem.W.Frag} {C : Str} (h : excB K C = true) : ExcC K (He.ga K C) := by
  unfold excB at h
  simp only [Bool.and_eq_true, eqV2, decide_eq_true_eq] at h
  obtain ⟨h1, h2, h3, h4, h5, h6, h7, h8⟩ := h
  exact ⟨h1, h2, h3, h4, h5, h6, h7, h8⟩
end R
namespace R
open PySem PySem.Spec PyProof.Rows L2
/-! ### an instance made within a comprehension -/
/-! ### a change made of a list that may change -/
/-! ### xs.insert(i, y), str(x) of a text or a number, over a tuple -/
section
variable {X : Cx}
def rStrQ : List V → Hp → VK → Prop := fun xs H Q => (∃ a : Str, xs = [.str a] ∧ Q (.str a) H) ∨ ∃ i : Int, xs = [.int i] ∧ i.natAbs.log2 < 1920 ∧ Q (.str (toString i)) H
theorem clStrQ : CallR X (.type "str") rStrQ := by
  intro pins s σ H xs us Q I r h
  rcases h with ⟨a, e, q⟩ | ⟨i, e, hl, q⟩
  · exact SkE.call_str_str pins s σ H xs us Q I r ⟨a, e, q⟩
  · exact call_str_int pins s σ H xs us Q I r ⟨i, e, hl, q⟩
end
section
variable {K : PySem.W.Frag} {M : List Addr} {F0 H0 F H : Hp} {L L1 Rs : List Own} {σ : L2.St} {Q : VK} {g : TG} {tt : TT} {te : TE} {vs : List Nat} {a p : Addr} {xs : List V} {i : Int} {y : V}
theorem n_lcT (xs : List V) (w : W M F0 H0 F H L) (P : Nat → List V → List Own → Prop) (h0 : P 0 [] L1) (hl : ∀ i ys L F H D, P i ys L → W M F0 H0 F H (mu D (.lst ys) :: L) → SqT K H a xs)
    (hs : ∀ (i : Nat) x ys L F H D, xs[i]? = some x → P i ys L → W M F0 H0 F H (mu D (.lst ys) :: L) → H0 D = none → g x (wipe σ vs) H fun σ2 H2 => wipe σ2 vs = wipe σ vs ∧ tt σ2 H2 fun b H3 =>
      if b = true then te σ2 H3 (accG D (NxC M F0 H0 (P (i + 1)) D)) else NxC M F0 H0 (P (i + 1)) D H3)
    (hd : ∀ D ys L F H, P xs.length ys L → W M F0 H0 F H (mu D (.lst ys) :: L) → H0 D = none → Q (.ref D) H) (k : Pk L L1 := by walk_at "pk") : lcG g tt te vs (Itt K a) σ H Q := by
  refine n_lcJ (Itt K a) xs.length w P h0 (fun i ys L F H D hi h w => ⟨xs, xs[i], hl i ys L F H D h w, List.getElem?_eq_getElem hi⟩) (fun ys L F H D h w => ⟨xs, hl _ ys L F H D h w, Nat.le_refl _⟩) (fun i x ys L F H H' D hi h w y hD => ?_) hd k
  obtain ⟨rfl, y⟩ := y
  exact hs i x ys L F _ D (y xs (hl i ys L F _ D h w)) h w hD
end
/-! ### a row's words -/
def rowS : CRow → List Str
  | .put s => [Str.ofString "put", s]
  | .copy a n => [Str.ofString "copy", numS a, numS n]
theorem joinL_sp (a b : List Nat) : TL.joinL [32] [a, b] = a ++ 32 :: b := by simp [TL.joinL]
theorem joinL_sp3 (a b c : List Nat) : TL.joinL [32] [a, b, c] = a ++ 32 :: (b ++ 32 :: c) := by simp [TL.joinL]
theorem sp_tl : TL.tl (Str.ofString " ") = [32] := by decide +kernel
theorem put_sp : cd (Str.ofString "put ") = cd (Str.ofString "put") ++ [32] := by decide +kernel
theorem copy_sp : cd (Str.ofString "copy ") = cd (Str.ofString "copy") ++ [32] := by decide +kernel
theorem sp_cd : cd (Str.ofString " ") = [32] := by decide +kernel
theorem rowS_join (r : CRow) : cd (Txt.join (Str.ofString " ") (rowS r)) = rowW r := by
  have e : TL.tl (Txt.join (Str.ofString " ") (rowS r)) = TL.joinL [32] ((rowS r).map TL.tl) := by
    rw [TL.join_eq, TL.tl_join]
    first | rfl | (rw [sp_tl]) | (congr 1; done)
  refine e.trans ?_
  cases r with
  | put s =>
    show TL.joinL [32] [cd (Str.ofString "put"), cd s] = cd (Str.ofString "put ") ++ cd s
    rw [joinL_sp, put_sp, List.append_assoc]
    rfl
  | copy a n =>
    show TL.joinL [32] [cd (Str.ofString "copy"), cd (numS a), cd (numS n)] = cd (Str.ofString "copy ") ++ cd (numS a) ++ cd (Str.ofString " ") ++ cd (numS n)
    rw [joinL_sp3, copy_sp, sp_cd]
    simp
theorem slen_put0 : (Str.ofString "put").length = 3 := by decide +kernel
theorem slen_copy0 : (Str.ofString "copy").length = 4 := by decide +kernel
theorem rowS_len {r : CRow} {n : Nat} (h : CRowOk n r) (hn : n ≤ 400) (hg : r.gives ≤ 400) : ((rowS r).map (·.length)).sum + (rowS r).length * (Str.ofString " ").length ≤ 16777216 := by
  rw [slen_sp]
  cases r with
  | put s =>
    have hs : s.length ≤ 400 := hg
    show (Str.ofString "put").length + (s.length + 0) + 2 * 1 ≤ _
    rw [slen_put0]
    omega
  | copy a m =>
    have h1 : a + m ≤ n := h.h
    have h2 := (num_ok (n := a) (by omega)).2
    have h3 := (num_ok (n := m) (by omega)).2
    show (Str.ofString "copy").length + ((numS a).length + ((numS m).length + 0)) + 3 * 1 ≤ _
    rw [slen_copy0]
    omega
/-- the words of a row, one by one -/
theorem rowS_at {r : CRow} {n i : Nat} {x : V} (h : CRowOk n r) (hn : n ≤ 400) (hx : r.vals[i]? = some x) : ∃ s, (rowS r)[i]? = some s ∧ (x = .str s ∨ ∃ k : Nat, k ≤ 400 ∧ x = .int (k : Nat) ∧ s = numS k) := by
  cases r with
  | put z =>
    match i, hx with
    | 0, hx => cases hx; exact ⟨_, rfl, .inl rfl⟩
    | 1, hx => cases hx; exact ⟨_, rfl, .inl rfl⟩
  | copy a m =>
    have h1 : a + m ≤ n := h.h
    match i, hx with
    | 0, hx => cases hx; exact ⟨_, rfl, .inl rfl⟩
    | 1, hx => cases hx; exact ⟨_, rfl, .inr ⟨a, by omega, rfl, rfl⟩⟩
    | 2, hx => cases hx; exact ⟨_, rfl, .inr ⟨m, by omega, rfl, rfl⟩⟩
theorem rowS_vals (r : CRow) : (rowS r).length = r.vals.length := by cases r <;> rfl
theorem rowS_le (r : CRow) : (rowS r).length ≤ 3 := by
  cases r with
  | put s => exact (show (2 : Nat) ≤ 3 by decide)
  | copy a n => exact Nat.le_refl 3
theorem dp_row {K : PySem.W.Frag} {F : Hp} {v : V} {r : CRow} (h : Dp K F v r.d) : ∃ p, v = .ref p ∧ SqT K F p r.vals := by
  cases r with
  | put s =>
    obtain ⟨p, e, h⟩ := dp_cput h
    exact ⟨p, e, h⟩
  | copy a n =>
    obtain ⟨p, e, h⟩ := dp_ccopy h
    exact ⟨p, e, h⟩
/-! ### two changes of one size, and their rows -/
structure Pr (K : PySem.W.Frag) (F : Hp) (n : Nat) (x y : V) (cv : Nat → V) (rw : Nat → List CRow) (pv : Nat → Addr) (pvs : Nat → List V) : Prop where
  cl : ∃ ca, x = .ref ca ∧ SqL K F ca [cv 0, cv 1]
  rl : ∃ ra, y = .ref ra ∧ SqL K F ra [.ref (pv 0), .ref (pv 1)]
  it : ∀ i, i < 2 → SqL K F (pv i) (pvs i) ∧ DpAll K F (pvs i) ((rw i).map CRow.d) ∧ Chg K F (cv i) n (rw i) ∧ RowsOk n (rw i)
theorem Pr.same {K : PySem.W.Frag} {F F2 : Hp} {n : Nat} {x y : V} {cv : Nat → V} {rw : Nat → List CRow} {pv : Nat → Addr} {pvs : Nat → List V} (s : Same F F2) (h : Pr K F n x y cv rw pv pvs) : Pr K F2 n x y cv rw pv pvs := by
  obtain ⟨⟨ca, e, h1⟩, ⟨ra, e2, h2⟩, h3⟩ := h
  refine ⟨⟨ca, e, sqL_same s h1⟩, ⟨ra, e2, sqL_same s h2⟩, fun i hi => ?_⟩
  obtain ⟨a, b, c, d⟩ := h3 i hi
  exact ⟨sqL_same s a, dpa_same s _ _ b, c.same s, d⟩
def pr (K : PySem.W.Frag) (n : Nat) (x y : V) (cv : Nat → V) (rw : Nat → List CRow) (pv : Nat → Addr) (pvs : Nat → List V) : Own := pur (fun F => Pr K F n x y cv rw pv pvs) fun s h => h.same s
/-! ### promises of k10 -/
end R
namespace R
open PySem L2
/-! ### slots behind the fourteenth -/
section
variable {a0 a1 a2 a3 a4 a5 a6 a7 a8 a9 a10 a11 a12 a13 a14 a15 a16 a17 a18 a19 a20 a21 a22 a23 : Option V} {r : L2.St} {H : Hp} {Q : VK} {N : L2.St → Hp → Prop} {x : V}
theorem w_v14 (q : Q x H) : tVar 14 (a0 :: a1 :: a2 :: a3 :: a4 :: a5 :: a6 :: a7 :: a8 :: a9 :: a10 :: a11 :: a12 :: a13 :: some x :: r) H Q := ⟨x, rfl, q⟩
instance : Step (tVar 14 (a0 :: a1 :: a2 :: a3 :: a4 :: a5 :: a6 :: a7 :: a8 :: a9 :: a10 :: a11 :: a12 :: a13 :: some x :: r) H Q) (Q x H) := ⟨w_v14⟩ -- st
theorem w_n14 (q : N (a0 :: a1 :: a2 :: a3 :: a4 :: a5 :: a6 :: a7 :: a8 :: a9 :: a10 :: a11 :: a12 :: a13 :: some x :: r) H) : gName 14 x (a0 :: a1 :: a2 :: a3 :: a4 :: a5 :: a6 :: a7 :: a8 :: a9 :: a10 :: a11 :: a12 :: a13 :: a14 :: r) H N := q
instance : Step (gName 14 x (a0 :: a1 :: a2 :: a3 :: a4 :: a5 :: a6 :: a7 :: a8 :: a9 :: a10 :: a11 :: a12 :: a13 :: a14 :: r) H N) (N (a0 :: a1 :: a2 :: a3 :: a4 :: a5 :: a6 :: a7 :: a8 :: a9 :: a10 :: a11 :: a12 :: a13 :: some x :: r) H) := ⟨w_n14⟩ -- st
theorem w_v15 (q : Q x H) : tVar 15 (a0 :: a1 :: a2 :: a3 :: a4 :: a5 :: a6 :: a7 :: a8 :: a9 :: a10 :: a11 :: a12 :: a13 :: a14 :: some x :: r) H Q := ⟨x, rfl, q⟩
instance : Step (tVar 15 (a0 :: a1 :: a2 :: a3 :: a4 :: a5 :: a6 :: a7 :: a8 :: a9 :: a10 :: a11 :: a12 :: a13 :: a14 :: some x :: r) H Q) (Q x H) := ⟨w_v15⟩ -- st
theorem w_n15 (q : N (a0 :: a1 :: a2 :: a3 :: a4 :: a5 :: a6 :: a7 :: a8 :: a9 :: a10 :: a11 :: a12 :: a13 :: a14 :: some x :: r) H) : gName 15 x (a0 :: a1 :: a2 :: a3 :: a4 :: a5 :: a6 :: a7 :: a8 :: a9 :: a10 :: a11 :: a12 :: a13 :: a14 :: a15 :: r) H N := q
instance : Step (gName 15 x (a0 :: a1 :: a2 :: a3 :: a4 :: a5 :: a6 :: a7 :: a8 :: a9 :: a10 :: a11 :: a12 :: a13 :: a14 :: a15 :: r) H N) (N (a0 :: a1 :: a2 :: a3 :: a4 :: a5 :: a6 :: a7 :: a8 :: a9 :: a10 :: a11 :: a12 :: a13 :: a14 :: some x :: r) H) := ⟨w_n15⟩ -- st
theorem w_v16 (q : Q x H) : tVar 16 (a0 :: a1 :: a2 :: a3 :: a4 :: a5 :: a6 :: a7 :: a8 :: a9 :: a10 :: a11 :: a12 :: a13 :: a14 :: a15 :: some x :: r) H Q := ⟨x, rfl, q⟩
instance : Step (tVar 16 (a0 :: a1 :: a2 :: a3 :: a4 :: a5 :: a6 :: a7 :: a8 :: a9 :: a10 :: a11 :: a12 :: a13 :: a14 :: a15 :: some x :: r) H Q) (Q x H) := ⟨w_v16⟩ -- st
theorem w_n16 (q : N (a0 :: a1 :: a2 :: a3 :: a4 :: a5 :: a6 :: a7 :: a8 :: a9 :: a10 :: a11 :: a12 :: a13 :: a14 :: a15 :: some x :: r) H) : gName 16 x (a0 :: a1 :: a2 :: a3 :: a4 :: a5 :: a6 :: a7 :: a8 :: a9 :: a10 :: a11 :: a12 :: a13 :: a14 :: a15 :: a16 :: r) H N := q
instance : Step (gName 16 x (a0 :: a1 :: a2 :: a3 :: a4 :: a5 :: a6 :: a7 :: a8 :: a9 :: a10 :: a11 :: a12 :: a13 :: a14 :: a15 :: a16 :: r) H N) (N (a0 :: a1 :: a2 :: a3 :: a4 :: a5 :: a6 :: a7 :: a8 :: a9 :: a10 :: a11 :: a12 :: a13 :: a14 :: a15 :: some x :: r) H) := ⟨w_n16⟩ -- st
theorem w_v17 (q : Q x H) : tVar 17 (a0 :: a1 :: a2 :: a3 :: a4 :: a5 :: a6 :: a7 :: a8 :: a9 :: a10 :: a11 :: a12 :: a13 :: a14 :: a15 :: a16 :: some x :: r) H Q := ⟨x, rfl, q⟩
instance : Step (tVar 17 (a0 :: a1 :: a2 :: a3 :: a4 :: a5 :: a6 :: a7 :: a8 :: a9 :: a10 :: a11 :: a12 :: a13 :: a14 :: a15 :: a16 :: some x :: r) H Q) (Q x H) := ⟨w_v17⟩ -- st
theorem w_n17 (q : N (a0 :: a1 :: a2 :: a3 :: a4 :: a5 :: a6 :: a7 :: a8 :: a9 :: a10 :: a11 :: a12 :: a13 :: a14 :: a15 :: a16 :: some x :: r) H) : gName 17 x (a0 :: a1 :: a2 :: a3 :: a4 :: a5 :: a6 :: a7 :: a8 :: a9 :: a10 :: a11 :: a12 :: a13 :: a14 :: a15 :: a16 :: a17 :: r) H N := q
instance : Step (gName 17 x (a0 :: a1 :: a2 :: a3 :: a4 :: a5 :: a6 :: a7 :: a8 :: a9 :: a10 :: a11 :: a12 :: a13 :: a14 :: a15 :: a16 :: a17 :: r) H N) (N (a0 :: a1 :: a2 :: a3 :: a4 :: a5 :: a6 :: a7 :: a8 :: a9 :: a10 :: a11 :: a12 :: a13 :: a14 :: a15 :: a16 :: some x :: r) H) := ⟨w_n17⟩ -- st
theorem w_v18 (q : Q x H) : tVar 18 (a0 :: a1 :: a2 :: a3 :: a4 :: a5 :: a6 :: a7 :: a8 :: a9 :: a10 :: a11 :: a12 :: a13 :: a14 :: a15 :: a16 :: a17 :: some x :: r) H Q := ⟨x, rfl, q⟩
instance : Step (tVar 18 (a0 :: a1 :: a2 :: a3 :: a4 :: a5 :: a6 :: a7 :: a8 :: a9 :: a10 :: a11 :: a12 :: a13 :: a14 :: a15 :: a16 :: a17 :: some x :: r) H Q) (Q x H) := ⟨w_v18⟩ -- st
theorem w_n18 (q : N (a0 :: a1 :: a2 :: a3 :: a4 :: a5 :: a6 :: a7 :: a8 :: a9 :: a10 :: a11 :: a12 :: a13 :: a14 :: a15 :: a16 :: a17 :: some x :: r) H) : gName 18 x (a0 :: a1 :: a2 :: a3 :: a4 :: a5 :: a6 :: a7 :: a8 :: a9 :: a10 :: a11 :: a12 :: a13 :: a14 :: a15 :: a16 :: a17 :: a18 :: r) H N := q
instance : Step (gName 18 x (a0 :: a1 :: a2 :: a3 :: a4 :: a5 :: a6 :: a7 :: a8 :: a9 :: a10 :: a11 :: a12 :: a13 :: a14 :: a15 :: a16 :: a17 :: a18 :: r) H N) (N (a0 :: a1 :: a2 :: a3 :: a4 :: a5 :: a6 :: a7 :: a8 :: a9 :: a10 :: a11 :: a12 :: a13 :: a14 :: a15 :: a16 :: a17 :: some x :: r) H) := ⟨w_n18⟩ -- st
theorem w_v19 (q : Q x H) : tVar 19 (a0 :: a1 :: a2 :: a3 :: a4 :: a5 :: a6 :: a7 :: a8 :: a9 :: a10 :: a11 :: a12 :: a13 :: a14 :: a15 :: a16 :: a17 :: a18 :: some x :: r) H Q := ⟨x, rfl, q⟩
instance : Step (tVar 19 (a0 :: a1 :: a2 :: a3 :: a4 :: a5 :: a6 :: a7 :: a8 :: a9 :: a10 :: a11 :: a12 :: a13 :: a14 :: a15 :: a16 :: a17 :: a18 :: some x :: r) H Q) (Q x H) := ⟨w_v19⟩ -- st
theorem w_n19 (q : N (a0 :: a1 :: a2 :: a3 :: a4 :: a5 :: a6 :: a7 :: a8 :: a9 :: a10 :: a11 :: a12 :: a13 :: a14 :: a15 :: a16 :: a17 :: a18 :: some x :: r) H) : gName 19 x (a0 :: a1 :: a2 :: a3 :: a4 :: a5 :: a6 :: a7 :: a8 :: a9 :: a10 :: a11 :: a12 :: a13 :: a14 :: a15 :: a16 :: a17 :: a18 :: a19 :: r) H N := q
instance : Step (gName 19 x (a0 :: a1 :: a2 :: a3 :: a4 :: a5 :: a6 :: a7 :: a8 :: a9 :: a10 :: a11 :: a12 :: a13 :: a14 :: a15 :: a16 :: a17 :: a18 :: a19 :: r) H N) (N (a0 :: a1 :: a2 :: a3 :: a4 :: a5 :: a6 :: a7 :: a8 :: a9 :: a10 :: a11 :: a12 :: a13 :: a14 :: a15 :: a16 :: a17 :: a18 :: some x :: r) H) := ⟨w_n19⟩ -- st
theorem w_v20 (q : Q x H) : tVar 20 (a0 :: a1 :: a2 :: a3 :: a4 :: a5 :: a6 :: a7 :: a8 :: a9 :: a10 :: a11 :: a12 :: a13 :: a14 :: a15 :: a16 :: a17 :: a18 :: a19 :: some x :: r) H Q := ⟨x, rfl, q⟩
instance : Step (tVar 20 (a0 :: a1 :: a2 :: a3 :: a4 :: a5 :: a6 :: a7 :: a8 :: a9 :: a10 :: a11 :: a12 :: a13 :: a14 :: a15 :: a16 :: a17 :: a18 :: a19 :: some x :: r) H Q) (Q x H) := ⟨w_v20⟩ -- st
theorem w_n20 (q : N (a0 :: a1 :: a2 :: a3 :: a4 :: a5 :: a6 :: a7 :: a8 :: a9 :: a10 :: a11 :: a12 :: a13 :: a14 :: a15 :: a16 :: a17 :: a18 :: a19 :: some x :: r) H) : gName 20 x (a0 :: a1 :: a2 :: a3 :: a4 :: a5 :: a6 :: a7 :: a8 :: a9 :: a10 :: a11 :: a12 :: a13 :: a14 :: a15 :: a16 :: a17 :: a18 :: a19 :: a20 :: r) H N := q
instance : Step (gName 20 x (a0 :: a1 :: a2 :: a3 :: a4 :: a5 :: a6 :: a7 :: a8 :: a9 :: a10 :: a11 :: a12 :: a13 :: a14 :: a15 :: a16 :: a17 :: a18 :: a19 :: a20 :: r) H N) (N (a0 :: a1 :: a2 :: a3 :: a4 :: a5 :: a6 :: a7 :: a8 :: a9 :: a10 :: a11 :: a12 :: a13 :: a14 :: a15 :: a16 :: a17 :: a18 :: a19 :: some x :: r) H) := ⟨w_n20⟩ -- st
theorem w_v21 (q : Q x H) : tVar 21 (a0 :: a1 :: a2 :: a3 :: a4 :: a5 :: a6 :: a7 :: a8 :: a9 :: a10 :: a11 :: a12 :: a13 :: a14 :: a15 :: a16 :: a17 :: a18 :: a19 :: a20 :: some x :: r) H Q := ⟨x, rfl, q⟩
instance : Step (tVar 21 (a0 :: a1 :: a2 :: a3 :: a4 :: a5 :: a6 :: a7 :: a8 :: a9 :: a10 :: a11 :: a12 :: a13 :: a14 :: a15 :: a16 :: a17 :: a18 :: a19 :: a20 :: some x :: r) H Q) (Q x H) := ⟨w_v21⟩ -- st
theorem w_n21 (q : N (a0 :: a1 :: a2 :: a3 :: a4 :: a5 :: a6 :: a7 :: a8 :: a9 :: a10 :: a11 :: a12 :: a13 :: a14 :: a15 :: a16 :: a17 :: a18 :: a19 :: a20 :: some x :: r) H) : gName 21 x (a0 :: a1 :: a2 :: a3 :: a4 :: a5 :: a6 :: a7 :: a8 :: a9 :: a10 :: a11 :: a12 :: a13 :: a14 :: a15 :: a16 :: a17 :: a18 :: a19 :: a20 :: a21 :: r) H N := q
instance : Step (gName 21 x (a0 :: a1 :: a2 :: a3 :: a4 :: a5 :: a6 :: a7 :: a8 :: a9 :: a10 :: a11 :: a12 :: a13 :: a14 :: a15 :: a16 :: a17 :: a18 :: a19 :: a20 :: a21 :: r) H N) (N (a0 :: a1 :: a2 :: a3 :: a4 :: a5 :: a6 :: a7 :: a8 :: a9 :: a10 :: a11 :: a12 :: a13 :: a14 :: a15 :: a16 :: a17 :: a18 :: a19 :: a20 :: some x :: r) H) := ⟨w_n21⟩ -- st
theorem w_v22 (q : Q x H) : tVar 22 (a0 :: a1 :: a2 :: a3 :: a4 :: a5 :: a6 :: a7 :: a8 :: a9 :: a10 :: a11 :: a12 :: a13 :: a14 :: a15 :: a16 :: a17 :: a18 :: a19 :: a20 :: a21 :: some x :: r) H Q := ⟨x, rfl, q⟩
instance : Step (tVar 22 (a0 :: a1 :: a2 :: a3 :: a4 :: a5 :: a6 :: a7 :: a8 :: a9 :: a10 :: a11 :: a12 :: a13 :: a14 :: a15 :: a16 :: a17 :: a18 :: a19 :: a20 :: a21 :: some x :: r) H Q) (Q x H) := ⟨w_v22⟩ -- st
theorem w_n22 (q : N (a0 :: a1 :: a2 :: a3 :: a4 :: a5 :: a6 :: a7 :: a8 :: a9 :: a10 :: a11 :: a12 :: a13 :: a14 :: a15 :: a16 :: a17 :: a18 :: a19 :: a20 :: a21 :: some x :: r) H) : gName 22 x (a0 :: a1 :: a2 :: a3 :: a4 :: a5 :: a6 :: a7 :: a8 :: a9 :: a10 :: a11 :: a12 :: a13 :: a14 :: a15 :: a16 :: a17 :: a18 :: a19 :: a20 :: a21 :: a22 :: r) H N := q
instance : Step (gName 22 x (a0 :: a1 :: a2 :: a3 :: a4 :: a5 :: a6 :: a7 :: a8 :: a9 :: a10 :: a11 :: a12 :: a13 :: a14 :: a15 :: a16 :: a17 :: a18 :: a19 :: a20 :: a21 :: a22 :: r) H N) (N (a0 :: a1 :: a2 :: a3 :: a4 :: a5 :: a6 :: a7 :: a8 :: a9 :: a10 :: a11 :: a12 :: a13 :: a14 :: a15 :: a16 :: a17 :: a18 :: a19 :: a20 :: a21 :: some x :: r) H) := ⟨w_n22⟩ -- st
theorem w_v23 (q : Q x H) : tVar 23 (a0 :: a1 :: a2 :: a3 :: a4 :: a5 :: a6 :: a7 :: a8 :: a9 :: a10 :: a11 :: a12 :: a13 :: a14 :: a15 :: a16 :: a17 :: a18 :: a19 :: a20 :: a21 :: a22 :: some x :: r) H Q := ⟨x, rfl, q⟩
instance : Step (tVar 23 (a0 :: a1 :: a2 :: a3 :: a4 :: a5 :: a6 :: a7 :: a8 :: a9 :: a10 :: a11 :: a12 :: a13 :: a14 :: a15 :: a16 :: a17 :: a18 :: a19 :: a20 :: a21 :: a22 :: some x :: r) H Q) (Q x H) := ⟨w_v23⟩ -- st
theorem w_n23 (q : N (a0 :: a1 :: a2 :: a3 :: a4 :: a5 :: a6 :: a7 :: a8 :: a9 :: a10 :: a11 :: a12 :: a13 :: a14 :: a15 :: a16 :: a17 :: a18 :: a19 :: a20 :: a21 :: a22 :: some x :: r) H) : gName 23 x (a0 :: a1 :: a2 :: a3 :: a4 :: a5 :: a6 :: a7 :: a8 :: a9 :: a10 :: a11 :: a12 :: a13 :: a14 :: a15 :: a16 :: a17 :: a18 :: a19 :: a20 :: a21 :: a22 :: a23 :: r) H N := q
instance : Step (gName 23 x (a0 :: a1 :: a2 :: a3 :: a4 :: a5 :: a6 :: a7 :: a8 :: a9 :: a10 :: a11 :: a12 :: a13 :: a14 :: a15 :: a16 :: a17 :: a18 :: a19 :: a20 :: a21 :: a22 :: a23 :: r) H N) (N (a0 :: a1 :: a2 :: a3 :: a4 :: a5 :: a6 :: a7 :: a8 :: a9 :: a10 :: a11 :: a12 :: a13 :: a14 :: a15 :: a16 :: a17 :: a18 :: a19 :: a20 :: a21 :: a22 :: some x :: r) H) := ⟨w_n23⟩ -- st
end
end R
/-! ### an own class made, its __init__ may raise; max(xs, default=d) -/
namespace R
open PySem PySem.Spec PyProof.Rows L2
structure DNX (P : Program) (w : World) (K : PySem.W.Frag) (mg : Str → Option Value) (base : Heap) (k : Nat) (C : Str) (ps : List Str) (sp : Sp) : Prop where
  ex : ∃ (fd : FuncData), FnOk P w K mg base (L2.CX P w) k (He.ma K (He.ga K C) "__init__") fd ps sp ∧ Mk K (He.ga K C) (He.ma K (He.ga K C) "__init__") ∧ mg C = some (.ref (He.ga K C)) ∧ Binds K fd ps []
def makGS (C : Addr) (sp : Sp) (ws : List V) (E : XK) (H : Hp) (Q : VK) : Prop := ∀ x dx, H x = none → H dx = none → dx ≠ x → sp (.ref x :: ws) (upd (upd H dx (.own x)) x (.ins C dx [])) (aftG Q x) E
def tMakeS (C : Addr) (sp : Sp) (E : L2.St → XK) (t : TA) : TE := fun σ H Q => t σ H fun vs H1 => makGS C sp vs (E σ) H1 Q
section
variable {X : Cx} {CX : CXT} {k j : Nat} {f C : Addr} {fd : FuncData} {ps : List Str} {sp : Sp} {E : L2.St → XK} {x : Str} {p pos : Pos} {e : Expr} {es : List Expr} {t : TA} {W : WX}
theorem run_makeS {pins : List (Addr × Obj)} {σ : L2.St} {H : Hp} {s : Shared} {Q : VK} {us : List Value} {vs : List V} (M : Mk X.K C f) (F : FnOk X.prog X.w X.K X.mg X.base CX k f fd ps sp) (hr : Room (k + 1) X.A) (hb : Binds X.K fd ps [])
    (hx : PassesAt CX X σ (E σ)) (I : Inv X pins σ H s) (r : Vals vs us)
    (h : makGS C sp vs (E σ) H Q) :
    wpAny (model X.prog X.w) X.A (call (.ref C) us) (EP X pins σ Q) X.xe s := by
  have hq := h (s.heap.objs.size + 1) s.heap.objs.size (I.hok.fresh (Nat.le_succ _)) (I.hok.fresh (Nat.le_refl _)) (Nat.ne_of_lt (Nat.lt_succ_self _))
  have I2 := Inv.made (C := C) I
  have r2 : Vals (V.ref (s.heap.objs.size + 1) :: vs) (Value.ref (s.heap.objs.size + 1) :: us) := .cons rfl r
  have hl : (Value.ref (s.heap.objs.size + 1) :: us).length = ps.length := by
    have e := r2.length
    rw [F.len _ _ _ _ hq] at e
    exact e.symm
  have b := hb _ (Value.ref (s.heap.objs.size + 1) :: us) I2.kIn (by rw [List.append_nil]; exact hl)
  rw [List.append_nil] at b
  refine wpAny_call (make_map (f := f) I.kIn M.makes M.init (beq_iff_eq.mp M.fn) (codeAny_mono (F.run _ X.stack _ _ ⟨Value.ref (s.heap.objs.size + 1) :: us, []⟩ (Value.ref (s.heap.objs.size + 1) :: us) _ _ (E σ) (hr.make C us [])
    (I2.env0.make C us []) b r2 hq) fun r s' hq' => ?_))
  cases r with
  | error e => exact hx pins _ _ e s' I2 hq'
  | ok fl =>
    cases fl with
    | ret u =>
      obtain ⟨v, H', I3, rv, ev, q3⟩ := I2.after hq'
      subst ev
      exact ⟨rv, ⟨V.ref (s.heap.objs.size + 1), H', I3, rfl, q3⟩⟩
    | next => exact False.elim hq'
    | brk => exact False.elim hq'
    | cont => exact False.elim hq'
theorem pmakeX {K : PySem.W.Frag} (D : DNX X.prog X.w K X.mg X.base k x ps sp) (hr : Room j X.A) (tk : Takes X W) (ha : PA X (e :: es) t) (hj : k + 1 ≤ j := by first | decide | exact Nat.le_refl _ | omega) (hg : Gl X x := by rfl) (hdb : (x == ("__debug__" : Str)) = false := by decide)
    (he : starEach (e :: es) X.env = (false, eval e X.env) :: starEach es X.env := by rfl) (hpl : (backTo pos (starEach es X.env)).any (·.1) = false := by rfl) (hK : X.K = K := by rfl) :
    PE X (.Call (.Name x p) (e :: es) [] pos) (tMakeS (He.ga K x) sp (WE W) t) := by
  subst hK
  obtain ⟨fd, F, M, hm, hb⟩ := D.ex
  refine ⟨fun pins s σ H Q I h => ?_⟩
  refine wpAny_Call_Name_kw (ld_glob I hg hm ?_ hdb)
  refine PySem.W.callWith_K (h₀ := X.base) I.ok.mod.kin M.kp (thn (ha.run pos pins s σ H _ I h) fun us s1 ⟨vs, H1, I1, r, q⟩ => ⟨I1.kIn, ?_⟩) he hpl
  exact run_makeS M F (hr.mono hj) hb (passAt tk σ) I1 r q
end
section
variable {K : PySem.W.Frag} {M : List Addr} {F0 H0 F H : Hp} {L Rs : List Own} {σ : L2.St} {Q : VK} {C : Addr}
theorem x_makeS {sp : Sp} {EE : L2.St → XK} {t : TA} (q : t σ H fun vs H1 => makGS C sp vs (EE σ) H1 Q) : tMakeS C sp EE t σ H Q := q
instance {sp : Sp} {EE : L2.St → XK} {t : TA} : Step (tMakeS C sp EE t σ H Q) (t σ H fun vs H1 => makGS C sp vs (EE σ) H1 Q) := ⟨x_makeS⟩ -- st
theorem n_makeS {sp : Sp} {ws : List V} {E : XK} (w : W M F0 H0 F H L) (q : ∀ x dx H2, W M F0 H0 F H2 (mu x (.ins C dx []) :: mu dx (.own x) :: L) → H0 x = none → sp (.ref x :: ws) H2 (aftG Q x) E) : makGS C sp ws E H Q := by
  intro x dx nx ndx hne
  have w1 := w.nw (u := .own x) ndx
  have nx1 : upd H dx (.own x) x = none := by rw [upd_ne hne.symm]; exact nx
  exact q x dx _ (w1.nw (u := .ins C dx []) nx1) (w.g.fresh nx)
end
/-- max(xs, default=d) of a list of ints -/
def rMaxDf (K : PySem.W.Frag) : List V → List V → Hp → VK → Prop := fun vs zs H Q => ∃ (a : Addr) (d : V) (ns : List Int), vs = [V.ref a] ∧ zs = [d] ∧ SqL K H a (ns.map V.int) ∧ (ns = [] → Q d H) ∧ ∀ m, m ∈ ns → Q (.int m) H
theorem hold_ints : ∀ {its : List Value} {ns : List Int} {h : Heap}, Vals (ns.map V.int) its → PySem.W.HoldAll h its ns
  | [], [], _, _ => PySem.W.HoldAll.nil
  | [], _ :: _, _, r => by cases r
  | _ :: _, [], _, r => by cases r
  | v :: its, n :: ns, h, r => by
    cases r with
    | cons a b =>
      obtain ⟨t, rfl⟩ := a
      exact PySem.W.HoldAll.cons ⟨[], .int n t⟩ (hold_ints b)
theorem clMaxDf {X : Cx} {K : PySem.W.Frag} (hc : X.calm = true) (hu : X.A.units + 64 < cLine) (hK : X.K = K := by rfl) : CallRK X (.builtin "max") [Str.ofString "default"] (rMaxDf K) := by
  subst hK
  intro pins s σ H vs zs us ws Q I r rz h
  obtain ⟨a, d, ns, rfl, rfl, hs, h0, h1⟩ := h
  obtain ⟨its, rv, hl, hsz⟩ := I.list hs
  clear hsz
  rw [Vals.ref1 r]
  obtain ⟨u, rfl, ru⟩ := vals1 rz
  refine PySem.W.max_list_datum_default (α := Int) (xs := ns) (I.ok.hd hc) hl.isList (hold_ints rv) (by show X.A.units + 1 + 0 < cLine; omega) (fun e h' tk hk => ⟨d, H, I.kept hk, ru, h0 e⟩) fun y ys i v h' tk e hi hv hk => ?_
  have hm : ∃ m, m ∈ ns ∧ ∃ t, v = .int m t := by
    have hi2 : its[i]? = some v := by simpa using hi
    clear hv hi e h0 h1 hs hl r rz ru hk
    induction ns generalizing its i with
    | nil => cases rv; simp at hi2
    | cons n ns ih =>
      cases rv with
      | cons a b =>
        obtain ⟨t, rfl⟩ := a
        cases i with
        | zero =>
          simp at hi2
          exact ⟨n, List.mem_cons_self .., t, hi2.symm⟩
        | succ i =>
          obtain ⟨m, hm, z⟩ := ih _ b i (by simpa using hi2)
          exact ⟨m, List.mem_cons_of_mem _ hm, z⟩
  obtain ⟨m, hm, t, rfl⟩ := hm
  exact ⟨.int m, H, I.kept hk, ⟨_, rfl⟩, h1 m hm⟩
theorem n_maxDf {K : PySem.W.Frag} {H : Hp} {Q : VK} {a : Addr} {d : V} {ns : List Int} (hs : SqL K H a (ns.map V.int)) (q0 : Q d H) (q : ∀ m : Int, Q (.int m) H) : rMaxDf K [.ref a] [d] H Q := ⟨a, d, ns, rfl, rfl, hs, fun _ => q0, fun m _ => q m⟩
theorem x_ckw {r : List V → List V → Hp → VK → Prop} {t tk : TA} {σ : L2.St} {H : Hp} {Q : VK} (q : t σ H fun vs H1 => tk σ H1 fun zs H2 => r vs zs H2 Q) : tCKw r t tk σ H Q := q
instance {r : List V → List V → Hp → VK → Prop} {t tk : TA} {σ : L2.St} {H : Hp} {Q : VK} : Step (tCKw r t tk σ H Q) (t σ H fun vs H1 => tk σ H1 fun zs H2 => r vs zs H2 Q) := ⟨x_ckw⟩ -- st
end R
namespace R
open PySem PySem.Spec PyProof.Rows L2
/-! ### rows of any numbers (k01) -/
inductive XRow where
  | put (s : Str)
  | copy (a n : Int)
def XRow.d : XRow → PyData
  | .put s => .tuple [.str "put", .str s]
  | .copy a n => .tuple [.str "copy", .int a, .int n]
def XRow.sOk : XRow → Prop
  | .put s => okS s ∧ s.length ≤ 1000
  | .copy _ _ => True
def XRow.gv (size : Int) : XRow → Nat
  | .put s => s.length
  | .copy a n => if a < 0 ∨ n < 1 ∨ size < a + n then 0 else n.toNat
def CRow.x : CRow → XRow
  | .put s => .put s
  | .copy a n => .copy (a : Nat) (n : Nat)
theorem crow_xd (r : CRow) : r.x.d = r.d := by cases r <;> rfl
theorem crows_xd (rs : List CRow) : (rs.map CRow.x).map XRow.d = rs.map CRow.d := by
  rw [List.map_map]
  exact List.map_congr_left fun r _ => crow_xd r
/-- the first row that is none -/
def fxX (size : Int) : Nat → Nat → List XRow → Option Nat
  | _, _, [] => none
  | k, many, r :: rs => if r.gv size = 0 ∨ 400 < many + r.gv size then some k else fxX size (k + 1) (many + r.gv size) rs
inductive DueX where
  | size
  | row (k : Nat)
  | ok
def dueX (size : Int) (rows : List XRow) : DueX := if size < 0 ∨ 400 < size then .size else match fxX size 0 0 rows with
  | some k => .row k
  | none => .ok
theorem gv_x {n : Nat} {r : CRow} (h : CRowOk n r) : r.x.gv (n : Nat) = r.gives := by
  cases r with
  | put s => rfl
  | copy a m =>
    have h1 : 1 ≤ m := h.p
    have h2 : a + m ≤ n := h.h
    show (if ((a : Nat) : Int) < 0 ∨ ((m : Nat) : Int) < 1 ∨ ((n : Nat) : Int) < (a : Nat) + (m : Nat) then 0 else ((m : Nat) : Int).toNat) = m
    rw [if_neg (by omega), Int.toNat_natCast]
/-- a row that gives signs is one -/
theorem x_row {n : Nat} {r : XRow} (hs : r.sOk) (h : r.gv (n : Nat) ≠ 0) : ∃ c : CRow, r = c.x ∧ CRowOk n c := by
  cases r with
  | put s => exact ⟨.put s, rfl, ⟨hs, Nat.pos_of_ne_zero h, Nat.zero_le _⟩⟩
  | copy a m =>
    have h : (if a < 0 ∨ m < 1 ∨ ((n : Nat) : Int) < a + m then 0 else m.toNat) ≠ 0 := h
    by_cases e : a < 0 ∨ m < 1 ∨ ((n : Nat) : Int) < a + m
    · rw [if_pos e] at h
      exact absurd rfl h
    · refine ⟨.copy a.toNat m.toNat, ?_, ⟨trivial, by show 1 ≤ m.toNat; omega, by show a.toNat + m.toNat ≤ n; omega⟩⟩
      show XRow.copy a m = .copy ((a.toNat : Nat) : Int) ((m.toNat : Nat) : Int)
      rw [show ((a.toNat : Nat) : Int) = a by omega, show ((m.toNat : Nat) : Int) = m by omega]
theorem fx_rows {n : Nat} : ∀ {rows : List XRow} {k many : Nat}, (∀ r ∈ rows, r.sOk) → fxX (n : Nat) k many rows = none → ∃ cs : List CRow, rows = cs.map CRow.x ∧ (∀ c ∈ cs, CRowOk n c) ∧ (rows ≠ [] → many + givesL cs ≤ 400)
  | [], _, _, _, _ => ⟨[], rfl, (fun _ h => nomatch h), fun h => absurd rfl h⟩
  | r :: rows, k, many, hs, h => by
    have h : (if r.gv (n : Nat) = 0 ∨ 400 < many + r.gv (n : Nat) then some k else fxX (n : Nat) (k + 1) (many + r.gv (n : Nat)) rows) = none := h
    by_cases e : r.gv (n : Nat) = 0 ∨ 400 < many + r.gv (n : Nat)
    · rw [if_pos e] at h; cases h
    · rw [if_neg e] at h
      obtain ⟨c, rfl, hc⟩ := x_row (hs r (List.mem_cons_self ..)) (fun z => e (.inl z))
      obtain ⟨cs, rfl, hcs, hm⟩ := fx_rows (fun q hq => hs q (List.mem_cons_of_mem _ hq)) h
      rw [gv_x hc] at e hm
      refine ⟨c :: cs, rfl, fun q hq => ?_, fun _ => ?_⟩
      · rcases List.mem_cons.mp hq with rfl | hq
        · exact hc
        · exact hcs q hq
      · show many + (c.gives + givesL cs) ≤ 400
        by_cases he : cs.map CRow.x = []
        · have : cs = [] := List.map_eq_nil_iff.mp he
          subst this
          show many + (c.gives + 0) ≤ 400
          omega
        · have := hm he
          omega
/-- what is due, made -/
theorem due_ok {size : Int} {rows : List XRow} (hs : ∀ r ∈ rows, r.sOk) (h : dueX size rows = .ok) : ∃ (n : Nat) (cs : List CRow), size = (n : Nat) ∧ n ≤ 400 ∧ rows = cs.map CRow.x ∧ RowsOk n cs := by
  unfold dueX at h
  by_cases e : size < 0 ∨ 400 < size
  · rw [if_pos e] at h; cases h
  · rw [if_neg e] at h
    obtain ⟨n, rfl⟩ : ∃ n : Nat, size = (n : Nat) := ⟨size.toNat, by omega⟩
    cases hf : fxX (n : Nat) 0 0 rows with
    | some k => rw [hf] at h; cases h
    | none =>
      obtain ⟨cs, e1, e2, e3⟩ := fx_rows hs hf
      refine ⟨n, cs, rfl, by omega, e1, e2, ?_⟩
      by_cases he : rows = []
      · rw [he] at e1
        have : cs = [] := List.map_eq_nil_iff.mp e1.symm
        subst this
        exact Nat.zero_le _
      · have := e3 he
        omega
theorem dp_xput {K : PySem.W.Frag} {F : Hp} {x : V} {s : Str} (h : Dp K F x (XRow.put s).d) : ∃ a, x = .ref a ∧ SqT K F a [.str "put", .str s] := dp_cput (s := s) h
theorem dp_xcopy {K : PySem.W.Frag} {F : Hp} {x : V} {a n : Int} (h : Dp K F x (XRow.copy a n).d) : ∃ p, x = .ref p ∧ SqT K F p [.str "copy", .int a, .int n] := by
  obtain ⟨p, v1, v2, v3, rfl, hs, h1, h2, h3⟩ := dp_tup3 h
  rw [dp_str h1, dp_int h2, dp_int h3] at hs
  exact ⟨p, rfl, hs⟩
theorem dp_xput' {K : PySem.W.Frag} {F : Hp} {p : Addr} {s : Str} (h : SqT K F p [.str "put", .str s]) : Dp K F (.ref p) (XRow.put s).d := .tup h (.cons (.str _) (.cons (.str _) .nil))
theorem dp_xcopy' {K : PySem.W.Frag} {F : Hp} {p : Addr} {a n : Int} (h : SqT K F p [.str "copy", .int a, .int n]) : Dp K F (.ref p) (XRow.copy a n).d := .tup h (.cons (.str _) (.cons (.int _) (.cons (.int _) .nil)))
theorem xrow_good {m : XRow} (h : m.sOk) : good m.d = true ∧ m.d.depth ≤ 1 := by
  cases m with
  | put s => exact crow_good (m := .put s) h
  | copy a n =>
    constructor
    · refine good_tuple (by simp) fun d hd => ?_
      simp only [List.mem_cons, List.not_mem_nil, or_false] at hd
      rcases hd with rfl | rfl | rfl
      · decide +kernel
      · rfl
      · rfl
    · refine depth_tuple fun d hd => ?_
      simp only [List.mem_cons, List.not_mem_nil, or_false] at hd
      rcases hd with rfl | rfl | rfl <;> exact Nat.le_refl _
theorem xrows_good {ms : List XRow} (h : ∀ m ∈ ms, m.sOk) (hl : ms.length ≤ 100000) : good (.list (ms.map XRow.d)) = true ∧ (PyData.list (ms.map XRow.d)).depth ≤ 2 := by
  constructor
  · refine good_list (by rw [List.length_map]; exact hl) fun d hd => ?_
    obtain ⟨r, hr, rfl⟩ := List.mem_map.mp hd
    exact (xrow_good (h r hr)).1
  · refine depth_list fun d hd => ?_
    obtain ⟨r, hr, rfl⟩ := List.mem_map.mp hd
    exact (xrow_good (h r hr)).2
theorem fx_go {size : Int} {k m : Nat} {r : XRow} {rs : List XRow} (hc : ¬ (r.gv size = 0 ∨ 400 < m + r.gv size)) : fxX size k m (r :: rs) = fxX size (k + 1) (m + r.gv size) rs := if_neg hc
theorem fx_hit {size : Int} {k m : Nat} {r : XRow} {rs rows : List XRow} (h : fxX size 0 0 rows = fxX size k m (r :: rs)) (hc : r.gv size = 0 ∨ 400 < m + r.gv size) (hn : ¬ (size < 0 ∨ 400 < size)) : dueX size rows = .row k := by
  unfold dueX
  rw [if_neg hn, h, show fxX size k m (r :: rs) = some k from if_pos hc]
theorem fx_end {size : Int} {k m : Nat} {rows : List XRow} (h : fxX size 0 0 rows = fxX size k m []) (hn : ¬ (size < 0 ∨ 400 < size)) : dueX size rows = .ok := by
  unfold dueX
  rw [if_neg hn, h]
  rfl
theorem drop_at {α : Type} {l : List α} {i : Nat} {x : α} (h : l[i]? = some x) : l.drop i = x :: l.drop (i + 1) := by
  obtain ⟨hi, e⟩ := List.getElem?_eq_some_iff.mp h
  rw [List.drop_eq_getElem_cons hi, e]
/-- what a due thing is told as -/
def DueX.d : DueX → PyData
  | .size => .tuple [.str (Str.ofString "BadSize"), .none]
  | .row k => .tuple [.str (Str.ofString "BadRow"), .int (k : Nat)]
  | .ok => .tuple [.str (Str.ofString ""), .none]
theorem due_good (d : DueX) : good d.d = true ∧ d.d.depth < 6 := by
  cases d with
  | size => exact ⟨by decide +kernel, by decide⟩
  | ok => exact ⟨by decide +kernel, by decide⟩
  | row k =>
    constructor
    · refine good_tuple (by simp) fun d hd => ?_
      simp only [List.mem_cons, List.not_mem_nil, or_false] at hd
      rcases hd with rfl | rfl
      · decide +kernel
      · rfl
    · refine Nat.lt_of_le_of_lt (depth_tuple (n := 0) fun d hd => ?_) (by decide)
      simp only [List.mem_cons, List.not_mem_nil, or_false] at hd
      rcases hd with rfl | rfl <;> exact Nat.le_refl _
def pickX (names : List Str) (bs : List Bool) (i : Nat) : List Str := ((names.zip bs).take i).filterMap fun p => if p.2 then some p.1 else none
theorem pickX_T {names : List Str} {bs : List Bool} {i : Nat} {z : Str} (hn : names[i]? = some z) (hb : bs[i]? = some true) : pickX names bs (i + 1) = pickX names bs i ++ [z] := by
  have e : (names.zip bs)[i]? = some (z, true) := by
    rw [List.getElem?_zip_eq_some]
    exact ⟨hn, hb⟩
  unfold pickX
  rw [List.take_add_one, e, List.filterMap_append]
  rfl
theorem pickX_F {names : List Str} {bs : List Bool} {i : Nat} {z : Str} (hn : names[i]? = some z) (hb : bs[i]? = some false) : pickX names bs (i + 1) = pickX names bs i := by
  have e : (names.zip bs)[i]? = some (z, false) := by
    rw [List.getElem?_zip_eq_some]
    exact ⟨hn, hb⟩
  unfold pickX
  rw [List.take_add_one, e, List.filterMap_append]
  show _ ++ [] = _
  rw [List.append_nil]
theorem pickX_len {names : List Str} {bs : List Bool} {i : Nat} : (pickX names bs i).length ≤ names.length := by
  unfold pickX
  refine Nat.le_trans (List.length_filterMap_le _ _) ?_
  rw [List.length_take, List.length_zip]
  omega
theorem n_slTx {K : PySem.W.Frag} {M : List Addr} {F0 H0 F H : Hp} {L : List Own} {Q : VK} {p : Addr} {xs : List V} {lo hi : Option Int} (w : W M F0 H0 F H L) (hs : SqT K H p xs) (e : ¬ (HT.sIx xs.length 0 lo = 0 ∧ HT.sIx xs.length xs.length hi = xs.length)) (h : ∀ t F2 H2, W M F0 H0 F2 H2 (fx t (.tup (cutV xs lo hi)) :: L) → Q (.ref t) H2) : rSlT K (.ref p) lo hi H Q :=
  ⟨p, xs, rfl, hs, e, fun l hl => h l _ _ ((w.im (u := .tup (cutV xs lo hi)) hl).push (fx l (.tup (cutV xs lo hi))) upd_same)⟩
theorem dpa_numsX {K : PySem.W.Frag} {F : Hp} : ∀ ks : List Nat, DpAll K F (ks.map fun (k : Nat) => V.int (k : Nat)) (ks.map fun (k : Nat) => PyData.int (k : Nat))
  | [] => .nil
  | _ :: ks => .cons (.int _) (dpa_numsX ks)
theorem n_neX {K : PySem.W.Frag} {H : Hp} {Q : VK} {p r : Addr} {ks : List Nat} (h1 : SqL K H p (ks.map fun (k : Nat) => V.int (k : Nat))) (h2 : SqL K H r []) (l1 : ks.length ≤ 100000) (q : Q (.bl (!decide (ks = []))) H) : rNeD K (.ref p) (.ref r) H Q := by
  have g1 : good (.list (ks.map fun (k : Nat) => PyData.int (k : Nat))) = true := good_list (by rw [List.length_map]; exact l1) fun d hd => by
    obtain ⟨k, _, rfl⟩ := List.mem_map.mp hd
    rfl
  have g2 : (PyData.list (ks.map fun (k : Nat) => PyData.int (k : Nat))).depth ≤ 1 := depth_list fun d hd => by
    obtain ⟨k, _, rfl⟩ := List.mem_map.mp hd
    exact Nat.le_refl _
  refine ⟨_, _, .lst h1 (dpa_numsX ks), .lst h2 .nil, good_shaped g1 (Nat.le_trans g2 (by decide)), good_shaped rfl (by decide), ?_⟩
  cases ks <;> exact q
theorem ints_at {ns : List Int} {k : Nat} (h : k < ns.length) : ∃ z : Int, atI (ns.map V.int) ((k : Nat) : Int) = some (.int z) := ⟨ns[k], atI_nat (by rw [List.getElem?_map, List.getElem?_eq_getElem h]; rfl)⟩
theorem KDk.same {F F2 : Hp} {d : Option Addr} (s : Same F F2) (h : KDk F d) : KDk F2 d := by
  rcases h with rfl | ⟨dd, fs, rfl, e⟩
  · exact .inl rfl
  · exact .inr ⟨dd, fs, rfl, s _ _ e⟩
theorem dp_pair {K : PySem.W.Frag} {F : Hp} {x : V} {s : Str} {d : PyData} (h : Dp K F x (.tuple [.str s, d])) : ∃ a v, x = .ref a ∧ SqT K F a [.str s, v] := by
  obtain ⟨a, vs, rfl, hs, h0⟩ := dp_tup h
  obtain ⟨v1, us, rfl, h1, h0⟩ := dpa_cons h0
  obtain ⟨v2, us, rfl, h2, h0⟩ := dpa_cons h0
  cases dpa_nil h0
  rw [dp_str h1] at hs
  exact ⟨a, v2, rfl, hs⟩
def DueX.w : DueX → Str
  | .size => Str.ofString "BadSize"
  | .row _ => Str.ofString "BadRow"
  | .ok => Str.ofString ""
theorem due_pair {K : PySem.W.Frag} {F : Hp} {x : V} {d : DueX} (h : Dp K F x d.d) : ∃ a v, x = .ref a ∧ SqT K F a [.str d.w, v] := by
  cases d <;> exact dp_pair h
theorem due_w {d : DueX} (h : d ≠ .ok) : d.w ≠ Str.ofString "" := by
  cases d with
  | size => decide +kernel
  | row k => show Str.ofString "BadRow" ≠ _; decide +kernel
  | ok => exact absurd rfl h
/-! ### promises -/
def insX (C dx r : Addr) (size : Int) : HO := .ins C dx [("size", .int size), ("rows", .ref r)]
def φgivesX (K : PySem.W.Frag) : V → V → Hp → VK → Prop := fun x y H Q => ∃ (F : Hp) (r : XRow) (n : Int), y = .int n ∧ Same F H ∧ Dp K F x r.d ∧ r.sOk ∧ ∀ F2 H2, W [] F H F2 H2 [] → Q (.int (r.gv n : Nat)) H2
def φinitX (K : PySem.W.Frag) : V → V → V → Hp → VK → XK → Prop := fun x y z H Q E => ∃ (F : Hp) (c dx a : Addr) (vs : List V) (size : Int) (rows : List XRow), x = .ref c ∧ y = .int size ∧ z = .ref a ∧ St F H [mu c (.ins (He.ga K "Change") dx []), mu a (.lst vs)] ∧ DpAll K F vs (rows.map XRow.d) ∧ rows.length ≤ 1000 ∧ (∀ r ∈ rows, r.sOk) ∧
  (dueX size rows = .ok → ∀ r F2 H2, H r = none → W [c, a] F H F2 H2 [mu c (insX (He.ga K "Change") dx r size), mu r (.lst vs), mu a (.lst vs)] → Q .non H2) ∧
  (dueX size rows = .size → ∀ F2 H2, W [c, a] F H F2 H2 [mu c (.ins (He.ga K "Change") dx []), mu a (.lst vs)] → E (.ref (He.ga K "BadSize")) none H2) ∧
  (∀ k, dueX size rows = .row k → ∀ dd F2 H2, H dd = none → W [c, a] F H F2 H2 [fx dd (.xd [("row", .int (k : Nat))]), mu c (.ins (He.ga K "Change") dx []), mu a (.lst vs)] → E (.ref (He.ga K "BadRow")) (some dd) H2)
def φdue01 (K : PySem.W.Frag) : V → V → Hp → VK → Prop := fun x y H Q => ∃ (F : Hp) (a : Addr) (vs : List V) (size : Int) (rows : List XRow), x = .int size ∧ y = .ref a ∧ Same F H ∧ SqL K F a vs ∧ DpAll K F vs (rows.map XRow.d) ∧ rows.length ≤ 1000 ∧ (∀ r ∈ rows, r.sOk) ∧
  ∀ t F2 H2, W [] F H F2 H2 [dat K (.ref t) (dueX size rows).d] → Q (.ref t) H2
def φmade01 (K : PySem.W.Frag) : V → V → Hp → VK → Prop := fun x y H Q => ∃ (F : Hp) (a : Addr) (vs : List V) (size : Int) (rows : List XRow), x = .int size ∧ y = .ref a ∧ St F H [mu a (.lst vs)] ∧ DpAll K F vs (rows.map XRow.d) ∧ rows.length ≤ 1000 ∧ (∀ r ∈ rows, r.sOk) ∧
  (∀ (n : Nat) (cs : List CRow), dueX size rows = .ok → size = (n : Nat) → n ≤ 400 → rows = cs.map CRow.x → RowsOk n cs → ∀ c t t2 F2 H2, W [a] F H F2 H2 [fx t (.tup [.ref c, .ref t2]), dat K (.ref t2) (dueX size rows).d, chg K (.ref c) n cs, mu a (.lst vs)] → Q (.ref t) H2) ∧
  (dueX size rows ≠ .ok → ∀ t t2 F2 H2, W [a] F H F2 H2 [fx t (.tup [.non, .ref t2]), dat K (.ref t2) (dueX size rows).d, mu a (.lst vs)] → Q (.ref t) H2)
def φkind01 (K : PySem.W.Frag) : V → Hp → VK → Prop := fun x H Q => ∃ (F : Hp) (xa : Addr) (C : Str) (d : Option Addr), x = .ref xa ∧ Same F H ∧ F xa = some (exk xa (.ref (He.ga K C)) d) ∧ KDk F d ∧ (C = "BadSize" ∨ C = "BadRow") ∧ ∀ F2 H2, W [] F H F2 H2 [] → Q (.str C) H2
def φsizesp01 (K : PySem.W.Frag) : V → V → V → Hp → VK → Prop := fun x y z H Q => ∃ (F : Hp) (b a : Addr) (vs : List V) (size : Int) (rows : List XRow), x = .ref b ∧ y = .int size ∧ z = .ref a ∧ St F H [bag K b] ∧ SqL K F a vs ∧ DpAll K F vs (rows.map XRow.d) ∧ rows.length ≤ 1000 ∧
  ∀ t (s2 : Int) F2 H2, W [b] F H F2 H2 [fx t (.tup [.int s2, .ref a]), bag K b] → Q (.ref t) H2
def φcopybent01 (K : PySem.W.Frag) : V → V → V → Hp → VK → Prop := fun x y z H Q => ∃ (F : Hp) (b p : Addr) (size a n : Int), x = .ref b ∧ y = .int size ∧ z = .ref p ∧ St F H [bag K b] ∧ SqT K F p [.str "copy", .int a, .int n] ∧
  ∀ t (a2 n2 : Int) F2 H2, W [b] F H F2 H2 [fx t (.tup [.str "copy", .int a2, .int n2]), bag K b] → Q (.ref t) H2
def φspoilt01 (K : PySem.W.Frag) : V → V → V → Hp → VK → Prop := fun x y z H Q => ∃ (F : Hp) (b a : Addr) (vs : List V) (size : Int) (rows : List XRow), x = .ref b ∧ y = .int size ∧ z = .ref a ∧ St F H [bag K b] ∧ SqL K F a vs ∧ DpAll K F vs (rows.map XRow.d) ∧ rows.length ≤ 900 ∧ (∀ r ∈ rows, r.sOk) ∧
  ∀ t p us (s2 : Int) (rows2 : List XRow) F2 H2, W [b] F H F2 H2 [fx t (.tup [.int s2, .ref p]), imL K p us, dpa K us (rows2.map XRow.d), bag K b] → rows2.length ≤ rows.length + 1 → (∀ r ∈ rows2, r.sOk) → Q (.ref t) H2
def φstays01 (K : PySem.W.Frag) : V → V → V → V → Hp → VK → Prop := fun x y z u H Q => ∃ (F : Hp) (a : Addr) (vs : List V) (o : Str) (rows : List CRow), y = .int (o.length : Nat) ∧ z = .ref a ∧ u = .str o ∧ Same F H ∧ Chg K F x o.length rows ∧ RowsOk o.length rows ∧ o.length ≤ 400 ∧ okS o ∧ SqL K F a vs ∧ DpAll K F vs (rows.map CRow.d) ∧
  ∀ F2 H2, W [] F H F2 H2 [] → Q (.bl true) H2
def φright01 (K : PySem.W.Frag) : V → V → V → Hp → VK → Prop := fun x y z H Q => ∃ (F : Hp) (b a : Addr) (vs : List V) (size : Int) (rows : List XRow), x = .ref b ∧ y = .int size ∧ z = .ref a ∧ St F H [bag K b] ∧ SqL K F a vs ∧ DpAll K F vs (rows.map XRow.d) ∧ rows.length ≤ 900 ∧ (∀ r ∈ rows, r.sOk) ∧
  ∀ F2 H2, W [b] F H F2 H2 [bag K b] → Q (.bl true) H2
def φfield01 (K : PySem.W.Frag) : V → Hp → VK → Prop := fun x H Q => ∃ (F : Hp) (i : Int), x = .int i ∧ Same F H ∧ ∀ F2 H2, W [] F H F2 H2 [] → Q (.int i) H2
end R
namespace Z
open PySem PySem.Spec PyProof.Rows L2 R
def topS (i : Nat) : Stmt := PySem.Challenge.pw_remadehere_k01_changes_made.main.body.getD i (.Pass ⟨0, 0, 0, 0⟩)
abbrev s_gives : Stmt := topS 10
theorem sc_gives : FnScope ["row", "size"] ["row", "size"] (defScope s_gives) := ⟨rfl, rfl, rfl, by decide +kernel, rfl, by decide +kernel, by decide +kernel⟩
abbrev s_row_text : Stmt := topS 11
theorem sc_row_text : FnScope ["row"] ["row"] (defScope s_row_text) := ⟨rfl, rfl, rfl, by decide +kernel, rfl, by decide +kernel, by decide +kernel⟩
abbrev s_BadRowX_initX : Stmt := inClass (topS 2) 0
theorem sc_BadRowX_initX : FnScope ["self", "row"] ["self", "row"] (defScope s_BadRowX_initX) := ⟨rfl, rfl, rfl, by decide +kernel, rfl, by decide +kernel, by decide +kernel⟩
abbrev s_ChangeX_initX : Stmt := inClass (topS 12) 0
theorem sc_ChangeX_initX : FnScope ["self", "size", "rows", "many", "k", "more"] ["self", "size", "rows"] (defScope s_ChangeX_initX) := ⟨rfl, rfl, rfl, by decide +kernel, rfl, by decide +kernel, by decide +kernel⟩
abbrev s_ChangeX_initX_r : Stmt := inClass (topS 12) 0
theorem sc_ChangeX_initX_r : FnScope ["self", "size", "rows", "many", "k", "more"] ["self", "size", "rows"] (defScope s_ChangeX_initX_r) := ⟨rfl, rfl, rfl, by decide +kernel, rfl, by decide +kernel, by decide +kernel⟩
abbrev s_ChangeX_eqX : Stmt := inClass (topS 12) 1
theorem sc_ChangeX_eqX : FnScope ["self", "other"] ["self", "other"] (defScope s_ChangeX_eqX) := ⟨rfl, rfl, rfl, by decide +kernel, rfl, by decide +kernel, by decide +kernel⟩
abbrev s_ChangeX_lenX : Stmt := inClass (topS 12) 2
theorem sc_ChangeX_lenX : FnScope ["self"] ["self"] (defScope s_ChangeX_lenX) := ⟨rfl, rfl, rfl, by decide +kernel, rfl, by decide +kernel, by decide +kernel⟩
abbrev s_ChangeX_strX : Stmt := inClass (topS 12) 3
theorem sc_ChangeX_strX : FnScope ["self", "row"] ["self"] (defScope s_ChangeX_strX) := ⟨rfl, rfl, rfl, by decide +kernel, rfl, by decide +kernel, by decide +kernel⟩
abbrev s_Change_cells : Stmt := inClass (topS 12) 4
theorem sc_Change_cells : FnScope ["self", "found", "row"] ["self"] (defScope s_Change_cells) := ⟨rfl, rfl, rfl, by decide +kernel, rfl, by decide +kernel, by decide +kernel⟩
abbrev s_Change_done : Stmt := inClass (topS 12) 6
theorem sc_Change_done : FnScope ["self", "old", "cell"] ["self", "old"] (defScope s_Change_done) := ⟨rfl, rfl, rfl, by decide +kernel, rfl, by decide +kernel, by decide +kernel⟩
abbrev s_law_bag : Stmt := topS 14
theorem sc_law_bag : FnScope ["script", "stir", "cell"] ["script"] (defScope s_law_bag) := ⟨rfl, rfl, rfl, by decide +kernel, rfl, by decide +kernel, by decide +kernel⟩
abbrev s_law_stirred : Stmt := topS 15
theorem sc_law_stirred : FnScope ["bag", "many", "found", "k"] ["bag", "many"] (defScope s_law_stirred) := ⟨rfl, rfl, rfl, by decide +kernel, rfl, by decide +kernel, by decide +kernel⟩
abbrev s_law_draw : Stmt := topS 16
theorem sc_law_draw : FnScope ["bag", "many", "found"] ["bag", "many"] (defScope s_law_draw) := ⟨rfl, rfl, rfl, by decide +kernel, rfl, by decide +kernel, by decide +kernel⟩
abbrev s_law_alike : Stmt := topS 18
theorem sc_law_alike : FnScope ["found", "due", "k"] ["found", "due"] (defScope s_law_alike) := ⟨rfl, rfl, rfl, by decide +kernel, rfl, by decide +kernel, by decide +kernel⟩
abbrev s_law_signs : Stmt := topS 19
theorem sc_law_signs : FnScope ["some"] [] (defScope s_law_signs) := ⟨rfl, rfl, rfl, by decide +kernel, rfl, by decide +kernel, by decide +kernel⟩
abbrev s_law_text : Stmt := topS 20
theorem sc_law_text : FnScope ["bag", "size", "few", "first", "some", "k"] ["bag", "size"] (defScope s_law_text) := ⟨rfl, rfl, rfl, by decide +kernel, rfl, by decide +kernel, by decide +kernel⟩
abbrev s_law_row : Stmt := topS 21
theorem sc_law_row : FnScope ["bag", "size", "left", "last", "way", "wide", "at"] ["bag", "size", "left", "last"] (defScope s_law_row) := ⟨rfl, rfl, rfl, by decide +kernel, rfl, by decide +kernel, by decide +kernel⟩
abbrev s_law_rows : Stmt := topS 22
theorem sc_law_rows : FnScope ["bag", "size", "many", "most", "rows", "left", "cap", "k"] ["bag", "size", "many", "most"] (defScope s_law_rows) := ⟨rfl, rfl, rfl, by decide +kernel, rfl, by decide +kernel, by decide +kernel⟩
abbrev s_law_cells : Stmt := topS 32
theorem sc_law_cells : FnScope ["rows", "found", "row", "k"] ["rows"] (defScope s_law_cells) := ⟨rfl, rfl, rfl, by decide +kernel, rfl, by decide +kernel, by decide +kernel⟩
abbrev s_law_done : Stmt := topS 33
theorem sc_law_done : FnScope ["cells", "old", "cell"] ["cells", "old"] (defScope s_law_done) := ⟨rfl, rfl, rfl, by decide +kernel, rfl, by decide +kernel, by decide +kernel⟩
abbrev s_law_due : Stmt := topS 23
theorem sc_law_due : FnScope ["size", "rows", "many", "k", "row", "more"] ["size", "rows"] (defScope s_law_due) := ⟨rfl, rfl, rfl, by decide +kernel, rfl, by decide +kernel, by decide +kernel⟩
abbrev s_law_kind : Stmt := topS 24
theorem sc_law_kind : FnScope ["e", "names", "kinds", "k"] ["e"] (defScope s_law_kind) := ⟨rfl, rfl, rfl, by decide +kernel, rfl, by decide +kernel, by decide +kernel⟩
abbrev s_law_made : Stmt := topS 25
theorem sc_law_made : FnScope ["size", "rows", "found", "caught", "row", "e"] ["size", "rows"] (defScope s_law_made) := ⟨rfl, rfl, rfl, by decide +kernel, rfl, by decide +kernel, by decide +kernel⟩
abbrev s_law_size_spoilt : Stmt := topS 26
theorem sc_law_size_spoilt : FnScope ["bag", "size", "rows", "way", "far", "need", "row"] ["bag", "size", "rows"] (defScope s_law_size_spoilt) := ⟨rfl, rfl, rfl, by decide +kernel, rfl, by decide +kernel, by decide +kernel⟩
abbrev s_law_copy_bent : Stmt := topS 27
theorem sc_law_copy_bent : FnScope ["bag", "size", "row", "way", "far", "at", "many", "some"] ["bag", "size", "row"] (defScope s_law_copy_bent) := ⟨rfl, rfl, rfl, by decide +kernel, rfl, by decide +kernel, by decide +kernel⟩
abbrev s_law_spoilt : Stmt := topS 28
theorem sc_law_spoilt : FnScope ["bag", "size", "rows", "way", "at", "copies", "k", "row"] ["bag", "size", "rows"] (defScope s_law_spoilt) := ⟨rfl, rfl, rfl, by decide +kernel, rfl, by decide +kernel, by decide +kernel⟩
abbrev s_law_field : Stmt := topS 31
theorem sc_law_field : FnScope ["number", "found", "e"] ["number"] (defScope s_law_field) := ⟨rfl, rfl, rfl, by decide +kernel, rfl, by decide +kernel, by decide +kernel⟩
abbrev s_law_stays : Stmt := topS 29
theorem sc_law_stays : FnScope ["found", "size", "rows", "old", "cells", "written", "row", "part"] ["found", "size", "rows", "old"] (defScope s_law_stays) := ⟨rfl, rfl, rfl, by decide +kernel, rfl, by decide +kernel, by decide +kernel⟩
abbrev s_law_right : Stmt := topS 30
theorem sc_law_right : FnScope ["bag", "size", "rows", "handed", "due", "found", "told"] ["bag", "size", "rows"] (defScope s_law_right) := ⟨rfl, rfl, rfl, by decide +kernel, rfl, by decide +kernel, by decide +kernel⟩
abbrev s_law : Stmt := topS 34
theorem sc_law : FnScope ["script", "bag", "spoils", "size", "rows", "number", "k"] ["script"] (defScope s_law) := ⟨rfl, rfl, rfl, by decide +kernel, rfl, by decide +kernel, by decide +kernel⟩
structure Txt (K : PySem.W.Frag) (mg : Str → Option Value) : Prop where
  b_ValueError : mg "ValueError" = none
  b_abs : mg "abs" = none
  b_all : mg "all" = none
  b_bool : mg "bool" = none
  b_int : mg "int" = none
  b_isinstance : mg "isinstance" = none
  b_len : mg "len" = none
  b_list : mg "list" = none
  b_max : mg "max" = none
  b_min : mg "min" = none
  b_range : mg "range" = none
  b_str : mg "str" = none
  b_tuple : mg "tuple" = none
  c_MOST : ∃ t, mg "MOST" = some (.int 400 t)
  k_Change : Cls K (He.ga K "Change")
  na_Change_size : NoAttr K (He.ga K "Change") "size"
  na_Change_rows : NoAttr K (He.ga K "Change") "rows"
  g_Change : mg "Change" = some (.ref (He.ga K "Change"))
  i_Change : C8.InsC K (He.ga K "Change")
  s_Change : StrC K "Change"
  e_BadSize : EC K mg "BadSize"
  x_BadRow : XF K mg "ValueError" "ValueError.__new__" "ValueError.__init__" PySem.HandSPX.veTail "BadRow" "row" 
  g_BadRow : mg "BadRow" = some (.ref (He.ga K "BadRow"))
  g_BadSize : mg "BadSize" = some (.ref (He.ga K "BadSize"))
  g_Busy : mg "Busy" = some (.ref (He.ga K "Busy"))
  g_NoSpare : mg "NoSpare" = some (.ref (He.ga K "NoSpare"))
  g_NoText : mg "NoText" = some (.ref (He.ga K "NoText"))
  g_NoVersion : mg "NoVersion" = some (.ref (He.ga K "NoVersion"))
  y_BadRow : ExcC K (He.ga K "BadRow")
  y_BadSize : ExcC K (He.ga K "BadSize")
  q_0 : PySem.W.kitOne K (Value.ref (He.ga K "BadSize")) (Value.ref (He.ga K "BadRow")) = some false
  q_1 : PySem.W.kitOne K (Value.ref (He.ga K "BadSize")) (Value.ref (He.ga K "BadSize")) = some true
  q_2 : PySem.W.kitOne K (Value.ref (He.ga K "BadSize")) (Value.ref (He.ga K "Busy")) = some false
  q_3 : PySem.W.kitOne K (Value.ref (He.ga K "BadSize")) (Value.ref (He.ga K "NoSpare")) = some false
  q_4 : PySem.W.kitOne K (Value.ref (He.ga K "BadSize")) (Value.ref (He.ga K "NoText")) = some false
  q_5 : PySem.W.kitOne K (Value.ref (He.ga K "BadSize")) (Value.ref (He.ga K "NoVersion")) = some false
  q_6 : PySem.W.kitOne K (Value.ref (He.ga K "BadSize")) (Value.type "ValueError") = some true
  q_7 : PySem.W.kitOne K (Value.ref (He.ga K "BadRow")) (Value.ref (He.ga K "BadRow")) = some true
  q_8 : PySem.W.kitOne K (Value.ref (He.ga K "BadRow")) (Value.ref (He.ga K "BadSize")) = some false
  q_9 : PySem.W.kitOne K (Value.ref (He.ga K "BadRow")) (Value.ref (He.ga K "Busy")) = some false
  q_10 : PySem.W.kitOne K (Value.ref (He.ga K "BadRow")) (Value.ref (He.ga K "NoSpare")) = some false
  q_11 : PySem.W.kitOne K (Value.ref (He.ga K "BadRow")) (Value.ref (He.ga K "NoText")) = some false
  q_12 : PySem.W.kitOne K (Value.ref (He.ga K "BadRow")) (Value.ref (He.ga K "NoVersion")) = some false
  q_13 : PySem.W.kitOne K (Value.ref (He.ga K "BadRow")) (Value.type "ValueError") = some true
  m_0 : PySem.W.exmOne K (Value.ref (He.ga K "BadSize")) (Value.ref (He.ga K "BadSize")) = some true
  m_1 : PySem.W.exmOne K (Value.ref (He.ga K "BadRow")) (Value.ref (He.ga K "BadSize")) = some false
  m_2 : PySem.W.exmOne K (Value.ref (He.ga K "BadRow")) (Value.ref (He.ga K "BadRow")) = some true
def d_gives : He.DefD := ⟨("gives", none), "gives", "gives", defArgs s_gives, defBody s_gives, defScope s_gives, [], []⟩
def d_row_text : He.DefD := ⟨("row_text", none), "row_text", "row_text", defArgs s_row_text, defBody s_row_text, defScope s_row_text, [], []⟩
def d_BadRowX_initX : He.DefD := ⟨("BadRow", some "__init__"), "__init__", "BadRow.__init__", defArgs s_BadRowX_initX, defBody s_BadRowX_initX, defScope s_BadRowX_initX, [], []⟩
def d_ChangeX_initX : He.DefD := ⟨("Change", some "__init__"), "__init__", "Change.__init__", defArgs s_ChangeX_initX, defBody s_ChangeX_initX, defScope s_ChangeX_initX, [], []⟩
def d_ChangeX_initX_r : He.DefD := ⟨("Change", some "__init__"), "__init__", "Change.__init__", defArgs s_ChangeX_initX_r, defBody s_ChangeX_initX_r, defScope s_ChangeX_initX_r, [], []⟩
def d_ChangeX_eqX : He.DefD := ⟨("Change", some "__eq__"), "__eq__", "Change.__eq__", defArgs s_ChangeX_eqX, defBody s_ChangeX_eqX, defScope s_ChangeX_eqX, [], []⟩
def d_ChangeX_lenX : He.DefD := ⟨("Change", some "__len__"), "__len__", "Change.__len__", defArgs s_ChangeX_lenX, defBody s_ChangeX_lenX, defScope s_ChangeX_lenX, [], []⟩
def d_ChangeX_strX : He.DefD := ⟨("Change", some "__str__"), "__str__", "Change.__str__", defArgs s_ChangeX_strX, defBody s_ChangeX_strX, defScope s_ChangeX_strX, [], []⟩
def d_Change_cells : He.DefD := ⟨("Change", some "cells"), "cells", "Change.cells", defArgs s_Change_cells, defBody s_Change_cells, defScope s_Change_cells, [], []⟩
def d_Change_done : He.DefD := ⟨("Change", some "done"), "done", "Change.done", defArgs s_Change_done, defBody s_Change_done, defScope s_Change_done, [], []⟩
def d_law_bag : He.DefD := ⟨("_law_bag", none), "_law_bag", "_law_bag", defArgs s_law_bag, defBody s_law_bag, defScope s_law_bag, [], []⟩
def d_law_stirred : He.DefD := ⟨("_law_stirred", none), "_law_stirred", "_law_stirred", defArgs s_law_stirred, defBody s_law_stirred, defScope s_law_stirred, [], []⟩
def d_law_draw : He.DefD := ⟨("_law_draw", none), "_law_draw", "_law_draw", defArgs s_law_draw, defBody s_law_draw, defScope s_law_draw, [], []⟩
def d_law_alike : He.DefD := ⟨("_law_alike", none), "_law_alike", "_law_alike", defArgs s_law_alike, defBody s_law_alike, defScope s_law_alike, [], []⟩
def d_law_signs : He.DefD := ⟨("_law_signs", none), "_law_signs", "_law_signs", defArgs s_law_signs, defBody s_law_signs, defScope s_law_signs, [], []⟩
def d_law_text : He.DefD := ⟨("_law_text", none), "_law_text", "_law_text", defArgs s_law_text, defBody s_law_text, defScope s_law_text, [], []⟩
def d_law_row : He.DefD := ⟨("_law_row", none), "_law_row", "_law_row", defArgs s_law_row, defBody s_law_row, defScope s_law_row, [], []⟩
def d_law_rows : He.DefD := ⟨("_law_rows", none), "_law_rows", "_law_rows", defArgs s_law_rows, defBody s_law_rows, defScope s_law_rows, [], []⟩
def d_law_cells : He.DefD := ⟨("_law_cells", none), "_law_cells", "_law_cells", defArgs s_law_cells, defBody s_law_cells, defScope s_law_cells, [], []⟩
def d_law_done : He.DefD := ⟨("_law_done", none), "_law_done", "_law_done", defArgs s_law_done, defBody s_law_done, defScope s_law_done, [], []⟩
def d_law_due : He.DefD := ⟨("_law_due", none), "_law_due", "_law_due", defArgs s_law_due, defBody s_law_due, defScope s_law_due, [], []⟩
def d_law_kind : He.DefD := ⟨("_law_kind", none), "_law_kind", "_law_kind", defArgs s_law_kind, defBody s_law_kind, defScope s_law_kind, [], []⟩
def d_law_made : He.DefD := ⟨("_law_made", none), "_law_made", "_law_made", defArgs s_law_made, defBody s_law_made, defScope s_law_made, [], []⟩
def d_law_size_spoilt : He.DefD := ⟨("_law_size_spoilt", none), "_law_size_spoilt", "_law_size_spoilt", defArgs s_law_size_spoilt, defBody s_law_size_spoilt, defScope s_law_size_spoilt, [], []⟩
def d_law_copy_bent : He.DefD := ⟨("_law_copy_bent", none), "_law_copy_bent", "_law_copy_bent", defArgs s_law_copy_bent, defBody s_law_copy_bent, defScope s_law_copy_bent, [], []⟩
def d_law_spoilt : He.DefD := ⟨("_law_spoilt", none), "_law_spoilt", "_law_spoilt", defArgs s_law_spoilt, defBody s_law_spoilt, defScope s_law_spoilt, [], []⟩
def d_law_field : He.DefD := ⟨("_law_field", none), "_law_field", "_law_field", defArgs s_law_field, defBody s_law_field, defScope s_law_field, [], []⟩
def d_law_stays : He.DefD := ⟨("_law_stays", none), "_law_stays", "_law_stays", defArgs s_law_stays, defBody s_law_stays, defScope s_law_stays, [], []⟩
def d_law_right : He.DefD := ⟨("_law_right", none), "_law_right", "_law_right", defArgs s_law_right, defBody s_law_right, defScope s_law_right, [], []⟩
def d_law : He.DefD := ⟨("law", none), "law", "law", defArgs s_law, defBody s_law, defScope s_law, [], []⟩
def fn : List He.DefD := [d_gives, d_row_text, d_BadRowX_initX, d_ChangeX_initX, d_ChangeX_initX_r, d_ChangeX_eqX, d_ChangeX_lenX, d_ChangeX_strX, d_Change_cells, d_Change_done, d_law_bag, d_law_stirred, d_law_draw, d_law_alike, d_law_signs, d_law_text, d_law_row, d_law_rows, d_law_cells, d_law_done, d_law_due, d_law_kind, d_law_made, d_law_size_spoilt, d_law_copy_bent, d_law_spoilt, d_law_field, d_law_stays, d_law_right, d_law]
def fa : List He.Fa := [.free "ValueError", .free "abs", .free "all", .free "bool", .free "int", .free "isinstance", .free "len", .free "list", .free "max", .free "min", .free "range", .free "str", .free "tuple", .int "MOST" 400, .glo "gives", .glo "row_text", .glo "_law_bag", .glo "_law_stirred", .glo "_law_draw", .glo "_law_alike", .glo "_law_signs", .glo "_law_text", .glo "_law_row", .glo "_law_rows", .glo "_law_cells", .glo "_law_done", .glo "_law_due", .glo "_law_kind", .glo "_law_made", .glo "_law_size_spoilt", .glo "_law_copy_bent", .glo "_law_spoilt", .glo "_law_field", .glo "_law_stays", .glo "_law_right", .glo "law", .glo "Change", .cls "Change", .mkr "Change", .noat "Change" "size", .noat "Change" "rows", .meth "Change" "__eq__", .meth "Change" "__len__", .meth "Change" "__str__", .meth "Change" "cells", .meth "Change" "done", .glo "BadSize", .exc "BadSize", .exm "BadSize" "BadSize" true, .glo "BadRow", .glo "Busy", .glo "NoSpare", .glo "NoText", .glo "NoVersion"]
abbrev RR : PySem.W.OpenRow := PySem.W.OpenLaw.row PySem.Challenge.rw_remadehere_k01_changes_made
def exB (K : PySem.W.Frag) : Bool := (insB K "Change" && (strB K "Change" && (xfB K "ValueError" "ValueError.__new__" "ValueError.__init__" PySem.HandSPX.veTail "BadRow" "row" && (excB K "BadRow" && (excB K "BadSize" && (decide (PySem.W.kitOne K (Value.ref (He.ga K "BadSize")) (Value.ref (He.ga K "BadRow")) = some false) && (decide (PySem.W.kitOne K (Value.ref (He.ga K "BadSize")) (Value.ref (He.ga K "BadSize")) = some true) && (decide (PySem.W.kitOne K (Value.ref (He.ga K "BadSize")) (Value.ref (He.ga K "Busy")) = some false) && (decide (PySem.W.kitOne K (Value.ref (He.ga K "BadSize")) (Value.ref (He.ga K "NoSpare")) = some false) && (decide (PySem.W.kitOne K (Value.ref (He.ga K "BadSize")) (Value.ref (He.ga K "NoText")) = some false) && (decide (PySem.W.kitOne K (Value.ref (He.ga K "BadSize")) (Value.ref (He.ga K "NoVersion")) = some false) && (decide (PySem.W.kitOne K (Value.ref (He.ga K "BadSize")) (Value.type "ValueError") = some true) && (decide (PySem.W.kitOne K (Value.ref (He.ga K "BadRow")) (Value.ref (He.ga K "BadRow")) = some true) && (decide (PySem.W.kitOne K (Value.ref (He.ga K "BadRow")) (Value.ref (He.ga K "BadSize")) = some false) && (decide (PySem.W.kitOne K (Value.ref (He.ga K "BadRow")) (Value.ref (He.ga K "Busy")) = some false) && (decide (PySem.W.kitOne K (Value.ref (He.ga K "BadRow")) (Value.ref (He.ga K "NoSpare")) = some false) && (decide (PySem.W.kitOne K (Value.ref (He.ga K "BadRow")) (Value.ref (He.ga K "NoText")) = some false) && (decide (PySem.W.kitOne K (Value.ref (He.ga K "BadRow")) (Value.ref (He.ga K "NoVersion")) = some false) && (decide (PySem.W.kitOne K (Value.ref (He.ga K "BadRow")) (Value.type "ValueError") = some true) && (decide (PySem.W.exmOne K (Value.ref (He.ga K "BadSize")) (Value.ref (He.ga K "BadSize")) = some true) && (decide (PySem.W.exmOne K (Value.ref (He.ga K "BadRow")) (Value.ref (He.ga K "BadSize")) = some false) && (decide (PySem.W.exmOne K (Value.ref (He.ga K "BadRow")) (Value.ref (He.ga K "BadRow")) = some true) && true))))))))))))))))))))))
abbrev hk : PySem.W.Hook := hookE 4 fa fn exB
def ob (s : PySem.W.SharedT) : He.AlD × Bool := obsEG 4 fa fn exB (HandSHeadRun.getT s)
theorem ob_eq (s : PySem.W.SharedT) : ob s = hk.obs s.abs := obsEG_eq (HandSHeadRun.getT_eq s)
theorem run (w : World) : HandSHeadRun.RunEq RR (PySem.W.view RR.prog [34]) hk ob 3000 ("_wall" :: "BadRow" :: "BadSize" :: "NoSpare" :: "NoVersion" :: "Busy" :: "NoText" :: "MOST" :: "gives" :: "row_text" :: "Change" :: "_law_bag" :: "_law_stirred" :: "_law_draw" :: "_law_whole" :: "_law_alike" :: "_law_signs" :: "_law_text" :: "_law_row" :: "_law_rows" :: "_law_due" :: "_law_kind" :: "_law_made" :: "_law_size_spoilt" :: "_law_copy_bent" :: "_law_spoilt" :: "_law_stays" :: "_law_right" :: "_law_field" :: "_law_cells" :: "_law_done" :: []) w := by
  intro os
  kernel_rfl
def FactsP : Prop := ∀ (P : Program) (w : World) (K : PySem.W.Frag) (mg : Str → Option Value) (h : Heap) (f : Addr), K.In h → h.Ns mainGlobals mg → mg ("law" : Str) = some (.ref f) → He.SaysD fa fn K → exB K = true → ∃ fd : FuncData, (∀ (s : Shared) (v : Value), BindsTo s fd ⟨[v], []⟩ [("script", v)]) ∧ ∀ base : Heap, K.In base → base.Ns mainGlobals mg → FnOk P w K mg base CX0 13 f fd ["script"] (S1 (φlaw K))
end Z
section
open PySem PySem.W PySem.Calls PyProof.Rows
theorem Z.close (HF : Z.FactsP) : PySem.Challenge.rw_remadehere_k01_changes_made.Holds := by
  w_on; o_law
  refine HandSHeadRun.head_any (r := OpenLaw.row PySem.Challenge.rw_remadehere_k01_changes_made) (q := view (OpenLaw.row PySem.Challenge.rw_remadehere_k01_changes_made).prog [34]) (H := Z.hk) (ob := Z.ob) (M := 3000) (loose := ("_wall" :: "BadRow" :: "BadSize" :: "NoSpare" :: "NoVersion" :: "Busy" :: "NoText" :: "MOST" :: "gives" :: "row_text" :: "Change" :: "_law_bag" :: "_law_stirred" :: "_law_draw" :: "_law_whole" :: "_law_alike" :: "_law_signs" :: "_law_text" :: "_law_row" :: "_law_rows" :: "_law_due" :: "_law_kind" :: "_law_made" :: "_law_size_spoilt" :: "_law_copy_bent" :: "_law_spoilt" :: "_law_stays" :: "_law_right" :: "_law_field" :: "_law_cells" :: "_law_done" :: [])) (d := HandSHeadRun.topDef (OpenLaw.row PySem.Challenge.rw_remadehere_k01_changes_made).prog 34) (kwd := []) Z.ob_eq
    (by kernel_rfl) (fun s => by kernel_rfl) Z.run (by kernel_rfl) (by kernel_rfl) (by kernel_rfl) (by rfl) (by first | assumption | decide +kernel) (by decide +kernel) ⟨rfl, rfl, rfl, rfl, rfl, by decide +kernel⟩ ?hw ?hc
  case hw => w_witness2
  case hc =>
    refine L2.walk_ofE (l := PySem.Challenge.rw_remadehere_k01_changes_made) (n := 63) (k := 13) (x := "script") (CX := L2.CX0) rfl (by decide) (by kernel_rfl) ⟨rfl, by decide, by decide⟩ ?F (fun _ _ _ _ z => z)
    intro w mg fa h Y G hmg0
    obtain ⟨K, KX, c, ex⟩ := Y
    have hmg : mg ("law" : PySem.Str) = some (.ref fa) := by
      have e : (HandSHeadRun.topDef (OpenLaw.row PySem.Challenge.rw_remadehere_k01_changes_made).prog 34).name = ("law" : PySem.Str) := by kernel_rfl
      rw [← e]
      exact hmg0
    obtain ⟨fd, hb, hF⟩ := HF _ w K mg _ fa KX G hmg c ex
    exact ⟨K, fd, (R.S1 (R.φlaw K)), KX, hb, fun H a ns hl hO hS => R.law_start a ns hl hO hS, hF⟩
end
namespace Z
open PySem PySem.Spec PyProof.Rows L2 R
local macro_rules | `(tactic| walk_at "osq") => `(tactic| first
  | assumption
  | exact sqL_of upd_same
  | exact sqL_of (by assumption)
  | exact sqL_same (by assumption) (by assumption)
  | exact Mu.sq (by assumption)
  | exact sqL_same (Gr.ws (by assumption)) (by assumption)
  | exact sqL_same (Gr.fh (by assumption)) (by assumption))
local macro_rules | `(tactic| walk_at "ost") => `(tactic| first
  | assumption
  | exact sqT_of upd_same
  | exact sqT_of (by assumption)
  | exact sqT_same (by assumption) (by assumption)
  | exact sqT_same (Gr.ws (by assumption)) (by assumption)
  | exact sqT_same (Gr.fh (by assumption)) (by assumption))
local macro_rules | `(tactic| walk_at "owp") => `(tactic| dsimp only [wipe, List.map, List.set_cons_succ, List.set_cons_zero])
local macro_rules | `(tactic| walk_at "s1") => `(tactic| first
  | ((with_reducible refine w_mul ?c ?_); (case c => first | exact .inl ⟨by omega, by omega⟩ | exact .inr ⟨by omega, by omega⟩))
  | ((with_reducible refine w_mod ?c ?_); (case c => first | omega | decide))
  | ((with_reducible refine w_fdiv ?c ?_); (case c => exact divw_ok (by omega) (by omega)))
  | ((with_reducible refine w_pow ?c ?_); (case c => exact ⟨by omega, by omega, by omega⟩)))
local macro_rules | `(tactic| walk_at "os2") => `(tactic| first
  | ((with_reducible apply w_ixL _ _ ?c ?d); (case c => walk_at "osq"); (case d => rfl))
  | ((with_reducible apply w_lenQ _ ?c); (case c => walk_at "osq"))
  | ((with_reducible apply w_ixT _ _ ?c ?d); (case c => walk_at "ost"); (case d => rfl))
  | ((with_reducible apply w_lenS ?c); (case c => first | assumption | exact szle (by omega)))
  | ((with_reducible apply w_lenQT _ ?c); (case c => walk_at "ost"))
  | ((with_reducible apply w_tyL _ ?c); (case c => walk_at "osq")))
local macro_rules | `(tactic| walk_at "os3") => `(tactic| first
  | ((with_reducible apply w_b1 _ _ _ _ _ ?c); (case c => first | exact upd_same | assumption))
  | ((with_reducible apply w_b2 _ _ _ _ _ ?c); (case c => first | exact upd_same | assumption))
  | ((with_reducible apply w_b3 _ _ _ _ _ ?c); (case c => first | exact upd_same | assumption))
  | ((with_reducible apply w_b4 _ _ _ _ _ ?c); (case c => first | exact upd_same | assumption))
  | ((with_reducible apply w_setL _ _ ?c ?d); (case c => first | exact upd_same | assumption); (case d => rfl))
  | ((with_reducible apply w_app _ ?c ?d); (case c => first | exact upd_same | assumption | exact Mu.h (by assumption)); (case d => first | exact small_lt (by omega) | assumption))
  | ((with_reducible apply w_slL _ ?c); (case c => walk_at "osq"))
  | ((with_reducible apply w_listOf _ ?c); (case c => walk_at "osq")))
local macro_rules | `(tactic| walk_at "s6") => `(tactic| first
  | ((with_reducible refine w_iteF ?c ?_); (case c => decide +kernel))
  | ((with_reducible refine w_iteT ?c ?_); (case c => decide +kernel)))
local macro_rules | `(tactic| walk_at "og1") => `(tactic| first
  | refine goOS ?_
  | refine goOO ?_
  | ((refine sideI 2 ?_); walk_at "os2")
  | ((refine sideI 1 ?_); walk_at "s1")
  | ((refine sideI 3 ?_); walk_at "os3")
  | ((refine sideI 5 ?_); (with_reducible apply w_tgt _ ?c ?d); (case c => walk_at "ost"); (case d => rfl))
  | ((refine sideI 6 ?_); walk_at "s6"))
local macro_rules | `(tactic| walk_at "og") => `(tactic| repeat walk_at "og1")
local macro_rules | `(tactic| walk_at "memr") => `(tactic| first | with_reducible exact List.mem_cons_self .. | ((with_reducible refine List.mem_cons_of_mem _ ?_); walk_at "memr"))
local macro_rules | `(tactic| walk_at "memd") => `(tactic| first | exact List.mem_cons_self .. | ((with_reducible refine List.mem_cons_of_mem _ ?_); walk_at "memd"))
local macro_rules | `(tactic| walk_at "mem") => `(tactic| first | walk_at "memr" | walk_at "memd")
local macro_rules | `(tactic| walk_at "rm") => `(tactic| first | with_reducible exact Rm.here | ((with_reducible apply Rm.there); walk_at "rm"))
local macro_rules | `(tactic| walk_at "rmd") => `(tactic| first | exact Rm.here | ((with_reducible apply Rm.there); walk_at "rmd"))
local macro_rules | `(tactic| walk_at "pick") => `(tactic| first | with_reducible exact Pick.nil | ((with_reducible apply Pick.cons); (first | walk_at "rm" | walk_at "rmd"); walk_at "pick"))
local macro_rules | `(tactic| walk_at "pk") => `(tactic| exact ⟨_, by walk_at "pick"⟩)
local macro_rules | `(tactic| walk_at "app") => `(tactic| first | with_reducible exact App.nil | ((with_reducible apply App.cons); walk_at "app"))
local macro_rules | `(tactic| walk_at "w") => `(tactic| first | assumption | exact W.to (by assumption) (by walk_at "pick"))
local macro_rules | `(tactic| walk_at "lb") => `(tactic| first | assumption | omega | exact szle (by simp) | exact szle (by omega) | exact szle (by simp; omega) | exact small_lt (by omega) | exact small_lt (by simp; omega))
local macro_rules | `(tactic| walk_at "sq") => `(tactic| first
  | assumption
  | exact W.sqM (by assumption) (by walk_at "mem")
  | exact W.sqF (by assumption) (by walk_at "mem")
  | exact W.sqI (by assumption) (by walk_at "mem")
  | exact W.sq0 (by assumption) (by assumption))
local macro_rules | `(tactic| walk_at "st") => `(tactic| first
  | assumption
  | exact W.stF (by assumption) (by walk_at "mem")
  | exact W.stI (by assumption) (by walk_at "mem")
  | exact W.st0 (by assumption) (by assumption))
local macro_rules | `(tactic| walk_at "at") => `(tactic| first
  | assumption
  | exact W.at_ (by assumption) (by walk_at "mem")
  | exact W.fx (by assumption) (by walk_at "mem"))
local macro_rules | `(tactic| walk_at "wp") => `(tactic| dsimp only [wipe, List.map, List.set_cons_succ, List.set_cons_zero])
local macro_rules | `(tactic| walk_at "s2") => `(tactic| first
  | ((with_reducible apply w_ixL _ _ ?c ?d); (case c => walk_at "sq"); (case d => rfl))
  | ((with_reducible apply w_lenQ _ ?c); (case c => walk_at "sq"))
  | ((with_reducible apply w_ixT _ _ ?c ?d); (case c => walk_at "st"); (case d => rfl))
  | ((with_reducible apply w_lenS ?c); (case c => first | assumption | exact szle (by omega)))
  | ((with_reducible apply w_lenQT _ ?c); (case c => walk_at "st"))
  | ((with_reducible apply w_tyL _ ?c); (case c => walk_at "sq")))
local macro_rules | `(tactic| walk_at "s4") => `(tactic| first
  | ((with_reducible apply n_fld ?c ?d ?a ?b); (case c => walk_at "at"); (case d => rfl); (case a => assumption); (case b => assumption))
  | ((with_reducible apply n_meth ?c ?d); (case c => walk_at "at"); (case d => rfl))
  | ((with_reducible apply x_aug ?c ?_); (case c => rfl))
  | ((with_reducible apply n_il ?c ?_); (case c => walk_at "sq"))
  | ((with_reducible apply n_it ?c ?_); (case c => walk_at "st")))
local macro_rules | `(tactic| walk_at "s5") => `(tactic| first
  | ((with_reducible refine n_rng1 ?c ?d ?_); (case c => omega); (case d => omega))
  | ((with_reducible refine n_rng2 ?c ?d ?e ?f ?_); (case c => omega); (case d => omega); (case e => omega); (case f => omega))
  | ((with_reducible apply w_tgt _ ?c ?d); (case c => walk_at "st"); (case d => rfl))
  | ((with_reducible refine n_ipI ?_); (try dsimp only [List.set_cons_succ, List.set_cons_zero]))
  | ((with_reducible refine n_adds ?c ?_); (case c => first | exact szle (by decide +kernel) | exact szle (by omega))))
local macro_rules | `(tactic| walk_at "s7") => `(tactic| first
  | walk_at "s6"
  | ((with_reducible refine x_wp ?c ?_); (case c => rfl)))
local macro_rules | `(tactic| walk_at "go1") => `(tactic| first
  | refine goNS ?_
  | refine goNN ?_
  | ((refine sideI 2 ?_); walk_at "s2")
  | ((refine sideI 4 ?_); walk_at "s4")
  | ((refine sideI 5 ?_); walk_at "s5")
  | ((refine sideI 1 ?_); walk_at "s1")
  | ((refine sideI 6 ?_); walk_at "s7")
  | walk_at "wp")
local macro_rules | `(tactic| walk_at "go") => `(tactic| repeat walk_at "go1")
section
variable {P : Program} {w : World} {K : PySem.W.Frag} {mg : Str → Option Value} {base : Heap}
-- gives
theorem ok_gives {f : Addr} {fd : FuncData} (F : FunD K "gives" "gives" (defArgs s_gives) (defBody s_gives) (defScope s_gives) [] [] f fd) (T : Txt K mg)  : FnOk P w K mg base CX0 1 f fd ["row", "size"] (S2 (φgivesX K)) := by
  refine F.ok sc_gives (fun vs H Q E h => ?_) (fun cdv A outer s H vs Q E hr h => ?_)
  · exact S2.len h
  · match vs, h with
    | [v0, v1], h =>
    have hu := hu_of hr
    refine ⟨_, PSs.nox (pss_cons (ps_if (pt_cmpR op_eq (pe_ix (ixT (K := K)) (pv 0) pe_int (fun _ _ => rfl)) pe_str (nomark _)) (pss_one (ps_ret (pe_callB clLenS (by rfl) T.b_len (by decide +kernel) (pa_cons (pe_ix (ixT (K := K)) (pv 0) pe_int (fun _ _ => rfl)) pa_nil)))) pss_nil)
      (pss_cons (ps_if (PW.pt (pw_or (pt_cmpR op_lt (pe_ix (ixT (K := K)) (pv 0) pe_int (fun _ _ => rfl)) pe_int (nomark _)) (pw_or (pt_cmpR op_lt (pe_ix (ixT (K := K)) (pv 0) pe_int (fun _ _ => rfl)) pe_int (nomark _)) (pw_or1 (pt_cmpR op_gt (pe_op op_add (pe_ix (ixT (K := K)) (pv 0) pe_int (fun _ _ => rfl)) (pe_ix (ixT (K := K)) (pv 0) pe_int (fun _ _ => rfl))) (pv 1) (nomark _)))))) (pss_one (ps_ret pe_int)) pss_nil)
      (pss_one (ps_ret (pe_ix (ixT (K := K)) (pv 0) pe_int (fun _ _ => rfl)))))), ?_⟩
    rw [show start ["row", "size"] [v0, v1] = [some v0, some v1] from rfl]
    obtain ⟨F, r, n, rfl, hw, hx, hs, q⟩ := h
    have w := W.start (M := []) hw
    cases r with
    | put s =>
      obtain ⟨a, rfl, hT⟩ := dp_xput hx
      have hl := hs.2
      walk_at "go"
      exact q _ _ w
    | copy a k =>
      obtain ⟨p, rfl, hT⟩ := dp_xcopy hx
      walk_at "go"
      refine w_ite (fun h1 => ?_) (fun h1 => ?_)
      · walk_at "go"
        rw [show XRow.gv n (.copy a k) = 0 from if_pos (.inl h1)] at q
        exact q _ _ w
      walk_at "go"
      refine w_ite (fun h2 => ?_) (fun h2 => ?_)
      · walk_at "go"
        rw [show XRow.gv n (.copy a k) = 0 from if_pos (.inr (.inl h2))] at q
        exact q _ _ w
      walk_at "go"
      refine w_ite (fun h3 => ?_) (fun h3 => ?_)
      · walk_at "go"
        rw [show XRow.gv n (.copy a k) = 0 from if_pos (.inr (.inr h3))] at q
        exact q _ _ w
      walk_at "go"
      rw [show XRow.gv n (.copy a k) = k.toNat from if_neg (by omega), show ((k.toNat : Nat) : Int) = k by omega] at q
      exact q _ _ w
-- row_text
theorem ok_row_text {f : Addr} {fd : FuncData} (F : FunD K "row_text" "row_text" (defArgs s_row_text) (defBody s_row_text) (defScope s_row_text) [] [] f fd) (T : Txt K mg)  : FnOk P w K mg base CX0 1 f fd ["row"] (S1 (φrowtext K)) := by
  refine F.ok sc_row_text (fun vs H Q E h => ?_) (fun cdv A outer s H vs Q E hr h => ?_)
  · exact S1.len h
  · match vs, h with
    | [v0], h =>
    have hu := hu_of hr
    refine ⟨_, PSs.nox (pss_cons (ps_if (pt_cmpR op_eq (pe_ix (ixT (K := K)) (pv 0) pe_int (fun _ _ => rfl)) pe_str (nomark _)) (pss_one (ps_ret (pe_op opAddS pe_str (pe_ix (ixT (K := K)) (pv 0) pe_int (fun _ _ => rfl))))) pss_nil)
      (pss_one (ps_ret (pe_joined (.cons pe_str (.cons (pe_fmt (pe_ix (ixT (K := K)) (pv 0) pe_int (fun _ _ => rfl))) (.cons pe_str (.cons (pe_fmt (pe_ix (ixT (K := K)) (pv 0) pe_int (fun _ _ => rfl))) .nil)))))))), ?_⟩
    rw [show start ["row"] [v0] = [some v0] from rfl]
    obtain ⟨F, r, n, hw, hx, hok, hn, q⟩ := h
    have w := W.start (M := []) hw
    cases r with
    | put s =>
      obtain ⟨a, rfl, hT⟩ := dp_cput hx
      have hl := hok.s.2
      walk_at "go"
      refine n_adds (szle (by show 4 + s.length ≤ 1000000; omega)) ?_
      exact q _ _ _ (by walk_at "w") (by rw [cd_app]; rfl)
    | copy a k =>
      obtain ⟨p, rfl, hT⟩ := dp_ccopy hx
      have hp : 1 ≤ k := hok.p
      have hh : a + k ≤ n := hok.h
      have na := num_ok (n := a) (by omega)
      have nk := num_ok (n := k) (by omega)
      have la := na.2
      have lk := nk.2
      walk_at "go"
      refine n_js (szle (by rw [len_app, slen_e, slen_copy]; decide)) ?_
      walk_at "go"
      refine n_fmtI (num_log (by omega)) ?_
      refine n_js (y := numS a) (szle (by rw [len_app, len_app, slen_e, slen_copy]; omega)) ?_
      walk_at "go"
      refine n_js (szle (by rw [len_app, len_app, len_app, slen_e, slen_copy, slen_sp]; omega)) ?_
      walk_at "go"
      refine n_fmtI (num_log (by omega)) ?_
      refine n_js (y := numS k) (szle (by rw [len_app, len_app, len_app, len_app, slen_e, slen_copy, slen_sp]; omega)) ?_
      walk_at "go"
      exact q _ _ _ (by walk_at "w") (by rw [cd_app, cd_app, cd_app, cd_app, cd_e]; rfl)
-- BadRow.__init__
theorem ok_BadRowX_initX {f : Addr} {fd : FuncData} (F : FunD K "__init__" "BadRow.__init__" (defArgs s_BadRowX_initX) (defBody s_BadRowX_initX) (defScope s_BadRowX_initX) [] [] f fd) (T : Txt K mg)  : FnOk P w K mg base CX0 1 f fd ["self", "row"] (S2 (φxinit K "BadRow" "row")) := by
  refine F.ok sc_BadRowX_initX (fun vs H Q E h => ?_) (fun cdv A outer s H vs Q E hr h => ?_)
  · exact S2.len h
  · match vs, h with
    | [v0, v1], h =>
    have hu := hu_of hr
    refine ⟨_, PSs.nox (pss_cons (ps_expr (pe_xi xb_ValueError rfl T.b_ValueError PyProof.Rows.Boot.«ValueError» (by kernel_rfl) (by decide +kernel) T.x_BadRow.b (by decide +kernel) (pa_cons (pv 0) (pa_cons pe_str pa_nil))))
      (pss_one (ps_xo xb_ValueError (pv 0) (pv 1)))), ?_⟩
    rw [show start ["self", "row"] [v0, v1] = [some v0, some v1] from rfl]
    obtain ⟨a, rfl, ha, q⟩ := h
    walk_at "go"
    refine ⟨a, _, [.str "no row of a change"], rfl, by decide, T.x_BadRow.c, ha, ?_⟩
    walk_at "go"
    exact ⟨a, _, rfl, T.x_BadRow.c, T.x_BadRow.no, ha, fun dx n ne => q dx n ne⟩
-- Change.__init__
theorem ok_ChangeX_initX {f : Addr} {fd : FuncData} (F : FunD K "__init__" "Change.__init__" (defArgs s_ChangeX_initX) (defBody s_ChangeX_initX) (defScope s_ChangeX_initX) [] [] f fd) (T : Txt K mg) (D_gives : DO P w K mg base 1 "gives" ["row", "size"] [] (S2 (φgivesX K))) : FnOk P w K mg base CX0 2 f fd ["self", "size", "rows"] (S3 (φinit K)) := by
  refine F.ok sc_ChangeX_initX (fun vs H Q E h => ?_) (fun cdv A outer s H vs Q E hr h => ?_)
  · exact S3.len h
  · match vs, h with
    | [v0, v1, v2], h =>
    have hu := hu_of hr
    refine ⟨_, PSs.nox (pss_cons (ps_if (PW.pt (pw_or (pt_cmpR op_lt (pv 1) pe_int (nomark _)) (pw_or1 (pt_cmpR op_gt (pv 1) (pe_gint (by rfl) T.c_MOST) (nomark _))))) (pss_one ps_never) pss_nil)
      (pss_cons (ps_set (i := 3) sc_ChangeX_initX.nd rfl (.inl rfl) pe_int)
      (pss_cons (ps_for PassesOwn.never rfl (pi_range1 rfl T.b_range (pa_cons (pe_callB (clLenQ (K := K)) (by rfl) T.b_len (by decide +kernel) (pa_cons (pv 2) pa_nil)) pa_nil)) (pg_name (i := 4) sc_ChangeX_initX.nd rfl (.inl rfl)) (pss_cons (ps_set (i := 5) sc_ChangeX_initX.nd rfl (.inl rfl) (pcall D_gives hr (pa_cons (pe_ix (ixL (K := K)) (pv 2) (pv 4) (fun _ _ => rfl)) (pa_cons (pv 1) pa_nil))))
      (pss_cons (ps_set (i := 3) sc_ChangeX_initX.nd rfl (.inl rfl) (pe_op op_add (pv 3) (pv 5)))
      (pss_one (ps_if (PW.pt (pw_or (pt_cmpR op_eq (pv 5) pe_int (nomark _)) (pw_or1 (pt_cmpR op_gt (pv 3) (pe_gint (by rfl) T.c_MOST) (nomark _))))) (pss_one ps_never) pss_nil)))))
      (pss_cons (psFld (K := K) (pv 0) (pv 1) rfl)
      (pss_one (psFld (K := K) (pv 0) (pe_callTy (clListOf (K := K)) (by rfl) T.b_list (by decide +kernel) (pa_cons (pv 2) pa_nil)) rfl)))))), ?_⟩
    rw [show start ["self", "size", "rows", "many", "k", "more"] [v0, v1, v2] = [some v0, some v1, some v2, none, none, none] from rfl]
    have kC := T.k_Change
    have kS := T.na_Change_size
    have kR := T.na_Change_rows
    
    obtain ⟨F, c, dx, a, vs, n, rows, rfl, rfl, rfl, s0, hS, hD, hn, hok, q⟩ := h
    have w := s0.w (M := [c])
    have hrl := hok.len
    have hvl : vs.length = rows.length := by rw [dpa_len hD, List.length_map]
    obtain ⟨tM, eM⟩ := T.c_MOST
    walk_at "go"
    refine w_iteF (by omega) ?_
    walk_at "go"
    refine w_iteF (by omega) ?_
    walk_at "go"
    refine n_forR w (fun i σ L => ∃ y4 y5, σ = [some (.ref c), some (.int (n : Nat)), some (.ref a), some (.int ((givesL (rows.take i) : Nat) : Int)), y4, y5] ∧ L = [mu c (.ins (He.ga K "Change") dx [])]) ⟨none, none, rfl, rfl⟩ (fun i σ L F' H' hi hp w => ?_) (fun σ L F' H' hp w => ?_)
    · obtain ⟨y4, y5, rfl, rfl⟩ := hp
      have hi2 : i < vs.length := by omega
      obtain ⟨r, hr, dr⟩ := dpa_at hD (getD_of hi2)
      have ro := hok.ok r (List.mem_of_getElem? hr)
      have g1 := gives_take hr
      have g2 := gives_le rows (i + 1)
      have g3 := hok.sum
      have g4 := ro.p
      walk_at "go"
      refine w_ixL _ _ (by walk_at "sq") (atI_nat (getD_of hi2)) ?_
      walk_at "go"
      refine ⟨F', r.x, n, rfl, w.fh, (by rw [crow_xd]; exact w.dp0 dr), (by have z := ro.s; cases r <;> exact z), fun F2 H2 w2 => ?_⟩
      replace w := w.cal .nil w2 (by walk_at "app")
      rw [gv_x ro]
      walk_at "go"
      refine w_iteF (by omega) ?_
      walk_at "go"
      refine w_iteF (by omega) ?_
      walk_at "go"
      exact nx_mk w ⟨_, _, by rw [g1]; rfl, rfl⟩ (by walk_at "pk")
    · obtain ⟨y4, y5, rfl, rfl⟩ := hp
      walk_at "go"
      refine n_sfld w (by walk_at "pick") kC kS (by show (0 : Nat) < 1000; decide) fun H2 w => ?_
      walk_at "go"
      refine n_listOf w (by walk_at "sq") fun r F3 H3 w hr => ?_
      walk_at "go"
      refine n_sfld w (by walk_at "pick") kC kR (by show (1 : Nat) < 1000; decide) fun H4 w => ?_
      exact q r F3 H4 hr (by walk_at "w")
-- Change.__init__!
theorem ok_ChangeX_initX_r {f : Addr} {fd : FuncData} (F : FunD K "__init__" "Change.__init__" (defArgs s_ChangeX_initX_r) (defBody s_ChangeX_initX_r) (defScope s_ChangeX_initX_r) [] [] f fd) (T : Txt K mg) (D_gives : DO P w K mg base 1 "gives" ["row", "size"] [] (S2 (φgivesX K))) (DXI_BadRow : DXI P w K mg base 1 "BadRow" "row" ["self", "row"]) : FnOk P w K mg base (L2.CX P w) 3 f fd ["self", "size", "rows"] (SX3 (φinitX K)) := by
  refine F.ok sc_ChangeX_initX_r (fun vs H Q E h => ?_) (fun cdv A outer s H vs Q E hr h => ?_)
  · exact SX3.len h
  · match vs, h with
    | [v0, v1, v2], h =>
    have hu := hu_of hr
    refine ⟨_, (pss_cons (ps_if (PT.nox (PW.pt (pw_or (pt_cmpR op_lt (pv 1) pe_int (nomark _)) (pw_or1 (pt_cmpR op_gt (pv 1) (pe_gint (by rfl) T.c_MOST) (nomark _)))))) (pss_one (ps_raiseO T.e_BadSize (takes_of rfl rfl rfl rfl) rfl)) pss_nil)
      (pss_cons (PS.nox (ps_set (i := 3) sc_ChangeX_initX_r.nd rfl (.inl rfl) pe_int))
      (pss_cons (ps_for (passes_of rfl) rfl (pi_range1 rfl T.b_range (pa_cons (pe_callB (clLenQ (K := K)) (by rfl) T.b_len (by decide +kernel) (pa_cons (pv 2) pa_nil)) pa_nil)) (pg_name (i := 4) sc_ChangeX_initX_r.nd rfl (.inl rfl)) (pss_cons (PS.nox (ps_set (i := 5) sc_ChangeX_initX_r.nd rfl (.inl rfl) (pcall D_gives hr (pa_cons (pe_ix (ixL (K := K)) (pv 2) (pv 4) (fun _ _ => rfl)) (pa_cons (pv 1) pa_nil)))))
      (pss_cons (PS.nox (ps_set (i := 3) sc_ChangeX_initX_r.nd rfl (.inl rfl) (pe_op op_add (pv 3) (pv 5))))
      (pss_one (ps_if (PT.nox (PW.pt (pw_or (pt_cmpR op_eq (pv 5) pe_int (nomark _)) (pw_or1 (pt_cmpR op_gt (pv 3) (pe_gint (by rfl) T.c_MOST) (nomark _)))))) (pss_one (ps_raiseF xb_ValueError rfl T.x_BadRow DXI_BadRow hr (takes_of rfl rfl rfl rfl) (pa_cons (pv 4) pa_nil))) pss_nil)))))
      (pss_cons (PS.nox (psFld (K := K) (pv 0) (pv 1) rfl))
      (pss_one (PS.nox (psFld (K := K) (pv 0) (pe_callTy (clListOf (K := K)) (by rfl) T.b_list (by decide +kernel) (pa_cons (pv 2) pa_nil)) rfl))))))), ?_⟩
    rw [show start ["self", "size", "rows", "many", "k", "more"] [v0, v1, v2] = [some v0, some v1, some v2, none, none, none] from rfl]
    have kC := T.k_Change
    have kS := T.na_Change_size
    have kR := T.na_Change_rows
    
    obtain ⟨F, c, dx, a, vs, size, rows, rfl, rfl, rfl, s0, hD, hl, hs, q1, q2, q3⟩ := h
    have w := (s0.w (M := [c, a])).push (dpa K vs (rows.map XRow.d)) hD
    have hvl : vs.length = rows.length := by rw [dpa_len hD, List.length_map]
    obtain ⟨tM, eM⟩ := T.c_MOST
    walk_at "go"
    refine w_ite (fun h1 => ?_) (fun h1 => ?_)
    · walk_at "go"
      exact q2 (if_pos (.inl h1)) _ _ (w.to (by walk_at "pick"))
    walk_at "go"
    refine w_ite (fun h2 => ?_) (fun h2 => ?_)
    · walk_at "go"
      exact q2 (if_pos (.inr h2)) _ _ (w.to (by walk_at "pick"))
    have hn : ¬ (size < 0 ∨ 400 < size) := by omega
    walk_at "go"
    refine n_forR (n := vs.length) w (fun i σ L => ∃ (m : Nat) (y4 y5 : Option V), σ = [some (.ref c), some (.int size), some (.ref a), some (.int (m : Nat)), y4, y5] ∧ fxX size 0 0 rows = fxX size i m (rows.drop i) ∧ L = [mu c (.ins (He.ga K "Change") dx []), mu a (.lst vs), dpa K vs (rows.map XRow.d)]) ⟨0, none, none, rfl, by rw [List.drop_zero], rfl⟩ (fun i σ L F' H' hi hp w => ?_) (fun σ L F' H' hp w => ?_)
    · obtain ⟨m, y4, y5, rfl, hf, rfl⟩ := hp
      obtain ⟨r, hr⟩ : ∃ r, rows[i]? = some r := ⟨_, List.getElem?_eq_getElem (by omega)⟩
      obtain ⟨y, hy, dy⟩ := dpa_get (w.dpa (K := K) (xs := vs) (ds := rows.map XRow.d) (by walk_at "mem")) (show (rows.map XRow.d)[i]? = some r.d by rw [List.getElem?_map, hr]; rfl)
      rw [drop_at hr] at hf
      walk_at "go"
      refine w_ixL _ _ (by walk_at "sq") (atI_nat hy) ?_
      walk_at "go"
      refine ⟨_, r, size, rfl, w.fh, dy, hs r (List.mem_of_getElem? hr), fun F2 H2 w2 => ?_⟩
      replace w := w.cal .nil w2 (by walk_at "app")
      walk_at "go"
      refine w_ite (fun h3 => ?_) (fun h3 => ?_)
      · have hit := fx_hit hf (.inl (by omega)) hn
        walk_at "go"
        refine ⟨_, rfl, fun d hd => ?_⟩
        have hd' := w.g.fresh hd
        replace w := (w.im (u := .xd [("row", .int (i : Nat))]) hd).push (fx d (.xd [("row", .int (i : Nat))])) upd_same
        exact q3 i hit d _ _ hd' (w.to (by walk_at "pick"))
      walk_at "go"
      refine w_ite (fun h4 => ?_) (fun h4 => ?_)
      · have hit := fx_hit hf (.inr (by omega)) hn
        walk_at "go"
        refine ⟨_, rfl, fun d hd => ?_⟩
        have hd' := w.g.fresh hd
        replace w := (w.im (u := .xd [("row", .int (i : Nat))]) hd).push (fx d (.xd [("row", .int (i : Nat))])) upd_same
        exact q3 i hit d _ _ hd' (w.to (by walk_at "pick"))
      walk_at "go"
      exact nx_mk w ⟨m + r.gv size, _, _, rfl, hf.trans (fx_go (by omega)), rfl⟩ (by walk_at "pk")
    · obtain ⟨m, y4, y5, rfl, hf, rfl⟩ := hp
      rw [List.drop_eq_nil_of_le (by omega)] at hf
      have hok := fx_end hf hn
      walk_at "go"
      refine n_sfld w (by walk_at "pick") kC kS (by show (0 : Nat) < 1000; decide) fun H2 w => ?_
      walk_at "go"
      refine n_listOf w (by walk_at "sq") fun r F3 H3 w hr => ?_
      walk_at "go"
      refine n_sfld w (by walk_at "pick") kC kR (by show (1 : Nat) < 1000; decide) fun H4 w => ?_
      exact q1 hok r F3 H4 hr (w.to (by walk_at "pick"))
-- Change.__eq__
theorem ok_ChangeX_eqX {f : Addr} {fd : FuncData} (F : FunD K "__eq__" "Change.__eq__" (defArgs s_ChangeX_eqX) (defBody s_ChangeX_eqX) (defScope s_ChangeX_eqX) [] [] f fd) (T : Txt K mg)  : FnOk P w K mg base CX0 6 f fd ["self", "other"] (S2 (φceq K)) := by
  refine F.ok sc_ChangeX_eqX (fun vs H Q E h => ?_) (fun cdv A outer s H vs Q E hr h => ?_)
  · exact S2.len h
  · match vs, h with
    | [v0, v1], h =>
    have hu := hu_of hr
    refine ⟨_, PSs.nox (pss_one (ps_ret (pe_and (pe_callB (clIsC T.i_Change) (by rfl) T.b_isinstance (by decide +kernel) (pa_cons (pv 1) (pa_cons (C8.pe_gc (v := .ref (He.ga K "Change")) (by rfl) ⟨_, T.g_Change, rfl⟩) pa_nil))) (pe_and (pe_cmpR op_eq (peFld (K := K) (pv 0)) (peFld (K := K) (pv 1)) (nomark _)) (pe_one (pe_cmpR (opEqD (K := K) hr.units) (peFld (K := K) (pv 0)) (peFld (K := K) (pv 1)) (nomark _))))))), ?_⟩
    rw [show start ["self", "other"] [v0, v1] = [some v0, some v1] from rfl]
    have kC := T.k_Change
    have kS := T.na_Change_size
    have kR := T.na_Change_rows
    
    obtain ⟨F, n, rows, hw, hC1, hC2, hok, q⟩ := h
    obtain ⟨c1, dx1, r1, vs1, rfl, hc1, hr1, hD1⟩ := hC1
    obtain ⟨c2, dx2, r2, vs2, rfl, hc2, hr2, hD2⟩ := hC2
    have w := ((((W.start (M := []) hw).push (fx c1 _) hc1).push (fx r1 (.lst vs1)) hr1).push (fx c2 _) hc2).push (fx r2 (.lst vs2)) hr2
    unfold insC at w
    have gok := crows_good (fun m hm => (hok.ok m hm).s) (show rows.length ≤ 100000 by have := hok.len; omega)
    walk_at "go"
    refine n_isC (by walk_at "at") ?_
    walk_at "go"
    refine u_eqD (Same.refl _) (d := .list (rows.map CRow.d)) (.lst (by walk_at "sq") (dpa_same w.fh _ _ hD1)) (.lst (by walk_at "sq") (dpa_same w.fh _ _ hD2)) gok.1 (by have := gok.2; omega) ?_
    walk_at "go"
    exact q _ _ (by walk_at "w")
-- Change.__len__
theorem ok_ChangeX_lenX {f : Addr} {fd : FuncData} (F : FunD K "__len__" "Change.__len__" (defArgs s_ChangeX_lenX) (defBody s_ChangeX_lenX) (defScope s_ChangeX_lenX) [] [] f fd) (T : Txt K mg)  : FnOk P w K mg base CX0 1 f fd ["self"] (S1 (φclen K)) := by
  refine F.ok sc_ChangeX_lenX (fun vs H Q E h => ?_) (fun cdv A outer s H vs Q E hr h => ?_)
  · exact S1.len h
  · match vs, h with
    | [v0], h =>
    have hu := hu_of hr
    refine ⟨_, PSs.nox (pss_one (ps_ret (pe_callB (clLenQ (K := K)) (by rfl) T.b_len (by decide +kernel) (pa_cons (peFld (K := K) (pv 0)) pa_nil)))), ?_⟩
    rw [show start ["self"] [v0] = [some v0] from rfl]
    have kC := T.k_Change
    have kS := T.na_Change_size
    have kR := T.na_Change_rows
    
    obtain ⟨F, n, rows, hw, hC, hl, q⟩ := h
    obtain ⟨c, dx, r, vs, rfl, hc, hr, hD⟩ := hC
    have w := ((W.start (M := []) hw).push (fx c _) hc).push (fx r (.lst vs)) hr
    unfold insC at w
    walk_at "go"
    rw [show (vs.length : Nat) = rows.length by rw [dpa_len hD, List.length_map]]
    exact q _ _ (by walk_at "w")
-- Change.__str__
theorem ok_ChangeX_strX {f : Addr} {fd : FuncData} (F : FunD K "__str__" "Change.__str__" (defArgs s_ChangeX_strX) (defBody s_ChangeX_strX) (defScope s_ChangeX_strX) [] [] f fd) (T : Txt K mg) (D_row_text : DO P w K mg base 1 "row_text" ["row"] [] (S1 (φrowtext K))) : FnOk P w K mg base CX0 2 f fd ["self"] (S1 (φstr K)) := by
  refine F.ok sc_ChangeX_strX (fun vs H Q E h => ?_) (fun cdv A outer s H vs Q E hr h => ?_)
  · exact S1.len h
  · match vs, h with
    | [v0], h =>
    have hu := hu_of hr
    refine ⟨_, PSs.nox (pss_one (ps_ret (peJoin (K := K) pe_str (pe_op op_cat (pe_lst (pa_cons (pe_joined (.cons pe_str (.cons (pe_fmt (peFld (K := K) (pv 0))) .nil))) pa_nil)) (pe_lc (own := [("row", 1)]) (g := gName 1) rfl sc_ChangeX_strX.nd (pi_list (peFld (K := K) (pv 0))) (blkOk_by (own := [("row", 1)]) (N := ["self", "row"]) (sc := defScope s_ChangeX_strX) (by decide +kernel)) (fun _ _ _ _ _ => pg_name (i := 1) sc_ChangeX_strX.nd rfl (Or.inl rfl)) (fun _ _ _ _ _ => pts_nil) (fun _ _ _ _ _ => (pcall D_row_text hr (pa_cons (pv 1) pa_nil)))))))), ?_⟩
    rw [show start ["self", "row"] [v0] = [some v0, none] from rfl]
    have kC := T.k_Change
    have kS := T.na_Change_size
    have kR := T.na_Change_rows
    
    obtain ⟨F, n, rows, hw, hC, hok, hn, q⟩ := h
    obtain ⟨c, dx, r, vs, rfl, hc, hr', hD⟩ := hC
    have w := (((W.start (M := []) hw).push (fx c _) hc).push (fx r (.lst vs)) hr').push (dpa K vs (rows.map CRow.d)) hD
    unfold insC at w
    have hrl := hok.len
    have hvl : vs.length = rows.length := by rw [dpa_len hD, List.length_map]
    have nn := num_ok hn
    have ln := nn.2
    walk_at "go"
    refine n_js (szle (by rw [len_app, slen_e, slen_size]; decide)) ?_
    walk_at "go"
    refine n_fmtI (num_log hn) ?_
    refine n_js (y := numS n) (szle (by rw [len_app, len_app, slen_e, slen_size]; omega)) ?_
    walk_at "go"
    refine n_lst w (szle (by simp)) fun p1 F1 H1 w hp1 => ?_
    walk_at "go"
    refine n_lcL vs w (fun i ys L => ∃ ts : List Str, ys = ts.map V.str ∧ ts.map cd = (rows.take i).map rowW ∧ L = [mu p1 (.lst [V.str (Str.empty ++ Str.ofString "size " ++ numS n)]), fx r (.lst vs), dpa K vs (rows.map CRow.d)]) ⟨[], rfl, rfl, rfl⟩ (fun i ys L F' H' D hp w => ?_) (fun i x ys L F' H' D hx hp w hDn => ?_) (fun D ys L F' H' hp w hDn => ?_)
    · obtain ⟨ts, rfl, ht, rfl⟩ := hp
      walk_at "sq"
    · obtain ⟨ts, rfl, ht, rfl⟩ := hp
      obtain ⟨m, hm, dm⟩ := dpa_at (w.dpa (K := K) (xs := vs) (ds := rows.map CRow.d) (by walk_at "mem")) hx
      have hi := (List.getElem?_eq_some_iff.mp hm).1
      have lt : ts.length = i := by
        have := congrArg List.length ht
        rw [List.length_map, List.length_map, List.length_take] at this
        omega
      walk_at "wp"
      walk_at "go"
      refine ⟨_, m, n, w.fh, dm, hok.ok m (List.mem_of_getElem? hm), hn, fun s F5 H5 w5 hs => ?_⟩
      replace w := w.cal .nil w5 (by walk_at "app")
      refine n_acc _ w ⟨ts ++ [s], by rw [List.map_append]; rfl, ?_, rfl⟩ (by walk_at "pk") (small_lt (by rw [List.length_map]; omega))
      rw [List.map_append, ht, List.take_add_one, hm, List.map_append, List.map_cons, hs]
      rfl
    · obtain ⟨ts, rfl, ht, rfl⟩ := hp
      rw [hvl, List.take_length] at ht
      have lt : ts.length = rows.length := by
        have := congrArg List.length ht
        rwa [List.length_map, List.length_map] at this
      walk_at "go"
      refine n_cat w (by walk_at "at") (by walk_at "at") (szle (by rw [List.length_map]; show 1 + _ ≤ _; omega)) fun p4 F6 H6 w hp4 => ?_
      walk_at "go"
      refine ⟨_, p4, (Str.empty ++ Str.ofString "size " ++ numS n) :: ts, rfl, rfl, .inl (by walk_at "sq"), ?_, ?_⟩
      · have hb : ∀ t ∈ (Str.empty ++ Str.ofString "size " ++ numS n) :: ts, t.length ≤ 1000 := by
          intro t ht2
          rcases List.mem_cons.mp ht2 with rfl | ht2
          · rw [len_app, len_app, slen_e, slen_size]
            omega
          · have hm2 : cd t ∈ rows.map rowW := by rw [← ht]; exact List.mem_map.mpr ⟨t, ht2, rfl⟩
            obtain ⟨m, hm, e⟩ := List.mem_map.mp hm2
            have h1 := row_len (hok.ok m hm) hn
            have h2 := row_le hm
            have h3 := hok.sum
            rw [← cd_len, ← e]
            omega
        have hs := sum_le hb
        rw [slen_nl]
        rw [List.length_cons] at hs ⊢
        omega
      · refine q _ _ _ (by walk_at "w") ?_
        rw [join_nl, ht, cd_app, cd_app, cd_e]
        show _ ++ ((rows.map rowW).flatMap fun c => 10 :: c) = _
        rw [List.flatMap_map]
        rfl
-- Change.cells
theorem ok_Change_cells {f : Addr} {fd : FuncData} (F : FunD K "cells" "Change.cells" (defArgs s_Change_cells) (defBody s_Change_cells) (defScope s_Change_cells) [] [] f fd) (T : Txt K mg)  : FnOk P w K mg base CX0 1 f fd ["self"] (S1 (φcells K)) := by
  refine F.ok sc_Change_cells (fun vs H Q E h => ?_) (fun cdv A outer s H vs Q E hr h => ?_)
  · exact S1.len h
  · match vs, h with
    | [v0], h =>
    have hu := hu_of hr
    refine ⟨_, PSs.nox (pss_cons (ps_set (i := 1) sc_Change_cells.nd rfl (.inl rfl) (pe_lst pa_nil))
      (pss_cons (ps_for PassesOwn.never rfl (pi_list (peFld (K := K) (pv 0))) (pg_name (i := 2) sc_Change_cells.nd rfl (.inl rfl)) (pss_one (ps_if (pt_cmpR op_eq (pe_ix (ixT (K := K)) (pv 2) pe_int (fun _ _ => rfl)) pe_str (nomark _)) (pss_one (ps_expr (peBM (K := K) PySem.F.plainAttrs_list PySem.F.slot_list_extend PySem.F.type_list_extend mt_extend (pv 1) (pa_cons (pe_callTy clListS (by rfl) T.b_list (by decide +kernel) (pa_cons (pe_ix (ixT (K := K)) (pv 2) pe_int (fun _ _ => rfl)) pa_nil)) pa_nil)))) (pss_one (ps_expr (peBM (K := K) PySem.F.plainAttrs_list PySem.F.slot_list_extend PySem.F.type_list_extend mt_extend (pv 1) (pa_cons (pe_listRg rfl (by rfl) T.b_list (prg_2 (by rfl) T.b_range (pe_ix (ixT (K := K)) (pv 2) pe_int (fun _ _ => rfl)) (pe_op op_add (pe_ix (ixT (K := K)) (pv 2) pe_int (fun _ _ => rfl)) (pe_ix (ixT (K := K)) (pv 2) pe_int (fun _ _ => rfl))))) pa_nil)))))))
      (pss_one (ps_ret (pv 1))))), ?_⟩
    rw [show start ["self", "found", "row"] [v0] = [some v0, none, none] from rfl]
    have kC := T.k_Change
    have kS := T.na_Change_size
    have kR := T.na_Change_rows
    
    obtain ⟨F, n, rows, hw, hC, hok, hn, q⟩ := h
    obtain ⟨c, dx, r, vs, rfl, hc, hr, hD⟩ := hC
    have w := ((W.start (M := []) hw).push (fx c _) hc).push (fx r (.lst vs)) hr
    unfold insC at w
    walk_at "go"
    refine n_lst w (szle (by simp)) fun f F1 H1 w hf => ?_
    walk_at "go"
    refine n_forL vs w (fun i σ L => ∃ y2, σ = [some (.ref c), some (.ref f), y2] ∧ L = [mu f (.lst (cellsV (rows.take i))), fx r (.lst vs)]) ⟨none, rfl, rfl⟩ (fun i σ L F' H' hp w => ?_) (fun i x σ L F' H' hx hp w => ?_) (fun σ L F' H' hp w => ?_)
    · obtain ⟨y2, rfl, rfl⟩ := hp
      walk_at "sq"
    · obtain ⟨y2, rfl, rfl⟩ := hp
      obtain ⟨m, hm, dm⟩ := dpa_at hD hx
      have mo := hok.ok m (List.mem_of_getElem? hm)
      have e1 : cellsV (rows.take (i + 1)) = cellsV (rows.take i) ++ m.cellV := by
        unfold cellsV
        rw [List.take_add_one, hm, List.flatMap_append]
        simp
      have l1 := cells_len (rows.take i)
      have l2 := gives_le rows i
      have l3 := hok.sum
      cases m with
      | put s =>
        obtain ⟨pm, rfl, hT⟩ := dp_cput dm
        have hT := sqT_same (K := K) w.ws hT
        have hsl := mo.s.2
        walk_at "go"
        refine n_listS w (szle (by omega)) fun p2 F2 H2 w hp2 => ?_
        walk_at "go"
        refine n_ext w (by walk_at "at") (by walk_at "pick") (szle (by rw [chars_len]; omega)) fun H3 w => ?_
        rw [show chars s = (CRow.put s).cellV from rfl] at w
        rw [← e1] at w
        exact nx_mk w ⟨_, rfl, rfl⟩ (by walk_at "pk")
      | copy a k =>
        obtain ⟨pm, rfl, hT⟩ := dp_ccopy dm
        have hT := sqT_same (K := K) w.ws hT
        have hh : a + k ≤ n := mo.h
        have hk : 1 ≤ k := mo.p
        have hk2 := gives_take hm
        have hk3 := gives_le rows (i + 1)
        replace hk2 : givesL (rows.take (i + 1)) = givesL (rows.take i) + k := hk2
        walk_at "go"
        refine ⟨_, _, rfl, rfl, ?_⟩
        refine n_lstRg w (RgOk.of_le (by omega) (by omega) (by omega) (by omega)) fun p2 F2 H2 w hp2 => ?_
        rw [show rgV (a : Int) ((a : Int) + (k : Nat)) = CRow.cellV (.copy a k) by unfold rgV CRow.cellV; rw [show ((a : Int) + (k : Nat) - (a : Int)).toNat = k by omega]; rfl] at w
        walk_at "go"
        refine n_ext w (by walk_at "at") (by walk_at "pick") (szle (by rw [cellV_len]; show _ + k ≤ _; omega)) fun H3 w => ?_
        rw [← e1] at w
        exact nx_mk w ⟨_, rfl, rfl⟩ (by walk_at "pk")
    · obtain ⟨y2, rfl, rfl⟩ := hp
      rw [List.take_of_length_le (by rw [dpa_len hD, List.length_map]; exact Nat.le_refl _)] at w
      walk_at "go"
      exact q f F' H' hf (by walk_at "w")
-- Change.done
theorem ok_Change_done {f : Addr} {fd : FuncData} (F : FunD K "done" "Change.done" (defArgs s_Change_done) (defBody s_Change_done) (defScope s_Change_done) [] [] f fd) (T : Txt K mg)  (DM_Change_cells : DM P w K mg base 1 "Change" "cells" ["self"] [] (S1 (φcells K))) : FnOk P w K mg base CX0 2 f fd ["self", "old"] (S2 (φdoneC K)) := by
  refine F.ok sc_Change_done (fun vs H Q E h => ?_) (fun cdv A outer s H vs Q E hr h => ?_)
  · exact S2.len h
  · match vs, h with
    | [v0, v1], h =>
    have hu := hu_of hr
    refine ⟨_, PSs.nox (pss_cons (ps_if (pt_cmpR op_ne (pe_callB clLenS (by rfl) T.b_len (by decide +kernel) (pa_cons (pv 1) pa_nil)) (peFld (K := K) (pv 0)) (nomark _)) (pss_one ps_never) pss_nil)
      (pss_one (ps_ret (peJoin (K := K) pe_str (pe_lc (own := [("cell", 2)]) (g := gName 2) rfl sc_Change_done.nd (pi_list (pmeth0 DM_Change_cells hr (pv 0))) (blkOk_by (own := [("cell", 2)]) (N := ["self", "old", "cell"]) (sc := defScope s_Change_done) (by decide +kernel)) (fun _ _ _ _ _ => pg_name (i := 2) sc_Change_done.nd rfl (Or.inl rfl)) (fun _ _ _ _ _ => pts_nil) (fun _ _ _ _ _ => (pe_ifExp (pt_val (pe_callB (clIsi (K := K)) (by rfl) T.b_isinstance (by decide +kernel) (pa_cons (pv 2) (pa_cons (pe_bltn (v := .ty "int") (by rfl) T.b_int (by decide +kernel) rfl) pa_nil)))) (pe_ix ix_str (pv 1) (pv 2) (fun _ _ => rfl)) (pv 2)))))))), ?_⟩
    rw [show start ["self", "old", "cell"] [v0, v1] = [some v0, some v1, none] from rfl]
    have kC := T.k_Change
    have kS := T.na_Change_size
    have kR := T.na_Change_rows
    
    obtain ⟨F, o, rows, rfl, hw, hC, hok, oko, ho, q⟩ := h
    have hC0 := hC
    obtain ⟨c, dx, r, vs, rfl, hc, hr, hD⟩ := hC
    have w := (W.start (M := []) hw).push (fx c _) hc
    unfold insC at w
    have hcs := cells_ok hok.ok
    have hcl : (cellsV rows).length ≤ 400 := by rw [cells_len]; exact hok.sum
    walk_at "go"
    refine ⟨F, o.length, rows, w.fh, hC0, hok, ho, fun p1 F1 H1 hp1 w1 => ?_⟩
    have hp1' := w.g.fresh hp1
    replace w := w.cal .nil w1 (by walk_at "app")
    walk_at "go"
    
    refine n_lcL (cellsV rows) w (fun i ys L => ys = ((cellsV rows).take i).map (fun v => V.str (outS o v)) ∧ L = [mu p1 (.lst (cellsV rows))]) ⟨rfl, rfl⟩ (fun i ys L F' H' D hp w => ?_) (fun i x ys L F' H' D hx hp w hDn => ?_) (fun D ys L F' H' hp w hDn => ?_)
    · obtain ⟨rfl, rfl⟩ := hp
      walk_at "sq"
    · obtain ⟨rfl, rfl⟩ := hp
      have hi := (List.getElem?_eq_some_iff.mp hx).1
      have e1 : ((cellsV rows).take (i + 1)).map (fun v => V.str (outS o v)) = ((cellsV rows).take i).map (fun v => V.str (outS o v)) ++ [V.str (outS o x)] := by
        rw [List.take_add_one, hx, List.map_append]
        rfl
      have hl : (((cellsV rows).take i).map (fun v => V.str (outS o v))).length ≤ 1000 := by
        rw [List.length_map, List.length_take]
        omega
      walk_at "wp"
      walk_at "go"
      rcases hcs x (List.mem_of_getElem? hx) with ⟨k, rfl, hk⟩ | ⟨c, rfl, hc⟩
      · refine u_isi (F := F') (d := .int (k : Nat)) (.int _) w.fh (k_int _) ?_
        walk_at "go"
        refine w_is (c := true) rfl ?_
        walk_at "go"
        refine w_ixS (szle (by omega)) (sign_get hk) ?_
        exact n_acc _ w ⟨e1.symm, rfl⟩ (by walk_at "pk") (small_lt (by omega))
      · refine u_isi (F := F') (d := .str ⟨#[c]⟩) (.str _) w.fh (k_int _) ?_
        walk_at "go"
        refine w_is (c := false) rfl ?_
        walk_at "go"
        exact n_acc _ w ⟨e1.symm, rfl⟩ (by walk_at "pk") (small_lt (by omega))
    · obtain ⟨rfl, rfl⟩ := hp
      rw [List.take_of_length_le (Nat.le_refl _)] at w
      obtain ⟨zs, ezs⟩ : ∃ zs, zs = (cellsV rows).map (outS o) := ⟨_, rfl⟩
      have hzs : ∀ z ∈ zs, z.length = 1 ∧ okS z := fun z hz => by
        rw [ezs] at hz
        obtain ⟨v, hv, rfl⟩ := List.mem_map.mp hz
        exact outS_ok rfl oko (hcs v hv)
      rw [show (cellsV rows).map (fun v => V.str (outS o v)) = zs.map V.str by rw [ezs, List.map_map]; rfl] at w
      refine ⟨_, D, zs, rfl, rfl, .inl (by walk_at "sq"), ?_, ?_⟩
      · rw [sum_ones zs hzs]
        have : zs.length = (cellsV rows).length := by rw [ezs, List.length_map]
        show zs.length + zs.length * 0 ≤ 16777216
        omega
      · refine q _ F' H' (by walk_at "w") ?_ (joined zs hzs).2
        show cd (Txt.join ⟨#[]⟩ zs) = _
        rw [join_cd, ezs]
        exact outs_rows o hok.ok
-- _law_bag
theorem ok_law_bag {f : Addr} {fd : FuncData} (F : FunD K "_law_bag" "_law_bag" (defArgs s_law_bag) (defBody s_law_bag) (defScope s_law_bag) [] [] f fd) (T : Txt K mg)  : FnOk P w K mg base CX0 1 f fd ["script"] (S1 (φbag K)) := by
  refine F.ok sc_law_bag (fun vs H Q E h => ?_) (fun cdv A outer s H vs Q E hr h => ?_)
  · exact S1.len h
  · match vs, h with
    | [v0], h =>
    have hu := hu_of hr
    refine ⟨_, PSs.nox (pss_cons (ps_set (i := 1) sc_law_bag.nd rfl (.inl rfl) pe_int)
      (pss_cons (ps_for PassesOwn.never rfl (pi_list (pe_slice (slL (K := K)) (pv 0) po_none (po_some pe_int))) (pg_name (i := 2) sc_law_bag.nd rfl (.inl rfl)) (pss_one (ps_set (i := 1) sc_law_bag.nd rfl (.inl rfl) (pe_op op_mod (pe_op op_add (pe_op op_add (pe_op op_mul (pv 1) pe_int) (pe_op op_mod (pv 2) pe_int)) pe_int) pe_int))))
      (pss_one (ps_ret (pe_lst (pa_cons (pe_lc (own := [("cell", 2)]) (g := gName 2) rfl sc_law_bag.nd (pi_list (pe_slice (slL (K := K)) (pv 0) po_none (po_some pe_int))) (blkOk_by (own := [("cell", 2)]) (N := ["script", "stir", "cell"]) (sc := defScope s_law_bag) (by decide +kernel)) (fun _ _ _ _ _ => pg_name (i := 2) sc_law_bag.nd rfl (Or.inl rfl)) (fun _ _ _ _ _ => pts_nil) (fun _ _ _ _ _ => (pe_op op_mod (pe_callB clAbs (by rfl) T.b_abs (by decide +kernel) (pa_cons (pv 2) pa_nil)) (pe_op op_pow pe_int pe_int)))) (pa_cons pe_int (pa_cons pe_int (pa_cons (pv 1) (pa_cons pe_int pa_nil)))))))))), ?_⟩
    rw [show start ["script", "stir", "cell"] [v0] = [some v0, none, none] from rfl]
    obtain ⟨a, ns, rfl, hS, hl, q⟩ := h
    walk_at "og"
    intro l nl
    rw [cut63 hl]
    refine ⟨l, rfl, ⟨_, sqL_of upd_same⟩, f_list (xs := ns.map V.int) (fun i σ H' => ∃ (st : Int) (y : Option V), σ = [some (.ref a), some (.int st), y] ∧ 0 ≤ st ∧ st < 2147483647 ∧ H' = upd H l (.lst (ns.map V.int))) ⟨19, none, rfl, by decide, by decide, rfl⟩ (fun i σ H' _ hp => ?_) (fun i x σ H' hx hp => ?_) (fun σ H' hp => ?_)⟩
    · obtain ⟨st, y, _, _, _, rfl⟩ := hp
      exact sqL_of upd_same
    · obtain ⟨st, y, rfl, s0, s1, rfl⟩ := hp
      obtain ⟨z, rfl⟩ := map_get hx
      walk_at "og"
      exact ⟨_, _, rfl, mod_nn (by decide), mod_lt (by decide), rfl⟩
    · obtain ⟨st, y, rfl, s0, s1, rfl⟩ := hp
      have hS2 : SqL K (upd H l (.lst (ns.map V.int))) a (ns.map V.int) := sqL_same (Same.new nl) hS
      walk_at "og"
      intro l2 nl2
      rw [cut63 hl]
      have g0 : Gr [] H H H (upd H l (.lst (ns.map V.int))) := .new (Same.refl H) nl
      have g1 := g0.add (o := .lst (ns.map V.int)) nl2
      refine ⟨l2, rfl, ⟨_, sqL_of upd_same⟩, fun D nD => ?_⟩
      have g2 := g1.addm (o := .lst []) nD
      refine lc_list (xs := ns.map V.int) (fun i H' => ∃ vs : List Int, Gr [] H H (upd H l2 (.lst (ns.map V.int))) H' ∧ Mu (upd H l2 (.lst (ns.map V.int))) H' D (.lst (vs.map V.int)) ∧ (∀ x ∈ vs, 0 ≤ x ∧ x < 10 ^ 60) ∧ vs.length = i) ⟨[], g2, Mu.new g1.fh nD, by simp, rfl⟩ (fun i H' _ hp => ?_) (fun i x H' hx hp => ?_) (fun H' hp => ?_)
      · obtain ⟨vs, g, _⟩ := hp
        exact sqL_same g.fh (sqL_of upd_same)
      · obtain ⟨vs, g, mu, hv, hn⟩ := hp
        obtain ⟨z, rfl⟩ := map_get hx
        have hi : i < ns.length := by
          have := (List.getElem?_eq_some_iff.mp hx).1
          rwa [List.length_map] at this
        show gName 2 _ [some (.ref a), some (.int st), none] H' _
        walk_at "og"
        refine ⟨rfl, ?_⟩
        walk_at "og"
        refine ⟨_, mu.h, small1000 (by rw [List.length_map]; omega), vs ++ [_], g.wrn mu.n (g1.fresh nD), by rw [List.map_append]; exact mu.wr, ?_, by simp [hn]⟩
        intro x hx
        rcases List.mem_append.mp hx with hx | hx
        · exact hv x hx
        · rw [List.mem_singleton.mp hx]
          exact ⟨mod_nn (by decide), mod_lt (by decide)⟩
      · obtain ⟨vs, g, mu, hv, hn⟩ := hp
        walk_at "og"
        refine ⟨le1000 (by simp), fun p np => ?_⟩
        have g5 := (g.frz (g1.fresh nD) mu).addm (o := .lst [.ref D, .int 0, .int 0, .int st, .int 0]) np
        refine q p _ _ g5 ⟨D, vs, 0, 0, st, 0, ?_, upd_same, sqL_of upd_same, by rw [hn, List.length_map]; exact hl, hv, by decide, by decide, by decide, s0, s1⟩
        have nF := g.fh.free np
        rw [upd_ne (mu.ne_new np).symm]
        exact nF
-- _law_stirred
theorem ok_law_stirred {f : Addr} {fd : FuncData} (F : FunD K "_law_stirred" "_law_stirred" (defArgs s_law_stirred) (defBody s_law_stirred) (defScope s_law_stirred) [] [] f fd) (T : Txt K mg)  : FnOk P w K mg base CX0 1 f fd ["bag", "many"] (S2 (φdraw K)) := by
  refine F.ok sc_law_stirred (fun vs H Q E h => ?_) (fun cdv A outer s H vs Q E hr h => ?_)
  · exact S2.len h
  · match vs, h with
    | [v0, v1], h =>
    have hu := hu_of hr
    refine ⟨_, PSs.nox (pss_cons (ps_set (i := 2) sc_law_stirred.nd rfl (.inl rfl) pe_int)
      (pss_cons (ps_for PassesOwn.never rfl (pi_range1 rfl T.b_range (pa_cons (pe_op op_add pe_int (pe_op op_fdivW (pe_bits (pv 1)) pe_int)) pa_nil)) (pg_name (i := 3) sc_law_stirred.nd rfl (.inl rfl)) (pss_cons (ps_asg (pe_op op_add (pe_ix (ixL (K := K)) (pv 0) pe_int (fun _ _ => rfl)) pe_int) (pg_sub (pv 0) pe_int set_list))
      (pss_cons (ps_asg (pe_op op_mod (pe_op op_add (pe_op op_add (pe_op op_add (pe_op op_pow (pe_ix (ixL (K := K)) (pv 0) pe_int (fun _ _ => rfl)) pe_int) (pe_op op_mul pe_int (pe_ix (ixL (K := K)) (pv 0) pe_int (fun _ _ => rfl)))) (pe_op op_mul pe_int (pe_ix (ixL (K := K)) (pv 0) pe_int (fun _ _ => rfl)))) pe_int) pe_int) (pg_sub (pv 0) pe_int set_list))
      (pss_one (ps_set (i := 2) sc_law_stirred.nd rfl (.inl rfl) (pe_op op_add (pe_op op_mul (pv 2) pe_int) (pe_op op_fdivW (pe_ix (ixL (K := K)) (pv 0) pe_int (fun _ _ => rfl)) pe_int)))))))
      (pss_one (ps_ret (pe_op op_mod (pv 2) (pv 1)))))), ?_⟩
    rw [show start ["bag", "many", "found", "k"] [v0, v1] = [some v0, some v1, none, none] from rfl]
    obtain ⟨b, m, F, rfl, rfl, hw, hb, h0, h1, q⟩ := h
    have hbits := bits_le h0 h1
    have hb0 : (0 : Int) ≤ (Builtin.Int.intBits m : Nat) := Int.natCast_nonneg _
    have hd0 : (0 : Int) ≤ (Builtin.Int.intBits m : Nat) / 27 := div_nn hb0 (by decide)
    have hd1 : (Builtin.Int.intBits m : Int) / 27 ≤ (Builtin.Int.intBits m : Nat) := div_le' hb0 (by decide)
    walk_at "og"
    refine ⟨_, rfl, by omega, by omega, f_range0 (fun i σ H' => ∃ (f : Int) (y : Option V) (F2 : Hp), σ = [some (.ref b), some (.int m), some (.int f), y] ∧ Gr [b] F H F2 H' ∧ Bag K F2 H' b) ⟨0, none, F, rfl, .refl hw, hb⟩ (fun i σ H' hi hp => ?_) (fun σ H' hp => ?_)⟩
    · obtain ⟨f, y, F2, rfl, g, hB⟩ := hp
      obtain ⟨c, cells, i1, cur, st, n, e1, e2, e3, e4, e5, e6, e7, e8, e9, e10⟩ := hB.ex
      walk_at "og"
      exact ⟨_, _, F2, rfl, (g.put e1 (by simp)).put e1 (by simp), ⟨c, cells, i1, cur, _, _, e1, upd_same, e3, e4, e5, e6, e7, e8, mod_nn (by decide), mod_lt (by decide)⟩⟩
    · obtain ⟨f, y, F2, rfl, g, hB⟩ := hp
      walk_at "og"
      exact q _ F2 H' g hB (mod_nn h0) (mod_lt h0)
-- _law_draw
theorem ok_law_draw {f : Addr} {fd : FuncData} (F : FunD K "_law_draw" "_law_draw" (defArgs s_law_draw) (defBody s_law_draw) (defScope s_law_draw) [] [] f fd) (T : Txt K mg) (D_law_stirred : DO P w K mg base 1 "_law_stirred" ["bag", "many"] [] (S2 (φdraw K))) : FnOk P w K mg base CX0 2 f fd ["bag", "many"] (S2 (φdraw K)) := by
  refine F.ok sc_law_draw (fun vs H Q E h => ?_) (fun cdv A outer s H vs Q E hr h => ?_)
  · exact S2.len h
  · match vs, h with
    | [v0, v1], h =>
    have hu := hu_of hr
    refine ⟨_, PSs.nox (pss_cons (ps_if (PW.pt (pw_and (pt_cmpR op_eq (pe_ix (ixL (K := K)) (pv 0) pe_int (fun _ _ => rfl)) pe_int (nomark _)) (pw_and1 (pt_cmpR op_lt (pe_ix (ixL (K := K)) (pv 0) pe_int (fun _ _ => rfl)) (pe_callB (clLenQ (K := K)) (by rfl) T.b_len (by decide +kernel) (pa_cons (pe_ix (ixL (K := K)) (pv 0) pe_int (fun _ _ => rfl)) pa_nil)) (nomark _))))) (pss_cons (ps_asg (pe_ix (ixL (K := K)) (pe_ix (ixL (K := K)) (pv 0) pe_int (fun _ _ => rfl)) (pe_ix (ixL (K := K)) (pv 0) pe_int (fun _ _ => rfl)) (fun _ _ => rfl)) (pg_sub (pv 0) pe_int set_list))
      (pss_one (ps_asg (pe_op op_add (pe_ix (ixL (K := K)) (pv 0) pe_int (fun _ _ => rfl)) pe_int) (pg_sub (pv 0) pe_int set_list)))) (pss_one (ps_if (pt_cmpR op_eq (pe_ix (ixL (K := K)) (pv 0) pe_int (fun _ _ => rfl)) pe_int (nomark _)) (pss_one (ps_ret (pcall D_law_stirred hr (pa_cons (pv 0) (pa_cons (pv 1) pa_nil))))) pss_nil)))
      (pss_cons (ps_set (i := 2) sc_law_draw.nd rfl (.inl rfl) (pe_op op_mod (pe_ix (ixL (K := K)) (pv 0) pe_int (fun _ _ => rfl)) (pv 1)))
      (pss_cons (ps_asg (pe_op op_fdivW (pe_ix (ixL (K := K)) (pv 0) pe_int (fun _ _ => rfl)) (pv 1)) (pg_sub (pv 0) pe_int set_list))
      (pss_one (ps_ret (pv 2)))))), ?_⟩
    rw [show start ["bag", "many", "found"] [v0, v1] = [some v0, some v1, none] from rfl]
    obtain ⟨b, m, F, rfl, rfl, hw, hb, h0, h1, q⟩ := h
    obtain ⟨c, cells, i1, cur, st, n, e1, e2, e3, e4, e5, e6, e7, e8, e9, e10⟩ := hb.ex
    have e3' := sqL_same hw e3
    have gr := Gr.refl (M := [b]) hw
    walk_at "og"
    refine w_ite (fun hc => ?_) (fun hc => ?_)
    · walk_at "og"
      refine w_ite (fun hd => ?_) (fun hd => ?_)
      · obtain ⟨x, hx, ex⟩ := cell_at e6 hd
        have bx := e5 x hx
        walk_at "og"
        refine w_ixL _ _ e3' ex ?_
        walk_at "og"
        exact q _ F _ (((gr.put e1 (by simp)).put e1 (by simp)).put e1 (by simp)) ⟨c, cells, i1 + 1, x / m, st, n, e1, upd_same, e3, e4, e5, by omega, div_nn bx.1 h0, Int.lt_of_le_of_lt (div_le' bx.1 h0) bx.2, e9, e10⟩ (mod_nn h0) (mod_lt h0)
      · walk_at "og"
        refine w_iteT hc ?_
        walk_at "og"
        exact ⟨b, m, F, rfl, rfl, hw, hb, h0, h1, q⟩
    · walk_at "og"
      refine w_iteF hc ?_
      walk_at "og"
      exact q _ F _ (gr.put e1 (by simp)) ⟨c, cells, i1, cur / m, st, n, e1, upd_same, e3, e4, e5, e6, div_nn e7 h0, Int.lt_of_le_of_lt (div_le' e7 h0) e8, e9, e10⟩ (mod_nn h0) (mod_lt h0)
-- _law_alike
theorem ok_law_alike {f : Addr} {fd : FuncData} (F : FunD K "_law_alike" "_law_alike" (defArgs s_law_alike) (defBody s_law_alike) (defScope s_law_alike) [] [] f fd) (T : Txt K mg) {n : Nat} (D_law_alike : DO P w K mg base n "_law_alike" ["found", "due"] [] (S2 (φalike K n))) : FnOk P w K mg base CX0 (n + 1) f fd ["found", "due"] (S2 (φalike K (n + 1))) := by
  refine F.ok sc_law_alike (fun vs H Q E h => ?_) (fun cdv A outer s H vs Q E hr h => ?_)
  · exact S2.len h
  · match vs, h with
    | [v0, v1], h =>
    have hu := hu_of hr
    refine ⟨_, PSs.nox (pss_cons (ps_if (pt_val (pe_callB (clIsiT (K := K)) (by rfl) T.b_isinstance (by decide +kernel) (pa_cons (pv 1) (pa_cons (pe_tup (pa_cons (pe_bltn (v := .ty "list") (by rfl) T.b_list (by decide +kernel) rfl) (pa_cons (pe_bltn (v := .ty "tuple") (by rfl) T.b_tuple (by decide +kernel) rfl) pa_nil))) pa_nil)))) (pss_cons (ps_if (PW.pt (pw_or (pt_not (pt_val (pe_callB (clIsiT (K := K)) (by rfl) T.b_isinstance (by decide +kernel) (pa_cons (pv 0) (pa_cons (pe_tup (pa_cons (pe_bltn (v := .ty "list") (by rfl) T.b_list (by decide +kernel) rfl) (pa_cons (pe_bltn (v := .ty "tuple") (by rfl) T.b_tuple (by decide +kernel) rfl) pa_nil))) pa_nil))))) (pw_or1 (pt_cmpR op_ne (pe_callB (clIsi (K := K)) (by rfl) T.b_isinstance (by decide +kernel) (pa_cons (pv 0) (pa_cons (pe_bltn (v := .ty "list") (by rfl) T.b_list (by decide +kernel) rfl) pa_nil))) (pe_callB (clIsi (K := K)) (by rfl) T.b_isinstance (by decide +kernel) (pa_cons (pv 1) (pa_cons (pe_bltn (v := .ty "list") (by rfl) T.b_list (by decide +kernel) rfl) pa_nil))) (nomark _))))) (pss_one (ps_ret pe_bl)) pss_nil)
      (pss_cons (ps_if (pt_cmpR op_ne (pe_callB (clLenQ (K := K)) (by rfl) T.b_len (by decide +kernel) (pa_cons (pv 0) pa_nil)) (pe_callB (clLenQ (K := K)) (by rfl) T.b_len (by decide +kernel) (pa_cons (pv 1) pa_nil)) (nomark _)) (pss_one (ps_ret pe_bl)) pss_nil)
      (pss_one (ps_ret (pe_callB (clAll (K := K)) (by rfl) T.b_all (by decide +kernel) (pa_cons (pe_lc (own := [("k", 2)]) (g := gName 2) rfl sc_law_alike.nd (pi_range1 rfl T.b_range (pa_cons (pe_callB (clLenQ (K := K)) (by rfl) T.b_len (by decide +kernel) (pa_cons (pv 1) pa_nil)) pa_nil)) (blkOk_by (own := [("k", 2)]) (N := ["found", "due", "k"]) (sc := defScope s_law_alike) (by decide +kernel)) (fun _ _ _ _ _ => pg_name (i := 2) sc_law_alike.nd rfl (Or.inl rfl)) (fun _ _ _ _ _ => pts_nil) (fun _ _ _ _ _ => (pcall D_law_alike hr (pa_cons (pe_ix (ixQ (K := K)) (pv 0) (pv 2) (fun _ _ => rfl)) (pa_cons (pe_ix (ixQ (K := K)) (pv 1) (pv 2) (fun _ _ => rfl)) pa_nil))))) pa_nil)))))) pss_nil)
      (pss_cons (ps_if (PW.pt (pw_or (pt_cmpR op_ne (pe_callB (clIsi (K := K)) (by rfl) T.b_isinstance (by decide +kernel) (pa_cons (pv 0) (pa_cons (pe_bltn (v := .ty "bool") (by rfl) T.b_bool (by decide +kernel) rfl) pa_nil))) (pe_callB (clIsi (K := K)) (by rfl) T.b_isinstance (by decide +kernel) (pa_cons (pv 1) (pa_cons (pe_bltn (v := .ty "bool") (by rfl) T.b_bool (by decide +kernel) rfl) pa_nil))) (nomark _)) (pw_or1 (pt_cmpR op_ne (pe_callB (clIsi (K := K)) (by rfl) T.b_isinstance (by decide +kernel) (pa_cons (pv 0) (pa_cons (pe_bltn (v := .ty "int") (by rfl) T.b_int (by decide +kernel) rfl) pa_nil))) (pe_callB (clIsi (K := K)) (by rfl) T.b_isinstance (by decide +kernel) (pa_cons (pv 1) (pa_cons (pe_bltn (v := .ty "int") (by rfl) T.b_int (by decide +kernel) rfl) pa_nil))) (nomark _))))) (pss_one (ps_ret pe_bl)) pss_nil)
      (pss_one (ps_ret (pe_and (pe_cmpR op_eq (pe_callB (clIsi (K := K)) (by rfl) T.b_isinstance (by decide +kernel) (pa_cons (pv 0) (pa_cons (pe_bltn (v := .ty "str") (by rfl) T.b_str (by decide +kernel) rfl) pa_nil))) (pe_callB (clIsi (K := K)) (by rfl) T.b_isinstance (by decide +kernel) (pa_cons (pv 1) (pa_cons (pe_bltn (v := .ty "str") (by rfl) T.b_str (by decide +kernel) rfl) pa_nil))) (nomark _)) (pe_one (pe_cmpR op_eq (pv 0) (pv 1) (nomark _)))))))), ?_⟩
    rw [show start ["found", "due", "k"] [v0, v1] = [some v0, some v1, none] from rfl]
    obtain ⟨F, d, hw, hx, hy, hn, hgd, q⟩ := h
    walk_at "og"
    refine ⟨le1000 (by simp), fun p np => ?_⟩
    have g1 : Gr [] F H F (upd H p (.tup [.ty "list", .ty "tuple"])) := .new hw np
    walk_at "og"
    refine u_isiT hy g1.fh upd_same (k_list d) (k_tuple d) ?_
    walk_at "og"
    cases hs : isSeq d with
    | false =>
      have e1 : isLst d = false := by cases d <;> first | rfl | cases hs
      have e2 : isTup d = false := by cases d <;> first | rfl | cases hs
      refine w_is (c := false) (by rw [e1, e2]; rfl) ?_
      obtain ⟨rfl, hsc⟩ := sca_of hx hy hs
      walk_at "og"
      refine u_isi hx g1.fh (k_bool d) ?_
      walk_at "og"
      refine u_isi hy g1.fh (k_bool d) ?_
      walk_at "og"
      refine u_isi hx g1.fh (k_int d) ?_
      walk_at "og"
      refine u_isi hy g1.fh (k_int d) ?_
      walk_at "og"
      refine u_isi hx g1.fh (k_str d) ?_
      walk_at "og"
      refine u_isi hy g1.fh (k_str d) ?_
      walk_at "og"
      refine ⟨hsc, ?_⟩
      rw [decide_eq_true rfl]
      exact q F _ g1
    | true =>
      refine w_is (c := true) (by cases d <;> first | rfl | cases hs) ?_
      obtain ⟨a, vs, rfl, ha, das⟩ := seq_of hx hs
      obtain ⟨b, us, rfl, hb, dbs⟩ := seq_of hy hs
      have hl : (itemsD d).length ≤ 100000 := good_len hgd
      walk_at "og"
      refine ⟨le1000 (by simp), fun p2 np2 => ?_⟩
      have g2 := g1.addm (o := .tup [.ty "list", .ty "tuple"]) np2
      walk_at "og"
      refine u_isiT hx g2.fh upd_same (k_list d) (k_tuple d) ?_
      walk_at "og"
      refine w_is (c := false) (by cases d <;> first | rfl | cases hs) ?_
      walk_at "og"
      refine u_isi hx g2.fh (k_list d) ?_
      walk_at "og"
      refine u_isi hy g2.fh (k_list d) ?_
      walk_at "og"
      refine ⟨a, vs, rfl, sq_same g2.fh ha, ?_⟩
      walk_at "og"
      refine ⟨b, us, rfl, sq_same g2.fh hb, ?_⟩
      walk_at "og"
      have el : vs.length = us.length := (dpa_len das).trans (dpa_len dbs).symm
      have lv : vs.length = (itemsD d).length := dpa_len das
      rw [el]
      refine w_nself ?_
      walk_at "og"
      refine ⟨b, us, rfl, sq_same g2.fh hb, ?_⟩
      walk_at "og"
      refine ⟨_, rfl, by omega, by omega, fun D nD => ?_⟩
      have g3 := g2.addm (o := .lst []) nD
      refine lc_rng (fun i H' => ∃ F2, Gr [] F H F2 H' ∧ Mu F2 H' D (.lst ((List.replicate i true).map V.bl))) ⟨F, g3, Mu.new g2.fh nD⟩ (fun i H' hi hp => ?_) (fun H' hp => ?_)
      · obtain ⟨F2, g, mu⟩ := hp
        have hi' : i < us.length := by omega
        have hid : (itemsD d)[i]? = some (itemsD d)[i] := List.getElem?_eq_getElem (by omega)
        obtain ⟨v, gv, dv⟩ := dpa_get das hid
        obtain ⟨u, gu, du⟩ := dpa_get dbs hid
        have hdep := depth_item hs hid
        show gName 2 _ [some (.ref a), some (.ref b), none] H' _
        walk_at "og"
        refine ⟨rfl, ?_⟩
        walk_at "og"
        have wF : Same F H' := g.ff.trans g.fh
        refine w_ixQ _ _ (sq_same wF ha) (atI_nat gv) ?_
        walk_at "og"
        refine w_ixQ _ _ (sq_same wF hb) (atI_nat gu) ?_
        walk_at "og"
        refine ⟨F2, _, g.fh, dp_same g.ff _ _ dv, dp_same g.ff _ _ du, by omega, good_item hgd hid, fun F3 H3 g3 => ?_⟩
        have mu3 := g3.mu0 mu
        refine ⟨_, mu3.h, small_lt (by rw [List.length_map, List.length_replicate]; omega), F3, (g.trans g3).wrn mu3.n (g2.fresh nD), ?_⟩
        rw [List.replicate_succ', List.map_append]
        exact mu3.wr
      · obtain ⟨F2, g, mu⟩ := hp
        walk_at "og"
        refine ⟨D, _, rfl, mu.sq, ?_⟩
        rw [all_rep]
        exact q F2 H' g
-- _law_signs
theorem ok_law_signs {f : Addr} {fd : FuncData} (F : FunD K "_law_signs" "_law_signs" (defArgs s_law_signs) (defBody s_law_signs) (defScope s_law_signs) [] [] f fd) (T : Txt K mg)  : FnOk P w K mg base CX0 1 f fd [] (S0 φsigns) := by
  refine F.ok sc_law_signs (fun vs H Q E h => ?_) (fun cdv A outer s H vs Q E hr h => ?_)
  · exact S0.len h
  · match vs, h with
    | [], h =>
    have hu := hu_of hr
    refine ⟨_, PSs.nox (pss_cons (ps_set (i := 0) sc_law_signs.nd rfl (.inl rfl) pe_str)
      (pss_one (ps_ret (pe_op opAddS (pv 0) pe_str)))), ?_⟩
    rw [show start ["some"] [] = [none] from rfl]
    have q : Q (.str sig93) H := h
    walk_at "go"
    exact q
-- _law_text
theorem ok_law_text {f : Addr} {fd : FuncData} (F : FunD K "_law_text" "_law_text" (defArgs s_law_text) (defBody s_law_text) (defScope s_law_text) [] [] f fd) (T : Txt K mg) (D_law_draw : DO P w K mg base 2 "_law_draw" ["bag", "many"] [] (S2 (φdraw K))) (D_law_signs : DO P w K mg base 1 "_law_signs" [] [] (S0 φsigns)) : FnOk P w K mg base CX0 3 f fd ["bag", "size"] (S2 (φtextN K)) := by
  refine F.ok sc_law_text (fun vs H Q E h => ?_) (fun cdv A outer s H vs Q E hr h => ?_)
  · exact S2.len h
  · match vs, h with
    | [v0, v1], h =>
    have hu := hu_of hr
    refine ⟨_, PSs.nox (pss_cons (ps_set (i := 2) sc_law_text.nd rfl (.inr rfl) (pe_ix (ixL (K := K)) (pe_lst (pa_cons pe_int (pa_cons pe_int (pa_cons pe_int (pa_cons pe_int pa_nil))))) (pcall D_law_draw hr (pa_cons (pv 0) (pa_cons pe_int pa_nil))) (fun _ _ => rfl)))
      (pss_cons (ps_set (i := 3) sc_law_text.nd rfl (.inr rfl) (pcall D_law_draw hr (pa_cons (pv 0) (pa_cons pe_int pa_nil))))
      (pss_cons (ps_set (i := 4) sc_law_text.nd rfl (.inr rfl) (pcall0 D_law_signs hr))
      (pss_one (ps_ret (peJoin (K := K) pe_str (pe_lc (own := [("k", 5)]) (g := gName 5) rfl sc_law_text.nd (pi_range1 rfl T.b_range (pa_cons (pv 1) pa_nil)) (blkOk_by (own := [("k", 5)]) (N := ["bag", "size", "few", "first", "some", "k"]) (sc := defScope s_law_text) (by decide +kernel)) (fun _ _ _ _ _ => pg_name (i := 5) sc_law_text.nd rfl (Or.inl rfl)) (fun _ _ _ _ _ => pts_nil) (fun _ _ _ _ _ => (pe_ix ix_str (pv 4) (pe_op op_mod (pe_op op_add (pv 3) (pcall D_law_draw hr (pa_cons (pv 0) (pa_cons (pv 2) pa_nil)))) pe_int) (fun _ _ => rfl)))))))))), ?_⟩
    rw [show start ["bag", "size", "few", "first", "some", "k"] [v0, v1] = [some v0, some v1, none, none, none, none] from rfl]
    obtain ⟨F, b, n, rfl, rfl, s0, n0, n1, q⟩ := h
    have w := s0.w (M := [b])
    walk_at "go"
    refine n_lst w (szle (by simp)) fun p1 F1 H1 w hp1 => ?_
    walk_at "go"
    refine n_draw w (by walk_at "pick") (by decide) (by decide) fun r F1 H1 w r0 r1 => ?_
    obtain ⟨wd, ew, wd0, wd1⟩ := pick_ix (ns := [93, 93, 2, 3]) (lo := 2) (hi := 93) r0 r1 (by decide)
    walk_at "go"
    refine w_ixL _ _ (by walk_at "sq") ew ?_
    walk_at "go"
    refine n_draw w (by walk_at "pick") (by omega) (by omega) fun first F1 H1 w f0 f1 => ?_
    walk_at "go"
    refine n_signs ?_
    walk_at "go"
    refine n_lcR w (fun i ys L => ∃ zs : List Str, ys = zs.map V.str ∧ zs.length = i ∧ (∀ y ∈ zs, y.length = 1 ∧ okS y) ∧ L = [bag K b]) ⟨[], rfl, rfl, by simp, rfl⟩ (fun i ys L F' H' D hi hp w hD => ?_) (fun D ys L F' H' hp w hD => ?_)
    · obtain ⟨zs, rfl, hz, hy, rfl⟩ := hp
      walk_at "wp"
      walk_at "go"
      refine n_draw w (by walk_at "pick") (by omega) (by omega) fun r F1 H1 w r0 r1 => ?_
      walk_at "go"
      have m0 := mod_nn (a := first + r) (b := 93) (by decide)
      have m1 := mod_lt (a := first + r) (b := 93) (by decide)
      refine w_ixL1 (n := 93) sig_ok (by rw [sig_len]; rfl) (by rw [sig_len]; decide) m0 m1 fun s hs oks => ?_
      refine n_acc _ w ⟨zs ++ [s], by rw [List.map_append]; rfl, by simp [hz], ?_, rfl⟩ (by walk_at "pk") (small_lt (by rw [List.length_map]; omega))
      intro y hy'
      rcases List.mem_append.mp hy' with h | h
      · exact hy y h
      · rw [List.mem_singleton.mp h]
        exact ⟨hs, oks⟩
    · obtain ⟨zs, rfl, hz, hy, rfl⟩ := hp
      refine ⟨_, D, zs, rfl, rfl, .inl (by walk_at "sq"), ?_, ?_⟩
      · rw [sum_ones zs hy]
        show zs.length + zs.length * 0 ≤ 16777216
        omega
      · obtain ⟨j1, j2⟩ := joined zs hy
        exact q _ F' H' (by walk_at "w") (by
          show (((Txt.join ⟨#[]⟩ zs).length : Nat) : Int) = n
          rw [j1, hz]
          omega) j2
-- _law_row
theorem ok_law_row {f : Addr} {fd : FuncData} (F : FunD K "_law_row" "_law_row" (defArgs s_law_row) (defBody s_law_row) (defScope s_law_row) [] [] f fd) (T : Txt K mg) (D_law_draw : DO P w K mg base 2 "_law_draw" ["bag", "many"] [] (S2 (φdraw K))) (D_law_text : DO P w K mg base 3 "_law_text" ["bag", "size"] [] (S2 (φtextN K))) : FnOk P w K mg base CX0 4 f fd ["bag", "size", "left", "last"] (S4 (φrow1 K)) := by
  refine F.ok sc_law_row (fun vs H Q E h => ?_) (fun cdv A outer s H vs Q E hr h => ?_)
  · exact S4.len h
  · match vs, h with
    | [v0, v1, v2, v3], h =>
    have hu := hu_of hr
    refine ⟨_, PSs.nox (pss_cons (ps_set (i := 4) sc_law_row.nd rfl (.inl rfl) (pcall D_law_draw hr (pa_cons (pv 0) (pa_cons pe_int pa_nil))))
      (pss_cons (ps_set (i := 5) sc_law_row.nd rfl (.inl rfl) (pe_ix (ixL (K := K)) (pe_lst (pa_cons pe_int (pa_cons pe_int (pa_cons pe_int pa_nil)))) (pcall D_law_draw hr (pa_cons (pv 0) (pa_cons pe_int pa_nil))) (fun _ _ => rfl)))
      (pss_cons (ps_if (PW.pt (pw_or (pt_cmpR op_eq (pv 4) pe_int (nomark _)) (pw_or1 (pt_cmpR op_eq (pv 1) pe_int (nomark _))))) (pss_one (ps_ret (pe_tup (pa_cons pe_str (pa_cons (pcall D_law_text hr (pa_cons (pv 0) (pa_cons (pe_op op_add pe_int (pcall D_law_draw hr (pa_cons (pv 0) (pa_cons (pe_callB clMin2 (by rfl) T.b_min (by decide +kernel) (pa_cons (pv 2) (pa_cons (pv 5) pa_nil))) pa_nil)))) pa_nil))) pa_nil))))) pss_nil)
      (pss_cons (ps_set (i := 6) sc_law_row.nd rfl (.inl rfl) (pcall D_law_draw hr (pa_cons (pv 0) (pa_cons (pv 1) pa_nil))))
      (C8.pss_cut (ps_if (PW.pt (pw_and (pt_cmpR op_eq (pv 4) pe_int (nomark _)) (pw_and (pt_cmpR (opNeD (K := K) hr.units) (pv 3) (pe_lst pa_nil) (nomark _)) (pw_and (pt_cmpR op_eq (pe_ix (ixT (K := K)) (pe_ix (ixL (K := K)) (pv 3) pe_int (fun _ _ => rfl)) pe_int (fun _ _ => rfl)) pe_str (nomark _)) (pw_and1 (pt_cmpR op_lt (pe_op op_add (pe_ix (ixT (K := K)) (pe_ix (ixL (K := K)) (pv 3) pe_int (fun _ _ => rfl)) pe_int (fun _ _ => rfl)) (pe_ix (ixT (K := K)) (pe_ix (ixL (K := K)) (pv 3) pe_int (fun _ _ => rfl)) pe_int (fun _ _ => rfl))) (pv 1) (nomark _))))))) (pss_one (ps_set (i := 6) sc_law_row.nd rfl (.inl rfl) (pe_op op_add (pe_ix (ixT (K := K)) (pe_ix (ixL (K := K)) (pv 3) pe_int (fun _ _ => rfl)) pe_int (fun _ _ => rfl)) (pe_ix (ixT (K := K)) (pe_ix (ixL (K := K)) (pv 3) pe_int (fun _ _ => rfl)) pe_int (fun _ _ => rfl))))) pss_nil)
      (pss_one (ps_ret (pe_tup (pa_cons pe_str (pa_cons (pv 6) (pa_cons (pe_op op_add pe_int (pcall D_law_draw hr (pa_cons (pv 0) (pa_cons (pe_callB (call_min3Nu rfl) (by rfl) T.b_min (by decide +kernel) (pa_cons (pv 2) (pa_cons (pe_op op_sub (pv 1) (pv 6)) (pa_cons (pv 5) pa_nil)))) pa_nil)))) pa_nil))))))))))), ?_⟩
    rw [show start ["bag", "size", "left", "last", "way", "wide", "at"] [v0, v1, v2, v3] = [some v0, some v1, some v2, some v3, none, none, none] from rfl]
    obtain ⟨F, b, l, n, left, zs, rfl, rfl, rfl, rfl, s0, hS, hz, hn, l0, l1, q⟩ := h
    have w := (s0.w (M := [b])).push (imL K l zs) hS
    walk_at "go"
    refine n_draw w (by walk_at "pick") (by decide) (by decide) fun way F1 H1 w wy0 wy1 => ?_
    walk_at "go"
    refine n_lst w (szle (by simp)) fun p1 F1 H1 w hp1 => ?_
    walk_at "go"
    refine n_draw w (by walk_at "pick") (by decide) (by decide) fun r F1 H1 w r0 r1 => ?_
    obtain ⟨wd, ew, wd0, wd1⟩ := pick_ix (ns := [3, 9, 400]) (lo := 3) (hi := 400) r0 r1 (by decide)
    walk_at "go"
    refine w_ixL _ _ (by walk_at "sq") ew ?_
    walk_at "go"
    refine w_ite (fun h1 => ?_) (fun h1 => ?_)
    · skip
      walk_at "go"
      obtain ⟨m1, em1⟩ : ∃ m1 : Int, m1 = (if wd < left then wd else left) := ⟨_, rfl⟩
      rw [← em1]
      have hm1 : 1 ≤ m1 ∧ m1 ≤ left := by split at em1 <;> omega
      refine n_draw w (by walk_at "pick") (by omega) (by omega) fun k F1 H1 w k0 k1 => ?_
      walk_at "go"
      refine ⟨_, b, 1 + k, rfl, rfl, w.st (by walk_at "pick"), by omega, by omega, fun s F2 H2 w2 hs oks => ?_⟩
      replace w := w.calB (by walk_at "pick") w2 (by walk_at "app")
      walk_at "go"
      refine n_tup w (szle (by simp)) fun t F3 H3 w => ?_
      have d2 : F3 t = some (.tup [.str "put", .str s]) := w.i (fx t _) (by walk_at "mem")
      have d3 := dp_cput' (sqT_of (K := K) d2)
      exact q _ (.put s) F3 H3 ((w.push (dat K _ _) d3).to (by walk_at "pick")) ⟨⟨oks, by omega⟩, by show 1 ≤ s.length; omega, Nat.zero_le _⟩ (by show (s.length : Int) ≤ left; omega)
    · walk_at "go"
      refine w_ite (fun h2 => ?_) (fun h2 => ?_)
      · skip
        walk_at "go"
        obtain ⟨m1, em1⟩ : ∃ m1 : Int, m1 = (if wd < left then wd else left) := ⟨_, rfl⟩
        rw [← em1]
        have hm1 : 1 ≤ m1 ∧ m1 ≤ left := by split at em1 <;> omega
        refine n_draw w (by walk_at "pick") (by omega) (by omega) fun k F1 H1 w k0 k1 => ?_
        walk_at "go"
        refine ⟨_, b, 1 + k, rfl, rfl, w.st (by walk_at "pick"), by omega, by omega, fun s F2 H2 w2 hs oks => ?_⟩
        replace w := w.calB (by walk_at "pick") w2 (by walk_at "app")
        walk_at "go"
        refine n_tup w (szle (by simp)) fun t F3 H3 w => ?_
        have d2 : F3 t = some (.tup [.str "put", .str s]) := w.i (fx t _) (by walk_at "mem")
        have d3 := dp_cput' (sqT_of (K := K) d2)
        exact q _ (.put s) F3 H3 ((w.push (dat K _ _) d3).to (by walk_at "pick")) ⟨⟨oks, by omega⟩, by show 1 ≤ s.length; omega, Nat.zero_le _⟩ (by show (s.length : Int) ≤ left; omega)
      · walk_at "go"
        refine n_draw w (by walk_at "pick") (by omega) (by omega) fun a' F1 H1 w a0 a1 => ?_
        obtain ⟨an, rfl⟩ : ∃ an : Nat, a' = (an : Int) := ⟨a'.toNat, by omega⟩
        walk_at "go"
        refine n_cut (w.to (D := [imL K l zs, bag K b]) (by walk_at "pick")) (fun σ L => ∃ (a : Nat), σ = [some (.ref b), some (.int (n : Nat)), some (.int left), some (.ref l), some (.int way), some (.int wd), some (.int (a : Nat))] ∧ a < n ∧ L = [imL K l zs, bag K b]) ?_ (fun σ L F' H' hp w => ?_)
        · have fin : ∀ {F1 H1 L}, W [b] F H F1 H1 L → Pk L [imL K l zs, bag K b] → Nx [b] F H (fun σ L => ∃ (a : Nat), σ = [some (.ref b), some (.int (n : Nat)), some (.int left), some (.ref l), some (.int way), some (.int wd), some (.int (a : Nat))] ∧ a < n ∧ L = [imL K l zs, bag K b]) [some (.ref b), some (.int (n : Nat)), some (.int left), some (.ref l), some (.int way), some (.int wd), some (.int (an : Nat))] H1 := fun w k => nx_mk w ⟨an, rfl, by omega, rfl⟩ k
          walk_at "go"
          refine w_ite (fun h3 => ?_) (fun h3 => ?_)
          · walk_at "go"
            refine n_lst w (szle (by simp)) fun p2 F2 H2 w hp2 => ?_
            walk_at "go"
            rcases hz with rfl | ⟨v, rw_, rfl, dr, ro⟩
            · refine u_neD (Same.refl _) (d := .list []) (.lst (by walk_at "sq") .nil) (.lst (by walk_at "sq") .nil) rfl (by decide) ?_
              walk_at "go"
              exact fin w (by walk_at "pk")
            · have d1 : Dp K H2 v rw_.d := dp_same w.ws _ _ dr
              refine ⟨.list [rw_.d], .list [], .lst (by walk_at "sq") (.cons d1 .nil), .lst (by walk_at "sq") .nil, ?_, good_shaped rfl (by decide), ?_⟩
              · have g := crow_good ro.s
                exact good_shaped (good_list (by simp) fun d hd => by rw [List.mem_singleton.mp hd]; exact g.1) (Nat.le_trans (depth_list (n := 1) fun d hd => by rw [List.mem_singleton.mp hd]; exact g.2) (by decide))
              rw [show PyData.eqv (.list [rw_.d]) (.list []) = false from rfl]
              walk_at "go"
              cases rw_ with
              | put s =>
                obtain ⟨pm, rfl, hT⟩ := dp_cput dr
                have hT := sqT_same (K := K) w.ws hT
                walk_at "go"
                exact fin w (by walk_at "pk")
              | copy a k =>
                obtain ⟨pm, rfl, hT⟩ := dp_ccopy dr
                have hT := sqT_same (K := K) w.ws hT
                walk_at "go"
                refine w_ite (fun h4 => ?_) (fun h4 => ?_)
                · walk_at "go"
                  exact nx_mk w ⟨a + k, rfl, by omega, rfl⟩ (by walk_at "pk")
                · walk_at "go"
                  exact fin w (by walk_at "pk")
          · walk_at "go"
            exact fin w (by walk_at "pk")
        obtain ⟨a, rfl, ha, rfl⟩ := hp
        walk_at "go"
        obtain ⟨m1, em1⟩ : ∃ m1 : Int, m1 = min (min left ((n : Int) - (a : Nat))) wd := ⟨_, rfl⟩
        rw [← em1]
        refine n_draw w (by walk_at "pick") (by omega) (by omega) fun k' F1 H1 w k0 k1 => ?_
        obtain ⟨k, ek⟩ : ∃ k : Nat, (k : Int) = 1 + k' := ⟨(1 + k').toNat, by omega⟩
        walk_at "go"
        rw [← ek]
        refine n_tup w (szle (by simp)) fun t F2 H2 w => ?_
        have d2 : F2 t = some (.tup [.str "copy", .int (a : Nat), .int (k : Nat)]) := w.i (fx t _) (by walk_at "mem")
        have d3 := dp_ccopy' (sqT_of (K := K) d2)
        exact q _ (.copy a k) F2 H2 ((w.push (dat K _ _) d3).to (by walk_at "pick")) ⟨trivial, by show 1 ≤ k; omega, by show a + k ≤ n; omega⟩ (by show (k : Int) ≤ left; omega)
-- _law_rows
theorem ok_law_rows {f : Addr} {fd : FuncData} (F : FunD K "_law_rows" "_law_rows" (defArgs s_law_rows) (defBody s_law_rows) (defScope s_law_rows) [] [] f fd) (T : Txt K mg) (D_law_draw : DO P w K mg base 2 "_law_draw" ["bag", "many"] [] (S2 (φdraw K))) (D_law_row : DO P w K mg base 4 "_law_row" ["bag", "size", "left", "last"] [] (S4 (φrow1 K))) : FnOk P w K mg base CX0 5 f fd ["bag", "size", "many", "most"] (S4 (φrows1 K)) := by
  refine F.ok sc_law_rows (fun vs H Q E h => ?_) (fun cdv A outer s H vs Q E hr h => ?_)
  · exact S4.len h
  · match vs, h with
    | [v0, v1, v2, v3], h =>
    have hu := hu_of hr
    refine ⟨_, PSs.nox (pss_cons (ps_set (i := 4) sc_law_rows.nd rfl (.inl rfl) (pe_lst pa_nil))
      (pss_cons (ps_set (i := 5) sc_law_rows.nd rfl (.inl rfl) (pv 3))
      (pss_cons (ps_set (i := 6) sc_law_rows.nd rfl (.inl rfl) (pe_ix (ixL (K := K)) (pe_lst (pa_cons pe_int (pa_cons pe_int (pa_cons pe_int (pa_cons pe_int pa_nil))))) (pe_op op_mul (pcall D_law_draw hr (pa_cons (pv 0) (pa_cons pe_int pa_nil))) (pe_callTy clInt1 (by rfl) T.b_int (by decide +kernel) (pa_cons (pe_cmpR op_gt (pv 2) pe_int (nomark _)) pa_nil))) (fun _ _ => rfl)))
      (pss_cons (ps_for PassesOwn.never rfl (pi_range1 rfl T.b_range (pa_cons (pv 2) pa_nil)) (pg_name (i := 7) sc_law_rows.nd rfl (.inl rfl)) (pss_one (ps_if (pt_cmpR op_gt (pv 5) pe_int (nomark _)) (pss_cons (ps_expr (peBM (K := K) PySem.F.plainAttrs_list PySem.F.slot_list_append PySem.F.type_list_append mt_append (pv 4) (pa_cons (pcall D_law_row hr (pa_cons (pv 0) (pa_cons (pv 1) (pa_cons (pe_callB clMin2 (by rfl) T.b_min (by decide +kernel) (pa_cons (pv 5) (pa_cons (pv 6) pa_nil))) (pa_cons (pe_slice (slL (K := K)) (pv 4) (po_some (pe_un un_neg pe_int)) po_none) pa_nil))))) pa_nil)))
      (pss_one (ps_set (i := 5) sc_law_rows.nd rfl (.inl rfl) (pe_op op_sub (pv 5) (pe_ifExp (pt_cmpR op_eq (pe_ix (ixT (K := K)) (pe_ix (ixL (K := K)) (pv 4) (pe_un un_neg pe_int) (fun _ _ => rfl)) pe_int (fun _ _ => rfl)) pe_str (nomark _)) (pe_callB clLenS (by rfl) T.b_len (by decide +kernel) (pa_cons (pe_ix (ixT (K := K)) (pe_ix (ixL (K := K)) (pv 4) (pe_un un_neg pe_int) (fun _ _ => rfl)) pe_int (fun _ _ => rfl)) pa_nil)) (pe_ix (ixT (K := K)) (pe_ix (ixL (K := K)) (pv 4) (pe_un un_neg pe_int) (fun _ _ => rfl)) pe_int (fun _ _ => rfl))))))) pss_nil)))
      (pss_one (ps_ret (pv 4))))))), ?_⟩
    rw [show start ["bag", "size", "many", "most", "rows", "left", "cap", "k"] [v0, v1, v2, v3] = [some v0, some v1, some v2, some v3, none, none, none, none] from rfl]
    obtain ⟨F, b, n, many, most, rfl, rfl, rfl, rfl, s0, hn, y0, y1, m0, m1, q⟩ := h
    have w := s0.w (M := [b])
    walk_at "go"
    refine n_lst w (szle (by simp)) fun f F1 H1 w hf => ?_
    walk_at "go"
    refine n_lst w (szle (by simp)) fun p1 F1 H1 w hp1 => ?_
    walk_at "go"
    refine n_draw w (by walk_at "pick") (by decide) (by decide) fun r F1 H1 w r0 r1 => ?_
    obtain ⟨e, he, e0, e1⟩ : ∃ e : Int, e = (if decide (20 < many) = true then 1 else 0) ∧ 0 ≤ e ∧ e ≤ 1 := ⟨_, rfl, by split <;> omega, by split <;> omega⟩
    walk_at "go"
    rw [← he]
    have hre : 0 ≤ r * e ∧ r * e < 4 := by
      rcases (show e = 0 ∨ e = 1 by omega) with rfl | rfl
      · rw [Int.mul_zero]; omega
      · rw [Int.mul_one]; omega
    walk_at "go"
    obtain ⟨cp, ec, cp0, cp1⟩ := pick_ix (ns := [400, 400, 1, 2]) (i := r * e) (lo := 1) (hi := 400) hre.1 (by show r * e < 4; exact hre.2) (by decide)
    refine w_ixL _ _ (by walk_at "sq") ec ?_
    replace w := w.push (dpa K [] (([] : List CRow).map CRow.d)) .nil
    walk_at "go"
    refine n_forR w (fun i σ L => ∃ (rows : List CRow) (ys : List V) (y7 : Option V), σ = [some (.ref b), some (.int (n : Nat)), some (.int many), some (.int most), some (.ref f), some (.int (most - ((givesL rows : Nat) : Int))), some (.int cp), y7] ∧ (∀ r ∈ rows, CRowOk n r) ∧ (givesL rows : Int) ≤ most ∧ ys.length = rows.length ∧
      L = [mu f (.lst ys), dpa K ys (rows.map CRow.d), bag K b]) ⟨[], [], none, by show _ = [_, _, _, _, _, some (V.int (most - ((0 : Nat) : Int))), _, _]; rw [show most - ((0 : Nat) : Int) = most by omega], by simp, by show ((0 : Nat) : Int) ≤ most; omega, rfl, rfl⟩ (fun i σ L F' H' hi hp w => ?_) (fun σ L F' H' hp w => ?_)
    · obtain ⟨rows, ys, y7, rfl, hok, hg, hyl, rfl⟩ := hp
      have hrl := rows_len (rows := rows) (fun r hr => (hok r hr).p)
      walk_at "go"
      refine w_ite (fun hpos => ?_) (fun hpos => ?_)
      · walk_at "go"
        obtain ⟨m2, em2⟩ : ∃ m2 : Int, m2 = (if cp < most - ((givesL rows : Nat) : Int) then cp else most - ((givesL rows : Nat) : Int)) := ⟨_, rfl⟩
        rw [← em2]
        have hm2 : 1 ≤ m2 ∧ m2 ≤ 400 ∧ m2 ≤ most - ((givesL rows : Nat) : Int) := by split at em2 <;> omega
        clear em2
        have d0 : DpAll K F' ys (rows.map CRow.d) := w.dpa (by walk_at "mem")
        refine n_slL w (by walk_at "sq") fun pl F1 H1 w hpl => ?_
        obtain ⟨F2, w⟩ := w.fzL (p := pl) (by walk_at "pick") hpl
        have d1 : DpAll K F2 ys (rows.map CRow.d) := w.dpa (by walk_at "mem")
        walk_at "go"
        refine ⟨F2, b, pl, n, m2, _, rfl, rfl, rfl, rfl, w.st (by walk_at "pick"), sqL_of (w.i (fx pl _) (by walk_at "mem")), ?_, hn, hm2.1, hm2.2.1, fun v r F3 H3 w3 ro hgl => ?_⟩
        · rcases List.eq_nil_or_concat ys with rfl | ⟨us, u, rfl⟩
          · exact .inl (by rw [cut_last]; rfl)
          · refine .inr ⟨u, ?_⟩
            rw [List.concat_eq_append] at d1 hyl ⊢
            rw [cut_last_snoc]
            obtain ⟨r, hr, dr⟩ := dpa_at (i := us.length) (y := u) d1 (by rw [List.getElem?_append_right (Nat.le_refl _), Nat.sub_self]; rfl)
            exact ⟨r, rfl, dr, hok r (List.mem_of_getElem? hr)⟩
        replace w := w.calB (by walk_at "pick") w3 (by walk_at "app")
        walk_at "go"
        refine n_app w (by walk_at "pick") (small_lt (by omega)) fun H4 w => ?_
        walk_at "go"
        have d1 : DpAll K F3 ys (rows.map CRow.d) := w.dpa (by walk_at "mem")
        have d2 : Dp K F3 v r.d := w.dat (by walk_at "mem")
        have d3 := dpa_snoc d1 d2
        rw [show rows.map CRow.d ++ [r.d] = (rows ++ [r]).map CRow.d by rw [List.map_append]; rfl] at d3
        replace w := w.push (dpa K _ _) d3
        have fin : ∀ {g : Int} {H5}, g = (r.gives : Int) → W [b] F H F3 H5 [dpa K (ys ++ [v]) ((rows ++ [r]).map CRow.d), mu f (.lst (ys ++ [v])), bag K b] → Nx [b] F H (fun σ L => ∃ (rows : List CRow) (ys : List V) (y7 : Option V), σ = [some (.ref b), some (.int (n : Nat)), some (.int many), some (.int most), some (.ref f), some (.int (most - ((givesL rows : Nat) : Int))), some (.int cp), y7] ∧ (∀ r ∈ rows, CRowOk n r) ∧ (givesL rows : Int) ≤ most ∧ ys.length = rows.length ∧
            L = [mu f (.lst ys), dpa K ys (rows.map CRow.d), bag K b]) [some (.ref b), some (.int (n : Nat)), some (.int many), some (.int most), some (.ref f), some (.int (most - ((givesL rows : Nat) : Int) - g)), some (.int cp), some (.int (i : Nat))] H5 := by
          intro g H5 hgi w
          have e2 : most - ((givesL rows : Nat) : Int) - g = most - ((givesL (rows ++ [r]) : Nat) : Int) := by rw [gives_snoc, hgi]; omega
          rw [e2]
          exact nx_mk w ⟨rows ++ [r], ys ++ [v], _, rfl, crows_snoc hok ro, by rw [gives_snoc]; omega, by rw [List.length_append, List.length_append, hyl]; rfl, rfl⟩ (by walk_at "pk")
        cases r with
        | put s =>
          obtain ⟨pm, rfl, hT⟩ := dp_cput d2
          have hT := sqT_same (K := K) w.fh hT
          have hsl := ro.s.2
          refine w_ixL _ _ (by walk_at "sq") (atI_last _ _) ?_
          walk_at "go"
          refine w_ixL _ _ (by walk_at "sq") (atI_last _ _) ?_
          walk_at "go"
          exact fin rfl (by walk_at "w")
        | copy a k =>
          obtain ⟨pm, rfl, hT⟩ := dp_ccopy d2
          have hT := sqT_same (K := K) w.fh hT
          refine w_ixL _ _ (by walk_at "sq") (atI_last _ _) ?_
          walk_at "go"
          refine w_ixL _ _ (by walk_at "sq") (atI_last _ _) ?_
          walk_at "go"
          exact fin rfl (by walk_at "w")
      · walk_at "go"
        exact nx_mk w ⟨rows, ys, _, rfl, hok, hg, hyl, rfl⟩ (by walk_at "pk")
    · obtain ⟨rows, ys, y7, rfl, hok, hg, hyl, rfl⟩ := hp
      walk_at "go"
      exact q f ys rows F' H' hf (by walk_at "w") ⟨hok, by omega⟩ hg
-- _law_cells
theorem ok_law_cells {f : Addr} {fd : FuncData} (F : FunD K "_law_cells" "_law_cells" (defArgs s_law_cells) (defBody s_law_cells) (defScope s_law_cells) [] [] f fd) (T : Txt K mg)  : FnOk P w K mg base CX0 1 f fd ["rows"] (S1 (φlcells K)) := by
  refine F.ok sc_law_cells (fun vs H Q E h => ?_) (fun cdv A outer s H vs Q E hr h => ?_)
  · exact S1.len h
  · match vs, h with
    | [v0], h =>
    have hu := hu_of hr
    refine ⟨_, PSs.nox (pss_cons (ps_set (i := 1) sc_law_cells.nd rfl (.inl rfl) (pe_lst pa_nil))
      (pss_cons (ps_for PassesOwn.never rfl (pi_list (pv 0)) (pg_name (i := 2) sc_law_cells.nd rfl (.inr rfl)) (pss_one (ps_if (pt_cmpR op_eq (pe_ix (ixT (K := K)) (pv 2) pe_int (fun _ _ => rfl)) pe_str (nomark _)) (pss_one (ps_set (i := 1) sc_law_cells.nd rfl (.inl rfl) (pe_op op_cat (pv 1) (pe_callTy clListS (by rfl) T.b_list (by decide +kernel) (pa_cons (pe_ix (ixT (K := K)) (pv 2) pe_int (fun _ _ => rfl)) pa_nil))))) (pss_one (ps_set (i := 1) sc_law_cells.nd rfl (.inl rfl) (pe_op op_cat (pv 1) (pe_lc (own := [("k", 3)]) (g := gName 3) rfl sc_law_cells.nd (pi_range1 rfl T.b_range (pa_cons (pe_ix (ixT (K := K)) (pv 2) pe_int (fun _ _ => rfl)) pa_nil)) (blkOk_by (own := [("k", 3)]) (N := ["rows", "found", "row", "k"]) (sc := defScope s_law_cells) (by decide +kernel)) (fun _ _ _ _ _ => pg_name (i := 3) sc_law_cells.nd rfl (Or.inl rfl)) (fun _ _ _ _ _ => pts_nil) (fun _ _ _ _ _ => (pe_op op_add (pe_ix (ixT (K := K)) (pv 2) pe_int (fun _ _ => rfl)) (pv 3))))))))))
      (pss_one (ps_ret (pv 1))))), ?_⟩
    rw [show start ["rows", "found", "row", "k"] [v0] = [some v0, none, none, none] from rfl]
    obtain ⟨F, a, vs, n, rows, rfl, hw, hS, hD, hok, q⟩ := h
    have w := W.start (M := []) hw
    have hrl := hok.len
    walk_at "go"
    refine n_lst w (szle (by simp)) fun f F1 H1 w hf => ?_
    walk_at "go"
    refine n_forL vs w (fun i σ L => ∃ f y2 y3, H f = none ∧ σ = [some (.ref a), some (.ref f), y2, y3] ∧ L = [mu f (.lst (cellsV (rows.take i)))]) ⟨f, none, none, hf, rfl, rfl⟩ (fun i σ L F' H' hp w => ?_) (fun i x σ L F' H' hx hp w => ?_) (fun σ L F' H' hp w => ?_)
    · obtain ⟨f, y2, y3, hf, rfl, rfl⟩ := hp
      walk_at "sq"
    · obtain ⟨f, y2, y3, hf, rfl, rfl⟩ := hp
      obtain ⟨m, hm, dm⟩ := dpa_at hD hx
      have mo := hok.ok m (List.mem_of_getElem? hm)
      have e1 : cellsV (rows.take (i + 1)) = cellsV (rows.take i) ++ m.cellV := by
        unfold cellsV
        rw [List.take_add_one, hm, List.flatMap_append]
        simp
      have l1 := cells_len (rows.take i)
      have l2 := gives_le rows i
      have l3 := hok.sum
      cases m with
      | put s =>
        obtain ⟨pm, rfl, hT⟩ := dp_cput dm
        have hT := sqT_same (K := K) w.ws hT
        have hsl := mo.s.2
        walk_at "go"
        refine n_listS w (szle (by omega)) fun p2 F2 H2 w hp2 => ?_
        walk_at "go"
        refine n_cat w (by walk_at "at") (by walk_at "at") (szle (by rw [chars_len]; omega)) fun p3 F3 H3 w hp3 => ?_
        walk_at "go"
        rw [show cellsV (rows.take i) ++ chars s = cellsV (rows.take (i + 1)) from e1.symm] at w
        exact nx_mk w ⟨p3, _, _, hp3, rfl, rfl⟩ (by walk_at "pk")
      | copy b k =>
        obtain ⟨pm, rfl, hT0⟩ := dp_ccopy dm
        have hT := hT0
        have hT := sqT_same (K := K) w.ws hT
        have hk2 := gives_take hm
        have hk3 := gives_le rows (i + 1)
        replace hk2 : givesL (rows.take (i + 1)) = givesL (rows.take i) + k := hk2
        walk_at "go"
        refine n_lcR w (fun j ys L => ys = (List.range j).map (fun t => V.int ((b + t : Nat) : Int)) ∧ L = [mu f (.lst (cellsV (rows.take i)))]) ⟨rfl, rfl⟩ (fun j ys L F' H' D hj hp w hD => ?_) (fun D ys L F' H' hp w hD => ?_)
        · obtain ⟨rfl, rfl⟩ := hp
          have hT := sqT_same (K := K) w.ws hT0
          walk_at "wp"
          walk_at "go"
          refine n_acc _ w ⟨?_, rfl⟩ (by walk_at "pk") (small_lt (by rw [List.length_map, List.length_range]; omega))
          rw [List.range_succ, List.map_append]
          rfl
        obtain ⟨rfl, rfl⟩ := hp
        walk_at "go"
        refine n_cat w (by walk_at "at") (by walk_at "at") (szle (by rw [List.length_map, List.length_range]; omega)) fun p3 F3 H3 w hp3 => ?_
        walk_at "go"
        rw [show cellsV (rows.take i) ++ (List.range ((k : Nat) : Int).toNat).map (fun t => V.int ((b + t : Nat) : Int)) = cellsV (rows.take (i + 1)) by rw [e1]; rfl] at w
        exact nx_mk w ⟨p3, _, _, hp3, rfl, rfl⟩ (by walk_at "pk")
    · obtain ⟨f, y2, y3, hf, rfl, rfl⟩ := hp
      rw [List.take_of_length_le (by rw [dpa_len hD, List.length_map]; exact Nat.le_refl _)] at w
      walk_at "go"
      exact q f F' H' hf (by walk_at "w")
-- _law_done
theorem ok_law_done {f : Addr} {fd : FuncData} (F : FunD K "_law_done" "_law_done" (defArgs s_law_done) (defBody s_law_done) (defScope s_law_done) [] [] f fd) (T : Txt K mg)  : FnOk P w K mg base CX0 1 f fd ["cells", "old"] (S2 (φldone K)) := by
  refine F.ok sc_law_done (fun vs H Q E h => ?_) (fun cdv A outer s H vs Q E hr h => ?_)
  · exact S2.len h
  · match vs, h with
    | [v0, v1], h =>
    have hu := hu_of hr
    refine ⟨_, PSs.nox (pss_one (ps_ret (peJoin (K := K) pe_str (pe_lc (own := [("cell", 2)]) (g := gName 2) rfl sc_law_done.nd (pi_list (pv 0)) (blkOk_by (own := [("cell", 2)]) (N := ["cells", "old", "cell"]) (sc := defScope s_law_done) (by decide +kernel)) (fun _ _ _ _ _ => pg_name (i := 2) sc_law_done.nd rfl (Or.inl rfl)) (fun _ _ _ _ _ => pts_nil) (fun _ _ _ _ _ => (pe_ifExp (pt_val (pe_callB (clIsi (K := K)) (by rfl) T.b_isinstance (by decide +kernel) (pa_cons (pv 2) (pa_cons (pe_bltn (v := .ty "int") (by rfl) T.b_int (by decide +kernel) rfl) pa_nil)))) (pe_ix ix_str (pv 1) (pv 2) (fun _ _ => rfl)) (pv 2))))))), ?_⟩
    rw [show start ["cells", "old", "cell"] [v0, v1] = [some v0, some v1, none] from rfl]
    obtain ⟨F, a, cs, o, rfl, rfl, hw, hS, hcs, hcl, oko, ho, q⟩ := h
    have w := W.start (M := []) hw
    walk_at "go"
    
    refine n_lcL (cs) w (fun i ys L => ys = ((cs).take i).map (fun v => V.str (outS o v)) ∧ L = []) ⟨rfl, rfl⟩ (fun i ys L F' H' D hp w => ?_) (fun i x ys L F' H' D hx hp w hDn => ?_) (fun D ys L F' H' hp w hDn => ?_)
    · obtain ⟨rfl, rfl⟩ := hp
      walk_at "sq"
    · obtain ⟨rfl, rfl⟩ := hp
      have hi := (List.getElem?_eq_some_iff.mp hx).1
      have e1 : ((cs).take (i + 1)).map (fun v => V.str (outS o v)) = ((cs).take i).map (fun v => V.str (outS o v)) ++ [V.str (outS o x)] := by
        rw [List.take_add_one, hx, List.map_append]
        rfl
      have hl : (((cs).take i).map (fun v => V.str (outS o v))).length ≤ 1000 := by
        rw [List.length_map, List.length_take]
        omega
      walk_at "wp"
      walk_at "go"
      rcases hcs x (List.mem_of_getElem? hx) with ⟨k, rfl, hk⟩ | ⟨c, rfl, hc⟩
      · refine u_isi (F := F') (d := .int (k : Nat)) (.int _) w.fh (k_int _) ?_
        walk_at "go"
        refine w_is (c := true) rfl ?_
        walk_at "go"
        refine w_ixS (szle (by omega)) (sign_get hk) ?_
        exact n_acc _ w ⟨e1.symm, rfl⟩ (by walk_at "pk") (small_lt (by omega))
      · refine u_isi (F := F') (d := .str ⟨#[c]⟩) (.str _) w.fh (k_int _) ?_
        walk_at "go"
        refine w_is (c := false) rfl ?_
        walk_at "go"
        exact n_acc _ w ⟨e1.symm, rfl⟩ (by walk_at "pk") (small_lt (by omega))
    · obtain ⟨rfl, rfl⟩ := hp
      rw [List.take_of_length_le (Nat.le_refl _)] at w
      obtain ⟨zs, ezs⟩ : ∃ zs, zs = (cs).map (outS o) := ⟨_, rfl⟩
      have hzs : ∀ z ∈ zs, z.length = 1 ∧ okS z := fun z hz => by
        rw [ezs] at hz
        obtain ⟨v, hv, rfl⟩ := List.mem_map.mp hz
        exact outS_ok rfl oko (hcs v hv)
      rw [show (cs).map (fun v => V.str (outS o v)) = zs.map V.str by rw [ezs, List.map_map]; rfl] at w
      refine ⟨_, D, zs, rfl, rfl, .inl (by walk_at "sq"), ?_, ?_⟩
      · rw [sum_ones zs hzs]
        have : zs.length = (cs).length := by rw [ezs, List.length_map]
        show zs.length + zs.length * 0 ≤ 16777216
        omega
      · refine q _ F' H' (by walk_at "w") ?_ (joined zs hzs).2
        show cd (Txt.join ⟨#[]⟩ zs) = _
        rw [join_cd, ezs]
-- _law_due
theorem ok_law_due {f : Addr} {fd : FuncData} (F : FunD K "_law_due" "_law_due" (defArgs s_law_due) (defBody s_law_due) (defScope s_law_due) [] [] f fd) (T : Txt K mg)  : FnOk P w K mg base CX0 1 f fd ["size", "rows"] (S2 (φdue01 K)) := by
  refine F.ok sc_law_due (fun vs H Q E h => ?_) (fun cdv A outer s H vs Q E hr h => ?_)
  · exact S2.len h
  · match vs, h with
    | [v0, v1], h =>
    have hu := hu_of hr
    refine ⟨_, PSs.nox (pss_cons (ps_if (PW.pt (pw_or (pt_cmpR op_lt (pv 0) pe_int (nomark _)) (pw_or1 (pt_cmpR op_gt (pv 0) pe_int (nomark _))))) (pss_one (ps_ret (pe_tup (pa_cons pe_str (pa_cons pe_non pa_nil))))) pss_nil)
      (pss_cons (ps_set (i := 2) sc_law_due.nd rfl (.inl rfl) pe_int)
      (pss_cons (ps_for PassesOwn.never rfl (pi_range1 rfl T.b_range (pa_cons (pe_callB (clLenQ (K := K)) (by rfl) T.b_len (by decide +kernel) (pa_cons (pv 1) pa_nil)) pa_nil)) (pg_name (i := 3) sc_law_due.nd rfl (.inl rfl)) (pss_cons (ps_set (i := 4) sc_law_due.nd rfl (.inl rfl) (pe_ix (ixL (K := K)) (pv 1) (pv 3) (fun _ _ => rfl)))
      (pss_cons (ps_if (pt_cmpR op_eq (pe_ix (ixT (K := K)) (pv 4) pe_int (fun _ _ => rfl)) pe_str (nomark _)) (pss_one (ps_set (i := 5) sc_law_due.nd rfl (.inl rfl) (pe_callB clLenS (by rfl) T.b_len (by decide +kernel) (pa_cons (pe_ix (ixT (K := K)) (pv 4) pe_int (fun _ _ => rfl)) pa_nil)))) (pss_one (ps_set (i := 5) sc_law_due.nd rfl (.inl rfl) (pe_ifExp (PW.pt (pw_and (pt_cmpR op_ge (pe_ix (ixT (K := K)) (pv 4) pe_int (fun _ _ => rfl)) pe_int (nomark _)) (pw_and (pt_cmpR op_gt (pe_ix (ixT (K := K)) (pv 4) pe_int (fun _ _ => rfl)) pe_int (nomark _)) (pw_and1 (pt_cmpR op_le (pe_op op_add (pe_ix (ixT (K := K)) (pv 4) pe_int (fun _ _ => rfl)) (pe_ix (ixT (K := K)) (pv 4) pe_int (fun _ _ => rfl))) (pv 0) (nomark _)))))) (pe_ix (ixT (K := K)) (pv 4) pe_int (fun _ _ => rfl)) pe_int))))
      (pss_cons (ps_set (i := 2) sc_law_due.nd rfl (.inl rfl) (pe_op op_add (pv 2) (pv 5)))
      (pss_one (ps_if (PW.pt (pw_or (pt_cmpR op_eq (pv 5) pe_int (nomark _)) (pw_or1 (pt_cmpR op_gt (pv 2) pe_int (nomark _))))) (pss_one (ps_ret (pe_tup (pa_cons pe_str (pa_cons (pv 3) pa_nil))))) pss_nil))))))
      (pss_one (ps_ret (pe_tup (pa_cons pe_str (pa_cons pe_non pa_nil)))))))), ?_⟩
    rw [show start ["size", "rows", "many", "k", "row", "more"] [v0, v1] = [some v0, some v1, none, none, none, none] from rfl]
    obtain ⟨F, a, vs, size, rows, rfl, rfl, hw, hS, hD, hl, hs, q⟩ := h
    have w := ((W.start (M := []) hw).push (imL K a vs) hS).push (dpa K vs (rows.map XRow.d)) hD
    have hvl : vs.length = rows.length := by rw [dpa_len hD, List.length_map]
    walk_at "go"
    refine w_ite (fun h1 => ?_) (fun h1 => ?_)
    · rw [show dueX size rows = .size from if_pos (.inl h1)] at q
      walk_at "go"
      refine n_tup w (szle (by simp)) fun t F3 H3 w => ?_
      exact q t _ _ ((w.push (dat K (.ref t) (DueX.size).d) (.tup (sqT_of (w.i (fx t _) (by walk_at "mem"))) (.cons (.str _) (.cons .non .nil)))).to (by walk_at "pick"))
    walk_at "go"
    refine w_ite (fun h2 => ?_) (fun h2 => ?_)
    · rw [show dueX size rows = .size from if_pos (.inr h2)] at q
      walk_at "go"
      refine n_tup w (szle (by simp)) fun t F3 H3 w => ?_
      exact q t _ _ ((w.push (dat K (.ref t) (DueX.size).d) (.tup (sqT_of (w.i (fx t _) (by walk_at "mem"))) (.cons (.str _) (.cons .non .nil)))).to (by walk_at "pick"))
    have hn : ¬ (size < 0 ∨ 400 < size) := by omega
    walk_at "go"
    refine n_forR (n := vs.length) w (fun i σ L => ∃ (m : Nat) (y3 y4 y5 : Option V), σ = [some (.int size), some (.ref a), some (.int (m : Nat)), y3, y4, y5] ∧ fxX size 0 0 rows = fxX size i m (rows.drop i) ∧ L = [imL K a vs, dpa K vs (rows.map XRow.d)]) ⟨0, none, none, none, rfl, by rw [List.drop_zero], rfl⟩ (fun i σ L F' H' hi hp w => ?_) (fun σ L F' H' hp w => ?_)
    · obtain ⟨m, y3, y4, y5, rfl, hf, rfl⟩ := hp
      obtain ⟨r, hr⟩ : ∃ r, rows[i]? = some r := ⟨_, List.getElem?_eq_getElem (by omega)⟩
      obtain ⟨y, hy, dy⟩ := dpa_get (w.dpa (K := K) (xs := vs) (ds := rows.map XRow.d) (by walk_at "mem")) (show (rows.map XRow.d)[i]? = some r.d by rw [List.getElem?_map, hr]; rfl)
      have hrs := hs r (List.mem_of_getElem? hr)
      rw [drop_at hr] at hf
      walk_at "go"
      refine w_ixL _ _ (by walk_at "sq") (atI_nat hy) ?_
      walk_at "go"
      cases r with
      | put s =>
        obtain ⟨p, rfl, hT⟩ := dp_xput dy
        have hl2 := hrs.2
        have eg : XRow.gv size (.put s) = s.length := rfl
        replace w := w.push (imT K p [.str "put", .str s]) hT
        walk_at "go"
        refine w_ite (fun h8 => ?_) (fun h8 => ?_)
        · rw [fx_hit hf (.inl (by omega)) hn] at q
          walk_at "go"
          refine n_tup w (szle (by simp)) fun t F3 H3 w => ?_
          exact q t _ _ ((w.push (dat K (.ref t) (DueX.row i).d) (.tup (sqT_of (w.i (fx t _) (by walk_at "mem"))) (.cons (.str _) (.cons (.int _) .nil)))).to (by walk_at "pick"))
        walk_at "go"
        refine w_ite (fun h9 => ?_) (fun h9 => ?_)
        · rw [fx_hit hf (.inr (by omega)) hn] at q
          walk_at "go"
          refine n_tup w (szle (by simp)) fun t F3 H3 w => ?_
          exact q t _ _ ((w.push (dat K (.ref t) (DueX.row i).d) (.tup (sqT_of (w.i (fx t _) (by walk_at "mem"))) (.cons (.str _) (.cons (.int _) .nil)))).to (by walk_at "pick"))
        walk_at "go"
        have hf2 := hf.trans (fx_go (by omega))
        rw [eg] at hf2
        exact nx_mk w ⟨_, _, _, _, rfl, hf2, rfl⟩ (by walk_at "pk")
      | copy a2 n2 =>
        obtain ⟨p, rfl, hT⟩ := dp_xcopy dy
        replace w := w.push (imT K p [.str "copy", .int a2, .int n2]) hT
        walk_at "go"
        refine w_ite (fun h5 => ?_) (fun h5 => ?_)
        · walk_at "go"
          refine w_ite (fun h6 => ?_) (fun h6 => ?_)
          · walk_at "go"
            refine w_ite (fun h7 => ?_) (fun h7 => ?_)
            · have eg : XRow.gv size (.copy a2 n2) = n2.toNat := if_neg (by omega)
              have en : n2 = ((n2.toNat : Nat) : Int) := by omega
              walk_at "go"
              rw [en]
              refine w_ite (fun h8 => ?_) (fun h8 => ?_)
              · rw [fx_hit hf (.inl (by omega)) hn] at q
                walk_at "go"
                refine n_tup w (szle (by simp)) fun t F3 H3 w => ?_
                exact q t _ _ ((w.push (dat K (.ref t) (DueX.row i).d) (.tup (sqT_of (w.i (fx t _) (by walk_at "mem"))) (.cons (.str _) (.cons (.int _) .nil)))).to (by walk_at "pick"))
              walk_at "go"
              refine w_ite (fun h9 => ?_) (fun h9 => ?_)
              · rw [fx_hit hf (.inr (by omega)) hn] at q
                walk_at "go"
                refine n_tup w (szle (by simp)) fun t F3 H3 w => ?_
                exact q t _ _ ((w.push (dat K (.ref t) (DueX.row i).d) (.tup (sqT_of (w.i (fx t _) (by walk_at "mem"))) (.cons (.str _) (.cons (.int _) .nil)))).to (by walk_at "pick"))
              walk_at "go"
              have hf2 := hf.trans (fx_go (by omega))
              rw [eg] at hf2
              exact nx_mk w ⟨_, _, _, _, rfl, hf2, rfl⟩ (by walk_at "pk")
            · have eg : XRow.gv size (.copy a2 n2) = 0 := if_pos (.inr (.inr (by omega)))
              walk_at "go"
              rw [fx_hit hf (.inl eg) hn] at q
              walk_at "go"
              refine n_tup w (szle (by simp)) fun t F3 H3 w => ?_
              exact q t _ _ ((w.push (dat K (.ref t) (DueX.row i).d) (.tup (sqT_of (w.i (fx t _) (by walk_at "mem"))) (.cons (.str _) (.cons (.int _) .nil)))).to (by walk_at "pick"))
          · have eg : XRow.gv size (.copy a2 n2) = 0 := if_pos (.inr (.inl (by omega)))
            walk_at "go"
            rw [fx_hit hf (.inl eg) hn] at q
            walk_at "go"
            refine n_tup w (szle (by simp)) fun t F3 H3 w => ?_
            exact q t _ _ ((w.push (dat K (.ref t) (DueX.row i).d) (.tup (sqT_of (w.i (fx t _) (by walk_at "mem"))) (.cons (.str _) (.cons (.int _) .nil)))).to (by walk_at "pick"))
        · have eg : XRow.gv size (.copy a2 n2) = 0 := if_pos (.inl (by omega))
          walk_at "go"
          rw [fx_hit hf (.inl eg) hn] at q
          walk_at "go"
          refine n_tup w (szle (by simp)) fun t F3 H3 w => ?_
          exact q t _ _ ((w.push (dat K (.ref t) (DueX.row i).d) (.tup (sqT_of (w.i (fx t _) (by walk_at "mem"))) (.cons (.str _) (.cons (.int _) .nil)))).to (by walk_at "pick"))
    · obtain ⟨m, y3, y4, y5, rfl, hf, rfl⟩ := hp
      rw [List.drop_eq_nil_of_le (by omega)] at hf
      rw [fx_end hf hn] at q
      walk_at "go"
      refine n_tup w (szle (by simp)) fun t F3 H3 w => ?_
      exact q t _ _ ((w.push (dat K (.ref t) (DueX.ok).d) (.tup (sqT_of (w.i (fx t _) (by walk_at "mem"))) (.cons (.str _) (.cons .non .nil)))).to (by walk_at "pick"))
-- _law_kind
theorem ok_law_kind {f : Addr} {fd : FuncData} (F : FunD K "_law_kind" "_law_kind" (defArgs s_law_kind) (defBody s_law_kind) (defScope s_law_kind) [] [] f fd) (T : Txt K mg)  : FnOk P w K mg base CX0 1 f fd ["e"] (S1 (φkind01 K)) := by
  refine F.ok sc_law_kind (fun vs H Q E h => ?_) (fun cdv A outer s H vs Q E hr h => ?_)
  · exact S1.len h
  · match vs, h with
    | [v0], h =>
    have hu := hu_of hr
    refine ⟨_, PSs.nox (pss_cons (ps_set (i := 1) sc_law_kind.nd rfl (.inr rfl) (pe_lst (pa_cons pe_str (pa_cons pe_str (pa_cons pe_str (pa_cons pe_str (pa_cons pe_str (pa_cons pe_str (pa_cons pe_str pa_nil)))))))))
      (pss_cons (ps_set (i := 2) sc_law_kind.nd rfl (.inr rfl) (pe_lst (pa_cons (pe_callB (clIsK (K := K)) (by rfl) T.b_isinstance (by decide +kernel) (pa_cons (pv 0) (pa_cons (C8.pe_gc (v := .ref (He.ga K "BadRow")) (by rfl) ⟨_, T.g_BadRow, rfl⟩) pa_nil))) (pa_cons (pe_callB (clIsK (K := K)) (by rfl) T.b_isinstance (by decide +kernel) (pa_cons (pv 0) (pa_cons (C8.pe_gc (v := .ref (He.ga K "BadSize")) (by rfl) ⟨_, T.g_BadSize, rfl⟩) pa_nil))) (pa_cons (pe_callB (clIsK (K := K)) (by rfl) T.b_isinstance (by decide +kernel) (pa_cons (pv 0) (pa_cons (C8.pe_gc (v := .ref (He.ga K "Busy")) (by rfl) ⟨_, T.g_Busy, rfl⟩) pa_nil))) (pa_cons (pe_callB (clIsK (K := K)) (by rfl) T.b_isinstance (by decide +kernel) (pa_cons (pv 0) (pa_cons (C8.pe_gc (v := .ref (He.ga K "NoSpare")) (by rfl) ⟨_, T.g_NoSpare, rfl⟩) pa_nil))) pa_nil))))))
      (pss_cons (ps_set (i := 2) sc_law_kind.nd rfl (.inr rfl) (pe_op op_cat (pv 2) (pe_lst (pa_cons (pe_callB (clIsK (K := K)) (by rfl) T.b_isinstance (by decide +kernel) (pa_cons (pv 0) (pa_cons (C8.pe_gc (v := .ref (He.ga K "NoText")) (by rfl) ⟨_, T.g_NoText, rfl⟩) pa_nil))) (pa_cons (pe_callB (clIsK (K := K)) (by rfl) T.b_isinstance (by decide +kernel) (pa_cons (pv 0) (pa_cons (C8.pe_gc (v := .ref (He.ga K "NoVersion")) (by rfl) ⟨_, T.g_NoVersion, rfl⟩) pa_nil))) (pa_cons (pe_not (pe_callB (clIsK (K := K)) (by rfl) T.b_isinstance (by decide +kernel) (pa_cons (pv 0) (pa_cons (pe_bltn (v := .ty "ValueError") (by rfl) T.b_ValueError (by decide +kernel) rfl) pa_nil)))) pa_nil))))))
      (pss_one (ps_ret (peJoin (K := K) pe_str (pe_lc (own := [("k", 3)]) (g := gName 3) rfl sc_law_kind.nd (pi_range1 rfl T.b_range (pa_cons pe_int pa_nil)) (blkOk_by (own := [("k", 3)]) (N := ["e", "names", "kinds", "k"]) (sc := defScope s_law_kind) (by decide +kernel)) (fun _ _ _ _ _ => pg_name (i := 3) sc_law_kind.nd rfl (Or.inl rfl)) (fun _ _ _ _ _ => pts_one (pt_val (pe_ix (ixL (K := K)) (pv 2) (pv 3) (fun _ _ => rfl)))) (fun _ _ _ _ _ => (pe_ix (ixL (K := K)) (pv 1) (pv 3) (fun _ _ => rfl)))))))))), ?_⟩
    rw [show start ["e", "names", "kinds", "k"] [v0] = [some v0, none, none, none] from rfl]
    obtain ⟨F, xa, C, d, rfl, hw, hx, kd, hC, q⟩ := h
    have w := (W.start (M := []) hw).push (fx xa (exk xa (.ref (He.ga K C)) d)) hx
    rcases hC with rfl | rfl
    ·
      walk_at "go"
      refine n_lst w (szle (by simp)) fun p8 F1 H1 w hp8 => ?_
      walk_at "go"
      refine ⟨xa, _, d, _, _, false, rfl, by walk_at "at", (kd.same w.ff).same w.fh, T.y_BadSize, .own _, T.q_0, ?_⟩
      walk_at "go"
      refine ⟨xa, _, d, _, _, true, rfl, by walk_at "at", (kd.same w.ff).same w.fh, T.y_BadSize, .own _, T.q_1, ?_⟩
      walk_at "go"
      refine ⟨xa, _, d, _, _, false, rfl, by walk_at "at", (kd.same w.ff).same w.fh, T.y_BadSize, .own _, T.q_2, ?_⟩
      walk_at "go"
      refine ⟨xa, _, d, _, _, false, rfl, by walk_at "at", (kd.same w.ff).same w.fh, T.y_BadSize, .own _, T.q_3, ?_⟩
      walk_at "go"
      refine n_lst w (szle (by simp)) fun p1 F1 H1 w hp1 => ?_
      walk_at "go"
      refine ⟨xa, _, d, _, _, false, rfl, by walk_at "at", (kd.same w.ff).same w.fh, T.y_BadSize, .own _, T.q_4, ?_⟩
      walk_at "go"
      refine ⟨xa, _, d, _, _, false, rfl, by walk_at "at", (kd.same w.ff).same w.fh, T.y_BadSize, .own _, T.q_5, ?_⟩
      walk_at "go"
      refine ⟨xa, _, d, _, _, true, rfl, by walk_at "at", (kd.same w.ff).same w.fh, T.y_BadSize, .ty _, T.q_6, ?_⟩
      walk_at "go"
      refine n_lst w (szle (by simp)) fun p2 F1 H1 w hp2 => ?_
      walk_at "go"
      refine n_cat (p := p1) (q := p2) w (by walk_at "at") (by walk_at "at") (szle (by simp)) fun p5 F1 H1 w hp5 => ?_
      walk_at "go"
      replace w := w.to (D := [mu p8 (.lst [V.str "BadRow", V.str "BadSize", V.str "Busy", V.str "NoSpare", V.str "NoText", V.str "NoVersion", V.str "odd"]), mu p5 (.lst [V.bl false, V.bl true, V.bl false, V.bl false, V.bl false, V.bl false, V.bl false])]) (by walk_at "pick")
      refine n_lcR (n := 7) w (fun i ys L => ys = (pickX ["BadRow", "BadSize", "Busy", "NoSpare", "NoText", "NoVersion", "odd"] [false, true, false, false, false, false, false] i).map V.str ∧ L = [mu p8 (.lst [V.str "BadRow", V.str "BadSize", V.str "Busy", V.str "NoSpare", V.str "NoText", V.str "NoVersion", V.str "odd"]), mu p5 (.lst [V.bl false, V.bl true, V.bl false, V.bl false, V.bl false, V.bl false, V.bl false])]) ⟨rfl, rfl⟩ (fun i ys L F' H' D hi hp w hD => ?_) (fun D ys L F' H' hp w hD => ?_)
      · obtain ⟨rfl, rfl⟩ := hp
        have hwl : (pickX ["BadRow", "BadSize", "Busy", "NoSpare", "NoText", "NoVersion", "odd"] [false, true, false, false, false, false, false] i).length ≤ 7 := pickX_len
        obtain ⟨z, hz⟩ : ∃ z : Str, (["BadRow", "BadSize", "Busy", "NoSpare", "NoText", "NoVersion", "odd"] : List Str)[i]? = some z := ⟨_, List.getElem?_eq_getElem hi⟩
        obtain ⟨bi, hb⟩ : ∃ bi, [false, true, false, false, false, false, false][i]? = some bi := ⟨_, List.getElem?_eq_getElem hi⟩
        have hx : [V.bl false, V.bl true, V.bl false, V.bl false, V.bl false, V.bl false, V.bl false][i]? = some (V.bl bi) := by
          rw [show [V.bl false, V.bl true, V.bl false, V.bl false, V.bl false, V.bl false, V.bl false] = [false, true, false, false, false, false, false].map V.bl from rfl, List.getElem?_map, hb]
          rfl
        have hn : [V.str "BadRow", V.str "BadSize", V.str "Busy", V.str "NoSpare", V.str "NoText", V.str "NoVersion", V.str "odd"][i]? = some (V.str z) := by
          rw [show [V.str "BadRow", V.str "BadSize", V.str "Busy", V.str "NoSpare", V.str "NoText", V.str "NoVersion", V.str "odd"] = (["BadRow", "BadSize", "Busy", "NoSpare", "NoText", "NoVersion", "odd"] : List Str).map V.str from rfl, List.getElem?_map, hz]
          rfl
        walk_at "wp"
        walk_at "go"
        refine w_ixL _ _ (by walk_at "sq") (atI_nat hx) ?_
        walk_at "go"
        cases bi with
        | true =>
          walk_at "go"
          refine w_ixL _ _ (by walk_at "sq") (atI_nat hn) ?_
          exact n_acc _ w ⟨by rw [pickX_T hz hb, List.map_append]; rfl, rfl⟩ (by walk_at "pk") (small_lt (by rw [List.length_map]; omega))
        | false =>
          walk_at "go"
          exact ⟨_, _, _, ⟨by rw [pickX_F hz hb], rfl⟩, w.to (by walk_at "pick")⟩
      obtain ⟨rfl, rfl⟩ := hp
      have w := w.to (D := [mu D (.lst [V.str "BadSize"])]) (by walk_at "pick")
      walk_at "go"
      refine ⟨_, D, ["BadSize"], rfl, rfl, .inl (by walk_at "sq"), ?_, ?_⟩
      · decide +kernel
      exact q _ _ (w.to .nil)
    ·
      walk_at "go"
      refine n_lst w (szle (by simp)) fun p8 F1 H1 w hp8 => ?_
      walk_at "go"
      refine ⟨xa, _, d, _, _, true, rfl, by walk_at "at", (kd.same w.ff).same w.fh, T.y_BadRow, .own _, T.q_7, ?_⟩
      walk_at "go"
      refine ⟨xa, _, d, _, _, false, rfl, by walk_at "at", (kd.same w.ff).same w.fh, T.y_BadRow, .own _, T.q_8, ?_⟩
      walk_at "go"
      refine ⟨xa, _, d, _, _, false, rfl, by walk_at "at", (kd.same w.ff).same w.fh, T.y_BadRow, .own _, T.q_9, ?_⟩
      walk_at "go"
      refine ⟨xa, _, d, _, _, false, rfl, by walk_at "at", (kd.same w.ff).same w.fh, T.y_BadRow, .own _, T.q_10, ?_⟩
      walk_at "go"
      refine n_lst w (szle (by simp)) fun p1 F1 H1 w hp1 => ?_
      walk_at "go"
      refine ⟨xa, _, d, _, _, false, rfl, by walk_at "at", (kd.same w.ff).same w.fh, T.y_BadRow, .own _, T.q_11, ?_⟩
      walk_at "go"
      refine ⟨xa, _, d, _, _, false, rfl, by walk_at "at", (kd.same w.ff).same w.fh, T.y_BadRow, .own _, T.q_12, ?_⟩
      walk_at "go"
      refine ⟨xa, _, d, _, _, true, rfl, by walk_at "at", (kd.same w.ff).same w.fh, T.y_BadRow, .ty _, T.q_13, ?_⟩
      walk_at "go"
      refine n_lst w (szle (by simp)) fun p2 F1 H1 w hp2 => ?_
      walk_at "go"
      refine n_cat (p := p1) (q := p2) w (by walk_at "at") (by walk_at "at") (szle (by simp)) fun p5 F1 H1 w hp5 => ?_
      walk_at "go"
      replace w := w.to (D := [mu p8 (.lst [V.str "BadRow", V.str "BadSize", V.str "Busy", V.str "NoSpare", V.str "NoText", V.str "NoVersion", V.str "odd"]), mu p5 (.lst [V.bl true, V.bl false, V.bl false, V.bl false, V.bl false, V.bl false, V.bl false])]) (by walk_at "pick")
      refine n_lcR (n := 7) w (fun i ys L => ys = (pickX ["BadRow", "BadSize", "Busy", "NoSpare", "NoText", "NoVersion", "odd"] [true, false, false, false, false, false, false] i).map V.str ∧ L = [mu p8 (.lst [V.str "BadRow", V.str "BadSize", V.str "Busy", V.str "NoSpare", V.str "NoText", V.str "NoVersion", V.str "odd"]), mu p5 (.lst [V.bl true, V.bl false, V.bl false, V.bl false, V.bl false, V.bl false, V.bl false])]) ⟨rfl, rfl⟩ (fun i ys L F' H' D hi hp w hD => ?_) (fun D ys L F' H' hp w hD => ?_)
      · obtain ⟨rfl, rfl⟩ := hp
        have hwl : (pickX ["BadRow", "BadSize", "Busy", "NoSpare", "NoText", "NoVersion", "odd"] [true, false, false, false, false, false, false] i).length ≤ 7 := pickX_len
        obtain ⟨z, hz⟩ : ∃ z : Str, (["BadRow", "BadSize", "Busy", "NoSpare", "NoText", "NoVersion", "odd"] : List Str)[i]? = some z := ⟨_, List.getElem?_eq_getElem hi⟩
        obtain ⟨bi, hb⟩ : ∃ bi, [true, false, false, false, false, false, false][i]? = some bi := ⟨_, List.getElem?_eq_getElem hi⟩
        have hx : [V.bl true, V.bl false, V.bl false, V.bl false, V.bl false, V.bl false, V.bl false][i]? = some (V.bl bi) := by
          rw [show [V.bl true, V.bl false, V.bl false, V.bl false, V.bl false, V.bl false, V.bl false] = [true, false, false, false, false, false, false].map V.bl from rfl, List.getElem?_map, hb]
          rfl
        have hn : [V.str "BadRow", V.str "BadSize", V.str "Busy", V.str "NoSpare", V.str "NoText", V.str "NoVersion", V.str "odd"][i]? = some (V.str z) := by
          rw [show [V.str "BadRow", V.str "BadSize", V.str "Busy", V.str "NoSpare", V.str "NoText", V.str "NoVersion", V.str "odd"] = (["BadRow", "BadSize", "Busy", "NoSpare", "NoText", "NoVersion", "odd"] : List Str).map V.str from rfl, List.getElem?_map, hz]
          rfl
        walk_at "wp"
        walk_at "go"
        refine w_ixL _ _ (by walk_at "sq") (atI_nat hx) ?_
        walk_at "go"
        cases bi with
        | true =>
          walk_at "go"
          refine w_ixL _ _ (by walk_at "sq") (atI_nat hn) ?_
          exact n_acc _ w ⟨by rw [pickX_T hz hb, List.map_append]; rfl, rfl⟩ (by walk_at "pk") (small_lt (by rw [List.length_map]; omega))
        | false =>
          walk_at "go"
          exact ⟨_, _, _, ⟨by rw [pickX_F hz hb], rfl⟩, w.to (by walk_at "pick")⟩
      obtain ⟨rfl, rfl⟩ := hp
      have w := w.to (D := [mu D (.lst [V.str "BadRow"])]) (by walk_at "pick")
      walk_at "go"
      refine ⟨_, D, ["BadRow"], rfl, rfl, .inl (by walk_at "sq"), ?_, ?_⟩
      · decide +kernel
      exact q _ _ (w.to .nil)
-- _law_made
theorem ok_law_made {f : Addr} {fd : FuncData} (F : FunD K "_law_made" "_law_made" (defArgs s_law_made) (defBody s_law_made) (defScope s_law_made) [] [] f fd) (T : Txt K mg) (D_law_kind : DO P w K mg base 1 "_law_kind" ["e"] [] (S1 (φkind01 K))) (DNX_Change : DNX P w K mg base 3 "Change" ["self", "size", "rows"] (SX3 (φinitX K))) : FnOk P w K mg base CX0 5 f fd ["size", "rows"] (S2 (φmade01 K)) := by
  refine F.ok sc_law_made (fun vs H Q E h => ?_) (fun cdv A outer s H vs Q E hr h => ?_)
  · exact S2.len h
  · match vs, h with
    | [v0, v1], h =>
    have hu := hu_of hr
    refine' ⟨_, PSs.nox (pss_cons (ps_set (i := 2) sc_law_made.nd rfl (.inl rfl) pe_non)
      (pss_cons (ps_set (i := 3) sc_law_made.nd rfl (.inl rfl) pe_non)
      (pss_cons (ps_set (i := 4) sc_law_made.nd rfl (.inl rfl) pe_non)
      (pss_cons (ps_keep rfl rfl sc_law_made.nd rfl takes0 ?tr1 (HdK.named (i := 5) (tst_one ⟨by rfl, by decide, .inl T.g_BadSize⟩) rfl rfl (fun a oe cls d pn hz hf => (pss_one (ps_set (i := 3) sc_law_made.nd rfl (.inl rfl) (pv 5)))) (HdK.named (i := 5) (tst_one ⟨by rfl, by decide, .inl T.x_BadRow.g⟩) rfl rfl (fun a oe cls d pn hz hf => (pss_cons (ps_set (i := 3) sc_law_made.nd rfl (.inl rfl) (pv 5))
      (pss_one (ps_set (i := 4) sc_law_made.nd rfl (.inl rfl) (pe_xff T.x_BadRow hz hf (pv 5)))))) HdK.nil)))
      (pss_one (ps_ret (pe_tup (pa_cons (pv 2) (pa_cons (pe_ifExp (pt_cmp (pc_isN (pv 3)) (by rfl)) (pe_tup (pa_cons pe_str (pa_cons pe_non pa_nil))) (pe_tup (pa_cons (pcall D_law_kind hr (pa_cons (pv 3) pa_nil)) (pa_cons (pv 4) pa_nil)))) pa_nil))))))))), ?_⟩
    case tr1 => exact fun _ _ _ tk => (pss_one (ps_set (i := 2) sc_law_made.nd rfl (.inl rfl) (pmakeX (K := K) DNX_Change hr tk (pa_cons (pv 0) (pa_cons (pv 1) pa_nil)))))
    rw [show start ["size", "rows", "found", "caught", "row", "e"] [v0, v1] = [some v0, some v1, none, none, none, none] from rfl]
    obtain ⟨F, a, vs, size, rows, rfl, rfl, s0, hD, hl, hs, q1, q2⟩ := h
    have w := (s0.w (M := [a])).push (dpa K vs (rows.map XRow.d)) hD
    walk_at "go"
    refine n_makeS w fun c dx H5 w hc => ?_
    refine ⟨_, c, dx, a, vs, size, rows, rfl, rfl, rfl, w.st (by walk_at "pick"), w.dpa (by walk_at "mem"), hl, hs, fun hok r F2 H2 hr w2 => ?_, fun hsz F2 H2 w2 => ?_, fun k hk dd F2 H2 hdd w2 => ?_⟩
    · refine ⟨rfl, ?_⟩
      obtain ⟨n, cs, rfl, hn, rfl, hR⟩ := due_ok hs hok
      have hr' := w.g.fresh hr
      replace w := w.cal (D := [mu c (.ins (He.ga K "Change") dx []), mu a (.lst vs)]) (by walk_at "pick") w2 (by walk_at "app") rfl
      replace w := (w.fz (p := r) (by walk_at "pick") hr').push (fx r (.lst vs)) upd_same
      replace w := (w.fz (p := c) (by walk_at "pick") hc).push (fx c (insX (He.ga K "Change") dx r (n : Nat))) upd_same
      have hdd := w.dpa (K := K) (xs := vs) (ds := (cs.map CRow.x).map XRow.d) (by walk_at "mem")
      have hdd2 := hdd
      rw [crows_xd] at hdd2
      replace w := w.push (chg K (.ref c) n cs) ⟨c, dx, r, vs, rfl, w.i (fx c _) (by walk_at "mem"), w.i (fx r _) (by walk_at "mem"), hdd2⟩
      walk_at "go"
      refine n_tup w (szle (by simp)) fun t2 F3 H3 w => ?_
      walk_at "go"
      refine n_tup w (szle (by simp)) fun t F3 H3 w => ?_
      replace w := w.push (dat K (.ref t2) (dueX (n : Nat) (cs.map CRow.x)).d) (by
        rw [hok]
        exact .tup (sqT_of (w.i (fx t2 _) (by walk_at "mem"))) (.cons (.str _) (.cons .non .nil)))
      exact q1 n cs hok rfl hn rfl hR c t t2 _ _ (w.to (by walk_at "pick"))
    · replace w := w.cal (D := [mu c (.ins (He.ga K "Change") dx []), mu a (.lst vs)]) (by walk_at "pick") w2 (by walk_at "app") rfl
      refine w_clY T.m_0 fun xa hxa => ?_
      try dsimp only [List.set_cons_succ, List.set_cons_zero]
      walk_at "go"
      intro na
      try dsimp only [List.set_cons_succ, List.set_cons_zero]
      have hxf := w.g.fresh na
      replace w := w.nw (u := exk xa (.ref (He.ga K "BadSize")) none) na
      walk_at "go"
      refine w_iteF (fun z => nomatch z) ?_
      walk_at "go"
      replace w := (w.fz (p := xa) (by walk_at "pick") hxf).push (fx xa (exk xa (.ref (He.ga K "BadSize")) none)) upd_same
      refine ⟨_, xa, "BadSize", none, rfl, w.fh, w.i (fx xa _) (by walk_at "mem"), .inl rfl, .inl rfl, fun F7 H7 w7 => ?_⟩
      replace w := w.cal .nil w7 (by walk_at "app")
      walk_at "go"
      refine n_tup w (szle (by simp)) fun t2 F3 H3 w => ?_
      walk_at "go"
      refine n_tup w (szle (by simp)) fun t F3 H3 w => ?_
      replace w := w.push (dat K (.ref t2) (dueX size rows).d) (by
        rw [hsz]
        exact .tup (sqT_of (w.i (fx t2 _) (by walk_at "mem"))) (.cons (.str _) (.cons .non .nil)))
      exact q2 (by rw [hsz]; exact fun z => nomatch z) t t2 _ _ (w.to (by walk_at "pick"))
    · replace w := w.cal (D := [mu c (.ins (He.ga K "Change") dx []), mu a (.lst vs)]) (by walk_at "pick") w2 (by walk_at "app") rfl
      refine w_clN T.m_1 ?_
      refine w_clY T.m_2 fun xa hxa => ?_
      try dsimp only [List.set_cons_succ, List.set_cons_zero]
      walk_at "go"
      refine n_xf (f := "row") (v := .int (k : Nat)) (by walk_at "at") (by rfl) ?_
      walk_at "go"
      intro na
      try dsimp only [List.set_cons_succ, List.set_cons_zero]
      have hxf := w.g.fresh na
      replace w := w.nw (u := exk xa (.ref (He.ga K "BadRow")) (some dd)) na
      walk_at "go"
      refine w_iteF (fun z => nomatch z) ?_
      walk_at "go"
      replace w := (w.fz (p := xa) (by walk_at "pick") hxf).push (fx xa (exk xa (.ref (He.ga K "BadRow")) (some dd))) upd_same
      refine ⟨_, xa, "BadRow", some dd, rfl, w.fh, w.i (fx xa _) (by walk_at "mem"), .inr ⟨dd, _, rfl, w.i (fx dd _) (by walk_at "mem")⟩, .inr rfl, fun F7 H7 w7 => ?_⟩
      replace w := w.cal .nil w7 (by walk_at "app")
      walk_at "go"
      refine n_tup w (szle (by simp)) fun t2 F3 H3 w => ?_
      walk_at "go"
      refine n_tup w (szle (by simp)) fun t F3 H3 w => ?_
      replace w := w.push (dat K (.ref t2) (dueX size rows).d) (by
        rw [hk]
        exact .tup (sqT_of (w.i (fx t2 _) (by walk_at "mem"))) (.cons (.str _) (.cons (.int _) .nil)))
      exact q2 (by rw [hk]; exact fun z => nomatch z) t t2 _ _ (w.to (by walk_at "pick"))
-- _law_size_spoilt
theorem ok_law_size_spoilt {f : Addr} {fd : FuncData} (F : FunD K "_law_size_spoilt" "_law_size_spoilt" (defArgs s_law_size_spoilt) (defBody s_law_size_spoilt) (defScope s_law_size_spoilt) [] [] f fd) (T : Txt K mg) (D_law_draw : DO P w K mg base 2 "_law_draw" ["bag", "many"] [] (S2 (φdraw K))) : FnOk P w K mg base CX0 3 f fd ["bag", "size", "rows"] (S3 (φsizesp01 K)) := by
  refine F.ok sc_law_size_spoilt (fun vs H Q E h => ?_) (fun cdv A outer s H vs Q E hr h => ?_)
  · exact S3.len h
  · match vs, h with
    | [v0, v1, v2], h =>
    have hu := hu_of hr
    refine ⟨_, PSs.nox (pss_cons (ps_set (i := 3) sc_law_size_spoilt.nd rfl (.inl rfl) (pcall D_law_draw hr (pa_cons (pv 0) (pa_cons pe_int pa_nil))))
      (pss_cons (ps_set (i := 4) sc_law_size_spoilt.nd rfl (.inl rfl) (pcall D_law_draw hr (pa_cons (pv 0) (pa_cons (pe_op op_pow pe_int pe_int) pa_nil))))
      (pss_cons (ps_set (i := 5) sc_law_size_spoilt.nd rfl (.inl rfl) (pe_callBK (clMaxDf (K := K) rfl hr.units) (by rfl) T.b_max (by decide +kernel) (pa_cons (pe_lc (own := [("row", 6)]) (g := gName 6) rfl sc_law_size_spoilt.nd (pi_list (pv 2)) (blkOk_by (own := [("row", 6)]) (N := ["bag", "size", "rows", "way", "far", "need", "row"]) (sc := defScope s_law_size_spoilt) (by decide +kernel)) (fun _ _ _ _ _ => pg_name (i := 6) sc_law_size_spoilt.nd rfl (Or.inl rfl)) (fun _ _ _ _ _ => pts_one (pt_cmpR op_eq (pe_ix (ixT (K := K)) (pv 6) pe_int (fun _ _ => rfl)) pe_str (nomark _))) (fun _ _ _ _ _ => (pe_op op_add (pe_ix (ixT (K := K)) (pv 6) pe_int (fun _ _ => rfl)) (pe_ix (ixT (K := K)) (pv 6) pe_int (fun _ _ => rfl))))) pa_nil) (pk_cons pe_int pk_nil)))
      (pss_one (ps_ret (pe_tup (pa_cons (pe_ix (ixL (K := K)) (pe_lst (pa_cons (pe_un un_neg pe_int) (pa_cons pe_int (pa_cons pe_int (pa_cons pe_int (pa_cons (pe_op op_sub (pe_un un_neg pe_int) (pv 4)) (pa_cons (pe_op op_add pe_int (pv 4)) (pa_cons (pv 5) (pa_cons (pe_op op_sub (pv 5) pe_int) pa_nil))))))))) (pv 3) (fun _ _ => rfl)) (pa_cons (pv 2) pa_nil)))))))), ?_⟩
    rw [show start ["bag", "size", "rows", "way", "far", "need", "row"] [v0, v1, v2] = [some v0, some v1, some v2, none, none, none, none] from rfl]
    obtain ⟨F, b, a, vs, size, rows, rfl, rfl, rfl, s0, hS, hD, hl, q⟩ := h
    have w := ((s0.w (M := [b])).push (imL K a vs) hS).push (dpa K vs (rows.map XRow.d)) hD
    have hvl : vs.length = rows.length := by rw [dpa_len hD, List.length_map]
    walk_at "go"
    refine n_draw w (by walk_at "pick") (by decide) (by decide) fun way F1 H1 w r0 r1 => ?_
    walk_at "go"
    refine n_draw w (by walk_at "pick") (by decide +kernel) (by decide +kernel) fun far F1 H1 w f0 f1 => ?_
    walk_at "go"
    refine n_lcL vs w (fun i zs L => ∃ ns : List Int, zs = ns.map V.int ∧ ns.length ≤ i ∧ L = [bag K b, imL K a vs, dpa K vs (rows.map XRow.d)]) ⟨[], rfl, Nat.le_refl _, rfl⟩ (fun i zs L F' H' D hp w => ?_) (fun i x zs L F' H' D hx hp w hD => ?_) (fun D zs L F' H' hp w hD => ?_)
    · obtain ⟨ns, rfl, hnl, rfl⟩ := hp
      walk_at "sq"
    · obtain ⟨ns, rfl, hnl, rfl⟩ := hp
      have hi := (List.getElem?_eq_some_iff.mp hx).1
      obtain ⟨r, hr, dr⟩ := dpa_at (w.dpa (K := K) (xs := vs) (ds := rows.map XRow.d) (by walk_at "mem")) hx
      walk_at "wp"
      cases r with
      | put s =>
        obtain ⟨p, rfl, hT⟩ := dp_xput dr
        replace w := w.push (imT K p [.str "put", .str s]) hT
        walk_at "go"
        exact ⟨_, _, _, ⟨ns, rfl, by omega, rfl⟩, w.to (by walk_at "pick")⟩
      | copy a2 n2 =>
        obtain ⟨p, rfl, hT⟩ := dp_xcopy dr
        replace w := w.push (imT K p [.str "copy", .int a2, .int n2]) hT
        walk_at "go"
        exact n_acc _ w ⟨ns ++ [a2 + n2], by rw [List.map_append]; rfl, by rw [List.length_append]; exact Nat.succ_le_succ hnl, rfl⟩ (by walk_at "pk") (small_lt (by rw [List.length_map]; omega))
    obtain ⟨ns, rfl, hnl, rfl⟩ := hp
    walk_at "go"
    refine n_maxDf (by walk_at "sq") ?_ (fun m => ?_)
    ·
      walk_at "go"
      refine n_lst w (szle (by simp)) fun p1 F1 H1 w hp1 => ?_
      obtain ⟨wy, rfl⟩ : ∃ wy : Nat, way = (wy : Int) := ⟨way.toNat, by omega⟩
      walk_at "go"
      obtain ⟨s2, es⟩ := ints_at (ns := [-1, 401, 0, 400, -1 - far, 401 + far, 0, 0 - 1]) (k := wy) (by show wy < 8; omega)
      refine w_ixL _ _ (by walk_at "sq") es ?_
      walk_at "go"
      refine n_tup w (szle (by simp)) fun t F3 H3 w => ?_
      exact q t s2 _ _ (w.to (by walk_at "pick"))
    ·
      walk_at "go"
      refine n_lst w (szle (by simp)) fun p1 F1 H1 w hp1 => ?_
      obtain ⟨wy, rfl⟩ : ∃ wy : Nat, way = (wy : Int) := ⟨way.toNat, by omega⟩
      walk_at "go"
      obtain ⟨s2, es⟩ := ints_at (ns := [-1, 401, 0, 400, -1 - far, 401 + far, m, m - 1]) (k := wy) (by show wy < 8; omega)
      refine w_ixL _ _ (by walk_at "sq") es ?_
      walk_at "go"
      refine n_tup w (szle (by simp)) fun t F3 H3 w => ?_
      exact q t s2 _ _ (w.to (by walk_at "pick"))
-- _law_copy_bent
theorem ok_law_copy_bent {f : Addr} {fd : FuncData} (F : FunD K "_law_copy_bent" "_law_copy_bent" (defArgs s_law_copy_bent) (defBody s_law_copy_bent) (defScope s_law_copy_bent) [] [] f fd) (T : Txt K mg) (D_law_draw : DO P w K mg base 2 "_law_draw" ["bag", "many"] [] (S2 (φdraw K))) : FnOk P w K mg base CX0 3 f fd ["bag", "size", "row"] (S3 (φcopybent01 K)) := by
  refine F.ok sc_law_copy_bent (fun vs H Q E h => ?_) (fun cdv A outer s H vs Q E hr h => ?_)
  · exact S3.len h
  · match vs, h with
    | [v0, v1, v2], h =>
    have hu := hu_of hr
    refine ⟨_, PSs.nox (pss_cons (ps_set (i := 3) sc_law_copy_bent.nd rfl (.inl rfl) (pcall D_law_draw hr (pa_cons (pv 0) (pa_cons pe_int pa_nil))))
      (pss_cons (ps_set (i := 4) sc_law_copy_bent.nd rfl (.inl rfl) (pcall D_law_draw hr (pa_cons (pv 0) (pa_cons (pe_op op_pow pe_int pe_int) pa_nil))))
      (pss_cons (ps_asg (pe_slice (slT (K := K)) (pv 2) (po_some pe_int) po_none) (pg_tup (by rfl) (pgs_cons (pg_name (i := 5) sc_law_copy_bent.nd rfl (.inl rfl)) (pgs_cons (pg_name (i := 6) sc_law_copy_bent.nd rfl (.inl rfl)) pgs_nil))))
      (pss_cons (ps_set (i := 7) sc_law_copy_bent.nd rfl (.inl rfl) (pe_lst (pa_cons (pe_tup (pa_cons (pe_un un_neg pe_int) (pa_cons (pv 6) pa_nil))) (pa_cons (pe_tup (pa_cons (pv 5) (pa_cons pe_int pa_nil))) (pa_cons (pe_tup (pa_cons (pv 5) (pa_cons (pe_un un_neg pe_int) pa_nil))) (pa_cons (pe_tup (pa_cons (pv 5) (pa_cons (pe_op op_add (pe_op op_sub (pv 1) (pv 5)) pe_int) pa_nil))) (pa_cons (pe_tup (pa_cons (pe_op op_add (pe_op op_sub (pv 1) (pv 6)) pe_int) (pa_cons (pv 6) pa_nil))) (pa_cons (pe_tup (pa_cons (pv 1) (pa_cons pe_int pa_nil))) pa_nil))))))))
      (pss_cons (ps_set (i := 7) sc_law_copy_bent.nd rfl (.inl rfl) (pe_op op_cat (pv 7) (pe_lst (pa_cons (pe_tup (pa_cons (pe_op op_sub (pe_un un_neg pe_int) (pv 4)) (pa_cons (pv 6) pa_nil))) (pa_cons (pe_tup (pa_cons (pv 5) (pa_cons (pv 4) pa_nil))) (pa_cons (pe_tup (pa_cons (pv 4) (pa_cons (pv 6) pa_nil))) (pa_cons (pe_tup (pa_cons (pv 5) (pa_cons (pe_op op_sub (pv 1) (pv 5)) pa_nil))) pa_nil)))))))
      (pss_one (ps_ret (pe_tup (pa_cons pe_str (pa_cons (pe_ix (ixT (K := K)) (pe_ix (ixL (K := K)) (pv 7) (pv 3) (fun _ _ => rfl)) pe_int (fun _ _ => rfl)) (pa_cons (pe_ix (ixT (K := K)) (pe_ix (ixL (K := K)) (pv 7) (pv 3) (fun _ _ => rfl)) pe_int (fun _ _ => rfl)) pa_nil))))))))))), ?_⟩
    rw [show start ["bag", "size", "row", "way", "far", "at", "many", "some"] [v0, v1, v2] = [some v0, some v1, some v2, none, none, none, none, none] from rfl]
    obtain ⟨F, b, p, size, a, n, rfl, rfl, rfl, s0, hT, q⟩ := h
    have w := (s0.w (M := [b])).push (imT K p [.str "copy", .int a, .int n]) hT
    walk_at "go"
    refine n_draw w (by walk_at "pick") (by decide) (by decide) fun way F1 H1 w r0 r1 => ?_
    obtain ⟨wy, rfl⟩ : ∃ wy : Nat, way = (wy : Int) := ⟨way.toNat, by omega⟩
    walk_at "go"
    refine n_draw w (by walk_at "pick") (by decide +kernel) (by decide +kernel) fun far F1 H1 w f0 f1 => ?_
    walk_at "go"
    refine n_slTx (xs := [V.str "copy", V.int a, V.int n]) w (sqT_same (K := K) w.fh (w.imT (by walk_at "mem"))) (fun z => absurd (show HT.sIx 3 0 (some 1) = 0 from z.1) (by decide)) fun t2 F2 H2 w => ?_
    rw [show cutV [V.str "copy", V.int a, V.int n] (some 1) none = [V.int a, V.int n] from cut_from_V _ 1] at w
    refine w_tgt _ (by walk_at "st") rfl ?_
    walk_at "go"
    refine n_tup w (szle (by simp)) fun u0 F3 H3 w => ?_
    walk_at "go"
    refine n_tup w (szle (by simp)) fun u1 F3 H3 w => ?_
    walk_at "go"
    refine n_tup w (szle (by simp)) fun u2 F3 H3 w => ?_
    walk_at "go"
    refine n_tup w (szle (by simp)) fun u3 F3 H3 w => ?_
    walk_at "go"
    refine n_tup w (szle (by simp)) fun u4 F3 H3 w => ?_
    walk_at "go"
    refine n_tup w (szle (by simp)) fun u5 F3 H3 w => ?_
    walk_at "go"
    refine n_lst w (szle (by simp)) fun p1 F1 H1 w hp1 => ?_
    walk_at "go"
    refine n_tup w (szle (by simp)) fun u6 F3 H3 w => ?_
    walk_at "go"
    refine n_tup w (szle (by simp)) fun u7 F3 H3 w => ?_
    walk_at "go"
    refine n_tup w (szle (by simp)) fun u8 F3 H3 w => ?_
    walk_at "go"
    refine n_tup w (szle (by simp)) fun u9 F3 H3 w => ?_
    walk_at "go"
    refine n_lst w (szle (by simp)) fun p2 F1 H1 w hp2 => ?_
    walk_at "go"
    refine n_cat (p := p1) (q := p2) w (by walk_at "at") (by walk_at "at") (szle (by simp)) fun p3 F1 H1 w hp3 => ?_
    rw [show ([V.ref u0, V.ref u1, V.ref u2, V.ref u3, V.ref u4, V.ref u5] ++ [V.ref u6, V.ref u7, V.ref u8, V.ref u9] : List V) = [V.ref u0, V.ref u1, V.ref u2, V.ref u3, V.ref u4, V.ref u5, V.ref u6, V.ref u7, V.ref u8, V.ref u9] from rfl] at w
    obtain ⟨F9, w⟩ := w.fzL (p := p3) (by walk_at "pick") hp3
    walk_at "go"
    rcases (show wy = 0 ∨ wy = 1 ∨ wy = 2 ∨ wy = 3 ∨ wy = 4 ∨ wy = 5 ∨ wy = 6 ∨ wy = 7 ∨ wy = 8 ∨ wy = 9 by omega) with rfl | rfl | rfl | rfl | rfl | rfl | rfl | rfl | rfl | rfl
    · refine w_ixL _ _ (sqL_same w.fh (sqL_of (K := K) (w.i (fx p3 (.lst [V.ref u0, V.ref u1, V.ref u2, V.ref u3, V.ref u4, V.ref u5, V.ref u6, V.ref u7, V.ref u8, V.ref u9])) (by walk_at "mem")))) (show atI [V.ref u0, V.ref u1, V.ref u2, V.ref u3, V.ref u4, V.ref u5, V.ref u6, V.ref u7, V.ref u8, V.ref u9] ((0 : Nat) : Int) = some (.ref u0) from rfl) ?_
      walk_at "go"
      refine n_tup w (szle (by simp)) fun t F3 H3 w => ?_
      exact q t _ _ _ _ (w.to (by walk_at "pick"))
    · refine w_ixL _ _ (sqL_same w.fh (sqL_of (K := K) (w.i (fx p3 (.lst [V.ref u0, V.ref u1, V.ref u2, V.ref u3, V.ref u4, V.ref u5, V.ref u6, V.ref u7, V.ref u8, V.ref u9])) (by walk_at "mem")))) (show atI [V.ref u0, V.ref u1, V.ref u2, V.ref u3, V.ref u4, V.ref u5, V.ref u6, V.ref u7, V.ref u8, V.ref u9] ((1 : Nat) : Int) = some (.ref u1) from rfl) ?_
      walk_at "go"
      refine n_tup w (szle (by simp)) fun t F3 H3 w => ?_
      exact q t _ _ _ _ (w.to (by walk_at "pick"))
    · refine w_ixL _ _ (sqL_same w.fh (sqL_of (K := K) (w.i (fx p3 (.lst [V.ref u0, V.ref u1, V.ref u2, V.ref u3, V.ref u4, V.ref u5, V.ref u6, V.ref u7, V.ref u8, V.ref u9])) (by walk_at "mem")))) (show atI [V.ref u0, V.ref u1, V.ref u2, V.ref u3, V.ref u4, V.ref u5, V.ref u6, V.ref u7, V.ref u8, V.ref u9] ((2 : Nat) : Int) = some (.ref u2) from rfl) ?_
      walk_at "go"
      refine n_tup w (szle (by simp)) fun t F3 H3 w => ?_
      exact q t _ _ _ _ (w.to (by walk_at "pick"))
    · refine w_ixL _ _ (sqL_same w.fh (sqL_of (K := K) (w.i (fx p3 (.lst [V.ref u0, V.ref u1, V.ref u2, V.ref u3, V.ref u4, V.ref u5, V.ref u6, V.ref u7, V.ref u8, V.ref u9])) (by walk_at "mem")))) (show atI [V.ref u0, V.ref u1, V.ref u2, V.ref u3, V.ref u4, V.ref u5, V.ref u6, V.ref u7, V.ref u8, V.ref u9] ((3 : Nat) : Int) = some (.ref u3) from rfl) ?_
      walk_at "go"
      refine n_tup w (szle (by simp)) fun t F3 H3 w => ?_
      exact q t _ _ _ _ (w.to (by walk_at "pick"))
    · refine w_ixL _ _ (sqL_same w.fh (sqL_of (K := K) (w.i (fx p3 (.lst [V.ref u0, V.ref u1, V.ref u2, V.ref u3, V.ref u4, V.ref u5, V.ref u6, V.ref u7, V.ref u8, V.ref u9])) (by walk_at "mem")))) (show atI [V.ref u0, V.ref u1, V.ref u2, V.ref u3, V.ref u4, V.ref u5, V.ref u6, V.ref u7, V.ref u8, V.ref u9] ((4 : Nat) : Int) = some (.ref u4) from rfl) ?_
      walk_at "go"
      refine n_tup w (szle (by simp)) fun t F3 H3 w => ?_
      exact q t _ _ _ _ (w.to (by walk_at "pick"))
    · refine w_ixL _ _ (sqL_same w.fh (sqL_of (K := K) (w.i (fx p3 (.lst [V.ref u0, V.ref u1, V.ref u2, V.ref u3, V.ref u4, V.ref u5, V.ref u6, V.ref u7, V.ref u8, V.ref u9])) (by walk_at "mem")))) (show atI [V.ref u0, V.ref u1, V.ref u2, V.ref u3, V.ref u4, V.ref u5, V.ref u6, V.ref u7, V.ref u8, V.ref u9] ((5 : Nat) : Int) = some (.ref u5) from rfl) ?_
      walk_at "go"
      refine n_tup w (szle (by simp)) fun t F3 H3 w => ?_
      exact q t _ _ _ _ (w.to (by walk_at "pick"))
    · refine w_ixL _ _ (sqL_same w.fh (sqL_of (K := K) (w.i (fx p3 (.lst [V.ref u0, V.ref u1, V.ref u2, V.ref u3, V.ref u4, V.ref u5, V.ref u6, V.ref u7, V.ref u8, V.ref u9])) (by walk_at "mem")))) (show atI [V.ref u0, V.ref u1, V.ref u2, V.ref u3, V.ref u4, V.ref u5, V.ref u6, V.ref u7, V.ref u8, V.ref u9] ((6 : Nat) : Int) = some (.ref u6) from rfl) ?_
      walk_at "go"
      refine n_tup w (szle (by simp)) fun t F3 H3 w => ?_
      exact q t _ _ _ _ (w.to (by walk_at "pick"))
    · refine w_ixL _ _ (sqL_same w.fh (sqL_of (K := K) (w.i (fx p3 (.lst [V.ref u0, V.ref u1, V.ref u2, V.ref u3, V.ref u4, V.ref u5, V.ref u6, V.ref u7, V.ref u8, V.ref u9])) (by walk_at "mem")))) (show atI [V.ref u0, V.ref u1, V.ref u2, V.ref u3, V.ref u4, V.ref u5, V.ref u6, V.ref u7, V.ref u8, V.ref u9] ((7 : Nat) : Int) = some (.ref u7) from rfl) ?_
      walk_at "go"
      refine n_tup w (szle (by simp)) fun t F3 H3 w => ?_
      exact q t _ _ _ _ (w.to (by walk_at "pick"))
    · refine w_ixL _ _ (sqL_same w.fh (sqL_of (K := K) (w.i (fx p3 (.lst [V.ref u0, V.ref u1, V.ref u2, V.ref u3, V.ref u4, V.ref u5, V.ref u6, V.ref u7, V.ref u8, V.ref u9])) (by walk_at "mem")))) (show atI [V.ref u0, V.ref u1, V.ref u2, V.ref u3, V.ref u4, V.ref u5, V.ref u6, V.ref u7, V.ref u8, V.ref u9] ((8 : Nat) : Int) = some (.ref u8) from rfl) ?_
      walk_at "go"
      refine n_tup w (szle (by simp)) fun t F3 H3 w => ?_
      exact q t _ _ _ _ (w.to (by walk_at "pick"))
    · refine w_ixL _ _ (sqL_same w.fh (sqL_of (K := K) (w.i (fx p3 (.lst [V.ref u0, V.ref u1, V.ref u2, V.ref u3, V.ref u4, V.ref u5, V.ref u6, V.ref u7, V.ref u8, V.ref u9])) (by walk_at "mem")))) (show atI [V.ref u0, V.ref u1, V.ref u2, V.ref u3, V.ref u4, V.ref u5, V.ref u6, V.ref u7, V.ref u8, V.ref u9] ((9 : Nat) : Int) = some (.ref u9) from rfl) ?_
      walk_at "go"
      refine n_tup w (szle (by simp)) fun t F3 H3 w => ?_
      exact q t _ _ _ _ (w.to (by walk_at "pick"))
-- _law_spoilt
theorem ok_law_spoilt {f : Addr} {fd : FuncData} (F : FunD K "_law_spoilt" "_law_spoilt" (defArgs s_law_spoilt) (defBody s_law_spoilt) (defScope s_law_spoilt) [] [] f fd) (T : Txt K mg) (D_law_copy_bent : DO P w K mg base 3 "_law_copy_bent" ["bag", "size", "row"] [] (S3 (φcopybent01 K))) (D_law_draw : DO P w K mg base 2 "_law_draw" ["bag", "many"] [] (S2 (φdraw K))) (D_law_size_spoilt : DO P w K mg base 3 "_law_size_spoilt" ["bag", "size", "rows"] [] (S3 (φsizesp01 K))) (D_law_text : DO P w K mg base 3 "_law_text" ["bag", "size"] [] (S2 (φtextN K))) : FnOk P w K mg base CX0 4 f fd ["bag", "size", "rows"] (S3 (φspoilt01 K)) := by
  refine F.ok sc_law_spoilt (fun vs H Q E h => ?_) (fun cdv A outer s H vs Q E hr h => ?_)
  · exact S3.len h
  · match vs, h with
    | [v0, v1, v2], h =>
    have hu := hu_of hr
    refine ⟨_, PSs.nox (pss_cons (ps_set (i := 3) sc_law_spoilt.nd rfl (.inl rfl) (pcall D_law_draw hr (pa_cons (pv 0) (pa_cons pe_int pa_nil))))
      (pss_cons (ps_if (pt_cmpR op_eq (pv 3) pe_int (nomark _)) (pss_one (ps_ret (pcall D_law_size_spoilt hr (pa_cons (pv 0) (pa_cons (pv 1) (pa_cons (pv 2) pa_nil)))))) pss_nil)
      (pss_cons (ps_set (i := 4) sc_law_spoilt.nd rfl (.inl rfl) (pcall D_law_draw hr (pa_cons (pv 0) (pa_cons (pe_op op_add (pe_callB (clLenQ (K := K)) (by rfl) T.b_len (by decide +kernel) (pa_cons (pv 2) pa_nil)) pe_int) pa_nil))))
      (pss_cons (ps_setLc (i := 5) (own := [("k", 6)]) (g := gName 6) rfl sc_law_spoilt.nd rfl rfl (sw_true rfl rfl rfl (by decide +kernel)) (pi_range1 rfl T.b_range (pa_cons (pe_callB (clLenQ (K := K)) (by rfl) T.b_len (by decide +kernel) (pa_cons (pv 2) pa_nil)) pa_nil)) (blkOk_by (own := [("k", 6)]) (N := ["bag", "size", "rows", "way", "at", "copies", "k", "row"]) (sc := defScope s_law_spoilt) (by decide +kernel)) (fun _ _ _ _ _ => pg_name (i := 6) sc_law_spoilt.nd rfl (Or.inl rfl)) (fun _ _ _ _ _ => pts_one (pt_cmpR op_eq (pe_ix (ixT (K := K)) (pe_ix (ixL (K := K)) (pv 2) (pv 6) (fun _ _ => rfl)) pe_int (fun _ _ => rfl)) pe_str (nomark _))) (fun _ _ _ _ _ => (pv 6)))
      (C8.pss_cut (ps_if (PW.pt (pw_and (pt_cmpR op_lt (pv 3) pe_int (nomark _)) (pw_and1 (pt_cmpR (opNeD (K := K) hr.units) (pv 5) (pe_lst pa_nil) (nomark _))))) (pss_cons (ps_set (i := 6) sc_law_spoilt.nd rfl (.inl rfl) (pe_ix (ixL (K := K)) (pv 5) (pcall D_law_draw hr (pa_cons (pv 0) (pa_cons (pe_callB (clLenQ (K := K)) (by rfl) T.b_len (by decide +kernel) (pa_cons (pv 5) pa_nil)) pa_nil))) (fun _ _ => rfl)))
      (pss_one (ps_ret (pe_tup (pa_cons (pv 1) (pa_cons (pe_op op_cat (pe_op op_cat (pe_slice (slL (K := K)) (pv 2) po_none (po_some (pv 6))) (pe_lst (pa_cons (pcall D_law_copy_bent hr (pa_cons (pv 0) (pa_cons (pv 1) (pa_cons (pe_ix (ixL (K := K)) (pv 2) (pv 6) (fun _ _ => rfl)) pa_nil)))) pa_nil))) (pe_slice (slL (K := K)) (pv 2) (po_some (pe_op op_add (pv 6) pe_int)) po_none)) pa_nil)))))) pss_nil)
      (C8.pss_cut (ps_set (i := 7) sc_law_spoilt.nd rfl (.inl rfl) (pe_ix (ixL (K := K)) (pe_lst (pa_cons (pe_tup (pa_cons pe_str (pa_cons pe_str pa_nil))) (pa_cons (pe_tup (pa_cons pe_str (pa_cons (pcall D_law_text hr (pa_cons (pv 0) (pa_cons pe_int pa_nil))) pa_nil))) (pa_cons (pe_tup (pa_cons pe_str (pa_cons pe_int (pa_cons (pv 1) pa_nil)))) pa_nil)))) (pcall D_law_draw hr (pa_cons (pv 0) (pa_cons pe_int pa_nil))) (fun _ _ => rfl)))
      (pss_one (ps_ret (pe_tup (pa_cons (pv 1) (pa_cons (pe_op op_cat (pe_op op_cat (pe_slice (slL (K := K)) (pv 2) po_none (po_some (pv 4))) (pe_lst (pa_cons (pv 7) pa_nil))) (pe_slice (slL (K := K)) (pv 2) (po_some (pv 4)) po_none)) pa_nil))))))))))), ?_⟩
    rw [show start ["bag", "size", "rows", "way", "at", "copies", "k", "row"] [v0, v1, v2] = [some v0, some v1, some v2, none, none, none, none, none] from rfl]
    obtain ⟨F, b, a, vs, size, rows, rfl, rfl, rfl, s0, hS, hD, hl, hs, q⟩ := h
    have w := ((s0.w (M := [b])).push (imL K a vs) hS).push (dpa K vs (rows.map XRow.d)) hD
    have hvl : vs.length = rows.length := by rw [dpa_len hD, List.length_map]
    walk_at "go"
    refine n_draw w (by walk_at "pick") (by decide) (by decide) fun way F1 H1 w r0 r1 => ?_
    walk_at "go"
    by_cases h0 : way = 0
    · rw [decide_eq_true h0]
      walk_at "go"
      refine ⟨_, b, a, vs, size, rows, rfl, rfl, rfl, w.st (by walk_at "pick"), w.imL (by walk_at "mem"), w.dpa (by walk_at "mem"), by omega, fun t s2 F2 H2 w2 => ?_⟩
      replace w := w.calB (by walk_at "pick") w2 (by walk_at "app")
      exact q t a vs s2 rows _ _ (w.to (by walk_at "pick")) (by omega) hs
    rw [decide_eq_false h0]
    walk_at "go"
    refine n_draw w (by walk_at "pick") (by omega) (by omega) fun r5 F1 H1 w r50 r51 => ?_
    obtain ⟨at_, rfl⟩ : ∃ at_ : Nat, r5 = (at_ : Nat) := ⟨r5.toNat, by omega⟩
    walk_at "go"
    refine n_lcR w (fun j ys L => ∃ ks : List Nat, ys = ks.map (fun (k : Nat) => V.int (k : Nat)) ∧ ks.length ≤ j ∧ (∀ k ∈ ks, ∃ a2 n2, rows[k]? = some (.copy a2 n2)) ∧ L = [bag K b, imL K a vs, dpa K vs (rows.map XRow.d)]) ⟨[], rfl, Nat.le_refl _, (fun _ h => nomatch h), rfl⟩ (fun j ys L F' H' D hj hp w hD => ?_) (fun D3 ys L F' H' hp w hD3 => ?_)
    · obtain ⟨ks, rfl, hkl, hks, rfl⟩ := hp
      have hj : j < vs.length := by omega
      obtain ⟨r, hr⟩ : ∃ r, rows[j]? = some r := ⟨_, List.getElem?_eq_getElem (by omega)⟩
      obtain ⟨y, hy, dy⟩ := dpa_get (w.dpa (K := K) (xs := vs) (ds := rows.map XRow.d) (by walk_at "mem")) (show (rows.map XRow.d)[j]? = some r.d by rw [List.getElem?_map, hr]; rfl)
      walk_at "wp"
      cases r with
      | put s =>
        obtain ⟨p, rfl, hT⟩ := dp_xput dy
        replace w := w.push (imT K p [.str "put", .str s]) hT
        walk_at "go"
        refine w_ixL _ _ (by walk_at "sq") (atI_nat hy) ?_
        walk_at "go"
        exact ⟨_, _, _, ⟨ks, rfl, by omega, hks, rfl⟩, w.to (by walk_at "pick")⟩
      | copy a2 n2 =>
        obtain ⟨p, rfl, hT⟩ := dp_xcopy dy
        replace w := w.push (imT K p [.str "copy", .int a2, .int n2]) hT
        walk_at "go"
        refine w_ixL _ _ (by walk_at "sq") (atI_nat hy) ?_
        walk_at "go"
        refine n_acc _ w ⟨ks ++ [j], by rw [List.map_append]; rfl, by rw [List.length_append]; exact Nat.succ_le_succ hkl, fun k hk => ?_, rfl⟩ (by walk_at "pk") (small_lt (by rw [List.length_map]; omega))
        rcases List.mem_append.mp hk with hk | hk
        · exact hks k hk
        · rw [List.mem_singleton.mp hk]; exact ⟨_, _, hr⟩
    obtain ⟨ks, rfl, hkl, hks, rfl⟩ := hp
    walk_at "go"
    have w := w.to (D := [mu D3 (.lst (ks.map fun (k : Nat) => V.int (k : Nat))), bag K b, imL K a vs, dpa K vs (rows.map XRow.d)]) (by walk_at "pick")
    refine n_cut w (fun σ L => ∃ (y6 : Option V), σ = [some (.ref b), some (.int size), some (.ref a), some (.int way), some (.int (at_ : Nat)), some (.ref D3), y6, none] ∧ L = [bag K b, imL K a vs, dpa K vs (rows.map XRow.d)]) ?_ (fun σ L F' H' hp w => ?_)
    · walk_at "go"
      by_cases h4 : way < 4
      · rw [decide_eq_true h4]
        walk_at "go"
        refine n_lst w (szle (by simp)) fun p9 F9 H9 w hp9 => ?_
        refine n_neX (ks := ks) (by walk_at "sq") (by walk_at "sq") (by omega) ?_
        by_cases hke : ks = []
        · rw [decide_eq_true hke]
          walk_at "go"
          exact nx_mk w ⟨_, rfl, rfl⟩ (by walk_at "pk")
        · rw [decide_eq_false hke]
          have hk0 : 0 < ks.length := List.length_pos_iff.mpr hke
          walk_at "go"
          rw [List.length_map]
          refine n_draw w (by walk_at "pick") (by omega) (by omega) fun r6 F1 H1 w r60 r61 => ?_
          obtain ⟨rk, rfl⟩ : ∃ rk : Nat, r6 = (rk : Nat) := ⟨r6.toNat, by omega⟩
          have hrk : rk < ks.length := by omega
          obtain ⟨k, ek⟩ : ∃ k, ks[rk]? = some k := ⟨_, List.getElem?_eq_getElem hrk⟩
          obtain ⟨a2, n2, hr⟩ := hks k (List.mem_of_getElem? ek)
          have hkr := (List.getElem?_eq_some_iff.mp hr).1
          obtain ⟨y, hy, dy⟩ := dpa_get (w.dpa (K := K) (xs := vs) (ds := rows.map XRow.d) (by walk_at "mem")) (show (rows.map XRow.d)[k]? = some (XRow.copy a2 n2).d by rw [List.getElem?_map, hr]; rfl)
          obtain ⟨p, rfl, hT⟩ := dp_xcopy dy
          replace w := w.push (imT K p [.str "copy", .int a2, .int n2]) hT
          walk_at "go"
          refine w_ixL _ _ (by walk_at "sq") (atI_nat (show (ks.map fun (k : Nat) => V.int (k : Nat))[rk]? = some (.int (k : Nat)) by rw [List.getElem?_map, ek]; rfl)) ?_
          walk_at "go"
          refine n_slL w (by walk_at "sq") fun s1 F1 H1 w hs1 => ?_
          rw [cut_to_V] at w
          walk_at "go"
          refine w_ixL _ _ (by walk_at "sq") (atI_nat hy) ?_
          walk_at "go"
          refine ⟨_, b, p, size, a2, n2, rfl, rfl, rfl, w.st (by walk_at "pick"), w.imT (by walk_at "mem"), fun t2 a3 n3 F2 H2 w2 => ?_⟩
          replace w := w.calB (by walk_at "pick") w2 (by walk_at "app")
          walk_at "go"
          refine n_lst w (szle (by simp)) fun s2 F1 H1 w hs2 => ?_
          walk_at "go"
          refine n_cat (p := s1) (q := s2) w (by walk_at "at") (by walk_at "at") (szle (by rw [List.length_take]; show _ + 1 ≤ _; omega)) fun s3 F1 H1 w hs3 => ?_
          walk_at "go"
          rw [show ((k : Nat) : Int) + 1 = ((k + 1 : Nat) : Int) by omega]
          refine n_slL w (by walk_at "sq") fun s4 F1 H1 w hs4 => ?_
          rw [cut_from_V] at w
          walk_at "go"
          refine n_cat (p := s3) (q := s4) w (by walk_at "at") (by walk_at "at") (szle (by rw [List.length_append, List.length_take, List.length_drop]; show _ + 1 + _ ≤ _; omega)) fun s5 F1 H1 w hs5 => ?_
          obtain ⟨F9, w⟩ := w.fzL (p := s5) (by walk_at "pick") hs5
          have d9 : Dp K F9 (.ref t2) (XRow.copy a3 n3).d := dp_xcopy' (sqT_of (w.i (fx t2 _) (by walk_at "mem")))
          have d1 := w.dpa (K := K) (xs := vs) (ds := rows.map XRow.d) (by walk_at "mem")
          have d2 := dpa_app (dpa_app (dpa_takeN (k) d1) (.cons d9 .nil)) (dpa_dropN (k + 1) d1)
          rw [← List.map_take, ← List.map_drop, show [(XRow.copy a3 n3).d] = [(XRow.copy a3 n3)].map XRow.d from rfl, ← List.map_append, ← List.map_append] at d2
          replace w := (w.push (imL K s5 (vs.take (k) ++ [V.ref t2] ++ vs.drop (k + 1))) (sqL_of (w.i (fx s5 (.lst (vs.take (k) ++ [V.ref t2] ++ vs.drop (k + 1)))) (by walk_at "mem")))).push (dpa K (vs.take (k) ++ [V.ref t2] ++ vs.drop (k + 1)) ((rows.take (k) ++ [(XRow.copy a3 n3)] ++ rows.drop (k + 1)).map XRow.d)) d2
          walk_at "go"
          refine n_tup w (szle (by simp)) fun t F3 H3 w => ?_
          refine q t s5 _ size _ _ _ (w.to (by walk_at "pick")) (by rw [List.length_append, List.length_append, List.length_take, List.length_drop]; show _ + 1 + _ ≤ _; omega) fun r hr => ?_
          rcases List.mem_append.mp hr with hr | hr
          · rcases List.mem_append.mp hr with hr | hr
            · exact hs r (List.mem_of_mem_take hr)
            · rw [List.mem_singleton.mp hr]; exact trivial
          · exact hs r (List.mem_of_mem_drop hr)
      · rw [decide_eq_false h4]
        walk_at "go"
        exact nx_mk w ⟨_, rfl, rfl⟩ (by walk_at "pk")
    obtain ⟨y6, rfl, rfl⟩ := hp
    walk_at "go"
    refine n_cut w (fun σ L => ∃ (pr : Addr) (R : XRow), σ = [some (.ref b), some (.int size), some (.ref a), some (.int way), some (.int (at_ : Nat)), some (.ref D3), y6, some (.ref pr)] ∧ R.sOk ∧ L = [dat K (.ref pr) R.d, bag K b, imL K a vs, dpa K vs (rows.map XRow.d)]) ?_ (fun σ L F' H' hp w => ?_)
    · walk_at "go"
      refine n_tup w (szle (by simp)) fun u0 F1 H1 w => ?_
      walk_at "go"
      refine ⟨_, b, 400, rfl, rfl, w.st (by walk_at "pick"), by omega, by omega, fun s F2 H2 w2 hsl oks => ?_⟩
      replace w := w.calB (by walk_at "pick") w2 (by walk_at "app")
      walk_at "go"
      refine n_tup w (szle (by simp)) fun u1 F1 H1 w => ?_
      walk_at "go"
      refine n_tup w (szle (by simp)) fun u2 F1 H1 w => ?_
      walk_at "go"
      refine n_lst w (szle (by simp)) fun p1 F1 H1 w hp1 => ?_
      obtain ⟨F1, w⟩ := w.fzL (p := p1) (by walk_at "pick") hp1
      walk_at "go"
      refine n_draw w (by walk_at "pick") (by decide) (by decide) fun r7 F1 H1 w r70 r71 => ?_
      obtain ⟨wy, rfl⟩ : ∃ wy : Nat, r7 = (wy : Int) := ⟨r7.toNat, by omega⟩
      rcases (show wy = 0 ∨ wy = 1 ∨ wy = 2 by omega) with rfl | rfl | rfl
      · refine w_ixL _ _ (sqL_same w.fh (sqL_of (K := K) (w.i (fx p1 (.lst [V.ref u0, V.ref u1, V.ref u2])) (by walk_at "mem")))) (show atI [V.ref u0, V.ref u1, V.ref u2] ((0 : Nat) : Int) = some (.ref u0) from rfl) ?_
        walk_at "go"
        replace w := w.push (dat K (.ref u0) (XRow.put (Str.ofString "")).d) (dp_xput' (sqT_of (w.i (fx u0 _) (by walk_at "mem"))))
        exact nx_mk w ⟨u0, .put (Str.ofString ""), rfl, ⟨by decide +kernel, by decide +kernel⟩, rfl⟩ (by walk_at "pk")
      · refine w_ixL _ _ (sqL_same w.fh (sqL_of (K := K) (w.i (fx p1 (.lst [V.ref u0, V.ref u1, V.ref u2])) (by walk_at "mem")))) (show atI [V.ref u0, V.ref u1, V.ref u2] ((1 : Nat) : Int) = some (.ref u1) from rfl) ?_
        walk_at "go"
        replace w := w.push (dat K (.ref u1) (XRow.put s).d) (dp_xput' (sqT_of (w.i (fx u1 _) (by walk_at "mem"))))
        exact nx_mk w ⟨u1, .put s, rfl, ⟨oks, by omega⟩, rfl⟩ (by walk_at "pk")
      · refine w_ixL _ _ (sqL_same w.fh (sqL_of (K := K) (w.i (fx p1 (.lst [V.ref u0, V.ref u1, V.ref u2])) (by walk_at "mem")))) (show atI [V.ref u0, V.ref u1, V.ref u2] ((2 : Nat) : Int) = some (.ref u2) from rfl) ?_
        walk_at "go"
        replace w := w.push (dat K (.ref u2) (XRow.copy 0 size).d) (dp_xcopy' (sqT_of (w.i (fx u2 _) (by walk_at "mem"))))
        exact nx_mk w ⟨u2, .copy 0 size, rfl, trivial, rfl⟩ (by walk_at "pk")
    obtain ⟨t2, R, rfl, hRs, rfl⟩ := hp
    walk_at "go"
    refine n_slL w (by walk_at "sq") fun s1 F1 H1 w hs1 => ?_
    rw [cut_to_V] at w
    walk_at "go"
    refine n_lst w (szle (by simp)) fun s2 F1 H1 w hs2 => ?_
    walk_at "go"
    refine n_cat (p := s1) (q := s2) w (by walk_at "at") (by walk_at "at") (szle (by rw [List.length_take]; show _ + 1 ≤ _; omega)) fun s3 F1 H1 w hs3 => ?_
    walk_at "go"
    refine n_slL w (by walk_at "sq") fun s4 F1 H1 w hs4 => ?_
    rw [cut_from_V] at w
    walk_at "go"
    refine n_cat (p := s3) (q := s4) w (by walk_at "at") (by walk_at "at") (szle (by rw [List.length_append, List.length_take, List.length_drop]; show _ + 1 + _ ≤ _; omega)) fun s5 F1 H1 w hs5 => ?_
    obtain ⟨F9, w⟩ := w.fzL (p := s5) (by walk_at "pick") hs5
    have d9 : Dp K F9 (.ref t2) R.d := w.dat (by walk_at "mem")
    have d1 := w.dpa (K := K) (xs := vs) (ds := rows.map XRow.d) (by walk_at "mem")
    have d2 := dpa_app (dpa_app (dpa_takeN (at_) d1) (.cons d9 .nil)) (dpa_dropN (at_) d1)
    rw [← List.map_take, ← List.map_drop, show [R.d] = [R].map XRow.d from rfl, ← List.map_append, ← List.map_append] at d2
    replace w := (w.push (imL K s5 (vs.take (at_) ++ [V.ref t2] ++ vs.drop (at_))) (sqL_of (w.i (fx s5 (.lst (vs.take (at_) ++ [V.ref t2] ++ vs.drop (at_)))) (by walk_at "mem")))).push (dpa K (vs.take (at_) ++ [V.ref t2] ++ vs.drop (at_)) ((rows.take (at_) ++ [R] ++ rows.drop (at_)).map XRow.d)) d2
    walk_at "go"
    refine n_tup w (szle (by simp)) fun t F3 H3 w => ?_
    refine q t s5 _ size _ _ _ (w.to (by walk_at "pick")) (by rw [List.length_append, List.length_append, List.length_take, List.length_drop]; show _ + 1 + _ ≤ _; omega) fun r hr => ?_
    rcases List.mem_append.mp hr with hr | hr
    · rcases List.mem_append.mp hr with hr | hr
      · exact hs r (List.mem_of_mem_take hr)
      · rw [List.mem_singleton.mp hr]; exact hRs
    · exact hs r (List.mem_of_mem_drop hr)
-- _law_field
theorem ok_law_field {f : Addr} {fd : FuncData} (F : FunD K "_law_field" "_law_field" (defArgs s_law_field) (defBody s_law_field) (defScope s_law_field) [] [] f fd) (T : Txt K mg)  (DXI_BadRow : DXI P w K mg base 1 "BadRow" "row" ["self", "row"]) : FnOk P w K mg base CX0 3 f fd ["number"] (S1 (φfield01 K)) := by
  refine F.ok sc_law_field (fun vs H Q E h => ?_) (fun cdv A outer s H vs Q E hr h => ?_)
  · exact S1.len h
  · match vs, h with
    | [v0], h =>
    have hu := hu_of hr
    refine' ⟨_, PSs.nox (pss_cons (ps_set (i := 1) sc_law_field.nd rfl (.inl rfl) pe_non)
      (pss_cons (ps_tryA (i := 2) T.x_BadRow.g sc_law_field.nd rfl rfl rfl rfl rfl ?tr1 (fun a oe cls d pn hz hf => (pss_one (ps_set (i := 1) sc_law_field.nd rfl (.inl rfl) (pe_xff T.x_BadRow hz hf (pv 2))))))
      (pss_one (ps_ret (pv 1))))), ?_⟩
    case tr1 => exact fun _ _ _ tk => (pss_one (ps_raiseFK (K := K) xb_ValueError rfl T.x_BadRow DXI_BadRow hr tk (pa_cons (pv 0) pa_nil)))
    rw [show start ["number", "found", "e"] [v0] = [some v0, none, none] from rfl]
    obtain ⟨F, i, rfl, hw, q⟩ := h
    have w := W.start (M := []) hw
    walk_at "go"
    refine ⟨_, rfl, fun d hd => ?_⟩
    replace w := (w.im (u := .xd [("row", .int i)]) hd).push (fx d (.xd [("row", .int i)])) upd_same
    refine w_caughtA T.x_BadRow.m fun xa hxa => ?_
    try dsimp only [List.set_cons_succ, List.set_cons_zero]
    walk_at "go"
    refine n_xf (f := "row") (v := .int i) (by walk_at "at") (by rfl) ?_
    walk_at "go"
    try dsimp only [List.set_cons_succ, List.set_cons_zero]
    walk_at "go"
    exact q _ _ (w.to .nil)
-- _law_stays
theorem ok_law_stays {f : Addr} {fd : FuncData} (F : FunD K "_law_stays" "_law_stays" (defArgs s_law_stays) (defBody s_law_stays) (defScope s_law_stays) [] [] f fd) (T : Txt K mg) (D_law_alike : DO P w K mg base 6 "_law_alike" ["found", "due"] [] (S2 (φalike K 6))) (D_law_cells : DO P w K mg base 1 "_law_cells" ["rows"] [] (S1 (φlcells K))) (D_law_done : DO P w K mg base 1 "_law_done" ["cells", "old"] [] (S2 (φldone K))) (DM_ChangeX_eqX : DM P w K mg base 6 "Change" "__eq__" ["self", "other"] [] (S2 (φceq K))) (DM_ChangeX_lenX : DM P w K mg base 1 "Change" "__len__" ["self"] [] (S1 (φclen K))) (DM_ChangeX_strX : DM P w K mg base 2 "Change" "__str__" ["self"] [] (S1 (φstr K))) (DM_Change_cells : DM P w K mg base 1 "Change" "cells" ["self"] [] (S1 (φcells K))) (DM_Change_done : DM P w K mg base 2 "Change" "done" ["self", "old"] [] (S2 (φdoneC K))) (DN_Change_2 : DN P w K mg base 2 "Change" ["self", "size", "rows"] [] (S3 (φinit K))) : FnOk P w K mg base CX0 10 f fd ["found", "size", "rows", "old"] (S4 (φstays01 K)) := by
  refine F.ok sc_law_stays (fun vs H Q E h => ?_) (fun cdv A outer s H vs Q E hr h => ?_)
  · exact S4.len h
  · match vs, h with
    | [v0, v1, v2, v3], h =>
    have hu := hu_of hr
    refine ⟨_, PSs.nox (pss_cons (ps_set (i := 4) sc_law_stays.nd rfl (.inl rfl) (pcall D_law_cells hr (pa_cons (pv 2) pa_nil)))
      (pss_cons (ps_set (i := 5) sc_law_stays.nd rfl (.inl rfl) (pe_op opAddS pe_str (pe_callTy call_str_int (by rfl) T.b_str (by decide +kernel) (pa_cons (pv 1) pa_nil))))
      (pss_cons (ps_for PassesOwn.never rfl (pi_list (pv 2)) (pg_name (i := 6) sc_law_stays.nd rfl (.inl rfl)) (pss_one (ps_set (i := 5) sc_law_stays.nd rfl (.inl rfl) (pe_op opAddS (pe_op opAddS (pv 5) pe_str) (peJoin (K := K) pe_str (pe_lc (own := [("part", 7)]) (g := gName 7) rfl sc_law_stays.nd (pi_tup (pv 6)) (blkOk_by (own := [("part", 7)]) (N := ["found", "size", "rows", "old", "cells", "written", "row", "part"]) (sc := defScope s_law_stays) (by decide +kernel)) (fun _ _ _ _ _ => pg_name (i := 7) sc_law_stays.nd rfl (Or.inl rfl)) (fun _ _ _ _ _ => pts_nil) (fun _ _ _ _ _ => (pe_callTy clStrQ (by rfl) T.b_str (by decide +kernel) (pa_cons (pv 7) pa_nil)))))))))
      (pss_cons (ps_if (PW.pt (pw_or (pt_not (pt_val (pcall D_law_alike hr (pa_cons (peFld (K := K) (pv 0)) (pa_cons (pv 1) pa_nil))))) (pw_or (pt_not (pt_val (pcall D_law_alike hr (pa_cons (peFld (K := K) (pv 0)) (pa_cons (pv 2) pa_nil))))) (pw_or1 (pt_not (pt_val (pcall D_law_alike hr (pa_cons (pe_callTy (clStrO DM_ChangeX_strX hr (by decide)) (by rfl) T.b_str (by decide +kernel) (pa_cons (pv 0) pa_nil)) (pa_cons (pv 5) pa_nil))))))))) (pss_one (ps_ret pe_bl)) pss_nil)
      (pss_cons (ps_if (PW.pt (pw_or (pt_not (pt_val (pcall D_law_alike hr (pa_cons (pmeth0 DM_Change_cells hr (pv 0)) (pa_cons (pv 4) pa_nil))))) (pw_or1 (pt_not (pt_val (pcall D_law_alike hr (pa_cons (pmeth DM_Change_done hr (pv 0) (pa_cons (pv 3) pa_nil)) (pa_cons (pcall D_law_done hr (pa_cons (pv 4) (pa_cons (pv 3) pa_nil))) pa_nil)))))))) (pss_one (ps_ret pe_bl)) pss_nil)
      (pss_one (ps_ret (pe_and (pcall D_law_alike hr (pa_cons (pe_callB (clLenO DM_ChangeX_lenX hr (by decide)) (by rfl) T.b_len (by decide +kernel) (pa_cons (pv 0) pa_nil)) (pa_cons (pe_callB (clLenQ (K := K)) (by rfl) T.b_len (by decide +kernel) (pa_cons (pv 2) pa_nil)) pa_nil))) (pe_one (pe_cmpR op_isBl (pe_cmpR (opEqO DM_ChangeX_eqX hr (by decide)) (pv 0) (pmake DN_Change_2 hr (pa_cons (pv 1) (pa_cons (pe_callTy (clListOf (K := K)) (by rfl) T.b_list (by decide +kernel) (pa_cons (pv 2) pa_nil)) pa_nil))) (nomark _)) pe_bl (nomark _))))))))))), ?_⟩
    rw [show start ["found", "size", "rows", "old", "cells", "written", "row", "part"] [v0, v1, v2, v3] = [some v0, some v1, some v2, some v3, none, none, none, none] from rfl]
    have kC := T.k_Change
    have kS := T.na_Change_size
    have kR := T.na_Change_rows
    
    obtain ⟨F, a, vs, o, rows, rfl, rfl, rfl, hw, hC, hok, hn, oko, hS, hD, q⟩ := h
    have hC0 := hC
    obtain ⟨c, dx, r, us, rfl, hc, hr', hE⟩ := hC
    have w := (((W.start (M := []) hw).push (fx c _) hc).push (chg K (.ref c) o.length rows) hC0)
    replace w := (((w.push (imL K a vs) hS).push (dpa K vs (rows.map CRow.d)) hD).push (fx r (.lst us)) hr').push (dpa K us (rows.map CRow.d)) hE
    unfold insC at w
    have hrl := hok.len
    have hvl : vs.length = rows.length := by rw [dpa_len hD, List.length_map]
    have nn := num_ok hn
    have ln := nn.2
    obtain ⟨cs, ecs⟩ : ∃ cs, cs = celsL rows := ⟨_, rfl⟩
    have csk : ∀ c ∈ cs, c.ok o.length := by rw [ecs]; exact cels_ok hok.ok
    have csl : cs.length ≤ 400 := by rw [ecs, cels_len]; exact hok.sum
    have cg := cels_good csk (by omega)
    have gok := crows_good (fun m hm => (hok.ok m hm).s) (show rows.length ≤ 100000 by omega)
    walk_at "go"
    refine ⟨_, a, vs, o.length, rows, rfl, w.fh, w.imL (by walk_at "mem"), w.dpa (K := K) (xs := vs) (by walk_at "mem"), hok, fun p1 F6 H6 h_p1 w6 => ?_⟩
    have h_p1' := w.g.fresh h_p1
    replace w := w.cal .nil w6 (by walk_at "app")
    rw [cels_v] at w
    obtain ⟨F6, w⟩ := w.fzL (p := p1) (by walk_at "pick") h_p1'
    walk_at "go"
    rw [← ecs] at w
    have w := w.to (D := [imL K a vs, dpa K vs (rows.map CRow.d), fx p1 (.lst (cs.map Cel.v)), fx c (.ins (He.ga K "Change") dx [("size", .int (o.length : Nat)), ("rows", .ref r)]), chg K (.ref c) o.length rows, fx r (.lst us), dpa K us (rows.map CRow.d)]) (by walk_at "pick")
    refine ⟨_, rfl, num_log hn, ?_⟩
    refine n_adds (szle (show (Str.ofString "size ").length + (numS o.length).length ≤ 1000000 by rw [slen_size]; omega)) ?_
    walk_at "go"
    refine n_forL vs w (fun i σ L => ∃ f y3, σ = [some (.ref c), some (.int (o.length : Nat)), some (.ref a), some (.str o), some (.ref p1), some (.str f), y3, none] ∧ cd f = (cd (Str.ofString "size ") ++ cd (numS o.length)) ++ rowsW (rows.take i) ∧ L = [imL K a vs, dpa K vs (rows.map CRow.d), fx p1 (.lst (cs.map Cel.v)), fx c (.ins (He.ga K "Change") dx [("size", .int (o.length : Nat)), ("rows", .ref r)]), chg K (.ref c) o.length rows, fx r (.lst us), dpa K us (rows.map CRow.d)]) ⟨_, none, rfl, ?_, rfl⟩ (fun i σ L F' H' hp w => ?_) (fun i x σ L F' H' hx hp w => ?_) (fun σ L F' H' hp w => ?_)
    · rw [cd_app]
      show _ = _ ++ []
      rw [List.append_nil]
      rfl
    · obtain ⟨f, y3, rfl, hf, rfl⟩ := hp
      walk_at "sq"
    · obtain ⟨f, y3, rfl, hf, rfl⟩ := hp
      obtain ⟨m, hm, dm⟩ := dpa_at (w.dpa (K := K) (xs := vs) (ds := rows.map CRow.d) (by walk_at "mem")) hx
      have mo := hok.ok m (List.mem_of_getElem? hm)
      have hg : m.gives ≤ 400 := Nat.le_trans (row_le (List.mem_of_getElem? hm)) hok.sum
      have lf : f.length ≤ 6100 := by
        rw [← cd_len, hf, List.length_append, List.length_append, len_size, cd_len]
        have := rowsW_le hn hok i
        omega
      obtain ⟨pm, rfl, hT⟩ := dp_row dm
      have hT := sqT_same (K := K) w.fh hT
      replace w := w.push (imT K pm m.vals) (by obtain ⟨pm2, e, hT2⟩ := dp_row dm; cases e; exact hT2)
      walk_at "go"
      refine n_adds (szle (show f.length + (Str.ofString "\n").length ≤ 1000000 by rw [slen_nl]; omega)) ?_
      walk_at "go"
      refine n_lcT m.vals w (fun j ys L => ys = ((rowS m).take j).map V.str ∧ L = [imT K pm m.vals, imL K a vs, dpa K vs (rows.map CRow.d), fx p1 (.lst (cs.map Cel.v)), fx c (.ins (He.ga K "Change") dx [("size", .int (o.length : Nat)), ("rows", .ref r)]), chg K (.ref c) o.length rows, fx r (.lst us), dpa K us (rows.map CRow.d)]) ⟨rfl, rfl⟩ (fun j ys L F H D h w => by obtain ⟨rfl, rfl⟩ := h; walk_at "st") (fun j x ys L F2 H2 D hx2 hp w hDn => ?_) (fun D ys L F2 H2 hp w hDn => ?_)
      · obtain ⟨rfl, rfl⟩ := hp
        obtain ⟨s, hs, hk⟩ := rowS_at mo hn hx2
        walk_at "wp"
        walk_at "go"
        have fin : accG D (NxC [] F H (fun ys L => ys = ((rowS m).take (j + 1)).map V.str ∧ L = [imT K pm m.vals, imL K a vs, dpa K vs (rows.map CRow.d), fx p1 (.lst (cs.map Cel.v)), fx c (.ins (He.ga K "Change") dx [("size", .int (o.length : Nat)), ("rows", .ref r)]), chg K (.ref c) o.length rows, fx r (.lst us), dpa K us (rows.map CRow.d)]) D) (.str s) H2 := by
          refine n_acc _ w ⟨?_, rfl⟩ (by walk_at "pk") (small_lt (by rw [List.length_map, List.length_take]; have := (List.getElem?_eq_some_iff.mp hs).1; have h9 := rowS_le m; omega))
          rw [List.take_add_one, hs, List.map_append]
          rfl
        rcases hk with rfl | ⟨k, hk, rfl, rfl⟩
        · refine .inl ⟨s, rfl, ?_⟩
          exact fin
        · refine .inr ⟨_, rfl, num_log hk, ?_⟩
          exact fin
      · obtain ⟨rfl, rfl⟩ := hp
        rw [List.take_of_length_le (by rw [rowS_vals]; exact Nat.le_refl _)] at w
        refine ⟨_, D, rowS m, rfl, rfl, .inl (by walk_at "sq"), rowS_len mo hn hg, ?_⟩
        have ej := rowS_join m
        have lj : (Txt.join (Str.ofString " ") (rowS m)).length ≤ 412 := by
          rw [← cd_len, ej]
          have := row_len mo hn
          omega
        refine n_adds (szle (by rw [len_app, slen_nl]; omega)) ?_
        walk_at "go"
        refine nx_mk w ⟨_, _, rfl, ?_, rfl⟩ (by walk_at "pk")
        rw [cd_app, cd_app, hf, rowsW_take hm, nl_cd, ej]
        simp
    obtain ⟨f, y3, rfl, hf, rfl⟩ := hp
    rw [hvl, List.take_length] at hf
    have hff : cd f = writL o.length rows := hf
    have okf := writ_ok hn hok hff
    walk_at "go"
    refine ⟨_, .int (o.length : Nat), w.fh, .int _, .int _, by show (0 : Nat) < 6; decide, rfl, fun F9 H9 g9 => ?_⟩
    replace w := w.gr0 g9
    walk_at "go"
    refine ⟨_, .list (rows.map CRow.d), w.fh, .lst (sqL_of (w.i (fx r (.lst us)) (by walk_at "mem"))) (w.dpa (K := K) (xs := us) (by walk_at "mem")), .lst (w.imL (by walk_at "mem")) (w.dpa (K := K) (xs := vs) (by walk_at "mem")), Nat.lt_of_le_of_lt gok.2 (by decide), gok.1, fun F9 H9 g9 => ?_⟩
    replace w := w.gr0 g9
    walk_at "go"
    refine n_strO (by walk_at "at") ?_
    refine ⟨_, o.length, rows, w.fh, w.i (chg K (.ref c) o.length rows) (by walk_at "mem"), hok, hn, fun s1 F5 H5 w5 hs1 => ⟨s1, rfl, ?_⟩⟩
    replace w := w.cal .nil w5 (by walk_at "app")
    have es1 : s1 = f := cd_inj (hs1.trans hff.symm)
    subst es1
    walk_at "go"
    refine ⟨_, .str s1, w.fh, .str _, .str _, by show (0 : Nat) < 6; decide, str_good okf.1 (Nat.le_trans okf.2 (by decide)), fun F9 H9 g9 => ?_⟩
    replace w := w.gr0 g9
    walk_at "go"
    refine ⟨_, o.length, rows, w.fh, w.i (chg K (.ref c) o.length rows) (by walk_at "mem"), hok, by omega, fun p5 F5 H5 hp5 w5 => ?_⟩
    have hp5' := w.g.fresh hp5
    replace w := w.cal .nil w5 (by walk_at "app")
    rw [cels_v, ← ecs] at w
    obtain ⟨F5, w⟩ := w.fzL (p := p5) (by walk_at "pick") hp5'
    walk_at "go"
    refine ⟨_, .list (cs.map Cel.d), w.fh, .lst (sqL_of (w.i (fx p5 (.lst (cs.map Cel.v))) (by walk_at "mem"))) (dpa_cels cs), .lst (sqL_of (w.i (fx p1 (.lst (cs.map Cel.v))) (by walk_at "mem"))) (dpa_cels cs), Nat.lt_of_le_of_lt cg.2 (by decide), cg.1, fun F9 H9 g9 => ?_⟩
    replace w := w.gr0 g9
    walk_at "go"
    refine ⟨_, o, rows, rfl, w.fh, w.i (chg K (.ref c) o.length rows) (by walk_at "mem"), hok, oko, by omega, fun s1' F5 H5 w5 h_s1' ok_s1' => ?_⟩
    replace w := w.cal .nil w5 (by walk_at "app")
    walk_at "go"
    refine ⟨_, p1, cs.map Cel.v, o, rfl, rfl, w.fh, sqL_of (w.i (fx p1 (.lst (cs.map Cel.v))) (by walk_at "mem")), fun v hv => ?_, by rw [List.length_map]; omega, oko, by omega, fun s2 F5 H5 w5 h_s2 ok_s2 => ?_⟩
    · obtain ⟨c, hc, rfl⟩ := List.mem_map.mp hv
      exact cel_cellok (csk c hc)
    replace w := w.cal .nil w5 (by walk_at "app")
    walk_at "go"
    have es : s1' = s2 := cd_inj (by rw [h_s1', h_s2, outs_cels, mk_cels hok.ok, ecs])
    subst es
    refine ⟨_, .str s1', w.fh, .str _, .str _, by show (0 : Nat) < 6; decide, str_good ok_s1' (Nat.le_trans (show s1'.length ≤ 400 by rw [← cd_len, h_s1', mks_len (cd_len o) hok.ok]; exact hok.sum) (by decide)), fun F9 H9 g9 => ?_⟩
    replace w := w.gr0 g9
    walk_at "go"
    refine n_lenO (by walk_at "at") ?_
    refine ⟨_, o.length, rows, w.fh, w.i (chg K (.ref c) o.length rows) (by walk_at "mem"), by omega, fun F5 H5 w5 => ?_⟩
    replace w := w.cal .nil w5 (by walk_at "app")
    refine ⟨_, rfl, ⟨by omega, by omega⟩, ?_⟩
    walk_at "go"
    rw [hvl]
    refine ⟨_, .int (rows.length : Nat), w.fh, .int _, .int _, by show (0 : Nat) < 6; decide, rfl, fun F9 H9 g9 => ?_⟩
    replace w := w.gr0 g9
    walk_at "go"
    refine n_listOf w (by walk_at "sq") fun q1 F4 H4 w hq1 => ?_
    obtain ⟨F4, w⟩ := w.fzL (p := q1) (by walk_at "pick") hq1
    walk_at "go"
    refine n_make w fun c2 dx2 H5 w hc2 => ?_
    refine c_init w (by walk_at "pick") hc2 (sqL_of (w.i (fx q1 (.lst vs)) (by walk_at "mem"))) (w.dpa (K := K) (xs := vs) (by walk_at "mem")) hn hok fun F5 H5 w => ?_
    obtain ⟨c2', dx2', q2', us2', ec2, hcc2, hrr2, hDD2⟩ : Chg K _ (.ref c2) o.length rows := w.i (chg K (.ref c2) o.length rows) (by walk_at "mem")
    cases ec2
    replace w := w.push (fx c2 _) hcc2
    unfold insC at w
    walk_at "go"
    refine n_eqO (by walk_at "at") (by walk_at "at") ?_
    refine ⟨_, o.length, rows, w.fh, w.i (chg K (.ref c) o.length rows) (by walk_at "mem"), w.i (chg K (.ref c2) o.length rows) (by walk_at "mem"), hok, fun F9 H9 w9 => ⟨true, rfl, ?_⟩⟩
    replace w := w.cal .nil w9 (by walk_at "app")
    walk_at "go"
    exact q _ _ (w.to .nil)
-- _law_right
theorem ok_law_right {f : Addr} {fd : FuncData} (F : FunD K "_law_right" "_law_right" (defArgs s_law_right) (defBody s_law_right) (defScope s_law_right) [] [] f fd) (T : Txt K mg) (D_law_alike : DO P w K mg base 6 "_law_alike" ["found", "due"] [] (S2 (φalike K 6))) (D_law_draw : DO P w K mg base 2 "_law_draw" ["bag", "many"] [] (S2 (φdraw K))) (D_law_due : DO P w K mg base 1 "_law_due" ["size", "rows"] [] (S2 (φdue01 K))) (D_law_made : DO P w K mg base 5 "_law_made" ["size", "rows"] [] (S2 (φmade01 K))) (D_law_stays : DO P w K mg base 10 "_law_stays" ["found", "size", "rows", "old"] [] (S4 (φstays01 K))) (D_law_text : DO P w K mg base 3 "_law_text" ["bag", "size"] [] (S2 (φtextN K))) : FnOk P w K mg base CX0 11 f fd ["bag", "size", "rows"] (S3 (φright01 K)) := by
  refine F.ok sc_law_right (fun vs H Q E h => ?_) (fun cdv A outer s H vs Q E hr h => ?_)
  · exact S3.len h
  · match vs, h with
    | [v0, v1, v2], h =>
    have hu := hu_of hr
    refine ⟨_, PSs.nox (pss_cons (ps_set (i := 3) sc_law_right.nd rfl (.inl rfl) (pe_callTy (clListOf (K := K)) (by rfl) T.b_list (by decide +kernel) (pa_cons (pv 2) pa_nil)))
      (pss_cons (ps_set (i := 4) sc_law_right.nd rfl (.inl rfl) (pcall D_law_due hr (pa_cons (pv 1) (pa_cons (pv 2) pa_nil))))
      (pss_cons (ps_asg (pcall D_law_made hr (pa_cons (pv 1) (pa_cons (pv 3) pa_nil))) (pg_tup (by rfl) (pgs_cons (pg_name (i := 5) sc_law_right.nd rfl (.inl rfl)) (pgs_cons (pg_name (i := 6) sc_law_right.nd rfl (.inl rfl)) pgs_nil))))
      (pss_cons (ps_if (PW.pt (pw_or (pt_not (pt_val (pcall D_law_alike hr (pa_cons (pv 6) (pa_cons (pv 4) pa_nil))))) (pw_or1 (pt_cmpR (opNeD (K := K) hr.units) (pv 3) (pv 2) (nomark _))))) (pss_one (ps_ret pe_bl)) pss_nil)
      (pss_cons (ps_if (pt_cmpR op_ne (pe_ix (ixT (K := K)) (pv 4) pe_int (fun _ _ => rfl)) pe_str (nomark _)) (pss_one (ps_ret (pe_cmp (pc_isN (pv 5)) (by rfl)))) pss_nil)
      (pss_cons (ps_expr (peBM (K := K) PySem.F.plainAttrs_list PySem.F.slot_list_append PySem.F.type_list_append mt_append (pv 3) (pa_cons (pe_tup (pa_cons pe_str (pa_cons pe_str pa_nil))) pa_nil)))
      (pss_cons (ps_asg (pe_tup (pa_cons pe_str (pa_cons pe_str pa_nil))) (pg_sub (pv 3) (pcall D_law_draw hr (pa_cons (pv 0) (pa_cons (pe_callB (clLenQ (K := K)) (by rfl) T.b_len (by decide +kernel) (pa_cons (pv 3) pa_nil)) pa_nil))) set_list))
      (pss_one (ps_ret (pcall D_law_stays hr (pa_cons (pv 5) (pa_cons (pv 1) (pa_cons (pv 2) (pa_cons (pcall D_law_text hr (pa_cons (pv 0) (pa_cons (pv 1) pa_nil))) pa_nil)))))))))))))), ?_⟩
    rw [show start ["bag", "size", "rows", "handed", "due", "found", "told"] [v0, v1, v2] = [some v0, some v1, some v2, none, none, none, none] from rfl]
    obtain ⟨F, b, a, vs, size, rows, rfl, rfl, rfl, s0, hS, hD, hl, hs, q⟩ := h
    have w := ((s0.w (M := [b])).push (imL K a vs) hS).push (dpa K vs (rows.map XRow.d)) hD
    have hvl : vs.length = rows.length := by rw [dpa_len hD, List.length_map]
    have gx := xrows_good hs (by omega)
    have gd := due_good (dueX size rows)
    walk_at "go"
    refine n_listOf w (by walk_at "sq") fun p F4 H4 w hp => ?_
    walk_at "go"
    refine ⟨_, a, vs, size, rows, rfl, rfl, w.fh, w.imL (by walk_at "mem"), w.dpa (by walk_at "mem"), by omega, hs, fun t0 F2 H2 w2 => ?_⟩
    replace w := w.cal .nil w2 (by walk_at "app")
    walk_at "go"
    refine ⟨_, p, vs, size, rows, rfl, rfl, w.st (by walk_at "pick"), w.dpa (by walk_at "mem"), by omega, hs, fun n cs hok en hn er hR c t t2 F2 H2 w2 => ?_, fun hne t t2 F2 H2 w2 => ?_⟩
    · replace w := w.cal (D := [mu p (.lst vs)]) (by walk_at "pick") w2 (by walk_at "app") rfl
      refine w_tgt _ (by walk_at "st") rfl ?_
      walk_at "go"
      refine ⟨_, (dueX size rows).d, w.fh, w.dat (by walk_at "mem"), w.dat (by walk_at "mem"), by have := gd.2; omega, gd.1, fun F9 H9 g9 => ?_⟩
      replace w := w.gr0 g9
      walk_at "go"
      refine u_neD (Same.refl _) (.lst (show SqL K H9 p vs by walk_at "sq") (dpa_same w.fh _ _ (w.dpa (K := K) (xs := vs) (by walk_at "mem")))) (.lst (show SqL K H9 a vs by walk_at "sq") (dpa_same w.fh _ _ (w.dpa (K := K) (xs := vs) (by walk_at "mem")))) gx.1 (Nat.le_trans gx.2 (by decide)) ?_
      walk_at "go"
      obtain ⟨t0', v0, et0, hTt⟩ := due_pair (w.dat (K := K) (v := .ref t0) (d := (dueX size rows).d) (by walk_at "mem"))
      cases et0
      rw [hok] at hTt
      replace w := w.push (imT K t0 [.str (Str.ofString ""), v0]) hTt
      walk_at "go"
      refine n_tup w (szle (by simp)) fun u1 F1 H1 w => ?_
      walk_at "go"
      refine n_app w (p := p) (by walk_at "pick") (small_lt (by omega)) fun H7 w => ?_
      walk_at "go"
      refine n_tup w (szle (by simp)) fun u2 F1 H1 w => ?_
      walk_at "go"
      obtain ⟨N9, eN9⟩ : ∃ N9, N9 = (vs ++ [V.ref u1]).length := ⟨_, rfl⟩
      have hN9 : N9 = vs.length + 1 := by rw [eN9, List.length_append]; rfl
      rw [← eN9]
      refine n_draw w (by walk_at "pick") (by omega) (by omega) fun r6 F1 H1 w r60 r61 => ?_
      obtain ⟨rk, rfl⟩ : ∃ rk : Nat, r6 = (rk : Nat) := ⟨r6.toNat, by omega⟩
      walk_at "go"
      refine n_setL w (p := p) (by walk_at "pick") rk (ix_nat (by rw [← eN9]; omega)) fun H5 w => ?_
      walk_at "go"
      subst en
      refine ⟨_, b, (n : Nat), rfl, rfl, w.st (by walk_at "pick"), by omega, by omega, fun o F2 H2 w2 ho oko => ?_⟩
      replace w := w.calB (by walk_at "pick") w2 (by walk_at "app")
      have ho : o.length = n := by omega
      walk_at "go"
      have hdv := w.dpa (K := K) (xs := vs) (ds := rows.map XRow.d) (by walk_at "mem")
      rw [er, crows_xd] at hdv
      have hC9 := w.i (chg K (.ref c) n cs) (by walk_at "mem")
      subst ho
      refine ⟨_, a, vs, o, cs, rfl, rfl, rfl, w.fh, hC9, hR, hn, oko, w.imL (by walk_at "mem"), hdv, fun F8 H8 w8 => ?_⟩
      replace w := w.cal .nil w8 (by walk_at "app")
      exact q _ _ (w.to (by walk_at "pick"))
    · replace w := w.cal (D := [mu p (.lst vs)]) (by walk_at "pick") w2 (by walk_at "app") rfl
      refine w_tgt _ (by walk_at "st") rfl ?_
      walk_at "go"
      refine ⟨_, (dueX size rows).d, w.fh, w.dat (by walk_at "mem"), w.dat (by walk_at "mem"), by have := gd.2; omega, gd.1, fun F9 H9 g9 => ?_⟩
      replace w := w.gr0 g9
      walk_at "go"
      refine u_neD (Same.refl _) (.lst (show SqL K H9 p vs by walk_at "sq") (dpa_same w.fh _ _ (w.dpa (K := K) (xs := vs) (by walk_at "mem")))) (.lst (show SqL K H9 a vs by walk_at "sq") (dpa_same w.fh _ _ (w.dpa (K := K) (xs := vs) (by walk_at "mem")))) gx.1 (Nat.le_trans gx.2 (by decide)) ?_
      walk_at "go"
      obtain ⟨t0', v0, et0, hTt⟩ := due_pair (w.dat (K := K) (v := .ref t0) (d := (dueX size rows).d) (by walk_at "mem"))
      cases et0
      have hw9 := due_w hne
      obtain ⟨z9, ez9⟩ : ∃ z9, z9 = (dueX size rows).w := ⟨_, rfl⟩
      rw [← ez9] at hTt hw9
      replace w := w.push (imT K t0 [.str z9, v0]) hTt
      walk_at "go"
      rw [decide_eq_false hw9]
      walk_at "go"
      exact q _ _ (w.to (by walk_at "pick"))
-- law
theorem ok_law {f : Addr} {fd : FuncData} (F : FunD K "law" "law" (defArgs s_law) (defBody s_law) (defScope s_law) [] [] f fd) (T : Txt K mg) (D_law_alike : DO P w K mg base 6 "_law_alike" ["found", "due"] [] (S2 (φalike K 6))) (D_law_bag : DO P w K mg base 1 "_law_bag" ["script"] [] (S1 (φbag K))) (D_law_draw : DO P w K mg base 2 "_law_draw" ["bag", "many"] [] (S2 (φdraw K))) (D_law_field : DO P w K mg base 3 "_law_field" ["number"] [] (S1 (φfield01 K))) (D_law_right : DO P w K mg base 11 "_law_right" ["bag", "size", "rows"] [] (S3 (φright01 K))) (D_law_rows : DO P w K mg base 5 "_law_rows" ["bag", "size", "many", "most"] [] (S4 (φrows1 K))) (D_law_spoilt : DO P w K mg base 4 "_law_spoilt" ["bag", "size", "rows"] [] (S3 (φspoilt01 K))) : FnOk P w K mg base CX0 13 f fd ["script"] (S1 (φlaw K)) := by
  refine F.ok sc_law (fun vs H Q E h => ?_) (fun cdv A outer s H vs Q E hr h => ?_)
  · exact S1.len h
  · match vs, h with
    | [v0], h =>
    have hu := hu_of hr
    refine ⟨_, PSs.nox (pss_cons (ps_set (i := 1) sc_law.nd rfl (.inl rfl) (pcall D_law_bag hr (pa_cons (pv 0) pa_nil)))
      (pss_cons (ps_set (i := 2) sc_law.nd rfl (.inl rfl) (pcall D_law_draw hr (pa_cons (pv 1) (pa_cons pe_int pa_nil))))
      (pss_cons (ps_set (i := 3) sc_law.nd rfl (.inl rfl) (pcall D_law_draw hr (pa_cons (pv 1) (pa_cons (pe_ix (ixL (K := K)) (pe_lst (pa_cons pe_int (pa_cons pe_int (pa_cons pe_int (pa_cons pe_int (pa_cons pe_int (pa_cons pe_int (pa_cons pe_int (pa_cons pe_int pa_nil))))))))) (pcall D_law_draw hr (pa_cons (pv 1) (pa_cons pe_int pa_nil))) (fun _ _ => rfl)) pa_nil))))
      (pss_cons (ps_set (i := 4) sc_law.nd rfl (.inl rfl) (pcall D_law_rows hr (pa_cons (pv 1) (pa_cons (pv 3) (pa_cons (pcall D_law_draw hr (pa_cons (pv 1) (pa_cons (pe_ix (ixL (K := K)) (pe_lst (pa_cons pe_int (pa_cons pe_int (pa_cons pe_int (pa_cons pe_int pa_nil))))) (pcall D_law_draw hr (pa_cons (pv 1) (pa_cons pe_int pa_nil))) (fun _ _ => rfl)) pa_nil))) (pa_cons pe_int pa_nil))))))
      (pss_cons (ps_set (i := 5) sc_law.nd rfl (.inl rfl) (pcall D_law_draw hr (pa_cons (pv 1) (pa_cons pe_int pa_nil))))
      (pss_cons (ps_if (pt_not (pt_val (pcall D_law_alike hr (pa_cons (pcall D_law_field hr (pa_cons (pv 5) pa_nil)) (pa_cons (pv 5) pa_nil))))) (pss_one (ps_ret pe_bl)) pss_nil)
      (pss_cons (ps_for PassesOwn.never rfl (pi_range1 rfl T.b_range (pa_cons (pe_op op_add (pv 2) pe_int) pa_nil)) (pg_name (i := 6) sc_law.nd rfl (.inl rfl)) (pss_cons (ps_if (pt_not (pt_val (pcall D_law_right hr (pa_cons (pv 1) (pa_cons (pv 3) (pa_cons (pv 4) pa_nil)))))) (pss_one (ps_ret pe_bl)) pss_nil)
      (pss_one (ps_asg (pcall D_law_spoilt hr (pa_cons (pv 1) (pa_cons (pv 3) (pa_cons (pv 4) pa_nil)))) (pg_tup (by rfl) (pgs_cons (pg_name (i := 3) sc_law.nd rfl (.inl rfl)) (pgs_cons (pg_name (i := 4) sc_law.nd rfl (.inl rfl)) pgs_nil)))))))
      (pss_one (ps_ret pe_bl))))))))), ?_⟩
    rw [show start ["script", "bag", "spoils", "size", "rows", "number", "k"] [v0] = [some v0, none, none, none, none, none, none] from rfl]
    have kC := T.k_Change
    have kS := T.na_Change_size
    have kR := T.na_Change_rows
    
    obtain ⟨sc, ns, rfl, hS, hl, q⟩ := h
    walk_at "go"
    refine ⟨sc, ns, rfl, hS, hl, fun b F1 H1 g1 hb => ?_⟩
    have w := W.bag0 g1 hb
    walk_at "go"
    refine n_draw w (by walk_at "pick") (by decide) (by decide) fun spoils F1 H1 w k0 k1 => ?_
    walk_at "go"
    refine n_lst w (szle (by simp)) fun p1 F1 H1 w hp1 => ?_
    walk_at "go"
    refine n_draw w (by walk_at "pick") (by decide) (by decide) fun r F1 H1 w r0 r1 => ?_
    obtain ⟨sz, es, sz0, sz1⟩ := pick_ix (ns := [9, 9, 9, 2, 9, 41, 121, 401]) (lo := 2) (hi := 401) r0 r1 (by decide)
    walk_at "go"
    refine w_ixL _ _ (by walk_at "sq") es ?_
    walk_at "go"
    refine n_draw w (by walk_at "pick") (by omega) (by omega) fun n' F1 H1 w n0 n1 => ?_
    obtain ⟨n, rfl⟩ : ∃ n : Nat, n' = (n : Int) := ⟨n'.toNat, by omega⟩
    walk_at "go"
    refine n_lst w (szle (by simp)) fun pl F3 H3 w hpl => ?_
    walk_at "go"
    refine n_draw w (by walk_at "pick") (by decide) (by decide) fun r F1 H1 w r0 r1 => ?_
    obtain ⟨my, ey, my0, my1⟩ := pick_ix (ns := [7, 7, 41, 401]) (lo := 7) (hi := 401) r0 r1 (by decide)
    walk_at "go"
    refine w_ixL _ _ (by walk_at "sq") ey ?_
    walk_at "go"
    refine n_draw w (by walk_at "pick") (by omega) (by omega) fun many F1 H1 w y0 y1 => ?_
    walk_at "go"
    refine ⟨_, b, n, many, 400, rfl, rfl, rfl, rfl, w.st (by walk_at "pick"), by omega, by omega, by omega, by omega, by omega, fun p0 ys0 rows0 F2 H2 h_p0 w2 hok0 hgm => ?_⟩
    have h_p0' := w.g.fresh h_p0
    replace w := w.calB (by walk_at "pick") w2 (by walk_at "app")
    obtain ⟨F2, w⟩ := w.fzL (p := p0) (by walk_at "pick") h_p0'
    walk_at "go"
    refine n_draw w (by walk_at "pick") (by decide) (by decide) fun number F1 H1 w nu0 nu1 => ?_
    walk_at "go"
    refine ⟨_, number, rfl, w.fh, fun F9 H9 w9 => ?_⟩
    replace w := w.cal .nil w9 (by walk_at "app")
    walk_at "go"
    refine ⟨_, .int number, w.fh, .int _, .int _, by show (0 : Nat) < 6; decide, rfl, fun F9 H9 g9 => ?_⟩
    replace w := w.gr0 g9
    have hdr := w.dpa (K := K) (xs := ys0) (ds := rows0.map CRow.d) (by walk_at "mem")
    rw [← crows_xd] at hdr
    replace w := (w.push (imL K p0 ys0) (sqL_of (w.i (fx p0 (.lst ys0)) (by walk_at "mem")))).push (dpa K ys0 ((rows0.map CRow.x).map XRow.d)) hdr
    have hl0 := hok0.len
    have hs0 : ∀ r ∈ rows0.map CRow.x, r.sOk := fun r hr => by
      obtain ⟨c, hc, rfl⟩ := List.mem_map.mp hr
      have z := (hok0.ok c hc).s
      cases c <;> exact z
    have hl1 : (rows0.map CRow.x).length ≤ 400 := by rw [List.length_map]; exact hl0
    generalize rows0.map CRow.x = rowsX at w hs0 hl1
    walk_at "go"
    obtain ⟨m, em⟩ : ∃ m : Nat, spoils + 1 = ((m : Nat) : Int) := ⟨(spoils + 1).toNat, by omega⟩
    rw [em]
    have w := w.to (D := [bag K b, imL K p0 ys0, dpa K ys0 (rowsX.map XRow.d)]) (by walk_at "pick")
    refine n_forR (n := m) w (fun i σ L => ∃ (size : Int) (a : Addr) (vs : List V) (rows : List XRow) (y6 : Option V), σ = [some (.ref sc), some (.ref b), some (.int spoils), some (.int size), some (.ref a), some (.int number), y6] ∧ rows.length ≤ 400 + i ∧ (∀ r ∈ rows, r.sOk) ∧ L = [bag K b, imL K a vs, dpa K vs (rows.map XRow.d)]) ⟨_, _, _, _, none, rfl, hl1, hs0, rfl⟩ (fun i σ L F' H' hi hp w => ?_) (fun σ L F' H' hp w => ?_)
    · obtain ⟨size, a, vs, rows, y6, rfl, hrl, hrs, rfl⟩ := hp
      walk_at "go"
      refine ⟨_, b, a, vs, size, rows, rfl, rfl, rfl, w.st (by walk_at "pick"), w.imL (by walk_at "mem"), w.dpa (by walk_at "mem"), by omega, hrs, fun F2 H2 w2 => ?_⟩
      replace w := w.calB (by walk_at "pick") w2 (by walk_at "app")
      walk_at "go"
      refine ⟨_, b, a, vs, size, rows, rfl, rfl, rfl, w.st (by walk_at "pick"), w.imL (by walk_at "mem"), w.dpa (by walk_at "mem"), by omega, hrs, fun t p us s2 rows2 F2 H2 w2 hl2 hs2 => ?_⟩
      replace w := w.calB (by walk_at "pick") w2 (by walk_at "app")
      refine w_tgt _ (by walk_at "st") rfl ?_
      walk_at "go"
      exact nx_mk w ⟨s2, p, us, rows2, _, rfl, by omega, hs2, rfl⟩ (by walk_at "pk")
    · obtain ⟨size, a, vs, rows, y6, rfl, hrl, hrs, rfl⟩ := hp
      walk_at "go"
      exact q _
end
theorem facts {P : Program} {w : World} {K : PySem.W.Frag} {mg : Str → Option Value} {h : Heap} {f : Addr} (X : K.In h) (G : h.Ns mainGlobals mg) (hfa : mg ("law" : Str) = some (.ref f)) (c : He.SaysD fa fn K) (ex : exB K = true) :
    ∃ fd : FuncData, (∀ (s : Shared) (v : Value), BindsTo s fd ⟨[v], []⟩ [("script", v)]) ∧ ∀ base : Heap, K.In base → base.Ns mainGlobals mg → FnOk P w K mg base CX0 13 f fd ["script"] (S1 (φlaw K)) := by
  unfold exB at ex
  simp only [Bool.and_eq_true] at ex
  have T : Txt K mg := ⟨He.free_ok X G (c.fact 0 (f := .free "ValueError") rfl), He.free_ok X G (c.fact 1 (f := .free "abs") rfl), He.free_ok X G (c.fact 2 (f := .free "all") rfl), He.free_ok X G (c.fact 3 (f := .free "bool") rfl), He.free_ok X G (c.fact 4 (f := .free "int") rfl), He.free_ok X G (c.fact 5 (f := .free "isinstance") rfl), He.free_ok X G (c.fact 6 (f := .free "len") rfl), He.free_ok X G (c.fact 7 (f := .free "list") rfl), He.free_ok X G (c.fact 8 (f := .free "max") rfl), He.free_ok X G (c.fact 9 (f := .free "min") rfl), He.free_ok X G (c.fact 10 (f := .free "range") rfl), He.free_ok X G (c.fact 11 (f := .free "str") rfl), He.free_ok X G (c.fact 12 (f := .free "tuple") rfl), He.int_ok X G (c.fact 13 (f := .int "MOST" 400) rfl), He.cls_ok (c.fact 37 (f := .cls "Change") rfl), He.noat_ok (c.fact 39 (f := .noat "Change" "size") rfl), He.noat_ok (c.fact 40 (f := .noat "Change" "rows") rfl), He.glo_ok X G (c.fact 36 (f := .glo "Change") rfl), insB_ok (He.cls_ok (c.fact 37 (f := .cls "Change") rfl)) ex.1, strB_ok ex.2.1, ec_ok (He.glo_ok X G (c.fact 46 (f := .glo "BadSize") rfl)) (He.exc_ok (c.fact 47 (f := .exc "BadSize") rfl)) (He.exm_ok (c.fact 48 (f := .exm "BadSize" "BadSize" true) rfl)), xfB_ok2 (He.glo_ok X G (c.fact 49 (f := .glo "BadRow") rfl)) ex.2.2.1, He.glo_ok X G (c.fact 49 (f := .glo "BadRow") rfl), He.glo_ok X G (c.fact 46 (f := .glo "BadSize") rfl), He.glo_ok X G (c.fact 50 (f := .glo "Busy") rfl), He.glo_ok X G (c.fact 51 (f := .glo "NoSpare") rfl), He.glo_ok X G (c.fact 52 (f := .glo "NoText") rfl), He.glo_ok X G (c.fact 53 (f := .glo "NoVersion") rfl), (excB_ok ex.2.2.2.1), (excB_ok ex.2.2.2.2.1), (of_decide_eq_true ex.2.2.2.2.2.1), (of_decide_eq_true ex.2.2.2.2.2.2.1), (of_decide_eq_true ex.2.2.2.2.2.2.2.1), (of_decide_eq_true ex.2.2.2.2.2.2.2.2.1), (of_decide_eq_true ex.2.2.2.2.2.2.2.2.2.1), (of_decide_eq_true ex.2.2.2.2.2.2.2.2.2.2.1), (of_decide_eq_true ex.2.2.2.2.2.2.2.2.2.2.2.1), (of_decide_eq_true ex.2.2.2.2.2.2.2.2.2.2.2.2.1), (of_decide_eq_true ex.2.2.2.2.2.2.2.2.2.2.2.2.2.1), (of_decide_eq_true ex.2.2.2.2.2.2.2.2.2.2.2.2.2.2.1), (of_decide_eq_true ex.2.2.2.2.2.2.2.2.2.2.2.2.2.2.2.1), (of_decide_eq_true ex.2.2.2.2.2.2.2.2.2.2.2.2.2.2.2.2.1), (of_decide_eq_true ex.2.2.2.2.2.2.2.2.2.2.2.2.2.2.2.2.2.1), (of_decide_eq_true ex.2.2.2.2.2.2.2.2.2.2.2.2.2.2.2.2.2.2.1), (of_decide_eq_true ex.2.2.2.2.2.2.2.2.2.2.2.2.2.2.2.2.2.2.2.1), (of_decide_eq_true ex.2.2.2.2.2.2.2.2.2.2.2.2.2.2.2.2.2.2.2.2.1), (of_decide_eq_true ex.2.2.2.2.2.2.2.2.2.2.2.2.2.2.2.2.2.2.2.2.2.1)⟩
  obtain ⟨fd_gives, F_gives⟩ := c.def_ 0 (d := d_gives) rfl
  obtain ⟨fd_row_text, F_row_text⟩ := c.def_ 1 (d := d_row_text) rfl
  obtain ⟨fd_BadRowX_initX, F_BadRowX_initX⟩ := c.def_ 2 (d := d_BadRowX_initX) rfl
  obtain ⟨fd_ChangeX_initX, F_ChangeX_initX⟩ := c.def_ 3 (d := d_ChangeX_initX) rfl
  obtain ⟨fd_ChangeX_initX_r, F_ChangeX_initX_r⟩ := c.def_ 4 (d := d_ChangeX_initX_r) rfl
  obtain ⟨fd_ChangeX_eqX, F_ChangeX_eqX⟩ := c.def_ 5 (d := d_ChangeX_eqX) rfl
  obtain ⟨fd_ChangeX_lenX, F_ChangeX_lenX⟩ := c.def_ 6 (d := d_ChangeX_lenX) rfl
  obtain ⟨fd_ChangeX_strX, F_ChangeX_strX⟩ := c.def_ 7 (d := d_ChangeX_strX) rfl
  obtain ⟨fd_Change_cells, F_Change_cells⟩ := c.def_ 8 (d := d_Change_cells) rfl
  obtain ⟨fd_Change_done, F_Change_done⟩ := c.def_ 9 (d := d_Change_done) rfl
  obtain ⟨fd_law_bag, F_law_bag⟩ := c.def_ 10 (d := d_law_bag) rfl
  obtain ⟨fd_law_stirred, F_law_stirred⟩ := c.def_ 11 (d := d_law_stirred) rfl
  obtain ⟨fd_law_draw, F_law_draw⟩ := c.def_ 12 (d := d_law_draw) rfl
  obtain ⟨fd_law_alike, F_law_alike⟩ := c.def_ 13 (d := d_law_alike) rfl
  obtain ⟨fd_law_signs, F_law_signs⟩ := c.def_ 14 (d := d_law_signs) rfl
  obtain ⟨fd_law_text, F_law_text⟩ := c.def_ 15 (d := d_law_text) rfl
  obtain ⟨fd_law_row, F_law_row⟩ := c.def_ 16 (d := d_law_row) rfl
  obtain ⟨fd_law_rows, F_law_rows⟩ := c.def_ 17 (d := d_law_rows) rfl
  obtain ⟨fd_law_cells, F_law_cells⟩ := c.def_ 18 (d := d_law_cells) rfl
  obtain ⟨fd_law_done, F_law_done⟩ := c.def_ 19 (d := d_law_done) rfl
  obtain ⟨fd_law_due, F_law_due⟩ := c.def_ 20 (d := d_law_due) rfl
  obtain ⟨fd_law_kind, F_law_kind⟩ := c.def_ 21 (d := d_law_kind) rfl
  obtain ⟨fd_law_made, F_law_made⟩ := c.def_ 22 (d := d_law_made) rfl
  obtain ⟨fd_law_size_spoilt, F_law_size_spoilt⟩ := c.def_ 23 (d := d_law_size_spoilt) rfl
  obtain ⟨fd_law_copy_bent, F_law_copy_bent⟩ := c.def_ 24 (d := d_law_copy_bent) rfl
  obtain ⟨fd_law_spoilt, F_law_spoilt⟩ := c.def_ 25 (d := d_law_spoilt) rfl
  obtain ⟨fd_law_field, F_law_field⟩ := c.def_ 26 (d := d_law_field) rfl
  obtain ⟨fd_law_stays, F_law_stays⟩ := c.def_ 27 (d := d_law_stays) rfl
  obtain ⟨fd_law_right, F_law_right⟩ := c.def_ 28 (d := d_law_right) rfl
  obtain ⟨fd_law, F_law⟩ := c.def_ 29 (d := d_law) rfl
  have D_gives : ∀ base, DO P w K mg base 1 "gives" ["row", "size"] [] (S2 (φgivesX K)) := fun base => ⟨_, _, [], ok_gives F_gives T , He.glo_ok X G (c.fact 14 (f := .glo "gives") rfl), F_gives.kp, F_gives.bindsN fun _ _ _ _ _ _ us hl => match us, hl with | [_, _], _ => rfl, .nil⟩
  have D_row_text : ∀ base, DO P w K mg base 1 "row_text" ["row"] [] (S1 (φrowtext K)) := fun base => ⟨_, _, [], ok_row_text F_row_text T , He.glo_ok X G (c.fact 15 (f := .glo "row_text") rfl), F_row_text.kp, F_row_text.bindsN fun _ _ _ _ _ _ us hl => match us, hl with | [_], _ => rfl, .nil⟩
  have DXI_BadRow : ∀ base, DXI P w K mg base 1 "BadRow" "row" ["self", "row"] := fun base => ⟨fd_BadRowX_initX, ok_BadRowX_initX F_BadRowX_initX T , F_BadRowX_initX.bindsN fun _ _ _ _ _ _ us hl => match us, hl with | [_, _], _ => rfl⟩
  have DN_Change_2 : ∀ base, DN P w K mg base 2 "Change" ["self", "size", "rows"] [] (S3 (φinit K)) := fun base => ⟨_, [], ok_ChangeX_initX F_ChangeX_initX T (D_gives base), He.mkr_ok (c.fact 38 (f := .mkr "Change") rfl), He.glo_ok X G (c.fact 36 (f := .glo "Change") rfl), F_ChangeX_initX.bindsN fun _ _ _ _ _ _ us hl => match us, hl with | [_, _, _], _ => rfl, .nil⟩
  have DNX_Change : ∀ base, DNX P w K mg base 3 "Change" ["self", "size", "rows"] (SX3 (φinitX K)) := fun base => ⟨_, ok_ChangeX_initX_r F_ChangeX_initX_r T (D_gives base) (DXI_BadRow base), He.mkr_ok (c.fact 38 (f := .mkr "Change") rfl), He.glo_ok X G (c.fact 36 (f := .glo "Change") rfl), F_ChangeX_initX_r.bindsN fun _ _ _ _ _ _ us hl => match us, hl with | [_, _, _], _ => rfl⟩
  have DM_ChangeX_eqX : ∀ base, DM P w K mg base 6 "Change" "__eq__" ["self", "other"] [] (S2 (φceq K)) := fun base => ⟨_, [], ok_ChangeX_eqX F_ChangeX_eqX T , He.meth_ok (c.fact 41 (f := .meth "Change" "__eq__") rfl), T.k_Change, F_ChangeX_eqX.bindsN fun _ _ _ _ _ _ us hl => match us, hl with | [_, _], _ => rfl, .nil⟩
  have DM_ChangeX_lenX : ∀ base, DM P w K mg base 1 "Change" "__len__" ["self"] [] (S1 (φclen K)) := fun base => ⟨_, [], ok_ChangeX_lenX F_ChangeX_lenX T , He.meth_ok (c.fact 42 (f := .meth "Change" "__len__") rfl), T.k_Change, F_ChangeX_lenX.bindsN fun _ _ _ _ _ _ us hl => match us, hl with | [_], _ => rfl, .nil⟩
  have DM_ChangeX_strX : ∀ base, DM P w K mg base 2 "Change" "__str__" ["self"] [] (S1 (φstr K)) := fun base => ⟨_, [], ok_ChangeX_strX F_ChangeX_strX T (D_row_text base), He.meth_ok (c.fact 43 (f := .meth "Change" "__str__") rfl), T.k_Change, F_ChangeX_strX.bindsN fun _ _ _ _ _ _ us hl => match us, hl with | [_], _ => rfl, .nil⟩
  have DM_Change_cells : ∀ base, DM P w K mg base 1 "Change" "cells" ["self"] [] (S1 (φcells K)) := fun base => ⟨_, [], ok_Change_cells F_Change_cells T , He.meth_ok (c.fact 44 (f := .meth "Change" "cells") rfl), T.k_Change, F_Change_cells.bindsN fun _ _ _ _ _ _ us hl => match us, hl with | [_], _ => rfl, .nil⟩
  have DM_Change_done : ∀ base, DM P w K mg base 2 "Change" "done" ["self", "old"] [] (S2 (φdoneC K)) := fun base => ⟨_, [], ok_Change_done F_Change_done T (DM_Change_cells base), He.meth_ok (c.fact 45 (f := .meth "Change" "done") rfl), T.k_Change, F_Change_done.bindsN fun _ _ _ _ _ _ us hl => match us, hl with | [_, _], _ => rfl, .nil⟩
  have D_law_bag : ∀ base, DO P w K mg base 1 "_law_bag" ["script"] [] (S1 (φbag K)) := fun base => ⟨_, _, [], ok_law_bag F_law_bag T , He.glo_ok X G (c.fact 16 (f := .glo "_law_bag") rfl), F_law_bag.kp, F_law_bag.bindsN fun _ _ _ _ _ _ us hl => match us, hl with | [_], _ => rfl, .nil⟩
  have D_law_stirred : ∀ base, DO P w K mg base 1 "_law_stirred" ["bag", "many"] [] (S2 (φdraw K)) := fun base => ⟨_, _, [], ok_law_stirred F_law_stirred T , He.glo_ok X G (c.fact 17 (f := .glo "_law_stirred") rfl), F_law_stirred.kp, F_law_stirred.bindsN fun _ _ _ _ _ _ us hl => match us, hl with | [_, _], _ => rfl, .nil⟩
  have D_law_draw : ∀ base, DO P w K mg base 2 "_law_draw" ["bag", "many"] [] (S2 (φdraw K)) := fun base => ⟨_, _, [], ok_law_draw F_law_draw T (D_law_stirred base), He.glo_ok X G (c.fact 18 (f := .glo "_law_draw") rfl), F_law_draw.kp, F_law_draw.bindsN fun _ _ _ _ _ _ us hl => match us, hl with | [_, _], _ => rfl, .nil⟩
  have D_law_alike : ∀ base, DO P w K mg base 6 "_law_alike" ["found", "due"] [] (S2 (φalike K 6)) := fun base => recDO (φ := fun n => (S2 (φalike K n))) (fun vs H Q E h => alike0 h) (He.glo_ok X G (c.fact 19 (f := .glo "_law_alike") rfl)) F_law_alike.kp (F_law_alike.bindsN fun _ _ _ _ _ _ us hl => match us, hl with | [_, _], _ => rfl) (fun n ih => ok_law_alike F_law_alike T ih) 6
  have D_law_signs : ∀ base, DO P w K mg base 1 "_law_signs" [] [] (S0 φsigns) := fun base => ⟨_, _, [], ok_law_signs F_law_signs T , He.glo_ok X G (c.fact 20 (f := .glo "_law_signs") rfl), F_law_signs.kp, F_law_signs.bindsN fun _ _ _ _ _ _ us hl => match us, hl with | [], _ => rfl, .nil⟩
  have D_law_text : ∀ base, DO P w K mg base 3 "_law_text" ["bag", "size"] [] (S2 (φtextN K)) := fun base => ⟨_, _, [], ok_law_text F_law_text T (D_law_draw base) (D_law_signs base), He.glo_ok X G (c.fact 21 (f := .glo "_law_text") rfl), F_law_text.kp, F_law_text.bindsN fun _ _ _ _ _ _ us hl => match us, hl with | [_, _], _ => rfl, .nil⟩
  have D_law_row : ∀ base, DO P w K mg base 4 "_law_row" ["bag", "size", "left", "last"] [] (S4 (φrow1 K)) := fun base => ⟨_, _, [], ok_law_row F_law_row T (D_law_draw base) (D_law_text base), He.glo_ok X G (c.fact 22 (f := .glo "_law_row") rfl), F_law_row.kp, F_law_row.bindsN fun _ _ _ _ _ _ us hl => match us, hl with | [_, _, _, _], _ => rfl, .nil⟩
  have D_law_rows : ∀ base, DO P w K mg base 5 "_law_rows" ["bag", "size", "many", "most"] [] (S4 (φrows1 K)) := fun base => ⟨_, _, [], ok_law_rows F_law_rows T (D_law_draw base) (D_law_row base), He.glo_ok X G (c.fact 23 (f := .glo "_law_rows") rfl), F_law_rows.kp, F_law_rows.bindsN fun _ _ _ _ _ _ us hl => match us, hl with | [_, _, _, _], _ => rfl, .nil⟩
  have D_law_cells : ∀ base, DO P w K mg base 1 "_law_cells" ["rows"] [] (S1 (φlcells K)) := fun base => ⟨_, _, [], ok_law_cells F_law_cells T , He.glo_ok X G (c.fact 24 (f := .glo "_law_cells") rfl), F_law_cells.kp, F_law_cells.bindsN fun _ _ _ _ _ _ us hl => match us, hl with | [_], _ => rfl, .nil⟩
  have D_law_done : ∀ base, DO P w K mg base 1 "_law_done" ["cells", "old"] [] (S2 (φldone K)) := fun base => ⟨_, _, [], ok_law_done F_law_done T , He.glo_ok X G (c.fact 25 (f := .glo "_law_done") rfl), F_law_done.kp, F_law_done.bindsN fun _ _ _ _ _ _ us hl => match us, hl with | [_, _], _ => rfl, .nil⟩
  have D_law_due : ∀ base, DO P w K mg base 1 "_law_due" ["size", "rows"] [] (S2 (φdue01 K)) := fun base => ⟨_, _, [], ok_law_due F_law_due T , He.glo_ok X G (c.fact 26 (f := .glo "_law_due") rfl), F_law_due.kp, F_law_due.bindsN fun _ _ _ _ _ _ us hl => match us, hl with | [_, _], _ => rfl, .nil⟩
  have D_law_kind : ∀ base, DO P w K mg base 1 "_law_kind" ["e"] [] (S1 (φkind01 K)) := fun base => ⟨_, _, [], ok_law_kind F_law_kind T , He.glo_ok X G (c.fact 27 (f := .glo "_law_kind") rfl), F_law_kind.kp, F_law_kind.bindsN fun _ _ _ _ _ _ us hl => match us, hl with | [_], _ => rfl, .nil⟩
  have D_law_made : ∀ base, DO P w K mg base 5 "_law_made" ["size", "rows"] [] (S2 (φmade01 K)) := fun base => ⟨_, _, [], ok_law_made F_law_made T (D_law_kind base) (DNX_Change base), He.glo_ok X G (c.fact 28 (f := .glo "_law_made") rfl), F_law_made.kp, F_law_made.bindsN fun _ _ _ _ _ _ us hl => match us, hl with | [_, _], _ => rfl, .nil⟩
  have D_law_size_spoilt : ∀ base, DO P w K mg base 3 "_law_size_spoilt" ["bag", "size", "rows"] [] (S3 (φsizesp01 K)) := fun base => ⟨_, _, [], ok_law_size_spoilt F_law_size_spoilt T (D_law_draw base), He.glo_ok X G (c.fact 29 (f := .glo "_law_size_spoilt") rfl), F_law_size_spoilt.kp, F_law_size_spoilt.bindsN fun _ _ _ _ _ _ us hl => match us, hl with | [_, _, _], _ => rfl, .nil⟩
  have D_law_copy_bent : ∀ base, DO P w K mg base 3 "_law_copy_bent" ["bag", "size", "row"] [] (S3 (φcopybent01 K)) := fun base => ⟨_, _, [], ok_law_copy_bent F_law_copy_bent T (D_law_draw base), He.glo_ok X G (c.fact 30 (f := .glo "_law_copy_bent") rfl), F_law_copy_bent.kp, F_law_copy_bent.bindsN fun _ _ _ _ _ _ us hl => match us, hl with | [_, _, _], _ => rfl, .nil⟩
  have D_law_spoilt : ∀ base, DO P w K mg base 4 "_law_spoilt" ["bag", "size", "rows"] [] (S3 (φspoilt01 K)) := fun base => ⟨_, _, [], ok_law_spoilt F_law_spoilt T (D_law_copy_bent base) (D_law_draw base) (D_law_size_spoilt base) (D_law_text base), He.glo_ok X G (c.fact 31 (f := .glo "_law_spoilt") rfl), F_law_spoilt.kp, F_law_spoilt.bindsN fun _ _ _ _ _ _ us hl => match us, hl with | [_, _, _], _ => rfl, .nil⟩
  have D_law_field : ∀ base, DO P w K mg base 3 "_law_field" ["number"] [] (S1 (φfield01 K)) := fun base => ⟨_, _, [], ok_law_field F_law_field T (DXI_BadRow base), He.glo_ok X G (c.fact 32 (f := .glo "_law_field") rfl), F_law_field.kp, F_law_field.bindsN fun _ _ _ _ _ _ us hl => match us, hl with | [_], _ => rfl, .nil⟩
  have D_law_stays : ∀ base, DO P w K mg base 10 "_law_stays" ["found", "size", "rows", "old"] [] (S4 (φstays01 K)) := fun base => ⟨_, _, [], ok_law_stays F_law_stays T (D_law_alike base) (D_law_cells base) (D_law_done base) (DM_ChangeX_eqX base) (DM_ChangeX_lenX base) (DM_ChangeX_strX base) (DM_Change_cells base) (DM_Change_done base) (DN_Change_2 base), He.glo_ok X G (c.fact 33 (f := .glo "_law_stays") rfl), F_law_stays.kp, F_law_stays.bindsN fun _ _ _ _ _ _ us hl => match us, hl with | [_, _, _, _], _ => rfl, .nil⟩
  have D_law_right : ∀ base, DO P w K mg base 11 "_law_right" ["bag", "size", "rows"] [] (S3 (φright01 K)) := fun base => ⟨_, _, [], ok_law_right F_law_right T (D_law_alike base) (D_law_draw base) (D_law_due base) (D_law_made base) (D_law_stays base) (D_law_text base), He.glo_ok X G (c.fact 34 (f := .glo "_law_right") rfl), F_law_right.kp, F_law_right.bindsN fun _ _ _ _ _ _ us hl => match us, hl with | [_, _, _], _ => rfl, .nil⟩
  have e := hfa.symm.trans (He.glo_ok X G (c.fact 35 (f := .glo "law") rfl))
  cases e
  have b := FunD.bindsA (ps := ["script"]) F_law fun _ _ _ _ _ _ us hl => match us, hl with | [_], _ => rfl
  exact ⟨fd_law, fun s v => b s [v] rfl, fun base _ _ => ok_law F_law T (D_law_alike base) (D_law_bag base) (D_law_draw base) (D_law_field base) (D_law_right base) (D_law_rows base) (D_law_spoilt base)⟩
end Z
theorem PySem.Challenge.cw_remadehere_k01_changes_made_holds : PySem.Challenge.rw_remadehere_k01_changes_made.Holds :=
  Z.close fun _ _ _ _ _ _ X G hfa c ex => Z.facts X G hfa c ex
