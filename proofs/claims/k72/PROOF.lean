import PyProof.Rows.All
import Wide.All
import OpenK.AllK
import Wide.FinOn
import KE.KStateDown
import Lean
import HandS.Base
import HandS.Call
import HandS.List
import HandS.Comp
import HandS.Ends
import HandS.Dict
import HandS.Iter
import HandS.Text
import HandS.Words
import HandS.WordsList
import HandS.Defaults
import HandS.IsInst
import HandS.Wide
import HandS.WideBits
import HandS.Conv
import HandS.Flow
import HandS.Style
import HandS.Flt
import HandS.More
import HandS.Set
import HandS.SetFor
import HandS.Strs
import HandS.SortInts
import HandS.MakeKw
import HandS.MakeKwOnly
import HandS.Codes
import HandS.SetKeys
import HandS.FStr
import HandS.SortKw
import HandS.NoneIn
import HandS.Head0
import HandS.Head1
import HandS.Head2
import HandS.HeadEnd
import HandS.HeadHook1
import HandS.HeadHook2
import PyProof.DictMoreH
import PyProof.ListStr
import HandS.OwnEq
import PyProof.StrLawsIn
import PyProof.StrLawsFirst
import PyProof.StrOps2
import HandS.Exc
import HandS.ExcOwn
import HandS.TryOnly
import HandS.WordsExc
import HandS.RevTup
import HandS.Rev
import PyProof.CallStr
import PyProof.FString2
import PyProof.FString3
import OpenK.KOps
import HandS.RevRange
import HandS.TupLe
import HandS.ExcInit
import HandS.ExcField
import KE.KExcInit
import HandS.ExcIs
import KE.KIsAll
import KE.KTryMore
import HandS.RaiseMore
import KE.DatumOrd
import KE.DataMinMax
import PyProof.InstNe
import KE.KIntText
import KE.IntTextLaws
import HandS.Deep
import KE.IntTextText
import PySem.Challenge.RW_remadehere_k72_changes_spoilt
set_option Elab.async false
set_option linter.all false
set_option maxRecDepth 100000
set_option maxHeartbeats 8000000
set_option synthInstance.maxHeartbeats 2000000
set_option synthInstance.maxSize 100000
namespace R
open PySem L2
/-! ### steps as classes: one look finds the rule for a goal -/
class Step (P : Prop) (Q : outParam Prop) : Prop where mk ::
  h : Q → P
class StepO (P : Prop) (Q : outParam Prop) : Prop where mk ::
  h : Q → P
class StepN (P : Prop) (Q : outParam Prop) : Prop where mk ::
  h : Q → P
class SideK (P : Prop) (k : Nat) : Prop where mk ::
/-- rows of steps: the new walk's, the old walk's -/
class GoN (P : Prop) (Q : outParam Prop) : Prop where mk ::
  h : Q → P
class GoO (P : Prop) (Q : outParam Prop) : Prop where mk ::
  h : Q → P
instance (priority := low) goN_end {P : Prop} : GoN P P := ⟨id⟩
instance (priority := low) goO_end {P : Prop} : GoO P P := ⟨id⟩
instance goN_n {P Q R : Prop} [s : StepN P Q] [g : GoN Q R] : GoN P R := ⟨fun r => s.h (g.h r)⟩
instance goO_o {P Q R : Prop} [s : StepO P Q] [g : GoO Q R] : GoO P R := ⟨fun r => s.h (g.h r)⟩
instance goN_s {P Q R : Prop} [s : Step P Q] [g : GoN Q R] : GoN P R := ⟨fun r => s.h (g.h r)⟩
instance goO_s {P Q R : Prop} [s : Step P Q] [g : GoO Q R] : GoO P R := ⟨fun r => s.h (g.h r)⟩
theorem goNS {P Q R : Prop} [s : Step P Q] [g : GoN Q R] (r : R) : P := s.h (g.h r)
theorem goNN {P Q R : Prop} [s : StepN P Q] [g : GoN Q R] (r : R) : P := s.h (g.h r)
theorem goOS {P Q R : Prop} [s : Step P Q] [g : GoO Q R] (r : R) : P := s.h (g.h r)
theorem goOO {P Q R : Prop} [s : StepO P Q] [g : GoO Q R] (r : R) : P := s.h (g.h r)
theorem sideI {P : Prop} (k : Nat) [SideK P k] (q : P) : P := q
/-! ### worlds: F the part that stays, H all that is tracked -/
theorem ne_none {α : Type} {o : Option α} {x : α} (h : o = some x) : o ≠ none := fun e => by rw [h] at e; cases e
theorem Same.new {H : Hp} {p : Addr} {o : HO} (h : H p = none) : Same H (upd H p o) := fun a u e => by
  rw [upd_ne (ne_of_none e h)]
  exact e
theorem rd_same {F H : Hp} {a : Addr} {u : HO} (e : Same F H) (h : Rd F a u) : Rd H a u := by
  rcases h with h | ⟨o, h⟩
  · exact .inl (e _ _ h)
  · exact .inr ⟨o, e _ _ h⟩
theorem sqL_same {K : PySem.W.Frag} {F H : Hp} {a : Addr} {xs : List V} (e : Same F H) (h : SqL K F a xs) : SqL K H a xs := by
  rcases h with h | h
  · exact .inl (rd_same e h)
  · exact .inr h
theorem sqT_same {K : PySem.W.Frag} {F H : Hp} {a : Addr} {xs : List V} (e : Same F H) (h : SqT K F a xs) : SqT K H a xs := by
  rcases h with h | h
  · exact .inl (rd_same e h)
  · exact .inr h
theorem sqL_of {K : PySem.W.Frag} {H : Hp} {a : Addr} {xs : List V} (h : H a = some (.lst xs)) : SqL K H a xs := .inl (.inl h)
theorem sqT_of {K : PySem.W.Frag} {H : Hp} {a : Addr} {xs : List V} (h : H a = some (.tup xs)) : SqT K H a xs := .inl (.inl h)
mutual
theorem dp_same {K : PySem.W.Frag} {F H : Hp} (e : Same F H) : ∀ (d : PyData) (v : V), Dp K F v d → Dp K H v d
  | .none, _, .non => .non
  | .bool _, _, .bl b => .bl b
  | .int _, _, .int i => .int i
  | .str _, _, .str x => .str x
  | .list ds, _, .lst h hs => .lst (sqL_same e h) (dpa_same e ds _ hs)
  | .tuple ds, _, .tup h hs => .tup (sqT_same e h) (dpa_same e ds _ hs)
theorem dpa_same {K : PySem.W.Frag} {F H : Hp} (e : Same F H) : ∀ (ds : List PyData) (vs : List V), DpAll K F vs ds → DpAll K H vs ds
  | [], _, .nil => .nil
  | d :: ds, _, .cons h hs => .cons (dp_same e d _ h) (dpa_same e ds _ hs)
end
/-- what a deed does: F grows to F2, H to H2; of what H has outside of F only the objects at M change -/
structure Gr (M : List Addr) (F H F2 H2 : Hp) : Prop where
  ff : Same F F2
  fh : Same F2 H2
  hh : ∀ a o, a ∉ M → H a = some o → H2 a = some o
  al : ∀ a, H a ≠ none → H2 a ≠ none
  nw : ∀ a, H a ≠ none → F a = none → F2 a = none
theorem Gr.refl {M : List Addr} {F H : Hp} (h : Same F H) : Gr M F H F H := ⟨Same.refl F, h, fun _ _ _ e => e, fun _ e => e, fun _ _ e => e⟩
theorem Gr.trans {M : List Addr} {F H F1 H1 F2 H2 : Hp} (a : Gr M F H F1 H1) (b : Gr M F1 H1 F2 H2) : Gr M F H F2 H2 :=
  ⟨a.ff.trans b.ff, b.fh, fun x o n e => b.hh x o n (a.hh x o n e), fun x e => b.al x (a.al x e), fun x e n => b.nw x (a.al x e) (a.nw x e n)⟩
/-- a new object that stays -/
theorem Gr.im {M : List Addr} {F H : Hp} {p : Addr} {o : HO} (w : Same F H) (h : H p = none) : Gr M F H (upd F p o) (upd H p o) := by
  have hF : F p = none := w.free h
  refine ⟨Same.new hF, fun a u e => ?_, fun a u _ e => ?_, fun a e => ?_, fun a e n => ?_⟩
  · by_cases q : a = p
    · subst q
      rw [upd_same] at e ⊢
      exact e
    · rw [upd_ne q] at e ⊢
      exact w a u e
  · rw [upd_ne (ne_of_none e h)]
    exact e
  · by_cases q : a = p
    · subst q
      rw [upd_same]
      exact fun z => nomatch z
    · rw [upd_ne q]
      exact e
  · have q : a ≠ p := fun z => by subst z; exact e h
    rw [upd_ne q]
    exact n
/-- a new object that may change -/
theorem Gr.new {M : List Addr} {F H : Hp} {p : Addr} {o : HO} (w : Same F H) (h : H p = none) : Gr M F H F (upd H p o) := by
  refine ⟨Same.refl F, w.trans (Same.new h), fun a u _ e => ?_, fun a e => ?_, fun a e n => n⟩
  · rw [upd_ne (ne_of_none e h)]
    exact e
  · by_cases q : a = p
    · subst q
      rw [upd_same]
      exact fun z => nomatch z
    · rw [upd_ne q]
      exact e
/-- a change of an object that may change -/
theorem Gr.wr {M : List Addr} {F H : Hp} {p : Addr} {o : HO} (w : Same F H) (h : F p = none) (hm : p ∈ M) : Gr M F H F (upd H p o) := by
  refine ⟨Same.refl F, fun a u e => ?_, fun a u n e => ?_, fun a e => ?_, fun a e n => n⟩
  · have q : a ≠ p := ne_of_none e h
    rw [upd_ne q]
    exact w a u e
  · have q : a ≠ p := fun z => by subst z; exact n hm
    rw [upd_ne q]
    exact e
  · by_cases q : a = p
    · subst q
      rw [upd_same]
      exact fun z => nomatch z
    · rw [upd_ne q]
      exact e
/-- .. of one that was new behind the start -/
theorem Gr.wrn {M : List Addr} {F0 H0 F H : Hp} {p : Addr} {o : HO} (g : Gr M F0 H0 F H) (h : F p = none) (hn : H0 p = none) : Gr M F0 H0 F (upd H p o) := by
  refine ⟨g.ff, fun a u e => ?_, fun a u n e => ?_, fun a e => ?_, g.nw⟩
  · have q : a ≠ p := ne_of_none e h
    rw [upd_ne q]
    exact g.fh a u e
  · have q : a ≠ p := fun z => by subst z; rw [hn] at e; cases e
    rw [upd_ne q]
    exact g.hh a u n e
  · by_cases q : a = p
    · subst q
      rw [upd_same]
      exact fun z => nomatch z
    · rw [upd_ne q]
      exact g.al a e
/-- an object that may change -/
structure Mu (F H : Hp) (p : Addr) (o : HO) : Prop where
  n : F p = none
  h : H p = some o
theorem Gr.mu {M : List Addr} {F H F2 H2 : Hp} {p : Addr} {o : HO} (g : Gr M F H F2 H2) (m : Mu F H p o) (hp : p ∉ M) : Mu F2 H2 p o := ⟨g.nw p (ne_none m.h) m.n, g.hh p o hp m.h⟩
theorem Gr.mu0 {F H F2 H2 : Hp} {p : Addr} {o : HO} (g : Gr [] F H F2 H2) (m : Mu F H p o) : Mu F2 H2 p o := g.mu m (fun h => nomatch h)
theorem Mu.new {F H : Hp} {p : Addr} {o : HO} (w : Same F H) (h : H p = none) : Mu F (upd H p o) p o := ⟨w.free h, upd_same⟩
theorem Mu.wr {F H : Hp} {p : Addr} {o u : HO} (m : Mu F H p o) : Mu F (upd H p u) p u := ⟨m.n, upd_same⟩
theorem Mu.oth {F H : Hp} {p q : Addr} {o u : HO} (m : Mu F H p o) (h : p ≠ q) : Mu F (upd H q u) p o := ⟨m.n, by rw [upd_ne h]; exact m.h⟩
theorem Mu.sq {K : PySem.W.Frag} {F H : Hp} {p : Addr} {xs : List V} (m : Mu F H p (.lst xs)) : SqL K H p xs := sqL_of m.h
theorem Mu.ne_new {F H : Hp} {p q : Addr} {o : HO} (m : Mu F H p o) (h : H q = none) : p ≠ q := ne_of_none m.h h
/-! ### promises by the number of arguments -/
def S1 (φ : V → Hp → VK → Prop) : Sp := fun vs H Q _ => match vs with
  | [a] => φ a H Q
  | _ => False
def S2 (φ : V → V → Hp → VK → Prop) : Sp := fun vs H Q _ => match vs with
  | [a, b] => φ a b H Q
  | _ => False
def S3 (φ : V → V → V → Hp → VK → Prop) : Sp := fun vs H Q _ => match vs with
  | [a, b, c] => φ a b c H Q
  | _ => False
def S4 (φ : V → V → V → V → Hp → VK → Prop) : Sp := fun vs H Q _ => match vs with
  | [a, b, c, d] => φ a b c d H Q
  | _ => False
def S5 (φ : V → V → V → V → V → Hp → VK → Prop) : Sp := fun vs H Q _ => match vs with
  | [a, b, c, d, e] => φ a b c d e H Q
  | _ => False
def S6 (φ : V → V → V → V → V → V → Hp → VK → Prop) : Sp := fun vs H Q _ => match vs with
  | [a, b, c, d, e, f] => φ a b c d e f H Q
  | _ => False
def S7 (φ : V → V → V → V → V → V → V → Hp → VK → Prop) : Sp := fun vs H Q _ => match vs with
  | [a, b, c, d, e, f, g] => φ a b c d e f g H Q
  | _ => False
def S0 (φ : Hp → VK → Prop) : Sp := fun vs H Q _ => match vs with
  | [] => φ H Q
  | _ => False
theorem S0.len {φ : Hp → VK → Prop} {vs : List V} {H : Hp} {Q : VK} {E : XK} (h : S0 φ vs H Q E) : vs.length = 0 := by
  match vs, h with
  | [], _ => rfl
theorem S1.len {φ : V → Hp → VK → Prop} {vs : List V} {H : Hp} {Q : VK} {E : XK} (h : S1 φ vs H Q E) : vs.length = 1 := by
  match vs, h with
  | [_], _ => rfl
theorem S2.len {φ : V → V → Hp → VK → Prop} {vs : List V} {H : Hp} {Q : VK} {E : XK} (h : S2 φ vs H Q E) : vs.length = 2 := by
  match vs, h with
  | [_, _], _ => rfl
theorem S3.len {φ : V → V → V → Hp → VK → Prop} {vs : List V} {H : Hp} {Q : VK} {E : XK} (h : S3 φ vs H Q E) : vs.length = 3 := by
  match vs, h with
  | [_, _, _], _ => rfl
theorem S4.len {φ : V → V → V → V → Hp → VK → Prop} {vs : List V} {H : Hp} {Q : VK} {E : XK} (h : S4 φ vs H Q E) : vs.length = 4 := by
  match vs, h with
  | [_, _, _, _], _ => rfl
theorem S5.len {φ : V → V → V → V → V → Hp → VK → Prop} {vs : List V} {H : Hp} {Q : VK} {E : XK} (h : S5 φ vs H Q E) : vs.length = 5 := by
  match vs, h with
  | [_, _, _, _, _], _ => rfl
theorem S6.len {φ : V → V → V → V → V → V → Hp → VK → Prop} {vs : List V} {H : Hp} {Q : VK} {E : XK} (h : S6 φ vs H Q E) : vs.length = 6 := by
  match vs, h with
  | [_, _, _, _, _, _], _ => rfl
theorem S7.len {φ : V → V → V → V → V → V → V → Hp → VK → Prop} {vs : List V} {H : Hp} {Q : VK} {E : XK} (h : S7 φ vs H Q E) : vs.length = 7 := by
  match vs, h with
  | [_, _, _, _, _, _, _], _ => rfl
/-! ### a def as it stands, with its promise -/
structure DO (P : Program) (w : World) (K : PySem.W.Frag) (mg : Str → Option Value) (base : Heap) (k : Nat) (x : Str) (ps : List Str) (dvs : List V) (sp : Sp) : Prop where
  ex : ∃ (f : Addr) (fd : FuncData) (ds : List Value), FnOk P w K mg base CX0 k f fd ps sp ∧ mg x = some (.ref f) ∧ PySem.W.keepIn K (.ref f) = true ∧ Binds K fd ps ds ∧ Vals dvs ds
section
variable {X : Cx} {k j : Nat} {ps : List Str} {sp : Sp} {dvs : List V} {x : Str} {p pos : Pos} {e : Expr} {es : List Expr} {t : TA}
theorem pcall (D : DO X.prog X.w X.K X.mg X.base k x ps dvs sp) (hr : Room j X.A) (ha : PA X (e :: es) t) (hj : k ≤ j := by first | decide | exact Nat.le_refl _ | omega) (hg : Gl X x := by rfl) (hdb : (x == ("__debug__" : Str)) = false := by decide)
    (he : starEach (e :: es) X.env = (false, eval e X.env) :: starEach es X.env := by rfl) (hpl : (backTo pos (starEach es X.env)).any (·.1) = false := by rfl) :
    PE X (.Call (.Name x p) (e :: es) [] pos) (tCall sp dvs E0 t) := by
  obtain ⟨f, fd, ds, F, hm, hk, hb, hd⟩ := D.ex
  exact pe_call F (hr.mono hj) hg hm hk hb hd pass0 ha hdb he hpl
theorem pcall0 (D : DO X.prog X.w X.K X.mg X.base k x ps dvs sp) (hr : Room j X.A) (hj : k ≤ j := by first | decide | exact Nat.le_refl _ | omega) (hg : Gl X x := by rfl) (hdb : (x == ("__debug__" : Str)) = false := by decide) :
    PE X (.Call (.Name x p) [] [] pos) (tCall sp dvs E0 tNil) := by
  obtain ⟨f, fd, ds, F, hm, hk, hb, hd⟩ := D.ex
  exact pe_call0 F (hr.mono hj) hg hm hk hb hd pass0 hdb
end
theorem recDO {P : Program} {w : World} {K : PySem.W.Frag} {mg : Str → Option Value} {base : Heap} {x : Str} {f : Addr} {fd : FuncData} {ps : List Str} {φ : Nat → Sp} (h0 : ∀ vs H Q E, φ 0 vs H Q E → False) (hm : mg x = some (.ref f)) (hk : PySem.W.keepIn K (.ref f) = true) (hb : Binds K fd ps [])
    (hs : ∀ n, DO P w K mg base n x ps [] (φ n) → FnOk P w K mg base CX0 (n + 1) f fd ps (φ (n + 1))) : ∀ n, DO P w K mg base n x ps [] (φ n)
  | 0 => ⟨f, fd, [], ⟨fun vs H Q E h => (h0 vs H Q E h).elim, fun A outer s H args us vs Q E _ _ _ _ h => (h0 vs H Q E h).elim⟩, hm, hk, hb, .nil⟩
  | n + 1 => ⟨f, fd, [], hs n (recDO h0 hm hk hb hs n), hm, hk, hb, .nil⟩
/-! ### calls with keywords -/
theorem pe_gint {X : Cx} {x : Str} {i : Int} {pos : Pos} (hg : Gl X x) (hm : ∃ t, X.mg x = some (.int i t)) (hd : (x == ("__debug__" : Str)) = false := by decide) : PE X (.Name x pos) (tC (.int i)) := by
  obtain ⟨t, h⟩ := hm
  exact pe_glob hg h ⟨_, rfl⟩ hd
/-! ### rules with the written part by its own name -/
section
variable {X : Cx} {K : PySem.W.Frag}
theorem ixL (h : X.K = K := by rfl) : IxR X (rIxL K) := by subst h; exact ix_list
theorem ixT (h : X.K = K := by rfl) : IxR X (rIxT K) := by subst h; exact ix_tup
theorem ixQ (h : X.K = K := by rfl) : IxR X (rIx K) := by subst h; exact ix_seq
theorem slL (h : X.K = K := by rfl) : SlR X (rSlL K) := by subst h; exact sl_list
theorem slT (h : X.K = K := by rfl) : SlR X (rSlT K) := by subst h; exact sl_tup
theorem opNeD (A : X.A.units + 64 < cLine) (h : X.K = K := by rfl) : OpR X (compareOp .NotEq) (rNeD K) := by subst h; exact op_neD A
def rLenQ (K : PySem.W.Frag) : List V → Hp → VK → Prop := fun xs H Q => ∃ p ys, xs = [.ref p] ∧ (SqL K H p ys ∨ SqT K H p ys) ∧ Q (.int ys.length) H
def rListOf (K : PySem.W.Frag) : List V → Hp → VK → Prop := fun xs H Q => ∃ p ys, xs = [.ref p] ∧ (SqL K H p ys ∨ SqT K H p ys) ∧ ∀ l, H l = none → Q (.ref l) (upd H l (.lst ys))
def rLenS : List V → Hp → VK → Prop := fun xs H Q => ∃ z, xs = [.str z] ∧ z.length ≤ sizeLine ∧ Q (.int z.length) H
def rInt1 : List V → Hp → VK → Prop := fun xs H Q => (∃ i, xs = [.int i] ∧ Q (.int i) H) ∨ ∃ k, xs = [.bl k] ∧ Q (.int (if k then 1 else 0)) H
def rAbs : List V → Hp → VK → Prop := fun xs H Q => ∃ i, xs = [.int i] ∧ Q (.int (if i < 0 then -i else i)) H
def rMin2 : List V → Hp → VK → Prop := fun xs H Q => ∃ i j, xs = [.int i, .int j] ∧ Q (.int (if j < i then j else i)) H
def rMax2 : List V → Hp → VK → Prop := fun xs H Q => ∃ i j, xs = [.int i, .int j] ∧ Q (.int (if j > i then j else i)) H
theorem clLenQ (h : X.K = K := by rfl) : CallR X (.builtin "len") (rLenQ K) := by subst h; exact call_len_seq
theorem clLenS : CallR X (.builtin "len") rLenS := call_len_str
theorem clListOf (h : X.K = K := by rfl) : CallR X (.type "list") (rListOf K) := by subst h; exact call_list_of
theorem clInt1 : CallR X (.type "int") rInt1 := call_int1
theorem clAbs : CallR X (.builtin "abs") rAbs := call_abs
theorem clMin2 (hc : X.calm = true := by rfl) : CallR X (.builtin "min") rMin2 := call_min2 hc
theorem clAll (hc : X.calm = true := by rfl) (h : X.K = K := by rfl) : CallR X (.builtin "all") (rAll K) := by subst h; exact cr_all hc
theorem clIsi (h : X.K = K := by rfl) : CallR X (.builtin "isinstance") (rIsi K) := by subst h; exact call_isi
theorem clIsiT (h : X.K = K := by rfl) : CallR X (.builtin "isinstance") (rIsiT K) := by subst h; exact call_isiT
def tTruth (K : PySem.W.Frag) (ta : TE) : TT := fun σ H Q => ta σ H fun x H' => ∃ k, TruV K x H' k ∧ Q k H'
variable {o e : Expr} {es : List Expr} {to te : TE} {t : TA} {name : Str} {apos cpos : Pos} {T id : String} {r : V → List V → Hp → VK → Prop}
theorem peBM (pa : PlainAttrs T) (slot : Slot T name id) (hty : typeOf (.builtin id) = pure (.type "method_descriptor")) (hm : MtR X id r) (ho : PE X o to) (ha : PA X (e :: es) t) (h : X.K = K := by rfl)
    (hbase : attributeBase o name X.env (eval o X.env) = eval o X.env := by rfl)
    (hfew : ((backTo cpos (starEach (e :: es) X.env)).all (fun x => !x.1) && (backToKw cpos (keywordEach [] X.env)).all (fun x => x.1.isSome)
      && decide ((e :: es).length + ([] : List Keyword).length + (if ([] : List Keyword).isEmpty then 0 else 1) < 30)) = true := by rfl)
    (hline : (apos.endLine == cpos.line) = true := by rfl) (hs : starEach (e :: es) X.env = (false, eval e X.env) :: starEach es X.env := by rfl) (hplain : (backTo cpos (starEach es X.env)).any (·.1) = false := by rfl) :
    PE X (.Call (.Attribute o name apos) (e :: es) [] cpos) (tBM K T r to t) := by
  subst h
  exact pe_bm pa slot hty hm ho ha hbase hfew hline hs hplain
def rJoin (K : PySem.W.Frag) : V → List V → Hp → VK → Prop := fun x xs H Q => ∃ a p, ∃ ys : List Str, x = .str a ∧ xs = [.ref p] ∧ (SqL K H p (ys.map V.str) ∨ SqT K H p (ys.map V.str)) ∧
      (ys.map (·.length)).sum + ys.length * a.length ≤ 16777216 ∧ Q (.str (Txt.join a ys)) H
theorem peJoin (ho : PE X o to) (he : PE X e te) (h : X.K = K := by rfl) (hs : starEach [e] X.env = [(false, eval e X.env)] := by rfl) (hbase : attributeBase o "join" X.env (eval o X.env) = eval o X.env := by rfl) (hline : (apos.endLine == cpos.line) = true := by rfl) :
    PE X (.Call (.Attribute o "join" apos) [e] [] cpos) (tM1 (rJoin K) to te) := by
  subst h
  exact pe_join ho he hs hbase hline
theorem peFld {f : Str} {pos : Pos} (he : PE X o to) (h : X.K = K := by rfl) (hb : attributeBase o f X.env (eval o X.env) = eval o X.env := by rfl) : PE X (.Attribute o f pos) (tFld K to f) := by
  subst h
  exact pe_fld he hb
end
/-! ### steps of a reading -/
section
variable {K : PySem.W.Frag} {σ : L2.St} {H : Hp} {Q : VK} {ta tb te : TE} {x y v : V} {nx bk ct : L2.St → Hp → Prop} {rt : VK}
-- slots
section
variable {a0 a1 a2 a3 a4 a5 a6 a7 a8 a9 a10 a11 a12 a13 : Option V} {r : L2.St}
theorem w_v0 (q : Q v H) : tVar 0 (some v :: r) H Q := ⟨v, rfl, q⟩
instance : Step (tVar 0 (some v :: r) H Q) (Q v H) := ⟨w_v0⟩ -- st
theorem w_v1 (q : Q v H) : tVar 1 (a0 :: some v :: r) H Q := ⟨v, rfl, q⟩
instance : Step (tVar 1 (a0 :: some v :: r) H Q) (Q v H) := ⟨w_v1⟩ -- st
theorem w_v2 (q : Q v H) : tVar 2 (a0 :: a1 :: some v :: r) H Q := ⟨v, rfl, q⟩
instance : Step (tVar 2 (a0 :: a1 :: some v :: r) H Q) (Q v H) := ⟨w_v2⟩ -- st
theorem w_v3 (q : Q v H) : tVar 3 (a0 :: a1 :: a2 :: some v :: r) H Q := ⟨v, rfl, q⟩
instance : Step (tVar 3 (a0 :: a1 :: a2 :: some v :: r) H Q) (Q v H) := ⟨w_v3⟩ -- st
theorem w_v4 (q : Q v H) : tVar 4 (a0 :: a1 :: a2 :: a3 :: some v :: r) H Q := ⟨v, rfl, q⟩
instance : Step (tVar 4 (a0 :: a1 :: a2 :: a3 :: some v :: r) H Q) (Q v H) := ⟨w_v4⟩ -- st
theorem w_v5 (q : Q v H) : tVar 5 (a0 :: a1 :: a2 :: a3 :: a4 :: some v :: r) H Q := ⟨v, rfl, q⟩
instance : Step (tVar 5 (a0 :: a1 :: a2 :: a3 :: a4 :: some v :: r) H Q) (Q v H) := ⟨w_v5⟩ -- st
theorem w_v6 (q : Q v H) : tVar 6 (a0 :: a1 :: a2 :: a3 :: a4 :: a5 :: some v :: r) H Q := ⟨v, rfl, q⟩
instance : Step (tVar 6 (a0 :: a1 :: a2 :: a3 :: a4 :: a5 :: some v :: r) H Q) (Q v H) := ⟨w_v6⟩ -- st
theorem w_v7 (q : Q v H) : tVar 7 (a0 :: a1 :: a2 :: a3 :: a4 :: a5 :: a6 :: some v :: r) H Q := ⟨v, rfl, q⟩
instance : Step (tVar 7 (a0 :: a1 :: a2 :: a3 :: a4 :: a5 :: a6 :: some v :: r) H Q) (Q v H) := ⟨w_v7⟩ -- st
theorem w_v8 (q : Q v H) : tVar 8 (a0 :: a1 :: a2 :: a3 :: a4 :: a5 :: a6 :: a7 :: some v :: r) H Q := ⟨v, rfl, q⟩
instance : Step (tVar 8 (a0 :: a1 :: a2 :: a3 :: a4 :: a5 :: a6 :: a7 :: some v :: r) H Q) (Q v H) := ⟨w_v8⟩ -- st
theorem w_v9 (q : Q v H) : tVar 9 (a0 :: a1 :: a2 :: a3 :: a4 :: a5 :: a6 :: a7 :: a8 :: some v :: r) H Q := ⟨v, rfl, q⟩
instance : Step (tVar 9 (a0 :: a1 :: a2 :: a3 :: a4 :: a5 :: a6 :: a7 :: a8 :: some v :: r) H Q) (Q v H) := ⟨w_v9⟩ -- st
theorem w_v10 (q : Q v H) : tVar 10 (a0 :: a1 :: a2 :: a3 :: a4 :: a5 :: a6 :: a7 :: a8 :: a9 :: some v :: r) H Q := ⟨v, rfl, q⟩
instance : Step (tVar 10 (a0 :: a1 :: a2 :: a3 :: a4 :: a5 :: a6 :: a7 :: a8 :: a9 :: some v :: r) H Q) (Q v H) := ⟨w_v10⟩ -- st
theorem w_v11 (q : Q v H) : tVar 11 (a0 :: a1 :: a2 :: a3 :: a4 :: a5 :: a6 :: a7 :: a8 :: a9 :: a10 :: some v :: r) H Q := ⟨v, rfl, q⟩
instance : Step (tVar 11 (a0 :: a1 :: a2 :: a3 :: a4 :: a5 :: a6 :: a7 :: a8 :: a9 :: a10 :: some v :: r) H Q) (Q v H) := ⟨w_v11⟩ -- st
theorem w_v12 (q : Q v H) : tVar 12 (a0 :: a1 :: a2 :: a3 :: a4 :: a5 :: a6 :: a7 :: a8 :: a9 :: a10 :: a11 :: some v :: r) H Q := ⟨v, rfl, q⟩
instance : Step (tVar 12 (a0 :: a1 :: a2 :: a3 :: a4 :: a5 :: a6 :: a7 :: a8 :: a9 :: a10 :: a11 :: some v :: r) H Q) (Q v H) := ⟨w_v12⟩ -- st
theorem w_v13 (q : Q v H) : tVar 13 (a0 :: a1 :: a2 :: a3 :: a4 :: a5 :: a6 :: a7 :: a8 :: a9 :: a10 :: a11 :: a12 :: some v :: r) H Q := ⟨v, rfl, q⟩
instance : Step (tVar 13 (a0 :: a1 :: a2 :: a3 :: a4 :: a5 :: a6 :: a7 :: a8 :: a9 :: a10 :: a11 :: a12 :: some v :: r) H Q) (Q v H) := ⟨w_v13⟩ -- st
variable {N : L2.St → Hp → Prop}
theorem w_n0 (q : N (some v :: r) H) : gName 0 v (a0 :: r) H N := q
instance : Step (gName 0 v (a0 :: r) H N) (N (some v :: r) H) := ⟨w_n0⟩ -- st
theorem w_n1 (q : N (a0 :: some v :: r) H) : gName 1 v (a0 :: a1 :: r) H N := q
instance : Step (gName 1 v (a0 :: a1 :: r) H N) (N (a0 :: some v :: r) H) := ⟨w_n1⟩ -- st
theorem w_n2 (q : N (a0 :: a1 :: some v :: r) H) : gName 2 v (a0 :: a1 :: a2 :: r) H N := q
instance : Step (gName 2 v (a0 :: a1 :: a2 :: r) H N) (N (a0 :: a1 :: some v :: r) H) := ⟨w_n2⟩ -- st
theorem w_n3 (q : N (a0 :: a1 :: a2 :: some v :: r) H) : gName 3 v (a0 :: a1 :: a2 :: a3 :: r) H N := q
instance : Step (gName 3 v (a0 :: a1 :: a2 :: a3 :: r) H N) (N (a0 :: a1 :: a2 :: some v :: r) H) := ⟨w_n3⟩ -- st
theorem w_n4 (q : N (a0 :: a1 :: a2 :: a3 :: some v :: r) H) : gName 4 v (a0 :: a1 :: a2 :: a3 :: a4 :: r) H N := q
instance : Step (gName 4 v (a0 :: a1 :: a2 :: a3 :: a4 :: r) H N) (N (a0 :: a1 :: a2 :: a3 :: some v :: r) H) := ⟨w_n4⟩ -- st
theorem w_n5 (q : N (a0 :: a1 :: a2 :: a3 :: a4 :: some v :: r) H) : gName 5 v (a0 :: a1 :: a2 :: a3 :: a4 :: a5 :: r) H N := q
instance : Step (gName 5 v (a0 :: a1 :: a2 :: a3 :: a4 :: a5 :: r) H N) (N (a0 :: a1 :: a2 :: a3 :: a4 :: some v :: r) H) := ⟨w_n5⟩ -- st
theorem w_n6 (q : N (a0 :: a1 :: a2 :: a3 :: a4 :: a5 :: some v :: r) H) : gName 6 v (a0 :: a1 :: a2 :: a3 :: a4 :: a5 :: a6 :: r) H N := q
instance : Step (gName 6 v (a0 :: a1 :: a2 :: a3 :: a4 :: a5 :: a6 :: r) H N) (N (a0 :: a1 :: a2 :: a3 :: a4 :: a5 :: some v :: r) H) := ⟨w_n6⟩ -- st
theorem w_n7 (q : N (a0 :: a1 :: a2 :: a3 :: a4 :: a5 :: a6 :: some v :: r) H) : gName 7 v (a0 :: a1 :: a2 :: a3 :: a4 :: a5 :: a6 :: a7 :: r) H N := q
instance : Step (gName 7 v (a0 :: a1 :: a2 :: a3 :: a4 :: a5 :: a6 :: a7 :: r) H N) (N (a0 :: a1 :: a2 :: a3 :: a4 :: a5 :: a6 :: some v :: r) H) := ⟨w_n7⟩ -- st
theorem w_n8 (q : N (a0 :: a1 :: a2 :: a3 :: a4 :: a5 :: a6 :: a7 :: some v :: r) H) : gName 8 v (a0 :: a1 :: a2 :: a3 :: a4 :: a5 :: a6 :: a7 :: a8 :: r) H N := q
instance : Step (gName 8 v (a0 :: a1 :: a2 :: a3 :: a4 :: a5 :: a6 :: a7 :: a8 :: r) H N) (N (a0 :: a1 :: a2 :: a3 :: a4 :: a5 :: a6 :: a7 :: some v :: r) H) := ⟨w_n8⟩ -- st
theorem w_n9 (q : N (a0 :: a1 :: a2 :: a3 :: a4 :: a5 :: a6 :: a7 :: a8 :: some v :: r) H) : gName 9 v (a0 :: a1 :: a2 :: a3 :: a4 :: a5 :: a6 :: a7 :: a8 :: a9 :: r) H N := q
instance : Step (gName 9 v (a0 :: a1 :: a2 :: a3 :: a4 :: a5 :: a6 :: a7 :: a8 :: a9 :: r) H N) (N (a0 :: a1 :: a2 :: a3 :: a4 :: a5 :: a6 :: a7 :: a8 :: some v :: r) H) := ⟨w_n9⟩ -- st
theorem w_n10 (q : N (a0 :: a1 :: a2 :: a3 :: a4 :: a5 :: a6 :: a7 :: a8 :: a9 :: some v :: r) H) : gName 10 v (a0 :: a1 :: a2 :: a3 :: a4 :: a5 :: a6 :: a7 :: a8 :: a9 :: a10 :: r) H N := q
instance : Step (gName 10 v (a0 :: a1 :: a2 :: a3 :: a4 :: a5 :: a6 :: a7 :: a8 :: a9 :: a10 :: r) H N) (N (a0 :: a1 :: a2 :: a3 :: a4 :: a5 :: a6 :: a7 :: a8 :: a9 :: some v :: r) H) := ⟨w_n10⟩ -- st
theorem w_n11 (q : N (a0 :: a1 :: a2 :: a3 :: a4 :: a5 :: a6 :: a7 :: a8 :: a9 :: a10 :: some v :: r) H) : gName 11 v (a0 :: a1 :: a2 :: a3 :: a4 :: a5 :: a6 :: a7 :: a8 :: a9 :: a10 :: a11 :: r) H N := q
instance : Step (gName 11 v (a0 :: a1 :: a2 :: a3 :: a4 :: a5 :: a6 :: a7 :: a8 :: a9 :: a10 :: a11 :: r) H N) (N (a0 :: a1 :: a2 :: a3 :: a4 :: a5 :: a6 :: a7 :: a8 :: a9 :: a10 :: some v :: r) H) := ⟨w_n11⟩ -- st
theorem w_n12 (q : N (a0 :: a1 :: a2 :: a3 :: a4 :: a5 :: a6 :: a7 :: a8 :: a9 :: a10 :: a11 :: some v :: r) H) : gName 12 v (a0 :: a1 :: a2 :: a3 :: a4 :: a5 :: a6 :: a7 :: a8 :: a9 :: a10 :: a11 :: a12 :: r) H N := q
instance : Step (gName 12 v (a0 :: a1 :: a2 :: a3 :: a4 :: a5 :: a6 :: a7 :: a8 :: a9 :: a10 :: a11 :: a12 :: r) H N) (N (a0 :: a1 :: a2 :: a3 :: a4 :: a5 :: a6 :: a7 :: a8 :: a9 :: a10 :: a11 :: some v :: r) H) := ⟨w_n12⟩ -- st
theorem w_n13 (q : N (a0 :: a1 :: a2 :: a3 :: a4 :: a5 :: a6 :: a7 :: a8 :: a9 :: a10 :: a11 :: a12 :: some v :: r) H) : gName 13 v (a0 :: a1 :: a2 :: a3 :: a4 :: a5 :: a6 :: a7 :: a8 :: a9 :: a10 :: a11 :: a12 :: a13 :: r) H N := q
instance : Step (gName 13 v (a0 :: a1 :: a2 :: a3 :: a4 :: a5 :: a6 :: a7 :: a8 :: a9 :: a10 :: a11 :: a12 :: a13 :: r) H N) (N (a0 :: a1 :: a2 :: a3 :: a4 :: a5 :: a6 :: a7 :: a8 :: a9 :: a10 :: a11 :: a12 :: some v :: r) H) := ⟨w_n13⟩ -- st
end
-- expressions
theorem w_c (q : Q v H) : tC v σ H Q := q
instance : Step (tC v σ H Q) (Q v H) := ⟨w_c⟩ -- st
theorem w_op {r : R2} (q : ta σ H fun x H1 => tb σ H1 fun y H2 => r x y H2 Q) : tOp r ta tb σ H Q := q
instance {r : R2} : Step (tOp r ta tb σ H Q) (ta σ H fun x H1 => tb σ H1 fun y H2 => r x y H2 Q) := ⟨w_op⟩ -- st
theorem w_un {r : V → Hp → VK → Prop} (q : ta σ H fun x H1 => r x H1 Q) : tUn r ta σ H Q := q
instance {r : V → Hp → VK → Prop} : Step (tUn r ta σ H Q) (ta σ H fun x H1 => r x H1 Q) := ⟨w_un⟩ -- st
theorem w_add {i j : Int} (q : Q (.int (i + j)) H) : rI0 (fun i j => V.int (i + j)) (.int i) (.int j) H Q := ⟨i, j, rfl, rfl, q⟩
instance {i j : Int} : Step (rI0 (fun i j => V.int (i + j)) (.int i) (.int j) H Q) (Q (.int (i + j)) H) := ⟨w_add⟩ -- st
theorem w_subt {i j : Int} (q : Q (.int (i - j)) H) : rI0 (fun i j => V.int (i - j)) (.int i) (.int j) H Q := ⟨i, j, rfl, rfl, q⟩
instance {i j : Int} : Step (rI0 (fun i j => V.int (i - j)) (.int i) (.int j) H Q) (Q (.int (i - j)) H) := ⟨w_subt⟩ -- st
theorem w_lt {i j : Int} (q : Q (.bl (decide (i < j))) H) : rI0 (fun i j => V.bl (decide (i < j))) (.int i) (.int j) H Q := ⟨i, j, rfl, rfl, q⟩
instance {i j : Int} : Step (rI0 (fun i j => V.bl (decide (i < j))) (.int i) (.int j) H Q) (Q (.bl (decide (i < j))) H) := ⟨w_lt⟩ -- st
theorem w_le {i j : Int} (q : Q (.bl (decide (i ≤ j))) H) : rI0 (fun i j => V.bl (decide (i ≤ j))) (.int i) (.int j) H Q := ⟨i, j, rfl, rfl, q⟩
instance {i j : Int} : Step (rI0 (fun i j => V.bl (decide (i ≤ j))) (.int i) (.int j) H Q) (Q (.bl (decide (i ≤ j))) H) := ⟨w_le⟩ -- st
theorem w_gt {i j : Int} (q : Q (.bl (decide (j < i))) H) : rI0 (fun i j => V.bl (decide (j < i))) (.int i) (.int j) H Q := ⟨i, j, rfl, rfl, q⟩
instance {i j : Int} : Step (rI0 (fun i j => V.bl (decide (j < i))) (.int i) (.int j) H Q) (Q (.bl (decide (j < i))) H) := ⟨w_gt⟩ -- st
theorem w_ge {i j : Int} (q : Q (.bl (decide (j ≤ i))) H) : rI0 (fun i j => V.bl (decide (j ≤ i))) (.int i) (.int j) H Q := ⟨i, j, rfl, rfl, q⟩
instance {i j : Int} : Step (rI0 (fun i j => V.bl (decide (j ≤ i))) (.int i) (.int j) H Q) (Q (.bl (decide (j ≤ i))) H) := ⟨w_ge⟩ -- st
theorem w_mul {i j : Int} (c : CMul i j) (q : Q (.int (i * j)) H) : rI CMul (fun i j => V.int (i * j)) (.int i) (.int j) H Q := ⟨i, j, rfl, rfl, c, q⟩
instance {i j : Int} : SideK (rI CMul (fun i j => V.int (i * j)) (.int i) (.int j) H Q) 1 := ⟨⟩ -- st
theorem w_mod {i j : Int} (c : 0 < j) (q : Q (.int (i % j)) H) : rI (fun _ j => 0 < j) (fun i j => V.int (i % j)) (.int i) (.int j) H Q := ⟨i, j, rfl, rfl, c, q⟩
instance {i j : Int} : SideK (rI (fun _ j => 0 < j) (fun i j => V.int (i % j)) (.int i) (.int j) H Q) 1 := ⟨⟩ -- st
theorem w_fdiv {i j : Int} (c : CDivW i j) (q : Q (.int (i / j)) H) : rI CDivW (fun i j => V.int (i / j)) (.int i) (.int j) H Q := ⟨i, j, rfl, rfl, c, q⟩
instance {i j : Int} : SideK (rI CDivW (fun i j => V.int (i / j)) (.int i) (.int j) H Q) 1 := ⟨⟩ -- st
theorem w_pow {i j : Int} (c : CPow i j) (q : Q (.int (i ^ j.toNat)) H) : rI CPow (fun i j => V.int (i ^ j.toNat)) (.int i) (.int j) H Q := ⟨i, j, rfl, rfl, c, q⟩
instance {i j : Int} : SideK (rI CPow (fun i j => V.int (i ^ j.toNat)) (.int i) (.int j) H Q) 1 := ⟨⟩ -- st
theorem w_neg {i : Int} (q : Q (.int (-i)) H) : rU (fun i => V.int (-i)) (.int i) H Q := ⟨i, rfl, q⟩
instance {i : Int} : Step (rU (fun i => V.int (-i)) (.int i) H Q) (Q (.int (-i)) H) := ⟨w_neg⟩ -- st
def asInt (x : V) (H : Hp) (Z : Int → Hp → Prop) : Prop := ∃ i, x = .int i ∧ Z i H
def asBl (x : V) (H : Hp) (T : Bool → Hp → Prop) : Prop := ∃ k, x = .bl k ∧ T k H
theorem w_asInt {i : Int} {Z : Int → Hp → Prop} (q : Z i H) : asInt (.int i) H Z := ⟨i, rfl, q⟩
instance {i : Int} {Z : Int → Hp → Prop} : Step (asInt (.int i) H Z) (Z i H) := ⟨w_asInt⟩ -- st
theorem w_asBl {b : Bool} {T : Bool → Hp → Prop} (q : T b H) : asBl (.bl b) H T := ⟨b, rfl, q⟩
instance {b : Bool} {T : Bool → Hp → Prop} : Step (asBl (.bl b) H T) (T b H) := ⟨w_asBl⟩ -- st
theorem w_bits {to : TE} (q : to σ H fun x H1 => asInt x H1 fun i H2 => Q (.int (Builtin.Int.intBits i : Nat)) H2) : tBits to σ H Q := q
instance {to : TE} : Step (tBits to σ H Q) (to σ H fun x H1 => asInt x H1 fun i H2 => Q (.int (Builtin.Int.intBits i : Nat)) H2) := ⟨w_bits⟩ -- st
theorem w_eqI {i j : Int} (q : Q (.bl (decide (i = j))) H) : rEq (.int i) (.int j) H Q := ⟨rfl, by
  have e : decide (V.int i = V.int j) = decide (i = j) := by
    by_cases h : i = j
    · subst h; simp
    · rw [decide_eq_false h, decide_eq_false fun z => h (V.int.inj z)]
  rw [e]
  exact q⟩
instance {i j : Int} : Step (rEq (.int i) (.int j) H Q) (Q (.bl (decide (i = j))) H) := ⟨w_eqI⟩ -- st
theorem w_neI {i j : Int} (q : Q (.bl (!decide (i = j))) H) : rNe (.int i) (.int j) H Q := ⟨rfl, by
  have e : decide (V.int i = V.int j) = decide (i = j) := by
    by_cases h : i = j
    · subst h; simp
    · rw [decide_eq_false h, decide_eq_false fun z => h (V.int.inj z)]
  rw [e]
  exact q⟩
instance {i j : Int} : Step (rNe (.int i) (.int j) H Q) (Q (.bl (!decide (i = j))) H) := ⟨w_neI⟩ -- st
theorem w_eqS {a b : Str} (q : Q (.bl (decide (a = b))) H) : rEq (.str a) (.str b) H Q := ⟨rfl, by
  have e : decide (V.str a = V.str b) = decide (a = b) := by
    by_cases h : a = b
    · subst h; simp
    · rw [decide_eq_false h, decide_eq_false fun z => h (V.str.inj z)]
  rw [e]
  exact q⟩
instance {a b : Str} : Step (rEq (.str a) (.str b) H Q) (Q (.bl (decide (a = b))) H) := ⟨w_eqS⟩ -- st
theorem w_neS {a b : Str} (q : Q (.bl (!decide (a = b))) H) : rNe (.str a) (.str b) H Q := ⟨rfl, by
  have e : decide (V.str a = V.str b) = decide (a = b) := by
    by_cases h : a = b
    · subst h; simp
    · rw [decide_eq_false h, decide_eq_false fun z => h (V.str.inj z)]
  rw [e]
  exact q⟩
instance {a b : Str} : Step (rNe (.str a) (.str b) H Q) (Q (.bl (!decide (a = b))) H) := ⟨w_neS⟩ -- st
theorem w_eqB {a b : Bool} (q : Q (.bl (decide (a = b))) H) : rEq (.bl a) (.bl b) H Q := ⟨rfl, by
  have e : decide (V.bl a = V.bl b) = decide (a = b) := by
    by_cases h : a = b
    · subst h; simp
    · rw [decide_eq_false h, decide_eq_false fun z => h (V.bl.inj z)]
  rw [e]
  exact q⟩
instance {a b : Bool} : Step (rEq (.bl a) (.bl b) H Q) (Q (.bl (decide (a = b))) H) := ⟨w_eqB⟩ -- st
theorem w_neB {a b : Bool} (q : Q (.bl (!decide (a = b))) H) : rNe (.bl a) (.bl b) H Q := ⟨rfl, by
  have e : decide (V.bl a = V.bl b) = decide (a = b) := by
    by_cases h : a = b
    · subst h; simp
    · rw [decide_eq_false h, decide_eq_false fun z => h (V.bl.inj z)]
  rw [e]
  exact q⟩
instance {a b : Bool} : Step (rNe (.bl a) (.bl b) H Q) (Q (.bl (!decide (a = b))) H) := ⟨w_neB⟩ -- st
theorem w_isN (q : ta σ H fun x H1 => Q (.bl (decide (x = .non))) H1) : tIsN ta σ H Q := q
instance : Step (tIsN ta σ H Q) (ta σ H fun x H1 => Q (.bl (decide (x = .non))) H1) := ⟨w_isN⟩ -- st
theorem w_notN (q : ta σ H fun x H1 => Q (.bl (!decide (x = .non))) H1) : tNotN ta σ H Q := q
instance : Step (tNotN ta σ H Q) (ta σ H fun x H1 => Q (.bl (!decide (x = .non))) H1) := ⟨w_notN⟩ -- st
-- tests
section
variable {T : Bool → Hp → Prop} {t u : TT}
theorem w_test (q : te σ H fun x H1 => asBl x H1 T) : tTest te σ H T := q
instance : Step (tTest te σ H T) (te σ H fun x H1 => asBl x H1 T) := ⟨w_test⟩ -- st
theorem w_tB (q : te σ H fun x H1 => asBl x H1 T) : tB te σ H T := q
instance : Step (tB te σ H T) (te σ H fun x H1 => asBl x H1 T) := ⟨w_tB⟩ -- st
theorem w_and (q : t σ H fun c H1 => if c = true then u σ H1 T else T false H1) : tAnd t u σ H T := q
instance : Step (tAnd t u σ H T) (t σ H fun c H1 => if c = true then u σ H1 T else T false H1) := ⟨w_and⟩ -- st
theorem w_or (q : t σ H fun c H1 => if c = true then T true H1 else u σ H1 T) : tOr t u σ H T := q
instance : Step (tOr t u σ H T) (t σ H fun c H1 => if c = true then T true H1 else u σ H1 T) := ⟨w_or⟩ -- st
theorem w_not (q : t σ H fun c H1 => T (!c) H1) : tNot t σ H T := q
instance : Step (tNot t σ H T) (t σ H fun c H1 => T (!c) H1) := ⟨w_not⟩ -- st
theorem w_yes (q : T true H) : tYes σ H T := q
instance : Step (tYes σ H T) (T true H) := ⟨w_yes⟩ -- st
theorem w_if (q : t σ H fun c H1 => if c = true then ta σ H1 Q else tb σ H1 Q) : tIf t ta tb σ H Q := q
instance : Step (tIf t ta tb σ H Q) (t σ H fun c H1 => if c = true then ta σ H1 Q else tb σ H1 Q) := ⟨w_if⟩ -- st
theorem w_truth (q : ta σ H fun x H' => ∃ k, TruV K x H' k ∧ T k H') : tTruth K ta σ H T := q
instance : Step (tTruth K ta σ H T) (ta σ H fun x H' => ∃ k, TruV K x H' k ∧ T k H') := ⟨w_truth⟩ -- st
end
theorem w_andV (q : ta σ H fun x H1 => asBl x H1 fun c H2 => if c = true then tb σ H2 Q else Q (.bl false) H2) : tAndV ta tb σ H Q := q
instance : Step (tAndV ta tb σ H Q) (ta σ H fun x H1 => asBl x H1 fun c H2 => if c = true then tb σ H2 Q else Q (.bl false) H2) := ⟨w_andV⟩ -- st
theorem w_orV (q : ta σ H fun x H1 => asBl x H1 fun c H2 => if c = true then Q (.bl true) H2 else tb σ H2 Q) : tOrV ta tb σ H Q := q
instance : Step (tOrV ta tb σ H Q) (ta σ H fun x H1 => asBl x H1 fun c H2 => if c = true then Q (.bl true) H2 else tb σ H2 Q) := ⟨w_orV⟩ -- st
theorem w_notV (q : ta σ H fun x H1 => asBl x H1 fun c H2 => Q (.bl (!c)) H2) : tNotV ta σ H Q := q
instance : Step (tNotV ta σ H Q) (ta σ H fun x H1 => asBl x H1 fun c H2 => Q (.bl (!c)) H2) := ⟨w_notV⟩ -- st
-- arguments
theorem w_nil {L : List V → Hp → Prop} (q : L [] H) : tNil σ H L := q
instance {L : List V → Hp → Prop} : Step (tNil σ H L) (L [] H) := ⟨w_nil⟩ -- st
theorem w_cons {tr : TA} {L : List V → Hp → Prop} (q : ta σ H fun x H1 => tr σ H1 fun xs H2 => L (x :: xs) H2) : tCons ta tr σ H L := q
instance {tr : TA} {L : List V → Hp → Prop} : Step (tCons ta tr σ H L) (ta σ H fun x H1 => tr σ H1 fun xs H2 => L (x :: xs) H2) := ⟨w_cons⟩ -- st
theorem w_call {sp : Sp} {dvs : List V} {E : XK} {t : TA} (q : t σ H fun vs H1 => sp (vs ++ dvs) H1 Q E) : tCall sp dvs E t σ H Q := q
instance {sp : Sp} {dvs : List V} {E : XK} {t : TA} : Step (tCall sp dvs E t σ H Q) (t σ H fun vs H1 => sp (vs ++ dvs) H1 Q E) := ⟨w_call⟩ -- st
theorem w_callN {n m : Nat} {sp : Sp} {gV : List V → List V → List V} {E : XK} {t tk : TA} (q : t σ H fun vs H1 => tk σ H1 fun zs H2 => vs.length = n ∧ zs.length = m ∧ sp (gV vs zs) H2 Q E) : tCallN n m sp gV E t tk σ H Q := q
instance {n m : Nat} {sp : Sp} {gV : List V → List V → List V} {E : XK} {t tk : TA} : Step (tCallN n m sp gV E t tk σ H Q) (t σ H fun vs H1 => tk σ H1 fun zs H2 => vs.length = n ∧ zs.length = m ∧ sp (gV vs zs) H2 Q E) := ⟨w_callN⟩ -- st
theorem w_CB {r : List V → Hp → VK → Prop} {t : TA} (q : t σ H fun vs H1 => r vs H1 Q) : tCB r t σ H Q := q
instance {r : List V → Hp → VK → Prop} {t : TA} : Step (tCB r t σ H Q) (t σ H fun vs H1 => r vs H1 Q) := ⟨w_CB⟩ -- st
theorem w_tup {t : TA} (q : t σ H fun xs H1 => xs.length ≤ sizeLine ∧ ∀ p, H1 p = none → Q (.ref p) (upd H1 p (.tup xs))) : tTup t σ H Q := q
instance {t : TA} : StepO (tTup t σ H Q) (t σ H fun xs H1 => xs.length ≤ sizeLine ∧ ∀ p, H1 p = none → Q (.ref p) (upd H1 p (.tup xs))) := ⟨w_tup⟩ -- st
theorem w_lst {t : TA} (q : t σ H fun xs H1 => xs.length ≤ sizeLine ∧ ∀ p, H1 p = none → Q (.ref p) (upd H1 p (.lst xs))) : tLst t σ H Q := q
instance {t : TA} : StepO (tLst t σ H Q) (t σ H fun xs H1 => xs.length ≤ sizeLine ∧ ∀ p, H1 p = none → Q (.ref p) (upd H1 p (.lst xs))) := ⟨w_lst⟩ -- st
theorem w_sl {r : V → Option Int → Option Int → Hp → VK → Prop} {tl th : TO} (q : te σ H fun x H1 => tl σ H1 fun l H2 => th σ H2 fun u H3 => r x l u H3 Q) : tSl r te tl th σ H Q := q
instance {r : V → Option Int → Option Int → Hp → VK → Prop} {tl th : TO} : Step (tSl r te tl th σ H Q) (te σ H fun x H1 => tl σ H1 fun l H2 => th σ H2 fun u H3 => r x l u H3 Q) := ⟨w_sl⟩ -- st
theorem w_nop {Z : Option Int → Hp → Prop} (q : Z none H) : tNoPart σ H Z := q
instance {Z : Option Int → Hp → Prop} : Step (tNoPart σ H Z) (Z none H) := ⟨w_nop⟩ -- st
theorem w_part {Z : Option Int → Hp → Prop} (q : te σ H fun x H1 => asInt x H1 fun i H2 => Z (some i) H2) : tPart te σ H Z := q
instance {Z : Option Int → Hp → Prop} : Step (tPart te σ H Z) (te σ H fun x H1 => asInt x H1 fun i H2 => Z (some i) H2) := ⟨w_part⟩ -- st
theorem w_BM0 {T : String} {r : V → List V → Hp → VK → Prop} (q : ta σ H fun x H1 => tyV K T x H1 ∧ r x [] H1 Q) : tBM0 K T r ta σ H Q := q
instance {T : String} {r : V → List V → Hp → VK → Prop} : Step (tBM0 K T r ta σ H Q) (ta σ H fun x H1 => tyV K T x H1 ∧ r x [] H1 Q) := ⟨w_BM0⟩ -- st
theorem w_BM {T : String} {r : V → List V → Hp → VK → Prop} {t : TA} (q : ta σ H fun x H1 => tyV K T x H1 ∧ t σ H1 fun xs H2 => r x xs H2 Q) : tBM K T r ta t σ H Q := q
instance {T : String} {r : V → List V → Hp → VK → Prop} {t : TA} : Step (tBM K T r ta t σ H Q) (ta σ H fun x H1 => tyV K T x H1 ∧ t σ H1 fun xs H2 => r x xs H2 Q) := ⟨w_BM⟩ -- st
def asStr (x : V) (P : Prop) : Prop := (∃ a, x = .str a) ∧ P
theorem w_M0 {r : V → List V → Hp → VK → Prop} (q : ta σ H fun x H1 => asStr x (r x [] H1 Q)) : tM0 r ta σ H Q := q
instance {r : V → List V → Hp → VK → Prop} : Step (tM0 r ta σ H Q) (ta σ H fun x H1 => asStr x (r x [] H1 Q)) := ⟨w_M0⟩ -- st
theorem w_M1 {r : V → List V → Hp → VK → Prop} (q : ta σ H fun x H1 => asStr x (te σ H1 fun y H2 => r x [y] H2 Q)) : tM1 r ta te σ H Q := q
instance {r : V → List V → Hp → VK → Prop} : Step (tM1 r ta te σ H Q) (ta σ H fun x H1 => asStr x (te σ H1 fun y H2 => r x [y] H2 Q)) := ⟨w_M1⟩ -- st
theorem w_asStr {a : Str} {P : Prop} (q : P) : asStr (.str a) P := ⟨⟨a, rfl⟩, q⟩
instance {a : Str} {P : Prop} : Step (asStr (.str a) P) (P) := ⟨w_asStr⟩ -- st
theorem w_sub {to ti : TE} {t : TSet} {Z : L2.St → Hp → Prop} (q : to σ H fun o H1 => ti σ H1 fun i H2 => t o i v H2 fun H3 => Z σ H3) : gSub to ti t v σ H Z := q
instance {to ti : TE} {t : TSet} {Z : L2.St → Hp → Prop} : Step (gSub to ti t v σ H Z) (to σ H fun o H1 => ti σ H1 fun i H2 => t o i v H2 fun H3 => Z σ H3) := ⟨w_sub⟩ -- st
-- statements
section
variable {t u tbody : TS} {c : TT} {g : TG}
theorem w_seq (q : t ⟨u ⟨nx, rt, bk, ct⟩, rt, bk, ct⟩ σ H) : tSeq t u ⟨nx, rt, bk, ct⟩ σ H := q
instance : Step (tSeq t u ⟨nx, rt, bk, ct⟩ σ H) (t ⟨u ⟨nx, rt, bk, ct⟩, rt, bk, ct⟩ σ H) := ⟨w_seq⟩ -- st
theorem w_cut (Mid : L2.St → Hp → Prop) (h1 : t ⟨Mid, rt, bk, ct⟩ σ H) (h2 : ∀ σ' H', Mid σ' H' → u ⟨nx, rt, bk, ct⟩ σ' H') : C8.tCut t u ⟨nx, rt, bk, ct⟩ σ H := ⟨Mid, h1, h2⟩
theorem w_asg (q : te σ H fun x H1 => g x σ H1 nx) : tAsg te g ⟨nx, rt, bk, ct⟩ σ H := q
instance : Step (tAsg te g ⟨nx, rt, bk, ct⟩ σ H) (te σ H fun x H1 => g x σ H1 nx) := ⟨w_asg⟩ -- st
theorem w_ret (q : te σ H rt) : tRet te ⟨nx, rt, bk, ct⟩ σ H := q
instance : Step (tRet te ⟨nx, rt, bk, ct⟩ σ H) (te σ H rt) := ⟨w_ret⟩ -- st
theorem w_retN (q : rt .non H) : tRetN ⟨nx, rt, bk, ct⟩ σ H := q
instance : Step (tRetN ⟨nx, rt, bk, ct⟩ σ H) (rt .non H) := ⟨w_retN⟩ -- st
theorem w_drop (q : te σ H fun _ H1 => nx σ H1) : tDrop te ⟨nx, rt, bk, ct⟩ σ H := q
instance : Step (tDrop te ⟨nx, rt, bk, ct⟩ σ H) (te σ H fun _ H1 => nx σ H1) := ⟨w_drop⟩ -- st
theorem w_ifS (q : c σ H fun b H1 => if b = true then t ⟨nx, rt, bk, ct⟩ σ H1 else u ⟨nx, rt, bk, ct⟩ σ H1) : tIfS c t u ⟨nx, rt, bk, ct⟩ σ H := q
instance : Step (tIfS c t u ⟨nx, rt, bk, ct⟩ σ H) (c σ H fun b H1 => if b = true then t ⟨nx, rt, bk, ct⟩ σ H1 else u ⟨nx, rt, bk, ct⟩ σ H1) := ⟨w_ifS⟩ -- st
theorem w_nx (q : nx σ H) : tNext ⟨nx, rt, bk, ct⟩ σ H := q
instance : Step (tNext ⟨nx, rt, bk, ct⟩ σ H) (nx σ H) := ⟨w_nx⟩ -- st
theorem w_cont (q : ct σ H) : tCont ⟨nx, rt, bk, ct⟩ σ H := q
instance : Step (tCont ⟨nx, rt, bk, ct⟩ σ H) (ct σ H) := ⟨w_cont⟩ -- st
theorem w_brk (q : bk σ H) : tBreak ⟨nx, rt, bk, ct⟩ σ H := q
instance : Step (tBreak ⟨nx, rt, bk, ct⟩ σ H) (bk σ H) := ⟨w_brk⟩ -- st
theorem w_tgt {n : Nat} {ts : TGs} {Z : L2.St → Hp → Prop} {a : Addr} (xs : List V) (h : SqT K H a xs) (hn : xs.length = n) (q : ts xs σ H Z) : gTup K n ts (.ref a) σ H Z := ⟨a, xs, rfl, h, hn, q⟩
instance {n : Nat} {ts : TGs} {Z : L2.St → Hp → Prop} {a : Addr} : SideK (gTup K n ts (.ref a) σ H Z) 5 := ⟨⟩ -- st
theorem w_gc {ts : TGs} {xs : List V} {Z : L2.St → Hp → Prop} (q : g v σ H fun σ' H' => ts xs σ' H' Z) : gCons g ts (v :: xs) σ H Z := ⟨v, xs, rfl, q⟩
instance {ts : TGs} {xs : List V} {Z : L2.St → Hp → Prop} : Step (gCons g ts (v :: xs) σ H Z) (g v σ H fun σ' H' => ts xs σ' H' Z) := ⟨w_gc⟩ -- st
theorem w_gn {Z : L2.St → Hp → Prop} (q : Z σ H) : gNil [] σ H Z := ⟨rfl, q⟩
instance {Z : L2.St → Hp → Prop} : Step (gNil [] σ H Z) (Z σ H) := ⟨w_gn⟩ -- st
/-- for k in range(n), range(a, b) -/
theorem w_for {wi : TI} (q : wi σ H fun J H1 => ∃ W : Nat → Nat → L2.St → Hp → Prop, (∃ m, W 0 m σ H1) ∧ ∀ i m σ H, W i m σ H →
      (J.stop i H ∧ nx σ H) ∨ (J.go i H ∧ ∃ N : L2.St → Hp → Prop, (∀ σ' H', N σ' H' → ∃ m', m' < m ∧ W (i + 1) m' σ' H') ∧ ∀ x H', J.yld i H x H' → g x σ H' fun σ2 H2 => tbody ⟨N, rt, nx, N⟩ σ2 H2)) : tFor wi g tbody ⟨nx, rt, bk, ct⟩ σ H := q
instance {wi : TI} : StepO (tFor wi g tbody ⟨nx, rt, bk, ct⟩ σ H) (wi σ H fun J H1 => ∃ W : Nat → Nat → L2.St → Hp → Prop, (∃ m, W 0 m σ H1) ∧ ∀ i m σ H, W i m σ H → (J.stop i H ∧ nx σ H) ∨ (J.go i H ∧ ∃ N : L2.St → Hp → Prop, (∀ σ' H', N σ' H' → ∃ m', m' < m ∧ W (i + 1) m' σ' H') ∧ ∀ x H', J.yld i H x H' → g x σ H' fun σ2 H2 => tbody ⟨N, rt, nx, N⟩ σ2 H2)) := ⟨w_for⟩ -- st
end
theorem w_rng1 {t : TA} {R : It → Hp → Prop} (q : t σ H fun vs H1 => ∃ j : Int, vs = [.int j] ∧ -(2 ^ 62) ≤ j ∧ j < 2 ^ 62 ∧ R (Itr 0 j.toNat) H1) : iRng1 t σ H R := q
instance {t : TA} {R : It → Hp → Prop} : StepO (iRng1 t σ H R) (t σ H fun vs H1 => ∃ j : Int, vs = [.int j] ∧ -(2 ^ 62) ≤ j ∧ j < 2 ^ 62 ∧ R (Itr 0 j.toNat) H1) := ⟨w_rng1⟩ -- st
theorem w_rng2 {t : TA} {R : It → Hp → Prop} (q : t σ H fun vs H1 => ∃ i j : Int, vs = [.int i, .int j] ∧ (-(2 ^ 62) ≤ i ∧ i < 2 ^ 62 ∧ -(2 ^ 62) ≤ j ∧ j < 2 ^ 62) ∧ R (Itr i (j - i).toNat) H1) : iRng2 t σ H R := q
instance {t : TA} {R : It → Hp → Prop} : StepO (iRng2 t σ H R) (t σ H fun vs H1 => ∃ i j : Int, vs = [.int i, .int j] ∧ (-(2 ^ 62) ≤ i ∧ i < 2 ^ 62 ∧ -(2 ^ 62) ≤ j ∧ j < 2 ^ 62) ∧ R (Itr i (j - i).toNat) H1) := ⟨w_rng2⟩ -- st
theorem w_ilist {R : It → Hp → Prop} (q : te σ H fun x H1 => ∃ a, x = .ref a ∧ (∃ xs, SqL K H1 a xs) ∧ R (Itl K a) H1) : iList K te σ H R := q
instance {R : It → Hp → Prop} : StepO (iList K te σ H R) (te σ H fun x H1 => ∃ a, x = .ref a ∧ (∃ xs, SqL K H1 a xs) ∧ R (Itl K a) H1) := ⟨w_ilist⟩ -- st
theorem w_itup {R : It → Hp → Prop} (q : te σ H fun x H1 => ∃ a, x = .ref a ∧ (∃ xs, SqT K H1 a xs) ∧ R (Itt K a) H1) : iTup K te σ H R := q
instance {R : It → Hp → Prop} : StepO (iTup K te σ H R) (te σ H fun x H1 => ∃ a, x = .ref a ∧ (∃ xs, SqT K H1 a xs) ∧ R (Itt K a) H1) := ⟨w_itup⟩ -- st
theorem w_istr {R : It → Hp → Prop} (q : te σ H fun v H1 => ∃ x, v = .str x ∧ R (Its x) H1) : iStr te σ H R := q
instance {R : It → Hp → Prop} : StepO (iStr te σ H R) (te σ H fun v H1 => ∃ x, v = .str x ∧ R (Its x) H1) := ⟨w_istr⟩ -- st
theorem w_lc {wi : TI} {g : TG} {tt : TT} {vs : List Nat} (q : wi σ H fun J H1 => ∀ D, H1 D = none → ∃ W : Nat → Nat → Hp → Prop, (∃ m, W 0 m (upd H1 D (.lst []))) ∧ ∀ i m H, W i m H →
    (J.stop i H ∧ Q (.ref D) H) ∨ (J.go i H ∧ ∃ Nx : Hp → Prop, (∀ H', Nx H' → ∃ m', m' < m ∧ W (i + 1) m' H') ∧ ∀ x H', J.yld i H x H' → g x (wipe σ vs) H' fun σ2 H2 => wipe σ2 vs = wipe σ vs ∧ tt σ2 H2 fun b H3 =>
      if b = true then te σ2 H3 fun y H4 => ∃ acc, H4 D = some (.lst acc) ∧ acc.length < sizeLine ∧ Nx (upd H4 D (.lst (acc ++ [y]))) else Nx H3)) : tLc wi g tt te vs σ H Q := q
instance {wi : TI} {g : TG} {tt : TT} {vs : List Nat} : StepO (tLc wi g tt te vs σ H Q) (wi σ H fun J H1 => ∀ D, H1 D = none → ∃ W : Nat → Nat → Hp → Prop, (∃ m, W 0 m (upd H1 D (.lst []))) ∧ ∀ i m H, W i m H → (J.stop i H ∧ Q (.ref D) H) ∨ (J.go i H ∧ ∃ Nx : Hp → Prop, (∀ H', Nx H' → ∃ m', m' < m ∧ W (i + 1) m' H') ∧ ∀ x H', J.yld i H x H' → g x (wipe σ vs) H' fun σ2 H2 => wipe σ2 vs = wipe σ vs ∧ tt σ2 H2 fun b H3 => if b = true then te σ2 H3 fun y H4 => ∃ acc, H4 D = some (.lst acc) ∧ acc.length < sizeLine ∧ Nx (upd H4 D (.lst (acc ++ [y]))) else Nx H3)) := ⟨w_lc⟩ -- st
/-- a test that is open -/
theorem w_ite {p : Prop} [Decidable p] {A B : Prop} (h1 : p → A) (h2 : ¬ p → B) : if decide p = true then A else B := by
  by_cases h : p
  · rw [if_pos (decide_eq_true h)]
    exact h1 h
  · rw [if_neg (by simpa using h)]
    exact h2 h
theorem w_iteT {p : Prop} [Decidable p] {A B : Prop} (hp : p) (h1 : A) : if decide p = true then A else B := by
  rw [if_pos (decide_eq_true hp)]
  exact h1
instance {p : Prop} [Decidable p] {A B : Prop} : SideK (if decide p = true then A else B) 6 := ⟨⟩ -- st
theorem w_iteF {p : Prop} [Decidable p] {A B : Prop} (hp : ¬ p) (h2 : B) : if decide p = true then A else B := by
  rw [if_neg (by simpa using hp)]
  exact h2
theorem w_tt {A B : Prop} (h : A) : if true = true then A else B := by rw [if_pos rfl]; exact h
instance {A B : Prop} : Step (if true = true then A else B) (A) := ⟨w_tt⟩ -- st
theorem w_ff {A B : Prop} (h : B) : if false = true then A else B := by rw [if_neg Bool.false_ne_true]; exact h
instance {A B : Prop} : Step (if false = true then A else B) (B) := ⟨w_ff⟩ -- st
theorem w_ntt {A B : Prop} (h : B) : if (!true) = true then A else B := by rw [if_neg (by decide)]; exact h
instance {A B : Prop} : Step (if (!true) = true then A else B) (B) := ⟨w_ntt⟩ -- st
theorem w_nff {A B : Prop} (h : A) : if (!false) = true then A else B := by rw [if_pos (by rfl)]; exact h
instance {A B : Prop} : Step (if (!false) = true then A else B) (A) := ⟨w_nff⟩ -- st
/-- subscripts -/
theorem w_ixL {p : Addr} {i : Int} (xs : List V) (v : V) (h : SqL K H p xs) (a : atI xs i = some v) (q : Q v H) : rIxL K (.ref p) (.int i) H Q := ⟨p, xs, i, v, rfl, rfl, h, a, q⟩
instance {p : Addr} {i : Int} : SideK (rIxL K (.ref p) (.int i) H Q) 2 := ⟨⟩ -- st
theorem w_ixT {p : Addr} {i : Int} (xs : List V) (v : V) (h : SqT K H p xs) (a : atI xs i = some v) (q : Q v H) : rIxT K (.ref p) (.int i) H Q := ⟨p, xs, i, v, rfl, rfl, h, a, q⟩
instance {p : Addr} {i : Int} : SideK (rIxT K (.ref p) (.int i) H Q) 2 := ⟨⟩ -- st
theorem w_ixS {z : Str} {i : Int} {c : Nat} (h : z.length ≤ sizeLine) (a : atI z.cps.toList i = some c) (q : Q (.str ⟨#[c]⟩) H) : rIxS (.str z) (.int i) H Q := ⟨z, i, c, rfl, rfl, h, a, q⟩
theorem w_setL {p : Addr} {k : Int} {Z : Hp → Prop} (xs : List V) (j : Nat) (h : H p = some (.lst xs)) (a : ixN xs.length k = some j) (q : Z (upd H p (.lst (xs.set j v)))) : rSetL (.ref p) (.int k) v H Z := ⟨p, xs, k, j, rfl, rfl, h, a, q⟩
instance {p : Addr} {k : Int} {Z : Hp → Prop} : SideK (rSetL (.ref p) (.int k) v H Z) 3 := ⟨⟩ -- st
theorem w_b1 {p : Addr} (a0 a1 a2 a3 a4 : V) {Z : Hp → Prop} (h : H p = some (.lst [a0, a1, a2, a3, a4])) (q : Z (upd H p (.lst [a0, v, a2, a3, a4]))) : rSetL (.ref p) (.int 1) v H Z := ⟨p, _, 1, 1, rfl, rfl, h, rfl, q⟩
instance {p : Addr} {Z : Hp → Prop} : SideK (rSetL (.ref p) (.int 1) v H Z) 3 := ⟨⟩ -- st
theorem w_b2 {p : Addr} (a0 a1 a2 a3 a4 : V) {Z : Hp → Prop} (h : H p = some (.lst [a0, a1, a2, a3, a4])) (q : Z (upd H p (.lst [a0, a1, v, a3, a4]))) : rSetL (.ref p) (.int 2) v H Z := ⟨p, _, 2, 2, rfl, rfl, h, rfl, q⟩
theorem w_b3 {p : Addr} (a0 a1 a2 a3 a4 : V) {Z : Hp → Prop} (h : H p = some (.lst [a0, a1, a2, a3, a4])) (q : Z (upd H p (.lst [a0, a1, a2, v, a4]))) : rSetL (.ref p) (.int 3) v H Z := ⟨p, _, 3, 3, rfl, rfl, h, rfl, q⟩
theorem w_b4 {p : Addr} (a0 a1 a2 a3 a4 : V) {Z : Hp → Prop} (h : H p = some (.lst [a0, a1, a2, a3, a4])) (q : Z (upd H p (.lst [a0, a1, a2, a3, v]))) : rSetL (.ref p) (.int 4) v H Z := ⟨p, _, 4, 4, rfl, rfl, h, rfl, q⟩
theorem w_app {l : Addr} (xs : List V) (h : H l = some (.lst xs)) (hn : xs.length < sizeLine) (q : Q .non (upd H l (.lst (xs ++ [y])))) : rAppend (.ref l) [y] H Q := ⟨l, xs, y, rfl, rfl, h, hn, q⟩
instance {l : Addr} : SideK (rAppend (.ref l) [y] H Q) 3 := ⟨⟩ -- st
theorem w_tyL {l : Addr} {P : Prop} (xs : List V) (h : SqL K H l xs) (q : P) : tyV K "list" (.ref l) H ∧ P := ⟨.inl ⟨rfl, _, h⟩, q⟩
instance {l : Addr} {P : Prop} : SideK (tyV K "list" (.ref l) H ∧ P) 2 := ⟨⟩ -- st
theorem w_lenQ {p : Addr} (xs : List V) (h : SqL K H p xs) (q : Q (.int xs.length) H) : rLenQ K [.ref p] H Q := ⟨p, xs, rfl, .inl h, q⟩
instance {p : Addr} : SideK (rLenQ K [.ref p] H Q) 2 := ⟨⟩ -- st
theorem w_lenQT {p : Addr} (xs : List V) (h : SqT K H p xs) (q : Q (.int xs.length) H) : rLenQ K [.ref p] H Q := ⟨p, xs, rfl, .inr h, q⟩
theorem w_lenS {z : Str} (h : z.length ≤ sizeLine) (q : Q (.int z.length) H) : rLenS [.str z] H Q := ⟨z, rfl, h, q⟩
instance {z : Str} : SideK (rLenS [.str z] H Q) 2 := ⟨⟩ -- st
theorem w_listOf {p : Addr} (xs : List V) (h : SqL K H p xs) (q : ∀ l, H l = none → Q (.ref l) (upd H l (.lst xs))) : rListOf K [.ref p] H Q := ⟨p, xs, rfl, .inl h, q⟩
instance {p : Addr} : SideK (rListOf K [.ref p] H Q) 3 := ⟨⟩ -- st
theorem w_int1 {i : Int} (q : Q (.int i) H) : rInt1 [.int i] H Q := .inl ⟨i, rfl, q⟩
instance {i : Int} : Step (rInt1 [.int i] H Q) (Q (.int i) H) := ⟨w_int1⟩ -- st
theorem w_int1b {b : Bool} (q : Q (.int (if b then 1 else 0)) H) : rInt1 [.bl b] H Q := .inr ⟨b, rfl, q⟩
instance {b : Bool} : Step (rInt1 [.bl b] H Q) (Q (.int (if b then 1 else 0)) H) := ⟨w_int1b⟩ -- st
theorem w_abs {i : Int} (q : Q (.int (if i < 0 then -i else i)) H) : rAbs [.int i] H Q := ⟨i, rfl, q⟩
instance {i : Int} : Step (rAbs [.int i] H Q) (Q (.int (if i < 0 then -i else i)) H) := ⟨w_abs⟩ -- st
theorem w_min2 {i j : Int} (q : Q (.int (if j < i then j else i)) H) : rMin2 [.int i, .int j] H Q := ⟨i, j, rfl, q⟩
instance {i j : Int} : Step (rMin2 [.int i, .int j] H Q) (Q (.int (if j < i then j else i)) H) := ⟨w_min2⟩ -- st
theorem w_max2 {i j : Int} (q : Q (.int (if j > i then j else i)) H) : rMax2 [.int i, .int j] H Q := ⟨i, j, rfl, q⟩
instance {i j : Int} : Step (rMax2 [.int i, .int j] H Q) (Q (.int (if j > i then j else i)) H) := ⟨w_max2⟩ -- st
theorem w_min3 {i j k : Int} (q : Q (.int (min (min i j) k)) H) : rNuC3 nuMin3 [.int i, .int j, .int k] H Q := by
  refine ⟨.int i, .int j, .int k, .int (min (min i j) k), rfl, ?_, q⟩
  have e1 : nuMin2 (.int i) (.int j) = some (.int (min i j)) := by
    show some (if decide (j < i) = true then V.int j else V.int i) = _
    by_cases h : j < i
    · rw [if_pos (decide_eq_true h)]
      congr 2
      omega
    · rw [if_neg (by simpa using h)]
      congr 2
      omega
  have e2 : nuMin2 (.int (min i j)) (.int k) = some (.int (min (min i j) k)) := by
    show some (if decide (k < min i j) = true then V.int k else V.int (min i j)) = _
    by_cases h : k < min i j
    · rw [if_pos (decide_eq_true h)]
      congr 2
      omega
    · rw [if_neg (by simpa using h)]
      congr 2
      omega
  show (nuMin2 (.int i) (.int j)).bind (fun m => nuMin2 m (.int k)) = _
  rw [e1]
  exact e2
instance {i j k : Int} : Step (rNuC3 nuMin3 [.int i, .int j, .int k] H Q) (Q (.int (min (min i j) k)) H) := ⟨w_min3⟩ -- st
theorem w_slL {p : Addr} {lo hi : Option Int} (xs : List V) (h : SqL K H p xs) (q : ∀ l, H l = none → Q (.ref l) (upd H l (.lst (cutV xs lo hi)))) : rSlL K (.ref p) lo hi H Q := ⟨p, xs, rfl, h, q⟩
instance {p : Addr} {lo hi : Option Int} : SideK (rSlL K (.ref p) lo hi H Q) 3 := ⟨⟩ -- st
theorem w_slS {z : Str} {lo hi : Option Int} (h : z.length ≤ sizeLine) (q : Q (.str (cutS z lo hi)) H) : rSlS (.str z) lo hi H Q := ⟨z, rfl, h, q⟩
end
end R
namespace R
open PySem L2
/-! ### the bag of a law: its cells (never changed), a place, what is left, the stirred number, a count -/
structure Bag (K : PySem.W.Frag) (F H : Hp) (b : Addr) : Prop where
  ex : ∃ (c : Addr) (cells : List Int) (i cur st n : Int), F b = none ∧ H b = some (.lst [.ref c, .int i, .int cur, .int st, .int n]) ∧ SqL K F c (cells.map V.int) ∧ cells.length ≤ 63 ∧
    (∀ x ∈ cells, 0 ≤ x ∧ x < 10 ^ 60) ∧ 0 ≤ i ∧ 0 ≤ cur ∧ cur < 10 ^ 60 ∧ 0 ≤ st ∧ st < 2147483647
theorem Bag.keep {K : PySem.W.Frag} {M : List Addr} {F H F2 H2 : Hp} {b : Addr} (g : Gr M F H F2 H2) (h : Bag K F H b) (hb : b ∉ M) : Bag K F2 H2 b := by
  obtain ⟨c, cells, i, cur, st, n, h1, h2, h3, h4⟩ := h.ex
  exact ⟨c, cells, i, cur, st, n, g.nw b (ne_none h2) h1, g.hh b _ hb h2, sqL_same g.ff h3, h4⟩
theorem Bag.ne_new {K : PySem.W.Frag} {F H : Hp} {b q : Addr} (h : Bag K F H b) (hq : H q = none) : b ≠ q := by
  obtain ⟨c, cells, i, cur, st, n, h1, h2, _⟩ := h.ex
  exact ne_of_none h2 hq
/-- a draw: a number from 0 on below n -/
def φdraw (K : PySem.W.Frag) : V → V → Hp → VK → Prop := fun x y H Q => ∃ (b : Addr) (m : Int) (F : Hp), x = .ref b ∧ y = .int m ∧ Same F H ∧ Bag K F H b ∧ 0 < m ∧ m < 2 ^ 200 ∧
  ∀ (r : Int) (F2 H2 : Hp), Gr [b] F H F2 H2 → Bag K F2 H2 b → 0 ≤ r → r < m → Q (.int r) H2
theorem u_draw {K : PySem.W.Frag} {b : Addr} {m : Int} {F H : Hp} {Q : VK} {E : XK} (w : Same F H) (hb : Bag K F H b) (h0 : 0 < m) (h1 : m < 2 ^ 200) (q : ∀ (r : Int) (F2 H2 : Hp), Gr [b] F H F2 H2 → Bag K F2 H2 b → 0 ≤ r → r < m → Q (.int r) H2) :
    S2 (φdraw K) ([.ref b, .int m] ++ []) H Q E := ⟨b, m, F, rfl, rfl, w, hb, h0, h1, q⟩
def φbag (K : PySem.W.Frag) : V → Hp → VK → Prop := fun x H Q => ∃ (a : Addr) (ns : List Int), x = .ref a ∧ SqL K H a (ns.map V.int) ∧ ns.length ≤ 63 ∧
  ∀ (b : Addr) (F2 H2 : Hp), Gr [] H H F2 H2 → Bag K F2 H2 b → Q (.ref b) H2
theorem bits_le {m : Int} (h0 : 0 < m) (h1 : m < 2 ^ 200) : (Builtin.Int.intBits m : Int) ≤ 200 := by
  have h : m.natAbs < 2 ^ 200 := by omega
  have e := PyProof.Rows.intBits_le h
  omega
theorem mod_nn {a b : Int} (h : 0 < b) : 0 ≤ a % b := Int.emod_nonneg a (by omega)
theorem mod_lt {a b : Int} (h : 0 < b) : a % b < b := Int.emod_lt_of_pos a h
theorem div_nn {a b : Int} (ha : 0 ≤ a) (hb : 0 < b) : 0 ≤ a / b := Int.ediv_nonneg ha (by omega)
theorem div_le' {a b : Int} (ha : 0 ≤ a) (hb : 0 < b) : a / b ≤ a := Int.ediv_le_self b ha
theorem log2_lt {j : Int} (h : j.natAbs < 2 ^ 8999) (h0 : 0 < j) : CDivW 0 j := by
  refine ⟨h0, ?_⟩
  have hp : j.natAbs ≠ 0 := by omega
  have := (Nat.log2_lt hp).mpr h
  omega
theorem divw_ok {i j : Int} (h0 : 0 < j) (h1 : j < 2 ^ 200) : CDivW i j := by
  refine ⟨h0, ?_⟩
  have hp : j.natAbs ≠ 0 := by omega
  have h : j.natAbs < 2 ^ 200 := by omega
  have := (Nat.log2_lt hp).mpr h
  omega
/-! ### loops by what holds at each turn -/
section
variable {K : PySem.W.Frag} {σ : L2.St} {H : Hp} {Q : VK} {nx bk ct : L2.St → Hp → Prop} {rt : VK} {g : TG} {tb : TS}
/-- what tFor asks of a range, by what holds ahead of turn i -/
theorem f_range {lo : Int} {n : Nat} (Pv : Nat → L2.St → Hp → Prop) (h0 : Pv 0 σ H) (hs : ∀ i σ H, i < n → Pv i σ H → g (.int (lo + i)) σ H fun σ2 H2 => tb ⟨Pv (i + 1), rt, nx, Pv (i + 1)⟩ σ2 H2) (hd : ∀ σ H, Pv n σ H → nx σ H) :
    ∃ W : Nat → Nat → L2.St → Hp → Prop, (∃ m, W 0 m σ H) ∧ ∀ i m σ H, W i m σ H →
      ((Itr lo n).stop i H ∧ nx σ H) ∨ ((Itr lo n).go i H ∧ ∃ N : L2.St → Hp → Prop, (∀ σ' H', N σ' H' → ∃ m', m' < m ∧ W (i + 1) m' σ' H') ∧ ∀ x H', (Itr lo n).yld i H x H' → g x σ H' fun σ2 H2 => tb ⟨N, rt, nx, N⟩ σ2 H2) := by
  refine ⟨fun i m σ H => m = n - i ∧ i ≤ n ∧ Pv i σ H, ⟨n, by simp, Nat.zero_le _, h0⟩, ?_⟩
  rintro i m σ H ⟨rfl, hi, p⟩
  by_cases hlt : i < n
  · refine .inr ⟨hlt, Pv (i + 1), fun σ' H' p' => ⟨n - (i + 1), by omega, rfl, hlt, p'⟩, fun x H' y => ?_⟩
    obtain ⟨e, y⟩ := y
    subst e y
    exact hs i σ _ hlt p
  · have e : i = n := by omega
    subst e
    exact .inl ⟨Nat.le_refl _, hd σ H p⟩
theorem f_range0 {n : Nat} (Pv : Nat → L2.St → Hp → Prop) (h0 : Pv 0 σ H) (hs : ∀ i σ H, i < n → Pv i σ H → g (.int (i : Int)) σ H fun σ2 H2 => tb ⟨Pv (i + 1), rt, nx, Pv (i + 1)⟩ σ2 H2) (hd : ∀ σ H, Pv n σ H → nx σ H) :
    ∃ W : Nat → Nat → L2.St → Hp → Prop, (∃ m, W 0 m σ H) ∧ ∀ i m σ H, W i m σ H →
      ((Itr 0 n).stop i H ∧ nx σ H) ∨ ((Itr 0 n).go i H ∧ ∃ N : L2.St → Hp → Prop, (∀ σ' H', N σ' H' → ∃ m', m' < m ∧ W (i + 1) m' σ' H') ∧ ∀ x H', (Itr 0 n).yld i H x H' → g x σ H' fun σ2 H2 => tb ⟨N, rt, nx, N⟩ σ2 H2) :=
  f_range Pv h0 (fun i σ H hi hp => by rw [Int.zero_add]; exact hs i σ H hi hp) hd
theorem f_list {a : Addr} {xs : List V} (Pv : Nat → L2.St → Hp → Prop) (h0 : Pv 0 σ H) (hl : ∀ i σ H, i ≤ xs.length → Pv i σ H → SqL K H a xs)
    (hs : ∀ i x σ H, xs[i]? = some x → Pv i σ H → g x σ H fun σ2 H2 => tb ⟨Pv (i + 1), rt, nx, Pv (i + 1)⟩ σ2 H2) (hd : ∀ σ H, Pv xs.length σ H → nx σ H) :
    ∃ W : Nat → Nat → L2.St → Hp → Prop, (∃ m, W 0 m σ H) ∧ ∀ i m σ H, W i m σ H →
      ((Itl K a).stop i H ∧ nx σ H) ∨ ((Itl K a).go i H ∧ ∃ N : L2.St → Hp → Prop, (∀ σ' H', N σ' H' → ∃ m', m' < m ∧ W (i + 1) m' σ' H') ∧ ∀ x H', (Itl K a).yld i H x H' → g x σ H' fun σ2 H2 => tb ⟨N, rt, nx, N⟩ σ2 H2) := by
  refine ⟨fun i m σ H => m = xs.length - i ∧ i ≤ xs.length ∧ Pv i σ H, ⟨xs.length, by simp, Nat.zero_le _, h0⟩, ?_⟩
  rintro i m σ H ⟨rfl, hi, p⟩
  have q := hl i σ H hi p
  by_cases hlt : i < xs.length
  · refine .inr ⟨⟨xs, xs[i], q, by simp [hlt]⟩, Pv (i + 1), fun σ' H' p' => ⟨xs.length - (i + 1), by omega, rfl, hlt, p'⟩, fun x H' y => ?_⟩
    obtain ⟨e, y⟩ := y
    subst e
    exact hs i x σ _ (y xs q) p
  · have e : i = xs.length := by omega
    subst e
    exact .inl ⟨⟨xs, q, Nat.le_refl _⟩, hd σ H p⟩
variable {tt : TT} {te : TE} {vs : List Nat} {D : Addr} {Qd : Hp → Prop}
theorem lc_rng {n : Nat} (Pv : Nat → Hp → Prop) (h0 : Pv 0 (upd H D (.lst []))) (hs : ∀ i H, i < n → Pv i H → g (.int (i : Int)) (wipe σ vs) H fun σ2 H2 => wipe σ2 vs = wipe σ vs ∧ tt σ2 H2 fun b H3 =>
      if b = true then te σ2 H3 fun y H4 => ∃ acc, H4 D = some (.lst acc) ∧ acc.length < sizeLine ∧ Pv (i + 1) (upd H4 D (.lst (acc ++ [y]))) else Pv (i + 1) H3) (hd : ∀ H, Pv n H → Qd H) :
    ∃ W : Nat → Nat → Hp → Prop, (∃ m, W 0 m (upd H D (.lst []))) ∧ ∀ i m H, W i m H →
      ((Itr 0 n).stop i H ∧ Qd H) ∨ ((Itr 0 n).go i H ∧ ∃ Nx : Hp → Prop, (∀ H', Nx H' → ∃ m', m' < m ∧ W (i + 1) m' H') ∧ ∀ x H', (Itr 0 n).yld i H x H' → g x (wipe σ vs) H' fun σ2 H2 => wipe σ2 vs = wipe σ vs ∧ tt σ2 H2 fun b H3 =>
        if b = true then te σ2 H3 fun y H4 => ∃ acc, H4 D = some (.lst acc) ∧ acc.length < sizeLine ∧ Nx (upd H4 D (.lst (acc ++ [y]))) else Nx H3) :=
  lc_range (lo := 0) Pv h0 (fun i H hi hp => by rw [Int.zero_add]; exact hs i H hi hp) hd
end
end R
namespace R
open PySem L2
theorem Gr.put {M : List Addr} {F0 H0 F H : Hp} {p : Addr} {o : HO} (g : Gr M F0 H0 F H) (h : F p = none) (hm : p ∈ M) : Gr M F0 H0 F (upd H p o) := g.trans (.wr g.fh h hm)
theorem Gr.add {M : List Addr} {F0 H0 F H : Hp} {p : Addr} {o : HO} (g : Gr M F0 H0 F H) (h : H p = none) : Gr M F0 H0 (upd F p o) (upd H p o) := g.trans (.im g.fh h)
theorem Gr.addm {M : List Addr} {F0 H0 F H : Hp} {p : Addr} {o : HO} (g : Gr M F0 H0 F H) (h : H p = none) : Gr M F0 H0 F (upd H p o) := g.trans (.new g.fh h)
theorem Gr.ws {M : List Addr} {F H F2 H2 : Hp} (g : Gr M F H F2 H2) : Same F H2 := g.ff.trans g.fh
theorem Gr.transN {M N : List Addr} {F H F1 H1 F2 H2 : Hp} (a : Gr M F H F1 H1) (b : Gr N F1 H1 F2 H2) (h : ∀ x ∈ N, x ∈ M ∨ H x = none) : Gr M F H F2 H2 :=
  ⟨a.ff.trans b.ff, b.fh, fun x o n e => b.hh x o (fun m => (h x m).elim n fun z => by rw [z] at e; cases e) (a.hh x o n e), fun x e => b.al x (a.al x e), fun x e n => b.nw x (a.al x e) (a.nw x e n)⟩
theorem Gr.fresh {M : List Addr} {F0 H0 F H : Hp} {p : Addr} (g : Gr M F0 H0 F H) (h : H p = none) : H0 p = none := by
  cases e : H0 p with
  | none => rfl
  | some o => exact absurd h (g.al p (ne_none e))
/-- an object that was new behind the start, and changes no more -/
theorem Gr.frz {M : List Addr} {F0 H0 F H : Hp} {p : Addr} {o : HO} (g : Gr M F0 H0 F H) (hn : H0 p = none) (m : Mu F H p o) : Gr M F0 H0 (upd F p o) H := by
  refine ⟨g.ff.trans (Same.new m.n), fun a u e => ?_, g.hh, g.al, fun a e n => ?_⟩
  · by_cases q : a = p
    · subst q
      rw [upd_same] at e
      exact m.h.trans e
    · rw [upd_ne q] at e
      exact g.fh a u e
  · have q : a ≠ p := fun z => by subst z; exact e hn
    rw [upd_ne q]
    exact g.nw a e n
theorem Mu.same {F H : Hp} {p : Addr} {o : HO} (m : Mu F H p o) (w : Same F H) : Same (upd F p o) H := fun a u e => by
  by_cases q : a = p
  · subst q
    rw [upd_same] at e
    exact m.h.trans e
  · rw [upd_ne q] at e
    exact w a u e
theorem Mu.frz {F H : Hp} {p q : Addr} {o u : HO} (m : Mu F H p o) (h : p ≠ q) : Mu (upd F q u) H p o := ⟨by rw [upd_ne h]; exact m.n, m.h⟩
theorem Bag.frz {K : PySem.W.Frag} {F H : Hp} {b q : Addr} {u : HO} (h : Bag K F H b) (hn : F q = none) (hq : b ≠ q) : Bag K (upd F q u) H b := by
  obtain ⟨c, cells, i, cur, st, n, h1, h2, h3, h4⟩ := h.ex
  exact ⟨c, cells, i, cur, st, n, by rw [upd_ne hq]; exact h1, h2, sqL_same (Same.new hn) h3, h4⟩
theorem Bag.put {K : PySem.W.Frag} {F H : Hp} {b q : Addr} {u : HO} (h : Bag K F H b) (hq : b ≠ q) : Bag K F (upd H q u) b := by
  obtain ⟨c, cells, i, cur, st, n, h1, h2, h3, h4⟩ := h.ex
  exact ⟨c, cells, i, cur, st, n, h1, by rw [upd_ne hq]; exact h2, h3, h4⟩
theorem Bag.addm {K : PySem.W.Frag} {F H : Hp} {b q : Addr} {u : HO} (h : Bag K F H b) (hq : H q = none) : Bag K F (upd H q u) b := h.put (h.ne_new hq)
theorem Bag.add {K : PySem.W.Frag} {F H : Hp} {b q : Addr} {u : HO} (w : Same F H) (h : Bag K F H b) (hq : H q = none) : Bag K (upd F q u) (upd H q u) b := (h.addm hq).frz (w.free hq) (h.ne_new hq)
theorem Mu.addm {F H : Hp} {p q : Addr} {o u : HO} (m : Mu F H p o) (hq : H q = none) : Mu F (upd H q u) p o := m.oth (m.ne_new hq)
theorem Mu.add {F H : Hp} {p q : Addr} {o u : HO} (m : Mu F H p o) (hq : H q = none) : Mu (upd F q u) (upd H q u) p o := (m.addm hq).frz (m.ne_new hq)
/-! ### data -/
theorem dpa_len {K : PySem.W.Frag} {F : Hp} : ∀ {vs : List V} {ds : List PyData}, DpAll K F vs ds → vs.length = ds.length
  | _, _, .nil => rfl
  | _, _, .cons _ t => congrArg (· + 1) (dpa_len t)
theorem dpa_get {K : PySem.W.Frag} {F : Hp} : ∀ {vs : List V} {ds : List PyData} {i : Nat} {d : PyData}, DpAll K F vs ds → ds[i]? = some d → ∃ v, vs[i]? = some v ∧ Dp K F v d
  | _, _, _, _, .nil, e => by simp at e
  | _, _, 0, _, .cons h _, e => by
    have e' := Option.some.inj e
    subst e'
    exact ⟨_, rfl, h⟩
  | _, _, i + 1, _, .cons _ t, e => dpa_get (i := i) t e
theorem dpa_app {K : PySem.W.Frag} {F : Hp} : ∀ {vs us : List V} {ds es : List PyData}, DpAll K F vs ds → DpAll K F us es → DpAll K F (vs ++ us) (ds ++ es)
  | _, _, _, _, .nil, h => h
  | _, _, _, _, .cons h t, u => .cons h (dpa_app t u)
theorem dpa_snoc {K : PySem.W.Frag} {F : Hp} {vs : List V} {ds : List PyData} {v : V} {d : PyData} (h : DpAll K F vs ds) (hd : Dp K F v d) : DpAll K F (vs ++ [v]) (ds ++ [d]) := dpa_app h (.cons hd .nil)
def tyD : PyData → String
  | .none => "NoneType" | .bool _ => "bool" | .int _ => "int" | .str _ => "str" | .list _ => "list" | .tuple _ => "tuple" | .dict _ => "dict"
theorem tyx_of {K : PySem.W.Frag} {F H : Hp} {x : V} {d : PyData} (h : Dp K F x d) (w : Same F H) : TyX K H x (.type (tyD d)) := by
  cases h with
  | non => exact .base .non
  | bl b => exact .base (.bl b)
  | int i => exact .base (.int i)
  | str s => exact .base (.str s)
  | lst hs _ =>
    rcases hs with (h | ⟨o, h⟩) | ⟨o, its, n, e1, e2, _⟩
    · exact .base (.lst (w _ _ h))
    · exact .base (.frz (w _ _ h))
    · exact .kList e1 e2
  | tup hs _ =>
    rcases hs with (h | ⟨o, h⟩) | ⟨o, its, n, e1, e2, _⟩
    · exact .base (.tup (w _ _ h))
    · exact .fTuple (w _ _ h)
    · exact .kTuple e1 e2
section
variable {K : PySem.W.Frag} {F H : Hp} {x y : V} {d : PyData} {Q : VK} {n m : String} {p : Addr}
theorem u_isi {b : Bool} (h : Dp K F x d) (w : Same F H) (e : kitB (tyD d) n = some b) (q : Q (.bl b) H) : rIsi K [x, .ty n] H Q :=
  ⟨x, .ty n, _, _, b, rfl, .ty n, tyx_of h w, kit_ty e, q⟩
theorem u_isiT {b c : Bool} (h : Dp K F x d) (w : Same F H) (hp : H p = some (.tup [.ty n, .ty m])) (e1 : kitB (tyD d) n = some b) (e2 : kitB (tyD d) m = some c) (q : Q (.bl (b || c)) H) : rIsiT K [x, .ref p] H Q := by
  refine ⟨x, p, _, _, _, b || c, rfl, hp, .cons (.ty n) (.cons (.ty m) .nil), tyx_of h w, ?_, q⟩
  refine kitAny_cons (kit_ty e1) (fun hb => ?_) (fun hb => by rw [hb]; rfl)
  refine kitAny_cons (kit_ty e2) (fun hc => ?_) (fun hc => by rw [hc]; simp)
  rw [hb, hc]
  exact kitAny_nil
end
/-- the answers of isinstance for data -/
def isSeq : PyData → Bool
  | .list _ | .tuple _ => true
  | _ => false
def isLst : PyData → Bool
  | .list _ => true
  | _ => false
def isTup : PyData → Bool
  | .tuple _ => true
  | _ => false
def isBol : PyData → Bool
  | .bool _ => true
  | _ => false
def isInt : PyData → Bool
  | .bool _ | .int _ => true
  | _ => false
def isStr : PyData → Bool
  | .str _ => true
  | _ => false
theorem k_list : ∀ d : PyData, kitB (tyD d) "list" = some (isLst d) := by intro d; cases d <;> simp only [tyD, isLst, isTup, isBol, isInt, isStr] <;> decide +kernel
theorem k_tuple : ∀ d : PyData, kitB (tyD d) "tuple" = some (isTup d) := by intro d; cases d <;> simp only [tyD, isLst, isTup, isBol, isInt, isStr] <;> decide +kernel
theorem k_bool : ∀ d : PyData, kitB (tyD d) "bool" = some (isBol d) := by intro d; cases d <;> simp only [tyD, isLst, isTup, isBol, isInt, isStr] <;> decide +kernel
theorem k_int : ∀ d : PyData, kitB (tyD d) "int" = some (isInt d) := by intro d; cases d <;> simp only [tyD, isLst, isTup, isBol, isInt, isStr] <;> decide +kernel
theorem k_str : ∀ d : PyData, kitB (tyD d) "str" = some (isStr d) := by intro d; cases d <;> simp only [tyD, isLst, isTup, isBol, isInt, isStr] <;> decide +kernel
def itemsD : PyData → List PyData
  | .list ds | .tuple ds => ds
  | _ => []
theorem seq_of {K : PySem.W.Frag} {F : Hp} {x : V} {d : PyData} (h : Dp K F x d) (s : isSeq d = true) : ∃ (a : Addr) (vs : List V), x = .ref a ∧ (SqL K F a vs ∨ SqT K F a vs) ∧ DpAll K F vs (itemsD d) := by
  cases h with
  | lst hs ha => exact ⟨_, _, rfl, .inl hs, ha⟩
  | tup hs ha => exact ⟨_, _, rfl, .inr hs, ha⟩
  | _ => cases s
theorem sca_of {K : PySem.W.Frag} {F : Hp} {x y : V} {d : PyData} (h : Dp K F x d) (h' : Dp K F y d) (s : isSeq d = false) : y = x ∧ scal x x = true := by
  cases h with
  | lst hs ha => cases s
  | tup hs ha => cases s
  | non => cases h'; exact ⟨rfl, rfl⟩
  | bl => cases h'; exact ⟨rfl, rfl⟩
  | int => cases h'; exact ⟨rfl, rfl⟩
  | str => cases h'; exact ⟨rfl, rfl⟩
theorem depth_item : ∀ {d e : PyData} {i : Nat}, isSeq d = true → (itemsD d)[i]? = some e → e.depth < d.depth := by
  have key : ∀ (ds : List PyData) (i : Nat) (e : PyData), ds[i]? = some e → e.depth ≤ PyData.depthAll ds := by
    intro ds
    induction ds with
    | nil => intro i e h; simp at h
    | cons d ds ih =>
      intro i e h
      cases i with
      | zero =>
        have e' := Option.some.inj h
        subst e'
        rw [PyData.depthAll]
        exact Nat.le_max_left _ _
      | succ i =>
        have := ih i e h
        rw [PyData.depthAll]
        exact Nat.le_trans this (Nat.le_max_right _ _)
  intro d e i s h
  cases d with
  | list ds => rw [PyData.depth]; exact Nat.lt_succ_of_le (key ds i e h)
  | tuple ds => rw [PyData.depth]; exact Nat.lt_succ_of_le (key ds i e h)
  | _ => cases s
section
variable {K : PySem.W.Frag} {H : Hp} {Q : VK} {v : V} {A B : Prop}
theorem w_ixQ {a : Addr} {i : Int} (vs : List V) (v : V) (h : SqL K H a vs ∨ SqT K H a vs) (e : atI vs i = some v) (q : Q v H) : rIx K (.ref a) (.int i) H Q := by
  rcases h with h | h
  · exact .inl ⟨a, vs, i, v, rfl, rfl, h, e, q⟩
  · exact .inr (.inl ⟨a, vs, i, v, rfl, rfl, h, e, q⟩)
theorem sq_same {F : Hp} {a : Addr} {vs : List V} (w : Same F H) (h : SqL K F a vs ∨ SqT K F a vs) : SqL K H a vs ∨ SqT K H a vs := h.elim (fun h => .inl (sqL_same w h)) fun h => .inr (sqT_same w h)
theorem w_nself {α : Type} [DecidableEq α] {a : α} (h : B) : if (!decide (a = a)) = true then A else B := by
  rw [if_neg (by simp)]
  exact h
instance {α : Type} [DecidableEq α] {a : α} : Step (if (!decide (a = a)) = true then A else B) (B) := ⟨w_nself⟩ -- st
theorem w_self {α : Type} [DecidableEq α] {a : α} (h : A) : if decide (a = a) = true then A else B := by
  rw [if_pos (by simp)]
  exact h
instance {α : Type} [DecidableEq α] {a : α} : Step (if decide (a = a) = true then A else B) (A) := ⟨w_self⟩ -- st
theorem w_is {b c : Bool} (e : b = c) (h : if c = true then A else B) : if b = true then A else B := by rw [e]; exact h
end
theorem le1000 {n : Nat} (h : n ≤ 1000) : n ≤ sizeLine := Nat.le_of_lt (small1000 h)
theorem small_lt {n : Nat} (h : n ≤ 1000000) : n < sizeLine := by rw [sizeLine_eq]; omega
theorem all_rep (n : Nat) : (List.replicate n true).all id = true := by
  induction n with
  | zero => rfl
  | succ n ih => rw [List.replicate_succ, List.all_cons, ih]; rfl
theorem szle {n : Nat} (h : n ≤ 1000000) : n ≤ sizeLine := Nat.le_of_lt (by rw [sizeLine_eq]; omega)
section
variable {K : PySem.W.Frag} {σ : L2.St} {H : Hp} {Q : VK} {ta : TE}
theorem w_lstRg {te : L2.St → Hp → (Int → Int → Hp → Prop) → Prop} (q : te σ H fun a b H1 => RgOk a b ∧ ∀ q, H1 q = none → Q (.ref q) (upd H1 q (.lst (rgV a b)))) : tLstRg te σ H Q := q
instance {te : L2.St → Hp → (Int → Int → Hp → Prop) → Prop} : StepO (tLstRg te σ H Q) (te σ H fun a b H1 => RgOk a b ∧ ∀ q, H1 q = none → Q (.ref q) (upd H1 q (.lst (rgV a b)))) := ⟨w_lstRg⟩ -- st
theorem w_rg1 {R : Int → Int → Hp → Prop} (q : ta σ H fun x H1 => asInt x H1 fun n H2 => R 0 n H2) : tRg1 ta σ H R := q
instance {R : Int → Int → Hp → Prop} : Step (tRg1 ta σ H R) (ta σ H fun x H1 => asInt x H1 fun n H2 => R 0 n H2) := ⟨w_rg1⟩ -- st
theorem w_revL (q : ta σ H fun x H1 => ∃ a xs, x = .ref a ∧ SqL K H1 a xs ∧ ∀ p, H1 p = none → Q (.ref p) (upd H1 p (.lst xs.reverse))) : tRevL K ta σ H Q := q
instance : StepO (tRevL K ta σ H Q) (ta σ H fun x H1 => ∃ a xs, x = .ref a ∧ SqL K H1 a xs ∧ ∀ p, H1 p = none → Q (.ref p) (upd H1 p (.lst xs.reverse))) := ⟨w_revL⟩ -- st
end
def nV (l : List Nat) : List V := l.map fun k => V.int (k : Nat)
theorem pick_ix {ns : List Int} {i lo hi : Int} (h0 : 0 ≤ i) (h1 : i < (ns.length : Int)) (hb : ∀ x ∈ ns, lo ≤ x ∧ x ≤ hi) : ∃ m, atI (ns.map V.int) i = some (.int m) ∧ lo ≤ m ∧ m ≤ hi := by
  have hi : i.toNat < ns.length := by omega
  refine ⟨ns[i.toNat], ?_, hb _ (List.getElem_mem hi)⟩
  refine at_of (j := i.toNat) (by omega) ?_
  rw [List.getElem?_map, List.getElem?_eq_getElem hi]
  rfl
theorem cell_at {cells : List Int} {i : Int} (h0 : 0 ≤ i) (h1 : i < ((cells.map V.int).length : Nat)) : ∃ x, x ∈ cells ∧ atI (cells.map V.int) i = some (.int x) := by
  rw [List.length_map] at h1
  have hi : i.toNat < cells.length := by omega
  refine ⟨cells[i.toNat], List.getElem_mem hi, ?_⟩
  refine at_of (j := i.toNat) (by omega) ?_
  rw [List.getElem?_map, List.getElem?_eq_getElem hi]
  rfl
theorem cut63 {ns : List Int} (h : ns.length ≤ 63) : cutV (ns.map V.int) none (some 63) = ns.map V.int := by
  unfold cutV
  rw [HT.sIx_none, show HT.sIx (ns.map V.int).length (ns.map V.int).length (some 63) = min 63 (ns.map V.int).length from HT.sIx_nat _ _ 63, List.drop_zero, List.length_map]
  refine List.take_of_length_le ?_
  rw [List.length_map]
  omega
theorem map_get {ns : List Int} {i : Nat} {x : V} (h : (ns.map V.int)[i]? = some x) : ∃ c, x = .int c := by
  rw [List.getElem?_map] at h
  cases e : ns[i]? with
  | none => rw [e] at h; cases h
  | some c =>
    rw [e] at h
    exact ⟨c, (Option.some.inj h).symm⟩
/-! data of modest size, no dicts, plain signs -/
mutual
def good : PyData → Bool
  | .none | .bool _ | .int _ => true
  | .str x => PyData.strOk x && decide (x.length ≤ 100000)
  | .list ds | .tuple ds => decide (ds.length ≤ 100000) && goodAll ds
  | .dict _ => false
def goodAll : List PyData → Bool
  | [] => true
  | d :: ds => good d && goodAll ds
end
theorem goodAll_iff : ∀ {ds : List PyData}, goodAll ds = true ↔ ∀ d ∈ ds, good d = true
  | [] => by simp [goodAll]
  | d :: ds => by simp [goodAll, goodAll_iff (ds := ds)]
mutual
theorem lay_good : ∀ d : PyData, good d = true → d.canLay0 = true
  | .none, _ => rfl
  | .bool _, _ => rfl
  | .int _, _ => rfl
  | .str x, h => by
    rw [good, Bool.and_eq_true] at h
    exact h.1
  | .list ds, h => by
    rw [good, Bool.and_eq_true] at h
    exact lay_goodAll ds h.2
  | .tuple ds, h => by
    rw [good, Bool.and_eq_true] at h
    exact lay_goodAll ds h.2
  | .dict _, h => by cases h
theorem lay_goodAll : ∀ ds : List PyData, goodAll ds = true → PyData.canLayAll0 ds = true
  | [], _ => rfl
  | d :: ds, h => by
    rw [goodAll, Bool.and_eq_true] at h
    rw [PyData.canLayAll0, lay_good d h.1, lay_goodAll ds h.2]
    rfl
end
theorem good_item {d e : PyData} {i : Nat} (h : good d = true) (he : (itemsD d)[i]? = some e) : good e = true := by
  cases d with
  | list ds =>
    rw [good, Bool.and_eq_true] at h
    exact goodAll_iff.mp h.2 e (List.mem_of_getElem? he)
  | tuple ds =>
    rw [good, Bool.and_eq_true] at h
    exact goodAll_iff.mp h.2 e (List.mem_of_getElem? he)
  | _ => simp [itemsD] at he
theorem good_len {d : PyData} (h : good d = true) : (itemsD d).length ≤ 100000 := by
  cases d with
  | list ds =>
    rw [good, Bool.and_eq_true] at h
    exact of_decide_eq_true h.1
  | tuple ds =>
    rw [good, Bool.and_eq_true] at h
    exact of_decide_eq_true h.1
  | _ => exact Nat.zero_le _
theorem good_shaped {d : PyData} (h : good d = true) (hd : d.depth ≤ 64) : SeqAt.shaped d = true := by
  unfold SeqAt.shaped
  rw [lay_good d h, decide_eq_true hd]
  rfl
theorem good_refl {d : PyData} (h : good d = true) : PyData.eqv d d = true := SeqAt.eqv_refl d (lay_good d h)
theorem good_list {ds : List PyData} (hl : ds.length ≤ 100000) (h : ∀ d ∈ ds, good d = true) : good (.list ds) = true := by
  rw [good, Bool.and_eq_true]
  exact ⟨decide_eq_true hl, goodAll_iff.mpr h⟩
theorem good_tuple {ds : List PyData} (hl : ds.length ≤ 100000) (h : ∀ d ∈ ds, good d = true) : good (.tuple ds) = true := by
  rw [good, Bool.and_eq_true]
  exact ⟨decide_eq_true hl, goodAll_iff.mpr h⟩
theorem depth_list {ds : List PyData} {n : Nat} (h : ∀ d ∈ ds, d.depth ≤ n) : (PyData.list ds).depth ≤ n + 1 := by
  have key : ∀ ds : List PyData, (∀ d ∈ ds, d.depth ≤ n) → PyData.depthAll ds ≤ n := by
    intro ds
    induction ds with
    | nil => intro _; exact Nat.zero_le _
    | cons d ds ih =>
      intro h
      rw [PyData.depthAll]
      exact Nat.max_le.mpr ⟨h d (List.mem_cons_self ..), ih fun e he => h e (List.mem_cons_of_mem _ he)⟩
  rw [PyData.depth]
  exact Nat.succ_le_succ (key ds h)
theorem depth_tuple {ds : List PyData} {n : Nat} (h : ∀ d ∈ ds, d.depth ≤ n) : (PyData.tuple ds).depth ≤ n + 1 := depth_list (ds := ds) h
/-! == and != of equal data -/
section
variable {K : PySem.W.Frag} {F H : Hp} {x y : V} {d : PyData} {Q : VK}
theorem u_neD (w : Same F H) (hx : Dp K F x d) (hy : Dp K F y d) (hg : good d = true) (hd : d.depth ≤ 64) (q : Q (.bl false) H) : rNeD K x y H Q :=
  ⟨d, d, dp_same w _ _ hx, dp_same w _ _ hy, good_shaped hg hd, good_shaped hg hd, by rw [good_refl hg]; exact q⟩
end
/-- two things of the same data -/
def φalike (K : PySem.W.Frag) (n : Nat) : V → V → Hp → VK → Prop := fun x y H Q => ∃ (F : Hp) (d : PyData), Same F H ∧ Dp K F x d ∧ Dp K F y d ∧ d.depth < n ∧ good d = true ∧
  ∀ F2 H2 : Hp, Gr [] F H F2 H2 → Q (.bl true) H2
theorem alike0 {K : PySem.W.Frag} {vs : List V} {H : Hp} {Q : VK} {E : XK} (h : S2 (φalike K 0) vs H Q E) : False := by
  match vs, h with
  | [_, _], h =>
    obtain ⟨F, d, _, _, _, hn, _⟩ := h
    exact absurd hn (Nat.not_lt_zero _)
end R
namespace R
open PySem L2
/-! ### data taken apart -/
section
variable {K : PySem.W.Frag} {F : Hp} {x v : V}
theorem dp_int {i : Int} (h : Dp K F x (.int i)) : x = .int i := by cases h; rfl
theorem dp_str {s : Str} (h : Dp K F x (.str s)) : x = .str s := by cases h; rfl
theorem dp_tup {ds : List PyData} (h : Dp K F x (.tuple ds)) : ∃ (a : Addr) (vs : List V), x = .ref a ∧ SqT K F a vs ∧ DpAll K F vs ds := by
  cases h with
  | tup hs ha => exact ⟨_, _, rfl, hs, ha⟩
theorem dpa_cons {vs : List V} {d : PyData} {ds : List PyData} (h : DpAll K F vs (d :: ds)) : ∃ v us, vs = v :: us ∧ Dp K F v d ∧ DpAll K F us ds := by
  cases h with
  | cons h t => exact ⟨_, _, rfl, h, t⟩
theorem dpa_nil {vs : List V} (h : DpAll K F vs []) : vs = [] := by cases h; rfl
theorem dp_tup3 {d1 d2 d3 : PyData} (h : Dp K F x (.tuple [d1, d2, d3])) : ∃ (a : Addr) (v1 v2 v3 : V), x = .ref a ∧ SqT K F a [v1, v2, v3] ∧ Dp K F v1 d1 ∧ Dp K F v2 d2 ∧ Dp K F v3 d3 := by
  obtain ⟨a, vs, rfl, hs, h0⟩ := dp_tup h
  obtain ⟨v1, us, rfl, h1, h0⟩ := dpa_cons h0
  obtain ⟨v2, us, rfl, h2, h0⟩ := dpa_cons h0
  obtain ⟨v3, us, rfl, h3, h0⟩ := dpa_cons h0
  cases dpa_nil h0
  exact ⟨a, v1, v2, v3, rfl, hs, h1, h2, h3⟩
end
/-! ### texts -/
/-- a text of plain signs -/
def okS (z : Str) : Prop := PyData.strOk z = true
instance (z : Str) : Decidable (okS z) := inferInstanceAs (Decidable (PyData.strOk z = true))
theorem joined (ys : List Str) (h : ∀ y ∈ ys, y.length = 1 ∧ okS y) : (Txt.join ⟨#[]⟩ ys).length = ys.length ∧ okS (Txt.join ⟨#[]⟩ ys) := by
  have e : TL.tl (Txt.join ⟨#[]⟩ ys) = (ys.map TL.tl).flatten := by
    rw [TL.join_eq, TL.tl_join]
    have key : ∀ l : List (List Nat), TL.joinL [] l = l.flatten := by
      intro l
      induction l with
      | nil => rfl
      | cons p r ih =>
        cases r with
        | nil => simp [TL.joinL]
        | cons q r =>
          show p ++ ([] ++ TL.joinL [] (q :: r)) = _
          rw [ih, List.nil_append]
          rfl
    exact key _
  have hl : ∀ z : Str, z.length = (TL.tl z).length := fun z => by simp [TL.tl, Str.length]
  constructor
  · rw [hl, e]
    clear e
    induction ys with
    | nil => rfl
    | cons y r ih =>
      rw [List.map_cons, List.flatten_cons, List.length_append, ih fun z hz => h z (List.mem_cons_of_mem _ hz), ← hl, (h y (List.mem_cons_self ..)).1, List.length_cons]
      omega
  · show (Txt.join ⟨#[]⟩ ys).cps.all (· < 0x110000) = true
    rw [← Array.all_toList]
    show (TL.tl (Txt.join ⟨#[]⟩ ys)).all _ = true
    rw [e, List.all_eq_true]
    intro c hc
    obtain ⟨l, hl1, hc⟩ := List.mem_flatten.mp hc
    obtain ⟨y, hy, rfl⟩ := List.mem_map.mp hl1
    have h2 : y.cps.all (· < 0x110000) = true := (h y hy).2
    rw [← Array.all_toList, List.all_eq_true] at h2
    exact h2 c hc
theorem sum_ones : ∀ (ys : List Str), (∀ y ∈ ys, y.length = 1 ∧ okS y) → (ys.map (·.length)).sum = ys.length
  | [], _ => rfl
  | y :: r, h => by
    rw [List.map_cons, List.sum_cons, sum_ones r fun z hz => h z (List.mem_cons_of_mem _ hz), (h y (List.mem_cons_self ..)).1, List.length_cons]
    omega
theorem at_of' {α : Type} {xs : List α} {z : Int} {j : Nat} {v : α} (e : z = (j : Int)) (h : xs[j]? = some v) : atI xs z = some v := by
  rw [e]
  exact atI_nat h
theorem sign_at {z : Str} {r : Int} (ok : okS z) (h0 : 0 ≤ r) (h1 : r < (z.length : Nat)) : ∃ c : Nat, atI z.cps.toList r = some c ∧ okS ⟨#[c]⟩ := by
  have hi : r.toNat < z.cps.toList.length := by
    have : z.cps.toList.length = z.length := by simp [Str.length]
    omega
  refine ⟨z.cps.toList[r.toNat], at_of' (by omega) (List.getElem?_eq_getElem hi), ?_⟩
  have h2 : z.cps.all (· < 0x110000) = true := ok
  rw [← Array.all_toList, List.all_eq_true] at h2
  have h3 := h2 _ (List.getElem_mem hi)
  show (#[z.cps.toList[r.toNat]] : Array Nat).all (· < 0x110000) = true
  simpa using h3
/-! ### rows of a plan -/
inductive Wd where | copy | keep | lay
  deriving DecidableEq
def Wd.s : Wd → Str
  | .copy => "copy" | .keep => "keep" | .lay => "lay"
inductive PRow where
  | put (to : Int) (s : Str)
  | mv (w : Wd) (to at_ n : Int)
def PRow.d : PRow → PyData
  | .put to s => .tuple [.str "put", .int to, .str s]
  | .mv w to a n => .tuple [.str w.s, .int to, .int a, .int n]
def PRow.size : PRow → Nat
  | .put _ s => s.length
  | .mv _ _ _ n => n.toNat
def PRow.ok : PRow → Prop
  | .put _ s => okS s ∧ s.length ≤ 5000
  | .mv _ _ _ n => 0 ≤ n ∧ n ≤ 5000
def wr (a : Str) (i : Int) (b : Str) (x : PyData) : PyData := .tuple [.str a, .int i, .str b, x]
def Wd.cell (w : Wd) : Str := if w = .keep then "slot" else "cell"
/-! ### the law's makers -/
/-- a list of truths of this length, that may change -/
def Hs (F H : Hp) (t : Addr) (n : Nat) : Prop := ∃ bs : List Bool, bs.length = n ∧ Mu F H t (.lst (bs.map V.bl))
theorem Hs.keep {M : List Addr} {F H F2 H2 : Hp} {t : Addr} {n : Nat} (g : Gr M F H F2 H2) (h : Hs F H t n) (ht : t ∉ M) : Hs F2 H2 t n := by
  obtain ⟨bs, l, m⟩ := h
  exact ⟨bs, l, g.mu m ht⟩
theorem Hs.addm {F H : Hp} {t p : Addr} {n : Nat} {u : HO} (h : Hs F H t n) (hp : H p = none) : Hs F (upd H p u) t n := by
  obtain ⟨bs, l, m⟩ := h
  exact ⟨bs, l, m.addm hp⟩
theorem Hs.add {F H : Hp} {t p : Addr} {n : Nat} {u : HO} (h : Hs F H t n) (hp : H p = none) : Hs (upd F p u) (upd H p u) t n := by
  obtain ⟨bs, l, m⟩ := h
  exact ⟨bs, l, m.add hp⟩
theorem Hs.ne_new {F H : Hp} {t q : Addr} {n : Nat} (h : Hs F H t n) (hq : H q = none) : t ≠ q := by
  obtain ⟨_, _, m⟩ := h
  exact m.ne_new hq
theorem Hs.put {F H : Hp} {t q : Addr} {n : Nat} {u : HO} (h : Hs F H t n) (hq : t ≠ q) : Hs F (upd H q u) t n := by
  obtain ⟨bs, l, m⟩ := h
  exact ⟨bs, l, m.oth hq⟩
theorem Hs.set {F H : Hp} {t p : Addr} {n : Nat} {cs : List Bool} (h : Hs F H t n) (hp : t = p → cs.length = n) (m : Mu F H p (.lst (cs.map V.bl))) {j : Nat} : Hs F (upd H p (.lst ((cs.map V.bl).set j (V.bl true)))) t n := by
  by_cases e : t = p
  · subst e
    refine ⟨cs.set j true, by rw [List.length_set]; exact hp rfl, ?_⟩
    rw [List.map_set]
    exact m.wr
  · obtain ⟨bs, l, m'⟩ := h
    exact ⟨bs, l, m'.oth e⟩
theorem str_good {z : Str} (h : okS z) (hl : z.length ≤ 100000) : good (.str z) = true := by
  rw [good, h, decide_eq_true hl]
  rfl
def φlaw (K : PySem.W.Frag) : V → Hp → VK → Prop := fun x H Q => ∃ (a : Addr) (ns : List Int), x = .ref a ∧ SqL K H a (ns.map V.int) ∧ ns.length ≤ 63 ∧ ∀ H', Q (.bl true) H'
theorem law_start {K : PySem.W.Frag} {H : Hp} (a : Addr) (ns : List Int) (hl : ns.length ≤ 63) (hO : Only H) (hS : SqL K H a (ns.map V.int)) : (S1 (φlaw K)) [.ref a] H (fun v _ => v = .bl true) fun _ _ _ => False := ⟨a, ns, rfl, hS, hl, fun _ => rfl⟩
end R
namespace R
open PySem PySem.Spec PyProof.Rows L2
/-- d.setdefault(t, z), t a tuple -/
def tDSetT (td ty tx : TE) : TE := fun σ H Q => td σ H fun x H1 => ∃ a, x = .ref a ∧ IsD H1 a ∧ ty σ H1 fun y H2 => tx σ H2 fun z H3 => ∃ (b : Addr) (kvs : List (List Key × V)) (k : List Key), H3 a = some (.dT kvs) ∧ y = .ref b ∧ H3 b = some (.tup (k.map kV)) ∧ kvs.length < sizeLine ∧
  (∀ v, valV kvs k = some v → Q v H3) ∧ (valV kvs k = none → Q z (upd H3 a (.dT (putK kvs k z))))
end R
namespace R
open PySem L2
/-! ### dicts in a reading -/
def gDGet (x y : V) (H : Hp) (Q : VK) : Prop := ∃ a v, x = .ref a ∧ DGet H a y (some v) ∧ Q v H
def gDIn (x y : V) (H : Hp) (Q : VK) : Prop := ∃ a o, x = .ref a ∧ DGet H a y o ∧ Q (.bl o.isSome) H
def gDNotIn (x y : V) (H : Hp) (Q : VK) : Prop := ∃ a o, x = .ref a ∧ DGet H a y o ∧ Q (.bl (!o.isSome)) H
def gDPut (x y v : V) (H : Hp) (Z : Hp → Prop) : Prop := ∃ a H4, x = .ref a ∧ DPut H a y v H4 ∧ Z H4
section
variable {K : PySem.W.Frag} {σ : L2.St} {H : Hp} {Q : VK} {td ty tv tx te : TE} {x y v : V} {nx bk ct : L2.St → Hp → Prop} {rt : VK} {D p : Addr} {kvs : List (List Key × V)} {ks : List Key}
theorem w_dnewT (q : ∀ p, H p = none → Q (.ref p) (upd H p (.dT []))) : tDNewT σ H Q := q
instance : Step (tDNewT σ H Q) (∀ p, H p = none → Q (.ref p) (upd H p (.dT []))) := ⟨w_dnewT⟩ -- st
theorem w_dnewK (q : ∀ p, H p = none → Q (.ref p) (upd H p (.dK []))) : tDNewK σ H Q := q
instance : Step (tDNewK σ H Q) (∀ p, H p = none → Q (.ref p) (upd H p (.dK []))) := ⟨w_dnewK⟩ -- st
theorem w_dget (q : td σ H fun x H1 => ty σ H1 fun y H2 => gDGet x y H2 Q) : tDGet td ty σ H Q := q
instance : Step (tDGet td ty σ H Q) (td σ H fun x H1 => ty σ H1 fun y H2 => gDGet x y H2 Q) := ⟨w_dget⟩ -- st
theorem w_din (q : ty σ H fun y H1 => td σ H1 fun x H2 => gDIn x y H2 Q) : tDIn ty td σ H Q := q
instance : Step (tDIn ty td σ H Q) (ty σ H fun y H1 => td σ H1 fun x H2 => gDIn x y H2 Q) := ⟨w_din⟩ -- st
theorem w_dnotin (q : ty σ H fun y H1 => td σ H1 fun x H2 => gDNotIn x y H2 Q) : tDNotIn ty td σ H Q := q
instance : Step (tDNotIn ty td σ H Q) (ty σ H fun y H1 => td σ H1 fun x H2 => gDNotIn x y H2 Q) := ⟨w_dnotin⟩ -- st
theorem w_dput (q : tv σ H fun v H1 => td σ H1 fun x H2 => ty σ H2 fun y H3 => gDPut x y v H3 fun H4 => nx σ H4) : sDPut td ty tv ⟨nx, rt, bk, ct⟩ σ H := q
instance : Step (sDPut td ty tv ⟨nx, rt, bk, ct⟩ σ H) (tv σ H fun v H1 => td σ H1 fun x H2 => ty σ H2 fun y H3 => gDPut x y v H3 fun H4 => nx σ H4) := ⟨w_dput⟩ -- st
theorem w_dsetT (q : td σ H fun x H1 => ∃ a, x = .ref a ∧ IsD H1 a ∧ ty σ H1 fun y H2 => tx σ H2 fun z H3 => ∃ (b : Addr) (kvs : List (List Key × V)) (k : List Key), H3 a = some (.dT kvs) ∧ y = .ref b ∧ H3 b = some (.tup (k.map kV)) ∧ kvs.length < sizeLine ∧
  (∀ v, valV kvs k = some v → Q v H3) ∧ (valV kvs k = none → Q z (upd H3 a (.dT (putK kvs k z))))) : tDSetT td ty tx σ H Q := q
instance : Step (tDSetT td ty tx σ H Q) (td σ H fun x H1 => ∃ a, x = .ref a ∧ IsD H1 a ∧ ty σ H1 fun y H2 => tx σ H2 fun z H3 => ∃ (b : Addr) (kvs : List (List Key × V)) (k : List Key), H3 a = some (.dT kvs) ∧ y = .ref b ∧ H3 b = some (.tup (k.map kV)) ∧ kvs.length < sizeLine ∧ (∀ v, valV kvs k = some v → Q v H3) ∧ (valV kvs k = none → Q z (upd H3 a (.dT (putK kvs k z))))) := ⟨w_dsetT⟩ -- st
end
theorem w_rg2 {σ : L2.St} {H : Hp} {ta tb : TE} {R : Int → Int → Hp → Prop} (q : ta σ H fun x H1 => tb σ H1 fun y H2 => ∃ i j, x = .int i ∧ y = .int j ∧ R i j H2) : tRg2 ta tb σ H R := q
instance {σ : L2.St} {H : Hp} {ta tb : TE} {R : Int → Int → Hp → Prop} : Step (tRg2 ta tb σ H R) (ta σ H fun x H1 => tb σ H1 fun y H2 => ∃ i j, x = .int i ∧ y = .int j ∧ R i j H2) := ⟨w_rg2⟩ -- st
/-! ### writes as acts -/
structure WAct where
  w : Str
  n : Int
  s : Str
  x : Key
def keyD : Key → PyData
  | .inl i => .int i
  | .inr z => .str z
def WAct.d (t : WAct) : PyData := .tuple [.str t.w, .int t.n, .str t.s, keyD t.x]
def keyOk : Key → Prop
  | .inl _ => True
  | .inr z => okS z ∧ z.length ≤ 100
def WAct.ok (t : WAct) : Prop := (okS t.w ∧ t.w.length ≤ 100) ∧ (okS t.s ∧ t.s.length ≤ 100) ∧ keyOk t.x
/-! ### the fault of a row of acts -/
/-- a fault as a value -/
def ResV (F : Hp) (v : V) : Option (Nat × Nat) → Prop
  | none => v = .non
  | some (i, j) => ∃ p, v = .ref p ∧ F p = some (.tup [.int (i : Nat), .int (j : Nat)])
theorem ResV.same {F F2 : Hp} {v : V} {o : Option (Nat × Nat)} (h : ResV F v o) (w : Same F F2) : ResV F2 v o := by
  cases o with
  | none => exact h
  | some p =>
    obtain ⟨a, e1, e2⟩ := h
    exact ⟨a, e1, w _ _ e2⟩
/-! ### the law's makers -/
/-- marks that stay -/
structure Mks (F : Hp) (p : Addr) (n : Nat) (ms : List Nat) : Prop where
  at_ : F p = some (.lst (nV ms))
  ok : ∀ k ∈ ms, 1 ≤ k ∧ k < n
  len : ms.length ≤ 20000
theorem Mks.same {F F2 : Hp} {p : Addr} {n : Nat} {ms : List Nat} (h : Mks F p n ms) (w : Same F F2) : Mks F2 p n ms := ⟨w _ _ h.at_, h.ok, h.len⟩
/-- a list of lists of marks -/
def PL (F : Hp) (n : Nat) (v : V) : Prop := ∃ p ms, v = .ref p ∧ Mks F p n ms
theorem PL.same {F F2 : Hp} {n : Nat} {v : V} (h : PL F n v) (w : Same F F2) : PL F2 n v := by
  obtain ⟨p, ms, e, m⟩ := h
  exact ⟨p, ms, e, m.same w⟩
end R
namespace R
open PySem L2
/-! ### parts of the heap, one beside the other -/
structure Own where
  as : List Addr
  φ : Hp → Hp → Prop
  st : ∀ {F H F2 H2 : Hp}, Same F F2 → (∀ a ∈ as, ∀ o, H a = some o → H2 a = some o) → (∀ a ∈ as, F a = none → F2 a = none) → φ F H → φ F2 H2
  al : ∀ {F H : Hp}, φ F H → ∀ a ∈ as, H a ≠ none
theorem Own.gr (o : Own) {M : List Addr} {F H F2 H2 : Hp} (g : Gr M F H F2 H2) (h : ∀ a ∈ o.as, a ∉ M) (x : o.φ F H) : o.φ F2 H2 :=
  o.st g.ff (fun a m u e => g.hh a u (h a m) e) (fun a m e => g.nw a (o.al x a m) e) x
def mu (p : Addr) (o : HO) : Own := ⟨[p], fun F H => Mu F H p o, fun s h n m => ⟨n p (List.mem_singleton.mpr rfl) m.n, h p (List.mem_singleton.mpr rfl) o m.h⟩, fun m a h => by
  rw [List.mem_singleton.mp h]
  exact ne_none m.h⟩
def bag (K : PySem.W.Frag) (b : Addr) : Own := ⟨[b], fun F H => Bag K F H b, fun s h n m => by
  obtain ⟨c, cells, i, cur, st, k, h1, h2, h3, h4⟩ := m.ex
  exact ⟨c, cells, i, cur, st, k, n b (List.mem_singleton.mpr rfl) h1, h b (List.mem_singleton.mpr rfl) _ h2, sqL_same s h3, h4⟩, fun m a h => by
  rw [List.mem_singleton.mp h]
  obtain ⟨c, cells, i, cur, st, k, h1, h2, h3, h4⟩ := m.ex
  exact ne_none h2⟩
def pur (φ : Hp → Prop) (h : ∀ {F F2 : Hp}, Same F F2 → φ F → φ F2) : Own := ⟨[], fun F _ => φ F, fun s _ _ x => h s x, fun _ a h => nomatch h⟩
def dat (K : PySem.W.Frag) (v : V) (d : PyData) : Own := pur (fun F => Dp K F v d) fun s x => dp_same s _ _ x
def dpa (K : PySem.W.Frag) (vs : List V) (ds : List PyData) : Own := pur (fun F => DpAll K F vs ds) fun s x => dpa_same s _ _ x
def imL (K : PySem.W.Frag) (a : Addr) (xs : List V) : Own := pur (fun F => SqL K F a xs) fun s x => sqL_same s x
def imT (K : PySem.W.Frag) (a : Addr) (xs : List V) : Own := pur (fun F => SqT K F a xs) fun s x => sqT_same s x
/-- an object that stays -/
def fx (p : Addr) (o : HO) : Own := pur (fun F => F p = some o) fun s x => s _ _ x
abbrev ads (L : List Own) : List Addr := L.flatMap Own.as
structure St (F H : Hp) (L : List Own) : Prop where
  s : Same F H
  i : ∀ o ∈ L, o.φ F H
  d : (ads L).Nodup
structure W (M : List Addr) (F0 H0 F H : Hp) (L : List Own) : Prop where
  g : Gr M F0 H0 F H
  i : ∀ o ∈ L, o.φ F H
  d : (ads L).Nodup
  o : ∀ a ∈ ads L, a ∈ M ∨ H0 a = none
/-- D taken out of L leaves Rs -/
inductive Rm (x : Own) : List Own → List Own → Prop
  | here {L : List Own} : Rm x (x :: L) L
  | there {y : Own} {L Rs : List Own} : Rm x L Rs → Rm x (y :: L) (y :: Rs)
inductive Pick : List Own → List Own → List Own → Prop
  | nil {L : List Own} : Pick L [] L
  | cons {o : Own} {L L1 D Rs : List Own} : Rm o L L1 → Pick L1 D Rs → Pick L (o :: D) Rs
theorem Rm.perm {x : Own} {L Rs : List Own} (h : Rm x L Rs) : L.Perm (x :: Rs) := by
  induction h with
  | here => exact .refl _
  | there _ ih => exact (ih.cons _).trans (.swap _ _ _)
theorem Pick.perm {L D Rs : List Own} (h : Pick L D Rs) : L.Perm (D ++ Rs) := by
  induction h with
  | nil => exact .refl _
  | cons h _ ih => exact h.perm.trans (ih.cons _)
theorem ads_perm {L L' : List Own} (h : L.Perm L') : (ads L).Perm (ads L') := h.flatMap_right Own.as
theorem ads_app (L L' : List Own) : ads (L ++ L') = ads L ++ ads L' := by simp [ads]
section
variable {K : PySem.W.Frag} {M N : List Addr} {F0 H0 F H F1 H1 F2 H2 : Hp} {L L2 D Rs : List Own} {p a : Addr} {u o2 : HO}
theorem W.perm (w : W M F0 H0 F H L) (h : L.Perm L2) : W M F0 H0 F H L2 :=
  ⟨w.g, fun o m => w.i o (h.mem_iff.mpr m), (ads_perm h).nodup_iff.mp w.d, fun a m => w.o a ((ads_perm h).mem_iff.mpr m)⟩
theorem W.to (w : W M F0 H0 F H L) (k : Pick L D Rs) : W M F0 H0 F H D := by
  have w := w.perm k.perm
  refine ⟨w.g, fun o m => w.i o (List.mem_append_left _ m), ?_, fun a m => w.o a (by rw [ads_app]; exact List.mem_append_left _ m)⟩
  have h := w.d
  rw [ads_app] at h
  exact (List.nodup_append.mp h).1
def Pk (L D : List Own) : Prop := ∃ Rs, Pick L D Rs
theorem W.pk (w : W M F0 H0 F H L) (k : Pk L D) : W M F0 H0 F H D := k.elim fun _ k => w.to k
theorem W.st (w : W M F0 H0 F H L) (k : Pick L D Rs) : St F H D := ⟨w.g.fh, (w.to k).i, (w.to k).d⟩
theorem St.w (s : St F H L) (h : M = ads L := by rfl) : W M F H F H L := ⟨.refl s.s, s.i, s.d, fun a m => .inl (by rw [h]; exact m)⟩
theorem W.start (s : Same F H) : W M F H F H [] := ⟨.refl s, (fun _ h => nomatch h), .nil, (fun _ h => nomatch h)⟩
theorem W.call (w : W M F0 H0 F H L) (k : Pick L D Rs) (w2 : W N F H F2 H2 L2) (hN : N = ads D := by rfl) : W M F0 H0 F2 H2 (L2 ++ Rs) := by
  subst hN
  have w := w.perm k.perm
  have hd := w.d
  have ho := w.o
  rw [ads_app] at hd ho
  obtain ⟨d1, d2, d3⟩ := List.nodup_append.mp hd
  have hR : ∀ a ∈ ads Rs, H a ≠ none := fun a m => by
    obtain ⟨o, mo, ma⟩ := List.mem_flatMap.mp m
    exact o.al (w.i o (List.mem_append_right _ mo)) a ma
  refine ⟨w.g.transN w2.g fun x m => ho x (List.mem_append_left _ m), fun o m => ?_, ?_, fun a m => ?_⟩
  · rcases List.mem_append.mp m with m | m
    · exact w2.i o m
    · refine o.gr w2.g (fun a ha hb => d3 a hb a (List.mem_flatMap.mpr ⟨o, m, ha⟩) rfl) (w.i o (List.mem_append_right _ m))
  · rw [ads_app]
    refine List.nodup_append.mpr ⟨w2.d, d2, fun a ha b hb e => ?_⟩
    subst e
    rcases w2.o a ha with h | h
    · exact d3 a h a hb rfl
    · exact hR a hb h
  · rw [ads_app] at m
    rcases List.mem_append.mp m with m | m
    · rcases w2.o a m with h | h
      · exact ho a (List.mem_append_left _ h)
      · exact .inr (w.g.fresh h)
    · exact ho a (List.mem_append_right _ m)
theorem W.ws (w : W M F0 H0 F H L) : Same F0 H := w.g.ws
theorem W.fh (w : W M F0 H0 F H L) : Same F H := w.g.fh
theorem W.ff (w : W M F0 H0 F H L) : Same F0 F := w.g.ff
theorem W.push (w : W M F0 H0 F H L) (o : Own) (h : o.φ F H) (e : o.as = [] := by rfl) : W M F0 H0 F H (o :: L) := by
  refine ⟨w.g, fun q m => ?_, ?_, fun a m => ?_⟩
  · rcases List.mem_cons.mp m with rfl | m
    · exact h
    · exact w.i q m
  · show ((o :: L).flatMap Own.as).Nodup
    rw [List.flatMap_cons, e]
    exact w.d
  · have m' : a ∈ (o :: L).flatMap Own.as := m
    rw [List.flatMap_cons, e] at m'
    exact w.o a m'
/-- a new object that stays -/
theorem W.im (w : W M F0 H0 F H L) (h : H p = none) : W M F0 H0 (upd F p u) (upd H p u) L := by
  have w2 : W [] F H (upd F p u) (upd H p u) [] := ⟨.im w.g.fh h, (fun _ h => nomatch h), .nil, (fun _ h => nomatch h)⟩
  exact w.call .nil w2
/-- a new object that may change -/
theorem W.nw (w : W M F0 H0 F H L) (h : H p = none) : W M F0 H0 F (upd H p u) (mu p u :: L) := by
  have w2 : W [] F H F (upd H p u) [mu p u] := by
    refine ⟨.new w.g.fh h, fun q m => ?_, ?_, fun a m => ?_⟩
    · rw [List.mem_singleton.mp m]
      exact Mu.new w.g.fh h
    · show ([p] : List Addr).Nodup
      simp
    · have : a = p := List.mem_singleton.mp m
      subst this
      exact .inr h
  exact w.call .nil w2
/-- a change -/
theorem W.wr (w : W M F0 H0 F H L) (k : Pick L [mu p o2] Rs) : W M F0 H0 F (upd H p u) (mu p u :: Rs) := by
  have m : Mu F H p o2 := (w.to k).i _ (List.mem_singleton.mpr rfl)
  have w2 : W [p] F H F (upd H p u) [mu p u] := by
    refine ⟨.wr w.g.fh m.n (List.mem_singleton.mpr rfl), fun q h => ?_, ?_, fun a h => ?_⟩
    · rw [List.mem_singleton.mp h]
      exact m.wr
    · show ([p] : List Addr).Nodup
      simp
    · exact .inl h
  exact w.call k w2 rfl
/-- an object that changes no more -/
theorem W.fz (w : W M F0 H0 F H L) (k : Pick L [mu p u] Rs) (hn : H0 p = none) : W M F0 H0 (upd F p u) H Rs := by
  have w := w.perm k.perm
  have m : Mu F H p u := w.i _ (List.mem_cons_self ..)
  have hd := w.d
  rw [ads_app] at hd
  obtain ⟨d1, d2, d3⟩ := List.nodup_append.mp hd
  refine ⟨w.g.frz hn m, fun o ho => ?_, d2, fun a ha => w.o a (by rw [ads_app]; exact List.mem_append_right _ ha)⟩
  have hp : ∀ a ∈ o.as, a ≠ p := fun a ha e => d3 p (List.mem_singleton.mpr rfl) a (List.mem_flatMap.mpr ⟨o, ho, ha⟩) e.symm
  refine o.st (Same.new m.n) (fun a _ _ e => e) (fun a ha e => ?_) (w.i o (List.mem_append_right _ ho))
  rw [upd_ne (hp a ha)]
  exact e
theorem W.fzL {xs : List V} (w : W M F0 H0 F H L) (k : Pick L [mu p (.lst xs)] Rs) (hn : H0 p = none) : ∃ F2, W M F0 H0 F2 H (fx p (.lst xs) :: Rs) := ⟨_, (w.fz k hn).push (fx p (.lst xs)) upd_same⟩
end
inductive App : List Own → List Own → List Own → Prop
  | nil {Rs : List Own} : App [] Rs Rs
  | cons {o : Own} {L Rs L' : List Own} : App L Rs L' → App (o :: L) Rs (o :: L')
theorem App.eq {L Rs L' : List Own} (h : App L Rs L') : L ++ Rs = L' := by
  induction h with
  | nil => rfl
  | cons _ ih => rw [List.cons_append, ih]
section
variable {K : PySem.W.Frag} {M N : List Addr} {F0 H0 F H F1 H1 F2 H2 : Hp} {L L2 L3 D Rs : List Own} {p a : Addr} {u o2 : HO} {xs ys : List V} {ds : List PyData} {d : PyData} {v : V}
theorem W.cal (w : W M F0 H0 F H L) (k : Pick L D Rs) (w2 : W N F H F2 H2 L2) (e : App L2 Rs L3) (hN : N = ads D := by rfl) : W M F0 H0 F2 H2 L3 := by
  rw [← e.eq]
  exact w.call k w2 hN
/-- .. by what the older promises tell -/
theorem W.gr (w : W M F0 H0 F H L) (k : Pick L D Rs) (g : Gr N F H F2 H2) (i : ∀ o ∈ D, o.φ F2 H2) (e : App D Rs L3) (hN : N = ads D := by rfl) : W M F0 H0 F2 H2 L3 :=
  w.cal k (L2 := D) ⟨g, i, (w.to k).d, fun a m => .inl (by rw [hN]; exact m)⟩ e hN
theorem W.gr0 (w : W M F0 H0 F H L) (g : Gr [] F H F2 H2) : W M F0 H0 F2 H2 L := w.gr (D := []) .nil g (fun _ h => nomatch h) .nil
theorem W.gr1 {o : Own} (w : W M F0 H0 F H L) (k : Pick L [o] Rs) (g : Gr N F H F2 H2) (i : o.φ F2 H2) (hN : N = ads [o] := by rfl) : W M F0 H0 F2 H2 (o :: Rs) :=
  w.gr k g (fun q m => by rw [List.mem_singleton.mp m]; exact i) (.cons .nil) hN
theorem W.mu (w : W M F0 H0 F H L) (m : mu p u ∈ L) : Mu F H p u := w.i _ m
theorem W.bag {b : Addr} (w : W M F0 H0 F H L) (m : bag K b ∈ L) : Bag K F H b := w.i _ m
theorem W.dat (w : W M F0 H0 F H L) (m : dat K v d ∈ L) : Dp K F v d := w.i _ m
theorem W.dpa (w : W M F0 H0 F H L) (m : dpa K xs ds ∈ L) : DpAll K F xs ds := w.i _ m
theorem W.imL (w : W M F0 H0 F H L) (m : imL K p xs ∈ L) : SqL K F p xs := w.i _ m
theorem W.imT (w : W M F0 H0 F H L) (m : imT K p xs ∈ L) : SqT K F p xs := w.i _ m
theorem W.at_ (w : W M F0 H0 F H L) (m : R.mu p u ∈ L) : H p = some u := (w.mu m).h
theorem W.sqM (w : W M F0 H0 F H L) (m : R.mu p (.lst xs) ∈ L) : SqL K H p xs := (w.mu m).sq
theorem W.fx (w : W M F0 H0 F H L) (m : R.fx p u ∈ L) : H p = some u := w.fh _ _ (w.i _ m)
theorem W.sqF (w : W M F0 H0 F H L) (m : R.fx p (.lst xs) ∈ L) : SqL K H p xs := sqL_of (w.fx m)
theorem W.stF (w : W M F0 H0 F H L) (m : R.fx p (.tup xs) ∈ L) : SqT K H p xs := sqT_of (w.fx m)
theorem W.sqI (w : W M F0 H0 F H L) (m : R.imL K p xs ∈ L) : SqL K H p xs := sqL_same w.fh (w.imL m)
theorem W.sq0 (w : W M F0 H0 F H L) (h : SqL K F0 p xs) : SqL K H p xs := sqL_same w.ws h
theorem W.stI (w : W M F0 H0 F H L) (m : R.imT K p xs ∈ L) : SqT K H p xs := sqT_same w.fh (w.imT m)
theorem W.st0 (w : W M F0 H0 F H L) (h : SqT K F0 p xs) : SqT K H p xs := sqT_same w.ws h
theorem W.dpa0 (w : W M F0 H0 F H L) (h : DpAll K F0 xs ds) : DpAll K F xs ds := dpa_same w.ff _ _ h
end
/-! ### steps -/
def mkT (xs : List V) (H : Hp) (Q : VK) : Prop := xs.length ≤ sizeLine ∧ ∀ p, H p = none → Q (.ref p) (upd H p (.tup xs))
def mkL (xs : List V) (H : Hp) (Q : VK) : Prop := xs.length ≤ sizeLine ∧ ∀ p, H p = none → Q (.ref p) (upd H p (.lst xs))
def forG (g : TG) (tb : TS) (D : Ends) (J : It) (σ : L2.St) (H : Hp) : Prop := ∃ W : Nat → Nat → L2.St → Hp → Prop, (∃ m, W 0 m σ H) ∧ ∀ i m σ H, W i m σ H →
  (J.stop i H ∧ D.nx σ H) ∨ (J.go i H ∧ ∃ N : L2.St → Hp → Prop, (∀ σ' H', N σ' H' → ∃ m', m' < m ∧ W (i + 1) m' σ' H') ∧ ∀ x H', J.yld i H x H' → g x σ H' fun σ2 H2 => tb ⟨N, D.rt, D.nx, N⟩ σ2 H2)
def lcG (g : TG) (tt : TT) (te : TE) (vs : List Nat) (J : It) (σ : L2.St) (H : Hp) (Q : VK) : Prop := ∀ D, H D = none → ∃ W : Nat → Nat → Hp → Prop, (∃ m, W 0 m (upd H D (.lst []))) ∧ ∀ i m H, W i m H →
  (J.stop i H ∧ Q (.ref D) H) ∨ (J.go i H ∧ ∃ Nx : Hp → Prop, (∀ H', Nx H' → ∃ m', m' < m ∧ W (i + 1) m' H') ∧ ∀ x H', J.yld i H x H' → g x (wipe σ vs) H' fun σ2 H2 => wipe σ2 vs = wipe σ vs ∧ tt σ2 H2 fun b H3 =>
    if b = true then te σ2 H3 fun y H4 => ∃ acc, H4 D = some (.lst acc) ∧ acc.length < sizeLine ∧ Nx (upd H4 D (.lst (acc ++ [y]))) else Nx H3)
def accG (D : Addr) (Z : Hp → Prop) (y : V) (H : Hp) : Prop := ∃ acc, H D = some (.lst acc) ∧ acc.length < sizeLine ∧ Z (upd H D (.lst (acc ++ [y])))
def Nx (M : List Addr) (F0 H0 : Hp) (Inv : L2.St → List Own → Prop) : L2.St → Hp → Prop := fun σ H => ∃ L F, Inv σ L ∧ W M F0 H0 F H L
def NxC (M : List Addr) (F0 H0 : Hp) (P : List V → List Own → Prop) (D : Addr) : Hp → Prop := fun H => ∃ ys L F, P ys L ∧ W M F0 H0 F H (mu D (.lst ys) :: L)
section
variable {K : PySem.W.Frag} {M N : List Addr} {F0 H0 F H : Hp} {L Rs T : List Own} {σ : L2.St} {Q : VK} {ta tb te : TE} {x y v : V} {nx bk ct : L2.St → Hp → Prop} {rt : VK} {p q a D : Addr} {xs ys : List V} {u : HO}
variable {t : TA} {wi : TI} {g : TG} {tbody : TS} {c tt : TT} {vs : List Nat} {ts us : TS}
theorem x_tup (h : t σ H fun xs H1 => mkT xs H1 Q) : tTup t σ H Q := h
instance : StepN (tTup t σ H Q) (t σ H fun xs H1 => mkT xs H1 Q) := ⟨x_tup⟩ -- st
theorem x_lst (h : t σ H fun xs H1 => mkL xs H1 Q) : tLst t σ H Q := h
instance : StepN (tLst t σ H Q) (t σ H fun xs H1 => mkL xs H1 Q) := ⟨x_lst⟩ -- st
theorem x_for (h : wi σ H fun J H1 => forG g tbody ⟨nx, rt, bk, ct⟩ J σ H1) : tFor wi g tbody ⟨nx, rt, bk, ct⟩ σ H := h
instance : StepN (tFor wi g tbody ⟨nx, rt, bk, ct⟩ σ H) (wi σ H fun J H1 => forG g tbody ⟨nx, rt, bk, ct⟩ J σ H1) := ⟨x_for⟩ -- st
theorem x_lc (h : wi σ H fun J H1 => lcG g tt te vs J σ H1 Q) : tLc wi g tt te vs σ H Q := h
instance : StepN (tLc wi g tt te vs σ H Q) (wi σ H fun J H1 => lcG g tt te vs J σ H1 Q) := ⟨x_lc⟩ -- st
theorem x_wp {a b : L2.St} {B : Prop} (h : a = b) (q : B) : a = b ∧ B := ⟨h, q⟩
instance {a b : L2.St} {B : Prop} : SideK (a = b ∧ B) 6 := ⟨⟩ -- st
theorem n_tup (w : W M F0 H0 F H L) (hs : xs.length ≤ sizeLine) (h : ∀ p F2 H2, W M F0 H0 F2 H2 (fx p (.tup xs) :: L) → Q (.ref p) H2) : mkT xs H Q :=
  ⟨hs, fun p np => h p _ _ ((w.im (u := .tup xs) np).push (fx p (.tup xs)) upd_same)⟩
theorem n_new (w : W M F0 H0 F H L) (h : ∀ p F2 H2, W M F0 H0 F2 H2 (mu p u :: L) → H0 p = none → Q (.ref p) H2) : ∀ p, H p = none → Q (.ref p) (upd H p u) := fun p np => h p _ _ (w.nw np) (w.g.fresh np)
theorem n_lst (w : W M F0 H0 F H L) (hs : xs.length ≤ sizeLine) (h : ∀ p F2 H2, W M F0 H0 F2 H2 (mu p (.lst xs) :: L) → H0 p = none → Q (.ref p) H2) : mkL xs H Q := ⟨hs, n_new w h⟩
theorem n_slL {lo hi : Option Int} (w : W M F0 H0 F H L) (hs : SqL K H p xs) (h : ∀ p F2 H2, W M F0 H0 F2 H2 (mu p (.lst (cutV xs lo hi)) :: L) → H0 p = none → Q (.ref p) H2) : rSlL K (.ref p) lo hi H Q := w_slL xs hs (n_new w h)
theorem n_listOf (w : W M F0 H0 F H L) (hs : SqL K H p xs) (h : ∀ p F2 H2, W M F0 H0 F2 H2 (mu p (.lst xs) :: L) → H0 p = none → Q (.ref p) H2) : rListOf K [.ref p] H Q := w_listOf xs hs (n_new w h)
def revG (K : PySem.W.Frag) (x : V) (H : Hp) (Q : VK) : Prop := ∃ a xs, x = .ref a ∧ SqL K H a xs ∧ ∀ p, H p = none → Q (.ref p) (upd H p (.lst xs.reverse))
theorem x_revL (h : ta σ H fun x H1 => revG K x H1 Q) : tRevL K ta σ H Q := h
instance : StepN (tRevL K ta σ H Q) (ta σ H fun x H1 => revG K x H1 Q) := ⟨x_revL⟩ -- st
def lrgG (a b : Int) (H : Hp) (Q : VK) : Prop := RgOk a b ∧ ∀ q, H q = none → Q (.ref q) (upd H q (.lst (rgV a b)))
theorem x_lstRg {te : L2.St → Hp → (Int → Int → Hp → Prop) → Prop} (h : te σ H fun a b H1 => lrgG a b H1 Q) : tLstRg te σ H Q := h
instance {te : L2.St → Hp → (Int → Int → Hp → Prop) → Prop} : StepN (tLstRg te σ H Q) (te σ H fun a b H1 => lrgG a b H1 Q) := ⟨x_lstRg⟩ -- st
theorem n_cat (w : W M F0 H0 F H L) (h1 : H p = some (.lst xs)) (h2 : H q = some (.lst ys)) (hs : xs.length + ys.length ≤ sizeLine) (h : ∀ p F2 H2, W M F0 H0 F2 H2 (mu p (.lst (xs ++ ys)) :: L) → H0 p = none → Q (.ref p) H2) : rCat (.ref p) (.ref q) H Q :=
  ⟨p, q, xs, ys, rfl, rfl, h1, h2, hs, n_new w h⟩
theorem n_rep {k : Int} (w : W M F0 H0 F H L) (h1 : H p = some (.lst xs)) (h2 : -(2 ^ 63) ≤ k) (h3 : k < 2 ^ 63) (hs : xs.length * k.toNat ≤ sizeLine) (h : ∀ p F2 H2, W M F0 H0 F2 H2 (mu p (.lst (List.replicate k.toNat xs).flatten) :: L) → H0 p = none → Q (.ref p) H2) : rRep (.ref p) (.int k) H Q :=
  ⟨p, k, xs, rfl, rfl, h1, h2, h3, hs, n_new w h⟩
theorem n_app (w : W M F0 H0 F H L) (k : Pick L [mu p (.lst xs)] Rs) (hn : xs.length < sizeLine) (h : ∀ H2, W M F0 H0 F H2 (mu p (.lst (xs ++ [y])) :: Rs) → Q .non H2) : rAppend (.ref p) [y] H Q :=
  w_app xs ((w.to k).at_ (List.mem_singleton.mpr rfl)) hn (h _ (w.wr k))
theorem n_draw {m : Int} {E : XK} {b : Addr} (w : W M F0 H0 F H L) (k : Pick L [bag K b] Rs) (h0 : 0 < m) (h1 : m < 2 ^ 200) (h : ∀ r F2 H2, W M F0 H0 F2 H2 (bag K b :: Rs) → 0 ≤ r → r < m → Q (.int r) H2) : S2 (φdraw K) ([.ref b, .int m] ++ []) H Q E :=
  u_draw w.fh ((w.to k).bag (List.mem_singleton.mpr rfl)) h0 h1 fun r F2 H2 g hb r0 r1 => h r F2 H2 (w.gr1 k g hb) r0 r1
def rg1G (vs : List V) (H : Hp) (Rr : It → Hp → Prop) : Prop := ∃ j : Int, vs = [.int j] ∧ -(2 ^ 62) ≤ j ∧ j < 2 ^ 62 ∧ Rr (Itr 0 j.toNat) H
def rg2G (vs : List V) (H : Hp) (Rr : It → Hp → Prop) : Prop := ∃ i j : Int, vs = [.int i, .int j] ∧ (-(2 ^ 62) ≤ i ∧ i < 2 ^ 62 ∧ -(2 ^ 62) ≤ j ∧ j < 2 ^ 62) ∧ Rr (Itr i (j - i).toNat) H
def ilG (K : PySem.W.Frag) (x : V) (H : Hp) (Rr : It → Hp → Prop) : Prop := ∃ a, x = .ref a ∧ (∃ xs, SqL K H a xs) ∧ Rr (Itl K a) H
def itG (K : PySem.W.Frag) (x : V) (H : Hp) (Rr : It → Hp → Prop) : Prop := ∃ a, x = .ref a ∧ (∃ xs, SqT K H a xs) ∧ Rr (Itt K a) H
def isG (x : V) (H : Hp) (Rr : It → Hp → Prop) : Prop := ∃ z, x = .str z ∧ Rr (Its z) H
theorem x_rng1 {Rr : It → Hp → Prop} (h : t σ H fun vs H1 => rg1G vs H1 Rr) : iRng1 t σ H Rr := h
instance {Rr : It → Hp → Prop} : StepN (iRng1 t σ H Rr) (t σ H fun vs H1 => rg1G vs H1 Rr) := ⟨x_rng1⟩ -- st
theorem x_rng2 {Rr : It → Hp → Prop} (h : t σ H fun vs H1 => rg2G vs H1 Rr) : iRng2 t σ H Rr := h
instance {Rr : It → Hp → Prop} : StepN (iRng2 t σ H Rr) (t σ H fun vs H1 => rg2G vs H1 Rr) := ⟨x_rng2⟩ -- st
theorem x_il {Rr : It → Hp → Prop} (h : te σ H fun x H1 => ilG K x H1 Rr) : iList K te σ H Rr := h
instance {Rr : It → Hp → Prop} : StepN (iList K te σ H Rr) (te σ H fun x H1 => ilG K x H1 Rr) := ⟨x_il⟩ -- st
theorem x_it {Rr : It → Hp → Prop} (h : te σ H fun x H1 => itG K x H1 Rr) : iTup K te σ H Rr := h
instance {Rr : It → Hp → Prop} : StepN (iTup K te σ H Rr) (te σ H fun x H1 => itG K x H1 Rr) := ⟨x_it⟩ -- st
theorem x_is {Rr : It → Hp → Prop} (h : te σ H fun x H1 => isG x H1 Rr) : iStr te σ H Rr := h
instance {Rr : It → Hp → Prop} : StepN (iStr te σ H Rr) (te σ H fun x H1 => isG x H1 Rr) := ⟨x_is⟩ -- st
theorem n_rng1 {j : Int} {Rr : It → Hp → Prop} (h0 : -(2 ^ 62) ≤ j) (h1 : j < 2 ^ 62) (h : Rr (Itr 0 j.toNat) H) : rg1G [.int j] H Rr := ⟨j, rfl, h0, h1, h⟩
instance {j : Int} {Rr : It → Hp → Prop} : SideK (rg1G [.int j] H Rr) 5 := ⟨⟩ -- st
theorem n_rng2 {i j : Int} {Rr : It → Hp → Prop} (h0 : -(2 ^ 62) ≤ i) (h1 : i < 2 ^ 62) (h2 : -(2 ^ 62) ≤ j) (h3 : j < 2 ^ 62) (h : Rr (Itr i (j - i).toNat) H) : rg2G [.int i, .int j] H Rr := ⟨i, j, rfl, ⟨h0, h1, h2, h3⟩, h⟩
instance {i j : Int} {Rr : It → Hp → Prop} : SideK (rg2G [.int i, .int j] H Rr) 5 := ⟨⟩ -- st
theorem n_il {Rr : It → Hp → Prop} (hs : SqL K H a xs) (h : Rr (Itl K a) H) : ilG K (.ref a) H Rr := ⟨a, rfl, ⟨xs, hs⟩, h⟩
instance {Rr : It → Hp → Prop} : SideK (ilG K (.ref a) H Rr) 4 := ⟨⟩ -- st
theorem n_it {Rr : It → Hp → Prop} (hs : SqT K H a xs) (h : Rr (Itt K a) H) : itG K (.ref a) H Rr := ⟨a, rfl, ⟨xs, hs⟩, h⟩
instance {Rr : It → Hp → Prop} : SideK (itG K (.ref a) H Rr) 4 := ⟨⟩ -- st
theorem n_is {z : Str} {Rr : It → Hp → Prop} (h : Rr (Its z) H) : isG (.str z) H Rr := ⟨z, rfl, h⟩
instance {z : Str} {Rr : It → Hp → Prop} : StepN (isG (.str z) H Rr) (Rr (Its z) H) := ⟨n_is⟩ -- st
theorem nx_mk {Inv : L2.St → List Own → Prop} {L2 : List Own} (w : W M F0 H0 F H L) (h : Inv σ L2) (k : Pk L L2) : Nx M F0 H0 Inv σ H := ⟨L2, F, h, w.pk k⟩
def addsG : R2 := fun x y H Q => ∃ a b, x = .str a ∧ y = .str b ∧ a.length + b.length ≤ sizeLine ∧ Q (.str (a ++ b)) H
theorem opAddS {X : Cx} : OpR X (binaryOp .Add) addsG := op_add_str
theorem n_adds {a b : Str} (hl : a.length + b.length ≤ sizeLine) (h : Q (.str (a ++ b)) H) : addsG (.str a) (.str b) H Q := ⟨a, b, rfl, rfl, hl, h⟩
instance {a b : Str} : SideK (addsG (.str a) (.str b) H Q) 5 := ⟨⟩ -- st
theorem x_aug {i : Nat} {ti : TIp} {x : V} {H : Hp} (h : σ[i]? = some (some x)) (q : te σ H fun y H1 => ti x y H1 fun z H2 => nx (σ.set i (some z)) H2) : tAug i te ti ⟨nx, rt, bk, ct⟩ σ H := ⟨x, h, q⟩
instance {i : Nat} {ti : TIp} {H : Hp} : SideK (tAug i te ti ⟨nx, rt, bk, ct⟩ σ H) 4 := ⟨⟩ -- st
theorem n_ipI {g : Int → Int → Int} {i j : Int} {Z : VK} (q : Z (.int (g i j)) H) : ipI g (.int i) (.int j) H Z := ⟨i, j, rfl, rfl, q⟩
instance {g : Int → Int → Int} {i j : Int} {Z : VK} : SideK (ipI g (.int i) (.int j) H Z) 5 := ⟨⟩ -- st
/-- loops -/
theorem n_forR {n : Nat} (w : W M F0 H0 F H L) (Inv : Nat → L2.St → List Own → Prop) {L1 : List Own} (h0 : Inv 0 σ L1)
    (hs : ∀ (i : Nat) σ L F H, i < n → Inv i σ L → W M F0 H0 F H L → g (.int (i : Int)) σ H fun σ2 H2 => tbody ⟨Nx M F0 H0 (Inv (i + 1)), rt, nx, Nx M F0 H0 (Inv (i + 1))⟩ σ2 H2)
    (hd : ∀ σ L F H, Inv n σ L → W M F0 H0 F H L → nx σ H) (k : Pk L L1 := by walk_at "pk") : forG g tbody ⟨nx, rt, bk, ct⟩ (Itr 0 n) σ H :=
  f_range0 (fun i σ H => Nx M F0 H0 (Inv i) σ H) ⟨L1, F, h0, w.pk k⟩ (fun i σ H hi ⟨L, F, h, w⟩ => hs i σ L F H hi h w) fun σ H ⟨L, F, h, w⟩ => hd σ L F H h w
theorem n_forL (xs : List V) (w : W M F0 H0 F H L) (Inv : Nat → L2.St → List Own → Prop) {L1 : List Own} (h0 : Inv 0 σ L1) (hl : ∀ i σ L F H, Inv i σ L → W M F0 H0 F H L → SqL K H a xs)
    (hs : ∀ (i : Nat) x σ L F H, xs[i]? = some x → Inv i σ L → W M F0 H0 F H L → g x σ H fun σ2 H2 => tbody ⟨Nx M F0 H0 (Inv (i + 1)), rt, nx, Nx M F0 H0 (Inv (i + 1))⟩ σ2 H2)
    (hd : ∀ σ L F H, Inv xs.length σ L → W M F0 H0 F H L → nx σ H) (k : Pk L L1 := by walk_at "pk") : forG g tbody ⟨nx, rt, bk, ct⟩ (Itl K a) σ H :=
  f_list (xs := xs) (fun i σ H => Nx M F0 H0 (Inv i) σ H) ⟨L1, F, h0, w.pk k⟩ (fun i σ H _ ⟨L, F, h, w⟩ => hl i σ L F H h w) (fun i x σ H hx ⟨L, F, h, w⟩ => hs i x σ L F H hx h w) fun σ H ⟨L, F, h, w⟩ => hd σ L F H h w
theorem n_cut (w : W M F0 H0 F H L) (Mid : L2.St → List Own → Prop) (h1 : ts ⟨Nx M F0 H0 Mid, rt, bk, ct⟩ σ H) (h2 : ∀ σ L F H, Mid σ L → W M F0 H0 F H L → us ⟨nx, rt, bk, ct⟩ σ H) : C8.tCut ts us ⟨nx, rt, bk, ct⟩ σ H :=
  w_cut (Nx M F0 H0 Mid) h1 fun σ' H' ⟨L, F, h, w⟩ => h2 σ' L F H' h w
theorem n_lcR {n : Nat} (w : W M F0 H0 F H L) (P : Nat → List V → List Own → Prop) {L1 : List Own} (h0 : P 0 [] L1)
    (hs : ∀ (i : Nat) ys L F H D, i < n → P i ys L → W M F0 H0 F H (mu D (.lst ys) :: L) → H0 D = none → g (.int (i : Int)) (wipe σ vs) H fun σ2 H2 => wipe σ2 vs = wipe σ vs ∧ tt σ2 H2 fun b H3 =>
      if b = true then te σ2 H3 (accG D (NxC M F0 H0 (P (i + 1)) D)) else NxC M F0 H0 (P (i + 1)) D H3)
    (hd : ∀ D ys L F H, P n ys L → W M F0 H0 F H (mu D (.lst ys) :: L) → H0 D = none → Q (.ref D) H) (k : Pk L L1 := by walk_at "pk") : lcG g tt te vs (Itr 0 n) σ H Q := fun D nD =>
  lc_rng (fun i H => NxC M F0 H0 (P i) D H) ⟨[], L1, F, h0, (w.pk k).nw nD⟩ (fun i H hi ⟨ys, L, F, h, w'⟩ => hs i ys L F H D hi h w' (w.g.fresh nD)) fun H ⟨ys, L, F, h, w'⟩ => hd D ys L F H h w' (w.g.fresh nD)
theorem n_lcL (xs : List V) (w : W M F0 H0 F H L) (P : Nat → List V → List Own → Prop) {L1 : List Own} (h0 : P 0 [] L1) (hl : ∀ i ys L F H D, P i ys L → W M F0 H0 F H (mu D (.lst ys) :: L) → SqL K H a xs)
    (hs : ∀ (i : Nat) x ys L F H D, xs[i]? = some x → P i ys L → W M F0 H0 F H (mu D (.lst ys) :: L) → H0 D = none → g x (wipe σ vs) H fun σ2 H2 => wipe σ2 vs = wipe σ vs ∧ tt σ2 H2 fun b H3 =>
      if b = true then te σ2 H3 (accG D (NxC M F0 H0 (P (i + 1)) D)) else NxC M F0 H0 (P (i + 1)) D H3)
    (hd : ∀ D ys L F H, P xs.length ys L → W M F0 H0 F H (mu D (.lst ys) :: L) → H0 D = none → Q (.ref D) H) (k : Pk L L1 := by walk_at "pk") : lcG g tt te vs (Itl K a) σ H Q := fun D nD =>
  lc_list (xs := xs) (fun i H => NxC M F0 H0 (P i) D H) ⟨[], L1, F, h0, (w.pk k).nw nD⟩ (fun i H _ ⟨ys, L, F, h, w'⟩ => hl i ys L F H D h w') (fun i x H hx ⟨ys, L, F, h, w'⟩ => hs i x ys L F H D hx h w' (w.g.fresh nD)) fun H ⟨ys, L, F, h, w'⟩ => hd D ys L F H h w' (w.g.fresh nD)
theorem n_forJ (J : It) (n : Nat) (w : W M F0 H0 F H L) (Inv : Nat → L2.St → List Own → Prop) {L1 : List Own} (h0 : Inv 0 σ L1) (hg : ∀ i σ L F H, i < n → Inv i σ L → W M F0 H0 F H L → J.go i H) (ht : ∀ σ L F H, Inv n σ L → W M F0 H0 F H L → J.stop n H)
    (hs : ∀ (i : Nat) x σ L F H H', i < n → Inv i σ L → W M F0 H0 F H L → J.yld i H x H' → g x σ H' fun σ2 H2 => tbody ⟨Nx M F0 H0 (Inv (i + 1)), rt, nx, Nx M F0 H0 (Inv (i + 1))⟩ σ2 H2)
    (hd : ∀ σ L F H, Inv n σ L → W M F0 H0 F H L → nx σ H) (k : Pk L L1 := by walk_at "pk") : forG g tbody ⟨nx, rt, bk, ct⟩ J σ H := by
  refine ⟨fun i m σ H => m = n - i ∧ i ≤ n ∧ Nx M F0 H0 (Inv i) σ H, ⟨n, by simp, Nat.zero_le _, L1, F, h0, w.pk k⟩, ?_⟩
  rintro i m σ H ⟨rfl, hi, L, F, h, w⟩
  by_cases hlt : i < n
  · exact .inr ⟨hg i σ L F H hlt h w, Nx M F0 H0 (Inv (i + 1)), fun σ' H' p' => ⟨n - (i + 1), by omega, rfl, hlt, p'⟩, fun x H' y => hs i x σ L F H H' hlt h w y⟩
  · have e : i = n := by omega
    subst e
    exact .inl ⟨ht σ L F H h w, hd σ L F H h w⟩
theorem n_lcJ (J : It) (n : Nat) (w : W M F0 H0 F H L) (P : Nat → List V → List Own → Prop) {L1 : List Own} (h0 : P 0 [] L1) (hg : ∀ i ys L F H D, i < n → P i ys L → W M F0 H0 F H (mu D (.lst ys) :: L) → J.go i H) (ht : ∀ ys L F H D, P n ys L → W M F0 H0 F H (mu D (.lst ys) :: L) → J.stop n H)
    (hs : ∀ (i : Nat) x ys L F H H' D, i < n → P i ys L → W M F0 H0 F H (mu D (.lst ys) :: L) → J.yld i H x H' → H0 D = none → g x (wipe σ vs) H' fun σ2 H2 => wipe σ2 vs = wipe σ vs ∧ tt σ2 H2 fun b H3 =>
      if b = true then te σ2 H3 (accG D (NxC M F0 H0 (P (i + 1)) D)) else NxC M F0 H0 (P (i + 1)) D H3)
    (hd : ∀ D ys L F H, P n ys L → W M F0 H0 F H (mu D (.lst ys) :: L) → H0 D = none → Q (.ref D) H) (k : Pk L L1 := by walk_at "pk") : lcG g tt te vs J σ H Q := by
  intro D nD
  have hD := w.g.fresh nD
  refine ⟨fun i m H => m = n - i ∧ i ≤ n ∧ NxC M F0 H0 (P i) D H, ⟨n, by simp, Nat.zero_le _, [], L1, F, h0, (w.pk k).nw nD⟩, ?_⟩
  rintro i m H ⟨rfl, hi, ys, L, F, h, w⟩
  by_cases hlt : i < n
  · exact .inr ⟨hg i ys L F H D hlt h w, NxC M F0 H0 (P (i + 1)) D, fun H' p' => ⟨n - (i + 1), by omega, rfl, hlt, p'⟩, fun x H' y => hs i x ys L F H H' D hlt h w y hD⟩
  · have e : i = n := by omega
    subst e
    exact .inl ⟨ht ys L F H D h w, hd D ys L F H h w hD⟩
def sgnV (z : Str) (k : Nat) : V := .str ⟨#[z.cps.toList.getD k 0]⟩
theorem its_yld {z : Str} {i : Nat} {H H' : Hp} {x : V} (h : (Its z).yld i H x H') : H' = H ∧ x = sgnV z i := by
  obtain ⟨e, c, hc, rfl⟩ := h
  refine ⟨e, ?_⟩
  unfold sgnV
  rw [List.getD_eq_getElem?_getD, Array.getElem?_toList, hc]
  rfl
/-- over a text -/
theorem n_forS (z : Str) (w : W M F0 H0 F H L) (Inv : Nat → L2.St → List Own → Prop) {L1 : List Own} (h0 : Inv 0 σ L1)
    (hs : ∀ (i : Nat) σ L F H, i < z.length → Inv i σ L → W M F0 H0 F H L → g (sgnV z i) σ H fun σ2 H2 => tbody ⟨Nx M F0 H0 (Inv (i + 1)), rt, nx, Nx M F0 H0 (Inv (i + 1))⟩ σ2 H2)
    (hd : ∀ σ L F H, Inv z.length σ L → W M F0 H0 F H L → nx σ H) (k : Pk L L1 := by walk_at "pk") : forG g tbody ⟨nx, rt, bk, ct⟩ (Its z) σ H :=
  n_forJ (Its z) z.length w Inv h0 (fun i _ _ _ _ hi _ _ => hi) (fun _ _ _ _ _ _ => Nat.le_refl _) (fun i x σ L F H H' hi h w y => by obtain ⟨rfl, rfl⟩ := its_yld y; exact hs i σ L F _ hi h w) hd k
theorem n_lcS (z : Str) (w : W M F0 H0 F H L) (P : Nat → List V → List Own → Prop) {L1 : List Own} (h0 : P 0 [] L1)
    (hs : ∀ (i : Nat) ys L F H D, i < z.length → P i ys L → W M F0 H0 F H (mu D (.lst ys) :: L) → H0 D = none → g (sgnV z i) (wipe σ vs) H fun σ2 H2 => wipe σ2 vs = wipe σ vs ∧ tt σ2 H2 fun b H3 =>
      if b = true then te σ2 H3 (accG D (NxC M F0 H0 (P (i + 1)) D)) else NxC M F0 H0 (P (i + 1)) D H3)
    (hd : ∀ D ys L F H, P z.length ys L → W M F0 H0 F H (mu D (.lst ys) :: L) → H0 D = none → Q (.ref D) H) (k : Pk L L1 := by walk_at "pk") : lcG g tt te vs (Its z) σ H Q :=
  n_lcJ (Its z) z.length w P h0 (fun i _ _ _ _ _ hi _ _ => hi) (fun _ _ _ _ _ _ _ => Nat.le_refl _) (fun i x ys L F H H' D hi h w y hD => by obtain ⟨rfl, rfl⟩ := its_yld y; exact hs i ys L F _ D hi h w hD) hd k
/-- over enumerate(list) -/
def enG (K : PySem.W.Frag) (vs : List V) (H : Hp) (Rr : It → Hp → Prop) : Prop := ∃ a xs, vs = [.ref a] ∧ SqL K H a xs ∧ Rr (Ite K a) H
theorem x_en {Rr : It → Hp → Prop} (h : t σ H fun vs H1 => enG K vs H1 Rr) : iEnum K t σ H Rr := h
instance {Rr : It → Hp → Prop} : Step (iEnum K t σ H Rr) (t σ H fun vs H1 => enG K vs H1 Rr) := ⟨x_en⟩ -- st
/-- over a tuple -/
theorem n_forT (xs : List V) (w : W M F0 H0 F H L) (Inv : Nat → L2.St → List Own → Prop) {L1 : List Own} (h0 : Inv 0 σ L1) (hl : ∀ i σ L F H, Inv i σ L → W M F0 H0 F H L → SqT K H a xs)
    (hs : ∀ (i : Nat) x σ L F H, xs[i]? = some x → Inv i σ L → W M F0 H0 F H L → g x σ H fun σ2 H2 => tbody ⟨Nx M F0 H0 (Inv (i + 1)), rt, nx, Nx M F0 H0 (Inv (i + 1))⟩ σ2 H2)
    (hd : ∀ σ L F H, Inv xs.length σ L → W M F0 H0 F H L → nx σ H) (k : Pk L L1 := by walk_at "pk") : forG g tbody ⟨nx, rt, bk, ct⟩ (Itt K a) σ H := by
  refine n_forJ (Itt K a) xs.length w Inv h0 (fun i σ L F H hi h w => ⟨xs, xs[i], hl i σ L F H h w, List.getElem?_eq_getElem hi⟩) (fun σ L F H h w => ⟨xs, hl _ σ L F H h w, Nat.le_refl _⟩) (fun i x σ L F H H' hi h w y => ?_) hd k
  obtain ⟨rfl, y⟩ := y
  exact hs i x σ L F _ (y xs (hl i σ L F _ h w)) h w
theorem W.calB {b : Addr} {F2 H2 : Hp} {L2 L3 : List Own} (w : W M F0 H0 F H L) (k : Pick L [R.bag K b] Rs) (w2 : W [b] F H F2 H2 L2) (e : App L2 Rs L3) : W M F0 H0 F2 H2 L3 := w.cal k w2 e rfl
theorem W.bag0 {b : Addr} {F2 H2 : Hp} (g : Gr [] H H F2 H2) (h : Bag K F2 H2 b) : W [] H H F2 H2 [R.bag K b] := by
  obtain ⟨c, cells, i, cur, st, k, h1, h2, _⟩ := h.ex
  refine ⟨g, fun o m => ?_, ?_, fun a m => ?_⟩
  · rw [List.mem_singleton.mp m]
    exact h
  · show ([b] : List Addr).Nodup
    simp
  · rw [show a = b from List.mem_singleton.mp m]
    exact .inr (g.ff.free h1)
theorem n_acc (ys : List V) {P : List V → List Own → Prop} (w : W M F0 H0 F H L) (hp : P (ys ++ [y]) Rs) (k : Pk L (mu D (.lst ys) :: Rs)) (hl : ys.length < sizeLine) : accG D (NxC M F0 H0 P D) y H := by
  have w' := w.pk k
  refine ⟨ys, w'.at_ (List.mem_cons_self ..), hl, ys ++ [y], Rs, F, hp, ?_⟩
  exact w'.wr (.cons .here .nil)
end
end R
namespace R
open PySem PySem.Spec PyProof.Rows L2
section
variable {X : Cx} {K : PySem.W.Frag} {w : World}
def rSetL (K : PySem.W.Frag) (w : World) : List V → Hp → VK → Prop := fun xs H Q => ∃ (a : Addr) (ns : List Int), xs = [.ref a] ∧ SqL K H a (ns.map V.int) ∧ ns.length ≤ 4000 ∧ ∀ p c, c ≤ ns.length → H p = none → Q (.ref p) (upd H p (SetO w p (fun j => decide (j ∈ ns)) c))
end
end R
namespace R
open PySem PySem.Spec PyProof.Rows L2
/-! ### list(s) of a text -/
def chars (z : Str) : List V := z.cps.toList.map fun c => V.str ⟨#[c]⟩
/-! ### flat values -/
/-! ### slices -/
/-! ### items put one by one from a place on -/
/-! ### moves -/
inductive Mv where
  | put (to : Nat) (s : Str)
  | copy (to a n : Nat)
def Mv.d : Mv → PyData
  | .put to s => .tuple [.str "put", .int to, .str s]
  | .copy to a n => .tuple [.str "copy", .int to, .int a, .int n]
def Mv.to : Mv → Nat
  | .put to _ => to
  | .copy to _ _ => to
def Mv.len : Mv → Nat
  | .put _ s => s.length
  | .copy _ _ n => n
def Mv.hi : Mv → Nat
  | .put _ _ => 0
  | .copy _ a n => a + n
def Mv.sOk : Mv → Prop
  | .put _ s => okS s ∧ s.length ≤ 1000
  | .copy to a _ => to ≠ a
structure MvOk (N : Nat) (m : Mv) : Prop where
  s : m.sOk
  p : 1 ≤ m.len
  t : m.to + m.len ≤ N
  h : m.hi ≤ N
def Mv.some (xs : List V) : Mv → List V
  | .put _ s => chars s
  | .copy _ a n => (xs.drop a).take n
section
variable {K : PySem.W.Frag} {F : Hp} {x : V}
/-- item i of a list of data -/
theorem dpa_at {α : Type} {f : α → PyData} {us : List V} {as : List α} {i : Nat} {y : V} (h : DpAll K F us (as.map f)) (hx : us[i]? = some y) : ∃ r, as[i]? = some r ∧ Dp K F y (f r) := by
  have hl := dpa_len h
  have hi := (List.getElem?_eq_some_iff.mp hx).1
  rw [List.length_map] at hl
  have hr : as[i]? = some as[i] := List.getElem?_eq_getElem (by omega)
  obtain ⟨v, hv, dv⟩ := dpa_get (i := i) (d := f as[i]) h (by rw [List.getElem?_map, hr]; rfl)
  rw [hx] at hv
  rw [Option.some.inj hv]
  exact ⟨_, hr, dv⟩
end
/-- no cell is written twice -/
def Apart (ms : List Mv) : Prop := ms.Pairwise fun m k => m.to + m.len ≤ k.to ∨ k.to + k.len ≤ m.to
theorem Apart.perm {ms ks : List Mv} (h : Apart ms) (p : ms.Perm ks) : Apart ks := (p.pairwise_iff (fun h => h.symm)).mp h
structure MvsOk (N : Nat) (ms : List Mv) : Prop where
  ok : ∀ m ∈ ms, MvOk N m
  ap : Apart ms
theorem MvsOk.perm {N : Nat} {ms ks : List Mv} (h : MvsOk N ms) (p : ms.Perm ks) : MvsOk N ks := ⟨fun m hm => h.ok m (p.mem_iff.mpr hm), h.ap.perm p⟩
theorem nodup_lt : ∀ (N : Nat) (l : List Nat), l.Nodup → (∀ x ∈ l, x < N) → l.length ≤ N
  | 0, [], _, _ => Nat.le_refl _
  | 0, x :: l, _, h => absurd (h x (List.mem_cons_self ..)) (Nat.not_lt_zero _)
  | N + 1, l, hn, h => by
    have ih := nodup_lt N (l.erase N) (hn.erase N) fun x hx => by
      have h1 := h x (List.mem_of_mem_erase hx)
      have h2 : x ≠ N := fun e => by
        subst e
        exact (List.Nodup.mem_erase_iff hn).mp hx |>.1 rfl
      omega
    rw [List.length_erase] at ih
    split at ih <;> omega
/-- fewer than N + 1 of them -/
theorem MvsOk.len {N : Nat} {ms : List Mv} (h : MvsOk N ms) : ms.length ≤ N := by
  have hn : (ms.map Mv.to).Nodup := by
    refine List.pairwise_map.mpr (h.ap.imp_of_mem fun ha hb z => ?_)
    have := (h.ok _ ha).p
    have := (h.ok _ hb).p
    omega
  have hs : ∀ x ∈ ms.map Mv.to, x < N := fun x hx => by
    obtain ⟨m, hm, rfl⟩ := List.mem_map.mp hx
    have := (h.ok m hm).p
    have := (h.ok m hm).t
    omega
  have := nodup_lt N _ hn hs
  rwa [List.length_map] at this
/-! ### cuts and blocks -/
/-! ### promises -/
end R
namespace R
open PySem L2
/-! ### a class of the text: its methods with their promises, its making -/
/-! ### rules with the written part by its own name -/
section
variable {X : Cx} {K : PySem.W.Frag} {o value : Expr} {f : Str} {ta tv : TE} {pos p2 : Pos}
theorem psFld (ha : PE X o ta) (hv : PE X value tv) (hs : swapsWith value (some (.Attribute o f p2)) pos.line X.env = pure false) (h : X.K = K := by rfl) : PS X (.Assign [.Attribute o f p2] value pos) (sFld K ta tv f) := by
  subst h
  exact ps_fld ha hv hs
end
/-! ### steps -/
section
variable {K : PySem.W.Frag} {σ : L2.St} {H : Hp} {Q : VK} {ta tv : TE} {x v : V} {nx bk ct : L2.St → Hp → Prop} {rt : VK} {C a dx : Addr} {f m : Str} {fs : List (Str × V)}
/-- what an instance's field asks -/
def gFld (K : PySem.W.Frag) (f : Str) (x : V) (H : Hp) (Q : VK) : Prop := ∃ a C dx fs v, x = .ref a ∧ H a = some (.ins C dx fs) ∧ Cls K C ∧ NoAttr K C f ∧ fs.lookup f = some v ∧ Q v H
theorem w_fldE (q : ta σ H fun x H1 => gFld K f x H1 Q) : tFld K ta f σ H Q := q
instance : Step (tFld K ta f σ H Q) (ta σ H fun x H1 => gFld K f x H1 Q) := ⟨w_fldE⟩ -- st
theorem w_fld (c : Cls K C) (n : NoAttr K C f) (h : H a = some (.ins C dx fs)) (l : fs.lookup f = some v) (q : Q v H) : gFld K f (.ref a) H Q := ⟨a, C, dx, fs, v, rfl, h, c, n, l, q⟩
def gSFld (K : PySem.W.Frag) (f : Str) (x y : V) (H : Hp) (Z : Hp → Prop) : Prop := ∃ a C dx fs, x = .ref a ∧ H a = some (.ins C dx fs) ∧ Cls K C ∧ NoAttr K C f ∧ fs.length < 1000 ∧ Z (upd H a (.ins C dx (putF f y fs)))
theorem w_sfldE (q : tv σ H fun y H1 => ta σ H1 fun x H2 => gSFld K f x y H2 fun H3 => nx σ H3) : sFld K ta tv f ⟨nx, rt, bk, ct⟩ σ H := q
instance : Step (sFld K ta tv f ⟨nx, rt, bk, ct⟩ σ H) (tv σ H fun y H1 => ta σ H1 fun x H2 => gSFld K f x y H2 fun H3 => nx σ H3) := ⟨w_sfldE⟩ -- st
theorem w_sfld {Z : Hp → Prop} (c : Cls K C) (n : NoAttr K C f) (h : H a = some (.ins C dx fs)) (l : fs.length < 1000) (q : Z (upd H a (.ins C dx (putF f v fs)))) : gSFld K f (.ref a) v H Z := ⟨a, C, dx, fs, rfl, h, c, n, l, q⟩
theorem w_meth {sp : Sp} {dvs : List V} {E : XK} {t : TA} (q : ta σ H fun x H1 => ∃ a dx fs, x = .ref a ∧ H1 a = some (.ins C dx fs) ∧ fs.lookup m = none ∧ t σ H1 fun vs H2 => sp (x :: (vs ++ dvs)) H2 Q E) : tMeth C m sp dvs E ta t σ H Q := q
end
end R
namespace R
open PySem PySem.Spec PyProof.Rows L2
/-! ### the head's facts with one more of the written part -/
def obsEG (n : Nat) (fa : List He.Fa) (fn : List He.DefD) (ex : PySem.W.Frag → Bool) (g : Addr → Option Obj) : He.AlD × Bool := (He.obsDG n fa fn g, ex (He.frG g (He.asD g n)))
def hookE (n : Nat) (fa : List He.Fa) (fn : List He.DefD) (ex : PySem.W.Frag → Bool) : PySem.W.Hook where
  α := He.AlD × Bool
  obs := fun s => obsEG n fa fn ex s.heap.get?
  val := fun _ => (He.valD fn, true)
  says := fun _ h => ∃ K : PySem.W.Frag, K.In h ∧ He.SaysD fa fn K ∧ ex K = true
  of := fun _ _ e => ⟨_, He.frG_in, congrArg Prod.fst e, congrArg Prod.snd e⟩
  keeps := fun _ _ _ ⟨K, hK, c⟩ k => ⟨K, PySem.W.Frag.In.keeps hK k, c⟩
theorem obsEG_eq {n : Nat} {fa : List He.Fa} {fn : List He.DefD} {ex : PySem.W.Frag → Bool} {g : Addr → Option Obj} {s : Shared} (h : ∀ a, g a = s.heap.get? a) : obsEG n fa fn ex g = (hookE n fa fn ex).obs s := by
  have e : g = s.heap.get? := funext h
  rw [e] <;> rfl
def eqV2 (a b : Option (Option Value)) : Bool := decide (a = b)
/-- what isinstance asks of an own class -/
def insB (K : PySem.W.Frag) (C : Str) : Bool := eqV2 (PySem.W.findIn K (.ref (He.ga K C)) "__class__") (some (some (.builtin "object.__class__"))) &&
  (eqV2 (PySem.W.specialIn K (.builtin "object.__class__") "__get__") (some (some (.builtin "getset_descriptor.__get__"))) &&
  (decide (PySem.W.takesIn K (.builtin "object.__class__") = some true) && (decide (PySem.W.mroIn K (He.ga K C) (.type "object") = some true) && decide (PySem.W.kitOne K (.ref (He.ga K C)) (.ref (He.ga K C)) = some true))))
theorem insB_ok {K : PySem.W.Frag} {C : Str} (c : Cls K (He.ga K C)) (h : insB K C = true) : C8.InsC K (He.ga K C) := by
  unfold insB at h
  simp only [Bool.and_eq_true, eqV2, decide_eq_true_eq] at h
  obtain ⟨h1, h2, h3, h4, h5⟩ := h
  exact ⟨c, h1, h2, h3, h4, h5⟩
section
variable {X : Cx} {K : PySem.W.Frag} {k : Nat} {C : Str} {ps : List Str} {sp : Sp}
def rIsC (K : PySem.W.Frag) (C : Str) : List V → Hp → VK → Prop := fun xs H Q => ∃ a dx fs, xs = [.ref a, .ref (He.ga K C)] ∧ H a = some (.ins (He.ga K C) dx fs) ∧ Q (.bl true) H
theorem clIsC (c : C8.InsC X.K (He.ga X.K C)) : CallR X (.builtin "isinstance") (rIsC X.K C) := C8.call_isC c
end
section
variable {K : PySem.W.Frag} {H : Hp} {Q : VK} {C : Str} {c : Addr} {a b dx dy : Addr} {fs gs : List (Str × V)} {sp : Sp}
theorem n_isC (h : H a = some (.ins (He.ga K C) dx fs)) (q : Q (.bl true) H) : rIsC K C [.ref a, .ref (He.ga K C)] H Q := ⟨a, dx, fs, rfl, h, q⟩
end
end R
namespace R
open PySem L2
/-! ### instances in a reading -/
def mthG (C : Addr) (m : Str) (x : V) (H : Hp) (P : Prop) : Prop := (∃ a dx fs, x = .ref a ∧ H a = some (.ins C dx fs) ∧ fs.lookup m = none) ∧ P
def aftG (Q : VK) (x : Addr) : VK := fun v H2 => v = .non ∧ Q (.ref x) H2
def makG (C : Addr) (sp : Sp) (ws : List V) (E : XK) (H : Hp) (Q : VK) : Prop := ∀ x dx, H x = none → H dx = none → dx ≠ x → sp (.ref x :: ws) (upd (upd H dx (.own x)) x (.ins C dx [])) (aftG Q x) E
section
variable {K : PySem.W.Frag} {M : List Addr} {F0 H0 F H : Hp} {L Rs : List Own} {σ : L2.St} {Q : VK} {ta : TE} {v : V} {nx bk ct : L2.St → Hp → Prop} {rt : VK} {C a dx : Addr} {f m : Str} {fs : List (Str × V)}
theorem n_fld (h : H a = some (.ins C dx fs)) (l : fs.lookup f = some v) (c : Cls K C) (n : NoAttr K C f) (q : Q v H) : gFld K f (.ref a) H Q := w_fld c n h l q
instance : SideK (gFld K f (.ref a) H Q) 4 := ⟨⟩ -- st
theorem n_sfld {Z : Hp → Prop} (w : W M F0 H0 F H L) (k : Pick L [mu a (.ins C dx fs)] Rs) (c : Cls K C) (n : NoAttr K C f) (l : fs.length < 1000) (q : ∀ H2, W M F0 H0 F H2 (mu a (.ins C dx (putF f v fs)) :: Rs) → Z H2) : gSFld K f (.ref a) v H Z :=
  w_sfld c n ((w.to k).at_ (List.mem_singleton.mpr rfl)) l (q _ (w.wr k))
theorem x_meth {sp : Sp} {dvs : List V} {E : XK} {t : TA} (q : ta σ H fun x H1 => mthG C m x H1 (t σ H1 fun vs H2 => sp (x :: (vs ++ dvs)) H2 Q E)) : tMeth C m sp dvs E ta t σ H Q := by
  refine w_meth ?_
  refine cast ?_ q
  congr 1
  funext x H1
  unfold mthG
  refine propext ⟨?_, ?_⟩
  · rintro ⟨⟨a, dx, fs, h1, h2, h3⟩, h4⟩
    exact ⟨a, dx, fs, h1, h2, h3, h4⟩
  · rintro ⟨a, dx, fs, h1, h2, h3, h4⟩
    exact ⟨⟨a, dx, fs, h1, h2, h3⟩, h4⟩
instance {sp : Sp} {dvs : List V} {E : XK} {t : TA} : Step (tMeth C m sp dvs E ta t σ H Q) (ta σ H fun x H1 => mthG C m x H1 (t σ H1 fun vs H2 => sp (x :: (vs ++ dvs)) H2 Q E)) := ⟨x_meth⟩ -- st
theorem n_meth {P : Prop} (h : H a = some (.ins C dx fs)) (l : fs.lookup m = none) (q : P) : mthG C m (.ref a) H P := ⟨⟨a, dx, fs, rfl, h, l⟩, q⟩
instance {P : Prop} : SideK (mthG C m (.ref a) H P) 4 := ⟨⟩ -- st
theorem x_make {sp : Sp} {dvs : List V} {E : XK} {t : TA} (q : t σ H fun vs H1 => makG C sp (vs ++ dvs) E H1 Q) : tMake C sp dvs E t σ H Q := q
instance {sp : Sp} {dvs : List V} {E : XK} {t : TA} : Step (tMake C sp dvs E t σ H Q) (t σ H fun vs H1 => makG C sp (vs ++ dvs) E H1 Q) := ⟨x_make⟩ -- st
end
/-! ### rows of a change -/
inductive CRow where
  | put (s : Str)
  | copy (a n : Nat)
def CRow.d : CRow → PyData
  | .put s => .tuple [.str "put", .str s]
  | .copy a n => .tuple [.str "copy", .int a, .int n]
def CRow.gives : CRow → Nat
  | .put s => s.length
  | .copy _ n => n
def CRow.hi : CRow → Nat
  | .put _ => 0
  | .copy a n => a + n
def CRow.sOk : CRow → Prop
  | .put s => okS s ∧ s.length ≤ 1000
  | .copy _ _ => True
structure CRowOk (size : Nat) (r : CRow) : Prop where
  s : r.sOk
  p : 1 ≤ r.gives
  h : r.hi ≤ size
abbrev givesL (rows : List CRow) : Nat := (rows.map CRow.gives).sum
structure RowsOk (size : Nat) (rows : List CRow) : Prop where
  ok : ∀ r ∈ rows, CRowOk size r
  sum : givesL rows ≤ 400
theorem rows_len : ∀ {rows : List CRow}, (∀ r ∈ rows, 1 ≤ r.gives) → rows.length ≤ givesL rows
  | [], _ => Nat.le_refl _
  | r :: rows, h => by
    have ih := rows_len (rows := rows) fun q hq => h q (List.mem_cons_of_mem _ hq)
    have h1 := h r (List.mem_cons_self ..)
    show rows.length + 1 ≤ r.gives + givesL rows
    omega
theorem RowsOk.len {size : Nat} {rows : List CRow} (h : RowsOk size rows) : rows.length ≤ 400 := Nat.le_trans (rows_len fun r hr => (h.ok r hr).p) h.sum
section
variable {K : PySem.W.Frag} {F : Hp} {x : V}
theorem dp_cput {s : Str} (h : Dp K F x (CRow.put s).d) : ∃ a, x = .ref a ∧ SqT K F a [.str "put", .str s] := by
  obtain ⟨a, vs, rfl, hs, h0⟩ := dp_tup h
  obtain ⟨v1, us, rfl, h1, h0⟩ := dpa_cons h0
  obtain ⟨v2, us, rfl, h2, h0⟩ := dpa_cons h0
  cases dpa_nil h0
  rw [dp_str h1, dp_str h2] at hs
  exact ⟨a, rfl, hs⟩
theorem dp_ccopy {a n : Nat} (h : Dp K F x (CRow.copy a n).d) : ∃ p, x = .ref p ∧ SqT K F p [.str "copy", .int a, .int n] := by
  obtain ⟨a, v1, v2, v3, rfl, hs, h1, h2, h3⟩ := dp_tup3 h
  rw [dp_str h1, dp_int h2, dp_int h3] at hs
  exact ⟨a, rfl, hs⟩
theorem dp_cput' {p : Addr} {s : Str} (h : SqT K F p [.str "put", .str s]) : Dp K F (.ref p) (CRow.put s).d := .tup h (.cons (.str _) (.cons (.str _) .nil))
theorem dp_ccopy' {p : Addr} {a n : Nat} (h : SqT K F p [.str "copy", .int a, .int n]) : Dp K F (.ref p) (CRow.copy a n).d := .tup h (.cons (.str _) (.cons (.int _) (.cons (.int _) .nil)))
end
theorem crow_good {m : CRow} (h : m.sOk) : good m.d = true ∧ m.d.depth ≤ 1 := by
  cases m with
  | put s =>
    constructor
    · refine good_tuple (by simp) fun d hd => ?_
      simp only [List.mem_cons, List.not_mem_nil, or_false] at hd
      rcases hd with rfl | rfl
      · decide +kernel
      · exact str_good h.1 (Nat.le_trans h.2 (by decide))
    · refine depth_tuple fun d hd => ?_
      simp only [List.mem_cons, List.not_mem_nil, or_false] at hd
      rcases hd with rfl | rfl <;> exact Nat.le_refl _
  | copy a n =>
    constructor
    · refine good_tuple (by simp) fun d hd => ?_
      simp only [List.mem_cons, List.not_mem_nil, or_false] at hd
      rcases hd with rfl | rfl | rfl
      · decide +kernel
      · rfl
      · rfl
    · refine depth_tuple fun d hd => ?_
      simp only [List.mem_cons, List.not_mem_nil, or_false] at hd
      rcases hd with rfl | rfl | rfl <;> exact Nat.le_refl _
theorem crows_good {ms : List CRow} (h : ∀ m ∈ ms, m.sOk) (hl : ms.length ≤ 100000) : good (.list (ms.map CRow.d)) = true ∧ (PyData.list (ms.map CRow.d)).depth ≤ 2 := by
  constructor
  · refine good_list (by rw [List.length_map]; exact hl) fun d hd => ?_
    obtain ⟨r, hr, rfl⟩ := List.mem_map.mp hd
    exact (crow_good (h r hr)).1
  · refine depth_list fun d hd => ?_
    obtain ⟨r, hr, rfl⟩ := List.mem_map.mp hd
    exact (crow_good (h r hr)).2
/-- a change that stays -/
def insC (C dx r : Addr) (n : Nat) : HO := .ins C dx [("size", .int (n : Nat)), ("rows", .ref r)]
def Chg (K : PySem.W.Frag) (F : Hp) (x : V) (n : Nat) (rows : List CRow) : Prop := ∃ c dx r vs, x = .ref c ∧ F c = some (insC (He.ga K "Change") dx r n) ∧ F r = some (.lst vs) ∧ DpAll K F vs (rows.map CRow.d)
theorem Chg.same {K : PySem.W.Frag} {F F2 : Hp} {x : V} {n : Nat} {rows : List CRow} (s : Same F F2) (h : Chg K F x n rows) : Chg K F2 x n rows := by
  obtain ⟨c, dx, r, vs, e, h1, h2, h3⟩ := h
  exact ⟨c, dx, r, vs, e, s _ _ h1, s _ _ h2, dpa_same s _ _ h3⟩
def chg (K : PySem.W.Frag) (x : V) (n : Nat) (rows : List CRow) : Own := pur (fun F => Chg K F x n rows) fun s h => h.same s
/-! ### moves of a change -/
theorem gives_le (rows : List CRow) (i : Nat) : givesL (rows.take i) ≤ givesL rows := by
  have := List.sum_append (l₁ := (rows.take i).map CRow.gives) (l₂ := (rows.drop i).map CRow.gives)
  rw [← List.map_append, List.take_append_drop] at this
  show ((rows.take i).map CRow.gives).sum ≤ (rows.map CRow.gives).sum
  omega
/-! ### promises -/
theorem crows_snoc {n : Nat} {rows : List CRow} {r : CRow} (h : ∀ q ∈ rows, CRowOk n q) (hr : CRowOk n r) : ∀ q ∈ rows ++ [r], CRowOk n q := by
  intro q hq
  rcases List.mem_append.mp hq with hq | hq
  · exact h q hq
  · rw [List.mem_singleton.mp hq]
    exact hr
theorem gives_snoc (rows : List CRow) (r : CRow) : givesL (rows ++ [r]) = givesL rows + r.gives := by
  unfold givesL
  rw [List.map_append, List.sum_append]
  rfl
/-! ### the makers of k01 .. k16 -/
theorem cut_last (xs : List V) : cutV xs (some (-1)) none = xs.drop (xs.length - 1) := by
  unfold cutV
  rw [HT.sIx_none]
  have e : HT.sIx xs.length 0 (some (-1)) = xs.length - 1 := by
    unfold HT.sIx
    simp
    omega
  rw [e]
  exact List.take_of_length_le (by rw [List.length_drop]; exact Nat.le_refl _)
theorem cut_last_snoc (xs : List V) (v : V) : cutV (xs ++ [v]) (some (-1)) none = [v] := by
  rw [cut_last, List.length_append]
  show (xs ++ [v]).drop (xs.length + 1 - 1) = [v]
  rw [Nat.add_sub_cancel, List.drop_left]
def sig93 : Str := "!\"#$&'()*+,-./0123456789:;<=>?@ABCDEFGHIJKLMNOPQRSTUVWXYZ" ++ "[\\]^_`abcdefghijklmnopqrstuvwxyz{|}~"
theorem sig_len : sig93.length = 93 := by decide +kernel
def φsigns : Hp → VK → Prop := fun H Q => Q (.str sig93) H
def φsize1 (K : PySem.W.Frag) : V → Hp → VK → Prop := fun x H Q => ∃ (F : Hp) (b : Addr), x = .ref b ∧ St F H [bag K b] ∧ ∀ (n : Nat) F2 H2, W [b] F H F2 H2 [bag K b] → n ≤ 400 → Q (.int (n : Nat)) H2
def φsame (K : PySem.W.Frag) : V → V → V → Hp → VK → Prop := fun x y z H Q => ∃ (F : Hp) (a : Addr) (vs : List V) (n : Nat) (rows : List CRow), y = .int (n : Nat) ∧ z = .ref a ∧ Same F H ∧ SqL K F a vs ∧ DpAll K F vs (rows.map CRow.d) ∧ Chg K F x n rows ∧ RowsOk n rows ∧ ∀ F2 H2, W [] F H F2 H2 [] → Q (.bl true) H2
theorem n_signs {H : Hp} {Q : VK} {E : XK} (q : Q (.str sig93) H) : S0 φsigns ([] ++ []) H Q E := q
end R
namespace R
open PySem PySem.StrLaws Builtin.Str L2
/-! ### stretches of a text, by its signs -/
def inB (O x : List Nat) : Bool := (List.range (O.length + 1)).any fun a => decide (a + x.length ≤ O.length ∧ (O.drop a).take x.length = x)
theorem inB_iff {O x : List Nat} : inB O x = true ↔ ∃ a, a + x.length ≤ O.length ∧ (O.drop a).take x.length = x := by
  unfold inB
  rw [List.any_eq_true]
  constructor
  · rintro ⟨a, _, h⟩
    exact ⟨a, of_decide_eq_true h⟩
  · rintro ⟨a, h1, h2⟩
    exact ⟨a, List.mem_range.mpr (by omega), decide_eq_true ⟨h1, h2⟩⟩
/-! ### the least cost of each beginning -/
section
variable (p : Nat) (O N : List Nat)
/-- any rows that make the new text cost at least so much -/
def CRow.mk (O : List Nat) : CRow → List Nat
  | .put s => s.cps.toList
  | .copy a n => (O.drop a).take n
end
/-! ### texts by their signs -/
abbrev cd (z : Str) : List Nat := z.cps.toList
theorem cd_len (z : Str) : (cd z).length = z.length := by simp [Str.length]
theorem cd_inj {a b : Str} (h : cd a = cd b) : a = b := by
  obtain ⟨x⟩ := a
  obtain ⟨y⟩ := b
  have e : x = y := Array.toList_inj.mp h
  rw [e]
theorem subAt_cd {x y : Str} {i : Nat} : subAt x y i = true ↔ ((cd x).drop i).take y.length = cd y := by
  unfold subAt
  rw [beq_iff_eq, ← Array.toList_inj, Array.toList_extract]
  show (x.cps.toList.drop i).take (i + y.length - i) = _ ↔ _
  rw [Nat.add_sub_cancel_left]
theorem found_inB (x y : Str) : (!(occurrences x y 0 x.length 1).isEmpty) = inB (cd x) (cd y) := by
  rw [Bool.eq_iff_iff, found_iff, inB_iff]
  constructor
  · rintro ⟨i, h1, h2⟩
    exact ⟨i, by rw [cd_len, cd_len]; exact h1, by rw [cd_len]; exact subAt_cd.mp h2⟩
  · rintro ⟨i, h1, h2⟩
    rw [cd_len] at h1 h2
    rw [cd_len] at h1
    exact ⟨i, h1, subAt_cd.mpr h2⟩
def notinG : R2 := fun x y H Q => ∃ a b, x = .str a ∧ y = .str b ∧ Q (.bl (!inB (cd b) (cd a))) H
def inG : R2 := fun x y H Q => ∃ a b, x = .str a ∧ y = .str b ∧ Q (.bl (inB (cd b) (cd a))) H
section
variable {X : Cx} {H : Hp} {Q : VK} {a b : Str}
theorem opNotInS : OpR X (compareOp .NotIn) notinG := by
  intro pins s σ H x y v u Q I rx ry h
  obtain ⟨a, b, h1, h2, q⟩ := h
  exact op_notin_str pins s σ H x y v u Q I rx ry ⟨a, b, h1, h2, by rw [found_inB]; exact q⟩
theorem opInS : OpR X (compareOp .In) inG := by
  intro pins s σ H x y v u Q I rx ry h
  obtain ⟨a, b, h1, h2, q⟩ := h
  exact op_in_str pins s σ H x y v u Q I rx ry ⟨a, b, h1, h2, by rw [found_inB]; exact q⟩
theorem n_notin (q : Q (.bl (!inB (cd b) (cd a))) H) : notinG (.str a) (.str b) H Q := ⟨a, b, rfl, rfl, q⟩
theorem n_in (q : Q (.bl (inB (cd b) (cd a))) H) : inG (.str a) (.str b) H Q := ⟨a, b, rfl, rfl, q⟩
end
/-! ### the table -/
theorem ok_codes {z : Str} : okS z ↔ ∀ c ∈ cd z, c < 0x110000 := by
  show (z.cps.all (· < 0x110000)) = true ↔ _
  rw [← Array.all_toList, List.all_eq_true]
  exact ⟨fun h c hc => of_decide_eq_true (h c hc), fun h c hc => decide_eq_true (h c hc)⟩
/-! ### cells -/
theorem join_cd (ys : List Str) : cd (Txt.join ⟨#[]⟩ ys) = ys.flatMap cd := by
  have e : TL.tl (Txt.join ⟨#[]⟩ ys) = (ys.map TL.tl).flatten := by
    rw [TL.join_eq, TL.tl_join]
    have key : ∀ l : List (List Nat), TL.joinL [] l = l.flatten := by
      intro l
      induction l with
      | nil => rfl
      | cons a l ih =>
        cases l with
        | nil => simp [TL.joinL]
        | cons b l =>
          rw [TL.joinL, ih]
          simp
    exact key _
  exact e.trans (by rw [List.flatMap_def])
/-! ### promises -/
theorem cut_cd_to (z : Str) (j : Nat) : cd (cutS z none (some (j : Int))) = (cd z).take j := by
  have hl : z.cps.toList.length = z.length := cd_len z
  unfold cutS
  rw [HT.sIx_none, HT.sIx_nat]
  show ((z.cps.toList.drop 0).take _).toArray.toList = z.cps.toList.take j
  rw [List.toList_toArray, List.drop_zero, Nat.sub_zero]
  by_cases h : j ≤ z.length
  · rw [Nat.min_eq_left h]
  · rw [Nat.min_eq_right (by omega), List.take_of_length_le (by omega), List.take_of_length_le (by omega)]
theorem cut_cd_from (z : Str) (i : Nat) : cd (cutS z (some (i : Int)) none) = (cd z).drop i := by
  have hl : z.cps.toList.length = z.length := cd_len z
  unfold cutS
  rw [HT.sIx_none, HT.sIx_nat]
  show ((z.cps.toList.drop _).take _).toArray.toList = z.cps.toList.drop i
  rw [List.toList_toArray]
  by_cases h : i ≤ z.length
  · rw [Nat.min_eq_left h]
    exact List.take_of_length_le (by rw [List.length_drop]; omega)
  · rw [Nat.min_eq_right (by omega), Nat.sub_self, List.take_zero, List.drop_eq_nil_of_le (by omega)]
theorem len_to (z : Str) (j : Nat) : (cutS z none (some (j : Int))).length = min j z.length := by rw [← cd_len, cut_cd_to, List.length_take, cd_len]
theorem len_from (z : Str) (j : Nat) : (cutS z (some (j : Int)) none).length = z.length - j := by rw [← cd_len, cut_cd_from, List.length_drop, cd_len]
theorem len_app (a b : Str) : (a ++ b).length = a.length + b.length := by
  rw [← cd_len, ← cd_len, ← cd_len, ← List.length_append]
  congr 1
  exact TL.tl_append a b
def φwholeI : V → Hp → VK → Prop := fun x H Q => ∃ i, x = .int i ∧ Q (.bl true) H
/-! ### plain finds -/
end R
namespace R
open PySem PySem.StrLaws Builtin.Str L2
/-! ### cells of a change, and the fewest rows that give them -/
inductive Cel where
  | pl (i : Nat)
  | sg (c : Nat)
  deriving DecidableEq
def Cel.v : Cel → V
  | .pl i => .int (i : Nat)
  | .sg c => .str ⟨#[c]⟩
def Cel.ok (n : Nat) : Cel → Prop
  | .pl i => i < n
  | .sg c => c < 0x110000
def Cel.w : Cel → Nat
  | .pl _ => 0
  | .sg _ => 1
theorem cd_app (a b : Str) : cd (a ++ b) = cd a ++ cd b := TL.tl_append a b
def CRow.add : CRow → Cel → Option CRow
  | .copy a n, .pl i => if a + n = i then some (.copy a (n + 1)) else none
  | .put s, .sg c => some (.put (s ++ ⟨#[c]⟩))
  | _, _ => none
theorem row_le {rows : List CRow} {r : CRow} (h : r ∈ rows) : r.gives ≤ givesL rows := by
  induction rows with
  | nil => cases h
  | cons q rows ih =>
    show r.gives ≤ q.gives + givesL rows
    rcases List.mem_cons.mp h with rfl | h
    · omega
    · have := ih h
      omega
/-! ### back, and one behind the other -/
theorem cut_to_V (xs : List V) (k : Nat) : cutV xs none (some (k : Int)) = xs.take k := by
  unfold cutV
  rw [HT.sIx_none, HT.sIx_nat, List.drop_zero, Nat.sub_zero]
  by_cases h : k ≤ xs.length
  · rw [Nat.min_eq_left h]
  · rw [Nat.min_eq_right (by omega), List.take_of_length_le (by omega), List.take_of_length_le (by omega)]
theorem cut_from_V (xs : List V) (k : Nat) : cutV xs (some (k : Int)) none = xs.drop k := by
  unfold cutV
  rw [HT.sIx_none, HT.sIx_nat]
  by_cases h : k ≤ xs.length
  · rw [Nat.min_eq_left h]
    exact List.take_of_length_le (by rw [List.length_drop]; exact Nat.le_refl _)
  · rw [Nat.min_eq_right (by omega), Nat.sub_self, List.take_zero, List.drop_eq_nil_of_le (by omega)]
theorem dpa_dropN {K : PySem.W.Frag} {F : Hp} : ∀ {vs : List V} {ds : List PyData} (n : Nat), DpAll K F vs ds → DpAll K F (vs.drop n) (ds.drop n)
  | _, _, 0, h => h
  | _, _, n + 1, .nil => by rw [List.drop_nil, List.drop_nil]; exact .nil
  | _, _, n + 1, .cons h t => dpa_dropN n t
def Cel.d : Cel → PyData
  | .pl i => .int (i : Nat)
  | .sg c => .str ⟨#[c]⟩
/-! ### promises -/
def CRow.vals : CRow → List V
  | .put s => [.str "put", .str s]
  | .copy a n => [.str "copy", .int (a : Nat), .int (n : Nat)]
/-! d.setdefault(k, x), d.get(k, x) with keys that are numbers -/
end R
namespace R
open PySem PySem.StrLaws Builtin.Str L2
/-! ### a sign so many times -/
/-! ### == of cells -/
/-! ### promises -/
end R
namespace R
open PySem PySem.Spec PyProof.Rows L2
/-! ### defs that raise an own exception, caught by except of its class -/
def SX1 (φ : V → Hp → VK → XK → Prop) : Sp := fun vs H Q E => match vs with | [x] => φ x H Q E | _ => False
def SX2 (φ : V → V → Hp → VK → XK → Prop) : Sp := fun vs H Q E => match vs with | [x, y] => φ x y H Q E | _ => False
def SX3 (φ : V → V → V → Hp → VK → XK → Prop) : Sp := fun vs H Q E => match vs with | [x, y, z] => φ x y z H Q E | _ => False
theorem SX1.len {φ : V → Hp → VK → XK → Prop} {vs : List V} {H : Hp} {Q : VK} {E : XK} (h : SX1 φ vs H Q E) : vs.length = 1 := by
  match vs, h with
  | [_], _ => rfl
theorem SX2.len {φ : V → V → Hp → VK → XK → Prop} {vs : List V} {H : Hp} {Q : VK} {E : XK} (h : SX2 φ vs H Q E) : vs.length = 2 := by
  match vs, h with
  | [_, _], _ => rfl
theorem SX3.len {φ : V → V → V → Hp → VK → XK → Prop} {vs : List V} {H : Hp} {Q : VK} {E : XK} (h : SX3 φ vs H Q E) : vs.length = 3 := by
  match vs, h with
  | [_, _, _], _ => rfl
structure DOX (P : Program) (w : World) (K : PySem.W.Frag) (mg : Str → Option Value) (base : Heap) (k : Nat) (x : Str) (ps : List Str) (sp : Sp) : Prop where
  ex : ∃ (f : Addr) (fd : FuncData), FnOk P w K mg base (L2.CX P w) k f fd ps sp ∧ mg x = some (.ref f) ∧ PySem.W.keepIn K (.ref f) = true ∧ Binds K fd ps []
/-- an own class of exceptions over ValueError, without own __init__ -/
structure EC (K : PySem.W.Frag) (mg : Str → Option Value) (C : Str) : Prop where
  g : mg C = some (.ref (He.ga K C))
  x : PySem.W.excIn K (He.ga K C) He.veBase "ValueError.__new__" = true
  k : PySem.W.keepIn K (.ref (He.ga K C)) = true
  s : PySem.W.subIn K (.ref (He.ga K C)) (.type "BaseException") = some true
  t : PySem.W.typeIn K (.ref (He.ga K C)) = some (.type "type")
  m : PySem.W.exmOne K (.ref (He.ga K C)) (.ref (He.ga K C)) = some true
theorem ec_ok {K : PySem.W.Frag} {mg : Str → Option Value} {C : Str} (g : mg C = some (.ref (He.ga K C)))
    (h : PySem.W.excIn K (He.ga K C) He.veBase "ValueError.__new__" = true ∧ PySem.W.keepIn K (.ref (He.ga K C)) = true ∧ PySem.W.subIn K (.ref (He.ga K C)) (.type "BaseException") = some true ∧ PySem.W.typeIn K (.ref (He.ga K C)) = some (.type "type"))
    (m : PySem.W.exmOne K (.ref (He.ga K C)) (.ref (He.ga K C)) = some true) : EC K mg C := ⟨g, h.1, h.2.1, h.2.2.1, h.2.2.2, m⟩
theorem PS.nox {X : Cx} {st : Stmt} {t : TS} (h : PS X.nox st t) : PS X st t := ⟨fun pins s σ H D I hw =>
  wpAny_mono (h.run pins s σ H D (I.wish _) hw) (fun _ _ q => q.unwish) fun _ _ z => False.elim z⟩
section
variable {X : Cx} {CX : CXT} {k j : Nat} {f C : Addr} {fd : FuncData} {ps : List Str} {sp : Sp} {E : L2.St → XK} {x m : Str} {p pos apos : Pos} {e o : Expr} {es : List Expr} {ta : TE} {t : TA} {W : WX} {pl : Sem Bool}
def tMethS (C : Addr) (m : Str) (sp : Sp) (E : L2.St → XK) (ta : TE) (t : TA) : TE := fun σ H Q => ta σ H fun x H1 => ∃ a dx fs, x = .ref a ∧ H1 a = some (.ins C dx fs) ∧ fs.lookup m = none ∧ t σ H1 fun vs H2 => sp (x :: vs) H2 Q (E σ)
/-- raise C('..') -/
def tRaiseO (K : PySem.W.Frag) (C : Str) (W : WX) : TS := fun _ σ H => W (.ref (He.ga K C)) none σ H
theorem ps_raiseO {C : Str} {z : Str} {jj : Nat} {p2 pos3 : Pos} (c : EC X.K X.mg C) (tk : Takes X W) (hc : X.calm = true) (hg : Gl X C := by rfl) (hdb : (C == ("__debug__" : Str)) = false := by decide) :
    PS X (.Raise (some (.Call (.Name C p) [.Constant (.str z) jj p2] [] pos)) none pos3) (tRaiseO X.K C W) :=
  ps_raise hc tk (pmk_own PySem.F.excBase_ValueError c.x c.g c.k (raises_own c.s c.t) hg hdb)
/-- try: .. except C: .. -/
def wTry (K : PySem.W.Frag) (C : Addr) (ts : TS) (D : Ends) : WX := wOnly K (.ref C) (fun _ _ _ => ts) (fun _ _ _ _ => False) D
def tTry (K : PySem.W.Frag) (C : Addr) (tb : WX → TS) (ts : TS) : TS := fun D σ H => tb (wTry K C ts D) D σ H
end
section
variable {K : PySem.W.Frag} {mg : Str → Option Value} {σ : L2.St} {H : Hp} {Q : VK} {E : XK} {C : Str} {D : Ends} {W : WX} {tb : WX → TS} {ts : TS} {sp : Sp} {m : Str} {ta : TE} {t : TA} {Cc : Addr} {EE : L2.St → XK}
theorem x_try (q : tb (wTry K Cc ts D) D σ H) : tTry K Cc tb ts D σ H := q
instance : Step (tTry K Cc tb ts D σ H) (tb (wTry K Cc ts D) D σ H) := ⟨x_try⟩ -- st
theorem x_callS (q : t σ H fun vs H1 => sp vs H1 Q (EE σ)) : tCallS sp EE t σ H Q := q
instance : Step (tCallS sp EE t σ H Q) (t σ H fun vs H1 => sp vs H1 Q (EE σ)) := ⟨x_callS⟩ -- st
theorem x_methS (q : ta σ H fun x H1 => mthG Cc m x H1 (t σ H1 fun vs H2 => sp (x :: vs) H2 Q (EE σ))) : tMethS Cc m sp EE ta t σ H Q := by
  unfold tMethS
  refine cast ?_ q
  congr 1
  funext x H1
  unfold mthG
  refine propext ⟨?_, ?_⟩
  · rintro ⟨⟨a, dx, fs, h1, h2, h3⟩, h4⟩
    exact ⟨a, dx, fs, h1, h2, h3, h4⟩
  · rintro ⟨a, dx, fs, h1, h2, h3, h4⟩
    exact ⟨⟨a, dx, fs, h1, h2, h3⟩, h4⟩
instance : Step (tMethS Cc m sp EE ta t σ H Q) (ta σ H fun x H1 => mthG Cc m x H1 (t σ H1 fun vs H2 => sp (x :: vs) H2 Q (EE σ))) := ⟨x_methS⟩ -- st
theorem x_raise (q : W (.ref (He.ga K C)) none σ H) : tRaiseO K C W D σ H := q
instance : Step (tRaiseO K C W D σ H) (W (.ref (He.ga K C)) none σ H) := ⟨x_raise⟩ -- st
end
/-! ### promises -/
end R
namespace R
open PySem L2
/-! ### the first place of a cell -/
/-! ### promises of the laws that catch BadSize -/
end R
namespace R
open PySem L2
/-! ### told lists of cells, each beside what was due -/
/-! ### promises of k02 -/
end R
namespace R
open PySem PySem.Spec PyProof.Rows L2 PySem.W
/-! ### str(x) by an own __str__ -/
section
variable {X : Cx} {K : PySem.W.Frag} {k : Nat} {C : Str} {ps : List Str} {sp : Sp}
def aftS (Q : VK) : VK := fun v H2 => ∃ z : Str, v = .str z ∧ Q (.str z) H2
/-- {x} of an own instance -/
def tFmtO (C : Addr) (sp : Sp) (te : TE) : TE := fun σ H Q => te σ H fun x H1 => ∃ a dx fs, x = .ref a ∧ H1 a = some (.ins C dx fs) ∧ sp [.ref a] H1 (aftS Q) E0
end
section
variable {σ : L2.St} {H : Hp} {Q : VK} {te : TE} {C : Addr} {m : Nat} {sp : Sp} {gV : List V → List V → List V} {E : XK} {tk : TA} {ts : List TE} {acc y : Str} {x : V} {R : Str → Hp → Prop} {i : Int}
def fmtG (x : V) (H1 : Hp) (Q : VK) : Prop := (∃ y : Str, x = .str y ∧ y.length ≤ sizeLine ∧ Q (.str y) H1) ∨ ∃ i : Int, x = .int i ∧ i.natAbs.log2 < 1920 ∧ Q (.str (toString i)) H1
theorem x_fmt (q : te σ H fun x H1 => fmtG x H1 Q) : tFmt te σ H Q := q
instance : Step (tFmt te σ H Q) (te σ H fun x H1 => fmtG x H1 Q) := ⟨x_fmt⟩ -- st
def fmtGO (C : Addr) (sp : Sp) (x : V) (H1 : Hp) (Q : VK) : Prop := ∃ a dx fs, x = .ref a ∧ H1 a = some (.ins C dx fs) ∧ sp [.ref a] H1 (aftS Q) E0
theorem x_fmtO (q : te σ H fun x H1 => fmtGO C sp x H1 Q) : tFmtO C sp te σ H Q := q
instance : Step (tFmtO C sp te σ H Q) (te σ H fun x H1 => fmtGO C sp x H1 Q) := ⟨x_fmtO⟩ -- st
def jsG (ts : List TE) (acc : Str) (σ : L2.St) (x : V) (H1 : Hp) (R : Str → Hp → Prop) : Prop := ∃ y : Str, x = .str y ∧ (acc ++ y).length ≤ sizeLine ∧ tJs ts (acc ++ y) σ H1 R
theorem x_js (q : te σ H fun x H1 => jsG ts acc σ x H1 R) : tJs (te :: ts) acc σ H R := q
instance : Step (tJs (te :: ts) acc σ H R) (te σ H fun x H1 => jsG ts acc σ x H1 R) := ⟨x_js⟩ -- st
theorem x_js0 (q : R acc H) : tJs [] acc σ H R := q
instance : Step (tJs [] acc σ H R) (R acc H) := ⟨x_js0⟩ -- st
/-- an instance made by keywords alone -/
def makKG (C : Addr) (sp : Sp) (gV : List V → List V → List V) (zs : List V) (E : XK) (H : Hp) (Q : VK) : Prop := ∀ x dx, H x = none → H dx = none → dx ≠ x → sp (gV [.ref x] zs) (upd (upd H dx (.own x)) x (.ins C dx [])) (aftG Q x) E
theorem x_makeK0 (q : tk σ H fun zs H2 => zs.length = m ∧ makKG C sp gV zs E H2 Q) : tMakeK C 0 m sp gV E tNil tk σ H Q := by
  show tk σ H _
  refine cast ?_ q
  congr 1
  funext zs H2
  refine propext ⟨?_, ?_⟩
  · rintro ⟨h1, h3⟩
    exact ⟨rfl, h1, fun x dx a b c => h3 x dx a b c⟩
  · rintro ⟨_, h1, h3⟩
    exact ⟨h1, fun x dx a b c => h3 x dx a b c⟩
instance : Step (tMakeK C 0 m sp gV E tNil tk σ H Q) (tk σ H fun zs H2 => zs.length = m ∧ makKG C sp gV zs E H2 Q) := ⟨x_makeK0⟩ -- st
end
end R
namespace R
open PySem L2
/-! ### the writing of a change -/
def numS (n : Nat) : Str := Str.ofString (toString ((n : Nat) : Int))
def smallNum (n : Nat) : Bool := (numS n).cps.all (· < 0x110000) && decide ((numS n).length ≤ 3)
theorem nums_small : ∀ n, n < 401 → smallNum n = true := by decide +kernel
theorem num_ok {n : Nat} (h : n ≤ 400) : okS (numS n) ∧ (numS n).length ≤ 3 := by
  have := nums_small n (by omega)
  unfold smallNum at this
  rw [Bool.and_eq_true, decide_eq_true_eq] at this
  exact this
theorem num_log {n : Nat} (h : n ≤ 400) : ((n : Nat) : Int).natAbs.log2 < 1920 := by
  have : ((n : Nat) : Int).natAbs = n := by simp
  rw [this]
  by_cases h0 : n = 0
  · rw [h0]
    decide
  · exact (Nat.log2_lt h0).mpr (Nat.lt_of_le_of_lt h (by decide +kernel : 400 < 2 ^ 1920))
def rowW : CRow → List Nat
  | .put s => cd (Str.ofString "put ") ++ cd s
  | .copy a n => cd (Str.ofString "copy ") ++ cd (numS a) ++ cd (Str.ofString " ") ++ cd (numS n)
def rowsW (rows : List CRow) : List Nat := rows.flatMap fun r => 10 :: rowW r
def writL (n : Nat) (rows : List CRow) : List Nat := (cd (Str.ofString "size ") ++ cd (numS n)) ++ rowsW rows
theorem len_put : (cd (Str.ofString "put ")).length = 4 := by decide +kernel
theorem len_copy : (cd (Str.ofString "copy ")).length = 5 := by decide +kernel
theorem len_size : (cd (Str.ofString "size ")).length = 5 := by decide +kernel
theorem len_sp : (cd (Str.ofString " ")).length = 1 := by decide +kernel
theorem nl_cd : cd (Str.ofString "\n") = [10] := by decide +kernel
theorem row_len {r : CRow} {n : Nat} (h : CRowOk n r) (hn : n ≤ 400) : (rowW r).length ≤ 12 + r.gives := by
  cases r with
  | put s =>
    show (cd (Str.ofString "put ") ++ cd s).length ≤ 12 + s.length
    rw [List.length_append, len_put, cd_len]
    omega
  | copy a m =>
    have h1 : a + m ≤ n := h.h
    have h2 := (num_ok (n := a) (by omega)).2
    have h3 := (num_ok (n := m) (by omega)).2
    show (cd (Str.ofString "copy ") ++ cd (numS a) ++ cd (Str.ofString " ") ++ cd (numS m)).length ≤ _
    rw [List.length_append, List.length_append, List.length_append, len_copy, len_sp, cd_len, cd_len]
    omega
theorem okc {z : Str} (h : okS z) : ∀ c ∈ cd z, c < 0x110000 := ok_codes.mp h
theorem ok_lit1 : ∀ c ∈ cd (Str.ofString "put "), c < 0x110000 := by decide +kernel
theorem ok_lit2 : ∀ c ∈ cd (Str.ofString "copy "), c < 0x110000 := by decide +kernel
theorem ok_lit3 : ∀ c ∈ cd (Str.ofString "size "), c < 0x110000 := by decide +kernel
theorem ok_lit4 : ∀ c ∈ cd (Str.ofString " "), c < 0x110000 := by decide +kernel
theorem row_okc {r : CRow} {n : Nat} (h : CRowOk n r) (hn : n ≤ 400) : ∀ c ∈ rowW r, c < 0x110000 := by
  intro c hc
  cases r with
  | put s =>
    rcases List.mem_append.mp hc with hc | hc
    · exact ok_lit1 c hc
    · exact okc h.s.1 c hc
  | copy a m =>
    have h1 : a + m ≤ n := h.h
    rcases List.mem_append.mp hc with hc | hc
    · rcases List.mem_append.mp hc with hc | hc
      · rcases List.mem_append.mp hc with hc | hc
        · exact ok_lit2 c hc
        · exact okc (num_ok (n := a) (by omega)).1 c hc
      · exact ok_lit4 c hc
    · exact okc (num_ok (n := m) (by omega)).1 c hc
theorem wrows_len {n : Nat} (hn : n ≤ 400) : ∀ {rows : List CRow}, (∀ r ∈ rows, CRowOk n r) → (rowsW rows).length ≤ 13 * rows.length + givesL rows
  | [], _ => Nat.le_refl _
  | r :: rows, h => by
    have h1 := row_len (h r (List.mem_cons_self ..)) hn
    have h2 := wrows_len hn (rows := rows) fun q hq => h q (List.mem_cons_of_mem _ hq)
    show ((10 :: rowW r) ++ rowsW rows).length ≤ 13 * (rows.length + 1) + givesL (r :: rows)
    have h3 : givesL (r :: rows) = r.gives + givesL rows := rfl
    rw [List.length_append, List.length_cons, h3]
    omega
theorem wrows_okc {n : Nat} {rows : List CRow} (hn : n ≤ 400) (h : ∀ r ∈ rows, CRowOk n r) : ∀ c ∈ rowsW rows, c < 0x110000 := by
  intro c hc
  obtain ⟨r, hr, hc⟩ := List.mem_flatMap.mp hc
  rcases List.mem_cons.mp hc with rfl | hc
  · decide
  · exact row_okc (h r hr) hn c hc
theorem writ_len {n : Nat} {rows : List CRow} (hn : n ≤ 400) (ok : RowsOk n rows) : (writL n rows).length ≤ 6000 := by
  have h1 := wrows_len hn ok.ok
  have h2 := ok.len
  have h3 := ok.sum
  have h4 := (num_ok hn).2
  unfold writL
  rw [List.length_append, List.length_append, len_size, cd_len]
  omega
theorem writ_ok {n : Nat} {rows : List CRow} {s : Str} (hn : n ≤ 400) (ok : RowsOk n rows) (h : cd s = writL n rows) : okS s ∧ s.length ≤ 6000 := by
  refine ⟨ok_codes.mpr fun c hc => ?_, by rw [← cd_len, h]; exact writ_len hn ok⟩
  rw [h] at hc
  rcases List.mem_append.mp hc with hc | hc
  · rcases List.mem_append.mp hc with hc | hc
    · exact ok_lit3 c hc
    · exact okc (num_ok hn).1 c hc
  · exact wrows_okc hn ok.ok c hc
theorem rowsW_take {rows : List CRow} {i : Nat} {r : CRow} (h : rows[i]? = some r) : rowsW (rows.take (i + 1)) = rowsW (rows.take i) ++ (10 :: rowW r) := by
  unfold rowsW
  rw [List.take_add_one, h, List.flatMap_append]
  show _ ++ ((10 :: rowW r) ++ []) = _
  rw [List.append_nil]
theorem rowsW_le {n : Nat} {rows : List CRow} (hn : n ≤ 400) (ok : RowsOk n rows) (i : Nat) : (rowsW (rows.take i)).length ≤ 6000 := by
  have h1 := wrows_len hn (rows := rows.take i) fun r hr => ok.ok r (List.mem_of_mem_take hr)
  have h2 := ok.len
  have h3 := ok.sum
  have h4 := gives_le rows i
  have h5 : (rows.take i).length ≤ rows.length := by rw [List.length_take]; omega
  omega
theorem joinL_nl (a : List Nat) : ∀ l : List (List Nat), TL.joinL [10] (a :: l) = a ++ l.flatMap fun t => 10 :: t := by
  intro l
  induction l generalizing a with
  | nil => simp [TL.joinL]
  | cons b l ih =>
    rw [TL.joinL, ih]
    simp
theorem slen_size : (Str.ofString "size ").length = 5 := by decide +kernel
theorem slen_nl : (Str.ofString "\n").length = 1 := by decide +kernel
/-! ### promises -/
end R
namespace R
open PySem PySem.Spec PyProof.Rows L2
/-! ### list(reversed(a list)) -/
section
variable {X : Cx} {K : PySem.W.Frag}
def tListRev (K : PySem.W.Frag) (te : TE) : TE := fun σ H Q => te σ H fun v H1 => ∃ (a : Addr) (xs : List V), v = .ref a ∧ SqL K H1 a xs ∧ ∀ q, H1 q = none → Q (.ref q) (upd H1 q (.lst xs.reverse))
end
section
variable {K : PySem.W.Frag} {M : List Addr} {F0 H0 F H : Hp} {L : List Own} {σ : L2.St} {Q : VK} {te : TE} {a : Addr} {xs : List V}
def lrvG (K : PySem.W.Frag) (v : V) (H1 : Hp) (Q : VK) : Prop := ∃ (a : Addr) (xs : List V), v = .ref a ∧ SqL K H1 a xs ∧ ∀ q, H1 q = none → Q (.ref q) (upd H1 q (.lst xs.reverse))
theorem x_lrv (q : te σ H fun v H1 => lrvG K v H1 Q) : tListRev K te σ H Q := q
instance : Step (tListRev K te σ H Q) (te σ H fun v H1 => lrvG K v H1 Q) := ⟨x_lrv⟩ -- st
end
end R
namespace R
open PySem L2
/-! ### changes one behind the other -/
/-! ### a list of changes -/
def ChgAll (K : PySem.W.Frag) (F : Hp) (vs : List V) (txs : List Str) (rss : List (List CRow)) : Prop := vs.length = rss.length ∧ ∀ (i : Nat) (v : V) (t : Str) (rs : List CRow), vs[i]? = some v → txs[i]? = some t → rss[i]? = some rs → Chg K F v t.length rs
theorem ChgAll.same {K : PySem.W.Frag} {F F2 : Hp} {vs : List V} {txs : List Str} {rss : List (List CRow)} (s : Same F F2) (h : ChgAll K F vs txs rss) : ChgAll K F2 vs txs rss := ⟨h.1, fun i v t rs h1 h2 h3 => (h.2 i v t rs h1 h2 h3).same s⟩
/-! ### loops over reversed(range(n)), is of bools -/
section
variable {K : PySem.W.Frag} {M : List Addr} {F0 H0 F H : Hp} {L L1 : List Own} {σ : L2.St} {g : TG} {tbody : TS} {nx bk ct : L2.St → Hp → Prop} {rt Q : VK}
def rvG (a b : Int) (H1 : Hp) (R : It → Hp → Prop) : Prop := -(2 ^ 62) ≤ a ∧ a < 2 ^ 62 ∧ -(2 ^ 62) ≤ b ∧ b < 2 ^ 62 ∧ R (Itc (a + (((b - a).toNat : Nat) : Int) - 1) (-1) (b - a).toNat) H1
theorem x_revR {ta : TE} {R : It → Hp → Prop} (q : ta σ H fun x H1 => ∃ n, x = .int n ∧ rvG 0 n H1 R) : iRevR (tRg1 ta) σ H R := q
instance {ta : TE} {R : It → Hp → Prop} : Step (iRevR (tRg1 ta) σ H R) (ta σ H fun x H1 => ∃ n, x = .int n ∧ rvG 0 n H1 R) := ⟨x_revR⟩ -- st
theorem n_isB {a b : Bool} (q : Q (.bl (decide (a = b))) H) : rIsB (.bl a) (.bl b) H Q := ⟨a, b, rfl, rfl, q⟩
instance {a b : Bool} : Step (rIsB (.bl a) (.bl b) H Q) (Q (.bl (decide (a = b))) H) := ⟨n_isB⟩ -- st
theorem n_notB {a b : Bool} (q : Q (.bl (!decide (a = b))) H) : rNotB (.bl a) (.bl b) H Q := ⟨a, b, rfl, rfl, q⟩
instance {a b : Bool} : Step (rNotB (.bl a) (.bl b) H Q) (Q (.bl (!decide (a = b))) H) := ⟨n_notB⟩ -- st
end
/-! ### promises of k09 -/
end R
namespace R
open PySem PySem.Spec PyProof.Rows L2
/-! ### xs.insert(i, y) -/
end R
/-! ### own exceptions with a field, over a built-in class that the kit's rules for ValueError leave out -/
namespace R
section
open PySem PySem.W PySem.Calls PyProof.Rows PySem.HandSPX Builtin Builtin.ObjectAttr
/-- what a built-in class is known by -/
structure XBase (B newId initId : String) (tail : List Value) : Prop where
  f : ExcBaseFacts B newId initId tail
  s : StoreFacts B tail "object.__setattr__" "object"
  o : tail.contains (.type "object") = true
theorem xb_ValueError : XBase "ValueError" "ValueError.__new__" "ValueError.__init__" veTail := ⟨PySem.F.excBase_ValueError, PySem.F.store_ValueError, by decide +kernel⟩
variable {prog : Program} {w : World} {A : Around} {R : Result → Shared → Prop} {hp : Heap} {gs : Array GenState} {dr : Drawn} {n0 : Nat} {oss : OsState}
theorem xf_osa {B newId initId : String} {tail : List Value} {K : W.Frag} {z : Str} {tk : Tok} {v : Value} {x C : Addr} {fv : Array Value} {cd : ClassData} (XB : XBase B newId initId tail)
    (kin : K.In hp) (ox : hp.get? x = some { cls := .ref C, data := .fields fv }) (cdC : W.clsIn K C = some cd) (hm : cd.mro = .ref C :: tail) (hasD : cd.hasDict = true) (no : W.findIn K (.ref C) z = some none)
    (fin : ∀ h2 tk2 dx, (∀ b o, b ≠ x → hp.get? b = some o → h2.get? b = some o) → hp.objs.size ≤ dx → dx ≠ x → h2.get? x = some { cls := .ref C, dict := some dx, data := .fields fv } →
      h2.Ns1 dx (fun y => if y = z then some v else none) → R (.ok (.ret .none)) ⟨h2, gs, dr, tk2, oss⟩) :
    codeAny (model prog w) A (.call (.builtin "object.__setattr__") ⟨[.ref x, .str z tk, v], []⟩) R ⟨hp, gs, dr, n0, oss⟩ := by
  have IA : W.InstAt hp x { cls := .ref C, data := .fields fv } C none := ⟨ox, rfl, rfl, trivial⟩
  have SO := PySem.F.store_object
  have ob : cd.mro.contains (.type "object") = true := by rw [hm, List.contains_cons, XB.o, Bool.or_true]
  have far : x ≠ hp.objs.size := Nat.ne_of_lt (Heap.lt_size ox)
  have su : W.Looks (model prog w) hp (isInstance (.ref x) (.type "object")) true := IA.type.andThen (W.looks_mroIn kin (by unfold W.mroIn; rw [cdC, Option.bind_some, if_neg (by rw [hm]; exact Bool.false_ne_true), ob]))
  refine codeAny_call_builtin SO.slot.plain SO.entry (@W.check_slot (model prog w) _ _ ⟨hp, gs, dr, n0, oss⟩ "object.__setattr__" "object" "__setattr__" (.ref x) [.str z tk, v] [] _ SO.kind SO.split su (SO.args (.ref x) (.str z tk) v) ?_)
  have lm : W.Looks (model prog w) hp (mroOf (.ref C)) cd.mro := (W.looks_clsIn kin cdC).andThen .now
  have lt : W.Looks (model prog w) hp (storeTaker? none) none := .now
  have lc : W.Looks (model prog w) hp (classData C) cd := W.looks_clsIn kin cdC
  rw [W.osa_eq, refuse_eq]
  refine wpAny_bind (wpAny_bind (IA.type.at (wpAny_bind (lm.at ?_))))
  rw [hm, refuseLoop_ref, XB.s.passes]
  refine wpAny_pure (wpAny_bind (IA.type.at (wpAny_bind ((W.looks_findIn kin no).at (wpAny_bind (lt.at ?_))))))
  show wpAny _ _ (storeInOwnDict (.ref x) (.ref C) (.str z tk) z v false) _ _ _
  obtain ⟨c1, c2, c3, c4, c5, c6, c7, c8, c9, c10, c11⟩ := cd
  dsimp only at hasD
  subst hasD
  unfold storeInOwnDict ownDictForStores
  repeat (first | with_reducible refine store_in_new ?_ ?_ | with_reducible refine wpAny_loadPart_at ox ?_ | with_reducible refine lc.at ?_ | wp_step)
  · exact ⟨_, #[], _, (Heap.get?_update_ne _ _ _ _ far.symm).trans (Heap.get?_push_at rfl rfl), rfl, fun e he => absurd he (by simp), fun _ => rfl⟩
  · intro h2 tk2 hn hs
    have ox2 : (hp.push { cls := .type "dict", data := .dict #[] }).get? x = some { cls := .ref C, data := .fields fv } := Heap.get?_push_of_some _ ox
    refine fin h2 tk2 hp.objs.size (fun b o hb ho => ?_) (Nat.le_refl _) far.symm ?_ hn
    · exact (hs.2 b (Nat.ne_of_lt (Heap.lt_size ho))).trans ((Heap.get?_update_ne _ _ _ _ hb).trans (Heap.get?_push_of_some _ ho))
    · exact (hs.2 x far).trans (Heap.get?_update_self _ ox2 rfl)
end
section
open PySem PySem.Spec PyProof.Rows L2
/-- what the text's class is known by -/
structure XCls (K : PySem.W.Frag) (C : Addr) (tail : List Value) (newId : String) : Prop where
  cls : ∃ nm q N bs sn sub ab col dd k0 k1 k2 k3 k5, K.lookup C = some (excClassObj nm q C N bs tail true sn sub ab col dd k0 k1 k2 k3 k5 newId)
  sa : PySem.W.findIn K (.ref C) "__setattr__" = some (some (.builtin "object.__setattr__"))
  s : PySem.W.subIn K (.ref C) (.type "BaseException") = some true
  t : PySem.W.typeIn K (.ref C) = some (.type "type")
  k : PySem.W.keepIn K (.ref C) = true
def xclsB (K : PySem.W.Frag) (C : Addr) (tail : List Value) (newId : String) : Bool := match K.lookup C with
  | some ob => (match ob.cls, ob.data, ob.slots.toList with
    | .type ty, .cls c, [_, _, _, _, some (.builtin nn), _] => (match c.mro with
      | .ref C2 :: r => ty == "type" && (C2 == C && (nn == newId && (!c.hasDel && (c.hasDict && r == tail))))
      | _ => false)
    | _, _, _ => false)
  | none => false
theorem xclsB_ok {K : PySem.W.Frag} {C : Addr} {tail : List Value} {newId : String} (h : xclsB K C tail newId = true) : ∃ nm q N bs sn sub ab col dd k0 k1 k2 k3 k5, K.lookup C = some (excClassObj nm q C N bs tail true sn sub ab col dd k0 k1 k2 k3 k5 newId) := by
  unfold xclsB at h
  cases e : K.lookup C with
  | none => rw [e] at h; cases h
  | some ob =>
    rw [e] at h
    obtain ⟨oc, od, dat, sl⟩ := ob
    dsimp only at h
    split at h
    · rename_i ty c k0 k1 k2 k3 nn k5 hsl
      obtain ⟨nm, bs, mro, ns, qn, hd, sn, sub, ab, col, del⟩ := c
      dsimp only at h
      split at h
      · rename_i C2 r
        simp only [Bool.and_eq_true, beq_iff_eq, Bool.not_eq_true'] at h
        obtain ⟨rfl, rfl, rfl, rfl, rfl, rfl⟩ := h
        have hs2 : sl = #[k0, k1, k2, k3, some (.builtin nn), k5] := by
          obtain ⟨l⟩ := sl
          simp only at hsl
          rw [hsl]
        subst hs2
        exact ⟨nm, qn, ns, bs, sn, sub, ab, col, od, k0, k1, k2, k3, k5, rfl⟩
      · cases h
    · cases h
section
variable {X : Cx} {pins : List (Addr × Obj)} {σ : L2.St} {H : Hp} {s : Shared} {a C dx : Addr} {f : Str} {y : V} {u : Value} {Q : Unit → Shared → Prop} {Q1 : Value → Shared → Prop} {E : Value → Shared → Prop} {A : Around} {B newId initId : String} {tail : List Value}
/-- self.f = y -/
theorem xf_store (XB : XBase B newId initId tail) (T : XCls X.K C tail newId) (I : Inv X pins σ H s) (e : H a = some (exo a C none)) (hno : PySem.W.findIn X.K (.ref C) f = some none) (ry : RelV y u)
    (q : ∀ dx s2, H dx = none → dx ≠ a → Inv X pins σ (upd (upd H dx (exd dx [(f, y)])) a (exo a C (some dx))) s2 → Q () s2) : wpAny (model X.prog X.w) A (setAttr (.ref a) f u) Q E s := by
  obtain ⟨c1, c2, c3, c4, c5, c6, c7, c8, c9, d0, d1, d2, d3, d5, lk⟩ := T.cls
  have cI : PySem.W.clsIn X.K C = some { name := c1, bases := c4, mro := .ref C :: tail, ns := c3, qualname := c2, hasDict := true, slotNames := c5, subclasses := c6, abstract := c7, collection := c8, hasDel := false } := by unfold PySem.W.clsIn; rw [lk] <;> rfl
  obtain ⟨t0, oa⟩ := exo_at I.hok e
  obtain ⟨hp, gg, dd, tt, oo⟩ := s
  refine PySem.W.set_plain I.kIn (ox := { cls := .ref C, dict := none, data := .fields #[.ref t0, .none, .none, .none, .bool false, .none] }) (od := none) ⟨oa, rfl, rfl, trivial⟩ T.sa ?_
  refine xf_osa XB I.kIn oa cI rfl rfl hno fun h2 tk2 dx kp big ne ox ns => ?_
  have free : H dx = none := I.hok.fresh big
  have old : ∀ {b : Addr} {o : Obj}, hp.get? b = some o → b ≠ dx := fun {b o} z => Nat.ne_of_lt (Nat.lt_of_lt_of_le (Heap.lt_size z) big)
  have oth : ∀ {b : Addr}, H b = none → b ≠ a := fun {b} n z => by
    rw [z, e] at n
    cases n
  have un : Un X.fs [] H (upd (upd H dx (exd dx [(f, y)])) a (exo a C (some dx))) hp h2 :=
    { keep := fun b o z n _ _ => kp b o (oth n) z
      slot := fun b o z n _ _ => ⟨o.slots, kp b o (oth n) z⟩
      free := fun b o z n _ => by rw [upd_ne (oth n), upd_ne (old z)] <;> exact n
      there := fun b o z _ => (Classical.em (b = a)).elim (fun hb => ⟨_, (congrArg h2.get? hb).trans ox⟩) fun hb => ⟨o, kp b o hb z⟩
      tups := fun b xs z => by rw [upd_ne (at_ne e z exo_tup), upd_ne (ne_of_none z free)] <;> exact z
      frzs := fun b o v z => by rw [upd_ne (at_ne e z exo_frz), upd_ne (ne_of_none z free)] <;> exact z
      tbls := fun b ps z => ⟨#[], by rw [upd_ne (at_ne e z exo_tbl), upd_ne (ne_of_none z free), z]; simp⟩ }
  refine q dx _ free ne (I.un (t' := tk2) un fun b o z => ?_)
  by_cases hb : b = a
  · subst hb
    rw [upd_same] at z
    cases z
    exact exo_ok ox
  · rw [upd_ne hb] at z
    by_cases hd : b = dx
    · subst hd
      rw [upd_same] at z
      cases z
      exact exd_ok ns (relO_put (fs := []) ry fun g => True.intro)
    · rw [upd_ne hd] at z
      refine (I.hok b o z).stay (fun c v hc zz => kp c v ?_ zz) (fun c hc => ?_) (fun c xs hc => ?_)
      · rcases hc with rfl | hc
        · exact hb
        · exact at_ne e hc exo_own
      · rw [upd_ne (at_ne e hc exo_own), upd_ne (ne_of_none hc free)] <;> exact hc
      · rw [upd_ne (at_ne e hc exo_tup), upd_ne (ne_of_none hc free)] <;> exact hc
/-- B.__init__(self, ..) -/
theorem xf_base (XB : XBase B newId initId tail) {us : List Value} (T : XCls X.K C tail newId) (I : Inv X pins σ H s) (e : H a = some (exo a C none)) (hl : us.length ≤ sizeLine) (q : ∀ s2, Inv X pins σ H s2 → Q1 .none s2) :
    wpAny (model X.prog X.w) A (call (.builtin initId) (.ref a :: us)) Q1 E s := by
  obtain ⟨c1, c2, c3, c4, c5, c6, c7, c8, c9, d0, d1, d2, d3, d5, lk⟩ := T.cls
  obtain ⟨t0, oa⟩ := exo_at I.hok e
  obtain ⟨hp, gg, dd, tt, oo⟩ := s
  refine wpAny_call (PySem.HandSPX.init_base XB.f (fun _ => rfl) (I.kIn _ _ lk) oa hl fun h2 t2 kp ox => ?_)
  have un : Un X.fs [] H (upd H a (exo a C none)) hp h2 :=
    { keep := fun b o z n _ _ => kp b o (fun w => by rw [w, e] at n; cases n) z
      slot := fun b o z n _ _ => ⟨o.slots, kp b o (fun w => by rw [w, e] at n; cases n) z⟩
      free := fun b o z n _ => by rw [upd_ne (fun w => by rw [w, e] at n; cases n)] <;> exact n
      there := fun b o z _ => (Classical.em (b = a)).elim (fun hb => ⟨_, (congrArg h2.get? hb).trans ox⟩) fun hb => ⟨o, kp b o hb z⟩
      tups := fun b xs z => by rw [upd_ne (at_ne e z exo_tup)] <;> exact z
      frzs := fun b o v z => by rw [upd_ne (at_ne e z exo_frz)] <;> exact z
      tbls := fun b ps z => ⟨#[], by rw [upd_ne (at_ne e z exo_tbl), z]; simp⟩ }
  have J := I.un (t' := tt) (H' := upd H a (exo a C none)) un fun b o z => by
    by_cases hb : b = a
    · subst hb
      rw [upd_same] at z
      cases z
      exact exo_ok ox
    · rw [upd_ne hb] at z
      refine (I.hok b o z).stay (fun c v hc zz => kp c v ?_ zz) (fun c hc => ?_) (fun c xs hc => ?_)
      · rcases hc with rfl | hc
        · exact hb
        · exact at_ne e hc exo_own
      · rw [upd_ne (at_ne e hc exo_own)] <;> exact hc
      · rw [upd_ne (at_ne e hc exo_tup)] <;> exact hc
  rw [show upd H a (exo a C none) = H from by
    funext b
    by_cases hb : b = a
    · rw [hb, upd_same, e]
    · rw [upd_ne hb]] at J
  exact q _ J
end
/-- the facts of a class with its field -/
structure XF (K : PySem.W.Frag) (mg : Str → Option Value) (B newId initId : String) (tail : List Value) (C f : Str) : Prop where
  g : mg C = some (.ref (He.ga K C))
  c : XCls K (He.ga K C) tail newId
  xa : PySem.W.findIn K (.ref (He.ga K C)) "__getattribute__" = some (some (.builtin "BaseException.__getattribute__"))
  xg : PySem.W.findIn K (.ref (He.ga K C)) "__getattr__" = some none
  no : PySem.W.findIn K (.ref (He.ga K C)) f = some none
  i : PySem.W.findIn K (.ref (He.ga K C)) "__init__" = some (some (.ref (He.ma K (He.ga K C) "__init__")))
  fn : PySem.W.typeIn K (.ref (He.ma K (He.ga K C) "__init__")) = some (.type "function")
  hd : PySem.W.hasDictIn K (He.ga K C) = true
  m : PySem.W.exmOne K (.ref (He.ga K C)) (.ref (He.ga K C)) = some true
  b : PySem.W.findCls K (.type B) (.type "type") "__init__" = some (.val (.builtin initId))
def valB (a : Option PySem.W.CFound) (z : String) : Bool := match a with
  | some (.val (.builtin y)) => y == z
  | _ => false
theorem valB_ok {a : Option PySem.W.CFound} {z : String} (h : valB a z = true) : a = some (.val (.builtin z)) := by
  unfold valB at h
  split at h
  · rw [beq_iff_eq.mp h]
  · cases h
def xfB (K : PySem.W.Frag) (B newId initId : String) (tail : List Value) (C f : Str) : Bool :=
  xclsB K (He.ga K C) tail newId && (eqV2 (PySem.W.findIn K (.ref (He.ga K C)) "__setattr__") (some (some (.builtin "object.__setattr__"))) && (decide (PySem.W.subIn K (.ref (He.ga K C)) (.type "BaseException") = some true) && (decide (PySem.W.typeIn K (.ref (He.ga K C)) = some (.type "type")) && (PySem.W.keepIn K (.ref (He.ga K C)) &&
  (eqV2 (PySem.W.findIn K (.ref (He.ga K C)) "__getattribute__") (some (some (.builtin "BaseException.__getattribute__"))) && (eqV2 (PySem.W.findIn K (.ref (He.ga K C)) "__getattr__") (some none) && (eqV2 (PySem.W.findIn K (.ref (He.ga K C)) f) (some none) &&
  (eqV2 (PySem.W.findIn K (.ref (He.ga K C)) "__init__") (some (some (.ref (He.ma K (He.ga K C) "__init__")))) && (decide (PySem.W.typeIn K (.ref (He.ma K (He.ga K C) "__init__")) = some (.type "function")) && (PySem.W.hasDictIn K (He.ga K C) &&
  (decide (PySem.W.exmOne K (.ref (He.ga K C)) (.ref (He.ga K C)) = some true) && valB (PySem.W.findCls K (.type B) (.type "type") "__init__") initId)))))))))))
theorem xfB_ok2 {K : PySem.W.Frag} {mg : Str → Option Value} {B newId initId : String} {tail : List Value} {C f : Str} (g : mg C = some (.ref (He.ga K C))) (h : xfB K B newId initId tail C f = true) : XF K mg B newId initId tail C f := by
  unfold xfB at h
  simp only [Bool.and_eq_true, eqV2, decide_eq_true_eq] at h
  obtain ⟨h1, h2, h3, h4, h5, h6, h7, h8, h9, h10, h11, h12, h13⟩ := h
  exact ⟨g, ⟨xclsB_ok h1, h2, h3, h4, h5⟩, h6, h7, h8, h9, h10, h11, h12, valB_ok h13⟩
/-! ### the steps -/
section
variable {X : Cx} {B newId initId : String} {tail : List Value} {C f x : Str} {ta to te : TE} {t tk : TA} {e o : Expr} {es : List Expr} {kws : List Keyword} {p p1 p2 pos : Pos} {k j n : Nat} {ps ks : List Str} {sp : Sp} {dvs : List V} {W : WX} {tp : List (Nat × Nat)}
/-- B.__init__(self, ..) -/
def tXi (K : PySem.W.Frag) (tail : List Value) (newId : String) (t : TA) : TE := fun σ H Q => t σ H fun vs H1 => ∃ (a C : Addr) (ws : List V), vs = .ref a :: ws ∧ ws.length ≤ 1000 ∧ XCls K C tail newId ∧ H1 a = some (exo a C none) ∧ Q .non H1
theorem pe_xi {nB : Str} {pl : Sem Bool} (XB : XBase B newId initId tail) (hg : Gl X nB) (hm : X.mg nB = none) (boot : bootBuiltins nB = some (.type B)) (ty : typeOf (.type B) = pure (.type "type")) (st : Manifest.isStub B = false)
    (b : PySem.W.findCls X.K (.type B) (.type "type") "__init__" = some (.val (.builtin initId))) (hd : PySem.W.handedIn (.builtin initId) = true) (ha : PA X (e :: es) t) (n1 : nB ≠ "__name__" := by decide) (n2 : (nB == ("__debug__" : Str)) = false := by decide)
    (hc : eval (.Call (.Attribute (.Name nB p1) "__init__" p2) (e :: es) [] pos) X.env = (eval (.Name nB p1) X.env >>= fun ov => standAt p2.atName >>= fun _ => holding [ov] (getMethod ov "__init__" pl) >>= fun q =>
      callWith pos q.1 q.2 (backTo pos (starEach (e :: es) X.env)) (backToKw pos (keywordEach [] X.env))) := by rfl)
    (he : starEach (e :: es) X.env = (false, eval e X.env) :: starEach es X.env := by rfl) (hpl : (backTo pos (starEach es X.env)).any (·.1) = false := by rfl) :
    PE X (.Call (.Attribute (.Name nB p1) "__init__" p2) (e :: es) [] pos) (tXi X.K tail newId t) := by
  refine ⟨fun pins s σ H Q I h => ?_⟩
  refine PySem.W.methodCall_KW (ld_blt I hg hm boot ?_ n1 n2) hc
  obtain ⟨m, fr⟩ := I.fr
  refine PySem.W.method_type fr I.ok.mod.kin ty st b hd ?_
  show wpAny _ _ (callWith pos (Value.builtin initId) [] (backTo pos (starEach (e :: es) X.env)) []) _ _ _
  refine PyProof.Rows.callWith_method1 (thn (ha.run pos pins _ σ H _ (I.tok _) h) fun us s1 ⟨vs, H1, I1, r1, a, C, ws, ev, hl, T, ea, q⟩ => ?_) he hpl
  subst ev
  cases r1 with
  | cons ra rr =>
    rename_i u0 ur
    cases ra
    exact xf_base XB T I1 ea (by rw [← Paired.length rr, sizeLine_eq]; omega) fun s2 J => ⟨.non, H1, J, rfl, q⟩
/-- self.f = e in an own __init__ of an exception -/
def tXo (K : PySem.W.Frag) (tail : List Value) (newId : String) (f : Str) (to te : TE) : TS := fun D σ H => te σ H fun y H1 => to σ H1 fun x H2 => ∃ a C : Addr, x = .ref a ∧ XCls K C tail newId ∧ PySem.W.findIn K (.ref C) f = some none ∧ H2 a = some (exo a C none) ∧
  ∀ dx, H2 dx = none → dx ≠ a → D.nx σ (upd (upd H2 dx (exd dx [(f, y)])) a (exo a C (some dx)))
theorem ps_xo (XB : XBase B newId initId tail) (ho : PE X o to) (he : PE X e te) (hs : swapsWith e (some (.Attribute o f p)) pos.line X.env = pure false := by rfl) : PS X (.Assign [.Attribute o f p] e pos) (tXo X.K tail newId f to te) := by
  refine ⟨fun pins s σ H D I h => ?_⟩
  refine plainObj_wpAny_Assign_Attribute (thn (he.run pins s σ H _ I h) fun v s1 ⟨y, H1, I1, r1, q1⟩ => thn (ho.run pins s1 σ H1 _ I1 q1) fun u s2 ⟨x, H2, I2, r2, a, C, ex, T, hno, ea, q⟩ => ?_) hs
  subst ex
  cases r2
  exact xf_store XB T I2 ea hno r1 fun dx s3 n ne J => ⟨σ, _, J, q dx n ne⟩
/-- what such an __init__ keeps -/
def φxinit (K : PySem.W.Frag) (C f : Str) : V → V → Hp → VK → Prop := fun x y H Q => ∃ a : Addr, x = .ref a ∧ H a = some (exo a (He.ga K C) none) ∧ ∀ dx, H dx = none → dx ≠ a → Q .non (upd (upd H dx (exd dx [(f, y)])) a (exo a (He.ga K C) (some dx)))
structure DXI (P : Program) (w : World) (K : PySem.W.Frag) (mg : Str → Option Value) (base : Heap) (k : Nat) (C f : Str) (ps : List Str) : Prop where
  ex : ∃ fd : FuncData, FnOk P w K mg base CX0 k (He.ma K (He.ga K C) "__init__") fd ps (S2 (φxinit K C f)) ∧ Binds K fd ps []
/-- C(e) made to be raised -/
def tMkF (C : Addr) (f : Str) (t : TA) : L2.St → Hp → XK → Prop := fun σ H Q => t σ H fun vs H1 => ∃ y, vs = [y] ∧ ∀ d, H1 d = none → Q (.ref C) (some d) (upd H1 d (.xd [(f, y)]))
theorem pmk_f (XB : XBase B newId initId tail) (T : XF X.K X.mg B newId initId tail C f) (D : DXI X.prog X.w X.K X.mg X.base k C f ps) (hr : Room j X.A) (ha : PA X [e] t) (hj : k + 1 ≤ j := by first | decide | omega) (hg : Gl X C := by rfl) (hdb : (C == ("__debug__" : Str)) = false := by decide)
    (he : starEach (e :: []) X.env = (false, eval e X.env) :: starEach [] X.env := by rfl) (hpl : (backTo pos (starEach [] X.env)).any (·.1) = false := by rfl) : PMk X (.Call (.Name C p) [e] [] pos) (tMkF (He.ga X.K C) f t) := by
  obtain ⟨fd, F1, hb⟩ := D.ex
  intro pins s σ H Q I h
  obtain ⟨c1, c2, c3, c4, c5, c6, c7, c8, c9, d0, d1, d2, d3, d5, lk⟩ := T.c.cls
  refine wpAny_Call_Name_kw (ld_glob I hg T.g ?_ hdb)
  refine PySem.W.callWith_K (h₀ := X.base) I.ok.mod.kin T.c.k (thn (ha.run pos pins s σ H _ I h) fun us s1 ⟨vs, H1, I1, r1, y, ev, q1⟩ => ⟨I1.kIn, ?_⟩) he hpl
  subst ev
  obtain ⟨u, eu, ru⟩ := vals1 r1
  subst eu
  show wpAny _ _ (call (.ref (He.ga X.K C)) [u]) _ _ _
  obtain ⟨hp, gg, dr, tk, oo⟩ := s1
  have big : hp.objs.size ≤ hp.objs.size + 1 := Nat.le_succ _
  have na : H1 (hp.objs.size + 1) = none := I1.hok.fresh big
  have kp : ∀ b o, hp.get? b = some o → ((hp.push (PySem.W.kdv_tup [u])).push (PySem.HandSPX.excO (He.ga X.K C) hp.objs.size)).get? b = some o := fun b o z => Heap.get?_push_of_some _ (Heap.get?_push_of_some _ z)
  have at_ : ((hp.push (PySem.W.kdv_tup [u])).push (PySem.HandSPX.excO (He.ga X.K C) hp.objs.size)).get? (hp.objs.size + 1) = some (PySem.HandSPX.excO (He.ga X.K C) hp.objs.size) := by heap_get
  have J := I1.laid (t' := tk) (a := hp.objs.size + 1) (o := exo (hp.objs.size + 1) (He.ga X.K C) none) (h' := (hp.push (PySem.W.kdv_tup [u])).push (PySem.HandSPX.excO (He.ga X.K C) hp.objs.size)) kp big (exo_ok at_)
  let Q2 : VK := fun v H2 => v = .non ∧ ∃ d : Addr, H2 (hp.objs.size + 1) = some (exo (hp.objs.size + 1) (He.ga X.K C) (some d)) ∧ H2 d = some (exd d [(f, y)]) ∧ H1 d = none ∧ Q (.ref (He.ga X.K C)) (some d) (upd (del H2 (hp.objs.size + 1)) d (.xd [(f, y)]))
  have hsp : S2 (φxinit X.K C f) [V.ref (hp.objs.size + 1), y] (upd H1 (hp.objs.size + 1) (exo (hp.objs.size + 1) (He.ga X.K C) none)) Q2 (fun _ _ _ => False) := by
    refine ⟨hp.objs.size + 1, rfl, upd_same, fun dx n ne => ⟨rfl, dx, upd_same, by rw [upd_ne ne, upd_same], ?_, ?_⟩⟩
    · rw [upd_ne ne] at n
      exact n
    · rw [upd_ne ne] at n
      have q9 := q1 dx n
      refine cast ?_ q9
      congr 1
      funext b
      by_cases hbd : b = dx
      · rw [hbd, upd_same, upd_same]
      · rw [upd_ne hbd, upd_ne hbd]
        by_cases hba : b = hp.objs.size + 1
        · rw [hba, del_same, na]
        · rw [del_ne hba, upd_ne hba, upd_ne hbd, upd_ne hba]
  have hl : [Value.ref (hp.objs.size + 1), u].length = ps.length := (F1.len _ _ _ _ hsp)
  have hbd := hb _ [Value.ref (hp.objs.size + 1), u] J.kIn (by simpa using hl)
  rw [List.append_nil] at hbd
  refine wpAny_call (PySem.HandSPX.call_own XB.f (fun _ => rfl) (I1.kIn _ _ lk) (PySem.W.looks_findIn I1.kIn T.i) (fun self => PySem.W.bind_fn I1.kIn self T.fn) (by rw [sizeLine_eq]; exact (by decide : 1 ≤ 16777216))
    (codeAny_mono (F1.run _ X.stack _ _ ⟨[Value.ref (hp.objs.size + 1), u], []⟩ [Value.ref (hp.objs.size + 1), u] [V.ref (hp.objs.size + 1), y] _ (fun _ _ _ => False) ((hr.mono hj).make (He.ga X.K C) [u] []) (J.env0.make (He.ga X.K C) [u] []) hbd (.cons rfl (.cons ru .nil)) hsp) fun r s2 hq => ?_))
  cases r with
  | error er => exact pass0 pins σ _ _ er s2 J hq
  | ok fl =>
    cases fl with
    | ret v9 =>
      obtain ⟨v, H2, os2, bare2, un2, hok2, rv, ev, d, ea, ed, hd1, q2⟩ := hq
      subst ev
      obtain ⟨h2, g2, r2, t2, o2⟩ := s2
      exact ⟨rv, mk_end (raises_own T.c.s T.c.t) I1 big kp un2 hok2 os2 bare2 ea ed hd1 q2⟩
    | next => exact False.elim hq
    | brk => exact False.elim hq
    | cont => exact False.elim hq
/-- raise C(e) -/
def tRaiseF (C : Addr) (f : Str) (W : WX) (t : TA) : TS := fun _ σ H => tMkF C f t σ H fun cls d H2 => W cls d σ H2
theorem ps_raiseF {pos2 : Pos} (XB : XBase B newId initId tail) (hc : X.calm = true) (T : XF X.K X.mg B newId initId tail C f) (D : DXI X.prog X.w X.K X.mg X.base k C f ps) (hr : Room j X.A) (tk : Takes X W) (ha : PA X [e] t) (hj : k + 1 ≤ j := by first | decide | omega) (hg : Gl X C := by rfl) (hdb : (C == ("__debug__" : Str)) = false := by decide)
    (he : starEach (e :: []) X.env = (false, eval e X.env) :: starEach [] X.env := by rfl) (hpl : (backTo pos (starEach [] X.env)).any (·.1) = false := by rfl) :
    PS X (.Raise (some (.Call (.Name C p) [e] [] pos)) none pos2) (tRaiseF (He.ga X.K C) f W t) := ps_raise hc tk (pmk_f XB T D hr ha hj hg hdb he hpl)
/-- e.f of the exception in hand -/
theorem pe_xff {a : Addr} {oe : Obj} {cls : Value} {d : Option Addr} {pn : List (Addr × Obj)} (T : XF X.K X.mg B newId initId tail C f) (hz : Zc cls d oe) (hf : ∃ vs, oe.data = .fields vs) (he : PE (X.suite a ((a, oe) :: pn)) e te)
    (hb : attributeBase e f X.env (eval e X.env) = eval e X.env := by rfl) : PE (X.suite a ((a, oe) :: pn)) (.Attribute e f pos) (tXf a cls d (He.ga X.K C) f te) :=
  pe_xf ⟨T.xa, T.xg, T.c.s, T.hd⟩ T.no hz hf he hb
/-! ### defs that may raise, called with defaults and keywords -/
structure DOXd (P : Program) (w : World) (K : PySem.W.Frag) (mg : Str → Option Value) (base : Heap) (k : Nat) (x : Str) (ps : List Str) (dvs : List V) (sp : Sp) : Prop where
  ex : ∃ (f : Addr) (fd : FuncData) (ds : List Value), FnOk P w K mg base (L2.CX P w) k f fd ps sp ∧ mg x = some (.ref f) ∧ PySem.W.keepIn K (.ref f) = true ∧ Binds K fd ps ds ∧ Vals dvs ds
def tCallD (sp : Sp) (dvs : List V) (E : L2.St → XK) (t : TA) : TE := fun σ H Q => t σ H fun vs H1 => sp (vs ++ dvs) H1 Q (E σ)
def tCallKD (n m : Nat) (sp : Sp) (g : List V → List V → List V) (E : L2.St → XK) (t tk : TA) : TE := fun σ H Q => t σ H fun vs H1 => tk σ H1 fun zs H2 => vs.length = n ∧ zs.length = m ∧ sp (g vs zs) H2 Q (E σ)
theorem run_out {pins : List (Addr × Obj)} {σ : L2.St} {H : Hp} {s : Shared} {Q : VK} {E : XK} {fa : Addr} {fd : FuncData} {ar : Args} {us : List Value} {vs : List V} (F : FnOk X.prog X.w X.K X.mg X.base (L2.CX X.prog X.w) k fa fd ps sp) (hr : Room k X.A)
    (hx : PassesAt (L2.CX X.prog X.w) X σ E) (I : Inv X pins σ H s) (b : BindsTo s fd ar (ps.zip us)) (r : Vals vs us) (h : sp vs H Q E) : wpAny (model X.prog X.w) X.A (call (.ref fa) ar.pos ar.kw) (EP X pins σ Q) X.xe s := by
  refine wpAny_call (codeAny_mono (F.run X.A X.stack s H ar us vs Q E hr I.env0 b r h) fun r s2 hq => ?_)
  cases r with
  | error er => exact hx pins H s er s2 I hq
  | ok fl =>
    cases fl with
    | ret u => exact I.after hq
    | next => exact False.elim hq
    | brk => exact False.elim hq
    | cont => exact False.elim hq
theorem pcallXd (D : DOXd X.prog X.w X.K X.mg X.base k x ps dvs sp) (hr : Room j X.A) (tk : Takes X W) (ha : PA X (e :: es) t) (hj : k ≤ j := by first | decide | exact Nat.le_refl _ | omega) (hg : Gl X x := by rfl) (hdb : (x == ("__debug__" : Str)) = false := by decide)
    (he : starEach (e :: es) X.env = (false, eval e X.env) :: starEach es X.env := by rfl) (hpl : (backTo pos (starEach es X.env)).any (·.1) = false := by rfl) :
    PE X (.Call (.Name x p) (e :: es) [] pos) (tCallD sp dvs (WE W) t) := by
  obtain ⟨fa, fd, ds, F, hm, hk, hb, hd⟩ := D.ex
  refine ⟨fun pins s σ H Q I h => ?_⟩
  refine wpAny_Call_Name_kw (ld_glob I hg hm ?_ hdb)
  refine PySem.W.callWith_K (h₀ := X.base) I.ok.mod.kin hk (thn (ha.run pos pins s σ H _ I h) fun us s1 ⟨vs, H1, I1, r, q⟩ => ⟨I1.kIn, ?_⟩) he hpl
  have r2 := r.append hd
  exact run_out (ar := ⟨us, []⟩) F (hr.mono hj) (passAt tk σ) I1 (hb s1 us I1.kIn (by rw [← r2.length]; exact F.len _ _ _ _ q)) r2 q
/-! ### try: .. except C as n: .. -/
def wTryA (K : PySem.W.Frag) (C : Addr) (i : Nat) (ts : Addr → Value → Option Addr → TS) (D : Ends) : WX := wAs K (.ref C) i ts (fun _ _ _ _ => False) D
def tTryA (K : PySem.W.Frag) (C : Addr) (i : Nat) (tb : WX → TS) (ts : Addr → Value → Option Addr → TS) : TS := fun D σ H => tb (wTryA K C i ts D) D σ H
end
section
variable {K : PySem.W.Frag} {mg : Str → Option Value} {σ : L2.St} {H : Hp} {Q : VK} {C f : Str} {D : Ends} {W : WX} {tb : WX → TS} {ts : Addr → Value → Option Addr → TS} {sp : Sp} {dvs : List V} {t tk : TA} {n m i : Nat} {Cc : Addr} {EE : L2.St → XK} {te : TE} {g : List V → List V → List V}
theorem x_tryA (q : tb (wTryA K Cc i ts D) D σ H) : tTryA K Cc i tb ts D σ H := q
instance : Step (tTryA K Cc i tb ts D σ H) (tb (wTryA K Cc i ts D) D σ H) := ⟨x_tryA⟩ -- st
theorem x_callD (q : t σ H fun vs H1 => sp (vs ++ dvs) H1 Q (EE σ)) : tCallD sp dvs EE t σ H Q := q
instance : Step (tCallD sp dvs EE t σ H Q) (t σ H fun vs H1 => sp (vs ++ dvs) H1 Q (EE σ)) := ⟨x_callD⟩ -- st
theorem x_callKD (q : t σ H fun vs H1 => tk σ H1 fun zs H2 => vs.length = n ∧ zs.length = m ∧ sp (g vs zs) H2 Q (EE σ)) : tCallKD n m sp g EE t tk σ H Q := q
instance : Step (tCallKD n m sp g EE t tk σ H Q) (t σ H fun vs H1 => tk σ H1 fun zs H2 => vs.length = n ∧ zs.length = m ∧ sp (g vs zs) H2 Q (EE σ)) := ⟨x_callKD⟩ -- st
def gXi (K : PySem.W.Frag) (tail : List Value) (newId : String) (vs : List V) (H1 : Hp) (Q : VK) : Prop := ∃ (a C : Addr) (ws : List V), vs = .ref a :: ws ∧ ws.length ≤ 1000 ∧ XCls K C tail newId ∧ H1 a = some (exo a C none) ∧ Q .non H1
theorem x_xi {tail : List Value} {newId : String} (q : t σ H fun vs H1 => gXi K tail newId vs H1 Q) : tXi K tail newId t σ H Q := q
instance {tail : List Value} {newId : String} : Step (tXi K tail newId t σ H Q) (t σ H fun vs H1 => gXi K tail newId vs H1 Q) := ⟨x_xi⟩ -- st
def gXo (K : PySem.W.Frag) (tail : List Value) (newId : String) (f : Str) (D : Ends) (σ : L2.St) (y x : V) (H2 : Hp) : Prop := ∃ a C : Addr, x = .ref a ∧ XCls K C tail newId ∧ PySem.W.findIn K (.ref C) f = some none ∧ H2 a = some (exo a C none) ∧
  ∀ dx, H2 dx = none → dx ≠ a → D.nx σ (upd (upd H2 dx (exd dx [(f, y)])) a (exo a C (some dx)))
theorem x_xo {tail : List Value} {newId : String} {to : TE} (q : te σ H fun y H1 => to σ H1 fun x H2 => gXo K tail newId f D σ y x H2) : tXo K tail newId f to te D σ H := q
instance {tail : List Value} {newId : String} {to : TE} : Step (tXo K tail newId f to te D σ H) (te σ H fun y H1 => to σ H1 fun x H2 => gXo K tail newId f D σ y x H2) := ⟨x_xo⟩ -- st
def gRF (C : Addr) (f : Str) (W : WX) (σ : L2.St) (vs : List V) (H1 : Hp) : Prop := ∃ y, vs = [y] ∧ ∀ d, H1 d = none → W (.ref C) (some d) σ (upd H1 d (.xd [(f, y)]))
theorem x_rf (q : t σ H fun vs H1 => gRF Cc f W σ vs H1) : tRaiseF Cc f W t D σ H := q
instance : Step (tRaiseF Cc f W t D σ H) (t σ H fun vs H1 => gRF Cc f W σ vs H1) := ⟨x_rf⟩ -- st
def gXf (a : Addr) (cls : Value) (d : Option Addr) (C : Addr) (f : Str) (x : V) (H : Hp) (Q : VK) : Prop := x = .ref a ∧ cls = .ref C ∧ ∃ (dd : Addr) (fs : List (Str × V)) (v : V), d = some dd ∧ H dd = some (.xd fs) ∧ fs.lookup f = some v ∧ Q v H
theorem x_xf {a : Addr} {cls : Value} {d : Option Addr} (q : te σ H fun x H1 => gXf a cls d Cc f x H1 Q) : tXf a cls d Cc f te σ H Q := q
instance {a : Addr} {cls : Value} {d : Option Addr} : Step (tXf a cls d Cc f te σ H Q) (te σ H fun x H1 => gXf a cls d Cc f x H1 Q) := ⟨x_xf⟩ -- st
theorem n_xf {a dd : Addr} {fs : List (Str × V)} {v : V} (h : H dd = some (.xd fs)) (l : fs.lookup f = some v) (q : Q v H) : gXf a (.ref Cc) (some dd) Cc f (.ref a) H Q := ⟨rfl, rfl, dd, fs, v, rfl, h, l, q⟩
end
end
end R
/-! ### exceptions that are kept behind their suite -/
namespace R
open PySem PySem.Spec PyProof.Rows L2
/-- at a: an exception of the class cls, its dict at d -/
def exk (a : Addr) (cls : Value) (d : Option Addr) : HO := .ext fun h => ∃ (oe : Obj) (vs : Array Value), h.get? a = some oe ∧ Zc cls d oe ∧ oe.data = .fields vs
theorem exk_ok {P : Program} {w : World} {H : Hp} {h : Heap} {a : Addr} {cls : Value} {d : Option Addr} {oe : Obj} {vs : Array Value} (e : h.get? a = some oe) (z : Zc cls d oe) (f : oe.data = .fields vs) : ObjOk P w H h a (exk a cls d) :=
  ⟨⟨oe, vs, e, z, f⟩, ⟨oe, e⟩, fun h1 h2 x k => by
    obtain ⟨o2, v2, e2, r2⟩ := x
    exact ⟨o2, v2, k _ e2, r2⟩⟩
theorem exk_at {P : Program} {w : World} {H : Hp} {h : Heap} {a : Addr} {cls : Value} {d : Option Addr} (hok : HOk P w H h) (e : H a = some (exk a cls d)) : ∃ (oe : Obj) (vs : Array Value), h.get? a = some oe ∧ Zc cls d oe ∧ oe.data = .fields vs := by
  have x : ObjOk P w H h a (.ext fun h => ∃ (oe : Obj) (vs : Array Value), h.get? a = some oe ∧ Zc cls d oe ∧ oe.data = .fields vs) := hok a _ e
  exact x.1
section
variable {X : Cx} {pins : List (Addr × Obj)} {σ : L2.St} {H : Hp} {s : Shared} {a : Addr} {o : HO}
/-- an object that stands already is tracked from now on -/
theorem trk (I : Inv X pins σ H s) (na : H a = none) (nb : X.s_0.heap.get? a = none) (nL : a ≠ X.env.locals) (nC : ∀ x c, X.env.cells.lookup x = some c → c ≠ a) (nP : ∀ p ∈ X.pn ++ pins, p.1 ≠ a) (ok : ObjOk X.prog X.w (upd H a o) s.heap a o) :
    Inv X pins σ (upd H a o) s := by
  have far : ∀ {b : Addr} {u : HO}, H b = some u → b ≠ a := fun {b u} e z => by
    rw [z, na] at e
    cases e
  refine ⟨I.ok, I.os, I.bare, ⟨I.base.keep, I.base.slot, fun b ob e n hx => ?_, I.base.there, fun b xs e => ?_, fun b ob u e => ?_, fun b ps e => ?_⟩, I.loc, I.cell, ?_, fun x c e => ?_, fun p hp => ?_, fun b ob e => ?_, I.len⟩
  · rw [upd_ne (fun z => by rw [z, nb] at e; cases e)]
    exact I.base.free b ob e n hx
  · have q := I.base.tups b xs e
    rw [upd_ne (far q)]
    exact q
  · have q := I.base.frzs b ob u e
    rw [upd_ne (far q)]
    exact q
  · obtain ⟨more, q⟩ := I.base.tbls b ps e
    exact ⟨more, by rw [upd_ne (far q)]; exact q⟩
  · rw [upd_ne nL.symm]
    exact I.free
  · rw [upd_ne (nC x c e)]
    exact I.freeC x c e
  · obtain ⟨p1, p2, p3⟩ := I.pin p hp
    exact ⟨p1, by rw [upd_ne (nP p hp)]; exact p2, p3⟩
  · by_cases hb : b = a
    · subst hb
      rw [upd_same] at e
      cases e
      exact ok
    · rw [upd_ne hb] at e
      exact (I.hok b ob e).stay (fun _ _ _ r => r) (fun c q => by rw [upd_ne (far q)]; exact q) fun c xs q => by rw [upd_ne (far q)]; exact q
/-- what a clause's test asks -/
def TstOk (X : Cx) (t : Expr) (m : Value → Option Bool) : Prop := ∀ (a : Addr) (pn : List (Addr × Obj)) (σ : L2.St) (H : Hp) (s : Shared) (cls : Value) (b : Bool) (Q : Bool → Shared → Prop) (E : Value → Shared → Prop), Inv (X.suite a pn) [] σ H s →
  PySem.W.Looks (model X.prog X.w) s.heap (typeOf (.ref a)) cls → m cls = some b → (∀ h2, (∀ q o, s.heap.get? q = some o → h2.get? q = some o) → Q b { s with heap := h2 }) →
  wpAny (model X.prog X.w) (X.A.mark (some (.ref a))) (eval t X.env) (fun c s1 => wpAny (model X.prog X.w) (X.A.mark (some (.ref a))) (excMatches (.ref a) c) Q E s1) E s
theorem tst_one {x : Str} {c : Value} {np : Pos} (hc : Names X x c) : TstOk X (.Name x np) (fun cls => PySem.W.exmOne X.K cls c) := by
  intro a pn σ H s cls b Q E I LT hm q
  have z : wpAny (model X.prog X.w) (X.A.mark (some (.ref a))) (excMatches (.ref a) c) Q E s := (PySem.W.exm_one I.kIn LT hm).here (q s.heap fun _ _ z => z)
  obtain ⟨hg, hd, e | ⟨e, v, n⟩⟩ := hc
  · exact ld_glob I hg e z hd
  · exact ld_blt I hg e v z n hd
/-! ### the clauses -/
structure Cl where
  m : Value → Option Bool
  i : Option Nat
  ts : Addr → Value → Option Addr → TS
def setK (i : Option Nat) (a : Addr) (σ : L2.St) : L2.St := match i with
  | some i => σ.set i (some (.ref a))
  | none => σ
def unK (i : Option Nat) (σ : L2.St) : L2.St := match i with
  | some i => σ.set i none
  | none => σ
/-- the ends of a suite that keeps its exception -/
def endK (i : Option Nat) (a : Addr) (cls : Value) (d : Option Addr) (D : Ends) : Ends where
  nx := fun σ2 H2 => H2 a = none → D.nx (unK i σ2) (upd H2 a (exk a cls d))
  rt := D.rt
  bk := fun σ2 H2 => D.bk (unK i σ2) H2
  ct := fun σ2 H2 => D.ct (unK i σ2) H2
def wK (Wout : WX) (D : Ends) : List Cl → WX
  | [] => Wout
  | c :: r => fun cls d σ H => ∃ b, c.m cls = some b ∧ (b = true → ∀ a, H a = none → c.ts a cls d (endK c.i a cls d D) (setK c.i a σ) H) ∧ (b = false → wK Wout D r cls d σ H)
inductive HdK (X : Cx) : List ExceptHandler → List Cl → Prop
  | nil : HdK X [] []
  | plain {t : Expr} {m : Value → Option Bool} {ts : Addr → Value → Option Addr → TS} {b₀ : Stmt} {suite : List Stmt} {p2 : Pos} {hds : List ExceptHandler} {l : List Cl} (ht : TstOk X t m)
      (hsu : ∀ (a : Addr) (oe : Obj) (cls : Value) (d : Option Addr) (pn : List (Addr × Obj)), Zc cls d oe → (∃ vs, oe.data = .fields vs) → PSs (X.suite a ((a, oe) :: pn)) (b₀ :: suite) (ts a cls d)) (r : HdK X hds l) :
      HdK X (.ExceptHandler (some t) none (b₀ :: suite) p2 :: hds) (⟨m, none, ts⟩ :: l)
  | named {t : Expr} {m : Value → Option Bool} {ts : Addr → Value → Option Addr → TS} {b₀ : Stmt} {suite : List Stmt} {p2 : Pos} {hds : List ExceptHandler} {l : List Cl} {n : Str} {i : Nat} (ht : TstOk X t m) (hi : X.N[i]? = some n) (hl : X.env.kindOf n = some .local)
      (hsu : ∀ (a : Addr) (oe : Obj) (cls : Value) (d : Option Addr) (pn : List (Addr × Obj)), Zc cls d oe → (∃ vs, oe.data = .fields vs) → PSs (X.suite a ((a, oe) :: pn)) (b₀ :: suite) (ts a cls d)) (r : HdK X hds l) :
      HdK X (.ExceptHandler (some t) (some n) (b₀ :: suite) p2 :: hds) (⟨m, some i, ts⟩ :: l)
theorem nocell {h : Heap} {a : Addr} {oe : Obj} {vs : Array Value} {v : Option Value} (e : h.get? a = some oe) (f : oe.data = .fields vs) (c : h.IsCell a v) : False := by
  obtain ⟨oc, ec, dc⟩ := c
  rw [e] at ec
  cases ec
  rw [f] at dc
  cases dc
theorem flies_on {B : Heap} {l : List Env} {a : Addr} {Z : Obj → Prop} {h h2 : Heap} (k : ∀ b o, h.get? b = some o → h2.get? b = some o) (f : HandSPX.FlyingZ B l a Z h) : HandSPX.FlyingZ B l a Z h2 := by
  obtain ⟨f1, f2, f3, oe, vs, T, oT, ts, g1, g2, g3, g4, g5, g6, g7, g8, g9⟩ := f
  exact ⟨fun b o e => k b o (f1 b o e), f2, Heap.FunFrames.of_keeps (fun b o e _ => ⟨o, k b o e, rfl⟩) f3, oe, vs, T, oT, ts, k _ _ g1, g2, g3, g4, g5, g6, k _ _ g7, g8, g9⟩
theorem ups_of {h h2 : Heap} (k : ∀ b o, h.get? b = some o → h2.get? b = some o) : h.UpToSlots h2 := Heap.UpToSlots.of_keeps k
end
section
variable {X : Cx} {body : List Stmt} {h₀ : ExceptHandler} {hds : List ExceptHandler} {cs : List Cl} {pos : Pos} {tb : WX → TS} {Wout : WX}
/-- what follows a catch: through the clauses -/
theorem go_cl (hs : X.stack = X.env :: X.outer) (hf : X.env.frame = some X.env.locals) (hN : X.N.Nodup) (hex : X.ex = []) (tk : Takes X Wout) {pins : List (Addr × Obj)} {D : Ends} {a : Addr} {B : Heap} {sI : Shared} {σ : L2.St} {H : Hp} {cls : Value} {d : Option Addr}
    (J : Inv X pins σ H sI) (nb : ∀ b o, sI.heap.get? b = some o → b ∉ frs X.stack → B.get? b = some o) (na : H a = none) :
    ∀ {hds : List ExceptHandler} {cs : List Cl}, HdK X hds cs → ∀ {s3 : Shared}, sI.heap.UpToSlots s3.heap → HandSPX.FlyingZ B (X.env :: X.outer) a (Zc cls d) s3.heap → s3.os = sI.os → AllBare s3.gens → wK Wout D cs cls d σ H →
      wpAny (model X.prog X.w) X.A (handleBy (.ref a) X.env hds) (SP X pins D) X.xe s3 := by
  have ok := J.ok
  intro hds cs hk
  induction hk with
  | nil =>
    intro s3 up fl os ag wish
    obtain ⟨hp, gg, dr, tt, oo⟩ := s3
    refine wpAny_handleBy_nil ?_
    obtain ⟨_, _, _, oe, vs, T, oT, ts2, he, _, hd, h1, _⟩ := id fl
    unfold PySem.passOn
    refine wpAny_bind (wpAny_field he hd h1 ?_)
    rw [if_neg (show ¬ ((Value.ref T == Value.none) = true) from by simp)]
    have fin : wpAny (model X.prog X.w) X.A (setFlight (.ref a) X.env.frame) (fun _ s4 => wpAny (model X.prog X.w) X.A (throw (.ref a) : Sem Flow) (SP X pins D) X.xe s4) X.xe ⟨hp, gg, dr, tt, oo⟩ := by
      rw [hf]
      refine HandSPX.setFlight_upZ fl fun h4 hh up4 => wpAny_throw (tk _ _ ?_)
      exact ⟨a, B, sI, pins, σ, H, cls, d, rfl, J, nb, up.trans up4, .inr (.inr (by rw [hs]; exact hh)), na, os, ag, wish⟩
    first
      | exact wpAny_bind (wpAny_pure (wpAny_bind fin))
      | exact wpAny_bind fin
  | plain ht hsu r ih =>
    intro s3 up fl os ag wish
    obtain ⟨b, hm, hyes, hno⟩ := wish
    obtain ⟨hp, gg, dr, tt, oo⟩ := s3
    have J3 := J.landed (s' := ⟨hp, gg, dr, tt, oo⟩) nb fl.1 up os ag
    obtain ⟨oe3, vs3, he3, hz3, hd3⟩ := fl.there
    have nfr : a ∉ frs (X.env :: X.outer) := fun hm2 => by
      obtain ⟨_, o2, e2, hnf⟩ := fl.2.2.1.mem hm2
      rw [he3] at e2
      cases e2
      exact hnf _ hd3
    have nL : a ≠ X.env.locals := fun z => nfr (List.mem_filterMap.mpr ⟨X.env, List.mem_cons_self, by rw [hf, z]⟩)
    have nF : a ∉ X.fs := fun hm2 => by
      obtain ⟨e2, he2, q2⟩ := List.mem_filterMap.mp hm2
      exact nfr (List.mem_filterMap.mpr ⟨e2, List.mem_cons_of_mem _ he2, q2⟩)
    have LT : PySem.W.Looks (model X.prog X.w) hp (typeOf (.ref a)) cls := fun A Q E s k q => wpAny_typeOf_ref (k _ _ he3) (by rw [hz3.1]; exact q)
    refine wpAny_handleBy_cons (codeAny_handlers_test ?_) (by intro q; cases q)
    refine ht a ((a, oe3) :: (X.pn ++ pins)) σ H ⟨hp, gg, dr, tt, oo⟩ cls b _ _ (J3.suite he3 hd3 na nL nF) LT hm fun h5 k5 => ?_
    have fl5 := flies_on k5 fl
    have up5 := up.trans (ups_of k5)
    cases b with
    | true =>
      refine codeAny_handlers_suite ?_
      refine HandSPX.lands_againZ fl5 fun h4 fl4 up4 => ?_
      have J4 := J.landed (s' := ⟨h4, gg, dr, tt, oo⟩) nb fl4.1 (up5.trans up4) os ag
      obtain ⟨oe4, vs4, he4, hz4, hd4⟩ := fl4.there
      have nb0 : X.s_0.heap.get? a = none := by
        cases q : X.s_0.heap.get? a with
        | none => rfl
        | some o0 =>
          obtain ⟨o5, e5⟩ := J.base.there a o0 q (by rw [hex]; exact fun hx => nomatch hx)
          have e6 := nb a o5 e5 (by rw [hs]; exact nfr)
          rw [fl.2.1] at e6
          cases e6
      have nP : ∀ p ∈ X.pn ++ pins, p.1 ≠ a := fun p hp2 e => by
        have e7 := (J.pin p hp2).1
        rw [e] at e7
        have e8 := nb a _ e7 (by rw [hs]; exact nfr)
        rw [fl.2.1] at e8
        cases e8
      refine wpAny_mono ((hsu a oe4 cls d (X.pn ++ pins) hz4 ⟨_, hd4⟩).run [] _ σ H (endK none a cls d D) (J4.suite he4 hd4 na nL nF) (hyes rfl a na)) (fun f s6 hsp => ?_) (fun _ _ z => False.elim z)
      cases f with
      | next =>
        obtain ⟨σ6, H6, S6, q6⟩ := hsp
        obtain ⟨p1, p2, p3, p4, p5⟩ := S6.pin (a, oe4) (List.mem_append_left _ List.mem_cons_self)
        have J6 := S6.unsuite ok
        exact ⟨σ6, _, trk J6 p2 nb0 nL (fun x c e z => by
          obtain ⟨v, q⟩ := J6.cell x c e
          rw [z] at q
          exact nocell p1 hd4 q) nP (exk_ok p1 hz4 hd4), q6 p2⟩
      | brk =>
        obtain ⟨σ6, H6, S6, q6⟩ := hsp
        exact ⟨σ6, H6, S6.unsuite ok, q6⟩
      | cont =>
        obtain ⟨σ6, H6, S6, q6⟩ := hsp
        exact ⟨σ6, H6, S6.unsuite ok, q6⟩
      | ret u =>
        obtain ⟨v6, σ6, H6, S6, r6, q6⟩ := hsp
        exact ⟨v6, σ6, H6, S6.unsuite ok, r6, q6⟩
    | false =>
      show wpAny _ X.A (handleBy (.ref a) X.env _) _ _ _
      exact ih (s3 := ⟨h5, gg, dr, tt, oo⟩) up5 fl5 os ag (hno rfl)
  | named ht hi hl hsu r ih =>
    intro s3 up fl os ag wish
    obtain ⟨b, hm, hyes, hno⟩ := wish
    obtain ⟨hp, gg, dr, tt, oo⟩ := s3
    have J3 := J.landed (s' := ⟨hp, gg, dr, tt, oo⟩) nb fl.1 up os ag
    obtain ⟨oe3, vs3, he3, hz3, hd3⟩ := fl.there
    have nfr : a ∉ frs (X.env :: X.outer) := fun hm2 => by
      obtain ⟨_, o2, e2, hnf⟩ := fl.2.2.1.mem hm2
      rw [he3] at e2
      cases e2
      exact hnf _ hd3
    have nL : a ≠ X.env.locals := fun z => nfr (List.mem_filterMap.mpr ⟨X.env, List.mem_cons_self, by rw [hf, z]⟩)
    have nF : a ∉ X.fs := fun hm2 => by
      obtain ⟨e2, he2, q2⟩ := List.mem_filterMap.mp hm2
      exact nfr (List.mem_filterMap.mpr ⟨e2, List.mem_cons_of_mem _ he2, q2⟩)
    have LT : PySem.W.Looks (model X.prog X.w) hp (typeOf (.ref a)) cls := fun A Q E s k q => wpAny_typeOf_ref (k _ _ he3) (by rw [hz3.1]; exact q)
    refine wpAny_handleBy_cons (codeAny_handlers_test ?_) (by intro q; cases q)
    refine ht a ((a, oe3) :: (X.pn ++ pins)) σ H ⟨hp, gg, dr, tt, oo⟩ cls b _ _ (J3.suite he3 hd3 na nL nF) LT hm fun h5 k5 => ?_
    have fl5 := flies_on k5 fl
    have up5 := up.trans (ups_of k5)
    cases b with
    | true =>
      refine codeAny_handlers_suite_as ?_
      refine HandSPX.lands_againZ fl5 fun h4 fl4 up4 => ?_
      have J4 := J.landed (s' := ⟨h4, gg, dr, tt, oo⟩) nb fl4.1 (up5.trans up4) os ag
      obtain ⟨oe4, vs4, he4, hz4, hd4⟩ := fl4.there
      have nb0 : X.s_0.heap.get? a = none := by
        cases q : X.s_0.heap.get? a with
        | none => rfl
        | some o0 =>
          obtain ⟨o5, e5⟩ := J.base.there a o0 q (by rw [hex]; exact fun hx => nomatch hx)
          have e6 := nb a o5 e5 (by rw [hs]; exact nfr)
          rw [fl.2.1] at e6
          cases e6
      have nP : ∀ p ∈ X.pn ++ pins, p.1 ≠ a := fun p hp2 e => by
        have e7 := (J.pin p hp2).1
        rw [e] at e7
        have e8 := nb a _ e7 (by rw [hs]; exact nfr)
        rw [fl.2.1] at e8
        cases e8
      have out : ∀ {pp : Pos} {s6 : Shared} {σ6 : L2.St} {H6 : Hp} {Q : Shared → Prop}, Inv X pins σ6 H6 s6 → (∀ s7, Inv X pins (σ6.set _ none) H6 s7 → Q s7) → wpAny (model X.prog X.w) X.A (do bindName X.env _ .none; unbindBehindTheSuite X.env _ pp) (fun _ s7 => Q s7) X.xe s6 := fun {pp s6 σ6 H6 Q} J6 q => gone_ok J6 hN hi hl q
      refine store_ok (X := X.suite a ((a, oe4) :: (X.pn ++ pins))) (v := .ref a) (J4.suite he4 hd4 na nL nF) hN hi (.inl hl) rfl (fun s5 S5 => ?_) (.inr hl)
      refine wpAny_mono ((hsu a oe4 cls d (X.pn ++ pins) hz4 ⟨_, hd4⟩).run [] s5 _ H (endK _ a cls d D) S5 (hyes rfl a na)) (fun f s6 hsp => ?_) (fun _ _ z => False.elim z)
      cases f with
      | next =>
        obtain ⟨σ6, H6, S6, q6⟩ := hsp
        obtain ⟨p1, p2, p3, p4, p5⟩ := S6.pin (a, oe4) (List.mem_append_left _ List.mem_cons_self)
        have J6 := S6.unsuite ok
        have J7 := trk J6 p2 nb0 nL (fun x c e z => by
          obtain ⟨v, q⟩ := J6.cell x c e
          rw [z] at q
          exact nocell p1 hd4 q) nP (exk_ok p1 hz4 hd4)
        exact out J7 fun s7 J8 => ⟨_, _, J8, q6 p2⟩
      | brk =>
        obtain ⟨σ6, H6, S6, q6⟩ := hsp
        exact out (S6.unsuite ok) fun s7 J7 => ⟨_, _, J7, q6⟩
      | cont =>
        obtain ⟨σ6, H6, S6, q6⟩ := hsp
        exact out (S6.unsuite ok) fun s7 J7 => ⟨_, _, J7, q6⟩
      | ret u =>
        obtain ⟨v6, σ6, H6, S6, r6, q6⟩ := hsp
        exact out (S6.unsuite ok) fun s7 J7 => ⟨_, _, _, J7, r6, q6⟩
    | false =>
      show wpAny _ X.A (handleBy (.ref a) X.env _) _ _ _
      exact ih (s3 := ⟨h5, gg, dr, tt, oo⟩) up5 fl5 os ag (hno rfl)
/-- try: body, except A as n: .., except (B, C ..): .. -/
theorem ps_tryK (hs : X.stack = X.env :: X.outer) (hf : X.env.frame = some X.env.locals) (hN : X.N.Nodup) (hex : X.ex = []) (tk : Takes X Wout)
    (hb : ∀ (W : WX) (pn : List (Addr × Obj)) (xe : Value → Shared → Prop), Takes (X.tr pn xe) W → PSs (X.tr pn xe) body (tb W)) (hh : HdK X (h₀ :: hds) cs) :
    PS X (.Try body (h₀ :: hds) [] [] pos) (fun D σ H => tb (wK Wout D cs) D σ H) := by
  refine ⟨fun pins s σ H D I h => ?_⟩
  have ok := I.ok
  have hfr : X.A.frames = some (X.env :: X.outer) := by
    rw [ok.frames, hs]
  refine wpAny_Try_except (wpAny_mono ((hb (wK Wout D cs) (X.pn ++ pins) _ (fun u s2 xx => ?_)).run [] s σ H D (I.toTry _) h) (fun f s1 hsp => ?_) (fun e s1 he => he))
  · obtain ⟨a, B, sI, pn2, σ2, H2, cls, d, rfl, J0, nb, up, sky, na, os, ag, wish⟩ := xx
    have J : Inv X pins σ2 H2 sI := J0.ofTry ok
    have sky2 : Sky B (X.env :: X.outer) a (Zc cls d) X.env.locals s2.heap := by
      rw [← hs]
      exact sky
    refine Sky.land Zc.steady hfr hf sky2 fun h3 fl3 up3 => ?_
    exact go_cl hs hf hN hex tk J nb na hh (s3 := { s2 with heap := h3 }) (up.trans up3) fl3 os ag wish
  · cases f with
    | next =>
      obtain ⟨σ2, H2, J, q⟩ := hsp
      exact wpAny_execs_nil ⟨σ2, H2, J.ofTry ok, q⟩
    | brk =>
      obtain ⟨σ2, H2, J, q⟩ := hsp
      exact ⟨σ2, H2, J.ofTry ok, q⟩
    | cont =>
      obtain ⟨σ2, H2, J, q⟩ := hsp
      exact ⟨σ2, H2, J.ofTry ok, q⟩
    | ret u =>
      obtain ⟨v2, σ2, H2, J, r, q⟩ := hsp
      exact ⟨v2, σ2, H2, J.ofTry ok, r, q⟩
end
/-! ### what is asked of them -/
section
open PySem.W PySem.Calls
variable {prog : Program} {w : World} {A : Around} {E : Value → Shared → Prop} {s : Shared} {K : Frag} {x D : Addr} {ox : Obj}
theorem find_cls {od : Option Obj} {n : Str} {v g : Value} (c : (clsIn K D).isSome = true) (e : findIn K (.ref D) n = some (some v)) (eg : specialIn K v "__get__" = some (some g)) (et : takesIn K v = some true) : findObj K D od n = some (.bind g v) := by
  obtain ⟨cd, c⟩ := Option.isSome_iff_exists.mp c
  unfold findObj
  rw [c, Option.bind_some, e, Option.bind_some]
  simp [eg, et]
/-- e.__class__ of an own exception, with a dict or without -/
theorem cls_exc {od : Option Obj} {Q : Option Value → Shared → Prop} (T : ExcC K D) (k : K.In s.heap) (I : InstAt s.heap x ox D od) (q : Q (some (.ref D)) { s with toks := s.toks + 1 }) : wpAny (model prog w) A (getAttr? (.ref x) "__class__") Q E s := by
  have hf : findObj K D od "__class__" = some (.bind (.builtin "getset_descriptor.__get__") (.builtin "object.__class__")) := find_cls (by obtain ⟨cd, c, _⟩ := any_some T.hd; rw [c] <;> rfl) T.ha T.hn T.ht
  obtain ⟨hp, gg, dr, tt, oo⟩ := s
  have l0 := I.type (M := model prog w)
  have l1 := looks_findIn (M := model prog w) k T.hg
  have l2 := looks_findIn (M := model prog w) k T.hk
  have l3 := looks_find (M := model prog w) k I hf
  have su : Looks (model prog w) hp (isInstance (.ref x) (.type "BaseException")) true := l0.andThen (looks_subIn k T.hs)
  have n1 : (onTheHeap (Value.ref D) && Value.builtin "BaseException.__getattribute__" == Value.builtin "object.__getattribute__") = false := by
    rw [show (Value.builtin "BaseException.__getattribute__" == Value.builtin "object.__getattribute__") = false by decide +kernel] <;> rfl
  unfold getAttr? getAttrBy? getAttrBy
  refine wpAny_bind (wpAny_mkText (wpAny_bind (wpAny_attempt (wpAny_holding (wpAny_bind (l0.at (wpAny_bind (l1.at ?_))))))))
  show wpAny _ _ (if (onTheHeap (Value.ref D) && Value.builtin "BaseException.__getattribute__" == Value.builtin "object.__getattribute__") = true then _ else _) _ _ _
  rw [n1, if_neg Bool.false_ne_true]
  unfold getAttrByItsOwn hookBefore
  refine wpAny_bind ?_
  rw [if_pos (show onTheHeap (Value.ref D) = true from rfl)]
  refine l2.at (wpAny_bind (wpAny_attempt (wpAny_holding ?_)))
  unfold callGetattribute
  rw [show (false && onTheHeap (Value.builtin "BaseException.__getattribute__")) = false from rfl, if_neg Bool.false_ne_true]
  unfold boundAndCalled
  rw [PySem.F.excAttr_ValueError.ga.bind (.ref x)]
  refine wpAny_bind (wpAny_pure ?_)
  show wpAny _ _ (call (.builtin "BaseException.__getattribute__") [.ref x, .str "__class__" tt]) _ _ _
  refine wpAny_call (codeAny_call_builtin PySem.F.excAttr_ValueError.ga.plain PySem.F.entry_bexc_ga ?_)
  refine @check_slot (model prog w) _ _ ⟨hp, gg, dr, tt + 1, oo⟩ "BaseException.__getattribute__" "BaseException" "__getattribute__" (.ref x) [.str "__class__" tt] [] _ (by decide +kernel) (by decide +kernel) su (PySem.F.args_bexc_ga (.ref x) (.str "__class__" tt)) ?_
  unfold Builtin.«object.__getattribute__»
  refine wpAny_bind (wpAny_of_eq (a := ((Value.ref x : Value), [Value.str "__class__" tt])) (by first | rfl | (simp only [slotArgs] <;> rfl)) ?_)
  refine wpAny_bind (wpAny_pure (wpAny_bind (l0.at (wpAny_bind (l3.at ?_)))))
  show wpAny _ _ (holding [Value.builtin "object.__class__"] (call (.builtin "getset_descriptor.__get__") [.builtin "object.__class__", .ref x, .ref D]) >>= ret) _ _ _
  refine wpAny_bind (wpAny_holding (wpAny_call (class_get (s := ⟨hp, gg, dr, tt + 1, oo⟩) (ox := ox) (od := od) k I T.hm (wpAny_pure ?_))))
  show wpAny _ _ (handedOut (.ref D)) _ _ _
  rw [handedOut_of (v := .ref D) rfl]
  first
    | exact wpAny_pure (wpAny_pure q)
    | exact wpAny_pure q
    | exact wpAny_pure (wpAny_bind (wpAny_pure (wpAny_pure q)))
theorem kit_exc (T : ExcC K D) : KitX K (.ref x) (.ref D) (fun h => ∃ (ox : Obj) (od : Option Obj), InstAt h x ox D od) where
  ty := fun _ _ _ ⟨_, _, I⟩ => I.type
  it := fun _ _ k _ => by
    obtain ⟨cd, c, _⟩ := any_some T.hd
    unfold clsIn at c
    split at c
    · rename_i e
      intro A2 Q2 E2 s2 k2 q2
      unfold isType loadHead
      exact wpAny_bind (wpAny_loadPart (k2 _ _ (k _ _ e)) (wpAny_pure q2))
    · cases c
  ne := fun h tp dd its n sl k e => by
    obtain ⟨cd, c, _⟩ := any_some T.hd
    refine Bool.eq_false_iff.mpr fun q => ?_
    have e2 : D = tp := Value.ref.inj (beq_iff_eq.mp q)
    subst e2
    unfold clsIn at c
    split at c
    · rename_i e3
      have z := (k _ _ e3).symm.trans e
      cases z
    · cases c
  ca := fun k ⟨_, _, I⟩ q => cls_exc T k I q
end
/-- its dict is tracked, too -/
def KDk (H : Hp) (d : Option Addr) : Prop := d = none ∨ ∃ (dd : Addr) (fs : List (Str × V)), d = some dd ∧ H dd = some (.xd fs)
theorem ins_exk {P : Program} {w : World} {H : Hp} {h : Heap} {a D : Addr} {d : Option Addr} (hok : HOk P w H h) (e : H a = some (exk a (.ref D) d)) (kd : KDk H d) : ∃ (ox : Obj) (od : Option Obj), PySem.W.InstAt h a ox D od := by
  obtain ⟨oe, vs, e1, z, f⟩ := exk_at hok e
  have nc : PySem.W.notCls oe = true := by
    unfold PySem.W.notCls
    rw [f] <;> rfl
  rcases kd with rfl | ⟨dd, fs, rfl, ed⟩
  · exact ⟨oe, none, e1, z.1, nc, by rw [z.2]; exact True.intro⟩
  · have x : ObjOk P w H h dd (.xd fs) := hok dd _ ed
    obtain ⟨mA, hns, _⟩ := x
    obtain ⟨od, ho, _⟩ := lookIn_ns hns
    exact ⟨oe, some od, e1, z.1, nc, by rw [z.2]; exact ho⟩
/-- isinstance(e, C) -/
def rIsK (K : PySem.W.Frag) : List V → Hp → VK → Prop := fun xs H Q => ∃ (a D : Addr) (d : Option Addr) (c : V) (cv : Value) (b : Bool), xs = [.ref a, c] ∧ H a = some (exk a (.ref D) d) ∧ KDk H d ∧ ExcC K D ∧ ClsV c cv ∧ PySem.W.kitOne K (.ref D) cv = some b ∧ Q (.bl b) H
section
variable {X : Cx}
theorem clIsK {K : PySem.W.Frag} (hK : X.K = K := by rfl) : CallR X (.builtin "isinstance") (rIsK K) := by
  subst hK
  intro pins s σ H xs us Q I r h
  obtain ⟨a, D, d, c, cv, b, rfl, e, kd, T, k, eb, q⟩ := h
  obtain ⟨u1, u2, rfl, r1, r2⟩ := vals2 r
  cases (show u1 = Value.ref a from r1)
  have e2 := k.eq r2
  subst e2
  exact PySem.W.kia_one (kit_exc T) I.kIn (ins_exk I.hok e kd) eb (fun z => nomatch z) fun tk => ⟨.bl b, H, I.tok tk, rfl, q⟩
/-- e.f of a kept exception -/
def gKf (C : Addr) (f : Str) (x : V) (H : Hp) (Q : VK) : Prop := ∃ (a dd : Addr) (fs : List (Str × V)) (v : V), x = .ref a ∧ H a = some (exk a (.ref C) (some dd)) ∧ H dd = some (.xd fs) ∧ fs.lookup f = some v ∧ Q v H
def tKf (C : Addr) (f : Str) (te : TE) : TE := fun σ H Q => te σ H fun x H1 => gKf C f x H1 Q
end
/-! ### the steps -/
def tTryK (tb : WX → TS) (Wout : WX) (cs : List Cl) : TS := fun D σ H => tb (wK Wout D cs) D σ H
section
variable {K : PySem.W.Frag} {σ : L2.St} {H : Hp} {Q : VK} {f : Str} {D : Ends} {Wout : WX} {tb : WX → TS} {te : TE} {C : Addr} {cl : Cl} {r : List Cl} {cs : List Cl} {cls : Value} {d : Option Addr}
theorem x_tryK (q : tb (wK Wout D cs) D σ H) : tTryK tb Wout cs D σ H := q
instance : Step (tTryK tb Wout cs D σ H) (tb (wK Wout D cs) D σ H) := ⟨x_tryK⟩ -- st
theorem x_kf (q : te σ H fun x H1 => gKf C f x H1 Q) : tKf C f te σ H Q := q
instance : Step (tKf C f te σ H Q) (te σ H fun x H1 => gKf C f x H1 Q) := ⟨x_kf⟩ -- st
theorem w_clY {m : Value → Option Bool} {i : Nat} {ts : Addr → Value → Option Addr → TS} (h : m cls = some true) (q : ∀ a, H a = none → ts a cls d ⟨fun σ2 H2 => H2 a = none → D.nx (σ2.set i none) (upd H2 a (exk a cls d)), D.rt, fun σ2 H2 => D.bk (σ2.set i none) H2, fun σ2 H2 => D.ct (σ2.set i none) H2⟩ (σ.set i (some (.ref a))) H) :
    wK Wout D (⟨m, some i, ts⟩ :: r) cls d σ H := ⟨true, h, fun _ => q, fun z => nomatch z⟩
theorem w_clN (h : cl.m cls = some false) (q : wK Wout D r cls d σ H) : wK Wout D (cl :: r) cls d σ H := ⟨false, h, fun z => (nomatch z), fun _ => q⟩
end
/-- the same by the reading's name -/
theorem ps_keep {X : Cx} {body : List Stmt} {h₀ : ExceptHandler} {hds : List ExceptHandler} {cs : List Cl} {pos : Pos} {tb : WX → TS} {Wout : WX} (hs : X.stack = X.env :: X.outer) (hf : X.env.frame = some X.env.locals) (hN : X.N.Nodup) (hex : X.ex = []) (tk : Takes X Wout)
    (hb : ∀ (W : WX) (pn : List (Addr × Obj)) (xe : Value → Shared → Prop), Takes (X.tr pn xe) W → PSs (X.tr pn xe) body (tb W)) (hh : HdK X (h₀ :: hds) cs) : PS X (.Try body (h₀ :: hds) [] [] pos) (tTryK tb Wout cs) := ps_tryK hs hf hN hex tk hb hh
/-- isinstance asks its instances rightly -/
def excB (K : PySem.W.Frag) (C : Str) : Bool := eqV2 (PySem.W.findIn K (.ref (He.ga K C)) "__getattribute__") (some (some (.builtin "BaseException.__getattribute__"))) && (eqV2 (PySem.W.findIn K (.ref (He.ga K C)) "__getattr__") (some none) &&
  (decide (PySem.W.subIn K (.ref (He.ga K C)) (.type "BaseException") = some true) && (PySem.W.hasDictIn K (He.ga K C) && (eqV2 (PySem.W.findIn K (.ref (He.ga K C)) "__class__") (some (some (.builtin "object.__class__"))) &&
  (eqV2 (PySem.W.specialIn K (.builtin "object.__class__") "__get__") (some (some (.builtin "getset_descriptor.__get__"))) && (decide (PySem.W.takesIn K (.builtin "object.__class__") = some true) && decide (PySem.W.mroIn K (He.ga K C) (.type "object") = some true)))))))
theorem excB_ok {K : PySem.W.Frag} {C : Str} (h : excB K C = true) : ExcC K (He.ga K C) := by
  unfold excB at h
  simp only [Bool.and_eq_true, eqV2, decide_eq_true_eq] at h
  obtain ⟨h1, h2, h3, h4, h5, h6, h7, h8⟩ := h
  exact ⟨h1, h2, h3, h4, h5, h6, h7, h8⟩
end R
namespace R
open PySem PySem.Spec PyProof.Rows L2
/-! ### an instance made within a comprehension -/
/-! ### a change made of a list that may change -/
/-! ### xs.insert(i, y), str(x) of a text or a number, over a tuple -/
section
variable {X : Cx}
def rStrQ : List V → Hp → VK → Prop := fun xs H Q => (∃ a : Str, xs = [.str a] ∧ Q (.str a) H) ∨ ∃ i : Int, xs = [.int i] ∧ i.natAbs.log2 < 1920 ∧ Q (.str (toString i)) H
theorem clStrQ : CallR X (.type "str") rStrQ := by
  intro pins s σ H xs us Q I r h
  rcases h with ⟨a, e, q⟩ | ⟨i, e, hl, q⟩
  · exact SkE.call_str_str pins s σ H xs us Q I r ⟨a, e, q⟩
  · exact call_str_int pins s σ H xs us Q I r ⟨i, e, hl, q⟩
end
/-! ### a row's words -/
theorem sp_cd : cd (Str.ofString " ") = [32] := by decide +kernel
/-! ### two changes of one size, and their rows -/
structure Pr (K : PySem.W.Frag) (F : Hp) (n : Nat) (x y : V) (cv : Nat → V) (rw : Nat → List CRow) (pv : Nat → Addr) (pvs : Nat → List V) : Prop where
  cl : ∃ ca, x = .ref ca ∧ SqL K F ca [cv 0, cv 1]
  rl : ∃ ra, y = .ref ra ∧ SqL K F ra [.ref (pv 0), .ref (pv 1)]
  it : ∀ i, i < 2 → SqL K F (pv i) (pvs i) ∧ DpAll K F (pvs i) ((rw i).map CRow.d) ∧ Chg K F (cv i) n (rw i) ∧ RowsOk n (rw i)
theorem Pr.same {K : PySem.W.Frag} {F F2 : Hp} {n : Nat} {x y : V} {cv : Nat → V} {rw : Nat → List CRow} {pv : Nat → Addr} {pvs : Nat → List V} (s : Same F F2) (h : Pr K F n x y cv rw pv pvs) : Pr K F2 n x y cv rw pv pvs := by
  obtain ⟨⟨ca, e, h1⟩, ⟨ra, e2, h2⟩, h3⟩ := h
  refine ⟨⟨ca, e, sqL_same s h1⟩, ⟨ra, e2, sqL_same s h2⟩, fun i hi => ?_⟩
  obtain ⟨a, b, c, d⟩ := h3 i hi
  exact ⟨sqL_same s a, dpa_same s _ _ b, c.same s, d⟩
/-! ### promises of k10 -/
end R
namespace R
open PySem L2
/-! ### slots behind the fourteenth -/
section
variable {a0 a1 a2 a3 a4 a5 a6 a7 a8 a9 a10 a11 a12 a13 a14 a15 a16 a17 a18 a19 a20 a21 a22 a23 : Option V} {r : L2.St} {H : Hp} {Q : VK} {N : L2.St → Hp → Prop} {x : V}
theorem w_v14 (q : Q x H) : tVar 14 (a0 :: a1 :: a2 :: a3 :: a4 :: a5 :: a6 :: a7 :: a8 :: a9 :: a10 :: a11 :: a12 :: a13 :: some x :: r) H Q := ⟨x, rfl, q⟩
instance : Step (tVar 14 (a0 :: a1 :: a2 :: a3 :: a4 :: a5 :: a6 :: a7 :: a8 :: a9 :: a10 :: a11 :: a12 :: a13 :: some x :: r) H Q) (Q x H) := ⟨w_v14⟩ -- st
theorem w_n14 (q : N (a0 :: a1 :: a2 :: a3 :: a4 :: a5 :: a6 :: a7 :: a8 :: a9 :: a10 :: a11 :: a12 :: a13 :: some x :: r) H) : gName 14 x (a0 :: a1 :: a2 :: a3 :: a4 :: a5 :: a6 :: a7 :: a8 :: a9 :: a10 :: a11 :: a12 :: a13 :: a14 :: r) H N := q
instance : Step (gName 14 x (a0 :: a1 :: a2 :: a3 :: a4 :: a5 :: a6 :: a7 :: a8 :: a9 :: a10 :: a11 :: a12 :: a13 :: a14 :: r) H N) (N (a0 :: a1 :: a2 :: a3 :: a4 :: a5 :: a6 :: a7 :: a8 :: a9 :: a10 :: a11 :: a12 :: a13 :: some x :: r) H) := ⟨w_n14⟩ -- st
theorem w_v15 (q : Q x H) : tVar 15 (a0 :: a1 :: a2 :: a3 :: a4 :: a5 :: a6 :: a7 :: a8 :: a9 :: a10 :: a11 :: a12 :: a13 :: a14 :: some x :: r) H Q := ⟨x, rfl, q⟩
instance : Step (tVar 15 (a0 :: a1 :: a2 :: a3 :: a4 :: a5 :: a6 :: a7 :: a8 :: a9 :: a10 :: a11 :: a12 :: a13 :: a14 :: some x :: r) H Q) (Q x H) := ⟨w_v15⟩ -- st
theorem w_n15 (q : N (a0 :: a1 :: a2 :: a3 :: a4 :: a5 :: a6 :: a7 :: a8 :: a9 :: a10 :: a11 :: a12 :: a13 :: a14 :: some x :: r) H) : gName 15 x (a0 :: a1 :: a2 :: a3 :: a4 :: a5 :: a6 :: a7 :: a8 :: a9 :: a10 :: a11 :: a12 :: a13 :: a14 :: a15 :: r) H N := q
instance : Step (gName 15 x (a0 :: a1 :: a2 :: a3 :: a4 :: a5 :: a6 :: a7 :: a8 :: a9 :: a10 :: a11 :: a12 :: a13 :: a14 :: a15 :: r) H N) (N (a0 :: a1 :: a2 :: a3 :: a4 :: a5 :: a6 :: a7 :: a8 :: a9 :: a10 :: a11 :: a12 :: a13 :: a14 :: some x :: r) H) := ⟨w_n15⟩ -- st
theorem w_v16 (q : Q x H) : tVar 16 (a0 :: a1 :: a2 :: a3 :: a4 :: a5 :: a6 :: a7 :: a8 :: a9 :: a10 :: a11 :: a12 :: a13 :: a14 :: a15 :: some x :: r) H Q := ⟨x, rfl, q⟩
instance : Step (tVar 16 (a0 :: a1 :: a2 :: a3 :: a4 :: a5 :: a6 :: a7 :: a8 :: a9 :: a10 :: a11 :: a12 :: a13 :: a14 :: a15 :: some x :: r) H Q) (Q x H) := ⟨w_v16⟩ -- st
theorem w_n16 (q : N (a0 :: a1 :: a2 :: a3 :: a4 :: a5 :: a6 :: a7 :: a8 :: a9 :: a10 :: a11 :: a12 :: a13 :: a14 :: a15 :: some x :: r) H) : gName 16 x (a0 :: a1 :: a2 :: a3 :: a4 :: a5 :: a6 :: a7 :: a8 :: a9 :: a10 :: a11 :: a12 :: a13 :: a14 :: a15 :: a16 :: r) H N := q
instance : Step (gName 16 x (a0 :: a1 :: a2 :: a3 :: a4 :: a5 :: a6 :: a7 :: a8 :: a9 :: a10 :: a11 :: a12 :: a13 :: a14 :: a15 :: a16 :: r) H N) (N (a0 :: a1 :: a2 :: a3 :: a4 :: a5 :: a6 :: a7 :: a8 :: a9 :: a10 :: a11 :: a12 :: a13 :: a14 :: a15 :: some x :: r) H) := ⟨w_n16⟩ -- st
theorem w_v17 (q : Q x H) : tVar 17 (a0 :: a1 :: a2 :: a3 :: a4 :: a5 :: a6 :: a7 :: a8 :: a9 :: a10 :: a11 :: a12 :: a13 :: a14 :: a15 :: a16 :: some x :: r) H Q := ⟨x, rfl, q⟩
instance : Step (tVar 17 (a0 :: a1 :: a2 :: a3 :: a4 :: a5 :: a6 :: a7 :: a8 :: a9 :: a10 :: a11 :: a12 :: a13 :: a14 :: a15 :: a16 :: some x :: r) H Q) (Q x H) := ⟨w_v17⟩ -- st
theorem w_n17 (q : N (a0 :: a1 :: a2 :: a3 :: a4 :: a5 :: a6 :: a7 :: a8 :: a9 :: a10 :: a11 :: a12 :: a13 :: a14 :: a15 :: a16 :: some x :: r) H) : gName 17 x (a0 :: a1 :: a2 :: a3 :: a4 :: a5 :: a6 :: a7 :: a8 :: a9 :: a10 :: a11 :: a12 :: a13 :: a14 :: a15 :: a16 :: a17 :: r) H N := q
instance : Step (gName 17 x (a0 :: a1 :: a2 :: a3 :: a4 :: a5 :: a6 :: a7 :: a8 :: a9 :: a10 :: a11 :: a12 :: a13 :: a14 :: a15 :: a16 :: a17 :: r) H N) (N (a0 :: a1 :: a2 :: a3 :: a4 :: a5 :: a6 :: a7 :: a8 :: a9 :: a10 :: a11 :: a12 :: a13 :: a14 :: a15 :: a16 :: some x :: r) H) := ⟨w_n17⟩ -- st
theorem w_v18 (q : Q x H) : tVar 18 (a0 :: a1 :: a2 :: a3 :: a4 :: a5 :: a6 :: a7 :: a8 :: a9 :: a10 :: a11 :: a12 :: a13 :: a14 :: a15 :: a16 :: a17 :: some x :: r) H Q := ⟨x, rfl, q⟩
instance : Step (tVar 18 (a0 :: a1 :: a2 :: a3 :: a4 :: a5 :: a6 :: a7 :: a8 :: a9 :: a10 :: a11 :: a12 :: a13 :: a14 :: a15 :: a16 :: a17 :: some x :: r) H Q) (Q x H) := ⟨w_v18⟩ -- st
theorem w_n18 (q : N (a0 :: a1 :: a2 :: a3 :: a4 :: a5 :: a6 :: a7 :: a8 :: a9 :: a10 :: a11 :: a12 :: a13 :: a14 :: a15 :: a16 :: a17 :: some x :: r) H) : gName 18 x (a0 :: a1 :: a2 :: a3 :: a4 :: a5 :: a6 :: a7 :: a8 :: a9 :: a10 :: a11 :: a12 :: a13 :: a14 :: a15 :: a16 :: a17 :: a18 :: r) H N := q
instance : Step (gName 18 x (a0 :: a1 :: a2 :: a3 :: a4 :: a5 :: a6 :: a7 :: a8 :: a9 :: a10 :: a11 :: a12 :: a13 :: a14 :: a15 :: a16 :: a17 :: a18 :: r) H N) (N (a0 :: a1 :: a2 :: a3 :: a4 :: a5 :: a6 :: a7 :: a8 :: a9 :: a10 :: a11 :: a12 :: a13 :: a14 :: a15 :: a16 :: a17 :: some x :: r) H) := ⟨w_n18⟩ -- st
theorem w_v19 (q : Q x H) : tVar 19 (a0 :: a1 :: a2 :: a3 :: a4 :: a5 :: a6 :: a7 :: a8 :: a9 :: a10 :: a11 :: a12 :: a13 :: a14 :: a15 :: a16 :: a17 :: a18 :: some x :: r) H Q := ⟨x, rfl, q⟩
instance : Step (tVar 19 (a0 :: a1 :: a2 :: a3 :: a4 :: a5 :: a6 :: a7 :: a8 :: a9 :: a10 :: a11 :: a12 :: a13 :: a14 :: a15 :: a16 :: a17 :: a18 :: some x :: r) H Q) (Q x H) := ⟨w_v19⟩ -- st
theorem w_n19 (q : N (a0 :: a1 :: a2 :: a3 :: a4 :: a5 :: a6 :: a7 :: a8 :: a9 :: a10 :: a11 :: a12 :: a13 :: a14 :: a15 :: a16 :: a17 :: a18 :: some x :: r) H) : gName 19 x (a0 :: a1 :: a2 :: a3 :: a4 :: a5 :: a6 :: a7 :: a8 :: a9 :: a10 :: a11 :: a12 :: a13 :: a14 :: a15 :: a16 :: a17 :: a18 :: a19 :: r) H N := q
instance : Step (gName 19 x (a0 :: a1 :: a2 :: a3 :: a4 :: a5 :: a6 :: a7 :: a8 :: a9 :: a10 :: a11 :: a12 :: a13 :: a14 :: a15 :: a16 :: a17 :: a18 :: a19 :: r) H N) (N (a0 :: a1 :: a2 :: a3 :: a4 :: a5 :: a6 :: a7 :: a8 :: a9 :: a10 :: a11 :: a12 :: a13 :: a14 :: a15 :: a16 :: a17 :: a18 :: some x :: r) H) := ⟨w_n19⟩ -- st
theorem w_v20 (q : Q x H) : tVar 20 (a0 :: a1 :: a2 :: a3 :: a4 :: a5 :: a6 :: a7 :: a8 :: a9 :: a10 :: a11 :: a12 :: a13 :: a14 :: a15 :: a16 :: a17 :: a18 :: a19 :: some x :: r) H Q := ⟨x, rfl, q⟩
instance : Step (tVar 20 (a0 :: a1 :: a2 :: a3 :: a4 :: a5 :: a6 :: a7 :: a8 :: a9 :: a10 :: a11 :: a12 :: a13 :: a14 :: a15 :: a16 :: a17 :: a18 :: a19 :: some x :: r) H Q) (Q x H) := ⟨w_v20⟩ -- st
theorem w_n20 (q : N (a0 :: a1 :: a2 :: a3 :: a4 :: a5 :: a6 :: a7 :: a8 :: a9 :: a10 :: a11 :: a12 :: a13 :: a14 :: a15 :: a16 :: a17 :: a18 :: a19 :: some x :: r) H) : gName 20 x (a0 :: a1 :: a2 :: a3 :: a4 :: a5 :: a6 :: a7 :: a8 :: a9 :: a10 :: a11 :: a12 :: a13 :: a14 :: a15 :: a16 :: a17 :: a18 :: a19 :: a20 :: r) H N := q
instance : Step (gName 20 x (a0 :: a1 :: a2 :: a3 :: a4 :: a5 :: a6 :: a7 :: a8 :: a9 :: a10 :: a11 :: a12 :: a13 :: a14 :: a15 :: a16 :: a17 :: a18 :: a19 :: a20 :: r) H N) (N (a0 :: a1 :: a2 :: a3 :: a4 :: a5 :: a6 :: a7 :: a8 :: a9 :: a10 :: a11 :: a12 :: a13 :: a14 :: a15 :: a16 :: a17 :: a18 :: a19 :: some x :: r) H) := ⟨w_n20⟩ -- st
theorem w_v21 (q : Q x H) : tVar 21 (a0 :: a1 :: a2 :: a3 :: a4 :: a5 :: a6 :: a7 :: a8 :: a9 :: a10 :: a11 :: a12 :: a13 :: a14 :: a15 :: a16 :: a17 :: a18 :: a19 :: a20 :: some x :: r) H Q := ⟨x, rfl, q⟩
instance : Step (tVar 21 (a0 :: a1 :: a2 :: a3 :: a4 :: a5 :: a6 :: a7 :: a8 :: a9 :: a10 :: a11 :: a12 :: a13 :: a14 :: a15 :: a16 :: a17 :: a18 :: a19 :: a20 :: some x :: r) H Q) (Q x H) := ⟨w_v21⟩ -- st
theorem w_n21 (q : N (a0 :: a1 :: a2 :: a3 :: a4 :: a5 :: a6 :: a7 :: a8 :: a9 :: a10 :: a11 :: a12 :: a13 :: a14 :: a15 :: a16 :: a17 :: a18 :: a19 :: a20 :: some x :: r) H) : gName 21 x (a0 :: a1 :: a2 :: a3 :: a4 :: a5 :: a6 :: a7 :: a8 :: a9 :: a10 :: a11 :: a12 :: a13 :: a14 :: a15 :: a16 :: a17 :: a18 :: a19 :: a20 :: a21 :: r) H N := q
instance : Step (gName 21 x (a0 :: a1 :: a2 :: a3 :: a4 :: a5 :: a6 :: a7 :: a8 :: a9 :: a10 :: a11 :: a12 :: a13 :: a14 :: a15 :: a16 :: a17 :: a18 :: a19 :: a20 :: a21 :: r) H N) (N (a0 :: a1 :: a2 :: a3 :: a4 :: a5 :: a6 :: a7 :: a8 :: a9 :: a10 :: a11 :: a12 :: a13 :: a14 :: a15 :: a16 :: a17 :: a18 :: a19 :: a20 :: some x :: r) H) := ⟨w_n21⟩ -- st
theorem w_v22 (q : Q x H) : tVar 22 (a0 :: a1 :: a2 :: a3 :: a4 :: a5 :: a6 :: a7 :: a8 :: a9 :: a10 :: a11 :: a12 :: a13 :: a14 :: a15 :: a16 :: a17 :: a18 :: a19 :: a20 :: a21 :: some x :: r) H Q := ⟨x, rfl, q⟩
instance : Step (tVar 22 (a0 :: a1 :: a2 :: a3 :: a4 :: a5 :: a6 :: a7 :: a8 :: a9 :: a10 :: a11 :: a12 :: a13 :: a14 :: a15 :: a16 :: a17 :: a18 :: a19 :: a20 :: a21 :: some x :: r) H Q) (Q x H) := ⟨w_v22⟩ -- st
theorem w_n22 (q : N (a0 :: a1 :: a2 :: a3 :: a4 :: a5 :: a6 :: a7 :: a8 :: a9 :: a10 :: a11 :: a12 :: a13 :: a14 :: a15 :: a16 :: a17 :: a18 :: a19 :: a20 :: a21 :: some x :: r) H) : gName 22 x (a0 :: a1 :: a2 :: a3 :: a4 :: a5 :: a6 :: a7 :: a8 :: a9 :: a10 :: a11 :: a12 :: a13 :: a14 :: a15 :: a16 :: a17 :: a18 :: a19 :: a20 :: a21 :: a22 :: r) H N := q
instance : Step (gName 22 x (a0 :: a1 :: a2 :: a3 :: a4 :: a5 :: a6 :: a7 :: a8 :: a9 :: a10 :: a11 :: a12 :: a13 :: a14 :: a15 :: a16 :: a17 :: a18 :: a19 :: a20 :: a21 :: a22 :: r) H N) (N (a0 :: a1 :: a2 :: a3 :: a4 :: a5 :: a6 :: a7 :: a8 :: a9 :: a10 :: a11 :: a12 :: a13 :: a14 :: a15 :: a16 :: a17 :: a18 :: a19 :: a20 :: a21 :: some x :: r) H) := ⟨w_n22⟩ -- st
theorem w_v23 (q : Q x H) : tVar 23 (a0 :: a1 :: a2 :: a3 :: a4 :: a5 :: a6 :: a7 :: a8 :: a9 :: a10 :: a11 :: a12 :: a13 :: a14 :: a15 :: a16 :: a17 :: a18 :: a19 :: a20 :: a21 :: a22 :: some x :: r) H Q := ⟨x, rfl, q⟩
instance : Step (tVar 23 (a0 :: a1 :: a2 :: a3 :: a4 :: a5 :: a6 :: a7 :: a8 :: a9 :: a10 :: a11 :: a12 :: a13 :: a14 :: a15 :: a16 :: a17 :: a18 :: a19 :: a20 :: a21 :: a22 :: some x :: r) H Q) (Q x H) := ⟨w_v23⟩ -- st
theorem w_n23 (q : N (a0 :: a1 :: a2 :: a3 :: a4 :: a5 :: a6 :: a7 :: a8 :: a9 :: a10 :: a11 :: a12 :: a13 :: a14 :: a15 :: a16 :: a17 :: a18 :: a19 :: a20 :: a21 :: a22 :: some x :: r) H) : gName 23 x (a0 :: a1 :: a2 :: a3 :: a4 :: a5 :: a6 :: a7 :: a8 :: a9 :: a10 :: a11 :: a12 :: a13 :: a14 :: a15 :: a16 :: a17 :: a18 :: a19 :: a20 :: a21 :: a22 :: a23 :: r) H N := q
instance : Step (gName 23 x (a0 :: a1 :: a2 :: a3 :: a4 :: a5 :: a6 :: a7 :: a8 :: a9 :: a10 :: a11 :: a12 :: a13 :: a14 :: a15 :: a16 :: a17 :: a18 :: a19 :: a20 :: a21 :: a22 :: a23 :: r) H N) (N (a0 :: a1 :: a2 :: a3 :: a4 :: a5 :: a6 :: a7 :: a8 :: a9 :: a10 :: a11 :: a12 :: a13 :: a14 :: a15 :: a16 :: a17 :: a18 :: a19 :: a20 :: a21 :: a22 :: some x :: r) H) := ⟨w_n23⟩ -- st
end
end R
/-! ### an own class made, its __init__ may raise; max(xs, default=d) -/
namespace R
open PySem PySem.Spec PyProof.Rows L2
structure DNX (P : Program) (w : World) (K : PySem.W.Frag) (mg : Str → Option Value) (base : Heap) (k : Nat) (C : Str) (ps : List Str) (sp : Sp) : Prop where
  ex : ∃ (fd : FuncData), FnOk P w K mg base (L2.CX P w) k (He.ma K (He.ga K C) "__init__") fd ps sp ∧ Mk K (He.ga K C) (He.ma K (He.ga K C) "__init__") ∧ mg C = some (.ref (He.ga K C)) ∧ Binds K fd ps []
def makGS (C : Addr) (sp : Sp) (ws : List V) (E : XK) (H : Hp) (Q : VK) : Prop := ∀ x dx, H x = none → H dx = none → dx ≠ x → sp (.ref x :: ws) (upd (upd H dx (.own x)) x (.ins C dx [])) (aftG Q x) E
def tMakeS (C : Addr) (sp : Sp) (E : L2.St → XK) (t : TA) : TE := fun σ H Q => t σ H fun vs H1 => makGS C sp vs (E σ) H1 Q
section
variable {X : Cx} {CX : CXT} {k j : Nat} {f C : Addr} {fd : FuncData} {ps : List Str} {sp : Sp} {E : L2.St → XK} {x : Str} {p pos : Pos} {e : Expr} {es : List Expr} {t : TA} {W : WX}
theorem run_makeS {pins : List (Addr × Obj)} {σ : L2.St} {H : Hp} {s : Shared} {Q : VK} {us : List Value} {vs : List V} (M : Mk X.K C f) (F : FnOk X.prog X.w X.K X.mg X.base CX k f fd ps sp) (hr : Room (k + 1) X.A) (hb : Binds X.K fd ps [])
    (hx : PassesAt CX X σ (E σ)) (I : Inv X pins σ H s) (r : Vals vs us)
    (h : makGS C sp vs (E σ) H Q) :
    wpAny (model X.prog X.w) X.A (call (.ref C) us) (EP X pins σ Q) X.xe s := by
  have hq := h (s.heap.objs.size + 1) s.heap.objs.size (I.hok.fresh (Nat.le_succ _)) (I.hok.fresh (Nat.le_refl _)) (Nat.ne_of_lt (Nat.lt_succ_self _))
  have I2 := Inv.made (C := C) I
  have r2 : Vals (V.ref (s.heap.objs.size + 1) :: vs) (Value.ref (s.heap.objs.size + 1) :: us) := .cons rfl r
  have hl : (Value.ref (s.heap.objs.size + 1) :: us).length = ps.length := by
    have e := r2.length
    rw [F.len _ _ _ _ hq] at e
    exact e.symm
  have b := hb _ (Value.ref (s.heap.objs.size + 1) :: us) I2.kIn (by rw [List.append_nil]; exact hl)
  rw [List.append_nil] at b
  refine wpAny_call (make_map (f := f) I.kIn M.makes M.init (beq_iff_eq.mp M.fn) (codeAny_mono (F.run _ X.stack _ _ ⟨Value.ref (s.heap.objs.size + 1) :: us, []⟩ (Value.ref (s.heap.objs.size + 1) :: us) _ _ (E σ) (hr.make C us [])
    (I2.env0.make C us []) b r2 hq) fun r s' hq' => ?_))
  cases r with
  | error e => exact hx pins _ _ e s' I2 hq'
  | ok fl =>
    cases fl with
    | ret u =>
      obtain ⟨v, H', I3, rv, ev, q3⟩ := I2.after hq'
      subst ev
      exact ⟨rv, ⟨V.ref (s.heap.objs.size + 1), H', I3, rfl, q3⟩⟩
    | next => exact False.elim hq'
    | brk => exact False.elim hq'
    | cont => exact False.elim hq'
theorem pmakeX {K : PySem.W.Frag} (D : DNX X.prog X.w K X.mg X.base k x ps sp) (hr : Room j X.A) (tk : Takes X W) (ha : PA X (e :: es) t) (hj : k + 1 ≤ j := by first | decide | exact Nat.le_refl _ | omega) (hg : Gl X x := by rfl) (hdb : (x == ("__debug__" : Str)) = false := by decide)
    (he : starEach (e :: es) X.env = (false, eval e X.env) :: starEach es X.env := by rfl) (hpl : (backTo pos (starEach es X.env)).any (·.1) = false := by rfl) (hK : X.K = K := by rfl) :
    PE X (.Call (.Name x p) (e :: es) [] pos) (tMakeS (He.ga K x) sp (WE W) t) := by
  subst hK
  obtain ⟨fd, F, M, hm, hb⟩ := D.ex
  refine ⟨fun pins s σ H Q I h => ?_⟩
  refine wpAny_Call_Name_kw (ld_glob I hg hm ?_ hdb)
  refine PySem.W.callWith_K (h₀ := X.base) I.ok.mod.kin M.kp (thn (ha.run pos pins s σ H _ I h) fun us s1 ⟨vs, H1, I1, r, q⟩ => ⟨I1.kIn, ?_⟩) he hpl
  exact run_makeS M F (hr.mono hj) hb (passAt tk σ) I1 r q
end
section
variable {K : PySem.W.Frag} {M : List Addr} {F0 H0 F H : Hp} {L Rs : List Own} {σ : L2.St} {Q : VK} {C : Addr}
theorem x_makeS {sp : Sp} {EE : L2.St → XK} {t : TA} (q : t σ H fun vs H1 => makGS C sp vs (EE σ) H1 Q) : tMakeS C sp EE t σ H Q := q
instance {sp : Sp} {EE : L2.St → XK} {t : TA} : Step (tMakeS C sp EE t σ H Q) (t σ H fun vs H1 => makGS C sp vs (EE σ) H1 Q) := ⟨x_makeS⟩ -- st
theorem n_makeS {sp : Sp} {ws : List V} {E : XK} (w : W M F0 H0 F H L) (q : ∀ x dx H2, W M F0 H0 F H2 (mu x (.ins C dx []) :: mu dx (.own x) :: L) → H0 x = none → sp (.ref x :: ws) H2 (aftG Q x) E) : makGS C sp ws E H Q := by
  intro x dx nx ndx hne
  have w1 := w.nw (u := .own x) ndx
  have nx1 : upd H dx (.own x) x = none := by rw [upd_ne hne.symm]; exact nx
  exact q x dx _ (w1.nw (u := .ins C dx []) nx1) (w.g.fresh nx)
end
theorem x_ckw {r : List V → List V → Hp → VK → Prop} {t tk : TA} {σ : L2.St} {H : Hp} {Q : VK} (q : t σ H fun vs H1 => tk σ H1 fun zs H2 => r vs zs H2 Q) : tCKw r t tk σ H Q := q
instance {r : List V → List V → Hp → VK → Prop} {t tk : TA} {σ : L2.St} {H : Hp} {Q : VK} : Step (tCKw r t tk σ H Q) (t σ H fun vs H1 => tk σ H1 fun zs H2 => r vs zs H2 Q) := ⟨x_ckw⟩ -- st
end R
namespace R
open PySem PySem.Spec PyProof.Rows L2
/-! ### rows of any numbers (k01) -/
inductive XRow where
  | put (s : Str)
  | copy (a n : Int)
def XRow.d : XRow → PyData
  | .put s => .tuple [.str "put", .str s]
  | .copy a n => .tuple [.str "copy", .int a, .int n]
def XRow.sOk : XRow → Prop
  | .put s => okS s ∧ s.length ≤ 1000
  | .copy _ _ => True
def XRow.gv (size : Int) : XRow → Nat
  | .put s => s.length
  | .copy a n => if a < 0 ∨ n < 1 ∨ size < a + n then 0 else n.toNat
def CRow.x : CRow → XRow
  | .put s => .put s
  | .copy a n => .copy (a : Nat) (n : Nat)
theorem crow_xd (r : CRow) : r.x.d = r.d := by cases r <;> rfl
theorem crows_xd (rs : List CRow) : (rs.map CRow.x).map XRow.d = rs.map CRow.d := by
  rw [List.map_map]
  exact List.map_congr_left fun r _ => crow_xd r
/-- the first row that is none -/
def fxX (size : Int) : Nat → Nat → List XRow → Option Nat
  | _, _, [] => none
  | k, many, r :: rs => if r.gv size = 0 ∨ 400 < many + r.gv size then some k else fxX size (k + 1) (many + r.gv size) rs
inductive DueX where
  | size
  | row (k : Nat)
  | ok
def dueX (size : Int) (rows : List XRow) : DueX := if size < 0 ∨ 400 < size then .size else match fxX size 0 0 rows with
  | some k => .row k
  | none => .ok
theorem gv_x {n : Nat} {r : CRow} (h : CRowOk n r) : r.x.gv (n : Nat) = r.gives := by
  cases r with
  | put s => rfl
  | copy a m =>
    have h1 : 1 ≤ m := h.p
    have h2 : a + m ≤ n := h.h
    show (if ((a : Nat) : Int) < 0 ∨ ((m : Nat) : Int) < 1 ∨ ((n : Nat) : Int) < (a : Nat) + (m : Nat) then 0 else ((m : Nat) : Int).toNat) = m
    rw [if_neg (by omega), Int.toNat_natCast]
/-- a row that gives signs is one -/
theorem x_row {n : Nat} {r : XRow} (hs : r.sOk) (h : r.gv (n : Nat) ≠ 0) : ∃ c : CRow, r = c.x ∧ CRowOk n c := by
  cases r with
  | put s => exact ⟨.put s, rfl, ⟨hs, Nat.pos_of_ne_zero h, Nat.zero_le _⟩⟩
  | copy a m =>
    have h : (if a < 0 ∨ m < 1 ∨ ((n : Nat) : Int) < a + m then 0 else m.toNat) ≠ 0 := h
    by_cases e : a < 0 ∨ m < 1 ∨ ((n : Nat) : Int) < a + m
    · rw [if_pos e] at h
      exact absurd rfl h
    · refine ⟨.copy a.toNat m.toNat, ?_, ⟨trivial, by show 1 ≤ m.toNat; omega, by show a.toNat + m.toNat ≤ n; omega⟩⟩
      show XRow.copy a m = .copy ((a.toNat : Nat) : Int) ((m.toNat : Nat) : Int)
      rw [show ((a.toNat : Nat) : Int) = a by omega, show ((m.toNat : Nat) : Int) = m by omega]
theorem fx_rows {n : Nat} : ∀ {rows : List XRow} {k many : Nat}, (∀ r ∈ rows, r.sOk) → fxX (n : Nat) k many rows = none → ∃ cs : List CRow, rows = cs.map CRow.x ∧ (∀ c ∈ cs, CRowOk n c) ∧ (rows ≠ [] → many + givesL cs ≤ 400)
  | [], _, _, _, _ => ⟨[], rfl, (fun _ h => nomatch h), fun h => absurd rfl h⟩
  | r :: rows, k, many, hs, h => by
    have h : (if r.gv (n : Nat) = 0 ∨ 400 < many + r.gv (n : Nat) then some k else fxX (n : Nat) (k + 1) (many + r.gv (n : Nat)) rows) = none := h
    by_cases e : r.gv (n : Nat) = 0 ∨ 400 < many + r.gv (n : Nat)
    · rw [if_pos e] at h; cases h
    · rw [if_neg e] at h
      obtain ⟨c, rfl, hc⟩ := x_row (hs r (List.mem_cons_self ..)) (fun z => e (.inl z))
      obtain ⟨cs, rfl, hcs, hm⟩ := fx_rows (fun q hq => hs q (List.mem_cons_of_mem _ hq)) h
      rw [gv_x hc] at e hm
      refine ⟨c :: cs, rfl, fun q hq => ?_, fun _ => ?_⟩
      · rcases List.mem_cons.mp hq with rfl | hq
        · exact hc
        · exact hcs q hq
      · show many + (c.gives + givesL cs) ≤ 400
        by_cases he : cs.map CRow.x = []
        · have : cs = [] := List.map_eq_nil_iff.mp he
          subst this
          show many + (c.gives + 0) ≤ 400
          omega
        · have := hm he
          omega
/-- what is due, made -/
theorem due_ok {size : Int} {rows : List XRow} (hs : ∀ r ∈ rows, r.sOk) (h : dueX size rows = .ok) : ∃ (n : Nat) (cs : List CRow), size = (n : Nat) ∧ n ≤ 400 ∧ rows = cs.map CRow.x ∧ RowsOk n cs := by
  unfold dueX at h
  by_cases e : size < 0 ∨ 400 < size
  · rw [if_pos e] at h; cases h
  · rw [if_neg e] at h
    obtain ⟨n, rfl⟩ : ∃ n : Nat, size = (n : Nat) := ⟨size.toNat, by omega⟩
    cases hf : fxX (n : Nat) 0 0 rows with
    | some k => rw [hf] at h; cases h
    | none =>
      obtain ⟨cs, e1, e2, e3⟩ := fx_rows hs hf
      refine ⟨n, cs, rfl, by omega, e1, e2, ?_⟩
      by_cases he : rows = []
      · rw [he] at e1
        have : cs = [] := List.map_eq_nil_iff.mp e1.symm
        subst this
        exact Nat.zero_le _
      · have := e3 he
        omega
theorem dp_xput {K : PySem.W.Frag} {F : Hp} {x : V} {s : Str} (h : Dp K F x (XRow.put s).d) : ∃ a, x = .ref a ∧ SqT K F a [.str "put", .str s] := dp_cput (s := s) h
theorem dp_xcopy {K : PySem.W.Frag} {F : Hp} {x : V} {a n : Int} (h : Dp K F x (XRow.copy a n).d) : ∃ p, x = .ref p ∧ SqT K F p [.str "copy", .int a, .int n] := by
  obtain ⟨p, v1, v2, v3, rfl, hs, h1, h2, h3⟩ := dp_tup3 h
  rw [dp_str h1, dp_int h2, dp_int h3] at hs
  exact ⟨p, rfl, hs⟩
theorem fx_go {size : Int} {k m : Nat} {r : XRow} {rs : List XRow} (hc : ¬ (r.gv size = 0 ∨ 400 < m + r.gv size)) : fxX size k m (r :: rs) = fxX size (k + 1) (m + r.gv size) rs := if_neg hc
theorem fx_hit {size : Int} {k m : Nat} {r : XRow} {rs rows : List XRow} (h : fxX size 0 0 rows = fxX size k m (r :: rs)) (hc : r.gv size = 0 ∨ 400 < m + r.gv size) (hn : ¬ (size < 0 ∨ 400 < size)) : dueX size rows = .row k := by
  unfold dueX
  rw [if_neg hn, h, show fxX size k m (r :: rs) = some k from if_pos hc]
theorem fx_end {size : Int} {k m : Nat} {rows : List XRow} (h : fxX size 0 0 rows = fxX size k m []) (hn : ¬ (size < 0 ∨ 400 < size)) : dueX size rows = .ok := by
  unfold dueX
  rw [if_neg hn, h]
  rfl
theorem drop_at {α : Type} {l : List α} {i : Nat} {x : α} (h : l[i]? = some x) : l.drop i = x :: l.drop (i + 1) := by
  obtain ⟨hi, e⟩ := List.getElem?_eq_some_iff.mp h
  rw [List.drop_eq_getElem_cons hi, e]
/-- what a due thing is told as -/
def DueX.d : DueX → PyData
  | .size => .tuple [.str (Str.ofString "BadSize"), .none]
  | .row k => .tuple [.str (Str.ofString "BadRow"), .int (k : Nat)]
  | .ok => .tuple [.str (Str.ofString ""), .none]
theorem KDk.same {F F2 : Hp} {d : Option Addr} (s : Same F F2) (h : KDk F d) : KDk F2 d := by
  rcases h with rfl | ⟨dd, fs, rfl, e⟩
  · exact .inl rfl
  · exact .inr ⟨dd, fs, rfl, s _ _ e⟩
def DueX.w : DueX → Str
  | .size => Str.ofString "BadSize"
  | .row _ => Str.ofString "BadRow"
  | .ok => Str.ofString ""
/-! ### promises -/
def insX (C dx r : Addr) (size : Int) : HO := .ins C dx [("size", .int size), ("rows", .ref r)]
def φgivesX (K : PySem.W.Frag) : V → V → Hp → VK → Prop := fun x y H Q => ∃ (F : Hp) (r : XRow) (n : Int), y = .int n ∧ Same F H ∧ Dp K F x r.d ∧ r.sOk ∧ ∀ F2 H2, W [] F H F2 H2 [] → Q (.int (r.gv n : Nat)) H2
end R
namespace R
open PySem PySem.Spec PyProof.Rows L2
/-! ### x != y by an own __eq__, no own __ne__ -/
end R
namespace R
open PySem PySem.Spec PyProof.Rows L2
/-! ### texts split, numbers read -/
def splitG : V → List V → Hp → VK → Prop := fun x xs H Q => ∃ a b, x = .str a ∧ xs = [.str b] ∧ (b.length == 0) = false ∧ a.length + 2 ≤ sizeLine ∧ rNewStrs (Txt.split a b) H Q
section
variable {X : Cx} {o e : Expr} {to te : TE} {apos pos : Pos}
theorem pe_splitG (ho : PE X o to) (he : PE X e te) (hs : starEach [e] X.env = [(false, eval e X.env)] := by rfl) (hbase : attributeBase o "split" X.env (eval o X.env) = eval o X.env := by rfl) (hline : (apos.endLine == pos.line) = true := by rfl) :
    PE X (.Call (.Attribute o "split" apos) [e] [] pos) (tM1 splitG to te) := pe_split ho he hs hbase hline
def rIntS : List V → Hp → VK → Prop := fun xs H Q => ∃ a n, xs = [.str a] ∧ PySem.intText? a = some n ∧ a.length ≤ 640 ∧ Q (.int n) H
theorem clIntS : CallR X (.type "int") rIntS := call_int_str
end
section
variable {K : PySem.W.Frag} {M : List Addr} {F0 H0 F H : Hp} {L : List Own} {Q : VK} {a b : Str} {n : Int}
theorem n_split (w : W M F0 H0 F H L) (hl : a.length ≤ 1000000) (hb : b.length ≠ 0) (q : ∀ p H1, W M F0 H0 F H1 (mu p (.lst ((Txt.split a b).map V.str)) :: L) → H0 p = none → Q (.ref p) H1) : splitG (.str a) [.str b] H Q :=
  ⟨a, b, rfl, rfl, beq_eq_false_iff_ne.mpr hb, by rw [sizeLine_eq]; omega, fun p hp => q p _ (w.nw (u := .lst ((Txt.split a b).map V.str)) hp) (w.g.fresh hp)⟩
theorem n_intS (h : intText? a = some n) (hl : a.length ≤ 640) (q : Q (.int n) H) : rIntS [.str a] H Q := ⟨a, n, rfl, h, hl, q⟩
end
/-! ### a whole text of the globals -/
theorem pe_gstr {X : Cx} {x z : Str} {pos : Pos} (hg : Gl X x) (hm : ∃ t, X.mg x = some (.str z t)) (hd : (x == ("__debug__" : Str)) = false := by decide) : PE X (.Name x pos) (tC (.str z)) := by
  obtain ⟨t, h⟩ := hm
  exact pe_glob hg h ⟨_, rfl⟩ hd
/-! ### signs without blanks -/
def clean (s : Str) : Prop := ∀ c ∈ cd s, 33 ≤ c ∧ c ≤ 126
theorem clean_ok {s : Str} (h : clean s) : okS s := ok_codes.mpr fun c hc => by
  have := (h c hc).2
  omega
def CRow.cl : CRow → Prop
  | .put s => clean s
  | .copy _ _ => True
/-! ### numbers as they are written -/
def numI (i : Int) : Str := Str.ofString (toString i)
theorem cd_of (s : String) : cd (Str.ofString s) = s.toList.map Char.toNat := PyProof.Rows.signs_ofString s
theorem num_nn (n : Nat) : cd (numI (n : Nat)) = TL.numL n := TL.tl_num n
theorem num_neg (n : Nat) : cd (numI (Int.negSucc n)) = 45 :: TL.numL (n + 1) := by
  have e : toString (Int.negSucc n) = "-" ++ toString ((n + 1 : Nat) : Int) := rfl
  unfold numI
  rw [e, cd_of, String.toList_append, List.map_append, ← cd_of (toString ((n + 1 : Nat) : Int))]
  exact congrArg (fun l => 45 :: l) (num_nn (n + 1))
def numA (i : Int) : List Nat := if i < 0 then 45 :: TL.numL i.natAbs else TL.numL i.natAbs
theorem num_cd (i : Int) : cd (numI i) = numA i := by
  unfold numA
  cases i with
  | ofNat n =>
    rw [if_neg (by simp)]
    exact num_nn n
  | negSucc n =>
    rw [if_pos (Int.negSucc_lt_zero n)]
    exact num_neg n
theorem num_clean (i : Int) : clean (numI i) := fun c hc => by
  rw [num_cd] at hc
  unfold numA at hc
  have hd := TL.numL_digits i.natAbs
  split at hc
  · rcases List.mem_cons.mp hc with rfl | hc
    · exact ⟨by decide, by decide⟩
    · have := hd c hc
      omega
  · have := hd c hc
    omega
theorem num_len {i : Int} {k : Nat} (hk : 0 < k) (h : i.natAbs < 10 ^ k) : (numI i).length ≤ k + 1 := by
  rw [← cd_len, num_cd]
  unfold numA
  have := TL.numL_len hk h
  split
  · rw [List.length_cons]; omega
  · omega
/-! ### whether some signs write a whole number -/
def dg (c : Nat) : Bool := decide (48 ≤ c ∧ c ≤ 57)
def figs (cs : List Nat) : List Nat := if cs.take 1 = [45] then cs.drop 1 else cs
def isNumB (cs : List Nat) : Bool := !(decide (figs cs = []) || decide (60 < (figs cs).length) || !decide ((figs cs).filter (fun c => !dg c) = [])) && (decide (cs = [48]) || !decide ((figs cs).take 1 = [48]))
def numVal (cs : List Nat) : Int := if cs.take 1 = [45] then -((NumText.digitsVal (figs cs) : Nat) : Int) else ((NumText.digitsVal (figs cs) : Nat) : Int)
theorem dg_all {cs : List Nat} (h : cs.filter (fun c => !dg c) = []) : NumText.AllDigits cs := fun c hc => by
  have := List.filter_eq_nil_iff.mp h c hc
  unfold dg at this
  by_cases e : 48 ≤ c ∧ c ≤ 57
  · exact e
  · rw [decide_eq_false e] at this
    exact absurd rfl this
/-- what int(word) reads -/
theorem num_reads {s : Str} (h : isNumB (cd s) = true) : intText? s = some (numVal (cd s)) ∧ s.length ≤ 640 := by
  unfold isNumB at h
  rw [Bool.and_eq_true, Bool.not_eq_true', Bool.or_eq_false_iff, Bool.or_eq_false_iff, Bool.not_eq_false', decide_eq_false_iff_not, decide_eq_false_iff_not, decide_eq_true_eq] at h
  obtain ⟨⟨⟨h1, h2⟩, h3⟩, _⟩ := h
  have hd := dg_all h3
  have hl : s.length = (cd s).length := (cd_len s).symm
  unfold numVal
  by_cases e : (cd s).take 1 = [45]
  · have ef : figs (cd s) = (cd s).drop 1 := if_pos e
    rw [ef] at h1 h2 hd
    have ec : cd s = 45 :: (cd s).drop 1 := by
      conv => lhs; rw [← List.take_append_drop 1 (cd s), e]
      rfl
    have el : (cd s).length ≤ 61 := by
      have := congrArg List.length ec
      rw [List.length_cons] at this
      omega
    rw [if_pos e, ef]
    exact ⟨PySem.intText_neg (x := s) ec hd h1 (by omega), by omega⟩
  · have ef : figs (cd s) = cd s := if_neg e
    rw [ef] at h1 h2 hd
    rw [if_neg e, ef]
    exact ⟨PySem.intText_digits (x := s) hd h1 (by omega), by omega⟩
/-- figures, by the text of them -/
theorem fig_in (c : Nat) : inB (cd (Str.ofString "0123456789")) [c] = dg c := by
  rw [Bool.eq_iff_iff, inB_iff]
  have e : cd (Str.ofString "0123456789") = [48, 49, 50, 51, 52, 53, 54, 55, 56, 57] := by decide +kernel
  rw [e]
  unfold dg
  rw [decide_eq_true_eq]
  constructor
  · rintro ⟨a, h1, h2⟩
    have h1 : a + 1 ≤ 10 := h1
    have h2 : ([48, 49, 50, 51, 52, 53, 54, 55, 56, 57].drop a).take 1 = [c] := h2
    rcases (show a = 0 ∨ a = 1 ∨ a = 2 ∨ a = 3 ∨ a = 4 ∨ a = 5 ∨ a = 6 ∨ a = 7 ∨ a = 8 ∨ a = 9 by omega) with rfl | rfl | rfl | rfl | rfl | rfl | rfl | rfl | rfl | rfl <;>
    · injection h2 with h3 _
      omega
  · rintro ⟨h1, h2⟩
    refine ⟨c - 48, by show c - 48 + 1 ≤ 10; omega, ?_⟩
    rcases (show c = 48 ∨ c = 49 ∨ c = 50 ∨ c = 51 ∨ c = 52 ∨ c = 53 ∨ c = 54 ∨ c = 55 ∨ c = 56 ∨ c = 57 by omega) with rfl | rfl | rfl | rfl | rfl | rfl | rfl | rfl | rfl | rfl <;> rfl
/-! ### words and rows of a text -/
def joinW (ws : List Str) : Str := Txt.join (Str.ofString " ") ws
def joinN (ls : List Str) : Str := Txt.join (Str.ofString "\n") ls
theorem sp_cdT : cd (Str.ofString " ") = [32] := by decide +kernel
theorem joinW_cd (ws : List Str) : cd (joinW ws) = TL.joinL [32] (ws.map cd) := by
  have e : TL.tl (Txt.join (Str.ofString " ") ws) = TL.joinL (TL.tl (Str.ofString " ")) (ws.map TL.tl) := by
    rw [TL.join_eq, TL.tl_join]
  exact e.trans (by rw [show TL.tl (Str.ofString " ") = [32] from sp_cdT])
theorem joinN_cd (ls : List Str) : cd (joinN ls) = TL.joinL [10] (ls.map cd) := by
  have e : TL.tl (Txt.join (Str.ofString "\n") ls) = TL.joinL (TL.tl (Str.ofString "\n")) (ls.map TL.tl) := by
    rw [TL.join_eq, TL.tl_join]
  exact e.trans (by rw [show TL.tl (Str.ofString "\n") = [10] from nl_cd])
theorem mem_joinL {S : List Nat} {c : Nat} : ∀ {l : List (List Nat)}, c ∈ TL.joinL S l → c ∈ S ∨ ∃ p ∈ l, c ∈ p
  | [], h => by cases h
  | [p], h => .inr ⟨p, List.mem_singleton.mpr rfl, h⟩
  | p :: q :: r, h => by
    have h : c ∈ p ++ (S ++ TL.joinL S (q :: r)) := h
    rcases List.mem_append.mp h with h | h
    · exact .inr ⟨p, List.mem_cons_self .., h⟩
    · rcases List.mem_append.mp h with h | h
      · exact .inl h
      · rcases mem_joinL h with h | ⟨t, ht, h⟩
        · exact .inl h
        · exact .inr ⟨t, List.mem_cons_of_mem _ ht, h⟩
theorem joinL_len (S : List Nat) : ∀ l : List (List Nat), (TL.joinL S l).length ≤ (l.map List.length).sum + l.length * S.length
  | [] => Nat.zero_le _
  | [p] => by
    show p.length ≤ p.length + 0 + _
    omega
  | p :: q :: r => by
    have ih := joinL_len S (q :: r)
    show (p ++ (S ++ TL.joinL S (q :: r))).length ≤ p.length + ((q :: r).map List.length).sum + ((q :: r).length + 1) * S.length
    rw [List.length_append, List.length_append, Nat.succ_mul]
    omega
theorem cdl_sum (ws : List Str) : ((ws.map cd).map List.length).sum = (ws.map (·.length)).sum := by
  rw [List.map_map]
  exact congrArg List.sum (List.map_congr_left fun w _ => cd_len w)
theorem joinW_len (ws : List Str) : (joinW ws).length ≤ (ws.map (·.length)).sum + ws.length := by
  rw [← cd_len, joinW_cd]
  have := joinL_len [32] (ws.map cd)
  rw [cdl_sum, List.length_map] at this
  have e : ws.length * ([32] : List Nat).length = ws.length := Nat.mul_one _
  omega
theorem joinN_len (ls : List Str) : (joinN ls).length ≤ (ls.map (·.length)).sum + ls.length := by
  rw [← cd_len, joinN_cd]
  have := joinL_len [10] (ls.map cd)
  rw [cdl_sum, List.length_map] at this
  have e : ls.length * ([10] : List Nat).length = ls.length := Nat.mul_one _
  omega
theorem join_ok {S : List Nat} {ws : List Str} (hS : ∀ c ∈ S, c < 0x110000) (h : ∀ w ∈ ws, okS w) : ∀ c ∈ TL.joinL S (ws.map cd), c < 0x110000 := fun c hc => by
  rcases mem_joinL hc with hc | ⟨p, hp, hc⟩
  · exact hS c hc
  · obtain ⟨w, hw, rfl⟩ := List.mem_map.mp hp
    exact ok_codes.mp (h w hw) c hc
theorem joinW_ok {ws : List Str} (h : ∀ w ∈ ws, okS w) : okS (joinW ws) := ok_codes.mpr (by rw [joinW_cd]; exact join_ok (by decide) h)
/-! ### rows of words and numbers -/
inductive GP where
  | i (n : Int)
  | s (z : Str)
def GP.d : GP → PyData
  | .i n => .int n
  | .s z => .str z
def GP.v : GP → V
  | .i n => .int n
  | .s z => .str z
def GP.z : GP → Str
  | .i n => numI n
  | .s z => z
def GP.ok : GP → Prop
  | .i n => n.natAbs < 10 ^ 60
  | .s z => okS z ∧ z.length ≤ 400
def GP.cl : GP → Prop
  | .i _ => True
  | .s z => clean z
structure GRow where
  w : Str
  ps : List GP
def GRow.d (r : GRow) : PyData := .tuple (.str r.w :: r.ps.map GP.d)
def GRow.vals (r : GRow) : List V := .str r.w :: r.ps.map GP.v
def GRow.ws (r : GRow) : List Str := r.w :: r.ps.map GP.z
structure GRow.ok (r : GRow) : Prop where
  w : okS r.w
  wl : r.w.length ≤ 4
  p : ∀ q ∈ r.ps, q.ok
  l : r.ps.length ≤ 3
def GRow.cln (r : GRow) : Prop := clean r.w ∧ ∀ q ∈ r.ps, q.cl
def GRow.t (r : GRow) : Str := joinW r.ws
theorem gp_clean {q : GP} (h : q.ok) : okS q.z ∧ q.z.length ≤ 400 := by
  cases q with
  | i n =>
    have := num_len (i := n) (k := 60) (by decide) h
    exact ⟨clean_ok (num_clean n), by show (numI n).length ≤ 400; omega⟩
  | s z => exact h
theorem GRow.oks {r : GRow} (h : r.ok) : ∀ w ∈ r.ws, okS w := fun w hw => by
  rcases List.mem_cons.mp hw with rfl | hw
  · exact h.w
  · obtain ⟨q, hq, rfl⟩ := List.mem_map.mp hw
    exact (gp_clean (h.p q hq)).1
theorem GRow.cl {r : GRow} (h : r.cln) : ∀ w ∈ r.ws, clean w := fun w hw => by
  rcases List.mem_cons.mp hw with rfl | hw
  · exact h.1
  · obtain ⟨q, hq, rfl⟩ := List.mem_map.mp hw
    have := h.2 q hq
    cases q with
    | i n => exact num_clean n
    | s z => exact this
theorem GRow.sum {r : GRow} (h : r.ok) : (r.ws.map (·.length)).sum ≤ 1204 := by
  have e : ∀ ps : List GP, (∀ q ∈ ps, q.ok) → ((ps.map GP.z).map (·.length)).sum ≤ ps.length * 400 := by
    intro ps
    induction ps with
    | nil => intro _; exact Nat.zero_le _
    | cons q ps ih =>
      intro hq
      have h1 := (gp_clean (hq q (List.mem_cons_self ..))).2
      have h2 := ih fun x hx => hq x (List.mem_cons_of_mem _ hx)
      rw [List.map_cons, List.map_cons, List.sum_cons, List.length_cons, Nat.succ_mul]
      omega
  have h1 := e r.ps h.p
  have h2 := h.wl
  have h3 := h.l
  show r.w.length + ((r.ps.map GP.z).map (·.length)).sum ≤ 1204
  omega
theorem GRow.tl {r : GRow} (h : r.ok) : r.t.length ≤ 1208 := by
  have h1 := joinW_len r.ws
  have h2 := r.sum h
  have h3 := h.l
  have e : r.ws.length = r.ps.length + 1 := by show ((r.ps.map GP.z).length + 1) = _; rw [List.length_map]
  show (joinW r.ws).length ≤ 1208
  omega
theorem GRow.tok {r : GRow} (h : r.ok) : okS r.t := joinW_ok (r.oks h)
theorem dp_grow {K : PySem.W.Frag} {F : Hp} : ∀ {ps : List GP} {xs : List V}, DpAll K F xs (ps.map GP.d) → xs = ps.map GP.v
  | [], _, h => dpa_nil h
  | q :: ps, _, h => by
    obtain ⟨v, us, rfl, h1, h2⟩ := dpa_cons h
    rw [dp_grow h2]
    cases q with
    | i n => rw [dp_int h1]; rfl
    | s z => rw [dp_str h1]; rfl
theorem dp_g {K : PySem.W.Frag} {F : Hp} {x : V} {r : GRow} (h : Dp K F x r.d) : ∃ a, x = .ref a ∧ SqT K F a r.vals := by
  obtain ⟨a, vs, rfl, hs, h0⟩ := dp_tup h
  obtain ⟨v1, us, rfl, h1, h2⟩ := dpa_cons h0
  rw [dp_str h1, dp_grow h2] at hs
  exact ⟨a, rfl, hs⟩
def gpT (ls : List GRow) : Str := joinN (ls.map GRow.t)
/-! ### a change's rows, a plan's rows -/
def CRow.g : CRow → GRow
  | .put s => ⟨Str.ofString "put", [.s s]⟩
  | .copy a n => ⟨Str.ofString "copy", [.i (a : Nat), .i (n : Nat)]⟩
theorem crow_gd (r : CRow) : r.g.d = r.d := by cases r <;> rfl
theorem lit_clean : clean (Str.ofString "put") ∧ clean (Str.ofString "copy") ∧ clean (Str.ofString "keep") ∧ clean (Str.ofString "lay") ∧ clean (Str.ofString "size") := by
  refine ⟨?_, ?_, ?_, ?_, ?_⟩ <;> · show ∀ c ∈ cd _, 33 ≤ c ∧ c ≤ 126; decide +kernel
theorem lit_len : (Str.ofString "put").length ≤ 4 ∧ (Str.ofString "copy").length ≤ 4 ∧ (Str.ofString "keep").length ≤ 4 ∧ (Str.ofString "lay").length ≤ 4 ∧ (Str.ofString "size").length ≤ 4 := by decide +kernel
theorem small_nat {a : Nat} (h : a ≤ 400) : ((a : Nat) : Int).natAbs < 10 ^ 60 := by
  rw [Int.natAbs_natCast]
  exact Nat.lt_of_le_of_lt h (by decide +kernel)
theorem crow_cln {r : CRow} (hc : r.cl) : r.g.cln := by
  cases r with
  | put s => exact ⟨lit_clean.1, fun q hq => by rw [List.mem_singleton.mp hq]; exact hc⟩
  | copy a m =>
    refine ⟨lit_clean.2.1, fun q hq => ?_⟩
    rcases List.mem_cons.mp hq with rfl | hq
    · exact trivial
    · rw [List.mem_singleton.mp hq]; exact trivial
theorem crow_gok {n : Nat} {r : CRow} (h : CRowOk n r) (hn : n ≤ 400) (hg : r.gives ≤ 400) : r.g.ok := by
  cases r with
  | put s => exact ⟨clean_ok lit_clean.1, lit_len.1, fun q hq => by rw [List.mem_singleton.mp hq]; exact ⟨h.s.1, hg⟩, by show 1 ≤ 3; decide⟩
  | copy a m =>
    have h1 : a + m ≤ n := h.h
    refine ⟨clean_ok lit_clean.2.1, lit_len.2.1, fun q hq => ?_, by show 2 ≤ 3; decide⟩
    rcases List.mem_cons.mp hq with rfl | hq
    · exact small_nat (by omega)
    · rw [List.mem_singleton.mp hq]; exact small_nat (by omega)
def sizeG (n : Nat) : GRow := ⟨Str.ofString "size", [.i (n : Nat)]⟩
theorem size_cln (n : Nat) : (sizeG n).cln := ⟨lit_clean.2.2.2.2, fun q hq => by rw [List.mem_singleton.mp hq]; exact trivial⟩
theorem crow_gt (r : CRow) : cd r.g.t = rowW r := by
  show cd (joinW r.g.ws) = _
  rw [joinW_cd]
  cases r with
  | put s =>
    show cd (Str.ofString "put") ++ ([32] ++ cd s) = cd (Str.ofString "put ") ++ cd s
    rw [← List.append_assoc, show cd (Str.ofString "put") ++ [32] = cd (Str.ofString "put ") by decide +kernel]
  | copy a n =>
    show cd (Str.ofString "copy") ++ ([32] ++ (cd (numI (a : Nat)) ++ ([32] ++ cd (numI (n : Nat))))) = cd (Str.ofString "copy ") ++ cd (numS a) ++ cd (Str.ofString " ") ++ cd (numS n)
    rw [sp_cd, show cd (Str.ofString "copy ") = cd (Str.ofString "copy") ++ [32] by decide +kernel]
    simp only [List.append_assoc]
    rfl
theorem writ_g {n : Nat} {rows : List CRow} {s : Str} (h : cd s = writL n rows) : s = gpT (sizeG n :: rows.map CRow.g) := by
  refine cd_inj (h.trans ?_)
  unfold gpT
  rw [joinN_cd, List.map_cons, List.map_cons, joinL_nl]
  have e1 : cd (sizeG n).t = cd (Str.ofString "size ") ++ cd (numS n) := by
    show cd (joinW _) = _
    rw [joinW_cd]
    show cd (Str.ofString "size") ++ ([32] ++ cd (numI (n : Nat))) = _
    rw [← List.append_assoc, show cd (Str.ofString "size") ++ [32] = cd (Str.ofString "size ") by decide +kernel]
    rfl
  rw [e1]
  unfold writL rowsW
  congr 1
  rw [List.map_map, List.map_map, List.flatMap_map]
  refine congrArg (fun f => rows.flatMap f) (funext fun r => ?_)
  show 10 :: rowW r = 10 :: cd r.g.t
  rw [crow_gt]
end R
namespace R
open PySem PySem.Spec PyProof.Rows L2
/-! ### written and read: promises -/
def tot (ls : List GRow) : Nat := (ls.map fun r => r.t.length + 1).sum
theorem tot_sum : ∀ ls : List GRow, ((ls.map GRow.t).map (·.length)).sum + ls.length = tot ls
  | [] => rfl
  | r :: ls => by
    have ih := tot_sum ls
    unfold tot at ih ⊢
    rw [List.map_cons, List.map_cons, List.map_cons, List.sum_cons, List.sum_cons, List.length_cons]
    show r.t.length + _ + (ls.length + 1) = (r.t.length + 1) + _
    omega
theorem GRow.ws_len (r : GRow) : r.ws.length = r.ps.length + 1 := by show (r.ps.map GP.z).length + 1 = _; rw [List.length_map]
theorem grow_good {r : GRow} (h : r.ok) : good r.d = true ∧ r.d.depth ≤ 1 := by
  have hd : ∀ d ∈ (PyData.str r.w :: r.ps.map GP.d), good d = true ∧ d.depth ≤ 0 := fun d hd => by
    rcases List.mem_cons.mp hd with rfl | hd
    · exact ⟨str_good h.w (Nat.le_trans h.wl (by decide)), Nat.le_refl _⟩
    · obtain ⟨q, hq, rfl⟩ := List.mem_map.mp hd
      cases q with
      | i n => exact ⟨rfl, Nat.le_refl _⟩
      | s z =>
        have := h.p (.s z) hq
        exact ⟨str_good this.1 (Nat.le_trans this.2 (by decide)), Nat.le_refl _⟩
  constructor
  · refine good_tuple (by rw [List.length_cons, List.length_map]; have := h.l; omega) fun d hx => (hd d hx).1
  · exact depth_tuple fun d hx => (hd d hx).2
theorem n_slT7 {K : PySem.W.Frag} {M : List Addr} {F0 H0 F H : Hp} {L : List Own} {Q : VK} {p : Addr} {xs : List V} {lo hi : Option Int} (w : W M F0 H0 F H L) (hs : SqT K H p xs) (e : ¬ (HT.sIx xs.length 0 lo = 0 ∧ HT.sIx xs.length xs.length hi = xs.length)) (h : ∀ t F2 H2, W M F0 H0 F2 H2 (fx t (.tup (cutV xs lo hi)) :: L) → Q (.ref t) H2) : rSlT K (.ref p) lo hi H Q :=
  ⟨p, xs, rfl, hs, e, fun l hl => h l _ _ ((w.im (u := .tup (cutV xs lo hi)) hl).push (fx l (.tup (cutV xs lo hi))) upd_same)⟩
theorem sIx_one (k : Nat) : HT.sIx (k + 1) 0 (some 1) ≠ 0 := by
  unfold HT.sIx
  simp
theorem log_of {i : Int} (h : i.natAbs < 10 ^ 60) : i.natAbs.log2 < 1920 := by
  by_cases h0 : i.natAbs = 0
  · rw [h0]
    decide
  · exact (Nat.log2_lt h0).mpr (Nat.lt_trans h (by decide +kernel))
theorem slen_sp7 : (Str.ofString " ").length = 1 := by decide +kernel
theorem slen_nl7 : (Str.ofString "\n").length = 1 := by decide +kernel
theorem GRow.jsum {r : GRow} (h : r.ok) : (r.ws.map (·.length)).sum + r.ws.length * (Str.ofString " ").length ≤ 16777216 := by
  have h1 := r.sum h
  have h2 := r.ws_len
  have h3 := h.l
  rw [slen_sp7]
  omega
/-- signs that are no figures, told as texts -/
def badS (cs : List Nat) : List Nat := cs.filter fun c => !dg c
theorem n_neS {K : PySem.W.Frag} {H : Hp} {Q : VK} {p r : Addr} {cs : List Nat} (h1 : SqL K H p (cs.map fun c => V.str ⟨#[c]⟩)) (h2 : SqL K H r []) (l1 : cs.length ≤ 100000) (ho : ∀ c ∈ cs, c < 0x110000) (q : Q (.bl (!decide (cs = []))) H) : rNeD K (.ref p) (.ref r) H Q := by
  have hd : ∀ (F : Hp) (cs : List Nat), DpAll K F (cs.map fun c => V.str ⟨#[c]⟩) (cs.map fun c => PyData.str ⟨#[c]⟩) := fun F cs => by
    induction cs with
    | nil => exact .nil
    | cons c cs ih => exact .cons (.str _) ih
  have g1 : good (.list (cs.map fun c => PyData.str ⟨#[c]⟩)) = true := good_list (by rw [List.length_map]; exact l1) fun d hd => by
    obtain ⟨k, hk, rfl⟩ := List.mem_map.mp hd
    exact str_good (ok_codes.mpr fun e he => by rw [List.mem_singleton.mp he]; exact ho k hk) (by show 1 ≤ 100000; decide)
  have g2 : (PyData.list (cs.map fun c => PyData.str ⟨#[c]⟩)).depth ≤ 1 := depth_list fun d hd => by
    obtain ⟨k, _, rfl⟩ := List.mem_map.mp hd
    exact Nat.le_refl _
  refine ⟨_, _, .lst h1 (hd _ _), .lst h2 .nil, good_shaped g1 (Nat.le_trans g2 (by decide)), good_shaped rfl (by decide), ?_⟩
  cases cs <;> exact q
theorem str_is {s z : Str} : s = z ↔ cd s = cd z := ⟨fun e => by rw [e], cd_inj⟩
theorem cd_minus : cd (Str.ofString "-") = [45] := by decide +kernel
theorem cd_nought : cd (Str.ofString "0") = [48] := by decide +kernel
theorem cd_none : cd (Str.ofString "") = [] := by decide +kernel
theorem isn1 {cs : List Nat} (h : figs cs = []) : isNumB cs = false := by
  unfold isNumB
  rw [decide_eq_true h]
  rfl
theorem isn2 {cs : List Nat} (h : 60 < (figs cs).length) : isNumB cs = false := by
  unfold isNumB
  rw [decide_eq_true h]
  simp
theorem isn3 {cs : List Nat} (h : badS (figs cs) ≠ []) : isNumB cs = false := by
  unfold isNumB
  rw [decide_eq_false (show ¬ (figs cs).filter (fun c => !dg c) = [] from h)]
  simp
theorem isn4 {cs : List Nat} (h1 : figs cs ≠ []) (h2 : ¬ 60 < (figs cs).length) (h3 : badS (figs cs) = []) : isNumB cs = (decide (cs = [48]) || !decide ((figs cs).take 1 = [48])) := by
  unfold isNumB
  rw [decide_eq_false h1, decide_eq_false h2, decide_eq_true (show (figs cs).filter (fun c => !dg c) = [] from h3)]
  rfl
/-- rows of a plan that can be read -/
inductive PR : GRow → Prop where
  | put (to : Int) (s : Str) : to.natAbs < 10 ^ 60 → clean s → 1 ≤ s.length → s.length ≤ 400 → PR ⟨Str.ofString "put", [.i to, .s s]⟩
  | three (w : Str) (to f m : Int) : (w = Str.ofString "keep" ∨ w = Str.ofString "copy" ∨ w = Str.ofString "lay") → to.natAbs < 10 ^ 60 → f.natAbs < 10 ^ 60 → m.natAbs < 10 ^ 60 → PR ⟨w, [.i to, .i f, .i m]⟩
theorem PR.ok {r : GRow} (h : PR r) : r.ok ∧ r.cln := by
  cases h with
  | put to s h1 h2 h3 h4 =>
    refine ⟨⟨clean_ok lit_clean.1, lit_len.1, fun q hq => ?_, by show 2 ≤ 3; decide⟩, lit_clean.1, fun q hq => ?_⟩
    · rcases List.mem_cons.mp hq with rfl | hq
      · exact h1
      · rw [List.mem_singleton.mp hq]; exact ⟨clean_ok h2, h4⟩
    · rcases List.mem_cons.mp hq with rfl | hq
      · exact trivial
      · rw [List.mem_singleton.mp hq]; exact h2
  | three w to f m hw h1 h2 h3 =>
    have hc : clean w ∧ w.length ≤ 4 := by
      rcases hw with rfl | rfl | rfl
      · exact ⟨lit_clean.2.2.1, lit_len.2.2.1⟩
      · exact ⟨lit_clean.2.1, lit_len.2.1⟩
      · exact ⟨lit_clean.2.2.2.1, lit_len.2.2.2.1⟩
    refine ⟨⟨clean_ok hc.1, hc.2, fun q hq => ?_, by show 3 ≤ 3; decide⟩, hc.1, fun q hq => ?_⟩
    · simp only [List.mem_cons, List.not_mem_nil, or_false] at hq
      rcases hq with rfl | rfl | rfl
      · exact h1
      · exact h2
      · exact h3
    · simp only [List.mem_cons, List.not_mem_nil, or_false] at hq
      rcases hq with rfl | rfl | rfl <;> exact trivial
theorem dpa_strs {K : PySem.W.Frag} {F : Hp} : ∀ ws : List Str, DpAll K F (ws.map V.str) (ws.map .str)
  | [] => .nil
  | _ :: ws => .cons (.str _) (dpa_strs ws)
theorem strs_dpa {K : PySem.W.Frag} {F : Hp} : ∀ {ws : List Str} {xs : List V}, DpAll K F xs (ws.map PyData.str) → xs = ws.map V.str
  | [], _, h => dpa_nil h
  | w :: ws, _, h => by
    obtain ⟨v, us, rfl, h1, h2⟩ := dpa_cons h
    rw [strs_dpa h2, dp_str h1]
    rfl
theorem mapS_at {α : Type} {f : α → V} {l : List α} {i : Nat} {x : V} (h : (l.map f)[i]? = some x) : ∃ y, l[i]? = some y ∧ x = f y := by
  rw [List.getElem?_map] at h
  cases e : l[i]? with
  | none => rw [e] at h; cases h
  | some y => rw [e] at h; exact ⟨y, rfl, (Option.some.inj h).symm⟩
theorem gpT_one (r : GRow) : gpT [r] = r.t := cd_inj (by
  show cd (joinN [r.t]) = _
  rw [joinN_cd]
  rfl)
theorem tot_one (r : GRow) : tot [r] = r.t.length + 1 := rfl
def φcwrit71 (K : PySem.W.Frag) : V → V → Hp → VK → Prop := fun x y H Q => ∃ (F : Hp) (a : Addr) (vs : List V) (n : Nat) (rows : List CRow), x = .int (n : Nat) ∧ y = .ref a ∧ Same F H ∧ SqL K F a vs ∧ DpAll K F vs (rows.map CRow.d) ∧ RowsOk n rows ∧ n ≤ 400 ∧ ∀ s F2 H2, W [] F H F2 H2 [] → cd s = writL n rows → Q (.str s) H2
def φtextC (K : PySem.W.Frag) : V → V → Hp → VK → Prop := fun x y H Q => ∃ (F : Hp) (b : Addr) (n : Int), x = .ref b ∧ y = .int n ∧ St F H [bag K b] ∧ 0 ≤ n ∧ n ≤ 1000 ∧
  ∀ (s : Str) F2 H2, W [b] F H F2 H2 [bag K b] → (s.length : Int) = n → clean s → Q (.str s) H2
def φrowC (K : PySem.W.Frag) : V → V → V → V → Hp → VK → Prop := fun x1 x2 x3 x4 H Q => ∃ (F : Hp) (b l : Addr) (n : Nat) (left : Int) (zs : List V), x1 = .ref b ∧ x2 = .int (n : Nat) ∧ x3 = .int left ∧ x4 = .ref l ∧ St F H [bag K b] ∧ SqL K F l zs ∧ (zs = [] ∨ ∃ v r, zs = [v] ∧ Dp K F v (CRow.d r) ∧ CRowOk n r) ∧ n ≤ 400 ∧ 1 ≤ left ∧ left ≤ 400 ∧
  ∀ v r F2 H2, W [b] F H F2 H2 [dat K v (CRow.d r), bag K b] → CRowOk n r → (r.gives : Int) ≤ left → r.cl → Q v H2
def φrowsC (K : PySem.W.Frag) : V → V → V → V → Hp → VK → Prop := fun x1 x2 x3 x4 H Q => ∃ (F : Hp) (b : Addr) (n : Nat) (many most : Int), x1 = .ref b ∧ x2 = .int (n : Nat) ∧ x3 = .int many ∧ x4 = .int most ∧ St F H [bag K b] ∧ n ≤ 400 ∧ 0 ≤ many ∧ many ≤ 1000 ∧ 0 ≤ most ∧ most ≤ 400 ∧
  ∀ p ys rows F2 H2, H p = none → W [b] F H F2 H2 [mu p (.lst ys), dpa K ys (rows.map CRow.d), bag K b] → RowsOk n rows → (givesL rows : Int) ≤ most → (∀ r ∈ rows, r.cl) → Q (.ref p) H2
theorem crowc_snoc {rows : List CRow} {r : CRow} (h : ∀ q ∈ rows, q.cl) (hr : r.cl) : ∀ q ∈ rows ++ [r], q.cl := fun q hq => by
  rcases List.mem_append.mp hq with hq | hq
  · exact h q hq
  · rw [List.mem_singleton.mp hq]; exact hr
theorem sig_clean : ∀ c ∈ cd sig93, 33 ≤ c ∧ c ≤ 126 := by decide +kernel
theorem atI_memT {α : Type} {xs : List α} {i : Int} {x : α} (h : atI xs i = some x) : x ∈ xs := by
  unfold atI at h
  obtain ⟨k, _, e⟩ := Option.bind_eq_some_iff.mp h
  exact List.mem_of_getElem? e
theorem w_ixLC {z : Str} {r : Int} {n : Int} {H : Hp} {Q : VK} (ok : clean z) (hn : (z.length : Int) = n) (hs : z.length ≤ 1000) (r0 : 0 ≤ r) (r1 : r < n) (q : ∀ s : Str, s.length = 1 → clean s → Q (.str s) H) : rIxS (.str z) (.int r) H Q := by
  obtain ⟨c, ec, _⟩ := sign_at (z := z) (clean_ok ok) r0 (by rw [hn]; exact r1)
  refine w_ixS (le1000 hs) ec (q _ rfl fun d hd => ?_)
  have : d = c := List.mem_singleton.mp hd
  subst this
  exact ok d (atI_memT ec)
theorem joinedC (ys : List Str) (h : ∀ y ∈ ys, y.length = 1 ∧ clean y) : (Txt.join ⟨#[]⟩ ys).length = ys.length ∧ clean (Txt.join ⟨#[]⟩ ys) := by
  refine ⟨(joined ys fun y hy => ⟨(h y hy).1, clean_ok (h y hy).2⟩).1, fun c hc => ?_⟩
  rw [join_cd ys] at hc
  obtain ⟨y, hy, hc⟩ := List.mem_flatMap.mp hc
  exact (h y hy).2 c hc
def φisnum71 (K : PySem.W.Frag) : V → Hp → VK → Prop := fun x H Q => ∃ (F : Hp) (s : Str), x = .str s ∧ Same F H ∧ okS s ∧ s.length ≤ 100000 ∧ ∀ F2 H2, W [] F H F2 H2 [] → Q (.bl (isNumB (cd s))) H2
def φptext71 (K : PySem.W.Frag) : V → Hp → VK → Prop := fun x H Q => ∃ (F : Hp) (a : Addr) (vs : List V) (ls : List GRow), x = .ref a ∧ Same F H ∧ SqL K F a vs ∧ DpAll K F vs (ls.map GRow.d) ∧ (∀ r ∈ ls, r.ok) ∧ ls.length ≤ 1000 ∧ tot ls ≤ 100000 ∧
  ∀ F2 H2, W [] F H F2 H2 [] → Q (.str (gpT ls)) H2
end R
/-! ### [f(x) for x in xs], where f may raise an own exception -/
namespace R
open PySem PySem.Spec PyProof.Rows L2
/-- how a block's run ends: its variables are let go, then the new list or the exception goes on -/
def EndX (M : Model) (A : Around) (E : Value → Shared → Prop) (Q : Value → Shared → Prop) (acc : Value) (cenv : Env) (r : Result) (s' : Shared) : Prop :=
  ∃ m, s'.heap.Ns cenv.locals m ∧ ∀ h', Heap.SameBut cenv.locals s'.heap h' →
    match r with
    | .ok _ => Q acc { s' with heap := h' }
    | .error x => wpAny M A (passOn "comprehension.variables-let-go" x cenv : Sem Value) (fun _ _ => False) E { s' with heap := h' }
theorem comp_freeX {M : Model} {A : Around} {E : Value → Shared → Prop} {s : Shared} {env : Env} {e : Expr} {scope : Scope} {pos : Pos} {newAcc first : Sem Value} {g : Comprehension} {gs : List Comprehension} {cl : List (Str × Addr)} {Q : Value → Shared → Prop}
    (hcl : clausesOf e = g :: gs) (hs : ∀ x, foldedSetIterable g.iter env x = pure x) (hclos : closureFor scope env = pure cl) (hkind : scope.kind = .function) (hnames : ∀ x ∈ scope.names, x.2 = .local → scope.names.lookup x.1 = some .local)
    (h : wpAny M A first (fun x s₁ => wpAny M A (pyIter x) (fun it s₂ => wpAny M A newAcc (fun acc s₃ => wpAny M A (newFunctionEnv scope env.globals cl [] env.qual none .none (some env)) (fun cenv s₄ =>
      codeAny M A (.compStart e 0 it acc { cenv with scope := relabel scope env }) (EndX M A E Q acc { cenv with scope := relabel scope env }) s₄) E s₃) E s₂) E s₁) E s) :
    wpAny M A (comprehension e scope env pos newAcc false first none) Q E s := by
  have loc : ∀ (cenv : Env), ∀ x ∈ (scope.names.filter fun x => (x.2 == .local || x.2 == .cell) && x.1 != (".0" : Str)).reverse, x.2 = .local → Env.kindOf { cenv with scope := relabel scope env } x.1 = some .local :=
    fun cenv x hx hl => lookup_relabel_local (hnames x (List.mem_filter.mp (List.mem_reverse.mp hx)).1 hl)
  unfold comprehension
  rw [hclos, hcl]
  refine wpAny_bind (wpAny_mono h (fun x s₁ h₁ => wpAny_bind (wpAny_standAt (wpAny_bind (wpAny_of_eq (hs x) (wpAny_bind (wpAny_holding (wpAny_mono h₁ (fun it s₂ h₂ => ?_) fun _ _ y => y))))))) fun _ _ y => y)
  refine wpAny_standIf (wpAny_bind (wpAny_mono h₂ (fun acc s₃ h₃ => wpAny_bind (wpAny_pure (wpAny_bind (wpAny_mono h₃ (fun cenv s₄ h₄ => ?_) fun _ _ y => y)))) fun _ _ y => y))
  dsimp only
  refine wpAny_holding (wpAny_bind (wpAny_attempt (wpAny_holding (wpAny_run (codeAny_mono h₄ fun r s' hr => ?_)))))
  obtain ⟨m, hn, hr⟩ := hr
  cases r with
  | ok f => exact wpAny_bind (wpAny_holding (wpAny_comp_letGo (cenv := { cenv with scope := relabel scope env }) hkind _ s' m (loc cenv) hn fun h' m' _ sb => wpAny_pure (hr h' sb)))
  | error x => exact wpAny_bind (wpAny_holding (wpAny_comp_letGo (cenv := { cenv with scope := relabel scope env }) hkind _ s' m (loc cenv) hn fun h' m' _ sb => wpAny_mono (hr h' sb) (fun _ _ z => z.elim) fun _ _ y => y))
/-- within a block: what a callee may let out is taken -/
abbrev TakesC (X : Cx) (W : WX) : Prop := ∀ σ, PassesAt (L2.CX X.prog X.w) X σ (WE W σ)
theorem frames_but {h h' B : Heap} {C : Addr} (sb : Heap.SameBut C h h') : ∀ {l : List Env}, (∀ L ∈ frs l, L ≠ C) → h.FunFrames B l → h'.FunFrames B l
  | [], _, _ => trivial
  | env :: l, hn, ⟨hk, ⟨L, o, hf, hB, ho, hd⟩, hr⟩ => by
    have hm : L ∈ frs (env :: l) := List.mem_filterMap.mpr ⟨env, List.mem_cons_self, hf⟩
    refine ⟨hk, ⟨L, o, hf, hB, (sb.2 L (hn L hm)).trans ho, hd⟩, frames_but sb (fun b hb => hn b ?_) hr⟩
    obtain ⟨e, he, q⟩ := List.mem_filterMap.mp hb
    exact List.mem_filterMap.mpr ⟨e, List.mem_cons_of_mem _ he, q⟩
/-- an exception out of a block is in the def's air -/
theorem blk_out {X : Cx} {W : WX} {pins pn : List (Addr × Obj)} {σ : L2.St} {H3 : Hp} {s3 : Shared} {scope : Scope} {ce : Env} {fp : List Addr} {Q : Value → Shared → Prop} {acc : Value} {xe : Value → Shared → Prop}
    (tk : Takes X W) (hs : X.stack = X.env :: X.outer) (hf : X.env.frame = some X.env.locals) (I3 : Inv X pins σ H3 s3) (hce : ce.locals = s3.heap.objs.size) (hcf : ce.frame = X.env.frame)
    (f3 : ∀ b ∈ fp, FpOk X pins H3 b ∧ b < s3.heap.objs.size) (hxe : xe = notedBy (model X.prog X.w) X.A ce fun e s' => EndX (model X.prog X.w) X.A X.xe Q acc ce (.error e) s') :
    TakesC ((X.blk s3 H3 scope ce fp).tr pn xe) (fun cls d _ H => W cls d σ H) := by
  intro σ' pins' H s e s' I c
  have x := XE.of_call (W := fun cls d _ H => W cls d σ H) I (fun _ _ _ h => h) c
  obtain ⟨a, B, sI, pins2, σ2, H2, cls, d, rfl, J, nb, up, sky, na, os, ag, w⟩ := x
  obtain ⟨a', B0, H0', cls0, d0, ea, fl0, _⟩ := c
  cases ea
  have fl : HandSPX.FlyingZ B X.stack a (Zc cls d) s'.heap := by
    obtain ⟨_, _, _, oe2, vs2, T2, oT2, ts2, he2, _, hd2, h12, _, _, hT2, hdT2, h32⟩ := fl0
    rcases sky with ⟨_, _, _, oe, vs, he, hz, hd, h1⟩ | fl | hh
    · rw [he] at he2; cases he2; rw [hd] at hd2; cases hd2; rw [h1] at h12; cases h12
    · exact fl
    · obtain ⟨_, _, _, oe, vs, T, oT, ts, he, _, hd, h1, _, _, hT, hdT, h3⟩ := hh
      rw [he] at he2; cases he2; rw [hd] at hd2; cases hd2; rw [h1] at h12; cases h12
      rw [hT] at hT2; cases hT2; rw [hdT] at hdT2; cases hdT2; rw [h3] at h32; cases h32
  have nfr : ∀ L ∈ frs X.stack, L ≠ s3.heap.objs.size := fun L hL e => by
    obtain ⟨_, o, ho, _⟩ := I3.stack.mem hL
    exact absurd (Heap.lt_size ho) (by rw [e]; exact Nat.lt_irrefl _)
  show xe (.ref a) s'
  rw [hxe]
  show wpAny _ _ (noteFrame (.ref a) ce) _ _ s'
  have e1 : noteFrame (.ref a) ce = noteFrame (.ref a) X.env := by
    unfold noteFrame PySem.frameOf
    rw [hcf]
  rw [e1]
  rw [hs] at fl
  refine HandSPX.looks_onZ (env := X.env) (outer := X.outer) Zc.steady (by rw [I3.ok.frames, hs]) hf fl fun h1 hh up1 => ?_
  rw [← hs] at hh
  obtain ⟨m, hm, _⟩ := J.loc
  have hm : sI.heap.Ns ce.locals m := hm
  have ns1 : h1.Ns ce.locals m := up1.ns (up.ns hm)
  refine ⟨m, ns1, fun h2 sb => ?_⟩
  obtain ⟨oC, es, ep, hoC, hdC, _⟩ := ns1
  obtain ⟨k1, k2, k3, oe, vs, T, oT, ts, he, hz, hd, hv1, hnT, hTe, hT, hdT, hv3⟩ := hh
  have nCa : a ≠ ce.locals := fun z => by rw [z, hoC] at he; cases he; rw [hdC] at hd; cases hd
  have nCT : T ≠ ce.locals := fun z => by rw [z, hoC] at hT; cases hT; rw [hdC] at hdT; cases hdT
  have he2 : h2.get? a = some oe := (sb.2 a nCa).trans he
  have hT2 : h2.get? T = some oT := (sb.2 T nCT).trans hT
  have hide : ∀ {h : Heap} {b : Addr} {o : Obj}, (PySem.W.hideAll h [ce.locals]).get? b = some o → h.get? b = some o ∧ b ≠ ce.locals := fun {h b o} q => by
    refine ⟨PySem.W.of_hideAll _ q, fun z => ?_⟩
    rw [z, PySem.W.hideAll_none _ (List.mem_singleton.mpr rfl)] at q
    cases q
  have hideN : ∀ {h : Heap} {b : Addr}, h.get? b = none → (PySem.W.hideAll h [ce.locals]).get? b = none := fun {h b} q => by
    cases z : (PySem.W.hideAll h [ce.locals]).get? b with
    | none => rfl
    | some o => rw [PySem.W.of_hideAll _ z] at q; cases q
  have nfl : ∀ L ∈ frs X.stack, (PySem.W.hideAll B [ce.locals]).get? L = none := fun L hL => hideN (k3.mem hL).1
  have ff2 : h2.FunFrames (PySem.W.hideAll B [ce.locals]) X.stack := frames_but sb (fun L hL => by rw [hce]; exact nfr L hL) (funFrames_none k3 nfl)
  have st2 : (PySem.W.hideAll B [ce.locals]).StaysIn h2 := fun b o q => (sb.2 b (hide q).2).trans (k1 b o (hide q).1)
  have tr2 : HandSPX.TracedZ h2 (PySem.W.hideAll B [ce.locals]) a (Zc cls d) (rawInt X.env.locals) := ⟨oe, vs, T, oT, ts, he2, hz, hd, hv1, hideN hnT, hTe, hT2, hdT, hv3⟩
  have I7 : Inv X pins σ H2 sI := I3.call' (ch := fp) J.os J.base J.hok J.bare fun b hb => ⟨(f3 b hb).1.2.2.2.1, (f3 b hb).1.2.1, (f3 b hb).1.2.2.2.2.1, (f3 b hb).1.2.2.2.2.2⟩
  have nC : H2 ce.locals = none := J.free
  obtain ⟨g0, g1, g2, g3, g4, g5⟩ := I3.fpOk (H' := H2) (b := ce.locals) (Nat.le_of_eq hce.symm) nC
  have I8 := I7.turned (t' := sI.toks) (h' := PySem.W.hideAll sI.heap [ce.locals]) (it := ce.locals) (fun b o hb q => PySem.W.hideAll_get _ q (fun z => hb (List.mem_singleton.mp z))) g0 g1 g3 g4 g5
  have fin : wpAny (model X.prog X.w) X.A (setFlight (.ref a) ce.frame) (fun _ s4 => wpAny (model X.prog X.w) X.A (throw (.ref a) : Sem Value) (fun _ _ => False) X.xe s4) X.xe { s' with heap := h2 } := by
    rw [hcf, hf]
    refine HandSPX.setFlight_anyZ (base := PySem.W.hideAll B [ce.locals]) (l := X.stack) (Z := Zc cls d) (fl := rawInt X.env.locals) st2 ff2 tr2 fun h4 j1 j2 j3 j4 => wpAny_throw (tk _ _ ?_)
    refine ⟨a, PySem.W.hideAll B [ce.locals], _, pins, σ, H2, cls, d, rfl, I8, fun b o q hb => PySem.W.hideAll_get _ (nb b o (hide q).1 hb) (fun z => (hide q).2 (List.mem_singleton.mp z)), fun b o q hnf => ?_, .inr (.inr ⟨j1, hideN k2, j2, j3⟩), na, os, ag, w⟩
    obtain ⟨sl1, q1⟩ := up b o (hide q).1 hnf
    obtain ⟨sl2, q2⟩ := up1 b _ q1 hnf
    obtain ⟨sl3, q3⟩ := j4 b _ ((sb.2 b (hide q).2).trans q2) hnf
    exact ⟨sl3, q3⟩
  show wpAny _ _ (passOn _ _ _) _ _ _
  unfold PySem.passOn
  refine wpAny_bind (wpAny_field he2 hd hv1 ?_)
  rw [if_neg (show ¬ ((Value.ref T == Value.none) = true) from by simp)]
  first
    | exact wpAny_bind (wpAny_pure (wpAny_bind fin))
    | exact wpAny_bind fin
/-- the element told with what it may let out -/
def tLcX (wi : TI) (g : TG) (tt : TT) (te : WX → TE) (vs : List Nat) (W : WX) : TE := fun σ H Q => tLc wi g tt (te fun cls d _ H => W cls d σ H) vs σ H Q
theorem pe_lcX {X : Cx} {W : WX} {elt tg iter : Expr} {ifs : List Expr} {scope : Scope} {own : List (Str × Nat)} {pos : Pos} {wi : TI} {g : TG} {tt : TT} {te : WX → TE} (hc : X.calm = true) (hN : X.N.Nodup) (tk : Takes X W) (hs : X.stack = X.env :: X.outer) (hf : X.env.frame = some X.env.locals)
    (hi : PI X tg iter wi) (ok : BlkOk X.N X.env.scope scope own)
    (hg : ∀ (s : Shared) (H : Hp) (C : Addr) (cl : List (Str × Addr)) (fp : List Addr), PG (X.blk s H scope (compEnvC scope cl C X.env) fp) tg g)
    (ht : ∀ (s : Shared) (H : Hp) (C : Addr) (cl : List (Str × Addr)) (fp : List Addr), PTs (X.blk s H scope (compEnvC scope cl C X.env) fp) ifs tt)
    (he : ∀ (s : Shared) (H : Hp) (C : Addr) (cl : List (Str × Addr)) (fp : List Addr) (pn : List (Addr × Obj)) (xe : Value → Shared → Prop) (W : WX), TakesC ((X.blk s H scope (compEnvC scope cl C X.env) fp).tr pn xe) W → PE ((X.blk s H scope (compEnvC scope cl C X.env) fp).tr pn xe) elt (te W))
    (hfs : ∀ x, foldedSetIterable iter X.env x = pure x := by intro _; rfl) :
    PE X (.ListComp elt [⟨tg, iter, ifs, 0⟩] scope pos) (tLcX wi g tt te (own.map (·.2)) W) := by
  refine ⟨fun pins s σ H Q I h => ?_⟩
  rw [eval_ListComp]
  have hfree : ∀ y ∈ scope.names, y.2 = .free → ∃ c, X.env.cells.lookup y.1 = some c := fun y hy e => (ok.free y hy e).elim (fun k => I.ok.has _ (.inl k)) fun k => I.ok.has _ (.inr k)
  refine comp_freeX rfl hfs (closure_ok hfree) ok.kind (fun y hy e => by rw [ok.uniq y hy, e]) (thn (hi.run pins s σ H _ I h) fun xv s1 hx => thn hx fun itv s2 h2 => ?_)
  obtain ⟨it, fp, tn, J, H2, e, I2, T, st2, f2, q⟩ := h2
  subst e
  refine wpAny_newObj_type (newEnv_comp ?_) (by show 0 ≤ sizeLine; decide)
  generalize hD : s2.heap.objs.size = D
  obtain ⟨Wt, ⟨m0, w0⟩, turn⟩ := q D (I2.hok.fresh (Nat.le_of_eq hD))
  have hnew : ({ s2 with heap := s2.heap.push { cls := .type "list", data := .seq ([] : List Value).toArray } } : Shared).heap = s2.heap.push { cls := .type "list", data := .seq ([] : List Value).toArray } := rfl
  generalize hs3 : ({ s2 with heap := s2.heap.push { cls := .type "list", data := .seq ([] : List Value).toArray } } : Shared) = s3 at hnew ⊢
  have I3 : Inv X pins σ (upd H2 D (.lst [])) s3 := by
    rw [← hs3]
    refine I2.laid (t' := s2.toks) (fun b o e => Heap.get?_push_of_some _ e) (Nat.le_of_eq hD) ⟨Nat.zero_le _, [], 0, .nil, ?_⟩
    rw [← hD]
    exact Heap.get?_push_size _ rfl
  have f3 : ∀ b ∈ fp, FpOk X pins (upd H2 D (.lst [])) b ∧ b < s3.heap.objs.size := fun b hb => by
    obtain ⟨o, e, _⟩ := T.obj _ _ st2 b hb
    have hlt := Heap.lt_size e
    exact ⟨⟨by rw [upd_ne (by rw [← hD]; exact Nat.ne_of_lt hlt)]; exact (f2 b hb).1, (f2 b hb).2⟩, by rw [hnew, Heap.size_push]; exact Nat.lt_succ_of_lt hlt⟩
  have st3 : tn 0 s3.heap := T.keep _ _ _ st2 fun b _ o e => by rw [hnew]; exact Heap.get?_push_of_some _ e
  have I4 := block_start I3 ok hN f3
  have pg := hg s3 (upd H2 D (.lst [])) s3.heap.objs.size (cellsFrom (s3.heap.objs.size + 1) scope.names (cloFrom X.env.cells scope.names [])) fp
  have pt := ht s3 (upd H2 D (.lst [])) s3.heap.objs.size (cellsFrom (s3.heap.objs.size + 1) scope.names (cloFrom X.env.cells scope.names [])) fp
  have pe := he s3 (upd H2 D (.lst [])) s3.heap.objs.size (cellsFrom (s3.heap.objs.size + 1) scope.names (cloFrom X.env.cells scope.names [])) fp
  show codeAny _ _ (.compStart (.ListComp elt [⟨tg, iter, ifs, 0⟩] scope pos) 0 (.ref it) (.ref D) (compEnvC scope (cellsFrom (s3.heap.objs.size + 1) scope.names (cloFrom X.env.cells scope.names [])) s3.heap.objs.size X.env)) (EndX (model X.prog X.w) X.A X.xe (EP X pins σ Q) (.ref D) (compEnvC scope (cellsFrom (s3.heap.objs.size + 1) scope.names (cloFrom X.env.cells scope.names [])) s3.heap.objs.size X.env)) { s3 with heap := pushCells (s3.heap.push { cls := .type "dict", data := .dict #[] }) scope.names }
  generalize hce : compEnvC scope (cellsFrom (s3.heap.objs.size + 1) scope.names (cloFrom X.env.cells scope.names [])) s3.heap.objs.size X.env = ce at I4 pg pt pe ⊢
  have cL : ce.locals = s3.heap.objs.size := by subst hce; rfl
  have cF : ce.frame = X.env.frame := by subst hce; rfl
  have nfp : ∀ b ∈ fp, (upd H2 D (.lst [])) b = none := fun b hb => (f3 b hb).1.1
  generalize hH3 : upd H2 D (.lst []) = H3 at I3 I4 pg pt pe w0 nfp f3
  generalize hs4 : ({ s3 with heap := pushCells (s3.heap.push { cls := .type "dict", data := .dict #[] }) scope.names } : Shared) = s4 at I4 ⊢
  have st4 : tn 0 s4.heap := T.keep _ _ _ st3 fun b _ o e => by rw [← hs4]; exact pushCells_keeps _ _ _ _ (Heap.get?_push_of_some _ e)
  obtain ⟨xe0, hxe⟩ : ∃ xe0 : Value → Shared → Prop, xe0 = notedBy (model X.prog X.w) X.A ce fun e s' => EndX (model X.prog X.w) X.A X.xe (EP X pins σ Q) (.ref D) ce (.error e) s' := ⟨_, rfl⟩
  have stat : ∀ {σ' : L2.St} {H' : Hp} {s' : Shared}, Inv (X.blk s3 H3 scope ce fp) [] σ' H' s' → (∀ b ∈ fp, H' b = none) → ∀ b ∈ fp, FpOk (X.blk s3 H3 scope ce fp) [] H' b := fun {σ' H' s'} I' hn b hb =>
    ⟨hn b hb, (I'.ok.exf b hb).1, I'.ok.exfs b hb, .inl hb, fun x c e => (I'.ok.exf b hb).2 x c e, fun p hp => absurd (show p ∈ ([] : List (Addr × Obj)) ++ [] from hp) (by simp)⟩
  have loop : codeAny (model X.prog X.w) X.A (.compLoop (.ListComp elt [⟨tg, iter, ifs, 0⟩] scope pos) 0 (.ref it) (.ref D) ce) (EndX (model X.prog X.w) X.A X.xe (EP X pins σ Q) (.ref D) ce) s4 := by
    refine compLoop_any (fun n s' => ∃ i H', Inv (X.blk s3 H3 scope ce fp) [] (wipe σ (own.map (·.2))) H' s' ∧ tn i s'.heap ∧ (∀ b ∈ fp, H' b = none) ∧ Wt i n H') ?_ m0 ⟨0, H3, I4, st4, nfp, w0⟩
    rintro n s5 ⟨i, H5, I5, st5, n5, w5⟩
    rcases turn i n H5 w5 with ⟨stop, qq⟩ | ⟨go, Nx, hNx, step⟩
    · refine thnF (T.done (X.blk s3 H3 scope ce fp) rfl rfl rfl hc i [] s5 _ H5 (fun _ _ => False) I5 (stat I5 n5) st5 stop) fun r s6 ⟨hr, I6⟩ => ?_
      subst hr
      have I7 : Inv X pins σ H5 s6 := I3.call' (ch := fp) I6.os I6.base I6.hok I6.bare fun b hb => ⟨(f3 b hb).1.2.2.2.1, (f3 b hb).1.2.1, (f3 b hb).1.2.2.2.2.1, (f3 b hb).1.2.2.2.2.2⟩
      have nC : H5 ce.locals = none := I6.free
      obtain ⟨m, hn, _⟩ := I6.loc
      obtain ⟨g0, g1, g2, g3, g4, g5⟩ := I3.fpOk (H' := H5) (b := ce.locals) (Nat.le_of_eq cL.symm) nC
      exact ⟨m, hn, fun h' sb => ⟨.ref D, H5, I7.turned (t' := s6.toks) (fun b o hb e => (sb.2 b hb).trans e) g0 g1 g3 g4 g5, rfl, qq⟩⟩
    · refine thnF (T.item (X.blk s3 H3 scope ce fp) rfl rfl rfl hc i [] s5 _ H5 (fun _ _ => False) I5 (stat I5 n5) st5 go) fun r s6 ⟨u, hr, h6⟩ => ?_
      subst hr
      refine thnF h6 fun _ s7 ⟨x, H7, I7, r7, y7, st7, n7⟩ => ?_
      refine thnF (pg.run _ s7 _ H7 x u _ (I7.pinned (stat I7 n7) (T.obj _ _ st7)) r7 (step x H7 y7)) fun _ s8 ⟨σ8, H8, I8, hw8, q8⟩ => ?_
      refine thnF (pt.run _ s8 σ8 H8 _ I8 q8) fun b s9 ⟨H9, I9, q9⟩ => ?_
      have fin : ∀ {s' : Shared} {H' : Hp}, Inv (X.blk s3 H3 scope ce fp) ([] ++ pinsAt fp s7.heap) σ8 H' s' → Nx H' → ∃ m, m < n ∧ ∃ i H', Inv (X.blk s3 H3 scope ce fp) [] (wipe σ (own.map (·.2))) H' s' ∧ tn i s'.heap ∧ (∀ b ∈ fp, H' b = none) ∧ Wt i m H' := fun {s' H'} I' nx => by
        obtain ⟨m', hm, w'⟩ := hNx H' nx
        have pin' : ∀ b ∈ fp, ∀ o, s7.heap.get? b = some o → s'.heap.get? b = some o ∧ H' b = none := fun b hb o e =>
          let z := I'.pin (b, o) (List.mem_append_right _ (List.mem_append_right _ (mem_pinsAt hb e)))
          ⟨z.1, z.2.1⟩
        refine ⟨m', hm, i + 1, H', (I'.unpinned (pins := [])).weak (by rw [← hw8, wipe_length]) (fun j v e => by rw [← hw8] at e; exact (wipe_some e).1), T.keep _ _ _ st7 fun b hb o e => (pin' b hb o e).1, fun b hb => ?_, w'⟩
        obtain ⟨o, e, _⟩ := T.obj _ _ st7 b hb
        exact (pin' b hb o e).2
      cases b with
      | false =>
        simp only [Bool.false_eq_true, if_false] at q9 ⊢
        exact fin I9 q9
      | true =>
        simp only [if_true] at q9 ⊢
        have tkC := blk_out (scope := scope) (pn := (X.blk s3 H3 scope ce fp).pn ++ ([] ++ pinsAt fp s7.heap)) tk hs hf I3 cL cF f3 hxe
        have run := (pe _ xe0 _ tkC).run [] s9 σ8 H9 _ (I9.toTry xe0) q9
        rw [← hxe]
        refine thn run fun z s10 ⟨yv, H10, I10, r10, acc, hD10, hz10, nx⟩ => ?_
        exact app_ok (X := X.blk s3 H3 scope ce fp) (I10.ofTry I9.ok) hD10 hz10 r10 fun s11 I11 => fin I11 nx
  exact codeAny_compStart_list loop (T.self X.A 0 _ _ _ st4 loop)
end R
namespace R
open PySem PySem.Spec PyProof.Rows Builtin.Str L2
/-! ### a raising call within a comprehension -/
section
variable {X : Cx} {k j : Nat} {ps : List Str} {sp : Sp} {x : Str} {p pos : Pos} {e : Expr} {es : List Expr} {t : TA} {W : WX}
theorem pcallXc (D : DOX X.prog X.w X.K X.mg X.base k x ps sp) (hr : Room j X.A) (tk : TakesC X W) (ha : PA X (e :: es) t) (hj : k ≤ j := by first | decide | exact Nat.le_refl _ | omega) (hg : Gl X x := by rfl) (hdb : (x == ("__debug__" : Str)) = false := by decide)
    (he : starEach (e :: es) X.env = (false, eval e X.env) :: starEach es X.env := by rfl) (hpl : (backTo pos (starEach es X.env)).any (·.1) = false := by rfl) :
    PE X (.Call (.Name x p) (e :: es) [] pos) (tCallS sp (WE W) t) := by
  obtain ⟨f, fd, F, hm, hk, hb⟩ := D.ex
  exact pe_callS F (hr.mono hj) hg hm hk hb tk ha hdb he hpl
end
section
variable {wi : TI} {g : TG} {tt : TT} {te : WX → TE} {vs : List Nat} {W : WX} {σ : L2.St} {H : Hp} {Q : VK}
theorem x_lcX (q : tLc wi g tt (te fun cls d _ H => W cls d σ H) vs σ H Q) : tLcX wi g tt te vs W σ H Q := q
instance : Step (tLcX wi g tt te vs W σ H Q) (tLc wi g tt (te fun cls d _ H => W cls d σ H) vs σ H Q) := ⟨x_lcX⟩ -- st
end
/-! ### a text so many times, a text in capitals -/
def mulTG : R2 := fun x y H Q => ∃ (z : Str) (n : Nat), x = .str z ∧ y = .int (n : Nat) ∧ 1 ≤ z.length ∧ z.length ≤ 100 ∧ 2 ≤ n ∧ n ≤ 1000 ∧ ∀ s : Str, s.length = n * z.length → (∀ c ∈ cd s, c ∈ cd z) → Q (.str s) H
theorem fold_reps (a : Array Nat) : ∀ (n : Nat) (b : Array Nat), ((List.replicate n a).foldl (· ++ ·) b).toList = b.toList ++ (List.replicate n a.toList).flatten
  | 0, b => by simp
  | n + 1, b => by
    rw [List.replicate_succ, List.foldl_cons, fold_reps a n, Array.toList_append, List.append_assoc]
    rfl
theorem opMulT {X : Cx} : OpR X (binaryOp .Mult) mulTG := by
  intro pins s σ H x y v u Q I rx ry h
  obtain ⟨z, n, rfl, rfl, hz1, hz2, hn1, hn2, q⟩ := h
  obtain ⟨t, rfl⟩ := rx
  obtain ⟨t', rfl⟩ := ry
  have e3 : z.length * ((n : Nat) : Int).toNat ≤ 100000 := by
    have : z.length * n ≤ 100 * 1000 := Nat.mul_le_mul hz2 hn2
    exact this
  refine PySem.P.mul_str ?_ (fun h1 _ => ?_) (fun _ _ => ?_) ?_
  · rw [Bool.or_eq_false_iff]
    exact ⟨decide_eq_false (by omega), decide_eq_false (by omega)⟩
  · have : (100 : Int) ≤ (2 ^ 63 - 1) / ((n : Nat) : Int) := Int.le_ediv_of_mul_le (by omega) (by omega)
    omega
  · unfold tooLong
    have e := small_lt (n := z.length * ((n : Nat) : Int).toNat) (by omega)
    exact decide_eq_false (by omega)
  · rw [if_neg (show ¬ ((n : Nat) : Int) < 1 by omega), if_neg (show ¬ ((((n : Nat) : Int) == 1) || (z.length == 0)) = true by
      rw [beq_eq_false_iff_ne.mpr (show ((n : Nat) : Int) ≠ 1 by omega), beq_eq_false_iff_ne.mpr (show z.length ≠ 0 by omega)]
      decide)]
    have ec : cd (⟨(List.replicate ((n : Nat) : Int).toNat z.cps).foldl (· ++ ·) #[]⟩ : Str) = (List.replicate n (cd z)).flatten := by
      show ((List.replicate ((n : Nat) : Int).toNat z.cps).foldl (· ++ ·) #[]).toList = _
      rw [fold_reps]
      rfl
    have el : (⟨(List.replicate ((n : Nat) : Int).toNat z.cps).foldl (· ++ ·) #[]⟩ : Str).length = n * z.length := by
      rw [← cd_len, ec, List.length_flatten, List.map_replicate, List.sum_replicate_nat, cd_len]
    refine ⟨?_, .str _, H, I.tok _, ⟨_, rfl⟩, q _ el fun c hc => ?_⟩
    · have : n * z.length ≤ 1000 * 100 := Nat.mul_le_mul hn2 hz2
      have e := small_lt (n := n * z.length) (by omega)
      rw [el]
      omega
    · rw [ec] at hc
      obtain ⟨l, hl, hc⟩ := List.mem_flatten.mp hc
      rw [List.eq_of_mem_replicate hl] at hc
      exact hc
/-! ### any text of plain signs -/
def plainC (c : Nat) : Prop := c = 10 ∨ (32 ≤ c ∧ c ≤ 126)
def plainT (s : Str) : Prop := ∀ c ∈ cd s, plainC c
theorem plainT.ok {s : Str} (h : plainT s) : okS s := ok_codes.mpr fun c hc => by
  rcases h c hc with e | e <;> omega
theorem clean_plain {s : Str} (h : clean s) : plainT s := fun c hc => .inr (by have := h c hc; omega)
theorem plain_app {a b : Str} (ha : plainT a) (hb : plainT b) : plainT (a ++ b) := fun c hc => by
  rw [cd_app] at hc
  exact (List.mem_append.mp hc).elim (ha c) (hb c)
theorem plain_to {a : Str} (ha : plainT a) (k : Nat) : plainT (cutS a none (some (k : Int))) := fun c hc => by
  rw [cut_cd_to] at hc
  exact ha c (List.mem_of_mem_take hc)
theorem plain_from {a : Str} (ha : plainT a) (k : Nat) : plainT (cutS a (some (k : Int)) none) := fun c hc => by
  rw [cut_cd_from] at hc
  exact ha c (List.mem_of_mem_drop hc)
theorem plain_upper {a : Str} (ha : plainT a) : plainT (Txt.upper a) ∧ (Txt.upper a).length = a.length := by
  have e : Txt.upper a = ⟨a.cps.map PyProof.Rows.up1⟩ := PyProof.Rows.upper_ascii fun c hc => by
    rcases ha c hc with e | e <;> omega
  rw [e]
  refine ⟨fun c hc => ?_, by show (a.cps.map _).size = _; rw [Array.size_map]; rfl⟩
  have hc : c ∈ (a.cps.map PyProof.Rows.up1).toList := hc
  rw [Array.toList_map] at hc
  obtain ⟨d, hd, rfl⟩ := List.mem_map.mp hc
  have := ha d hd
  unfold PyProof.Rows.up1
  unfold plainC at this ⊢
  split <;> omega
theorem spl_one (s c : Nat) (acc r : List Nat) : TL.spl [s] 0 acc (c :: r) = if c = s then acc :: TL.spl [s] 0 [] r else TL.spl [s] 0 (acc ++ [c]) r := by
  by_cases h : c = s
  · rw [if_pos h]
    exact TL.spl_hit (S := [s]) (by show ([c] == [s]) = true; rw [h]; exact beq_self_eq_true _)
  · rw [if_neg h]
    exact TL.spl_miss (S := [s]) (by show ([c] == [s]) = false; exact beq_eq_false_iff_ne.mpr fun e => h (List.cons.inj e).1)
theorem spl_facts (s : Nat) (P : Nat → Prop) : ∀ (l acc : List Nat), (∀ c ∈ acc, P c) → (∀ c ∈ l, P c) → TL.spl [s] 0 acc l ≠ [] ∧ ((TL.spl [s] 0 acc l).map (fun p => p.length + 1)).sum = acc.length + l.length + 1 ∧ ∀ p ∈ TL.spl [s] 0 acc l, ∀ c ∈ p, P c
  | [], acc, ha, _ => by
    rw [TL.spl_nil]
    refine ⟨(fun z => nomatch z), by simp, fun p hp => ?_⟩
    rw [List.mem_singleton.mp hp]
    exact ha
  | c :: r, acc, ha, hl => by
    rw [spl_one]
    by_cases h : c = s
    · rw [if_pos h]
      obtain ⟨_, h2, h3⟩ := spl_facts s P r [] (fun _ z => nomatch z) fun c hc => hl c (List.mem_cons_of_mem _ hc)
      refine ⟨(fun z => nomatch z), ?_, fun p hp => ?_⟩
      · rw [List.map_cons, List.sum_cons, h2, List.length_cons]
        show acc.length + 1 + (0 + r.length + 1) = acc.length + (r.length + 1) + 1
        omega
      · rcases List.mem_cons.mp hp with rfl | hp
        · exact ha
        · exact h3 p hp
    · rw [if_neg h]
      obtain ⟨h1, h2, h3⟩ := spl_facts s P r (acc ++ [c]) (fun d hd => by
        rcases List.mem_append.mp hd with hd | hd
        · exact ha d hd
        · rw [List.mem_singleton.mp hd]; exact hl c (List.mem_cons_self ..)) fun d hd => hl d (List.mem_cons_of_mem _ hd)
      refine ⟨h1, ?_, h3⟩
      rw [h2]
      simp only [List.length_append, List.length_cons, List.length_nil]
      omega
/-- signs of some pieces, and one for each -/
def ltot (ls : List Str) : Nat := (ls.map fun p => p.length + 1).sum
theorem ltot_app (a b : List Str) : ltot (a ++ b) = ltot a + ltot b := by
  unfold ltot
  rw [List.map_append, List.sum_append]
theorem ltot_td (ls : List Str) (k : Nat) : ltot (ls.take k) + ltot (ls.drop k) = ltot ls := by rw [← ltot_app, List.take_append_drop]
theorem ltot_len (ls : List Str) : ls.length ≤ ltot ls := by
  induction ls with
  | nil => exact Nat.le_refl _
  | cons a ls ih =>
    unfold ltot at ih ⊢
    rw [List.length_cons, List.map_cons, List.sum_cons]
    omega
theorem ltot_one (a : Str) : ltot [a] = a.length + 1 := rfl
theorem ltot_mem {ls : List Str} {a : Str} (h : a ∈ ls) : a.length + 1 ≤ ltot ls := by
  induction ls with
  | nil => cases h
  | cons b ls ih =>
    have e : ltot (b :: ls) = (b.length + 1) + ltot ls := rfl
    rw [e]
    rcases List.mem_cons.mp h with rfl | h
    · omega
    · have := ih h
      omega
theorem ltot_sum (ls : List Str) : (ls.map (·.length)).sum + ls.length = ltot ls := by
  induction ls with
  | nil => rfl
  | cons a ls ih =>
    have e : ltot (a :: ls) = (a.length + 1) + ltot ls := rfl
    rw [e, List.map_cons, List.sum_cons, List.length_cons, ← ih]
    omega
theorem split_facts {x : Str} {sep : String} {s : Nat} (hy : cd (Str.ofString sep) = [s]) (hs : (Str.ofString sep).cps.all (· < 256) = true) (P : Nat → Prop) (hx : ∀ c ∈ cd x, P c) :
    Txt.split x (Str.ofString sep) ≠ [] ∧ ltot (Txt.split x (Str.ofString sep)) = x.length + 1 ∧ ∀ p ∈ Txt.split x (Str.ofString sep), ∀ c ∈ cd p, P c := by
  have e := TL.split_spl x (Str.ofString sep) (by show cd (Str.ofString sep) ≠ []; rw [hy]; exact fun z => nomatch z) (TL.kind_ok hs)
  have e : (Txt.split x (Str.ofString sep)).map cd = TL.spl [s] 0 [] (cd x) := by rw [← hy]; exact e
  obtain ⟨h1, h2, h3⟩ := spl_facts s P (cd x) [] (fun _ z => nomatch z) hx
  rw [← e] at h1 h2 h3
  refine ⟨fun z => h1 (by rw [z]; rfl), ?_, fun p hp => h3 (cd p) (List.mem_map.mpr ⟨p, hp, rfl⟩)⟩
  rw [List.map_map] at h2
  unfold ltot
  rw [show (fun p : Str => p.length + 1) = (fun p => p.length + 1) ∘ cd from funext fun p => by show _ = (cd p).length + 1; rw [cd_len], h2, cd_len]
  show 0 + x.length + 1 = _
  omega
theorem nl_all : (Str.ofString "\n").cps.all (· < 256) = true := by decide +kernel
theorem sp_all : (Str.ofString " ").cps.all (· < 256) = true := by decide +kernel
theorem lines_facts {x : Str} (h : plainT x) : Txt.split x (Str.ofString "\n") ≠ [] ∧ ltot (Txt.split x (Str.ofString "\n")) = x.length + 1 ∧ ∀ p ∈ Txt.split x (Str.ofString "\n"), plainT p := split_facts nl_cd nl_all plainC h
theorem words_facts {x : Str} (h : plainT x) : Txt.split x (Str.ofString " ") ≠ [] ∧ ltot (Txt.split x (Str.ofString " ")) = x.length + 1 ∧ ∀ p ∈ Txt.split x (Str.ofString " "), plainT p := split_facts sp_cdT sp_all plainC h
theorem joinN_plain {ls : List Str} (h : ∀ l ∈ ls, plainT l) : plainT (joinN ls) ∧ (joinN ls).length ≤ ltot ls := by
  refine ⟨fun c hc => ?_, by have := joinN_len ls; have := ltot_sum ls; omega⟩
  rw [joinN_cd] at hc
  rcases mem_joinL hc with hc | ⟨p, hp, hc⟩
  · exact .inl (List.mem_singleton.mp hc)
  · obtain ⟨l, hl, rfl⟩ := List.mem_map.mp hp
    exact h l hl c hc
theorem joinW_plain {ls : List Str} (h : ∀ l ∈ ls, plainT l) : plainT (joinW ls) ∧ (joinW ls).length ≤ ltot ls := by
  refine ⟨fun c hc => ?_, by have := joinW_len ls; have := ltot_sum ls; omega⟩
  rw [joinW_cd] at hc
  rcases mem_joinL hc with hc | ⟨p, hp, hc⟩
  · exact .inr (by rw [List.mem_singleton.mp hc]; omega)
  · obtain ⟨l, hl, rfl⟩ := List.mem_map.mp hp
    exact h l hl c hc
theorem plain_parts {P : Str → Prop} {a b : List Str} (ha : ∀ x ∈ a, P x) (hb : ∀ x ∈ b, P x) : ∀ x ∈ a ++ b, P x := fun x hx => (List.mem_append.mp hx).elim (ha x) (hb x)
theorem plain_takeL {P : Str → Prop} {a : List Str} (h : ∀ x ∈ a, P x) (k : Nat) : ∀ x ∈ a.take k, P x := fun x hx => h x (List.mem_of_mem_take hx)
theorem plain_dropL {P : Str → Prop} {a : List Str} (h : ∀ x ∈ a, P x) (k : Nat) : ∀ x ∈ a.drop k, P x := fun x hx => h x (List.mem_of_mem_drop hx)
theorem plain_oneL {P : Str → Prop} {x : Str} (h : P x) : ∀ y ∈ [x], P y := fun y hy => by rw [List.mem_singleton.mp hy]; exact h
theorem opInQ {X : Cx} {K : PySem.W.Frag} {k : Nat} (hr : Room k X.A) (h : X.K = K := by rfl) : OpR X (compareOp .In) (rInD K) := by
  subst h
  exact op_inD (by have := hr.un; omega)
section
variable {K : PySem.W.Frag} {M : List Addr} {F0 H0 F H : Hp} {L : List Own} {σ : L2.St} {Q : VK} {ta : TE}
theorem x_then {f : V → Hp → VK → Prop} (q : ta σ H fun x H1 => f x H1 Q) : tThen ta f σ H Q := q
instance {f : V → Hp → VK → Prop} : Step (tThen ta f σ H Q) (ta σ H fun x H1 => f x H1 Q) := ⟨x_then⟩ -- st
theorem x_chainP {r1 r2 : R2} {tb tc : TE} (q : ta σ H fun x H1 => tb σ H1 fun y H2 => r1 x y H2 fun z H3 => asBl z H3 fun k H3 => if k = true then tc σ H3 fun w H4 => r2 y w H4 Q else Q (.bl false) H3) : tChain r1 r2 ta tb tc σ H Q := q
instance {r1 r2 : R2} {tb tc : TE} : Step (tChain r1 r2 ta tb tc σ H Q) (ta σ H fun x H1 => tb σ H1 fun y H2 => r1 x y H2 fun z H3 => asBl z H3 fun k H3 => if k = true then tc σ H3 fun w H4 => r2 y w H4 Q else Q (.bl false) H3) := ⟨x_chainP⟩ -- st
theorem n_tupOf {p : Addr} {xs : List V} (w : W M F0 H0 F H L) (hs : SqL K H p xs) (h : ∀ t F2 H2, W M F0 H0 F2 H2 (fx t (.tup xs) :: L) → Q (.ref t) H2) : kTup K (.ref p) H Q :=
  .inl ⟨p, xs, rfl, hs, fun q nq => h q _ _ ((w.im (u := .tup xs) nq).push (fx q (.tup xs)) upd_same)⟩
theorem n_mulT {z : Str} {n : Nat} {i : Int} (hi : i = (n : Nat)) (h1 : 1 ≤ z.length) (h2 : z.length ≤ 100) (h3 : 2 ≤ n) (h4 : n ≤ 1000) (q : ∀ s : Str, s.length = n * z.length → (∀ c ∈ cd s, c ∈ cd z) → Q (.str s) H) : mulTG (.str z) (.int i) H Q := ⟨z, n, rfl, by rw [hi], h1, h2, h3, h4, q⟩
theorem sne_len {s : Str} (h : s ≠ Str.ofString "") : 1 ≤ s.length := Nat.pos_of_ne_zero fun z => h (cd_inj (by
  rw [cd_none]
  exact List.eq_nil_of_length_eq_zero (by rw [cd_len]; exact z)))
end
theorem w_ixLP {z : Str} {r : Int} {H : Hp} {Q : VK} (ok : plainT z) (hs : z.length ≤ 1000) (r0 : 0 ≤ r) (r1 : r < (z.length : Int)) (q : ∀ s : Str, s.length = 1 → plainT s → Q (.str s) H) : rIxS (.str z) (.int r) H Q := by
  obtain ⟨c, ec, _⟩ := sign_at (z := z) ok.ok r0 r1
  refine w_ixS (le1000 hs) ec (q _ rfl fun d hd => ?_)
  have : d = c := List.mem_singleton.mp hd
  subst this
  exact ok d (atI_memT ec)
theorem w_ixLW {K : PySem.W.Frag} {p : Addr} {zs : List Str} {r : Int} {H : Hp} {Q : VK} {P : Str → Prop} (hP : ∀ z ∈ zs, P z) (h : SqL K H p (zs.map V.str)) (r0 : 0 ≤ r) (r1 : r < (zs.length : Int)) (q : ∀ s : Str, P s → s ∈ zs → Q (.str s) H) : rIxL K (.ref p) (.int r) H Q := by
  obtain ⟨k, rfl⟩ : ∃ k : Nat, r = (k : Int) := ⟨r.toNat, by omega⟩
  have hk : k < zs.length := by omega
  have e : zs[k]? = some zs[k] := List.getElem?_eq_getElem hk
  exact w_ixL _ (.str zs[k]) h (atI_nat (by rw [List.getElem?_map, e]; rfl)) (q _ (hP _ (List.getElem_mem hk)) (List.getElem_mem hk))
/-- plain, and no longer than n -/
def plainN (n : Nat) (s : Str) : Prop := plainT s ∧ s.length ≤ n
theorem plain_cdmem {a z : Str} (h : ∀ c ∈ cd a, c ∈ cd z) (hz : plainT z) : plainT a := fun c hc => hz c (h c hc)
theorem plain_lit {z : Str} (h : (cd z).all (fun c => decide (c = 10) || (decide (32 ≤ c) && decide (c ≤ 126))) = true) : plainT z := fun c hc => by
  have := List.all_eq_true.mp h c hc
  simp only [Bool.or_eq_true, Bool.and_eq_true, decide_eq_true_eq] at this
  exact this
theorem ltot_take (ls : List Str) (k : Nat) : ltot (ls.take k) ≤ ltot ls := by have := ltot_td ls k; omega
theorem ltot_drop (ls : List Str) (k : Nat) : ltot (ls.drop k) ≤ ltot ls := by have := ltot_td ls k; omega
/-- a list of texts, each with P -/
def AllS (P : Str → Prop) (xs : List V) : Prop := ∀ x ∈ xs, ∃ z, x = .str z ∧ P z
theorem alls_nil {P : Str → Prop} : AllS P [] := fun _ h => nomatch h
theorem alls_cons {P : Str → Prop} {z : Str} {xs : List V} (hz : P z) (h : AllS P xs) : AllS P (.str z :: xs) := fun x hx => by
  rcases List.mem_cons.mp hx with rfl | hx
  · exact ⟨z, rfl, hz⟩
  · exact h x hx
theorem alls_app {P : Str → Prop} {xs ys : List V} (h : AllS P xs) (h2 : AllS P ys) : AllS P (xs ++ ys) := fun x hx => (List.mem_append.mp hx).elim (h x) (h2 x)
theorem w_ixLA {K : PySem.W.Frag} {p : Addr} {xs : List V} {r : Int} {H : Hp} {Q : VK} {P : Str → Prop} (hP : AllS P xs) (h : SqL K H p xs) (r0 : 0 ≤ r) (r1 : r < ((xs.length : Nat) : Int)) (q : ∀ s : Str, P s → Q (.str s) H) : rIxL K (.ref p) (.int r) H Q := by
  obtain ⟨k, rfl⟩ : ∃ k : Nat, r = (k : Int) := ⟨r.toNat, by omega⟩
  have hk : k < xs.length := by omega
  obtain ⟨z, ez, hz⟩ := hP _ (List.getElem_mem hk)
  exact w_ixL _ (.str z) h (atI_nat (by rw [List.getElem?_eq_getElem hk, ez])) (q z hz)
theorem n_mulL {H : Hp} {Q : VK} {z : Str} {n l : Nat} {i : Int} (hz : z.length = l) (hi : i = (n : Nat)) (h1 : 1 ≤ l) (h2 : l ≤ 100) (h3 : 2 ≤ n) (h4 : n ≤ 1000) (pz : plainT z) (q : ∀ s : Str, s.length = n * l → plainT s → Q (.str s) H) : mulTG (.str z) (.int i) H Q :=
  n_mulT hi (by omega) (by omega) h3 h4 fun s hs hc => q s (by rw [hs, hz]) (plain_cdmem hc pz)
theorem slit_len : (Str.ofString "0").length = 1 ∧ (Str.ofString "-").length = 1 ∧ (Str.ofString "+").length = 1 ∧ (Str.ofString "_0").length = 2 ∧ (Str.ofString ".").length = 1 ∧ (Str.ofString "-0").length = 2 ∧ (Str.ofString "").length = 0 ∧ (Str.ofString "00-+").length = 4 ∧ sig93.length = 93 := by decide +kernel
theorem slit_plain : plainT (Str.ofString "0") ∧ plainT (Str.ofString "-") ∧ plainT (Str.ofString "+") ∧ plainT (Str.ofString "_0") ∧ plainT (Str.ofString ".") ∧ plainT (Str.ofString "-0") ∧ plainT (Str.ofString "") ∧ plainT (Str.ofString "00-+") ∧ plainT sig93 :=
  ⟨plain_lit (by decide +kernel), plain_lit (by decide +kernel), plain_lit (by decide +kernel), plain_lit (by decide +kernel), plain_lit (by decide +kernel), plain_lit (by decide +kernel), plain_lit (by decide +kernel), plain_lit (by decide +kernel), plain_lit (by decide +kernel)⟩
theorem w_iteNT {p : Prop} [Decidable p] {A B : Prop} (hp : ¬ p) (h1 : A) : if (!decide p) = true then A else B := by
  rw [decide_eq_false hp]
  exact h1
theorem w_iteNF {p : Prop} [Decidable p] {A B : Prop} (hp : p) (h2 : B) : if (!decide p) = true then A else B := by
  rw [decide_eq_true hp]
  exact h2
end R
namespace R
open PySem PySem.Spec PyProof.Rows L2
/-! ### words and lines read by their kinds -/
def isN (s : Str) : Bool := isNumB (cd s)
def nVl (s : Str) : Int := numVal (cd s)
def isT (s : Str) : Bool := decide (1 ≤ s.length ∧ s.length ≤ 400)
/-- one part by its kind: 110 a number, else a text -/
def partR (c : Nat) (w : Str) : Option GP := if c = 110 then (if isN w = true then some (.i (nVl w)) else none) else (if isT w = true then some (.s w) else none)
def partsR : List Nat → List Str → Option (List GP)
  | [], _ => some []
  | c :: cs, ws => match ws with
    | [] => none
    | w :: ws => (partR c w).bind fun g => (partsR cs ws).map (g :: ·)
def wordsR : List (Str × Str) → List Str → Option GRow
  | [], _ => none
  | (k, p) :: r, ws => if ws.head? = some k ∧ ws.length = 1 + p.length then (partsR (cd p) ws.tail).map (GRow.mk k) else wordsR r ws
def rowsR (K : List (Str × Str)) : List (List Str) → Option (List GRow)
  | [] => some []
  | ws :: r => (wordsR K ws).bind fun g => (rowsR K r).map (g :: ·)
def wordsLs (s : Str) : List (List Str) := (Txt.split s (Str.ofString "\n")).map fun l => Txt.split l (Str.ofString " ")
def kindsOk (K : List (Str × Str)) : Prop := K.length ≤ 10 ∧ ∀ k ∈ K, okS k.1 ∧ k.1.length ≤ 4 ∧ okS k.2 ∧ k.2.length ≤ 3 ∧ ∀ c ∈ cd k.2, c = 110 ∨ c = 116
/-! ### what is read is well formed -/
theorem dval_lt : ∀ (k : Nat) (cs : List Nat), cs.length ≤ k → NumText.AllDigits cs → NumText.digitsVal cs < 10 ^ k
  | k, cs, hl, h => by
    induction k generalizing cs with
    | zero =>
      cases cs with
      | nil => decide
      | cons c cs => simp at hl
    | succ k ih =>
      rcases List.eq_nil_or_concat cs with rfl | ⟨ds, d, rfl⟩
      · exact Nat.pow_pos (by decide)
      · rw [List.concat_eq_append] at h hl ⊢
        rw [NumText.digitsVal_snoc, Nat.pow_succ]
        have h1 := ih ds (by simp at hl; omega) fun c hc => h c (List.mem_append_left _ hc)
        have h2 := h d (List.mem_append_right _ (List.mem_singleton.mpr rfl))
        omega
theorem isN_facts {s : Str} (h : isN s = true) : figs (cd s) ≠ [] ∧ (figs (cd s)).length ≤ 60 ∧ NumText.AllDigits (figs (cd s)) := by
  have h : isNumB (cd s) = true := h
  refine ⟨fun z => ?_, Nat.not_lt.mp fun z => ?_, dg_all (Classical.byContradiction fun z => ?_)⟩
  · rw [isn1 z] at h; cases h
  · rw [isn2 z] at h; cases h
  · rw [isn3 (show badS (figs (cd s)) ≠ [] from z)] at h; cases h
theorem nVl_lt {s : Str} (h : isN s = true) : (nVl s).natAbs < 10 ^ 60 := by
  obtain ⟨_, h2, h3⟩ := isN_facts h
  have := dval_lt 60 _ h2 h3
  unfold nVl numVal
  split <;> omega
theorem parts_ok : ∀ {cs : List Nat} {ws : List Str} {gs : List GP}, (∀ w ∈ ws, okS w) → partsR cs ws = some gs → (∀ g ∈ gs, g.ok) ∧ gs.length = cs.length
  | [], ws, gs, _, h => by
    have h : some [] = some gs := h
    cases h
    exact ⟨(fun _ z => nomatch z), rfl⟩
  | c :: cs, ws, gs, hw, h => by
    cases ws with
    | nil => cases h
    | cons w ws =>
      have h : (partR c w).bind (fun g => (partsR cs ws).map (g :: ·)) = some gs := h
      obtain ⟨g, hg, h⟩ := Option.bind_eq_some_iff.mp h
      obtain ⟨g2, hg2, rfl⟩ := Option.map_eq_some_iff.mp h
      obtain ⟨i1, i2⟩ := parts_ok (fun v hv => hw v (List.mem_cons_of_mem _ hv)) hg2
      refine ⟨fun x hx => ?_, by rw [List.length_cons, i2]; rfl⟩
      rcases List.mem_cons.mp hx with rfl | hx
      · unfold partR at hg
        split at hg
        · split at hg
          · rename_i hn
            cases hg
            exact nVl_lt hn
          · cases hg
        · split at hg
          · rename_i ht
            cases hg
            have ht : decide (1 ≤ w.length ∧ w.length ≤ 400) = true := ht
            exact ⟨hw w (List.mem_cons_self ..), (of_decide_eq_true ht).2⟩
          · cases hg
      · exact i1 x hx
theorem words_ok : ∀ {K : List (Str × Str)} {ws : List Str} {r : GRow}, (∀ k ∈ K, okS k.1 ∧ k.1.length ≤ 4 ∧ okS k.2 ∧ k.2.length ≤ 3 ∧ ∀ c ∈ cd k.2, c = 110 ∨ c = 116) → (∀ w ∈ ws, okS w) → wordsR K ws = some r → r.ok
  | [], _, _, _, _, h => nomatch h
  | (k, p) :: K, ws, r, hK, hw, h => by
    rw [wordsR] at h
    split at h
    · obtain ⟨gs, hgs, rfl⟩ := Option.map_eq_some_iff.mp h
      obtain ⟨h1, h2, h3, h4, _⟩ := hK (k, p) (List.mem_cons_self ..)
      obtain ⟨i1, i2⟩ := parts_ok (fun v hv => hw v (List.mem_of_mem_tail hv)) hgs
      exact ⟨h1, h2, i1, by show gs.length ≤ 3; rw [i2, cd_len]; exact h4⟩
    · exact words_ok (fun k hk => hK k (List.mem_cons_of_mem _ hk)) hw h
theorem rows_ok {K : List (Str × Str)} (hK : kindsOk K) : ∀ {l : List (List Str)} {rs : List GRow}, (∀ ws ∈ l, ∀ w ∈ ws, okS w) → rowsR K l = some rs → (∀ r ∈ rs, r.ok) ∧ rs.length = l.length ∧ l.map (fun ws => (wordsR K ws)) = rs.map some
  | [], rs, _, h => by
    have h : some [] = some rs := h
    cases h
    exact ⟨(fun _ z => nomatch z), rfl, rfl⟩
  | ws :: l, rs, hw, h => by
    have h : (wordsR K ws).bind (fun g => (rowsR K l).map (g :: ·)) = some rs := h
    obtain ⟨g, hg, h⟩ := Option.bind_eq_some_iff.mp h
    obtain ⟨g2, hg2, rfl⟩ := Option.map_eq_some_iff.mp h
    obtain ⟨i1, i2, i3⟩ := rows_ok hK (fun v hv => hw v (List.mem_cons_of_mem _ hv)) hg2
    refine ⟨fun x hx => ?_, by rw [List.length_cons, List.length_cons, i2], by rw [List.map_cons, hg, i3]; rfl⟩
    rcases List.mem_cons.mp hx with rfl | hx
    · exact words_ok hK.2 (hw ws (List.mem_cons_self ..)) hg
    · exact i1 x hx
theorem rowsR_snoc (K : List (Str × Str)) (ws : List Str) : ∀ l : List (List Str), rowsR K (l ++ [ws]) = (rowsR K l).bind fun rs => (wordsR K ws).map fun g => rs ++ [g]
  | [] => by
    show (wordsR K ws).bind (fun g => some [g]) = (wordsR K ws).map (fun g => [g])
    cases wordsR K ws <;> rfl
  | v :: l => by
    show (wordsR K v).bind (fun g => (rowsR K (l ++ [ws])).map (g :: ·)) = ((wordsR K v).bind fun g => (rowsR K l).map (g :: ·)).bind _
    rw [rowsR_snoc K ws l]
    cases wordsR K v with
    | none => rfl
    | some g =>
      show ((rowsR K l).bind fun rs => (wordsR K ws).map fun g => rs ++ [g]).map (g :: ·) = ((rowsR K l).map (g :: ·)).bind _
      cases rowsR K l with
      | none => rfl
      | some rs => cases wordsR K ws <;> rfl
theorem rowsR_none {K : List (Str × Str)} {ws : List Str} (h : wordsR K ws = none) : ∀ {l : List (List Str)}, ws ∈ l → rowsR K l = none
  | v :: l, hm => by
    show (wordsR K v).bind (fun g => (rowsR K l).map (g :: ·)) = none
    rcases List.mem_cons.mp hm with rfl | hm
    · rw [h]; rfl
    · rw [rowsR_none h hm]
      cases wordsR K v <;> rfl
def orD : Option GRow → PyData
  | none => .none
  | some r => r.d
theorem any_none (K : List (Str × Str)) : ∀ l : List (List Str), ((l.map fun ws => orD (wordsR K ws)).any fun z => PyData.eqv z .none) = (rowsR K l).isNone
  | [] => rfl
  | ws :: l => by
    rw [List.map_cons, List.any_cons, any_none K l]
    show _ = ((wordsR K ws).bind (fun g => (rowsR K l).map (g :: ·))).isNone
    cases wordsR K ws with
    | none => exact Bool.true_or _
    | some g =>
      show (PyData.eqv (.tuple (.str g.w :: g.ps.map GP.d)) .none || (rowsR K l).isNone) = ((rowsR K l).map (g :: ·)).isNone
      cases rowsR K l <;> rfl
theorem orD_good {o : Option GRow} (h : ∀ r, o = some r → r.ok) : good (orD o) = true ∧ (orD o).depth ≤ 1 := by
  cases o with
  | none => exact ⟨rfl, by decide⟩
  | some r => exact grow_good (h r rfl)
def kindD (k : Str × Str) : PyData := .tuple [.str k.1, .str k.2]
theorem dp_kind {K : PySem.W.Frag} {F : Hp} {x : V} {k : Str × Str} (h : Dp K F x (kindD k)) : ∃ p, x = .ref p ∧ SqT K F p [.str k.1, .str k.2] := by
  unfold kindD at h
  generalize e : [PyData.str k.1, PyData.str k.2] = ds at h
  cases h with
  | tup hs hd =>
    subst e
    obtain ⟨v, us, rfl, h1, h2⟩ := dpa_cons hd
    obtain ⟨v2, us2, rfl, h3, h4⟩ := dpa_cons h2
    rw [dpa_nil h4, dp_str h1, dp_str h3] at hs
    exact ⟨_, rfl, hs⟩
theorem dpa_gps {K : PySem.W.Frag} {F : Hp} : ∀ gs : List GP, DpAll K F (gs.map GP.v) (gs.map GP.d)
  | [] => .nil
  | g :: gs => by
    cases g with
    | i n => exact .cons (.int n) (dpa_gps gs)
    | s z => exact .cons (.str z) (dpa_gps gs)
theorem sgn_nt : (⟨#[110]⟩ : Str) = Str.ofString "n" ∧ (⟨#[116]⟩ : Str) ≠ Str.ofString "n" ∧ (⟨#[116]⟩ : Str) = Str.ofString "t" ∧ (⟨#[110]⟩ : Str) ≠ Str.ofString "t" := by decide +kernel
theorem parts_step {cs : List Nat} {ws : List Str} {gs : List GP} {j c : Nat} {v : Str} (hc : cs[j]? = some c) (hv : ws[j]? = some v) (h : partsR cs ws = (partsR (cs.drop j) (ws.drop j)).map (gs ++ ·)) :
    (∀ g, partR c v = some g → partsR cs ws = (partsR (cs.drop (j + 1)) (ws.drop (j + 1))).map ((gs ++ [g]) ++ ·)) ∧ (partR c v = none → partsR cs ws = none) := by
  have d1 : cs.drop j = c :: cs.drop (j + 1) := by
    obtain ⟨hj, e⟩ := List.getElem?_eq_some_iff.mp hc
    rw [List.drop_eq_getElem_cons hj, e]
  have d2 : ws.drop j = v :: ws.drop (j + 1) := by
    obtain ⟨hj, e⟩ := List.getElem?_eq_some_iff.mp hv
    rw [List.drop_eq_getElem_cons hj, e]
  rw [d1, d2] at h
  have h : partsR cs ws = ((partR c v).bind fun g => (partsR (cs.drop (j + 1)) (ws.drop (j + 1))).map (g :: ·)).map (gs ++ ·) := h
  refine ⟨fun g hg => ?_, fun hg => ?_⟩
  · rw [h, hg]
    show ((partsR _ _).map (g :: ·)).map (gs ++ ·) = _
    rw [Option.map_map]
    congr 1
    funext x
    show gs ++ g :: x = gs ++ [g] ++ x
    rw [List.append_assoc]
    rfl
  · rw [h, hg]
    rfl
def pickY (names : List Str) (bs : List Bool) (i : Nat) : List Str := ((names.zip bs).take i).filterMap fun p => if p.2 then some p.1 else none
theorem pickY_T {names : List Str} {bs : List Bool} {i : Nat} {z : Str} (hn : names[i]? = some z) (hb : bs[i]? = some true) : pickY names bs (i + 1) = pickY names bs i ++ [z] := by
  have e : (names.zip bs)[i]? = some (z, true) := by
    rw [List.getElem?_zip_eq_some]
    exact ⟨hn, hb⟩
  unfold pickY
  rw [List.take_add_one, e, List.filterMap_append]
  rfl
theorem pickY_F {names : List Str} {bs : List Bool} {i : Nat} {z : Str} (hn : names[i]? = some z) (hb : bs[i]? = some false) : pickY names bs (i + 1) = pickY names bs i := by
  have e : (names.zip bs)[i]? = some (z, false) := by
    rw [List.getElem?_zip_eq_some]
    exact ⟨hn, hb⟩
  unfold pickY
  rw [List.take_add_one, e, List.filterMap_append]
  show _ ++ [] = _
  rw [List.append_nil]
theorem pickY_len {names : List Str} {bs : List Bool} {i : Nat} : (pickY names bs i).length ≤ names.length := by
  unfold pickY
  refine Nat.le_trans (List.length_filterMap_le _ _) ?_
  rw [List.length_take, List.length_zip]
  omega
/-! ### promises -/
def φnumofX (K : PySem.W.Frag) : V → Hp → VK → XK → Prop := fun x H Q E => ∃ (F : Hp) (s : Str), x = .str s ∧ Same F H ∧ okS s ∧ s.length ≤ 100000 ∧ (isN s = true → ∀ F2 H2, W [] F H F2 H2 [] → Q (.int (nVl s)) H2) ∧ (isN s = false → ∀ F2 H2, W [] F H F2 H2 [] → E (.ref (He.ga K "NoText")) none H2)
def φtextofX (K : PySem.W.Frag) : V → Hp → VK → XK → Prop := fun x H Q E => ∃ (F : Hp) (s : Str), x = .str s ∧ Same F H ∧ s.length ≤ 100000 ∧ (isT s = true → ∀ F2 H2, W [] F H F2 H2 [] → Q (.str s) H2) ∧ (isT s = false → ∀ F2 H2, W [] F H F2 H2 [] → E (.ref (He.ga K "NoText")) none H2)
def φlnum73 (K : PySem.W.Frag) : V → Hp → VK → Prop := fun x H Q => ∃ (F : Hp) (s : Str), x = .str s ∧ Same F H ∧ okS s ∧ s.length ≤ 100000 ∧ ∀ F2 H2, W [] F H F2 H2 [] → Q (if isN s = true then .int (nVl s) else .non) H2
def φlwords73 (K : PySem.W.Frag) : V → V → Hp → VK → Prop := fun x y H Q => ∃ (F : Hp) (a ka : Addr) (w0 : Str) (ws : List Str) (kvs : List V) (ks : List (Str × Str)), x = .ref a ∧ y = .ref ka ∧ Same F H ∧ SqL K F a ((w0 :: ws).map V.str) ∧ (∀ w ∈ w0 :: ws, okS w ∧ w.length ≤ 100000) ∧ ws.length ≤ 100000 ∧ SqL K F ka kvs ∧ DpAll K F kvs (ks.map kindD) ∧ kindsOk ks ∧
  ∀ v F2 H2, W [] F H F2 H2 [dat K v (orD (wordsR ks (w0 :: ws)))] → Q v H2
def φllines73 (K : PySem.W.Frag) : V → V → Hp → VK → Prop := fun x y H Q => ∃ (F : Hp) (s : Str) (ka : Addr) (kvs : List V) (ks : List (Str × Str)), x = .str s ∧ y = .ref ka ∧ Same F H ∧ plainT s ∧ s.length ≤ 90000 ∧ SqL K F ka kvs ∧ DpAll K F kvs (ks.map kindD) ∧ kindsOk ks ∧
  (∀ ls, rowsR ks (wordsLs s) = some ls → ∀ p vs F2 H2, H p = none → W [] F H F2 H2 [mu p (.lst vs), dpa K vs (ls.map GRow.d)] → Q (.ref p) H2) ∧ (rowsR ks (wordsLs s) = none → ∀ F2 H2, W [] F H F2 H2 [] → Q .non H2)
def φright73 (K : PySem.W.Frag) : V → Hp → VK → Prop := fun x H Q => ∃ (F : Hp) (s : Str), x = .str s ∧ Same F H ∧ plainT s ∧ s.length ≤ 90000 ∧ ∀ F2 H2, W [] F H F2 H2 [] → Q (.bl true) H2
def φwithin73 (K : PySem.W.Frag) : V → Hp → VK → Prop := fun x H Q => ∃ (F : Hp) (s : Str), x = .str s ∧ Same F H ∧ s.length ≤ 900000 ∧ ∀ (b : Bool) F2 H2, W [] F H F2 H2 [] → (b = true → s.length ≤ 50000) → Q (.bl b) H2
def φspoilt73 (K : PySem.W.Frag) : V → V → V → Hp → VK → Prop := fun x y z H Q => ∃ (F : Hp) (b a : Addr) (s : Str) (ws : List Str), x = .ref b ∧ y = .str s ∧ z = .ref a ∧ St F H [bag K b] ∧ SqL K F a (ws.map V.str) ∧ ws ≠ [] ∧ ws.length ≤ 10 ∧ (∀ w ∈ ws, plainT w ∧ w.length ≤ 4) ∧ plainT s ∧ s.length ≤ 90000 ∧
  ∀ (m : Str) F2 H2, W [b] F H F2 H2 [bag K b] → plainT m → m.length ≤ 900000 → Q (.str m) H2
end R
namespace R
open PySem PySem.Spec PyProof.Rows L2
/-! ### a change read from any text (k72) -/
def sizeK : List (Str × Str) := [(Str.ofString "size", Str.ofString "n")]
def rowK : List (Str × Str) := [(Str.ofString "copy", Str.ofString "nn"), (Str.ofString "put", Str.ofString "t")]
def allK : List (Str × Str) := [(Str.ofString "size", Str.ofString "n"), (Str.ofString "copy", Str.ofString "nn"), (Str.ofString "put", Str.ofString "t")]
theorem kinds_ok : kindsOk allK ∧ kindsOk rowK := by
  constructor
  · refine ⟨by decide, fun k hk => ?_⟩
    simp only [allK, List.mem_cons, List.not_mem_nil, or_false] at hk
    rcases hk with rfl | rfl | rfl <;> exact ⟨clean_ok (by unfold clean; decide +kernel), by decide +kernel, clean_ok (by unfold clean; decide +kernel), by decide +kernel, by decide +kernel⟩
  · refine ⟨by decide, fun k hk => ?_⟩
    simp only [rowK, List.mem_cons, List.not_mem_nil, or_false] at hk
    rcases hk with rfl | rfl <;> exact ⟨clean_ok (by unfold clean; decide +kernel), by decide +kernel, clean_ok (by unfold clean; decide +kernel), by decide +kernel, by decide +kernel⟩
theorem k_ne : Str.ofString "size" ≠ Str.ofString "copy" ∧ Str.ofString "size" ≠ Str.ofString "put" ∧ Str.ofString "copy" ≠ Str.ofString "put" := by decide +kernel
theorem k_cd : cd (Str.ofString "n") = [110] ∧ cd (Str.ofString "nn") = [110, 110] ∧ cd (Str.ofString "t") = [116] ∧ (Str.ofString "n").length = 1 ∧ (Str.ofString "nn").length = 2 ∧ (Str.ofString "t").length = 1 := by decide +kernel
theorem parts_n (a : Str) : partsR [110] [a] = if isN a = true then some [.i (nVl a)] else none := by
  show (partR 110 a).bind (fun g => some [g]) = _
  unfold partR
  cases isN a <;> rfl
theorem parts_t (a : Str) : partsR [116] [a] = if isT a = true then some [.s a] else none := by
  show (partR 116 a).bind (fun g => some [g]) = _
  unfold partR
  cases isT a <;> rfl
theorem parts_nn (a b : Str) : partsR [110, 110] [a, b] = if isN a = true ∧ isN b = true then some [.i (nVl a), .i (nVl b)] else none := by
  show (partR 110 a).bind (fun g => ((partR 110 b).bind fun g2 => some [g2]).map (g :: ·)) = _
  unfold partR
  cases isN a <;> cases isN b <;> rfl
theorem size_yes (a : Str) : wordsR sizeK [Str.ofString "size", a] = if isN a = true then some ⟨Str.ofString "size", [.i (nVl a)]⟩ else none := by
  unfold sizeK
  rw [wordsR, if_pos ⟨rfl, by rw [k_cd.2.2.2.1]; rfl⟩, k_cd.1]
  show (partsR [110] [a]).map _ = _
  rw [parts_n]
  split <;> rfl
theorem size_no {w : Str} {r : List Str} (h : ¬ (w = Str.ofString "size" ∧ r.length = 1)) : wordsR sizeK (w :: r) = none := by
  unfold sizeK
  rw [wordsR, if_neg (fun ⟨e1, e2⟩ => h ⟨Option.some.inj e1, by rw [k_cd.2.2.2.1, List.length_cons] at e2; omega⟩), wordsR]
theorem row_copy (a b : Str) : wordsR rowK [Str.ofString "copy", a, b] = if isN a = true ∧ isN b = true then some ⟨Str.ofString "copy", [.i (nVl a), .i (nVl b)]⟩ else none := by
  unfold rowK
  rw [wordsR, if_pos ⟨rfl, by rw [k_cd.2.2.2.2.1]; rfl⟩, k_cd.2.1]
  show (partsR [110, 110] [a, b]).map _ = _
  rw [parts_nn]
  split <;> rfl
theorem row_put (a : Str) : wordsR rowK [Str.ofString "put", a] = if isT a = true then some ⟨Str.ofString "put", [.s a]⟩ else none := by
  unfold rowK
  rw [wordsR, if_neg (fun ⟨e1, _⟩ => k_ne.2.2 (Option.some.inj e1).symm), wordsR, if_pos ⟨rfl, by rw [k_cd.2.2.2.2.2]; rfl⟩, k_cd.2.2.1]
  show (partsR [116] [a]).map _ = _
  rw [parts_t]
  split <;> rfl
theorem row_no {w : Str} {r : List Str} (h1 : ¬ (w = Str.ofString "copy" ∧ r.length = 2)) (h2 : ¬ (w = Str.ofString "put" ∧ r.length = 1)) : wordsR rowK (w :: r) = none := by
  unfold rowK
  rw [wordsR, if_neg (fun ⟨e1, e2⟩ => h1 ⟨Option.some.inj e1, by rw [k_cd.2.2.2.2.1, List.length_cons] at e2; omega⟩), wordsR, if_neg (fun ⟨e1, e2⟩ => h2 ⟨Option.some.inj e1, by rw [k_cd.2.2.2.2.2, List.length_cons] at e2; omega⟩), wordsR]
theorem all_split (ws : List Str) : wordsR allK ws = if ws.head? = some (Str.ofString "size") ∧ ws.length = 1 + (Str.ofString "n").length then wordsR sizeK ws else wordsR rowK ws := by
  unfold allK sizeK rowK
  rw [wordsR]
  split
  · rename_i h
    rw [wordsR, if_pos h]
  · rfl
theorem sizeK_w {ws : List Str} {r : GRow} (h : wordsR sizeK ws = some r) : ws.head? = some (Str.ofString "size") ∧ ws.length = 1 + (Str.ofString "n").length ∧ ∃ n, r = ⟨Str.ofString "size", [.i n]⟩ := by
  unfold sizeK at h
  rw [wordsR] at h
  split at h
  · rename_i hc
    obtain ⟨gs, hgs, rfl⟩ := Option.map_eq_some_iff.mp h
    refine ⟨hc.1, hc.2, ?_⟩
    obtain ⟨w0, ws', rfl⟩ : ∃ w0 ws', ws = w0 :: ws' := by
      cases ws with
      | nil => cases hc.1
      | cons a b => exact ⟨a, b, rfl⟩
    rw [k_cd.1] at hgs
    have hl : ws'.length = 1 := by have := hc.2; rw [k_cd.2.2.2.1, List.length_cons] at this; omega
    match ws', hl with
    | [a], _ =>
      have hgs : partsR [110] [a] = some gs := hgs
      rw [parts_n] at hgs
      split at hgs
      · cases hgs
        exact ⟨_, rfl⟩
      · cases hgs
  · cases h
theorem rowK_w {ws : List Str} {r : GRow} (h : wordsR rowK ws = some r) : r.w ≠ Str.ofString "size" ∧ ¬ (ws.head? = some (Str.ofString "size")) := by
  unfold rowK at h
  rw [wordsR] at h
  split at h
  · rename_i hc
    obtain ⟨gs, hgs, rfl⟩ := Option.map_eq_some_iff.mp h
    exact ⟨fun z => k_ne.1 z.symm, fun z => by rw [hc.1] at z; exact k_ne.1 (Option.some.inj z).symm⟩
  · rw [wordsR] at h
    split at h
    · rename_i hc
      obtain ⟨gs, hgs, rfl⟩ := Option.map_eq_some_iff.mp h
      exact ⟨fun z => k_ne.2.1 z.symm, fun z => by rw [hc.1] at z; exact k_ne.2.1 (Option.some.inj z).symm⟩
    · cases h
theorem rows_r2 : ∀ {l : List (List Str)} {rs : List GRow}, rowsR rowK l = some rs → rowsR allK l = some rs ∧ ∀ r ∈ rs, r.w ≠ Str.ofString "size"
  | [], rs, h => by
    have h : some [] = some rs := h
    cases h
    exact ⟨rfl, (fun _ z => nomatch z)⟩
  | ws :: l, rs, h => by
    have h : (wordsR rowK ws).bind (fun g => (rowsR rowK l).map (g :: ·)) = some rs := h
    obtain ⟨g, hg, h⟩ := Option.bind_eq_some_iff.mp h
    obtain ⟨g2, hg2, rfl⟩ := Option.map_eq_some_iff.mp h
    obtain ⟨i1, i2⟩ := rows_r2 hg2
    obtain ⟨j1, j2⟩ := rowK_w hg
    constructor
    · show (wordsR allK ws).bind (fun g => (rowsR allK l).map (g :: ·)) = _
      rw [all_split, if_neg (fun z => j2 z.1), hg, i1]
      rfl
    · intro r hr
      rcases List.mem_cons.mp hr with rfl | hr
      · exact j1
      · exact i2 r hr
theorem rows_r1 : ∀ {l : List (List Str)} {rs : List GRow}, rowsR allK l = some rs → (∀ r ∈ rs, r.w ≠ Str.ofString "size") → rowsR rowK l = some rs
  | [], rs, h, _ => h
  | ws :: l, rs, h, hn => by
    have h : (wordsR allK ws).bind (fun g => (rowsR allK l).map (g :: ·)) = some rs := h
    obtain ⟨g, hg, h⟩ := Option.bind_eq_some_iff.mp h
    obtain ⟨g2, hg2, rfl⟩ := Option.map_eq_some_iff.mp h
    have i1 := rows_r1 hg2 fun r hr => hn r (List.mem_cons_of_mem _ hr)
    rw [all_split] at hg
    split at hg
    · obtain ⟨_, _, n, rfl⟩ := sizeK_w hg
      exact absurd rfl (hn _ (List.mem_cons_self ..))
    · show (wordsR rowK ws).bind (fun g => (rowsR rowK l).map (g :: ·)) = _
      rw [hg, i1]
      rfl
def GRow.isSz (r : GRow) : Bool := decide (r.w = Str.ofString "size")
/-- what a law's reading says of a text's head and rows -/
theorem heads_iff {h : List Str} {l : List (List Str)} {r : GRow} {rs : List GRow} (e : rowsR allK (h :: l) = some (r :: rs)) : (r :: rs).map GRow.isSz = true :: List.replicate rs.length false ↔ ∃ n, r = ⟨Str.ofString "size", [.i n]⟩ ∧ wordsR sizeK h = some r ∧ rowsR rowK l = some rs := by
  have e : (wordsR allK h).bind (fun g => (rowsR allK l).map (g :: ·)) = some (r :: rs) := e
  obtain ⟨g, hg, e⟩ := Option.bind_eq_some_iff.mp e
  obtain ⟨g2, hg2, e3⟩ := Option.map_eq_some_iff.mp e
  cases e3
  constructor
  · intro hh
    rw [List.map_cons] at hh
    have h1 : r.w = Str.ofString "size" := of_decide_eq_true (List.cons.inj hh).1
    have h2 : ∀ q ∈ rs, q.w ≠ Str.ofString "size" := fun q hq => by
      have : q.isSz ∈ List.replicate rs.length false := by rw [← (List.cons.inj hh).2]; exact List.mem_map.mpr ⟨q, hq, rfl⟩
      exact of_decide_eq_false (List.eq_of_mem_replicate this)
    rw [all_split] at hg
    split at hg
    · obtain ⟨_, _, n, e4⟩ := sizeK_w hg
      exact ⟨n, e4, hg, rows_r1 hg2 h2⟩
    · exact absurd h1 (rowK_w hg).1
  · rintro ⟨n, rfl, _, h3⟩
    rw [List.map_cons]
    refine congr (congrArg List.cons (decide_eq_true rfl)) (List.eq_replicate_iff.mpr ⟨List.length_map _, fun b hb => ?_⟩)
    obtain ⟨q, hq, rfl⟩ := List.mem_map.mp hb
    exact decide_eq_false ((rows_r2 h3).2 q hq)
theorem heads_conv {h : List Str} {l : List (List Str)} {r : GRow} {rs : List GRow} (h1 : wordsR sizeK h = some r) (h2 : rowsR rowK l = some rs) : rowsR allK (h :: l) = some (r :: rs) := by
  show (wordsR allK h).bind (fun g => (rowsR allK l).map (g :: ·)) = _
  obtain ⟨a, b, _⟩ := sizeK_w h1
  rw [all_split, if_pos ⟨a, b⟩, h1, (rows_r2 h2).1]
  rfl
/-- a row of words as a row of a change -/
def xOf (r : GRow) : XRow := match r.ps with
  | [.s z] => .put z
  | [.i a, .i n] => .copy a n
  | _ => .put ⟨#[]⟩
theorem rowK_x {ws : List Str} {r : GRow} (hw : ∀ w ∈ ws, okS w) (h : wordsR rowK ws = some r) : (xOf r).d = r.d ∧ (xOf r).sOk := by
  have hok := words_ok kinds_ok.2.2 hw h
  unfold rowK at h
  rw [wordsR] at h
  split at h
  · rename_i hc
    obtain ⟨gs, hgs, rfl⟩ := Option.map_eq_some_iff.mp h
    rw [k_cd.2.1] at hgs
    obtain ⟨w0, ws', rfl⟩ : ∃ w0 ws', ws = w0 :: ws' := by
      cases ws with
      | nil => cases hc.1
      | cons a b => exact ⟨a, b, rfl⟩
    have hl : ws'.length = 2 := by have := hc.2; rw [k_cd.2.2.2.2.1, List.length_cons] at this; omega
    match ws', hl with
    | [a, b], _ =>
      have hgs : partsR [110, 110] [a, b] = some gs := hgs
      rw [parts_nn] at hgs
      split at hgs
      · cases hgs
        exact ⟨rfl, trivial⟩
      · cases hgs
  · rw [wordsR] at h
    split at h
    · rename_i hc
      obtain ⟨gs, hgs, rfl⟩ := Option.map_eq_some_iff.mp h
      rw [k_cd.2.2.1] at hgs
      obtain ⟨w0, ws', rfl⟩ : ∃ w0 ws', ws = w0 :: ws' := by
        cases ws with
        | nil => cases hc.1
        | cons a b => exact ⟨a, b, rfl⟩
      have hl : ws'.length = 1 := by have := hc.2; rw [k_cd.2.2.2.2.2, List.length_cons] at this; omega
      match ws', hl with
      | [a], _ =>
        have hgs : partsR [116] [a] = some gs := hgs
        rw [parts_t] at hgs
        split at hgs
        · cases hgs
          have := hok.p (.s a) (List.mem_singleton.mpr rfl)
          exact ⟨rfl, this.1, Nat.le_trans this.2 (by decide)⟩
        · cases hgs
    · cases h
theorem rowsK_x : ∀ {l : List (List Str)} {rs : List GRow}, (∀ ws ∈ l, ∀ w ∈ ws, okS w) → rowsR rowK l = some rs → rs.map GRow.d = (rs.map xOf).map XRow.d ∧ ∀ x ∈ rs.map xOf, x.sOk
  | [], rs, _, h => by
    have h : some [] = some rs := h
    cases h
    exact ⟨rfl, (fun _ z => nomatch z)⟩
  | ws :: l, rs, hw, h => by
    have h : (wordsR rowK ws).bind (fun g => (rowsR rowK l).map (g :: ·)) = some rs := h
    obtain ⟨g, hg, h⟩ := Option.bind_eq_some_iff.mp h
    obtain ⟨g2, hg2, rfl⟩ := Option.map_eq_some_iff.mp h
    obtain ⟨i1, i2⟩ := rowsK_x (fun v hv => hw v (List.mem_cons_of_mem _ hv)) hg2
    obtain ⟨j1, j2⟩ := rowK_x (hw ws (List.mem_cons_self ..)) hg
    refine ⟨by rw [List.map_cons, List.map_cons, List.map_cons, i1, j1], fun x hx => ?_⟩
    rw [List.map_cons] at hx
    rcases List.mem_cons.mp hx with rfl | hx
    · exact j2
    · exact i2 x hx
/-- what is due for a text -/
inductive DueC where
  | no
  | size
  | row (k : Nat)
  | ok (n : Int) (cs : List GRow)
def dueH : Option GRow → Option (List GRow) → DueC
  | some ⟨_, [.i n]⟩, some cs => match dueX n (cs.map xOf) with
    | .ok => .ok n cs
    | .size => .size
    | .row k => .row k
  | _, _ => .no
def dueC : List (List Str) → DueC
  | [] => .no
  | h :: l => dueH (wordsR sizeK h) (rowsR rowK l)
theorem dueC_no {h : List Str} {l : List (List Str)} (e : wordsR sizeK h = none ∨ rowsR rowK l = none) : dueC (h :: l) = .no := by
  show dueH _ _ = _
  rcases e with e | e
  · rw [e]; rfl
  · rw [e]
    unfold dueH
    split <;> first | rfl | (rename_i z; cases z)
theorem dueC_yes {h : List Str} {l : List (List Str)} {n : Int} {rs : List GRow} (h1 : wordsR sizeK h = some ⟨Str.ofString "size", [.i n]⟩) (h2 : rowsR rowK l = some rs) : dueC (h :: l) = match dueX n (rs.map xOf) with
    | .ok => .ok n rs
    | .size => .size
    | .row k => .row k := by
  show dueH _ _ = _
  rw [h1, h2]
  rfl
theorem dueC_none {h : List Str} {l : List (List Str)} (e : rowsR allK (h :: l) = none) : dueC (h :: l) = .no := by
  cases h1 : wordsR sizeK h with
  | none => exact dueC_no (.inl h1)
  | some r =>
    cases h2 : rowsR rowK l with
    | none => exact dueC_no (.inr h2)
    | some rs =>
      rw [heads_conv h1 h2] at e
      cases e
theorem dueC_heads {h : List Str} {l : List (List Str)} {r : GRow} {rs : List GRow} (e : rowsR allK (h :: l) = some (r :: rs)) (hn : ¬ (r :: rs).map GRow.isSz = true :: List.replicate rs.length false) : dueC (h :: l) = .no := by
  cases h1 : wordsR sizeK h with
  | none => exact dueC_no (.inl h1)
  | some r2 =>
    cases h2 : rowsR rowK l with
    | none => exact dueC_no (.inr h2)
    | some rs2 =>
      have e2 := heads_conv h1 h2
      rw [e] at e2
      have e3 := Option.some.inj e2
      obtain ⟨e4, e5⟩ := List.cons.inj e3
      subst e4 e5
      obtain ⟨_, _, n, rfl⟩ := sizeK_w h1
      exact absurd ((heads_iff e).mpr ⟨n, rfl, h1, h2⟩) hn
theorem bool_eqv (a b : Bool) : PyData.eqv (.bool a) (.bool b) = (a == b) := by cases a <;> cases b <;> rfl
theorem eqv_bools : ∀ as bs : List Bool, PyData.eqvAll (as.map .bool) (bs.map .bool) = decide (as = bs)
  | [], [] => by simp [PyData.eqvAll]
  | [], _ :: _ => by simp [PyData.eqvAll]
  | _ :: _, [] => by simp [PyData.eqvAll]
  | a :: as, b :: bs => by
    rw [List.map_cons, List.map_cons, PyData.eqvAll, eqv_bools as bs, bool_eqv]
    cases a <;> cases b <;> simp
theorem dpa_bools {K : PySem.W.Frag} {F : Hp} : ∀ bs : List Bool, DpAll K F (bs.map V.bl) (bs.map .bool)
  | [] => .nil
  | _ :: bs => .cons (.bl _) (dpa_bools bs)
theorem bools_good {bs : List Bool} (h : bs.length ≤ 100000) : good (.list (bs.map .bool)) = true ∧ (PyData.list (bs.map .bool)).depth ≤ 1 := by
  constructor
  · refine good_list (by rw [List.length_map]; exact h) fun d hd => ?_
    obtain ⟨b, _, rfl⟩ := List.mem_map.mp hd
    rfl
  · refine depth_list fun d hd => ?_
    obtain ⟨b, _, rfl⟩ := List.mem_map.mp hd
    exact Nat.le_refl _
theorem n_neBl {K : PySem.W.Frag} {H : Hp} {Q : VK} {p r : Addr} {as bs : List Bool} (h1 : SqL K H p (as.map V.bl)) (h2 : SqL K H r (bs.map V.bl)) (l1 : as.length ≤ 100000) (l2 : bs.length ≤ 100000) (q : Q (.bl (!decide (as = bs))) H) : rNeD K (.ref p) (.ref r) H Q := by
  refine ⟨_, _, .lst h1 (dpa_bools as), .lst h2 (dpa_bools bs), good_shaped (bools_good l1).1 (Nat.le_trans (bools_good l1).2 (by decide)), good_shaped (bools_good l2).1 (Nat.le_trans (bools_good l2).2 (by decide)), ?_⟩
  show Q (.bl (!PyData.eqvAll _ _)) H
  rw [eqv_bools]
  exact q
def wlD (ws : List Str) : PyData := .list (ws.map .str)
theorem dp_wl {K : PySem.W.Frag} {F : Hp} {x : V} {ws : List Str} (h : Dp K F x (wlD ws)) : ∃ p, x = .ref p ∧ SqL K F p (ws.map V.str) := by
  unfold wlD at h
  generalize e : ws.map PyData.str = ds at h
  cases h with
  | lst hs hd =>
    subst e
    rw [strs_dpa hd] at hs
    exact ⟨_, rfl, hs⟩
theorem flat_one {α : Type} (x : α) : ∀ n : Nat, (List.replicate n [x]).flatten = List.replicate n x
  | 0 => rfl
  | n + 1 => by rw [List.replicate_succ, List.replicate_succ, List.flatten_cons, flat_one x n]; rfl
/-! ### promises -/
def φinitX72 (K : PySem.W.Frag) : V → V → V → Hp → VK → XK → Prop := fun x y z H Q E => ∃ (F : Hp) (c dx a : Addr) (vs : List V) (size : Int) (rows : List XRow), x = .ref c ∧ y = .int size ∧ z = .ref a ∧ St F H [mu c (.ins (He.ga K "Change") dx []), mu a (.lst vs)] ∧ DpAll K F vs (rows.map XRow.d) ∧ rows.length ≤ 100000 ∧ (∀ r ∈ rows, r.sOk) ∧
  (dueX size rows = .ok → ∀ r F2 H2, H r = none → W [c, a] F H F2 H2 [mu c (insX (He.ga K "Change") dx r size), mu r (.lst vs), mu a (.lst vs)] → Q .non H2) ∧
  (dueX size rows = .size → ∀ F2 H2, W [c, a] F H F2 H2 [mu c (.ins (He.ga K "Change") dx []), mu a (.lst vs)] → E (.ref (He.ga K "BadSize")) none H2) ∧
  (∀ k, dueX size rows = .row k → ∀ dd F2 H2, H dd = none → W [c, a] F H F2 H2 [fx dd (.xd [("row", .int (k : Nat))]), mu c (.ins (He.ga K "Change") dx []), mu a (.lst vs)] → E (.ref (He.ga K "BadRow")) (some dd) H2)
def φcrowX (K : PySem.W.Frag) : V → Hp → VK → XK → Prop := fun x H Q E => ∃ (F : Hp) (a : Addr) (w0 : Str) (ws : List Str), x = .ref a ∧ Same F H ∧ SqL K F a ((w0 :: ws).map V.str) ∧ (∀ w ∈ w0 :: ws, okS w ∧ w.length ≤ 100000) ∧ ws.length ≤ 100000 ∧
  (∀ r, wordsR rowK (w0 :: ws) = some r → ∀ t F2 H2, W [] F H F2 H2 [dat K (.ref t) r.d] → Q (.ref t) H2) ∧ (wordsR rowK (w0 :: ws) = none → ∀ F2 H2, W [] F H F2 H2 [] → E (.ref (He.ga K "NoText")) none H2)
def φrchX (K : PySem.W.Frag) : V → Hp → VK → XK → Prop := fun x H Q E => ∃ (F : Hp) (s : Str), x = .str s ∧ Same F H ∧ plainT s ∧ s.length ≤ 90000 ∧
  (∀ n cs, dueC (wordsLs s) = .ok n cs → ∀ v (m : Nat) (rows : List CRow) F2 H2, W [] F H F2 H2 [chg K v m rows] → n = (m : Nat) → m ≤ 400 → cs.map xOf = rows.map CRow.x → cs.map GRow.d = rows.map CRow.d → RowsOk m rows → Q v H2) ∧
  (dueC (wordsLs s) = .no → ∀ F2 H2, W [] F H F2 H2 [] → E (.ref (He.ga K "NoText")) none H2) ∧ (dueC (wordsLs s) = .size → ∀ F2 H2, W [] F H F2 H2 [] → E (.ref (He.ga K "BadSize")) none H2) ∧
  (∀ k, dueC (wordsLs s) = .row k → ∀ dd F2 H2, H dd = none → W [] F H F2 H2 [fx dd (.xd [("row", .int (k : Nat))])] → E (.ref (He.ga K "BadRow")) (some dd) H2)
def fltV (o : Option Nat) : V := match o with
  | some k => .int (k : Nat)
  | none => .non
def φfault72 (K : PySem.W.Frag) : V → V → Hp → VK → Prop := fun x y H Q => ∃ (F : Hp) (a : Addr) (vs : List V) (size : Int) (xs : List XRow), x = .int size ∧ y = .ref a ∧ Same F H ∧ SqL K F a vs ∧ DpAll K F vs (xs.map XRow.d) ∧ xs.length ≤ 100000 ∧ (∀ r ∈ xs, r.sOk) ∧ ∀ F2 H2, W [] F H F2 H2 [] → Q (fltV (fxX size 0 0 xs)) H2
def φdue72 (K : PySem.W.Frag) : V → Hp → VK → Prop := fun x H Q => ∃ (F : Hp) (s : Str), x = .str s ∧ Same F H ∧ plainT s ∧ s.length ≤ 90000 ∧
  (dueC (wordsLs s) = .no → ∀ t p F2 H2, W [] F H F2 H2 [fx t (.tup [.str (Str.ofString "NoText"), .non, .int 0, .ref p])] → Q (.ref t) H2) ∧
  (dueC (wordsLs s) = .size → ∀ t p F2 H2, W [] F H F2 H2 [fx t (.tup [.str (Str.ofString "BadSize"), .non, .int 0, .ref p])] → Q (.ref t) H2) ∧
  (∀ k, dueC (wordsLs s) = .row k → ∀ t p F2 H2, W [] F H F2 H2 [fx t (.tup [.str (Str.ofString "BadRow"), .int (k : Nat), .int 0, .ref p])] → Q (.ref t) H2) ∧
  (∀ n cs, dueC (wordsLs s) = .ok n cs → ∀ t p vs F2 H2, W [] F H F2 H2 [fx t (.tup [.str (Str.ofString ""), .non, .int n, .ref p]), fx p (.lst vs), dpa K vs (cs.map GRow.d)] → Q (.ref t) H2)
def φread72 (K : PySem.W.Frag) : V → Hp → VK → Prop := fun x H Q => ∃ (F : Hp) (s : Str), x = .str s ∧ Same F H ∧ plainT s ∧ s.length ≤ 90000 ∧
  (dueC (wordsLs s) = .no → ∀ t F2 H2, W [] F H F2 H2 [fx t (.tup [.non, .str (Str.ofString "NoText value"), .non])] → Q (.ref t) H2) ∧
  (dueC (wordsLs s) = .size → ∀ t F2 H2, W [] F H F2 H2 [fx t (.tup [.non, .str (Str.ofString "BadSize value"), .non])] → Q (.ref t) H2) ∧
  (∀ k, dueC (wordsLs s) = .row k → ∀ t F2 H2, W [] F H F2 H2 [fx t (.tup [.non, .str (Str.ofString "BadRow value"), .int (k : Nat)])] → Q (.ref t) H2) ∧
  (∀ n cs, dueC (wordsLs s) = .ok n cs → ∀ t v (m : Nat) (rows : List CRow) F2 H2, W [] F H F2 H2 [fx t (.tup [v, .str (Str.ofString ""), .non]), chg K v m rows] → n = (m : Nat) → m ≤ 400 → cs.map GRow.d = rows.map CRow.d → RowsOk m rows → Q (.ref t) H2)
def φkind72 (K : PySem.W.Frag) : V → Hp → VK → Prop := fun x H Q => ∃ (F : Hp) (xa : Addr) (C : String) (d : Option Addr), x = .ref xa ∧ Same F H ∧ F xa = some (exk xa (.ref (He.ga K (Str.ofString C))) d) ∧ KDk F d ∧ (C = "NoText" ∨ C = "BadSize" ∨ C = "BadRow") ∧ ∀ F2 H2, W [] F H F2 H2 [] → Q (.str (Str.ofString (C ++ " value"))) H2
def φnamed72 (K : PySem.W.Frag) : V → Hp → VK → Prop := fun x H Q => ∃ (F : Hp) (s : Str), x = .str s ∧ Same F H ∧ s ≠ Str.ofString "NoSpare" ∧ s.length ≤ 20 ∧ ∀ F2 H2, W [] F H F2 H2 [] → Q (.str (if s = Str.ofString "" then Str.ofString "" else s ++ Str.ofString " value")) H2
end R
namespace Z
open PySem PySem.Spec PyProof.Rows L2 R
def topS (i : Nat) : Stmt := PySem.Challenge.pw_remadehere_k72_changes_spoilt.main.body.getD i (.Pass ⟨0, 0, 0, 0⟩)
abbrev s_gives : Stmt := topS 10
theorem sc_gives : FnScope ["row", "size"] ["row", "size"] (defScope s_gives) := ⟨rfl, rfl, rfl, by decide +kernel, rfl, by decide +kernel, by decide +kernel⟩
abbrev s_BadRowX_initX : Stmt := inClass (topS 2) 0
theorem sc_BadRowX_initX : FnScope ["self", "row"] ["self", "row"] (defScope s_BadRowX_initX) := ⟨rfl, rfl, rfl, by decide +kernel, rfl, by decide +kernel, by decide +kernel⟩
abbrev s_ChangeX_initX_r : Stmt := inClass (topS 12) 0
theorem sc_ChangeX_initX_r : FnScope ["self", "size", "rows", "many", "k", "more"] ["self", "size", "rows"] (defScope s_ChangeX_initX_r) := ⟨rfl, rfl, rfl, by decide +kernel, rfl, by decide +kernel, by decide +kernel⟩
abbrev s_is_number : Stmt := topS 17
theorem sc_is_number : FnScope ["word", "figures", "sign"] ["word"] (defScope s_is_number) := ⟨rfl, rfl, rfl, by decide +kernel, rfl, by decide +kernel, by decide +kernel⟩
abbrev s_number_of_r : Stmt := topS 18
theorem sc_number_of_r : FnScope ["word"] ["word"] (defScope s_number_of_r) := ⟨rfl, rfl, rfl, by decide +kernel, rfl, by decide +kernel, by decide +kernel⟩
abbrev s_text_of_r : Stmt := topS 19
theorem sc_text_of_r : FnScope ["word"] ["word"] (defScope s_text_of_r) := ⟨rfl, rfl, rfl, by decide +kernel, rfl, by decide +kernel, by decide +kernel⟩
abbrev s_change_row_r : Stmt := topS 20
theorem sc_change_row_r : FnScope ["words"] ["words"] (defScope s_change_row_r) := ⟨rfl, rfl, rfl, by decide +kernel, rfl, by decide +kernel, by decide +kernel⟩
abbrev s_read_change_r : Stmt := topS 21
theorem sc_read_change_r : FnScope ["text", "lines", "size", "line", "words"] ["text"] (defScope s_read_change_r) := ⟨rfl, rfl, rfl, by decide +kernel, rfl, by decide +kernel, by decide +kernel⟩
abbrev s_law_bag : Stmt := topS 23
theorem sc_law_bag : FnScope ["script", "stir", "cell"] ["script"] (defScope s_law_bag) := ⟨rfl, rfl, rfl, by decide +kernel, rfl, by decide +kernel, by decide +kernel⟩
abbrev s_law_stirred : Stmt := topS 24
theorem sc_law_stirred : FnScope ["bag", "many", "found", "k"] ["bag", "many"] (defScope s_law_stirred) := ⟨rfl, rfl, rfl, by decide +kernel, rfl, by decide +kernel, by decide +kernel⟩
abbrev s_law_draw : Stmt := topS 25
theorem sc_law_draw : FnScope ["bag", "many", "found"] ["bag", "many"] (defScope s_law_draw) := ⟨rfl, rfl, rfl, by decide +kernel, rfl, by decide +kernel, by decide +kernel⟩
abbrev s_law_whole : Stmt := topS 26
theorem sc_law_whole : FnScope ["found"] ["found"] (defScope s_law_whole) := ⟨rfl, rfl, rfl, by decide +kernel, rfl, by decide +kernel, by decide +kernel⟩
abbrev s_law_alike : Stmt := topS 27
theorem sc_law_alike : FnScope ["found", "due", "k"] ["found", "due"] (defScope s_law_alike) := ⟨rfl, rfl, rfl, by decide +kernel, rfl, by decide +kernel, by decide +kernel⟩
abbrev s_law_signs : Stmt := topS 28
theorem sc_law_signs : FnScope ["some"] [] (defScope s_law_signs) := ⟨rfl, rfl, rfl, by decide +kernel, rfl, by decide +kernel, by decide +kernel⟩
abbrev s_law_text : Stmt := topS 29
theorem sc_law_text : FnScope ["bag", "size", "few", "first", "some", "k"] ["bag", "size"] (defScope s_law_text) := ⟨rfl, rfl, rfl, by decide +kernel, rfl, by decide +kernel, by decide +kernel⟩
abbrev s_law_row : Stmt := topS 30
theorem sc_law_row : FnScope ["bag", "size", "left", "last", "way", "wide", "at"] ["bag", "size", "left", "last"] (defScope s_law_row) := ⟨rfl, rfl, rfl, by decide +kernel, rfl, by decide +kernel, by decide +kernel⟩
abbrev s_law_rows : Stmt := topS 31
theorem sc_law_rows : FnScope ["bag", "size", "many", "most", "rows", "left", "cap", "k"] ["bag", "size", "many", "most"] (defScope s_law_rows) := ⟨rfl, rfl, rfl, by decide +kernel, rfl, by decide +kernel, by decide +kernel⟩
abbrev s_law_size : Stmt := topS 32
theorem sc_law_size : FnScope ["bag"] ["bag"] (defScope s_law_size) := ⟨rfl, rfl, rfl, by decide +kernel, rfl, by decide +kernel, by decide +kernel⟩
abbrev s_law_same : Stmt := topS 33
theorem sc_law_same : FnScope ["found", "size", "rows"] ["found", "size", "rows"] (defScope s_law_same) := ⟨rfl, rfl, rfl, by decide +kernel, rfl, by decide +kernel, by decide +kernel⟩
abbrev s_law_plan_written : Stmt := topS 34
theorem sc_law_plan_written : FnScope ["plan", "lines", "row", "words", "part"] ["plan"] (defScope s_law_plan_written) := ⟨rfl, rfl, rfl, by decide +kernel, rfl, by decide +kernel, by decide +kernel⟩
abbrev s_law_change_written : Stmt := topS 35
theorem sc_law_change_written : FnScope ["size", "rows", "found", "row"] ["size", "rows"] (defScope s_law_change_written) := ⟨rfl, rfl, rfl, by decide +kernel, rfl, by decide +kernel, by decide +kernel⟩
abbrev s_law_number : Stmt := topS 36
theorem sc_law_number : FnScope ["word", "figures", "sign"] ["word"] (defScope s_law_number) := ⟨rfl, rfl, rfl, by decide +kernel, rfl, by decide +kernel, by decide +kernel⟩
abbrev s_law_words_read : Stmt := topS 37
theorem sc_law_words_read : FnScope ["words", "kinds", "kind", "parts", "row", "k", "word", "number"] ["words", "kinds"] (defScope s_law_words_read) := ⟨rfl, rfl, rfl, by decide +kernel, rfl, by decide +kernel, by decide +kernel⟩
abbrev s_law_lines_read : Stmt := topS 38
theorem sc_law_lines_read : FnScope ["text", "kinds", "rows", "line"] ["text", "kinds"] (defScope s_law_lines_read) := ⟨rfl, rfl, rfl, by decide +kernel, rfl, by decide +kernel, by decide +kernel⟩
abbrev s_law_kind : Stmt := topS 39
theorem sc_law_kind : FnScope ["e", "names", "kinds", "k"] ["e"] (defScope s_law_kind) := ⟨rfl, rfl, rfl, by decide +kernel, rfl, by decide +kernel, by decide +kernel⟩
abbrev s_law_named : Stmt := topS 40
theorem sc_law_named : FnScope ["word"] ["word"] (defScope s_law_named) := ⟨rfl, rfl, rfl, by decide +kernel, rfl, by decide +kernel, by decide +kernel⟩
abbrev s_law_spoilt : Stmt := topS 41
theorem sc_law_spoilt : FnScope ["bag", "text", "words", "way", "at", "signs", "sign", "lines", "k", "parts", "j", "some"] ["bag", "text", "words"] (defScope s_law_spoilt) := ⟨rfl, rfl, rfl, by decide +kernel, rfl, by decide +kernel, by decide +kernel⟩
abbrev s_law_within : Stmt := topS 42
theorem sc_law_within : FnScope ["text", "run", "sign"] ["text"] (defScope s_law_within) := ⟨rfl, rfl, rfl, by decide +kernel, rfl, by decide +kernel, by decide +kernel⟩
abbrev s_law_row_fault : Stmt := topS 43
theorem sc_law_row_fault : FnScope ["size", "rows", "many", "k", "row", "more", "good"] ["size", "rows"] (defScope s_law_row_fault) := ⟨rfl, rfl, rfl, by decide +kernel, rfl, by decide +kernel, by decide +kernel⟩
abbrev s_law_due : Stmt := topS 44
theorem sc_law_due : FnScope ["text", "rows", "heads", "size", "fault", "row"] ["text"] (defScope s_law_due) := ⟨rfl, rfl, rfl, by decide +kernel, rfl, by decide +kernel, by decide +kernel⟩
abbrev s_law_read : Stmt := topS 45
theorem sc_law_read : FnScope ["text", "found", "caught", "row", "e"] ["text"] (defScope s_law_read) := ⟨rfl, rfl, rfl, by decide +kernel, rfl, by decide +kernel, by decide +kernel⟩
abbrev s_law_right : Stmt := topS 46
theorem sc_law_right : FnScope ["text", "word", "row", "size", "rows", "found", "told", "k"] ["text"] (defScope s_law_right) := ⟨rfl, rfl, rfl, by decide +kernel, rfl, by decide +kernel, by decide +kernel⟩
abbrev s_law : Stmt := topS 47
theorem sc_law : FnScope ["script", "bag", "spoils", "size", "rows", "text", "k", "more"] ["script"] (defScope s_law) := ⟨rfl, rfl, rfl, by decide +kernel, rfl, by decide +kernel, by decide +kernel⟩
structure Txt (K : PySem.W.Frag) (mg : Str → Option Value) : Prop where
  b_KeyError : mg "KeyError" = none
  b_LookupError : mg "LookupError" = none
  b_RuntimeError : mg "RuntimeError" = none
  b_ValueError : mg "ValueError" = none
  b_abs : mg "abs" = none
  b_all : mg "all" = none
  b_bool : mg "bool" = none
  b_int : mg "int" = none
  b_isinstance : mg "isinstance" = none
  b_len : mg "len" = none
  b_list : mg "list" = none
  b_min : mg "min" = none
  b_range : mg "range" = none
  b_str : mg "str" = none
  b_tuple : mg "tuple" = none
  c_MOST : ∃ t, mg "MOST" = some (.int 400 t)
  c_MOST_FIGURES : ∃ t, mg "MOST_FIGURES" = some (.int 60 t)
  c_FIGURES : ∃ t, mg "FIGURES" = some (.str (Str.ofString "0123456789") t)
  c_MOST_SIGNS : ∃ t, mg "MOST_SIGNS" = some (.int 400 t)
  k_Change : Cls K (He.ga K "Change")
  na_Change_size : NoAttr K (He.ga K "Change") "size"
  na_Change_rows : NoAttr K (He.ga K "Change") "rows"
  g_Change : mg "Change" = some (.ref (He.ga K "Change"))
  i_Change : C8.InsC K (He.ga K "Change")
  e_BadSize : EC K mg "BadSize"
  e_NoText : EC K mg "NoText"
  x_BadRow : XF K mg "ValueError" "ValueError.__new__" "ValueError.__init__" PySem.HandSPX.veTail "BadRow" "row" 
  g_BadRow : mg "BadRow" = some (.ref (He.ga K "BadRow"))
  g_BadSize : mg "BadSize" = some (.ref (He.ga K "BadSize"))
  g_Busy : mg "Busy" = some (.ref (He.ga K "Busy"))
  g_NoSpare : mg "NoSpare" = some (.ref (He.ga K "NoSpare"))
  g_NoText : mg "NoText" = some (.ref (He.ga K "NoText"))
  g_NoVersion : mg "NoVersion" = some (.ref (He.ga K "NoVersion"))
  y_NoText : ExcC K (He.ga K "NoText")
  y_BadSize : ExcC K (He.ga K "BadSize")
  y_BadRow : ExcC K (He.ga K "BadRow")
  q_0 : PySem.W.kitOne K (Value.ref (He.ga K "NoText")) (Value.ref (He.ga K "BadRow")) = some false
  q_1 : PySem.W.kitOne K (Value.ref (He.ga K "NoText")) (Value.ref (He.ga K "BadSize")) = some false
  q_2 : PySem.W.kitOne K (Value.ref (He.ga K "NoText")) (Value.ref (He.ga K "Busy")) = some false
  q_3 : PySem.W.kitOne K (Value.ref (He.ga K "NoText")) (Value.ref (He.ga K "NoSpare")) = some false
  q_4 : PySem.W.kitOne K (Value.ref (He.ga K "NoText")) (Value.ref (He.ga K "NoText")) = some true
  q_5 : PySem.W.kitOne K (Value.ref (He.ga K "NoText")) (Value.ref (He.ga K "NoVersion")) = some false
  q_6 : PySem.W.kitOne K (Value.ref (He.ga K "NoText")) (Value.type "ValueError") = some true
  q_7 : PySem.W.kitOne K (Value.ref (He.ga K "NoText")) (Value.type "LookupError") = some false
  q_8 : PySem.W.kitOne K (Value.ref (He.ga K "NoText")) (Value.type "KeyError") = some false
  q_9 : PySem.W.kitOne K (Value.ref (He.ga K "NoText")) (Value.type "RuntimeError") = some false
  q_10 : PySem.W.kitOne K (Value.ref (He.ga K "BadSize")) (Value.ref (He.ga K "BadRow")) = some false
  q_11 : PySem.W.kitOne K (Value.ref (He.ga K "BadSize")) (Value.ref (He.ga K "BadSize")) = some true
  q_12 : PySem.W.kitOne K (Value.ref (He.ga K "BadSize")) (Value.ref (He.ga K "Busy")) = some false
  q_13 : PySem.W.kitOne K (Value.ref (He.ga K "BadSize")) (Value.ref (He.ga K "NoSpare")) = some false
  q_14 : PySem.W.kitOne K (Value.ref (He.ga K "BadSize")) (Value.ref (He.ga K "NoText")) = some false
  q_15 : PySem.W.kitOne K (Value.ref (He.ga K "BadSize")) (Value.ref (He.ga K "NoVersion")) = some false
  q_16 : PySem.W.kitOne K (Value.ref (He.ga K "BadSize")) (Value.type "ValueError") = some true
  q_17 : PySem.W.kitOne K (Value.ref (He.ga K "BadSize")) (Value.type "LookupError") = some false
  q_18 : PySem.W.kitOne K (Value.ref (He.ga K "BadSize")) (Value.type "KeyError") = some false
  q_19 : PySem.W.kitOne K (Value.ref (He.ga K "BadSize")) (Value.type "RuntimeError") = some false
  q_20 : PySem.W.kitOne K (Value.ref (He.ga K "BadRow")) (Value.ref (He.ga K "BadRow")) = some true
  q_21 : PySem.W.kitOne K (Value.ref (He.ga K "BadRow")) (Value.ref (He.ga K "BadSize")) = some false
  q_22 : PySem.W.kitOne K (Value.ref (He.ga K "BadRow")) (Value.ref (He.ga K "Busy")) = some false
  q_23 : PySem.W.kitOne K (Value.ref (He.ga K "BadRow")) (Value.ref (He.ga K "NoSpare")) = some false
  q_24 : PySem.W.kitOne K (Value.ref (He.ga K "BadRow")) (Value.ref (He.ga K "NoText")) = some false
  q_25 : PySem.W.kitOne K (Value.ref (He.ga K "BadRow")) (Value.ref (He.ga K "NoVersion")) = some false
  q_26 : PySem.W.kitOne K (Value.ref (He.ga K "BadRow")) (Value.type "ValueError") = some true
  q_27 : PySem.W.kitOne K (Value.ref (He.ga K "BadRow")) (Value.type "LookupError") = some false
  q_28 : PySem.W.kitOne K (Value.ref (He.ga K "BadRow")) (Value.type "KeyError") = some false
  q_29 : PySem.W.kitOne K (Value.ref (He.ga K "BadRow")) (Value.type "RuntimeError") = some false
  m_0 : PySem.W.exmOne K (Value.ref (He.ga K "NoText")) (Value.ref (He.ga K "NoText")) = some true
  m_1 : PySem.W.exmOne K (Value.ref (He.ga K "BadSize")) (Value.ref (He.ga K "NoText")) = some false
  m_2 : PySem.W.exmOne K (Value.ref (He.ga K "BadSize")) (Value.ref (He.ga K "BadSize")) = some true
  m_3 : PySem.W.exmOne K (Value.ref (He.ga K "BadRow")) (Value.ref (He.ga K "NoText")) = some false
  m_4 : PySem.W.exmOne K (Value.ref (He.ga K "BadRow")) (Value.ref (He.ga K "BadSize")) = some false
  m_5 : PySem.W.exmOne K (Value.ref (He.ga K "BadRow")) (Value.ref (He.ga K "BadRow")) = some true
def d_gives : He.DefD := ⟨("gives", none), "gives", "gives", defArgs s_gives, defBody s_gives, defScope s_gives, [], []⟩
def d_BadRowX_initX : He.DefD := ⟨("BadRow", some "__init__"), "__init__", "BadRow.__init__", defArgs s_BadRowX_initX, defBody s_BadRowX_initX, defScope s_BadRowX_initX, [], []⟩
def d_ChangeX_initX_r : He.DefD := ⟨("Change", some "__init__"), "__init__", "Change.__init__", defArgs s_ChangeX_initX_r, defBody s_ChangeX_initX_r, defScope s_ChangeX_initX_r, [], []⟩
def d_is_number : He.DefD := ⟨("is_number", none), "is_number", "is_number", defArgs s_is_number, defBody s_is_number, defScope s_is_number, [], []⟩
def d_number_of_r : He.DefD := ⟨("number_of", none), "number_of", "number_of", defArgs s_number_of_r, defBody s_number_of_r, defScope s_number_of_r, [], []⟩
def d_text_of_r : He.DefD := ⟨("text_of", none), "text_of", "text_of", defArgs s_text_of_r, defBody s_text_of_r, defScope s_text_of_r, [], []⟩
def d_change_row_r : He.DefD := ⟨("change_row", none), "change_row", "change_row", defArgs s_change_row_r, defBody s_change_row_r, defScope s_change_row_r, [], []⟩
def d_read_change_r : He.DefD := ⟨("read_change", none), "read_change", "read_change", defArgs s_read_change_r, defBody s_read_change_r, defScope s_read_change_r, [], []⟩
def d_law_bag : He.DefD := ⟨("_law_bag", none), "_law_bag", "_law_bag", defArgs s_law_bag, defBody s_law_bag, defScope s_law_bag, [], []⟩
def d_law_stirred : He.DefD := ⟨("_law_stirred", none), "_law_stirred", "_law_stirred", defArgs s_law_stirred, defBody s_law_stirred, defScope s_law_stirred, [], []⟩
def d_law_draw : He.DefD := ⟨("_law_draw", none), "_law_draw", "_law_draw", defArgs s_law_draw, defBody s_law_draw, defScope s_law_draw, [], []⟩
def d_law_whole : He.DefD := ⟨("_law_whole", none), "_law_whole", "_law_whole", defArgs s_law_whole, defBody s_law_whole, defScope s_law_whole, [], []⟩
def d_law_alike : He.DefD := ⟨("_law_alike", none), "_law_alike", "_law_alike", defArgs s_law_alike, defBody s_law_alike, defScope s_law_alike, [], []⟩
def d_law_signs : He.DefD := ⟨("_law_signs", none), "_law_signs", "_law_signs", defArgs s_law_signs, defBody s_law_signs, defScope s_law_signs, [], []⟩
def d_law_text : He.DefD := ⟨("_law_text", none), "_law_text", "_law_text", defArgs s_law_text, defBody s_law_text, defScope s_law_text, [], []⟩
def d_law_row : He.DefD := ⟨("_law_row", none), "_law_row", "_law_row", defArgs s_law_row, defBody s_law_row, defScope s_law_row, [], []⟩
def d_law_rows : He.DefD := ⟨("_law_rows", none), "_law_rows", "_law_rows", defArgs s_law_rows, defBody s_law_rows, defScope s_law_rows, [], []⟩
def d_law_size : He.DefD := ⟨("_law_size", none), "_law_size", "_law_size", defArgs s_law_size, defBody s_law_size, defScope s_law_size, [], []⟩
def d_law_same : He.DefD := ⟨("_law_same", none), "_law_same", "_law_same", defArgs s_law_same, defBody s_law_same, defScope s_law_same, [], []⟩
def d_law_plan_written : He.DefD := ⟨("_law_plan_written", none), "_law_plan_written", "_law_plan_written", defArgs s_law_plan_written, defBody s_law_plan_written, defScope s_law_plan_written, [], []⟩
def d_law_change_written : He.DefD := ⟨("_law_change_written", none), "_law_change_written", "_law_change_written", defArgs s_law_change_written, defBody s_law_change_written, defScope s_law_change_written, [], []⟩
def d_law_number : He.DefD := ⟨("_law_number", none), "_law_number", "_law_number", defArgs s_law_number, defBody s_law_number, defScope s_law_number, [], []⟩
def d_law_words_read : He.DefD := ⟨("_law_words_read", none), "_law_words_read", "_law_words_read", defArgs s_law_words_read, defBody s_law_words_read, defScope s_law_words_read, [], []⟩
def d_law_lines_read : He.DefD := ⟨("_law_lines_read", none), "_law_lines_read", "_law_lines_read", defArgs s_law_lines_read, defBody s_law_lines_read, defScope s_law_lines_read, [], []⟩
def d_law_kind : He.DefD := ⟨("_law_kind", none), "_law_kind", "_law_kind", defArgs s_law_kind, defBody s_law_kind, defScope s_law_kind, [], []⟩
def d_law_named : He.DefD := ⟨("_law_named", none), "_law_named", "_law_named", defArgs s_law_named, defBody s_law_named, defScope s_law_named, [], []⟩
def d_law_spoilt : He.DefD := ⟨("_law_spoilt", none), "_law_spoilt", "_law_spoilt", defArgs s_law_spoilt, defBody s_law_spoilt, defScope s_law_spoilt, [], []⟩
def d_law_within : He.DefD := ⟨("_law_within", none), "_law_within", "_law_within", defArgs s_law_within, defBody s_law_within, defScope s_law_within, [], []⟩
def d_law_row_fault : He.DefD := ⟨("_law_row_fault", none), "_law_row_fault", "_law_row_fault", defArgs s_law_row_fault, defBody s_law_row_fault, defScope s_law_row_fault, [], []⟩
def d_law_due : He.DefD := ⟨("_law_due", none), "_law_due", "_law_due", defArgs s_law_due, defBody s_law_due, defScope s_law_due, [], []⟩
def d_law_read : He.DefD := ⟨("_law_read", none), "_law_read", "_law_read", defArgs s_law_read, defBody s_law_read, defScope s_law_read, [], []⟩
def d_law_right : He.DefD := ⟨("_law_right", none), "_law_right", "_law_right", defArgs s_law_right, defBody s_law_right, defScope s_law_right, [], []⟩
def d_law : He.DefD := ⟨("law", none), "law", "law", defArgs s_law, defBody s_law, defScope s_law, [], []⟩
def fn : List He.DefD := [d_gives, d_BadRowX_initX, d_ChangeX_initX_r, d_is_number, d_number_of_r, d_text_of_r, d_change_row_r, d_read_change_r, d_law_bag, d_law_stirred, d_law_draw, d_law_whole, d_law_alike, d_law_signs, d_law_text, d_law_row, d_law_rows, d_law_size, d_law_same, d_law_plan_written, d_law_change_written, d_law_number, d_law_words_read, d_law_lines_read, d_law_kind, d_law_named, d_law_spoilt, d_law_within, d_law_row_fault, d_law_due, d_law_read, d_law_right, d_law]
def fa : List He.Fa := [.free "KeyError", .free "LookupError", .free "RuntimeError", .free "ValueError", .free "abs", .free "all", .free "bool", .free "int", .free "isinstance", .free "len", .free "list", .free "min", .free "range", .free "str", .free "tuple", .int "MOST" 400, .int "MOST_FIGURES" 60, .str "FIGURES" (Str.ofString "0123456789"), .int "MOST_SIGNS" 400, .glo "gives", .glo "is_number", .glo "number_of", .glo "text_of", .glo "change_row", .glo "read_change", .glo "_law_bag", .glo "_law_stirred", .glo "_law_draw", .glo "_law_whole", .glo "_law_alike", .glo "_law_signs", .glo "_law_text", .glo "_law_row", .glo "_law_rows", .glo "_law_size", .glo "_law_same", .glo "_law_plan_written", .glo "_law_change_written", .glo "_law_number", .glo "_law_words_read", .glo "_law_lines_read", .glo "_law_kind", .glo "_law_named", .glo "_law_spoilt", .glo "_law_within", .glo "_law_row_fault", .glo "_law_due", .glo "_law_read", .glo "_law_right", .glo "law", .glo "Change", .cls "Change", .mkr "Change", .noat "Change" "size", .noat "Change" "rows", .glo "BadSize", .exc "BadSize", .exm "BadSize" "BadSize" true, .glo "NoText", .exc "NoText", .exm "NoText" "NoText" true, .glo "BadRow", .glo "Busy", .glo "NoSpare", .glo "NoVersion"]
abbrev RR : PySem.W.OpenRow := PySem.W.OpenLaw.row PySem.Challenge.rw_remadehere_k72_changes_spoilt
def exB (K : PySem.W.Frag) : Bool := (insB K "Change" && (xfB K "ValueError" "ValueError.__new__" "ValueError.__init__" PySem.HandSPX.veTail "BadRow" "row" && (excB K "NoText" && (excB K "BadSize" && (excB K "BadRow" && (decide (PySem.W.kitOne K (Value.ref (He.ga K "NoText")) (Value.ref (He.ga K "BadRow")) = some false) && (decide (PySem.W.kitOne K (Value.ref (He.ga K "NoText")) (Value.ref (He.ga K "BadSize")) = some false) && (decide (PySem.W.kitOne K (Value.ref (He.ga K "NoText")) (Value.ref (He.ga K "Busy")) = some false) && (decide (PySem.W.kitOne K (Value.ref (He.ga K "NoText")) (Value.ref (He.ga K "NoSpare")) = some false) && (decide (PySem.W.kitOne K (Value.ref (He.ga K "NoText")) (Value.ref (He.ga K "NoText")) = some true) && (decide (PySem.W.kitOne K (Value.ref (He.ga K "NoText")) (Value.ref (He.ga K "NoVersion")) = some false) && (decide (PySem.W.kitOne K (Value.ref (He.ga K "NoText")) (Value.type "ValueError") = some true) && (decide (PySem.W.kitOne K (Value.ref (He.ga K "NoText")) (Value.type "LookupError") = some false) && (decide (PySem.W.kitOne K (Value.ref (He.ga K "NoText")) (Value.type "KeyError") = some false) && (decide (PySem.W.kitOne K (Value.ref (He.ga K "NoText")) (Value.type "RuntimeError") = some false) && (decide (PySem.W.kitOne K (Value.ref (He.ga K "BadSize")) (Value.ref (He.ga K "BadRow")) = some false) && (decide (PySem.W.kitOne K (Value.ref (He.ga K "BadSize")) (Value.ref (He.ga K "BadSize")) = some true) && (decide (PySem.W.kitOne K (Value.ref (He.ga K "BadSize")) (Value.ref (He.ga K "Busy")) = some false) && (decide (PySem.W.kitOne K (Value.ref (He.ga K "BadSize")) (Value.ref (He.ga K "NoSpare")) = some false) && (decide (PySem.W.kitOne K (Value.ref (He.ga K "BadSize")) (Value.ref (He.ga K "NoText")) = some false) && (decide (PySem.W.kitOne K (Value.ref (He.ga K "BadSize")) (Value.ref (He.ga K "NoVersion")) = some false) && (decide (PySem.W.kitOne K (Value.ref (He.ga K "BadSize")) (Value.type "ValueError") = some true) && (decide (PySem.W.kitOne K (Value.ref (He.ga K "BadSize")) (Value.type "LookupError") = some false) && (decide (PySem.W.kitOne K (Value.ref (He.ga K "BadSize")) (Value.type "KeyError") = some false) && (decide (PySem.W.kitOne K (Value.ref (He.ga K "BadSize")) (Value.type "RuntimeError") = some false) && (decide (PySem.W.kitOne K (Value.ref (He.ga K "BadRow")) (Value.ref (He.ga K "BadRow")) = some true) && (decide (PySem.W.kitOne K (Value.ref (He.ga K "BadRow")) (Value.ref (He.ga K "BadSize")) = some false) && (decide (PySem.W.kitOne K (Value.ref (He.ga K "BadRow")) (Value.ref (He.ga K "Busy")) = some false) && (decide (PySem.W.kitOne K (Value.ref (He.ga K "BadRow")) (Value.ref (He.ga K "NoSpare")) = some false) && (decide (PySem.W.kitOne K (Value.ref (He.ga K "BadRow")) (Value.ref (He.ga K "NoText")) = some false) && (decide (PySem.W.kitOne K (Value.ref (He.ga K "BadRow")) (Value.ref (He.ga K "NoVersion")) = some false) && (decide (PySem.W.kitOne K (Value.ref (He.ga K "BadRow")) (Value.type "ValueError") = some true) && (decide (PySem.W.kitOne K (Value.ref (He.ga K "BadRow")) (Value.type "LookupError") = some false) && (decide (PySem.W.kitOne K (Value.ref (He.ga K "BadRow")) (Value.type "KeyError") = some false) && (decide (PySem.W.kitOne K (Value.ref (He.ga K "BadRow")) (Value.type "RuntimeError") = some false) && (decide (PySem.W.exmOne K (Value.ref (He.ga K "NoText")) (Value.ref (He.ga K "NoText")) = some true) && (decide (PySem.W.exmOne K (Value.ref (He.ga K "BadSize")) (Value.ref (He.ga K "NoText")) = some false) && (decide (PySem.W.exmOne K (Value.ref (He.ga K "BadSize")) (Value.ref (He.ga K "BadSize")) = some true) && (decide (PySem.W.exmOne K (Value.ref (He.ga K "BadRow")) (Value.ref (He.ga K "NoText")) = some false) && (decide (PySem.W.exmOne K (Value.ref (He.ga K "BadRow")) (Value.ref (He.ga K "BadSize")) = some false) && (decide (PySem.W.exmOne K (Value.ref (He.ga K "BadRow")) (Value.ref (He.ga K "BadRow")) = some true) && true)))))))))))))))))))))))))))))))))))))))))
abbrev hk : PySem.W.Hook := hookE 4 fa fn exB
def ob (s : PySem.W.SharedT) : He.AlD × Bool := obsEG 4 fa fn exB (HandSHeadRun.getT s)
theorem ob_eq (s : PySem.W.SharedT) : ob s = hk.obs s.abs := obsEG_eq (HandSHeadRun.getT_eq s)
theorem run (w : World) : HandSHeadRun.RunEq RR (PySem.W.view RR.prog [47]) hk ob 3000 ("_wall" :: "BadRow" :: "BadSize" :: "NoSpare" :: "NoVersion" :: "Busy" :: "NoText" :: "MOST" :: "gives" :: "row_text" :: "Change" :: "FIGURES" :: "MOST_FIGURES" :: "MOST_SIGNS" :: "is_number" :: "number_of" :: "text_of" :: "change_row" :: "read_change" :: "_law_bag" :: "_law_stirred" :: "_law_draw" :: "_law_whole" :: "_law_alike" :: "_law_signs" :: "_law_text" :: "_law_row" :: "_law_rows" :: "_law_size" :: "_law_same" :: "_law_plan_written" :: "_law_change_written" :: "_law_number" :: "_law_words_read" :: "_law_lines_read" :: "_law_kind" :: "_law_named" :: "_law_spoilt" :: "_law_within" :: "_law_row_fault" :: "_law_due" :: "_law_read" :: "_law_right" :: []) w := by
  intro os
  kernel_rfl
def FactsP : Prop := ∀ (P : Program) (w : World) (K : PySem.W.Frag) (mg : Str → Option Value) (h : Heap) (f : Addr), K.In h → h.Ns mainGlobals mg → mg ("law" : Str) = some (.ref f) → He.SaysD fa fn K → exB K = true → ∃ fd : FuncData, (∀ (s : Shared) (v : Value), BindsTo s fd ⟨[v], []⟩ [("script", v)]) ∧ ∀ base : Heap, K.In base → base.Ns mainGlobals mg → FnOk P w K mg base CX0 12 f fd ["script"] (S1 (φlaw K))
end Z
section
open PySem PySem.W PySem.Calls PyProof.Rows
theorem Z.close (HF : Z.FactsP) : PySem.Challenge.rw_remadehere_k72_changes_spoilt.Holds := by
  w_on; o_law
  refine HandSHeadRun.head_any (r := OpenLaw.row PySem.Challenge.rw_remadehere_k72_changes_spoilt) (q := view (OpenLaw.row PySem.Challenge.rw_remadehere_k72_changes_spoilt).prog [47]) (H := Z.hk) (ob := Z.ob) (M := 3000) (loose := ("_wall" :: "BadRow" :: "BadSize" :: "NoSpare" :: "NoVersion" :: "Busy" :: "NoText" :: "MOST" :: "gives" :: "row_text" :: "Change" :: "FIGURES" :: "MOST_FIGURES" :: "MOST_SIGNS" :: "is_number" :: "number_of" :: "text_of" :: "change_row" :: "read_change" :: "_law_bag" :: "_law_stirred" :: "_law_draw" :: "_law_whole" :: "_law_alike" :: "_law_signs" :: "_law_text" :: "_law_row" :: "_law_rows" :: "_law_size" :: "_law_same" :: "_law_plan_written" :: "_law_change_written" :: "_law_number" :: "_law_words_read" :: "_law_lines_read" :: "_law_kind" :: "_law_named" :: "_law_spoilt" :: "_law_within" :: "_law_row_fault" :: "_law_due" :: "_law_read" :: "_law_right" :: [])) (d := HandSHeadRun.topDef (OpenLaw.row PySem.Challenge.rw_remadehere_k72_changes_spoilt).prog 47) (kwd := []) Z.ob_eq
    (by kernel_rfl) (fun s => by kernel_rfl) Z.run (by kernel_rfl) (by kernel_rfl) (by kernel_rfl) (by rfl) (by first | assumption | decide +kernel) (by decide +kernel) ⟨rfl, rfl, rfl, rfl, rfl, by decide +kernel⟩ ?hw ?hc
  case hw => w_witness2
  case hc =>
    refine L2.walk_ofE (l := PySem.Challenge.rw_remadehere_k72_changes_spoilt) (n := 63) (k := 12) (x := "script") (CX := L2.CX0) rfl (by decide) (by kernel_rfl) ⟨rfl, by decide, by decide⟩ ?F (fun _ _ _ _ z => z)
    intro w mg fa h Y G hmg0
    obtain ⟨K, KX, c, ex⟩ := Y
    have hmg : mg ("law" : PySem.Str) = some (.ref fa) := by
      have e : (HandSHeadRun.topDef (OpenLaw.row PySem.Challenge.rw_remadehere_k72_changes_spoilt).prog 47).name = ("law" : PySem.Str) := by kernel_rfl
      rw [← e]
      exact hmg0
    obtain ⟨fd, hb, hF⟩ := HF _ w K mg _ fa KX G hmg c ex
    exact ⟨K, fd, (R.S1 (R.φlaw K)), KX, hb, fun H a ns hl hO hS => R.law_start a ns hl hO hS, hF⟩
end
namespace Z
open PySem PySem.Spec PyProof.Rows L2 R
local macro_rules | `(tactic| walk_at "osq") => `(tactic| first
  | assumption
  | exact sqL_of upd_same
  | exact sqL_of (by assumption)
  | exact sqL_same (by assumption) (by assumption)
  | exact Mu.sq (by assumption)
  | exact sqL_same (Gr.ws (by assumption)) (by assumption)
  | exact sqL_same (Gr.fh (by assumption)) (by assumption))
local macro_rules | `(tactic| walk_at "ost") => `(tactic| first
  | assumption
  | exact sqT_of upd_same
  | exact sqT_of (by assumption)
  | exact sqT_same (by assumption) (by assumption)
  | exact sqT_same (Gr.ws (by assumption)) (by assumption)
  | exact sqT_same (Gr.fh (by assumption)) (by assumption))
local macro_rules | `(tactic| walk_at "owp") => `(tactic| dsimp only [wipe, List.map, List.set_cons_succ, List.set_cons_zero])
local macro_rules | `(tactic| walk_at "s1") => `(tactic| first
  | ((with_reducible refine w_mul ?c ?_); (case c => first | exact .inl ⟨by omega, by omega⟩ | exact .inr ⟨by omega, by omega⟩))
  | ((with_reducible refine w_mod ?c ?_); (case c => first | omega | decide))
  | ((with_reducible refine w_fdiv ?c ?_); (case c => exact divw_ok (by omega) (by omega)))
  | ((with_reducible refine w_pow ?c ?_); (case c => exact ⟨by omega, by omega, by omega⟩)))
local macro_rules | `(tactic| walk_at "os2") => `(tactic| first
  | ((with_reducible apply w_ixL _ _ ?c ?d); (case c => walk_at "osq"); (case d => rfl))
  | ((with_reducible apply w_lenQ _ ?c); (case c => walk_at "osq"))
  | ((with_reducible apply w_ixT _ _ ?c ?d); (case c => walk_at "ost"); (case d => rfl))
  | ((with_reducible apply w_lenS ?c); (case c => first | assumption | exact szle (by omega)))
  | ((with_reducible apply w_lenQT _ ?c); (case c => walk_at "ost"))
  | ((with_reducible apply w_tyL _ ?c); (case c => walk_at "osq")))
local macro_rules | `(tactic| walk_at "os3") => `(tactic| first
  | ((with_reducible apply w_b1 _ _ _ _ _ ?c); (case c => first | exact upd_same | assumption))
  | ((with_reducible apply w_b2 _ _ _ _ _ ?c); (case c => first | exact upd_same | assumption))
  | ((with_reducible apply w_b3 _ _ _ _ _ ?c); (case c => first | exact upd_same | assumption))
  | ((with_reducible apply w_b4 _ _ _ _ _ ?c); (case c => first | exact upd_same | assumption))
  | ((with_reducible apply w_setL _ _ ?c ?d); (case c => first | exact upd_same | assumption); (case d => rfl))
  | ((with_reducible apply w_app _ ?c ?d); (case c => first | exact upd_same | assumption | exact Mu.h (by assumption)); (case d => first | exact small_lt (by omega) | assumption))
  | ((with_reducible apply w_slL _ ?c); (case c => walk_at "osq"))
  | ((with_reducible apply w_listOf _ ?c); (case c => walk_at "osq")))
local macro_rules | `(tactic| walk_at "s6") => `(tactic| first
  | ((with_reducible refine w_iteF ?c ?_); (case c => decide +kernel))
  | ((with_reducible refine w_iteT ?c ?_); (case c => decide +kernel)))
local macro_rules | `(tactic| walk_at "og1") => `(tactic| first
  | refine goOS ?_
  | refine goOO ?_
  | ((refine sideI 2 ?_); walk_at "os2")
  | ((refine sideI 1 ?_); walk_at "s1")
  | ((refine sideI 3 ?_); walk_at "os3")
  | ((refine sideI 5 ?_); (with_reducible apply w_tgt _ ?c ?d); (case c => walk_at "ost"); (case d => rfl))
  | ((refine sideI 6 ?_); walk_at "s6"))
local macro_rules | `(tactic| walk_at "og") => `(tactic| repeat walk_at "og1")
local macro_rules | `(tactic| walk_at "memr") => `(tactic| first | with_reducible exact List.mem_cons_self .. | ((with_reducible refine List.mem_cons_of_mem _ ?_); walk_at "memr"))
local macro_rules | `(tactic| walk_at "memd") => `(tactic| first | exact List.mem_cons_self .. | ((with_reducible refine List.mem_cons_of_mem _ ?_); walk_at "memd"))
local macro_rules | `(tactic| walk_at "mem") => `(tactic| first | walk_at "memr" | walk_at "memd")
local macro_rules | `(tactic| walk_at "rm") => `(tactic| first | with_reducible exact Rm.here | ((with_reducible apply Rm.there); walk_at "rm"))
local macro_rules | `(tactic| walk_at "rmd") => `(tactic| first | exact Rm.here | ((with_reducible apply Rm.there); walk_at "rmd"))
local macro_rules | `(tactic| walk_at "pick") => `(tactic| first | with_reducible exact Pick.nil | ((with_reducible apply Pick.cons); (first | walk_at "rm" | walk_at "rmd"); walk_at "pick"))
local macro_rules | `(tactic| walk_at "pk") => `(tactic| exact ⟨_, by walk_at "pick"⟩)
local macro_rules | `(tactic| walk_at "app") => `(tactic| first | with_reducible exact App.nil | ((with_reducible apply App.cons); walk_at "app"))
local macro_rules | `(tactic| walk_at "w") => `(tactic| first | assumption | exact W.to (by assumption) (by walk_at "pick"))
local macro_rules | `(tactic| walk_at "lb") => `(tactic| first | assumption | omega | exact szle (by simp) | exact szle (by omega) | exact szle (by simp; omega) | exact small_lt (by omega) | exact small_lt (by simp; omega))
local macro_rules | `(tactic| walk_at "sq") => `(tactic| first
  | assumption
  | exact W.sqM (by assumption) (by walk_at "mem")
  | exact W.sqF (by assumption) (by walk_at "mem")
  | exact W.sqI (by assumption) (by walk_at "mem")
  | exact W.sq0 (by assumption) (by assumption))
local macro_rules | `(tactic| walk_at "st") => `(tactic| first
  | assumption
  | exact W.stF (by assumption) (by walk_at "mem")
  | exact W.stI (by assumption) (by walk_at "mem")
  | exact W.st0 (by assumption) (by assumption))
local macro_rules | `(tactic| walk_at "at") => `(tactic| first
  | assumption
  | exact W.at_ (by assumption) (by walk_at "mem")
  | exact W.fx (by assumption) (by walk_at "mem"))
local macro_rules | `(tactic| walk_at "wp") => `(tactic| dsimp only [wipe, List.map, List.set_cons_succ, List.set_cons_zero])
local macro_rules | `(tactic| walk_at "s2") => `(tactic| first
  | ((with_reducible apply w_ixL _ _ ?c ?d); (case c => walk_at "sq"); (case d => rfl))
  | ((with_reducible apply w_lenQ _ ?c); (case c => walk_at "sq"))
  | ((with_reducible apply w_ixT _ _ ?c ?d); (case c => walk_at "st"); (case d => rfl))
  | ((with_reducible apply w_lenS ?c); (case c => first | assumption | exact szle (by omega)))
  | ((with_reducible apply w_lenQT _ ?c); (case c => walk_at "st"))
  | ((with_reducible apply w_tyL _ ?c); (case c => walk_at "sq")))
local macro_rules | `(tactic| walk_at "s4") => `(tactic| first
  | ((with_reducible apply n_fld ?c ?d ?a ?b); (case c => walk_at "at"); (case d => rfl); (case a => assumption); (case b => assumption))
  | ((with_reducible apply n_meth ?c ?d); (case c => walk_at "at"); (case d => rfl))
  | ((with_reducible apply x_aug ?c ?_); (case c => rfl))
  | ((with_reducible apply n_il ?c ?_); (case c => walk_at "sq"))
  | ((with_reducible apply n_it ?c ?_); (case c => walk_at "st")))
local macro_rules | `(tactic| walk_at "s5") => `(tactic| first
  | ((with_reducible refine n_rng1 ?c ?d ?_); (case c => omega); (case d => omega))
  | ((with_reducible refine n_rng2 ?c ?d ?e ?f ?_); (case c => omega); (case d => omega); (case e => omega); (case f => omega))
  | ((with_reducible apply w_tgt _ ?c ?d); (case c => walk_at "st"); (case d => rfl))
  | ((with_reducible refine n_ipI ?_); (try dsimp only [List.set_cons_succ, List.set_cons_zero]))
  | ((with_reducible refine n_adds ?c ?_); (case c => first | exact szle (by decide +kernel) | exact szle (by omega))))
local macro_rules | `(tactic| walk_at "s7") => `(tactic| first
  | walk_at "s6"
  | ((with_reducible refine x_wp ?c ?_); (case c => rfl)))
local macro_rules | `(tactic| walk_at "go1") => `(tactic| first
  | refine goNS ?_
  | refine goNN ?_
  | ((refine sideI 2 ?_); walk_at "s2")
  | ((refine sideI 4 ?_); walk_at "s4")
  | ((refine sideI 5 ?_); walk_at "s5")
  | ((refine sideI 1 ?_); walk_at "s1")
  | ((refine sideI 6 ?_); walk_at "s7")
  | walk_at "wp")
local macro_rules | `(tactic| walk_at "go") => `(tactic| repeat walk_at "go1")
section
variable {P : Program} {w : World} {K : PySem.W.Frag} {mg : Str → Option Value} {base : Heap}
-- gives
theorem ok_gives {f : Addr} {fd : FuncData} (F : FunD K "gives" "gives" (defArgs s_gives) (defBody s_gives) (defScope s_gives) [] [] f fd) (T : Txt K mg)  : FnOk P w K mg base CX0 1 f fd ["row", "size"] (S2 (φgivesX K)) := by
  refine F.ok sc_gives (fun vs H Q E h => ?_) (fun cdv A outer s H vs Q E hr h => ?_)
  · exact S2.len h
  · match vs, h with
    | [v0, v1], h =>
    have hu := hu_of hr
    refine ⟨_, PSs.nox (pss_cons (ps_if (pt_cmpR op_eq (pe_ix (ixT (K := K)) (pv 0) pe_int (fun _ _ => rfl)) pe_str (nomark _)) (pss_one (ps_ret (pe_callB clLenS (by rfl) T.b_len (by decide +kernel) (pa_cons (pe_ix (ixT (K := K)) (pv 0) pe_int (fun _ _ => rfl)) pa_nil)))) pss_nil)
      (pss_cons (ps_if (PW.pt (pw_or (pt_cmpR op_lt (pe_ix (ixT (K := K)) (pv 0) pe_int (fun _ _ => rfl)) pe_int (nomark _)) (pw_or (pt_cmpR op_lt (pe_ix (ixT (K := K)) (pv 0) pe_int (fun _ _ => rfl)) pe_int (nomark _)) (pw_or1 (pt_cmpR op_gt (pe_op op_add (pe_ix (ixT (K := K)) (pv 0) pe_int (fun _ _ => rfl)) (pe_ix (ixT (K := K)) (pv 0) pe_int (fun _ _ => rfl))) (pv 1) (nomark _)))))) (pss_one (ps_ret pe_int)) pss_nil)
      (pss_one (ps_ret (pe_ix (ixT (K := K)) (pv 0) pe_int (fun _ _ => rfl)))))), ?_⟩
    rw [show start ["row", "size"] [v0, v1] = [some v0, some v1] from rfl]
    obtain ⟨F, r, n, rfl, hw, hx, hs, q⟩ := h
    have w := W.start (M := []) hw
    cases r with
    | put s =>
      obtain ⟨a, rfl, hT⟩ := dp_xput hx
      have hl := hs.2
      walk_at "go"
      exact q _ _ w
    | copy a k =>
      obtain ⟨p, rfl, hT⟩ := dp_xcopy hx
      walk_at "go"
      refine w_ite (fun h1 => ?_) (fun h1 => ?_)
      · walk_at "go"
        rw [show XRow.gv n (.copy a k) = 0 from if_pos (.inl h1)] at q
        exact q _ _ w
      walk_at "go"
      refine w_ite (fun h2 => ?_) (fun h2 => ?_)
      · walk_at "go"
        rw [show XRow.gv n (.copy a k) = 0 from if_pos (.inr (.inl h2))] at q
        exact q _ _ w
      walk_at "go"
      refine w_ite (fun h3 => ?_) (fun h3 => ?_)
      · walk_at "go"
        rw [show XRow.gv n (.copy a k) = 0 from if_pos (.inr (.inr h3))] at q
        exact q _ _ w
      walk_at "go"
      rw [show XRow.gv n (.copy a k) = k.toNat from if_neg (by omega), show ((k.toNat : Nat) : Int) = k by omega] at q
      exact q _ _ w
-- BadRow.__init__
theorem ok_BadRowX_initX {f : Addr} {fd : FuncData} (F : FunD K "__init__" "BadRow.__init__" (defArgs s_BadRowX_initX) (defBody s_BadRowX_initX) (defScope s_BadRowX_initX) [] [] f fd) (T : Txt K mg)  : FnOk P w K mg base CX0 1 f fd ["self", "row"] (S2 (φxinit K "BadRow" "row")) := by
  refine F.ok sc_BadRowX_initX (fun vs H Q E h => ?_) (fun cdv A outer s H vs Q E hr h => ?_)
  · exact S2.len h
  · match vs, h with
    | [v0, v1], h =>
    have hu := hu_of hr
    refine ⟨_, PSs.nox (pss_cons (ps_expr (pe_xi xb_ValueError rfl T.b_ValueError PyProof.Rows.Boot.«ValueError» (by kernel_rfl) (by decide +kernel) T.x_BadRow.b (by decide +kernel) (pa_cons (pv 0) (pa_cons pe_str pa_nil))))
      (pss_one (ps_xo xb_ValueError (pv 0) (pv 1)))), ?_⟩
    rw [show start ["self", "row"] [v0, v1] = [some v0, some v1] from rfl]
    obtain ⟨a, rfl, ha, q⟩ := h
    walk_at "go"
    refine ⟨a, _, [.str "no row of a change"], rfl, by decide, T.x_BadRow.c, ha, ?_⟩
    walk_at "go"
    exact ⟨a, _, rfl, T.x_BadRow.c, T.x_BadRow.no, ha, fun dx n ne => q dx n ne⟩
-- Change.__init__!
theorem ok_ChangeX_initX_r {f : Addr} {fd : FuncData} (F : FunD K "__init__" "Change.__init__" (defArgs s_ChangeX_initX_r) (defBody s_ChangeX_initX_r) (defScope s_ChangeX_initX_r) [] [] f fd) (T : Txt K mg) (D_gives : DO P w K mg base 1 "gives" ["row", "size"] [] (S2 (φgivesX K))) (DXI_BadRow : DXI P w K mg base 1 "BadRow" "row" ["self", "row"]) : FnOk P w K mg base (L2.CX P w) 3 f fd ["self", "size", "rows"] (SX3 (φinitX72 K)) := by
  refine F.ok sc_ChangeX_initX_r (fun vs H Q E h => ?_) (fun cdv A outer s H vs Q E hr h => ?_)
  · exact SX3.len h
  · match vs, h with
    | [v0, v1, v2], h =>
    have hu := hu_of hr
    refine ⟨_, (pss_cons (ps_if (PT.nox (PW.pt (pw_or (pt_cmpR op_lt (pv 1) pe_int (nomark _)) (pw_or1 (pt_cmpR op_gt (pv 1) (pe_gint (by rfl) T.c_MOST) (nomark _)))))) (pss_one (ps_raiseO T.e_BadSize (takes_of rfl rfl rfl rfl) rfl)) pss_nil)
      (pss_cons (PS.nox (ps_set (i := 3) sc_ChangeX_initX_r.nd rfl (.inl rfl) pe_int))
      (pss_cons (ps_for (passes_of rfl) rfl (pi_range1 rfl T.b_range (pa_cons (pe_callB (clLenQ (K := K)) (by rfl) T.b_len (by decide +kernel) (pa_cons (pv 2) pa_nil)) pa_nil)) (pg_name (i := 4) sc_ChangeX_initX_r.nd rfl (.inl rfl)) (pss_cons (PS.nox (ps_set (i := 5) sc_ChangeX_initX_r.nd rfl (.inl rfl) (pcall D_gives hr (pa_cons (pe_ix (ixL (K := K)) (pv 2) (pv 4) (fun _ _ => rfl)) (pa_cons (pv 1) pa_nil)))))
      (pss_cons (PS.nox (ps_set (i := 3) sc_ChangeX_initX_r.nd rfl (.inl rfl) (pe_op op_add (pv 3) (pv 5))))
      (pss_one (ps_if (PT.nox (PW.pt (pw_or (pt_cmpR op_eq (pv 5) pe_int (nomark _)) (pw_or1 (pt_cmpR op_gt (pv 3) (pe_gint (by rfl) T.c_MOST) (nomark _)))))) (pss_one (ps_raiseF xb_ValueError rfl T.x_BadRow DXI_BadRow hr (takes_of rfl rfl rfl rfl) (pa_cons (pv 4) pa_nil))) pss_nil)))))
      (pss_cons (PS.nox (psFld (K := K) (pv 0) (pv 1) rfl))
      (pss_one (PS.nox (psFld (K := K) (pv 0) (pe_callTy (clListOf (K := K)) (by rfl) T.b_list (by decide +kernel) (pa_cons (pv 2) pa_nil)) rfl))))))), ?_⟩
    rw [show start ["self", "size", "rows", "many", "k", "more"] [v0, v1, v2] = [some v0, some v1, some v2, none, none, none] from rfl]
    have kC := T.k_Change
    have kS := T.na_Change_size
    have kR := T.na_Change_rows
    
    obtain ⟨F, c, dx, a, vs, size, rows, rfl, rfl, rfl, s0, hD, hl, hs, q1, q2, q3⟩ := h
    have w := (s0.w (M := [c, a])).push (dpa K vs (rows.map XRow.d)) hD
    have hvl : vs.length = rows.length := by rw [dpa_len hD, List.length_map]
    obtain ⟨tM, eM⟩ := T.c_MOST
    walk_at "go"
    refine w_ite (fun h1 => ?_) (fun h1 => ?_)
    · walk_at "go"
      exact q2 (if_pos (.inl h1)) _ _ (w.to (by walk_at "pick"))
    walk_at "go"
    refine w_ite (fun h2 => ?_) (fun h2 => ?_)
    · walk_at "go"
      exact q2 (if_pos (.inr h2)) _ _ (w.to (by walk_at "pick"))
    have hn : ¬ (size < 0 ∨ 400 < size) := by omega
    walk_at "go"
    refine n_forR (n := vs.length) w (fun i σ L => ∃ (m : Nat) (y4 y5 : Option V), σ = [some (.ref c), some (.int size), some (.ref a), some (.int (m : Nat)), y4, y5] ∧ fxX size 0 0 rows = fxX size i m (rows.drop i) ∧ L = [mu c (.ins (He.ga K "Change") dx []), mu a (.lst vs), dpa K vs (rows.map XRow.d)]) ⟨0, none, none, rfl, by rw [List.drop_zero], rfl⟩ (fun i σ L F' H' hi hp w => ?_) (fun σ L F' H' hp w => ?_)
    · obtain ⟨m, y4, y5, rfl, hf, rfl⟩ := hp
      obtain ⟨r, hr⟩ : ∃ r, rows[i]? = some r := ⟨_, List.getElem?_eq_getElem (by omega)⟩
      obtain ⟨y, hy, dy⟩ := dpa_get (w.dpa (K := K) (xs := vs) (ds := rows.map XRow.d) (by walk_at "mem")) (show (rows.map XRow.d)[i]? = some r.d by rw [List.getElem?_map, hr]; rfl)
      rw [drop_at hr] at hf
      walk_at "go"
      refine w_ixL _ _ (by walk_at "sq") (atI_nat hy) ?_
      walk_at "go"
      refine ⟨_, r, size, rfl, w.fh, dy, hs r (List.mem_of_getElem? hr), fun F2 H2 w2 => ?_⟩
      replace w := w.cal .nil w2 (by walk_at "app")
      walk_at "go"
      refine w_ite (fun h3 => ?_) (fun h3 => ?_)
      · have hit := fx_hit hf (.inl (by omega)) hn
        walk_at "go"
        refine ⟨_, rfl, fun d hd => ?_⟩
        have hd' := w.g.fresh hd
        replace w := (w.im (u := .xd [("row", .int (i : Nat))]) hd).push (fx d (.xd [("row", .int (i : Nat))])) upd_same
        exact q3 i hit d _ _ hd' (w.to (by walk_at "pick"))
      walk_at "go"
      refine w_ite (fun h4 => ?_) (fun h4 => ?_)
      · have hit := fx_hit hf (.inr (by omega)) hn
        walk_at "go"
        refine ⟨_, rfl, fun d hd => ?_⟩
        have hd' := w.g.fresh hd
        replace w := (w.im (u := .xd [("row", .int (i : Nat))]) hd).push (fx d (.xd [("row", .int (i : Nat))])) upd_same
        exact q3 i hit d _ _ hd' (w.to (by walk_at "pick"))
      walk_at "go"
      exact nx_mk w ⟨m + r.gv size, _, _, rfl, hf.trans (fx_go (by omega)), rfl⟩ (by walk_at "pk")
    · obtain ⟨m, y4, y5, rfl, hf, rfl⟩ := hp
      rw [List.drop_eq_nil_of_le (by omega)] at hf
      have hok := fx_end hf hn
      walk_at "go"
      refine n_sfld w (by walk_at "pick") kC kS (by show (0 : Nat) < 1000; decide) fun H2 w => ?_
      walk_at "go"
      refine n_listOf w (by walk_at "sq") fun r F3 H3 w hr => ?_
      walk_at "go"
      refine n_sfld w (by walk_at "pick") kC kR (by show (1 : Nat) < 1000; decide) fun H4 w => ?_
      exact q1 hok r F3 H4 hr (w.to (by walk_at "pick"))
-- is_number
theorem ok_is_number {f : Addr} {fd : FuncData} (F : FunD K "is_number" "is_number" (defArgs s_is_number) (defBody s_is_number) (defScope s_is_number) [] [] f fd) (T : Txt K mg)  : FnOk P w K mg base CX0 1 f fd ["word"] (S1 (φisnum71 K)) := by
  refine F.ok sc_is_number (fun vs H Q E h => ?_) (fun cdv A outer s H vs Q E hr h => ?_)
  · exact S1.len h
  · match vs, h with
    | [v0], h =>
    have hu := hu_of hr
    refine ⟨_, PSs.nox (C8.pss_cut (ps_set (i := 1) sc_is_number.nd rfl (.inl rfl) (pe_ifExp (pt_cmpR op_eq (pe_slice sl_str (pv 0) po_none (po_some pe_int)) pe_str (nomark _)) (pe_slice sl_str (pv 0) (po_some pe_int) po_none) (pv 0)))
      (pss_cons (ps_if (PW.pt (pw_or (pt_cmpR op_eq (pv 1) pe_str (nomark _)) (pw_or (pt_cmpR op_gt (pe_callB clLenS (by rfl) T.b_len (by decide +kernel) (pa_cons (pv 1) pa_nil)) (pe_gint (by rfl) T.c_MOST_FIGURES) (nomark _)) (pw_or1 (pt_cmpR (opNeD (K := K) hr.units) (pe_lc (own := [("sign", 2)]) (g := gName 2) rfl sc_is_number.nd (pi_str (pv 1)) (blkOk_by (own := [("sign", 2)]) (N := ["word", "figures", "sign"]) (sc := defScope s_is_number) (by decide +kernel)) (fun _ _ _ _ _ => pg_name (i := 2) sc_is_number.nd rfl (Or.inl rfl)) (fun _ _ _ _ _ => pts_one (pt_cmpR opNotInS (pv 2) (pe_gstr (by rfl) T.c_FIGURES) (by rfl))) (fun _ _ _ _ _ => (pv 2))) (pe_lst pa_nil) (nomark _)))))) (pss_one (ps_ret pe_bl)) pss_nil)
      (pss_one (ps_ret (pe_or (pe_cmpR op_eq (pv 0) pe_str (nomark _)) (pe_one (pe_cmpR op_ne (pe_ix ix_str (pv 1) pe_int (fun _ _ => rfl)) pe_str (nomark _)))))))), ?_⟩
    rw [show start ["word", "figures", "sign"] [v0] = [some v0, none, none] from rfl]
    obtain ⟨F, s, rfl, hw, hok, hl, q⟩ := h
    have w := W.start (M := []) hw
    obtain ⟨t1, e1⟩ := T.c_MOST_FIGURES
    obtain ⟨fs, efs⟩ : ∃ fs : Str, fs = if (cd s).take 1 = [45] then cutS s (some 1) none else s := ⟨_, rfl⟩
    have hfs : cd fs = figs (cd s) := by
      rw [efs]
      unfold figs
      split
      · exact cut_cd_from s 1
      · rfl
    have fl : fs.length ≤ s.length := by
      rw [← cd_len, ← cd_len s, hfs]
      unfold figs
      split
      · rw [List.length_drop]; omega
      · exact Nat.le_refl _
    have okf : okS fs := ok_codes.mpr fun c hc => by
      rw [hfs] at hc
      unfold figs at hc
      split at hc
      · exact ok_codes.mp hok c (List.mem_of_mem_drop hc)
      · exact ok_codes.mp hok c hc
    walk_at "go"
    refine n_cut w (fun σ L => σ = [some (.str s), some (.str fs), none] ∧ L = []) ?_ (fun σ L F' H' hp w => ?_)
    · walk_at "go"
      refine w_slS (szle (by omega)) ?_
      walk_at "go"
      have e1 : cutS s none (some 1) = Str.ofString "-" ↔ (cd s).take 1 = [45] := by rw [str_is, cd_minus, show cd (cutS s none (some 1)) = (cd s).take 1 from cut_cd_to s 1]
      by_cases hm : (cd s).take 1 = [45]
      · rw [decide_eq_true (e1.mpr hm)]
        walk_at "go"
        refine w_slS (szle (by omega)) ?_
        have ef : fs = cutS s (some 1) none := by rw [efs, if_pos hm]
        walk_at "go"
        exact nx_mk w ⟨by rw [ef], rfl⟩ (by walk_at "pk")
      · rw [decide_eq_false (fun z => hm (e1.mp z))]
        have ef : fs = s := by rw [efs, if_neg hm]
        walk_at "go"
        exact nx_mk w ⟨by rw [ef], rfl⟩ (by walk_at "pk")
    obtain ⟨rfl, rfl⟩ := hp
    have flen : (figs (cd s)).length = fs.length := by rw [← hfs, cd_len]
    walk_at "go"
    by_cases h1 : figs (cd s) = []
    · rw [decide_eq_true (show fs = Str.ofString "" from str_is.mpr (by rw [hfs, h1, cd_none]))]
      walk_at "go"
      rw [isn1 h1] at q
      exact q _ _ (w.to .nil)
    rw [decide_eq_false (show ¬ fs = Str.ofString "" from fun z => h1 (by rw [← hfs, z, cd_none]))]
    walk_at "go"
    by_cases h2 : 60 < (figs (cd s)).length
    · rw [decide_eq_true (show (60 : Int) < ((fs.length : Nat) : Int) by omega)]
      walk_at "go"
      rw [isn2 h2] at q
      exact q _ _ (w.to .nil)
    rw [decide_eq_false (show ¬ (60 : Int) < ((fs.length : Nat) : Int) by omega)]
    walk_at "go"
    refine n_lcS fs w (fun i ys L => ys = (badS ((cd fs).take i)).map (fun c => V.str ⟨#[c]⟩) ∧ L = []) ⟨rfl, rfl⟩ (fun i ys L F' H' D hi hp w hD => ?_) (fun D ys L F' H' hp w hD => ?_)
    · obtain ⟨rfl, rfl⟩ := hp
      have hi2 : i < (cd fs).length := by rw [cd_len]; exact hi
      unfold sgnV
      obtain ⟨c, ec⟩ : ∃ c, c = fs.cps.toList.getD i 0 := ⟨_, rfl⟩
      have hc : (cd fs)[i]? = some c := by
        rw [ec, List.getD_eq_getElem?_getD]
        show fs.cps.toList[i]? = _
        rw [List.getElem?_eq_getElem hi2]
        rfl
      rw [← ec]
      have et : badS ((cd fs).take (i + 1)) = badS ((cd fs).take i) ++ (if dg c = true then [] else [c]) := by
        unfold badS
        rw [List.take_add_one, hc, List.filter_append]
        cases e : dg c <;> simp [e]
      have hbl : (badS ((cd fs).take i)).length ≤ 60 := by
        have h5 := List.length_filter_le (fun c => !dg c) ((cd fs).take i)
        rw [List.length_take] at h5
        rw [cd_len] at h5
        show ((cd fs).take i |>.filter (fun c => !dg c)).length ≤ 60
        omega
      walk_at "wp"
      walk_at "go"
      refine n_notin ?_
      rw [show cd (⟨#[c]⟩ : Str) = [c] from rfl, fig_in]
      cases e : dg c with
      | true =>
        walk_at "go"
        exact ⟨_, _, F', ⟨by rw [et, e]; simp, rfl⟩, w⟩
      | false =>
        walk_at "go"
        refine n_acc _ w ⟨by rw [et, e, List.map_append]; rfl, rfl⟩ (by walk_at "pk") (small_lt (by rw [List.length_map]; omega))
    obtain ⟨rfl, rfl⟩ := hp
    rw [List.take_of_length_le (by rw [cd_len]; exact Nat.le_refl _), hfs] at w
    walk_at "go"
    refine n_lst w (szle (by show 0 ≤ 1000000; decide)) fun p9 F9 H9 w hp9 => ?_
    refine n_neS (cs := badS (figs (cd s))) (by walk_at "sq") (by walk_at "sq") (by have h5 := List.length_filter_le (fun c => !dg c) (figs (cd s)); show ((figs (cd s)).filter (fun c => !dg c)).length ≤ _; omega) (fun c hc => ok_codes.mp okf c (by rw [hfs]; exact (List.mem_filter.mp hc).1)) ?_
    by_cases h3 : badS (figs (cd s)) = []
    · rw [decide_eq_true h3]
      walk_at "go"
      rw [isn4 h1 h2 h3] at q
      have e0 : s = Str.ofString "0" ↔ cd s = [48] := by rw [str_is, cd_nought]
      by_cases h4 : cd s = [48]
      · rw [decide_eq_true (e0.mpr h4)]
        walk_at "go"
        rw [decide_eq_true h4] at q
        exact q _ _ (w.to .nil)
      · rw [decide_eq_false (fun z => h4 (e0.mp z))]
        rw [decide_eq_false h4] at q
        walk_at "go"
        obtain ⟨c, cs9, ecs⟩ : ∃ c cs9, figs (cd s) = c :: cs9 := by
          cases e : figs (cd s) with
          | nil => exact absurd e h1
          | cons c cs9 => exact ⟨c, cs9, rfl⟩
        refine w_ixS (c := c) (le1000 (by omega)) (show atI fs.cps.toList ((0 : Nat) : Int) = some c from atI_nat (by show (cd fs)[0]? = _; rw [hfs, ecs]; rfl)) ?_
        walk_at "go"
        rw [ecs] at q
        have e9 : (⟨#[c]⟩ : Str) = Str.ofString "0" ↔ [c] = [48] := by rw [str_is, cd_nought]
        by_cases h5 : [c] = [48]
        · rw [decide_eq_true (e9.mpr h5)]
          rw [show (c :: cs9).take 1 = [c] from rfl, decide_eq_true h5] at q
          exact q _ _ (w.to .nil)
        · rw [decide_eq_false (fun z => h5 (e9.mp z))]
          rw [show (c :: cs9).take 1 = [c] from rfl, decide_eq_false h5] at q
          exact q _ _ (w.to .nil)
    · rw [decide_eq_false h3]
      walk_at "go"
      rw [isn3 h3] at q
      exact q _ _ (w.to .nil)
-- number_of!
theorem ok_number_of_r {f : Addr} {fd : FuncData} (F : FunD K "number_of" "number_of" (defArgs s_number_of_r) (defBody s_number_of_r) (defScope s_number_of_r) [] [] f fd) (T : Txt K mg) (D_is_number : DO P w K mg base 1 "is_number" ["word"] [] (S1 (φisnum71 K))) : FnOk P w K mg base (L2.CX P w) 2 f fd ["word"] (SX1 (φnumofX K)) := by
  refine F.ok sc_number_of_r (fun vs H Q E h => ?_) (fun cdv A outer s H vs Q E hr h => ?_)
  · exact SX1.len h
  · match vs, h with
    | [v0], h =>
    have hu := hu_of hr
    refine ⟨_, (pss_cons (ps_if (PT.nox (pt_not (pt_val (pcall D_is_number hr (pa_cons (pv 0) pa_nil))))) (pss_one (ps_raiseO T.e_NoText (takes_of rfl rfl rfl rfl) rfl)) pss_nil)
      (pss_one (PS.nox (ps_ret (pe_callTy clIntS (by rfl) T.b_int (by decide +kernel) (pa_cons (pv 0) pa_nil)))))), ?_⟩
    rw [show start ["word"] [v0] = [some v0] from rfl]
    obtain ⟨F, s, rfl, hw, hok, hl, q1, q2⟩ := h
    have w := W.start (M := []) hw
    walk_at "go"
    refine ⟨_, s, rfl, w.fh, hok, hl, fun F2 H2 w2 => ?_⟩
    replace w := w.cal .nil w2 (by walk_at "app")
    cases hn : isN s with
    | true =>
      rw [show isNumB (cd s) = true from hn]
      walk_at "go"
      refine n_intS (num_reads hn).1 (num_reads hn).2 ?_
      exact q1 hn _ _ (w.to .nil)
    | false =>
      rw [show isNumB (cd s) = false from hn]
      walk_at "go"
      exact q2 hn _ _ (w.to .nil)
-- text_of!
theorem ok_text_of_r {f : Addr} {fd : FuncData} (F : FunD K "text_of" "text_of" (defArgs s_text_of_r) (defBody s_text_of_r) (defScope s_text_of_r) [] [] f fd) (T : Txt K mg)  : FnOk P w K mg base (L2.CX P w) 1 f fd ["word"] (SX1 (φtextofX K)) := by
  refine F.ok sc_text_of_r (fun vs H Q E h => ?_) (fun cdv A outer s H vs Q E hr h => ?_)
  · exact SX1.len h
  · match vs, h with
    | [v0], h =>
    have hu := hu_of hr
    refine ⟨_, (pss_cons (ps_if (PT.nox (PW.pt (pw_or (pt_cmpR op_eq (pv 0) pe_str (nomark _)) (pw_or1 (pt_cmpR op_gt (pe_callB clLenS (by rfl) T.b_len (by decide +kernel) (pa_cons (pv 0) pa_nil)) (pe_gint (by rfl) T.c_MOST_SIGNS) (nomark _)))))) (pss_one (ps_raiseO T.e_NoText (takes_of rfl rfl rfl rfl) rfl)) pss_nil)
      (pss_one (PS.nox (ps_ret (pv 0))))), ?_⟩
    rw [show start ["word"] [v0] = [some v0] from rfl]
    obtain ⟨F, s, rfl, hw, hl0, q1, q2⟩ := h
    have w := W.start (M := []) hw
    obtain ⟨t1, e1⟩ := T.c_MOST_SIGNS
    walk_at "go"
    by_cases h1 : s = Str.ofString ""
    · rw [decide_eq_true h1]
      walk_at "go"
      exact q2 (by rw [h1]; decide +kernel) _ _ (w.to .nil)
    rw [decide_eq_false h1]
    have hl := sne_len h1
    walk_at "go"
    by_cases h4 : (400 : Int) < ((s.length : Nat) : Int)
    · rw [decide_eq_true h4]
      walk_at "go"
      exact q2 (decide_eq_false (by omega)) _ _ (w.to .nil)
    · rw [decide_eq_false h4]
      walk_at "go"
      exact q1 (decide_eq_true ⟨hl, by omega⟩) _ _ (w.to .nil)
-- change_row!
theorem ok_change_row_r {f : Addr} {fd : FuncData} (F : FunD K "change_row" "change_row" (defArgs s_change_row_r) (defBody s_change_row_r) (defScope s_change_row_r) [] [] f fd) (T : Txt K mg)  (DXD_number_of_r_1 : DOXd P w K mg base 2 "number_of" ["word"] [] (SX1 (φnumofX K))) (DXD_text_of_r_1 : DOXd P w K mg base 1 "text_of" ["word"] [] (SX1 (φtextofX K))) : FnOk P w K mg base (L2.CX P w) 3 f fd ["words"] (SX1 (φcrowX K)) := by
  refine F.ok sc_change_row_r (fun vs H Q E h => ?_) (fun cdv A outer s H vs Q E hr h => ?_)
  · exact SX1.len h
  · match vs, h with
    | [v0], h =>
    have hu := hu_of hr
    refine ⟨_, (C8.pss_cut (ps_if (PT.nox (PW.pt (pw_and (pt_cmpR op_eq (pe_ix (ixL (K := K)) (pv 0) pe_int (fun _ _ => rfl)) pe_str (nomark _)) (pw_and1 (pt_cmpR op_eq (pe_callB (clLenQ (K := K)) (by rfl) T.b_len (by decide +kernel) (pa_cons (pv 0) pa_nil)) pe_int (nomark _)))))) (pss_one (ps_ret (pe_tup (pa_cons pe_str (pa_cons (pcallXd DXD_number_of_r_1 hr (takes_of rfl rfl rfl rfl) (pa_cons (pe_ix (ixL (K := K)) (pv 0) pe_int (fun _ _ => rfl)) pa_nil)) (pa_cons (pcallXd DXD_number_of_r_1 hr (takes_of rfl rfl rfl rfl) (pa_cons (pe_ix (ixL (K := K)) (pv 0) pe_int (fun _ _ => rfl)) pa_nil)) pa_nil)))))) pss_nil)
      (pss_cons (ps_if (PT.nox (PW.pt (pw_and (pt_cmpR op_eq (pe_ix (ixL (K := K)) (pv 0) pe_int (fun _ _ => rfl)) pe_str (nomark _)) (pw_and1 (pt_cmpR op_eq (pe_callB (clLenQ (K := K)) (by rfl) T.b_len (by decide +kernel) (pa_cons (pv 0) pa_nil)) pe_int (nomark _)))))) (pss_one (ps_ret (pe_tup (pa_cons pe_str (pa_cons (pcallXd DXD_text_of_r_1 hr (takes_of rfl rfl rfl rfl) (pa_cons (pe_ix (ixL (K := K)) (pv 0) pe_int (fun _ _ => rfl)) pa_nil)) pa_nil))))) pss_nil)
      (pss_one (ps_raiseO T.e_NoText (takes_of rfl rfl rfl rfl) rfl)))), ?_⟩
    rw [show start ["words"] [v0] = [some v0] from rfl]
    obtain ⟨F, a, w0, ws, rfl, hw, hS, hok, hl, q1, q2⟩ := h
    have w := (W.start (M := []) hw).push (imL K a ((w0 :: ws).map V.str)) hS
    have e0 : atI ((w0 :: ws).map V.str) ((0 : Nat) : Int) = some (.str w0) := atI_nat rfl
    have el : (((V.str w0 :: ws.map V.str).length : Nat) : Int) = (ws.length : Int) + 1 := by rw [List.length_cons, List.length_map]; omega
    walk_at "go"
    refine n_cut w (fun σ L => σ = [some (.ref a)] ∧ ¬ (w0 = Str.ofString "copy" ∧ ws.length = 2) ∧ L = [imL K a ((w0 :: ws).map V.str)]) ?_ (fun σ L F' H' hp w => ?_)
    · walk_at "go"
      refine w_ixL _ _ (by walk_at "sq") e0 ?_
      walk_at "go"
      by_cases hp : w0 = Str.ofString "copy"
      · rw [decide_eq_true hp]
        walk_at "go"
        by_cases h3 : ws.length = 2
        · refine w_iteT (show (((V.str w0 :: ws.map V.str).length : Nat) : Int) = 3 by rw [el]; omega) ?_
          obtain ⟨x, y, rfl⟩ : ∃ x y, ws = [x, y] := by
            match ws, h3 with
            | [x, y], _ => exact ⟨_, _, rfl⟩
          subst hp
          walk_at "go"
          refine ⟨_, x, rfl, w.fh, (hok x (by simp)).1, (hok x (by simp)).2, fun h_x F2 H2 w2 => ?_, fun h_x F2 H2 w2 => q2 (by rw [row_copy, if_neg (fun z => by rw [h_x] at z; exact nomatch z.1)]) _ _ ((w.cal .nil w2 (by walk_at "app")).to .nil)⟩
          replace w := w.cal .nil w2 (by walk_at "app")
          walk_at "go"
          refine ⟨_, y, rfl, w.fh, (hok y (by simp)).1, (hok y (by simp)).2, fun h_y F2 H2 w2 => ?_, fun h_y F2 H2 w2 => q2 (by rw [row_copy, if_neg (fun z => by rw [h_y] at z; exact nomatch z.2)]) _ _ ((w.cal .nil w2 (by walk_at "app")).to .nil)⟩
          replace w := w.cal .nil w2 (by walk_at "app")
          walk_at "go"
          refine n_tup w (szle (by simp)) fun t F3 H3 w => ?_
          exact q1 _ (by rw [row_copy, if_pos ⟨h_x, h_y⟩]) t _ _ ((w.push (dat K (.ref t) (GRow.mk (Str.ofString "copy") [.i (nVl x), .i (nVl y)]).d) (.tup (sqT_of (w.i (fx t _) (by walk_at "mem"))) (.cons (.str _) (.cons (.int _) (.cons (.int _) .nil))))).to (by walk_at "pick"))
        · refine w_iteF (fun z => absurd z (show ¬ (((V.str w0 :: ws.map V.str).length : Nat) : Int) = 3 by rw [el]; omega)) ?_
          walk_at "go"
          exact nx_mk w ⟨rfl, fun z => h3 z.2, rfl⟩ (by walk_at "pk")
      · rw [decide_eq_false hp]
        walk_at "go"
        exact nx_mk w ⟨rfl, fun z => hp z.1, rfl⟩ (by walk_at "pk")
    obtain ⟨rfl, hnp, rfl⟩ := hp
    walk_at "go"
    refine w_ixL _ _ (by walk_at "sq") e0 ?_
    walk_at "go"
    by_cases hp : w0 = Str.ofString "put"
    · rw [decide_eq_true hp]
      walk_at "go"
      by_cases h3 : ws.length = 1
      · refine w_iteT (show (((V.str w0 :: ws.map V.str).length : Nat) : Int) = 2 by rw [el]; omega) ?_
        obtain ⟨x, rfl⟩ : ∃ x, ws = [x] := by
          match ws, h3 with
          | [x], _ => exact ⟨_, rfl⟩
        subst hp
        walk_at "go"
        refine ⟨_, x, rfl, w.fh, (hok x (by simp)).2, fun h_x F2 H2 w2 => ?_, fun h_x F2 H2 w2 => q2 (by rw [row_put, if_neg (fun z => by rw [h_x] at z; cases z)]) _ _ ((w.cal .nil w2 (by walk_at "app")).to .nil)⟩
        replace w := w.cal .nil w2 (by walk_at "app")
        walk_at "go"
        refine n_tup w (szle (by simp)) fun t F3 H3 w => ?_
        exact q1 _ (by rw [row_put, if_pos h_x]) t _ _ ((w.push (dat K (.ref t) (GRow.mk (Str.ofString "put") [.s x]).d) (.tup (sqT_of (w.i (fx t _) (by walk_at "mem"))) (.cons (.str _) (.cons (.str _) .nil)))).to (by walk_at "pick"))
      · refine w_iteF (fun z => absurd z (show ¬ (((V.str w0 :: ws.map V.str).length : Nat) : Int) = 2 by rw [el]; omega)) ?_
        walk_at "go"
        exact q2 (row_no hnp fun z => h3 z.2) _ _ (w.to .nil)
    · rw [decide_eq_false hp]
      walk_at "go"
      exact q2 (row_no hnp fun z => hp z.1) _ _ (w.to .nil)
-- read_change!
theorem ok_read_change_r {f : Addr} {fd : FuncData} (F : FunD K "read_change" "read_change" (defArgs s_read_change_r) (defBody s_read_change_r) (defScope s_read_change_r) [] [] f fd) (T : Txt K mg)  (DX_change_row_r : DOX P w K mg base 3 "change_row" ["words"] (SX1 (φcrowX K))) (DXD_number_of_r_1 : DOXd P w K mg base 2 "number_of" ["word"] [] (SX1 (φnumofX K))) (DNX_Change : DNX P w K mg base 3 "Change" ["self", "size", "rows"] (SX3 (φinitX72 K))) : FnOk P w K mg base (L2.CX P w) 5 f fd ["text"] (SX1 (φrchX K)) := by
  refine F.ok sc_read_change_r (fun vs H Q E h => ?_) (fun cdv A outer s H vs Q E hr h => ?_)
  · exact SX1.len h
  · match vs, h with
    | [v0], h =>
    have hu := hu_of hr
    refine ⟨_, (pss_cons (PS.nox (ps_setLc (i := 1) (own := [("line", 3)]) (g := gName 3) rfl sc_read_change_r.nd rfl rfl (sw_true rfl rfl rfl (by decide +kernel)) (pi_list (pe_splitG (pv 0) pe_str)) (blkOk_by (own := [("line", 3)]) (N := ["text", "lines", "size", "line", "words"]) (sc := defScope s_read_change_r) (by decide +kernel)) (fun _ _ _ _ _ => pg_name (i := 3) sc_read_change_r.nd rfl (Or.inl rfl)) (fun _ _ _ _ _ => pts_nil) (fun _ _ _ _ _ => (pe_splitG (pv 3) pe_str))))
      (pss_cons (ps_if (PT.nox (PW.pt (pw_or (pt_cmpR op_ne (pe_ix (ixL (K := K)) (pe_ix (ixL (K := K)) (pv 1) pe_int (fun _ _ => rfl)) pe_int (fun _ _ => rfl)) pe_str (nomark _)) (pw_or1 (pt_cmpR op_ne (pe_callB (clLenQ (K := K)) (by rfl) T.b_len (by decide +kernel) (pa_cons (pe_ix (ixL (K := K)) (pv 1) pe_int (fun _ _ => rfl)) pa_nil)) pe_int (nomark _)))))) (pss_one (ps_raiseO T.e_NoText (takes_of rfl rfl rfl rfl) rfl)) pss_nil)
      (pss_cons (ps_set (i := 2) sc_read_change_r.nd rfl (.inl rfl) (pcallXd DXD_number_of_r_1 hr (takes_of rfl rfl rfl rfl) (pa_cons (pe_ix (ixL (K := K)) (pe_ix (ixL (K := K)) (pv 1) pe_int (fun _ _ => rfl)) pe_int (fun _ _ => rfl)) pa_nil)))
      (pss_one (ps_ret (pmakeX (K := K) DNX_Change hr (takes_of rfl rfl rfl rfl) (pa_cons (pv 2) (pa_cons (pe_lcX (own := [("words", 4)]) (g := gName 4) rfl sc_read_change_r.nd (takes_of rfl rfl rfl rfl) rfl rfl (pi_list (pe_slice (slL (K := K)) (pv 1) (po_some pe_int) po_none)) (blkOk_by (own := [("words", 4)]) (N := ["text", "lines", "size", "line", "words"]) (sc := defScope s_read_change_r) (by decide +kernel)) (fun _ _ _ _ _ => pg_name (i := 4) sc_read_change_r.nd rfl (Or.inl rfl)) (fun _ _ _ _ _ => pts_nil) (fun _ _ _ _ _ _ _ _ tk => (pcallXc DX_change_row_r hr tk (pa_cons (pv 4) pa_nil)))) pa_nil)))))))), ?_⟩
    rw [show start ["text", "lines", "size", "line", "words"] [v0] = [some v0, none, none, none, none] from rfl]
    have kC := T.k_Change
    have kS := T.na_Change_size
    have kR := T.na_Change_rows
    
    obtain ⟨F, s, rfl, hw, hP, hl, q1, q2, q3, q4⟩ := h
    have w := W.start (M := []) hw
    obtain ⟨f1, f2, f3⟩ := lines_facts hP
    obtain ⟨ls, els⟩ : ∃ ls, ls = Txt.split s (Str.ofString "\n") := ⟨_, rfl⟩
    have ewo : wordsLs s = ls.map fun l => Txt.split l (Str.ofString " ") := by rw [els]; rfl
    rw [← els] at f1 f2 f3
    have lll := ltot_len ls
    have hokw : ∀ ws ∈ wordsLs s, ws ≠ [] ∧ (∀ v ∈ ws, okS v ∧ v.length ≤ 100000) ∧ ws.length ≤ 100000 := fun ws hws => by
      rw [ewo] at hws
      obtain ⟨l, hl2, rfl⟩ := List.mem_map.mp hws
      obtain ⟨g1, g2, g3⟩ := words_facts (f3 l hl2)
      have hlt := ltot_mem hl2
      have gl := ltot_len (Txt.split l (Str.ofString " "))
      exact ⟨g1, fun v hv => ⟨(g3 v hv).ok, by have := ltot_mem hv; omega⟩, by omega⟩
    obtain ⟨lw, elw⟩ : ∃ lw, lw = wordsLs s := ⟨_, rfl⟩
    have lwl : lw.length = ls.length := by rw [elw, ewo, List.length_map]
    have ewj : ∀ (j : Nat) (l : Str), ls[j]? = some l → lw[j]? = some (Txt.split l (Str.ofString " ")) := fun j l hj => by rw [elw, ewo, List.getElem?_map, hj]; rfl
    rw [← elw] at hokw q1 q2 q3 q4
    clear ewo elw
    walk_at "go"
    refine n_split w (by omega) (by decide +kernel) fun p1 H1 w hp1 => ?_
    rw [← els] at w
    obtain ⟨F1, w⟩ := w.fzL (p := p1) (by walk_at "pick") hp1
    replace w := w.push (dpa K [] ((lw.take 0).map wlD)) .nil
    refine n_il (xs := ls.map V.str) (sqL_same w.fh (sqL_of (w.i (fx p1 (.lst (ls.map V.str))) (by walk_at "mem")))) ?_
    refine n_lcL (ls.map V.str) w (fun j ys L => ys.length = j ∧ L = [dpa K ys ((lw.take j).map wlD), fx p1 (.lst (ls.map V.str))]) ⟨rfl, rfl⟩ (fun j ys L F' H' D hp w => ?_) (fun j x ys L F' H' D hx hp w hD => ?_) (fun D ys L F' H' hp w hD => ?_)
    · obtain ⟨hyl, rfl⟩ := hp
      walk_at "sq"
    · obtain ⟨hyl, rfl⟩ := hp
      obtain ⟨l, hl2, ex⟩ := mapS_at hx
      have ex : x = .str l := ex
      subst ex
      have hj := (List.getElem?_eq_some_iff.mp hl2).1
      have hlt := ltot_mem (List.mem_of_getElem? hl2)
      walk_at "wp"
      walk_at "go"
      refine n_split (a := l) (b := Str.ofString " ") w (by omega) (by decide +kernel) fun p2 H2 w hp2 => ?_
      obtain ⟨F2, w⟩ := w.fzL (p := p2) (by walk_at "pick") hp2
      replace w := w.push (dpa K (ys ++ [.ref p2]) ((lw.take (j + 1)).map wlD)) (by
        rw [List.take_add_one, ewj j l hl2, List.map_append]
        exact dpa_snoc (w.dpa (by walk_at "mem")) (.lst (sqL_of (w.i (fx p2 _) (by walk_at "mem"))) (dpa_strs _)))
      exact n_acc ys w ⟨by rw [List.length_append, hyl]; rfl, rfl⟩ (by walk_at "pk") (small_lt (by omega))
    obtain ⟨hyl, rfl⟩ := hp
    rw [List.length_map] at hyl
    rw [List.length_map, List.take_of_length_le (Nat.le_of_eq lwl)] at w
    obtain ⟨F1, w⟩ := w.fzL (p := D) (by walk_at "pick") hD
    have lpos : 0 < ls.length := List.length_pos_iff.mpr f1
    obtain ⟨hd, rest, ehd⟩ : ∃ hd rest, lw = hd :: rest := by
      cases lw with
      | nil => simp at lwl; omega
      | cons a b => exact ⟨a, b, rfl⟩
    subst ehd
    obtain ⟨x0, hx0, dx0⟩ := dpa_get (w.dpa (K := K) (xs := ys) (ds := (hd :: rest).map wlD) (by walk_at "mem")) (show ((hd :: rest).map wlD)[0]? = some (wlD hd) from rfl)
    obtain ⟨p0, rfl, hS0⟩ := dp_wl dx0
    obtain ⟨g1, g2, g3⟩ := hokw hd (List.mem_cons_self ..)
    obtain ⟨w0, ws, rfl⟩ : ∃ w0 ws, hd = w0 :: ws := by
      cases hd with
      | nil => exact absurd rfl g1
      | cons a b => exact ⟨a, b, rfl⟩
    replace w := w.push (imL K p0 ((w0 :: ws).map V.str)) hS0
    have e0 : atI ((w0 :: ws).map V.str) ((0 : Nat) : Int) = some (.str w0) := atI_nat rfl
    have el : (((V.str w0 :: ws.map V.str).length : Nat) : Int) = (ws.length : Int) + 1 := by rw [List.length_cons, List.length_map]; omega
    walk_at "go"
    refine w_ixL _ _ (by walk_at "sq") (show atI ys ((0 : Nat) : Int) = some (.ref p0) from atI_nat hx0) ?_
    walk_at "go"
    refine w_ixL _ _ (by walk_at "sq") e0 ?_
    walk_at "go"
    by_cases hsz : w0 = Str.ofString "size"
    rotate_left
    · rw [decide_eq_false hsz]
      walk_at "go"
      exact q2 (dueC_no (.inl (size_no fun z => hsz z.1))) _ _ (w.to .nil)
    rw [decide_eq_true hsz]
    walk_at "go"
    refine w_ixL _ _ (by walk_at "sq") (show atI ys ((0 : Nat) : Int) = some (.ref p0) from atI_nat hx0) ?_
    walk_at "go"
    by_cases hl1 : ws.length = 1
    rotate_left
    · refine w_iteNT (show ¬ (((V.str w0 :: ws.map V.str).length : Nat) : Int) = 2 by rw [el]; omega) ?_
      walk_at "go"
      exact q2 (dueC_no (.inl (size_no fun z => hl1 z.2))) _ _ (w.to .nil)
    refine w_iteNF (show (((V.str w0 :: ws.map V.str).length : Nat) : Int) = 2 by rw [el]; omega) ?_
    obtain ⟨x, rfl⟩ : ∃ x, ws = [x] := by
      match ws, hl1 with
      | [x], _ => exact ⟨_, rfl⟩
    walk_at "go"
    refine w_ixL _ _ (by walk_at "sq") (show atI ys ((0 : Nat) : Int) = some (.ref p0) from atI_nat hx0) ?_
    walk_at "go"
    refine ⟨_, x, rfl, w.fh, (g2 x (by simp)).1, (g2 x (by simp)).2, fun h_x F2 H2 w2 => ?_, fun h_x F2 H2 w2 => q2 (dueC_no (.inl (by rw [hsz, size_yes, if_neg (fun z => by rw [h_x] at z; cases z)]))) _ _ ((w.cal .nil w2 (by walk_at "app")).to .nil)⟩
    replace w := w.cal .nil w2 (by walk_at "app")
    have hsz2 : wordsR sizeK (w0 :: [x]) = some ⟨Str.ofString "size", [.i (nVl x)]⟩ := by rw [hsz, size_yes, if_pos h_x]
    walk_at "go"
    refine n_slL w (by walk_at "sq") fun p3 F3 H3 w hp3 => ?_
    rw [show cutV ys (some 1) none = ys.drop 1 from cut_from_V _ 1] at w
    obtain ⟨F3, w⟩ := w.fzL (p := p3) (by walk_at "pick") hp3
    have hd1 := dpa_dropN 1 (w.dpa (K := K) (xs := ys) (ds := ((w0 :: [x]) :: rest).map wlD) (by walk_at "mem"))
    obtain ⟨zs, ezs⟩ : ∃ zs, zs = ys.drop 1 := ⟨_, rfl⟩
    rw [← ezs] at w hd1
    have hd1 : DpAll K F3 zs (rest.map wlD) := hd1
    have hzl : zs.length = rest.length := by rw [dpa_len hd1, List.length_map]
    have hrl : rest.length + 1 = ls.length := by rw [← lwl, List.length_cons]
    have hokr : ∀ v ∈ rest, v ≠ [] ∧ (∀ u ∈ v, okS u ∧ u.length ≤ 100000) ∧ v.length ≤ 100000 := fun v hv => hokw v (List.mem_cons_of_mem _ hv)
    have w := w.to (D := [fx p3 (.lst zs)]) (by walk_at "pick")
    replace w := (w.push (dpa K zs (rest.map wlD)) hd1).push (dpa K [] (([] : List GRow).map GRow.d)) .nil
    refine n_il (xs := zs) (sqL_same w.fh (sqL_of (w.i (fx p3 (.lst zs)) (by walk_at "mem")))) ?_
    refine n_lcL zs w (fun j us L => ∃ rs : List GRow, us.length = j ∧ rowsR rowK (rest.take j) = some rs ∧ L = [dpa K us (rs.map GRow.d), dpa K zs (rest.map wlD), fx p3 (.lst zs)]) ⟨[], rfl, rfl, rfl⟩ (fun j us L F' H' D hp w => ?_) (fun j x us L F' H' D hx hp w hD => ?_) (fun D us L F' H' hp w hD => ?_)
    · obtain ⟨rs, hul, hrs, rfl⟩ := hp
      walk_at "sq"
    · obtain ⟨rs, hul, hrs, rfl⟩ := hp
      obtain ⟨v, hv, dv⟩ := dpa_at (w.dpa (K := K) (xs := zs) (ds := rest.map wlD) (by walk_at "mem")) hx
      have hj := (List.getElem?_eq_some_iff.mp hv).1
      obtain ⟨k1, k2, k3⟩ := hokr v (List.mem_of_getElem? hv)
      obtain ⟨v0, vs, rfl⟩ : ∃ v0 vs, v = v0 :: vs := by
        cases v with
        | nil => exact absurd rfl k1
        | cons a b => exact ⟨a, b, rfl⟩
      rw [List.length_cons] at k3
      obtain ⟨p4, rfl, hS4⟩ := dp_wl dv
      replace w := w.push (imL K p4 ((v0 :: vs).map V.str)) hS4
      walk_at "wp"
      walk_at "go"
      refine ⟨_, p4, v0, vs, rfl, w.fh, w.imL (by walk_at "mem"), k2, by omega, fun r hr t F2 H2 w2 => ?_, fun hr F2 H2 w2 => ?_⟩
      · replace w := w.cal .nil w2 (by walk_at "app")
        replace w := w.push (dpa K (us ++ [.ref t]) ((rs ++ [r]).map GRow.d)) (by
          rw [List.map_append]
          exact dpa_snoc (w.dpa (by walk_at "mem")) (w.dat (by walk_at "mem")))
        exact n_acc us w ⟨rs ++ [r], by rw [List.length_append, hul]; rfl, by rw [List.take_add_one, hv]; show rowsR rowK (_ ++ [v0 :: vs]) = _; rw [rowsR_snoc, hrs, hr]; rfl, rfl⟩ (by walk_at "pk") (small_lt (by omega))
      · exact q2 (dueC_no (.inr (rowsR_none hr (List.mem_of_getElem? hv)))) _ _ ((w.cal .nil w2 (by walk_at "app")).to .nil)
    obtain ⟨rs, hul, hrs, rfl⟩ := hp
    rw [List.take_of_length_le (by omega)] at hrs
    obtain ⟨hxd, hxs⟩ := rowsK_x (fun v hv u hu => ((hokr v hv).2.1 u hu).1) hrs
    have hrsl := (rows_ok kinds_ok.2 (fun v hv u hu => ((hokr v hv).2.1 u hu).1) hrs).2.1
    have hdue := dueC_yes (l := rest) hsz2 hrs
    walk_at "go"
    refine n_makeS w fun c dx H5 w hc => ?_
    refine ⟨_, c, dx, D, us, nVl x, rs.map xOf, rfl, rfl, rfl, w.st (by walk_at "pick"), by rw [← hxd]; exact w.dpa (by walk_at "mem"), by rw [List.length_map]; omega, hxs, fun hok r F2 H2 hr w2 => ?_, fun hszx F2 H2 w2 => ?_, fun k hk dd F2 H2 hdd w2 => ?_⟩
    · refine ⟨rfl, ?_⟩
      rw [hok] at hdue
      obtain ⟨n, cs, e1, hn, e2, hR⟩ := due_ok hxs hok
      have hr' := w.g.fresh hr
      replace w := w.cal (D := [mu c (.ins (He.ga K "Change") dx []), mu D (.lst us)]) (by walk_at "pick") w2 (by walk_at "app") rfl
      rw [e1] at w
      replace w := (w.fz (p := r) (by walk_at "pick") hr').push (fx r (.lst us)) upd_same
      replace w := (w.fz (p := c) (by walk_at "pick") hc).push (fx c (insX (He.ga K "Change") dx r (n : Nat))) upd_same
      have hgd : rs.map GRow.d = cs.map CRow.d := by rw [hxd, e2, crows_xd]
      have hdd2 := w.dpa (K := K) (xs := us) (ds := rs.map GRow.d) (by walk_at "mem")
      rw [hgd] at hdd2
      replace w := w.push (chg K (.ref c) n cs) ⟨c, dx, r, us, rfl, w.i (fx c _) (by walk_at "mem"), w.i (fx r _) (by walk_at "mem"), hdd2⟩
      exact q1 _ rs hdue _ n cs _ _ (w.to (by walk_at "pick")) e1 hn e2 hgd hR
    · rw [hszx] at hdue
      replace w := w.cal (D := [mu c (.ins (He.ga K "Change") dx []), mu D (.lst us)]) (by walk_at "pick") w2 (by walk_at "app") rfl
      exact q3 hdue _ _ (w.to .nil)
    · rw [hk] at hdue
      have hdd' := w.g.fresh hdd
      replace w := w.cal (D := [mu c (.ins (He.ga K "Change") dx []), mu D (.lst us)]) (by walk_at "pick") w2 (by walk_at "app") rfl
      exact q4 k hdue dd _ _ hdd' (w.to (by walk_at "pick"))
-- _law_bag
theorem ok_law_bag {f : Addr} {fd : FuncData} (F : FunD K "_law_bag" "_law_bag" (defArgs s_law_bag) (defBody s_law_bag) (defScope s_law_bag) [] [] f fd) (T : Txt K mg)  : FnOk P w K mg base CX0 1 f fd ["script"] (S1 (φbag K)) := by
  refine F.ok sc_law_bag (fun vs H Q E h => ?_) (fun cdv A outer s H vs Q E hr h => ?_)
  · exact S1.len h
  · match vs, h with
    | [v0], h =>
    have hu := hu_of hr
    refine ⟨_, PSs.nox (pss_cons (ps_set (i := 1) sc_law_bag.nd rfl (.inl rfl) pe_int)
      (pss_cons (ps_for PassesOwn.never rfl (pi_list (pe_slice (slL (K := K)) (pv 0) po_none (po_some pe_int))) (pg_name (i := 2) sc_law_bag.nd rfl (.inl rfl)) (pss_one (ps_set (i := 1) sc_law_bag.nd rfl (.inl rfl) (pe_op op_mod (pe_op op_add (pe_op op_add (pe_op op_mul (pv 1) pe_int) (pe_op op_mod (pv 2) pe_int)) pe_int) pe_int))))
      (pss_one (ps_ret (pe_lst (pa_cons (pe_lc (own := [("cell", 2)]) (g := gName 2) rfl sc_law_bag.nd (pi_list (pe_slice (slL (K := K)) (pv 0) po_none (po_some pe_int))) (blkOk_by (own := [("cell", 2)]) (N := ["script", "stir", "cell"]) (sc := defScope s_law_bag) (by decide +kernel)) (fun _ _ _ _ _ => pg_name (i := 2) sc_law_bag.nd rfl (Or.inl rfl)) (fun _ _ _ _ _ => pts_nil) (fun _ _ _ _ _ => (pe_op op_mod (pe_callB clAbs (by rfl) T.b_abs (by decide +kernel) (pa_cons (pv 2) pa_nil)) (pe_op op_pow pe_int pe_int)))) (pa_cons pe_int (pa_cons pe_int (pa_cons (pv 1) (pa_cons pe_int pa_nil)))))))))), ?_⟩
    rw [show start ["script", "stir", "cell"] [v0] = [some v0, none, none] from rfl]
    obtain ⟨a, ns, rfl, hS, hl, q⟩ := h
    walk_at "og"
    intro l nl
    rw [cut63 hl]
    refine ⟨l, rfl, ⟨_, sqL_of upd_same⟩, f_list (xs := ns.map V.int) (fun i σ H' => ∃ (st : Int) (y : Option V), σ = [some (.ref a), some (.int st), y] ∧ 0 ≤ st ∧ st < 2147483647 ∧ H' = upd H l (.lst (ns.map V.int))) ⟨19, none, rfl, by decide, by decide, rfl⟩ (fun i σ H' _ hp => ?_) (fun i x σ H' hx hp => ?_) (fun σ H' hp => ?_)⟩
    · obtain ⟨st, y, _, _, _, rfl⟩ := hp
      exact sqL_of upd_same
    · obtain ⟨st, y, rfl, s0, s1, rfl⟩ := hp
      obtain ⟨z, rfl⟩ := map_get hx
      walk_at "og"
      exact ⟨_, _, rfl, mod_nn (by decide), mod_lt (by decide), rfl⟩
    · obtain ⟨st, y, rfl, s0, s1, rfl⟩ := hp
      have hS2 : SqL K (upd H l (.lst (ns.map V.int))) a (ns.map V.int) := sqL_same (Same.new nl) hS
      walk_at "og"
      intro l2 nl2
      rw [cut63 hl]
      have g0 : Gr [] H H H (upd H l (.lst (ns.map V.int))) := .new (Same.refl H) nl
      have g1 := g0.add (o := .lst (ns.map V.int)) nl2
      refine ⟨l2, rfl, ⟨_, sqL_of upd_same⟩, fun D nD => ?_⟩
      have g2 := g1.addm (o := .lst []) nD
      refine lc_list (xs := ns.map V.int) (fun i H' => ∃ vs : List Int, Gr [] H H (upd H l2 (.lst (ns.map V.int))) H' ∧ Mu (upd H l2 (.lst (ns.map V.int))) H' D (.lst (vs.map V.int)) ∧ (∀ x ∈ vs, 0 ≤ x ∧ x < 10 ^ 60) ∧ vs.length = i) ⟨[], g2, Mu.new g1.fh nD, by simp, rfl⟩ (fun i H' _ hp => ?_) (fun i x H' hx hp => ?_) (fun H' hp => ?_)
      · obtain ⟨vs, g, _⟩ := hp
        exact sqL_same g.fh (sqL_of upd_same)
      · obtain ⟨vs, g, mu, hv, hn⟩ := hp
        obtain ⟨z, rfl⟩ := map_get hx
        have hi : i < ns.length := by
          have := (List.getElem?_eq_some_iff.mp hx).1
          rwa [List.length_map] at this
        show gName 2 _ [some (.ref a), some (.int st), none] H' _
        walk_at "og"
        refine ⟨rfl, ?_⟩
        walk_at "og"
        refine ⟨_, mu.h, small1000 (by rw [List.length_map]; omega), vs ++ [_], g.wrn mu.n (g1.fresh nD), by rw [List.map_append]; exact mu.wr, ?_, by simp [hn]⟩
        intro x hx
        rcases List.mem_append.mp hx with hx | hx
        · exact hv x hx
        · rw [List.mem_singleton.mp hx]
          exact ⟨mod_nn (by decide), mod_lt (by decide)⟩
      · obtain ⟨vs, g, mu, hv, hn⟩ := hp
        walk_at "og"
        refine ⟨le1000 (by simp), fun p np => ?_⟩
        have g5 := (g.frz (g1.fresh nD) mu).addm (o := .lst [.ref D, .int 0, .int 0, .int st, .int 0]) np
        refine q p _ _ g5 ⟨D, vs, 0, 0, st, 0, ?_, upd_same, sqL_of upd_same, by rw [hn, List.length_map]; exact hl, hv, by decide, by decide, by decide, s0, s1⟩
        have nF := g.fh.free np
        rw [upd_ne (mu.ne_new np).symm]
        exact nF
-- _law_stirred
theorem ok_law_stirred {f : Addr} {fd : FuncData} (F : FunD K "_law_stirred" "_law_stirred" (defArgs s_law_stirred) (defBody s_law_stirred) (defScope s_law_stirred) [] [] f fd) (T : Txt K mg)  : FnOk P w K mg base CX0 1 f fd ["bag", "many"] (S2 (φdraw K)) := by
  refine F.ok sc_law_stirred (fun vs H Q E h => ?_) (fun cdv A outer s H vs Q E hr h => ?_)
  · exact S2.len h
  · match vs, h with
    | [v0, v1], h =>
    have hu := hu_of hr
    refine ⟨_, PSs.nox (pss_cons (ps_set (i := 2) sc_law_stirred.nd rfl (.inl rfl) pe_int)
      (pss_cons (ps_for PassesOwn.never rfl (pi_range1 rfl T.b_range (pa_cons (pe_op op_add pe_int (pe_op op_fdivW (pe_bits (pv 1)) pe_int)) pa_nil)) (pg_name (i := 3) sc_law_stirred.nd rfl (.inl rfl)) (pss_cons (ps_asg (pe_op op_add (pe_ix (ixL (K := K)) (pv 0) pe_int (fun _ _ => rfl)) pe_int) (pg_sub (pv 0) pe_int set_list))
      (pss_cons (ps_asg (pe_op op_mod (pe_op op_add (pe_op op_add (pe_op op_add (pe_op op_pow (pe_ix (ixL (K := K)) (pv 0) pe_int (fun _ _ => rfl)) pe_int) (pe_op op_mul pe_int (pe_ix (ixL (K := K)) (pv 0) pe_int (fun _ _ => rfl)))) (pe_op op_mul pe_int (pe_ix (ixL (K := K)) (pv 0) pe_int (fun _ _ => rfl)))) pe_int) pe_int) (pg_sub (pv 0) pe_int set_list))
      (pss_one (ps_set (i := 2) sc_law_stirred.nd rfl (.inl rfl) (pe_op op_add (pe_op op_mul (pv 2) pe_int) (pe_op op_fdivW (pe_ix (ixL (K := K)) (pv 0) pe_int (fun _ _ => rfl)) pe_int)))))))
      (pss_one (ps_ret (pe_op op_mod (pv 2) (pv 1)))))), ?_⟩
    rw [show start ["bag", "many", "found", "k"] [v0, v1] = [some v0, some v1, none, none] from rfl]
    obtain ⟨b, m, F, rfl, rfl, hw, hb, h0, h1, q⟩ := h
    have hbits := bits_le h0 h1
    have hb0 : (0 : Int) ≤ (Builtin.Int.intBits m : Nat) := Int.natCast_nonneg _
    have hd0 : (0 : Int) ≤ (Builtin.Int.intBits m : Nat) / 27 := div_nn hb0 (by decide)
    have hd1 : (Builtin.Int.intBits m : Int) / 27 ≤ (Builtin.Int.intBits m : Nat) := div_le' hb0 (by decide)
    walk_at "og"
    refine ⟨_, rfl, by omega, by omega, f_range0 (fun i σ H' => ∃ (f : Int) (y : Option V) (F2 : Hp), σ = [some (.ref b), some (.int m), some (.int f), y] ∧ Gr [b] F H F2 H' ∧ Bag K F2 H' b) ⟨0, none, F, rfl, .refl hw, hb⟩ (fun i σ H' hi hp => ?_) (fun σ H' hp => ?_)⟩
    · obtain ⟨f, y, F2, rfl, g, hB⟩ := hp
      obtain ⟨c, cells, i1, cur, st, n, e1, e2, e3, e4, e5, e6, e7, e8, e9, e10⟩ := hB.ex
      walk_at "og"
      exact ⟨_, _, F2, rfl, (g.put e1 (by simp)).put e1 (by simp), ⟨c, cells, i1, cur, _, _, e1, upd_same, e3, e4, e5, e6, e7, e8, mod_nn (by decide), mod_lt (by decide)⟩⟩
    · obtain ⟨f, y, F2, rfl, g, hB⟩ := hp
      walk_at "og"
      exact q _ F2 H' g hB (mod_nn h0) (mod_lt h0)
-- _law_draw
theorem ok_law_draw {f : Addr} {fd : FuncData} (F : FunD K "_law_draw" "_law_draw" (defArgs s_law_draw) (defBody s_law_draw) (defScope s_law_draw) [] [] f fd) (T : Txt K mg) (D_law_stirred : DO P w K mg base 1 "_law_stirred" ["bag", "many"] [] (S2 (φdraw K))) : FnOk P w K mg base CX0 2 f fd ["bag", "many"] (S2 (φdraw K)) := by
  refine F.ok sc_law_draw (fun vs H Q E h => ?_) (fun cdv A outer s H vs Q E hr h => ?_)
  · exact S2.len h
  · match vs, h with
    | [v0, v1], h =>
    have hu := hu_of hr
    refine ⟨_, PSs.nox (pss_cons (ps_if (PW.pt (pw_and (pt_cmpR op_eq (pe_ix (ixL (K := K)) (pv 0) pe_int (fun _ _ => rfl)) pe_int (nomark _)) (pw_and1 (pt_cmpR op_lt (pe_ix (ixL (K := K)) (pv 0) pe_int (fun _ _ => rfl)) (pe_callB (clLenQ (K := K)) (by rfl) T.b_len (by decide +kernel) (pa_cons (pe_ix (ixL (K := K)) (pv 0) pe_int (fun _ _ => rfl)) pa_nil)) (nomark _))))) (pss_cons (ps_asg (pe_ix (ixL (K := K)) (pe_ix (ixL (K := K)) (pv 0) pe_int (fun _ _ => rfl)) (pe_ix (ixL (K := K)) (pv 0) pe_int (fun _ _ => rfl)) (fun _ _ => rfl)) (pg_sub (pv 0) pe_int set_list))
      (pss_one (ps_asg (pe_op op_add (pe_ix (ixL (K := K)) (pv 0) pe_int (fun _ _ => rfl)) pe_int) (pg_sub (pv 0) pe_int set_list)))) (pss_one (ps_if (pt_cmpR op_eq (pe_ix (ixL (K := K)) (pv 0) pe_int (fun _ _ => rfl)) pe_int (nomark _)) (pss_one (ps_ret (pcall D_law_stirred hr (pa_cons (pv 0) (pa_cons (pv 1) pa_nil))))) pss_nil)))
      (pss_cons (ps_set (i := 2) sc_law_draw.nd rfl (.inl rfl) (pe_op op_mod (pe_ix (ixL (K := K)) (pv 0) pe_int (fun _ _ => rfl)) (pv 1)))
      (pss_cons (ps_asg (pe_op op_fdivW (pe_ix (ixL (K := K)) (pv 0) pe_int (fun _ _ => rfl)) (pv 1)) (pg_sub (pv 0) pe_int set_list))
      (pss_one (ps_ret (pv 2)))))), ?_⟩
    rw [show start ["bag", "many", "found"] [v0, v1] = [some v0, some v1, none] from rfl]
    obtain ⟨b, m, F, rfl, rfl, hw, hb, h0, h1, q⟩ := h
    obtain ⟨c, cells, i1, cur, st, n, e1, e2, e3, e4, e5, e6, e7, e8, e9, e10⟩ := hb.ex
    have e3' := sqL_same hw e3
    have gr := Gr.refl (M := [b]) hw
    walk_at "og"
    refine w_ite (fun hc => ?_) (fun hc => ?_)
    · walk_at "og"
      refine w_ite (fun hd => ?_) (fun hd => ?_)
      · obtain ⟨x, hx, ex⟩ := cell_at e6 hd
        have bx := e5 x hx
        walk_at "og"
        refine w_ixL _ _ e3' ex ?_
        walk_at "og"
        exact q _ F _ (((gr.put e1 (by simp)).put e1 (by simp)).put e1 (by simp)) ⟨c, cells, i1 + 1, x / m, st, n, e1, upd_same, e3, e4, e5, by omega, div_nn bx.1 h0, Int.lt_of_le_of_lt (div_le' bx.1 h0) bx.2, e9, e10⟩ (mod_nn h0) (mod_lt h0)
      · walk_at "og"
        refine w_iteT hc ?_
        walk_at "og"
        exact ⟨b, m, F, rfl, rfl, hw, hb, h0, h1, q⟩
    · walk_at "og"
      refine w_iteF hc ?_
      walk_at "og"
      exact q _ F _ (gr.put e1 (by simp)) ⟨c, cells, i1, cur / m, st, n, e1, upd_same, e3, e4, e5, e6, div_nn e7 h0, Int.lt_of_le_of_lt (div_le' e7 h0) e8, e9, e10⟩ (mod_nn h0) (mod_lt h0)
-- _law_whole
theorem ok_law_whole {f : Addr} {fd : FuncData} (F : FunD K "_law_whole" "_law_whole" (defArgs s_law_whole) (defBody s_law_whole) (defScope s_law_whole) [] [] f fd) (T : Txt K mg)  : FnOk P w K mg base CX0 1 f fd ["found"] (S1 φwholeI) := by
  refine F.ok sc_law_whole (fun vs H Q E h => ?_) (fun cdv A outer s H vs Q E hr h => ?_)
  · exact S1.len h
  · match vs, h with
    | [v0], h =>
    have hu := hu_of hr
    refine ⟨_, PSs.nox (pss_one (ps_ret (pe_and (pe_callB (clIsi (K := K)) (by rfl) T.b_isinstance (by decide +kernel) (pa_cons (pv 0) (pa_cons (pe_bltn (v := .ty "int") (by rfl) T.b_int (by decide +kernel) rfl) pa_nil))) (pe_one (pe_not (pe_callB (clIsi (K := K)) (by rfl) T.b_isinstance (by decide +kernel) (pa_cons (pv 0) (pa_cons (pe_bltn (v := .ty "bool") (by rfl) T.b_bool (by decide +kernel) rfl) pa_nil)))))))), ?_⟩
    rw [show start ["found"] [v0] = [some v0] from rfl]
    obtain ⟨i, rfl, q⟩ := h
    walk_at "go"
    refine u_isi (F := H) (d := .int i) (.int _) (Same.refl _) (k_int _) ?_
    walk_at "go"
    refine w_is (c := true) rfl ?_
    walk_at "go"
    refine u_isi (F := H) (d := .int i) (.int _) (Same.refl _) (k_bool _) ?_
    walk_at "go"
    exact q
-- _law_alike
theorem ok_law_alike {f : Addr} {fd : FuncData} (F : FunD K "_law_alike" "_law_alike" (defArgs s_law_alike) (defBody s_law_alike) (defScope s_law_alike) [] [] f fd) (T : Txt K mg) {n : Nat} (D_law_alike : DO P w K mg base n "_law_alike" ["found", "due"] [] (S2 (φalike K n))) : FnOk P w K mg base CX0 (n + 1) f fd ["found", "due"] (S2 (φalike K (n + 1))) := by
  refine F.ok sc_law_alike (fun vs H Q E h => ?_) (fun cdv A outer s H vs Q E hr h => ?_)
  · exact S2.len h
  · match vs, h with
    | [v0, v1], h =>
    have hu := hu_of hr
    refine ⟨_, PSs.nox (pss_cons (ps_if (pt_val (pe_callB (clIsiT (K := K)) (by rfl) T.b_isinstance (by decide +kernel) (pa_cons (pv 1) (pa_cons (pe_tup (pa_cons (pe_bltn (v := .ty "list") (by rfl) T.b_list (by decide +kernel) rfl) (pa_cons (pe_bltn (v := .ty "tuple") (by rfl) T.b_tuple (by decide +kernel) rfl) pa_nil))) pa_nil)))) (pss_cons (ps_if (PW.pt (pw_or (pt_not (pt_val (pe_callB (clIsiT (K := K)) (by rfl) T.b_isinstance (by decide +kernel) (pa_cons (pv 0) (pa_cons (pe_tup (pa_cons (pe_bltn (v := .ty "list") (by rfl) T.b_list (by decide +kernel) rfl) (pa_cons (pe_bltn (v := .ty "tuple") (by rfl) T.b_tuple (by decide +kernel) rfl) pa_nil))) pa_nil))))) (pw_or1 (pt_cmpR op_ne (pe_callB (clIsi (K := K)) (by rfl) T.b_isinstance (by decide +kernel) (pa_cons (pv 0) (pa_cons (pe_bltn (v := .ty "list") (by rfl) T.b_list (by decide +kernel) rfl) pa_nil))) (pe_callB (clIsi (K := K)) (by rfl) T.b_isinstance (by decide +kernel) (pa_cons (pv 1) (pa_cons (pe_bltn (v := .ty "list") (by rfl) T.b_list (by decide +kernel) rfl) pa_nil))) (nomark _))))) (pss_one (ps_ret pe_bl)) pss_nil)
      (pss_cons (ps_if (pt_cmpR op_ne (pe_callB (clLenQ (K := K)) (by rfl) T.b_len (by decide +kernel) (pa_cons (pv 0) pa_nil)) (pe_callB (clLenQ (K := K)) (by rfl) T.b_len (by decide +kernel) (pa_cons (pv 1) pa_nil)) (nomark _)) (pss_one (ps_ret pe_bl)) pss_nil)
      (pss_one (ps_ret (pe_callB (clAll (K := K)) (by rfl) T.b_all (by decide +kernel) (pa_cons (pe_lc (own := [("k", 2)]) (g := gName 2) rfl sc_law_alike.nd (pi_range1 rfl T.b_range (pa_cons (pe_callB (clLenQ (K := K)) (by rfl) T.b_len (by decide +kernel) (pa_cons (pv 1) pa_nil)) pa_nil)) (blkOk_by (own := [("k", 2)]) (N := ["found", "due", "k"]) (sc := defScope s_law_alike) (by decide +kernel)) (fun _ _ _ _ _ => pg_name (i := 2) sc_law_alike.nd rfl (Or.inl rfl)) (fun _ _ _ _ _ => pts_nil) (fun _ _ _ _ _ => (pcall D_law_alike hr (pa_cons (pe_ix (ixQ (K := K)) (pv 0) (pv 2) (fun _ _ => rfl)) (pa_cons (pe_ix (ixQ (K := K)) (pv 1) (pv 2) (fun _ _ => rfl)) pa_nil))))) pa_nil)))))) pss_nil)
      (pss_cons (ps_if (PW.pt (pw_or (pt_cmpR op_ne (pe_callB (clIsi (K := K)) (by rfl) T.b_isinstance (by decide +kernel) (pa_cons (pv 0) (pa_cons (pe_bltn (v := .ty "bool") (by rfl) T.b_bool (by decide +kernel) rfl) pa_nil))) (pe_callB (clIsi (K := K)) (by rfl) T.b_isinstance (by decide +kernel) (pa_cons (pv 1) (pa_cons (pe_bltn (v := .ty "bool") (by rfl) T.b_bool (by decide +kernel) rfl) pa_nil))) (nomark _)) (pw_or1 (pt_cmpR op_ne (pe_callB (clIsi (K := K)) (by rfl) T.b_isinstance (by decide +kernel) (pa_cons (pv 0) (pa_cons (pe_bltn (v := .ty "int") (by rfl) T.b_int (by decide +kernel) rfl) pa_nil))) (pe_callB (clIsi (K := K)) (by rfl) T.b_isinstance (by decide +kernel) (pa_cons (pv 1) (pa_cons (pe_bltn (v := .ty "int") (by rfl) T.b_int (by decide +kernel) rfl) pa_nil))) (nomark _))))) (pss_one (ps_ret pe_bl)) pss_nil)
      (pss_one (ps_ret (pe_and (pe_cmpR op_eq (pe_callB (clIsi (K := K)) (by rfl) T.b_isinstance (by decide +kernel) (pa_cons (pv 0) (pa_cons (pe_bltn (v := .ty "str") (by rfl) T.b_str (by decide +kernel) rfl) pa_nil))) (pe_callB (clIsi (K := K)) (by rfl) T.b_isinstance (by decide +kernel) (pa_cons (pv 1) (pa_cons (pe_bltn (v := .ty "str") (by rfl) T.b_str (by decide +kernel) rfl) pa_nil))) (nomark _)) (pe_one (pe_cmpR op_eq (pv 0) (pv 1) (nomark _)))))))), ?_⟩
    rw [show start ["found", "due", "k"] [v0, v1] = [some v0, some v1, none] from rfl]
    obtain ⟨F, d, hw, hx, hy, hn, hgd, q⟩ := h
    walk_at "og"
    refine ⟨le1000 (by simp), fun p np => ?_⟩
    have g1 : Gr [] F H F (upd H p (.tup [.ty "list", .ty "tuple"])) := .new hw np
    walk_at "og"
    refine u_isiT hy g1.fh upd_same (k_list d) (k_tuple d) ?_
    walk_at "og"
    cases hs : isSeq d with
    | false =>
      have e1 : isLst d = false := by cases d <;> first | rfl | cases hs
      have e2 : isTup d = false := by cases d <;> first | rfl | cases hs
      refine w_is (c := false) (by rw [e1, e2]; rfl) ?_
      obtain ⟨rfl, hsc⟩ := sca_of hx hy hs
      walk_at "og"
      refine u_isi hx g1.fh (k_bool d) ?_
      walk_at "og"
      refine u_isi hy g1.fh (k_bool d) ?_
      walk_at "og"
      refine u_isi hx g1.fh (k_int d) ?_
      walk_at "og"
      refine u_isi hy g1.fh (k_int d) ?_
      walk_at "og"
      refine u_isi hx g1.fh (k_str d) ?_
      walk_at "og"
      refine u_isi hy g1.fh (k_str d) ?_
      walk_at "og"
      refine ⟨hsc, ?_⟩
      rw [decide_eq_true rfl]
      exact q F _ g1
    | true =>
      refine w_is (c := true) (by cases d <;> first | rfl | cases hs) ?_
      obtain ⟨a, vs, rfl, ha, das⟩ := seq_of hx hs
      obtain ⟨b, us, rfl, hb, dbs⟩ := seq_of hy hs
      have hl : (itemsD d).length ≤ 100000 := good_len hgd
      walk_at "og"
      refine ⟨le1000 (by simp), fun p2 np2 => ?_⟩
      have g2 := g1.addm (o := .tup [.ty "list", .ty "tuple"]) np2
      walk_at "og"
      refine u_isiT hx g2.fh upd_same (k_list d) (k_tuple d) ?_
      walk_at "og"
      refine w_is (c := false) (by cases d <;> first | rfl | cases hs) ?_
      walk_at "og"
      refine u_isi hx g2.fh (k_list d) ?_
      walk_at "og"
      refine u_isi hy g2.fh (k_list d) ?_
      walk_at "og"
      refine ⟨a, vs, rfl, sq_same g2.fh ha, ?_⟩
      walk_at "og"
      refine ⟨b, us, rfl, sq_same g2.fh hb, ?_⟩
      walk_at "og"
      have el : vs.length = us.length := (dpa_len das).trans (dpa_len dbs).symm
      have lv : vs.length = (itemsD d).length := dpa_len das
      rw [el]
      refine w_nself ?_
      walk_at "og"
      refine ⟨b, us, rfl, sq_same g2.fh hb, ?_⟩
      walk_at "og"
      refine ⟨_, rfl, by omega, by omega, fun D nD => ?_⟩
      have g3 := g2.addm (o := .lst []) nD
      refine lc_rng (fun i H' => ∃ F2, Gr [] F H F2 H' ∧ Mu F2 H' D (.lst ((List.replicate i true).map V.bl))) ⟨F, g3, Mu.new g2.fh nD⟩ (fun i H' hi hp => ?_) (fun H' hp => ?_)
      · obtain ⟨F2, g, mu⟩ := hp
        have hi' : i < us.length := by omega
        have hid : (itemsD d)[i]? = some (itemsD d)[i] := List.getElem?_eq_getElem (by omega)
        obtain ⟨v, gv, dv⟩ := dpa_get das hid
        obtain ⟨u, gu, du⟩ := dpa_get dbs hid
        have hdep := depth_item hs hid
        show gName 2 _ [some (.ref a), some (.ref b), none] H' _
        walk_at "og"
        refine ⟨rfl, ?_⟩
        walk_at "og"
        have wF : Same F H' := g.ff.trans g.fh
        refine w_ixQ _ _ (sq_same wF ha) (atI_nat gv) ?_
        walk_at "og"
        refine w_ixQ _ _ (sq_same wF hb) (atI_nat gu) ?_
        walk_at "og"
        refine ⟨F2, _, g.fh, dp_same g.ff _ _ dv, dp_same g.ff _ _ du, by omega, good_item hgd hid, fun F3 H3 g3 => ?_⟩
        have mu3 := g3.mu0 mu
        refine ⟨_, mu3.h, small_lt (by rw [List.length_map, List.length_replicate]; omega), F3, (g.trans g3).wrn mu3.n (g2.fresh nD), ?_⟩
        rw [List.replicate_succ', List.map_append]
        exact mu3.wr
      · obtain ⟨F2, g, mu⟩ := hp
        walk_at "og"
        refine ⟨D, _, rfl, mu.sq, ?_⟩
        rw [all_rep]
        exact q F2 H' g
-- _law_signs
theorem ok_law_signs {f : Addr} {fd : FuncData} (F : FunD K "_law_signs" "_law_signs" (defArgs s_law_signs) (defBody s_law_signs) (defScope s_law_signs) [] [] f fd) (T : Txt K mg)  : FnOk P w K mg base CX0 1 f fd [] (S0 φsigns) := by
  refine F.ok sc_law_signs (fun vs H Q E h => ?_) (fun cdv A outer s H vs Q E hr h => ?_)
  · exact S0.len h
  · match vs, h with
    | [], h =>
    have hu := hu_of hr
    refine ⟨_, PSs.nox (pss_cons (ps_set (i := 0) sc_law_signs.nd rfl (.inl rfl) pe_str)
      (pss_one (ps_ret (pe_op opAddS (pv 0) pe_str)))), ?_⟩
    rw [show start ["some"] [] = [none] from rfl]
    have q : Q (.str sig93) H := h
    walk_at "go"
    exact q
-- _law_text
theorem ok_law_text {f : Addr} {fd : FuncData} (F : FunD K "_law_text" "_law_text" (defArgs s_law_text) (defBody s_law_text) (defScope s_law_text) [] [] f fd) (T : Txt K mg) (D_law_draw : DO P w K mg base 2 "_law_draw" ["bag", "many"] [] (S2 (φdraw K))) (D_law_signs : DO P w K mg base 1 "_law_signs" [] [] (S0 φsigns)) : FnOk P w K mg base CX0 3 f fd ["bag", "size"] (S2 (φtextC K)) := by
  refine F.ok sc_law_text (fun vs H Q E h => ?_) (fun cdv A outer s H vs Q E hr h => ?_)
  · exact S2.len h
  · match vs, h with
    | [v0, v1], h =>
    have hu := hu_of hr
    refine ⟨_, PSs.nox (pss_cons (ps_set (i := 2) sc_law_text.nd rfl (.inr rfl) (pe_ix (ixL (K := K)) (pe_lst (pa_cons pe_int (pa_cons pe_int (pa_cons pe_int (pa_cons pe_int pa_nil))))) (pcall D_law_draw hr (pa_cons (pv 0) (pa_cons pe_int pa_nil))) (fun _ _ => rfl)))
      (pss_cons (ps_set (i := 3) sc_law_text.nd rfl (.inr rfl) (pcall D_law_draw hr (pa_cons (pv 0) (pa_cons pe_int pa_nil))))
      (pss_cons (ps_set (i := 4) sc_law_text.nd rfl (.inr rfl) (pcall0 D_law_signs hr))
      (pss_one (ps_ret (peJoin (K := K) pe_str (pe_lc (own := [("k", 5)]) (g := gName 5) rfl sc_law_text.nd (pi_range1 rfl T.b_range (pa_cons (pv 1) pa_nil)) (blkOk_by (own := [("k", 5)]) (N := ["bag", "size", "few", "first", "some", "k"]) (sc := defScope s_law_text) (by decide +kernel)) (fun _ _ _ _ _ => pg_name (i := 5) sc_law_text.nd rfl (Or.inl rfl)) (fun _ _ _ _ _ => pts_nil) (fun _ _ _ _ _ => (pe_ix ix_str (pv 4) (pe_op op_mod (pe_op op_add (pv 3) (pcall D_law_draw hr (pa_cons (pv 0) (pa_cons (pv 2) pa_nil)))) pe_int) (fun _ _ => rfl)))))))))), ?_⟩
    rw [show start ["bag", "size", "few", "first", "some", "k"] [v0, v1] = [some v0, some v1, none, none, none, none] from rfl]
    obtain ⟨F, b, n, rfl, rfl, s0, n0, n1, q⟩ := h
    have w := s0.w (M := [b])
    walk_at "go"
    refine n_lst w (szle (by simp)) fun p1 F1 H1 w hp1 => ?_
    walk_at "go"
    refine n_draw w (by walk_at "pick") (by decide) (by decide) fun r F1 H1 w r0 r1 => ?_
    obtain ⟨wd, ew, wd0, wd1⟩ := pick_ix (ns := [93, 93, 2, 3]) (lo := 2) (hi := 93) r0 r1 (by decide)
    walk_at "go"
    refine w_ixL _ _ (by walk_at "sq") ew ?_
    walk_at "go"
    refine n_draw w (by walk_at "pick") (by omega) (by omega) fun first F1 H1 w f0 f1 => ?_
    walk_at "go"
    refine n_signs ?_
    walk_at "go"
    refine n_lcR w (fun i ys L => ∃ zs : List Str, ys = zs.map V.str ∧ zs.length = i ∧ (∀ y ∈ zs, y.length = 1 ∧ clean y) ∧ L = [bag K b]) ⟨[], rfl, rfl, by simp, rfl⟩ (fun i ys L F' H' D hi hp w hD => ?_) (fun D ys L F' H' hp w hD => ?_)
    · obtain ⟨zs, rfl, hz, hy, rfl⟩ := hp
      walk_at "wp"
      walk_at "go"
      refine n_draw w (by walk_at "pick") (by omega) (by omega) fun r F1 H1 w r0 r1 => ?_
      walk_at "go"
      have m0 := mod_nn (a := first + r) (b := 93) (by decide)
      have m1 := mod_lt (a := first + r) (b := 93) (by decide)
      refine w_ixLC (n := 93) sig_clean (by rw [sig_len]; rfl) (by rw [sig_len]; decide) m0 m1 fun s hs oks => ?_
      refine n_acc _ w ⟨zs ++ [s], by rw [List.map_append]; rfl, by simp [hz], ?_, rfl⟩ (by walk_at "pk") (small_lt (by rw [List.length_map]; omega))
      intro y hy'
      rcases List.mem_append.mp hy' with h | h
      · exact hy y h
      · rw [List.mem_singleton.mp h]
        exact ⟨hs, oks⟩
    · obtain ⟨zs, rfl, hz, hy, rfl⟩ := hp
      refine ⟨_, D, zs, rfl, rfl, .inl (by walk_at "sq"), ?_, ?_⟩
      · rw [sum_ones zs fun y h => ⟨(hy y h).1, clean_ok (hy y h).2⟩]
        show zs.length + zs.length * 0 ≤ 16777216
        omega
      · obtain ⟨j1, j2⟩ := joinedC zs hy
        exact q _ F' H' (by walk_at "w") (by
          show (((Txt.join ⟨#[]⟩ zs).length : Nat) : Int) = n
          rw [j1, hz]
          omega) j2
-- _law_row
theorem ok_law_row {f : Addr} {fd : FuncData} (F : FunD K "_law_row" "_law_row" (defArgs s_law_row) (defBody s_law_row) (defScope s_law_row) [] [] f fd) (T : Txt K mg) (D_law_draw : DO P w K mg base 2 "_law_draw" ["bag", "many"] [] (S2 (φdraw K))) (D_law_text : DO P w K mg base 3 "_law_text" ["bag", "size"] [] (S2 (φtextC K))) : FnOk P w K mg base CX0 4 f fd ["bag", "size", "left", "last"] (S4 (φrowC K)) := by
  refine F.ok sc_law_row (fun vs H Q E h => ?_) (fun cdv A outer s H vs Q E hr h => ?_)
  · exact S4.len h
  · match vs, h with
    | [v0, v1, v2, v3], h =>
    have hu := hu_of hr
    refine ⟨_, PSs.nox (pss_cons (ps_set (i := 4) sc_law_row.nd rfl (.inl rfl) (pcall D_law_draw hr (pa_cons (pv 0) (pa_cons pe_int pa_nil))))
      (pss_cons (ps_set (i := 5) sc_law_row.nd rfl (.inl rfl) (pe_ix (ixL (K := K)) (pe_lst (pa_cons pe_int (pa_cons pe_int (pa_cons pe_int pa_nil)))) (pcall D_law_draw hr (pa_cons (pv 0) (pa_cons pe_int pa_nil))) (fun _ _ => rfl)))
      (pss_cons (ps_if (PW.pt (pw_or (pt_cmpR op_eq (pv 4) pe_int (nomark _)) (pw_or1 (pt_cmpR op_eq (pv 1) pe_int (nomark _))))) (pss_one (ps_ret (pe_tup (pa_cons pe_str (pa_cons (pcall D_law_text hr (pa_cons (pv 0) (pa_cons (pe_op op_add pe_int (pcall D_law_draw hr (pa_cons (pv 0) (pa_cons (pe_callB clMin2 (by rfl) T.b_min (by decide +kernel) (pa_cons (pv 2) (pa_cons (pv 5) pa_nil))) pa_nil)))) pa_nil))) pa_nil))))) pss_nil)
      (pss_cons (ps_set (i := 6) sc_law_row.nd rfl (.inl rfl) (pcall D_law_draw hr (pa_cons (pv 0) (pa_cons (pv 1) pa_nil))))
      (C8.pss_cut (ps_if (PW.pt (pw_and (pt_cmpR op_eq (pv 4) pe_int (nomark _)) (pw_and (pt_cmpR (opNeD (K := K) hr.units) (pv 3) (pe_lst pa_nil) (nomark _)) (pw_and (pt_cmpR op_eq (pe_ix (ixT (K := K)) (pe_ix (ixL (K := K)) (pv 3) pe_int (fun _ _ => rfl)) pe_int (fun _ _ => rfl)) pe_str (nomark _)) (pw_and1 (pt_cmpR op_lt (pe_op op_add (pe_ix (ixT (K := K)) (pe_ix (ixL (K := K)) (pv 3) pe_int (fun _ _ => rfl)) pe_int (fun _ _ => rfl)) (pe_ix (ixT (K := K)) (pe_ix (ixL (K := K)) (pv 3) pe_int (fun _ _ => rfl)) pe_int (fun _ _ => rfl))) (pv 1) (nomark _))))))) (pss_one (ps_set (i := 6) sc_law_row.nd rfl (.inl rfl) (pe_op op_add (pe_ix (ixT (K := K)) (pe_ix (ixL (K := K)) (pv 3) pe_int (fun _ _ => rfl)) pe_int (fun _ _ => rfl)) (pe_ix (ixT (K := K)) (pe_ix (ixL (K := K)) (pv 3) pe_int (fun _ _ => rfl)) pe_int (fun _ _ => rfl))))) pss_nil)
      (pss_one (ps_ret (pe_tup (pa_cons pe_str (pa_cons (pv 6) (pa_cons (pe_op op_add pe_int (pcall D_law_draw hr (pa_cons (pv 0) (pa_cons (pe_callB (call_min3Nu rfl) (by rfl) T.b_min (by decide +kernel) (pa_cons (pv 2) (pa_cons (pe_op op_sub (pv 1) (pv 6)) (pa_cons (pv 5) pa_nil)))) pa_nil)))) pa_nil))))))))))), ?_⟩
    rw [show start ["bag", "size", "left", "last", "way", "wide", "at"] [v0, v1, v2, v3] = [some v0, some v1, some v2, some v3, none, none, none] from rfl]
    obtain ⟨F, b, l, n, left, zs, rfl, rfl, rfl, rfl, s0, hS, hz, hn, l0, l1, q⟩ := h
    have w := (s0.w (M := [b])).push (imL K l zs) hS
    walk_at "go"
    refine n_draw w (by walk_at "pick") (by decide) (by decide) fun way F1 H1 w wy0 wy1 => ?_
    walk_at "go"
    refine n_lst w (szle (by simp)) fun p1 F1 H1 w hp1 => ?_
    walk_at "go"
    refine n_draw w (by walk_at "pick") (by decide) (by decide) fun r F1 H1 w r0 r1 => ?_
    obtain ⟨wd, ew, wd0, wd1⟩ := pick_ix (ns := [3, 9, 400]) (lo := 3) (hi := 400) r0 r1 (by decide)
    walk_at "go"
    refine w_ixL _ _ (by walk_at "sq") ew ?_
    walk_at "go"
    refine w_ite (fun h1 => ?_) (fun h1 => ?_)
    · skip
      walk_at "go"
      obtain ⟨m1, em1⟩ : ∃ m1 : Int, m1 = (if wd < left then wd else left) := ⟨_, rfl⟩
      rw [← em1]
      have hm1 : 1 ≤ m1 ∧ m1 ≤ left := by split at em1 <;> omega
      refine n_draw w (by walk_at "pick") (by omega) (by omega) fun k F1 H1 w k0 k1 => ?_
      walk_at "go"
      refine ⟨_, b, 1 + k, rfl, rfl, w.st (by walk_at "pick"), by omega, by omega, fun s F2 H2 w2 hs okc => ?_⟩
      have oks := clean_ok okc
      replace w := w.calB (by walk_at "pick") w2 (by walk_at "app")
      walk_at "go"
      refine n_tup w (szle (by simp)) fun t F3 H3 w => ?_
      have d2 : F3 t = some (.tup [.str "put", .str s]) := w.i (fx t _) (by walk_at "mem")
      have d3 := dp_cput' (sqT_of (K := K) d2)
      exact q _ (.put s) F3 H3 ((w.push (dat K _ _) d3).to (by walk_at "pick")) ⟨⟨oks, by omega⟩, by show 1 ≤ s.length; omega, Nat.zero_le _⟩ (by show (s.length : Int) ≤ left; omega) okc
    · walk_at "go"
      refine w_ite (fun h2 => ?_) (fun h2 => ?_)
      · skip
        walk_at "go"
        obtain ⟨m1, em1⟩ : ∃ m1 : Int, m1 = (if wd < left then wd else left) := ⟨_, rfl⟩
        rw [← em1]
        have hm1 : 1 ≤ m1 ∧ m1 ≤ left := by split at em1 <;> omega
        refine n_draw w (by walk_at "pick") (by omega) (by omega) fun k F1 H1 w k0 k1 => ?_
        walk_at "go"
        refine ⟨_, b, 1 + k, rfl, rfl, w.st (by walk_at "pick"), by omega, by omega, fun s F2 H2 w2 hs okc => ?_⟩
        have oks := clean_ok okc
        replace w := w.calB (by walk_at "pick") w2 (by walk_at "app")
        walk_at "go"
        refine n_tup w (szle (by simp)) fun t F3 H3 w => ?_
        have d2 : F3 t = some (.tup [.str "put", .str s]) := w.i (fx t _) (by walk_at "mem")
        have d3 := dp_cput' (sqT_of (K := K) d2)
        exact q _ (.put s) F3 H3 ((w.push (dat K _ _) d3).to (by walk_at "pick")) ⟨⟨oks, by omega⟩, by show 1 ≤ s.length; omega, Nat.zero_le _⟩ (by show (s.length : Int) ≤ left; omega) okc
      · walk_at "go"
        refine n_draw w (by walk_at "pick") (by omega) (by omega) fun a' F1 H1 w a0 a1 => ?_
        obtain ⟨an, rfl⟩ : ∃ an : Nat, a' = (an : Int) := ⟨a'.toNat, by omega⟩
        walk_at "go"
        refine n_cut (w.to (D := [imL K l zs, bag K b]) (by walk_at "pick")) (fun σ L => ∃ (a : Nat), σ = [some (.ref b), some (.int (n : Nat)), some (.int left), some (.ref l), some (.int way), some (.int wd), some (.int (a : Nat))] ∧ a < n ∧ L = [imL K l zs, bag K b]) ?_ (fun σ L F' H' hp w => ?_)
        · have fin : ∀ {F1 H1 L}, W [b] F H F1 H1 L → Pk L [imL K l zs, bag K b] → Nx [b] F H (fun σ L => ∃ (a : Nat), σ = [some (.ref b), some (.int (n : Nat)), some (.int left), some (.ref l), some (.int way), some (.int wd), some (.int (a : Nat))] ∧ a < n ∧ L = [imL K l zs, bag K b]) [some (.ref b), some (.int (n : Nat)), some (.int left), some (.ref l), some (.int way), some (.int wd), some (.int (an : Nat))] H1 := fun w k => nx_mk w ⟨an, rfl, by omega, rfl⟩ k
          walk_at "go"
          refine w_ite (fun h3 => ?_) (fun h3 => ?_)
          · walk_at "go"
            refine n_lst w (szle (by simp)) fun p2 F2 H2 w hp2 => ?_
            walk_at "go"
            rcases hz with rfl | ⟨v, rw_, rfl, dr, ro⟩
            · refine u_neD (Same.refl _) (d := .list []) (.lst (by walk_at "sq") .nil) (.lst (by walk_at "sq") .nil) rfl (by decide) ?_
              walk_at "go"
              exact fin w (by walk_at "pk")
            · have d1 : Dp K H2 v rw_.d := dp_same w.ws _ _ dr
              refine ⟨.list [rw_.d], .list [], .lst (by walk_at "sq") (.cons d1 .nil), .lst (by walk_at "sq") .nil, ?_, good_shaped rfl (by decide), ?_⟩
              · have g := crow_good ro.s
                exact good_shaped (good_list (by simp) fun d hd => by rw [List.mem_singleton.mp hd]; exact g.1) (Nat.le_trans (depth_list (n := 1) fun d hd => by rw [List.mem_singleton.mp hd]; exact g.2) (by decide))
              rw [show PyData.eqv (.list [rw_.d]) (.list []) = false from rfl]
              walk_at "go"
              cases rw_ with
              | put s =>
                obtain ⟨pm, rfl, hT⟩ := dp_cput dr
                have hT := sqT_same (K := K) w.ws hT
                walk_at "go"
                exact fin w (by walk_at "pk")
              | copy a k =>
                obtain ⟨pm, rfl, hT⟩ := dp_ccopy dr
                have hT := sqT_same (K := K) w.ws hT
                walk_at "go"
                refine w_ite (fun h4 => ?_) (fun h4 => ?_)
                · walk_at "go"
                  exact nx_mk w ⟨a + k, rfl, by omega, rfl⟩ (by walk_at "pk")
                · walk_at "go"
                  exact fin w (by walk_at "pk")
          · walk_at "go"
            exact fin w (by walk_at "pk")
        obtain ⟨a, rfl, ha, rfl⟩ := hp
        walk_at "go"
        obtain ⟨m1, em1⟩ : ∃ m1 : Int, m1 = min (min left ((n : Int) - (a : Nat))) wd := ⟨_, rfl⟩
        rw [← em1]
        refine n_draw w (by walk_at "pick") (by omega) (by omega) fun k' F1 H1 w k0 k1 => ?_
        obtain ⟨k, ek⟩ : ∃ k : Nat, (k : Int) = 1 + k' := ⟨(1 + k').toNat, by omega⟩
        walk_at "go"
        rw [← ek]
        refine n_tup w (szle (by simp)) fun t F2 H2 w => ?_
        have d2 : F2 t = some (.tup [.str "copy", .int (a : Nat), .int (k : Nat)]) := w.i (fx t _) (by walk_at "mem")
        have d3 := dp_ccopy' (sqT_of (K := K) d2)
        exact q _ (.copy a k) F2 H2 ((w.push (dat K _ _) d3).to (by walk_at "pick")) ⟨trivial, by show 1 ≤ k; omega, by show a + k ≤ n; omega⟩ (by show (k : Int) ≤ left; omega) trivial
-- _law_rows
theorem ok_law_rows {f : Addr} {fd : FuncData} (F : FunD K "_law_rows" "_law_rows" (defArgs s_law_rows) (defBody s_law_rows) (defScope s_law_rows) [] [] f fd) (T : Txt K mg) (D_law_draw : DO P w K mg base 2 "_law_draw" ["bag", "many"] [] (S2 (φdraw K))) (D_law_row : DO P w K mg base 4 "_law_row" ["bag", "size", "left", "last"] [] (S4 (φrowC K))) : FnOk P w K mg base CX0 5 f fd ["bag", "size", "many", "most"] (S4 (φrowsC K)) := by
  refine F.ok sc_law_rows (fun vs H Q E h => ?_) (fun cdv A outer s H vs Q E hr h => ?_)
  · exact S4.len h
  · match vs, h with
    | [v0, v1, v2, v3], h =>
    have hu := hu_of hr
    refine ⟨_, PSs.nox (pss_cons (ps_set (i := 4) sc_law_rows.nd rfl (.inl rfl) (pe_lst pa_nil))
      (pss_cons (ps_set (i := 5) sc_law_rows.nd rfl (.inl rfl) (pv 3))
      (pss_cons (ps_set (i := 6) sc_law_rows.nd rfl (.inl rfl) (pe_ix (ixL (K := K)) (pe_lst (pa_cons pe_int (pa_cons pe_int (pa_cons pe_int (pa_cons pe_int pa_nil))))) (pe_op op_mul (pcall D_law_draw hr (pa_cons (pv 0) (pa_cons pe_int pa_nil))) (pe_callTy clInt1 (by rfl) T.b_int (by decide +kernel) (pa_cons (pe_cmpR op_gt (pv 2) pe_int (nomark _)) pa_nil))) (fun _ _ => rfl)))
      (pss_cons (ps_for PassesOwn.never rfl (pi_range1 rfl T.b_range (pa_cons (pv 2) pa_nil)) (pg_name (i := 7) sc_law_rows.nd rfl (.inl rfl)) (pss_one (ps_if (pt_cmpR op_gt (pv 5) pe_int (nomark _)) (pss_cons (ps_expr (peBM (K := K) PySem.F.plainAttrs_list PySem.F.slot_list_append PySem.F.type_list_append mt_append (pv 4) (pa_cons (pcall D_law_row hr (pa_cons (pv 0) (pa_cons (pv 1) (pa_cons (pe_callB clMin2 (by rfl) T.b_min (by decide +kernel) (pa_cons (pv 5) (pa_cons (pv 6) pa_nil))) (pa_cons (pe_slice (slL (K := K)) (pv 4) (po_some (pe_un un_neg pe_int)) po_none) pa_nil))))) pa_nil)))
      (pss_one (ps_set (i := 5) sc_law_rows.nd rfl (.inl rfl) (pe_op op_sub (pv 5) (pe_ifExp (pt_cmpR op_eq (pe_ix (ixT (K := K)) (pe_ix (ixL (K := K)) (pv 4) (pe_un un_neg pe_int) (fun _ _ => rfl)) pe_int (fun _ _ => rfl)) pe_str (nomark _)) (pe_callB clLenS (by rfl) T.b_len (by decide +kernel) (pa_cons (pe_ix (ixT (K := K)) (pe_ix (ixL (K := K)) (pv 4) (pe_un un_neg pe_int) (fun _ _ => rfl)) pe_int (fun _ _ => rfl)) pa_nil)) (pe_ix (ixT (K := K)) (pe_ix (ixL (K := K)) (pv 4) (pe_un un_neg pe_int) (fun _ _ => rfl)) pe_int (fun _ _ => rfl))))))) pss_nil)))
      (pss_one (ps_ret (pv 4))))))), ?_⟩
    rw [show start ["bag", "size", "many", "most", "rows", "left", "cap", "k"] [v0, v1, v2, v3] = [some v0, some v1, some v2, some v3, none, none, none, none] from rfl]
    obtain ⟨F, b, n, many, most, rfl, rfl, rfl, rfl, s0, hn, y0, y1, m0, m1, q⟩ := h
    have w := s0.w (M := [b])
    walk_at "go"
    refine n_lst w (szle (by simp)) fun f F1 H1 w hf => ?_
    walk_at "go"
    refine n_lst w (szle (by simp)) fun p1 F1 H1 w hp1 => ?_
    walk_at "go"
    refine n_draw w (by walk_at "pick") (by decide) (by decide) fun r F1 H1 w r0 r1 => ?_
    obtain ⟨e, he, e0, e1⟩ : ∃ e : Int, e = (if decide (20 < many) = true then 1 else 0) ∧ 0 ≤ e ∧ e ≤ 1 := ⟨_, rfl, by split <;> omega, by split <;> omega⟩
    walk_at "go"
    rw [← he]
    have hre : 0 ≤ r * e ∧ r * e < 4 := by
      rcases (show e = 0 ∨ e = 1 by omega) with rfl | rfl
      · rw [Int.mul_zero]; omega
      · rw [Int.mul_one]; omega
    walk_at "go"
    obtain ⟨cp, ec, cp0, cp1⟩ := pick_ix (ns := [400, 400, 1, 2]) (i := r * e) (lo := 1) (hi := 400) hre.1 (by show r * e < 4; exact hre.2) (by decide)
    refine w_ixL _ _ (by walk_at "sq") ec ?_
    replace w := w.push (dpa K [] (([] : List CRow).map CRow.d)) .nil
    walk_at "go"
    refine n_forR w (fun i σ L => ∃ (rows : List CRow) (ys : List V) (y7 : Option V), σ = [some (.ref b), some (.int (n : Nat)), some (.int many), some (.int most), some (.ref f), some (.int (most - ((givesL rows : Nat) : Int))), some (.int cp), y7] ∧ ((∀ r ∈ rows, CRowOk n r) ∧ (∀ r ∈ rows, r.cl)) ∧ (givesL rows : Int) ≤ most ∧ ys.length = rows.length ∧
      L = [mu f (.lst ys), dpa K ys (rows.map CRow.d), bag K b]) ⟨[], [], none, by show _ = [_, _, _, _, _, some (V.int (most - ((0 : Nat) : Int))), _, _]; rw [show most - ((0 : Nat) : Int) = most by omega], ⟨by simp, by simp⟩, by show ((0 : Nat) : Int) ≤ most; omega, rfl, rfl⟩ (fun i σ L F' H' hi hp w => ?_) (fun σ L F' H' hp w => ?_)
    · obtain ⟨rows, ys, y7, rfl, ⟨hok, hcl⟩, hg, hyl, rfl⟩ := hp
      have hrl := rows_len (rows := rows) (fun r hr => (hok r hr).p)
      walk_at "go"
      refine w_ite (fun hpos => ?_) (fun hpos => ?_)
      · walk_at "go"
        obtain ⟨m2, em2⟩ : ∃ m2 : Int, m2 = (if cp < most - ((givesL rows : Nat) : Int) then cp else most - ((givesL rows : Nat) : Int)) := ⟨_, rfl⟩
        rw [← em2]
        have hm2 : 1 ≤ m2 ∧ m2 ≤ 400 ∧ m2 ≤ most - ((givesL rows : Nat) : Int) := by split at em2 <;> omega
        clear em2
        have d0 : DpAll K F' ys (rows.map CRow.d) := w.dpa (by walk_at "mem")
        refine n_slL w (by walk_at "sq") fun pl F1 H1 w hpl => ?_
        obtain ⟨F2, w⟩ := w.fzL (p := pl) (by walk_at "pick") hpl
        have d1 : DpAll K F2 ys (rows.map CRow.d) := w.dpa (by walk_at "mem")
        walk_at "go"
        refine ⟨F2, b, pl, n, m2, _, rfl, rfl, rfl, rfl, w.st (by walk_at "pick"), sqL_of (w.i (fx pl _) (by walk_at "mem")), ?_, hn, hm2.1, hm2.2.1, fun v r F3 H3 w3 ro hgl rc => ?_⟩
        · rcases List.eq_nil_or_concat ys with rfl | ⟨us, u, rfl⟩
          · exact .inl (by rw [cut_last]; rfl)
          · refine .inr ⟨u, ?_⟩
            rw [List.concat_eq_append] at d1 hyl ⊢
            rw [cut_last_snoc]
            obtain ⟨r, hr, dr⟩ := dpa_at (i := us.length) (y := u) d1 (by rw [List.getElem?_append_right (Nat.le_refl _), Nat.sub_self]; rfl)
            exact ⟨r, rfl, dr, hok r (List.mem_of_getElem? hr)⟩
        replace w := w.calB (by walk_at "pick") w3 (by walk_at "app")
        walk_at "go"
        refine n_app w (by walk_at "pick") (small_lt (by omega)) fun H4 w => ?_
        walk_at "go"
        have d1 : DpAll K F3 ys (rows.map CRow.d) := w.dpa (by walk_at "mem")
        have d2 : Dp K F3 v r.d := w.dat (by walk_at "mem")
        have d3 := dpa_snoc d1 d2
        rw [show rows.map CRow.d ++ [r.d] = (rows ++ [r]).map CRow.d by rw [List.map_append]; rfl] at d3
        replace w := w.push (dpa K _ _) d3
        have fin : ∀ {g : Int} {H5}, g = (r.gives : Int) → W [b] F H F3 H5 [dpa K (ys ++ [v]) ((rows ++ [r]).map CRow.d), mu f (.lst (ys ++ [v])), bag K b] → Nx [b] F H (fun σ L => ∃ (rows : List CRow) (ys : List V) (y7 : Option V), σ = [some (.ref b), some (.int (n : Nat)), some (.int many), some (.int most), some (.ref f), some (.int (most - ((givesL rows : Nat) : Int))), some (.int cp), y7] ∧ ((∀ r ∈ rows, CRowOk n r) ∧ (∀ r ∈ rows, r.cl)) ∧ (givesL rows : Int) ≤ most ∧ ys.length = rows.length ∧
            L = [mu f (.lst ys), dpa K ys (rows.map CRow.d), bag K b]) [some (.ref b), some (.int (n : Nat)), some (.int many), some (.int most), some (.ref f), some (.int (most - ((givesL rows : Nat) : Int) - g)), some (.int cp), some (.int (i : Nat))] H5 := by
          intro g H5 hgi w
          have e2 : most - ((givesL rows : Nat) : Int) - g = most - ((givesL (rows ++ [r]) : Nat) : Int) := by rw [gives_snoc, hgi]; omega
          rw [e2]
          exact nx_mk w ⟨rows ++ [r], ys ++ [v], _, rfl, ⟨crows_snoc hok ro, crowc_snoc hcl rc⟩, by rw [gives_snoc]; omega, by rw [List.length_append, List.length_append, hyl]; rfl, rfl⟩ (by walk_at "pk")
        cases r with
        | put s =>
          obtain ⟨pm, rfl, hT⟩ := dp_cput d2
          have hT := sqT_same (K := K) w.fh hT
          have hsl := ro.s.2
          refine w_ixL _ _ (by walk_at "sq") (atI_last _ _) ?_
          walk_at "go"
          refine w_ixL _ _ (by walk_at "sq") (atI_last _ _) ?_
          walk_at "go"
          exact fin rfl (by walk_at "w")
        | copy a k =>
          obtain ⟨pm, rfl, hT⟩ := dp_ccopy d2
          have hT := sqT_same (K := K) w.fh hT
          refine w_ixL _ _ (by walk_at "sq") (atI_last _ _) ?_
          walk_at "go"
          refine w_ixL _ _ (by walk_at "sq") (atI_last _ _) ?_
          walk_at "go"
          exact fin rfl (by walk_at "w")
      · walk_at "go"
        exact nx_mk w ⟨rows, ys, _, rfl, ⟨hok, hcl⟩, hg, hyl, rfl⟩ (by walk_at "pk")
    · obtain ⟨rows, ys, y7, rfl, ⟨hok, hcl⟩, hg, hyl, rfl⟩ := hp
      walk_at "go"
      exact q f ys rows F' H' hf (by walk_at "w") ⟨hok, by omega⟩ hg hcl
-- _law_size
theorem ok_law_size {f : Addr} {fd : FuncData} (F : FunD K "_law_size" "_law_size" (defArgs s_law_size) (defBody s_law_size) (defScope s_law_size) [] [] f fd) (T : Txt K mg) (D_law_draw : DO P w K mg base 2 "_law_draw" ["bag", "many"] [] (S2 (φdraw K))) : FnOk P w K mg base CX0 3 f fd ["bag"] (S1 (φsize1 K)) := by
  refine F.ok sc_law_size (fun vs H Q E h => ?_) (fun cdv A outer s H vs Q E hr h => ?_)
  · exact S1.len h
  · match vs, h with
    | [v0], h =>
    have hu := hu_of hr
    refine ⟨_, PSs.nox (pss_one (ps_ret (pcall D_law_draw hr (pa_cons (pv 0) (pa_cons (pe_ix (ixL (K := K)) (pe_lst (pa_cons pe_int (pa_cons pe_int (pa_cons pe_int (pa_cons pe_int (pa_cons pe_int (pa_cons pe_int (pa_cons pe_int (pa_cons pe_int pa_nil))))))))) (pcall D_law_draw hr (pa_cons (pv 0) (pa_cons pe_int pa_nil))) (fun _ _ => rfl)) pa_nil))))), ?_⟩
    rw [show start ["bag"] [v0] = [some v0] from rfl]
    obtain ⟨F, b, rfl, s0, q⟩ := h
    have w := s0.w (M := [b])
    walk_at "go"
    refine n_lst w (szle (by simp)) fun p1 F1 H1 w hp1 => ?_
    walk_at "go"
    refine n_draw w (by walk_at "pick") (by decide) (by decide) fun r F1 H1 w r0 r1 => ?_
    obtain ⟨sz, es, sz0, sz1⟩ := pick_ix (ns := [9, 9, 9, 3, 41, 41, 121, 401]) (lo := 3) (hi := 401) r0 r1 (by decide)
    walk_at "go"
    refine w_ixL _ _ (by walk_at "sq") es ?_
    walk_at "go"
    refine n_draw w (by walk_at "pick") (by omega) (by omega) fun n' F1 H1 w n0 n1 => ?_
    obtain ⟨n, rfl⟩ : ∃ n : Nat, n' = (n : Int) := ⟨n'.toNat, by omega⟩
    exact q n F1 H1 (by walk_at "w") (by omega)
-- _law_same
theorem ok_law_same {f : Addr} {fd : FuncData} (F : FunD K "_law_same" "_law_same" (defArgs s_law_same) (defBody s_law_same) (defScope s_law_same) [] [] f fd) (T : Txt K mg) (D_law_alike : DO P w K mg base 6 "_law_alike" ["found", "due"] [] (S2 (φalike K 6))) : FnOk P w K mg base CX0 10 f fd ["found", "size", "rows"] (S3 (φsame K)) := by
  refine F.ok sc_law_same (fun vs H Q E h => ?_) (fun cdv A outer s H vs Q E hr h => ?_)
  · exact S3.len h
  · match vs, h with
    | [v0, v1, v2], h =>
    have hu := hu_of hr
    refine ⟨_, PSs.nox (pss_cons (ps_if (PW.pt (pw_or (pt_not (pt_val (pe_callB (clIsC T.i_Change) (by rfl) T.b_isinstance (by decide +kernel) (pa_cons (pv 0) (pa_cons (C8.pe_gc (v := .ref (He.ga K "Change")) (by rfl) ⟨_, T.g_Change, rfl⟩) pa_nil))))) (pw_or1 (pt_not (pt_val (pcall D_law_alike hr (pa_cons (peFld (K := K) (pv 0)) (pa_cons (pv 1) pa_nil)))))))) (pss_one (ps_ret pe_bl)) pss_nil)
      (pss_one (ps_ret (pcall D_law_alike hr (pa_cons (peFld (K := K) (pv 0)) (pa_cons (pv 2) pa_nil)))))), ?_⟩
    rw [show start ["found", "size", "rows"] [v0, v1, v2] = [some v0, some v1, some v2] from rfl]
    have kC := T.k_Change
    have kS := T.na_Change_size
    have kR := T.na_Change_rows
    
    obtain ⟨F, a, vs, n, rows, rfl, rfl, hw, hS, hDv, hC, hok, q⟩ := h
    obtain ⟨c, dx, r, us, rfl, hc, hr, hD⟩ := hC
    have w := ((W.start (M := []) hw).push (fx c _) hc).push (fx r (.lst us)) hr
    unfold insC at w
    have gok := crows_good (fun m hm => (hok.ok m hm).s) (show rows.length ≤ 100000 by have := hok.len; omega)
    walk_at "go"
    refine n_isC (by walk_at "at") ?_
    walk_at "go"
    refine ⟨F, .int (n : Nat), w.fh, .int _, .int _, by show (0 : Nat) < 6; decide, rfl, fun F2 H2 g => ?_⟩
    replace w := w.gr0 g
    walk_at "go"
    refine ⟨F2, .list (rows.map CRow.d), w.fh, .lst (sqL_of (w.i (fx r (.lst us)) (by walk_at "mem"))) (w.dpa0 hD), .lst (sqL_same w.ff hS) (w.dpa0 hDv), by have := gok.2; omega, gok.1, fun F3 H3 g3 => ?_⟩
    replace w := w.gr0 g3
    exact q _ _ (by walk_at "w")
-- _law_plan_written
theorem ok_law_plan_written {f : Addr} {fd : FuncData} (F : FunD K "_law_plan_written" "_law_plan_written" (defArgs s_law_plan_written) (defBody s_law_plan_written) (defScope s_law_plan_written) [] [] f fd) (T : Txt K mg)  : FnOk P w K mg base CX0 1 f fd ["plan"] (S1 (φptext71 K)) := by
  refine F.ok sc_law_plan_written (fun vs H Q E h => ?_) (fun cdv A outer s H vs Q E hr h => ?_)
  · exact S1.len h
  · match vs, h with
    | [v0], h =>
    have hu := hu_of hr
    refine ⟨_, PSs.nox (pss_cons (ps_set (i := 1) sc_law_plan_written.nd rfl (.inl rfl) (pe_lst pa_nil))
      (pss_cons (ps_for PassesOwn.never rfl (pi_list (pv 0)) (pg_name (i := 2) sc_law_plan_written.nd rfl (.inl rfl)) (pss_cons (ps_set (i := 3) sc_law_plan_written.nd rfl (.inl rfl) (pe_lst (pa_cons (pe_ix (ixT (K := K)) (pv 2) pe_int (fun _ _ => rfl)) pa_nil)))
      (pss_cons (ps_for PassesOwn.never rfl (pi_tup (pe_slice (slT (K := K)) (pv 2) (po_some pe_int) po_none)) (pg_name (i := 4) sc_law_plan_written.nd rfl (.inl rfl)) (pss_one (ps_expr (peBM (K := K) PySem.F.plainAttrs_list PySem.F.slot_list_append PySem.F.type_list_append mt_append (pv 3) (pa_cons (pe_ifExp (pt_val (pe_callB (clIsi (K := K)) (by rfl) T.b_isinstance (by decide +kernel) (pa_cons (pv 4) (pa_cons (pe_bltn (v := .ty "str") (by rfl) T.b_str (by decide +kernel) rfl) pa_nil)))) (pv 4) (pe_callTy clStrQ (by rfl) T.b_str (by decide +kernel) (pa_cons (pv 4) pa_nil))) pa_nil)))))
      (pss_one (ps_expr (peBM (K := K) PySem.F.plainAttrs_list PySem.F.slot_list_append PySem.F.type_list_append mt_append (pv 1) (pa_cons (peJoin (K := K) pe_str (pv 3)) pa_nil)))))))
      (pss_one (ps_ret (peJoin (K := K) pe_str (pv 1)))))), ?_⟩
    rw [show start ["plan", "lines", "row", "words", "part"] [v0] = [some v0, none, none, none, none] from rfl]
    obtain ⟨F, a, vs, ls, rfl, hw, hS, hD, hok, hl, ht, q⟩ := h
    have w := ((W.start (M := []) hw).push (imL K a vs) hS).push (dpa K vs (ls.map GRow.d)) hD
    have hvl : vs.length = ls.length := by rw [dpa_len hD, List.length_map]
    walk_at "go"
    refine n_lst w (szle (by show 0 ≤ 1000000; decide)) fun lp F1 H1 w hlp => ?_
    walk_at "go"
    refine n_forL vs w (fun i σ L => ∃ y2 y3 y4, σ = [some (.ref a), some (.ref lp), y2, y3, y4] ∧ L = [mu lp (.lst (((ls.take i).map GRow.t).map V.str)), imL K a vs, dpa K vs (ls.map GRow.d)]) ⟨none, none, none, rfl, rfl⟩ (fun i σ L F' H' hp w => ?_) (fun i x σ L F' H' hx hp w => ?_) (fun σ L F' H' hp w => ?_)
    · obtain ⟨y2, y3, y4, rfl, rfl⟩ := hp
      walk_at "sq"
    · obtain ⟨y2, y3, y4, rfl, rfl⟩ := hp
      obtain ⟨r, hr, dr⟩ := dpa_at (w.dpa (K := K) (xs := vs) (ds := ls.map GRow.d) (by walk_at "mem")) hx
      have hj := (List.getElem?_eq_some_iff.mp hr).1
      have hro := hok r (List.mem_of_getElem? hr)
      obtain ⟨p, rfl, hT⟩ := dp_g dr
      replace w := w.push (imT K p r.vals) hT
      have hvl2 : r.vals.length = r.ps.length + 1 := by show (r.ps.map GP.v).length + 1 = _; rw [List.length_map]
      have hpl := hro.l
      walk_at "go"
      refine w_ixT _ _ (by walk_at "st") (show atI r.vals ((0 : Nat) : Int) = some (.str r.w) from atI_nat rfl) ?_
      walk_at "go"
      refine n_lst w (szle (by show 1 ≤ 1000000; decide)) fun p1 F1 H1 w hp1 => ?_
      walk_at "go"
      refine n_slT7 (xs := r.vals) w (by walk_at "st") (fun z => sIx_one _ (by rw [← hvl2]; exact z.1)) fun t2 F2 H2 w => ?_
      rw [show cutV r.vals (some 1) none = r.ps.map GP.v from cut_from_V _ 1] at w
      refine n_it (K := K) (xs := r.ps.map GP.v) (sqT_same w.fh (sqT_of (w.i (fx t2 (.tup (r.ps.map GP.v))) (by walk_at "mem")))) ?_
      refine n_forT (r.ps.map GP.v) w (fun j σ L => ∃ y4, σ = [some (.ref a), some (.ref lp), some (.ref p), some (.ref p1), y4] ∧ L = [mu p1 (.lst ((r.w :: (r.ps.map GP.z).take j).map V.str)), fx t2 (.tup (r.ps.map GP.v)), mu lp (.lst (((ls.take i).map GRow.t).map V.str)), imL K a vs, dpa K vs (ls.map GRow.d)]) ⟨_, rfl, rfl⟩ (fun j σ L F H h w => by obtain ⟨y4, rfl, rfl⟩ := h; exact sqT_same w.fh (sqT_of (w.i (fx t2 (.tup (r.ps.map GP.v))) (by walk_at "mem")))) (fun j x σ L F2 H2 hx2 hp w => ?_) (fun σ L F2 H2 hp w => ?_)
      · obtain ⟨y4, rfl, rfl⟩ := hp
        rw [List.getElem?_map] at hx2
        obtain ⟨gp, hg, rfl⟩ : ∃ gp, r.ps[j]? = some gp ∧ x = gp.v := by
          cases e : r.ps[j]? with
          | none => rw [e] at hx2; cases hx2
          | some g9 => rw [e] at hx2; exact ⟨g9, rfl, (Option.some.inj hx2).symm⟩
        have hgo := hro.p gp (List.mem_of_getElem? hg)
        have hj2 := (List.getElem?_eq_some_iff.mp hg).1
        have et : (r.w :: (r.ps.map GP.z).take (j + 1)).map V.str = (r.w :: (r.ps.map GP.z).take j).map V.str ++ [.str gp.z] := by
          rw [List.take_add_one, List.getElem?_map, hg]
          show (r.w :: (_ ++ [gp.z])).map V.str = _
          rw [← List.cons_append, List.map_append]
          rfl
        cases gp with
        | i n =>
          walk_at "go"
          refine u_isi (F := F2) (d := .int n) (.int n) w.fh (k_str (.int n)) ?_
          rw [show isStr (PyData.int n) = false from rfl]
          walk_at "go"
          refine .inr ⟨_, rfl, log_of hgo, ?_⟩
          walk_at "go"
          refine n_app w (by walk_at "pick") (small_lt (by rw [List.length_map, List.length_cons, List.length_take, List.length_map]; omega)) fun H3 w => ?_
          rw [show ((r.w :: (r.ps.map GP.z).take j).map V.str ++ [V.str (Str.ofString (toString n))]) = (r.w :: (r.ps.map GP.z).take (j + 1)).map V.str from et.symm] at w
          walk_at "go"
          exact nx_mk w ⟨_, rfl, rfl⟩ (by walk_at "pk")
        | s z =>
          walk_at "go"
          refine u_isi (F := F2) (d := .str z) (.str z) w.fh (k_str (.str z)) ?_
          rw [show isStr (PyData.str z) = true from rfl]
          walk_at "go"
          refine n_app w (by walk_at "pick") (small_lt (by rw [List.length_map, List.length_cons, List.length_take, List.length_map]; omega)) fun H3 w => ?_
          rw [show ((r.w :: (r.ps.map GP.z).take j).map V.str ++ [(GP.s z).v]) = (r.w :: (r.ps.map GP.z).take (j + 1)).map V.str from et.symm] at w
          walk_at "go"
          exact nx_mk w ⟨_, rfl, rfl⟩ (by walk_at "pk")
      · obtain ⟨y4, rfl, rfl⟩ := hp
        rw [List.take_of_length_le (by rw [List.length_map, List.length_map]; exact Nat.le_refl _)] at w
        rw [show r.w :: r.ps.map GP.z = r.ws from rfl] at w
        walk_at "go"
        refine ⟨_, p1, r.ws, rfl, rfl, .inl (by walk_at "sq"), r.jsum hro, ?_⟩
        walk_at "go"
        refine n_app (p := lp) (xs := ((ls.take i).map GRow.t).map V.str) w (by walk_at "pick") (small_lt (by rw [List.length_map, List.length_map, List.length_take]; omega)) fun H3 w => ?_
        have et9 : ((ls.take (i + 1)).map GRow.t).map V.str = ((ls.take i).map GRow.t).map V.str ++ [.str r.t] := by
          rw [List.take_add_one, hr, List.map_append, List.map_append]
          rfl
        walk_at "go"
        refine nx_mk w ⟨_, _, _, rfl, rfl⟩ ?_
        rw [et9]
        walk_at "pk"
    obtain ⟨y2, y3, y4, rfl, rfl⟩ := hp
    rw [hvl, List.take_length] at w
    walk_at "go"
    refine ⟨_, lp, ls.map GRow.t, rfl, rfl, .inl (by walk_at "sq"), ?_, ?_⟩
    · have := tot_sum ls
      rw [List.length_map, slen_nl7]
      omega
    exact q _ _ (w.to .nil)
-- _law_change_written
theorem ok_law_change_written {f : Addr} {fd : FuncData} (F : FunD K "_law_change_written" "_law_change_written" (defArgs s_law_change_written) (defBody s_law_change_written) (defScope s_law_change_written) [] [] f fd) (T : Txt K mg) (D_law_plan_written : DO P w K mg base 1 "_law_plan_written" ["plan"] [] (S1 (φptext71 K))) : FnOk P w K mg base CX0 2 f fd ["size", "rows"] (S2 (φcwrit71 K)) := by
  refine F.ok sc_law_change_written (fun vs H Q E h => ?_) (fun cdv A outer s H vs Q E hr h => ?_)
  · exact S2.len h
  · match vs, h with
    | [v0, v1], h =>
    have hu := hu_of hr
    refine ⟨_, PSs.nox (pss_cons (ps_set (i := 2) sc_law_change_written.nd rfl (.inl rfl) (pe_op opAddS pe_str (pe_callTy call_str_int (by rfl) T.b_str (by decide +kernel) (pa_cons (pv 0) pa_nil))))
      (pss_cons (ps_for PassesOwn.never rfl (pi_list (pv 1)) (pg_name (i := 3) sc_law_change_written.nd rfl (.inl rfl)) (pss_one (ps_set (i := 2) sc_law_change_written.nd rfl (.inl rfl) (pe_op opAddS (pe_op opAddS (pv 2) pe_str) (pcall D_law_plan_written hr (pa_cons (pe_lst (pa_cons (pv 3) pa_nil)) pa_nil))))))
      (pss_one (ps_ret (pv 2))))), ?_⟩
    rw [show start ["size", "rows", "found", "row"] [v0, v1] = [some v0, some v1, none, none] from rfl]
    obtain ⟨F, a, vs, n, rows, rfl, rfl, hw, hS, hD, hok, hn, q⟩ := h
    have w := ((W.start (M := []) hw).push (imL K a vs) hS).push (dpa K vs (rows.map CRow.d)) hD
    have hrl := hok.len
    have hvl : vs.length = rows.length := by rw [dpa_len hD, List.length_map]
    have nn := num_ok hn
    have ln := nn.2
    walk_at "go"
    refine ⟨_, rfl, num_log hn, ?_⟩
    refine n_adds (szle (show (Str.ofString "size ").length + (numS n).length ≤ 1000000 by rw [slen_size]; omega)) ?_
    walk_at "go"
    refine n_forL vs w (fun i σ L => ∃ f y3, σ = [some (.int (n : Nat)), some (.ref a), some (.str f), y3] ∧ cd f = (cd (Str.ofString "size ") ++ cd (numS n)) ++ rowsW (rows.take i) ∧ L = [imL K a vs, dpa K vs (rows.map CRow.d)]) ⟨_, none, rfl, ?_, rfl⟩ (fun i σ L F' H' hp w => ?_) (fun i x σ L F' H' hx hp w => ?_) (fun σ L F' H' hp w => ?_)
    · rw [cd_app]
      show _ = _ ++ []
      rw [List.append_nil]
      rfl
    · obtain ⟨f, y3, rfl, hf, rfl⟩ := hp
      walk_at "sq"
    · obtain ⟨f, y3, rfl, hf, rfl⟩ := hp
      obtain ⟨m, hm, dm⟩ := dpa_at (w.dpa (K := K) (xs := vs) (ds := rows.map CRow.d) (by walk_at "mem")) hx
      have mo := hok.ok m (List.mem_of_getElem? hm)
      have hg : m.gives ≤ 400 := Nat.le_trans (row_le (List.mem_of_getElem? hm)) hok.sum
      have mg := crow_gok mo hn hg
      have mt := GRow.tl mg
      have lf : f.length ≤ 6100 := by
        rw [← cd_len, hf, List.length_append, List.length_append, len_size, cd_len]
        have := rowsW_le hn hok i
        omega
      walk_at "go"
      refine n_adds (szle (show f.length + (Str.ofString "\n").length ≤ 1000000 by rw [slen_nl]; omega)) ?_
      walk_at "go"
      refine n_lst w (szle (by show 1 ≤ 1000000; decide)) fun p1 F1 H1 w hp1 => ?_
      obtain ⟨F1, w⟩ := w.fzL (p := p1) (by walk_at "pick") hp1
      walk_at "go"
      refine ⟨_, p1, [x], [m.g], rfl, w.fh, sqL_of (w.i (fx p1 (.lst [x])) (by walk_at "mem")), ?_, fun r hr => by rw [List.mem_singleton.mp hr]; exact mg, by show 1 ≤ 1000; decide, by rw [tot_one]; omega, fun F2 H2 w2 => ?_⟩
      · rw [show [m.g].map GRow.d = [m.d] by rw [List.map_cons, crow_gd]; rfl]
        obtain ⟨m2, hm2, dm2⟩ := dpa_at (w.dpa (K := K) (xs := vs) (ds := rows.map CRow.d) (by walk_at "mem")) hx
        rw [hm] at hm2
        cases hm2
        exact .cons dm2 .nil
      replace w := w.cal .nil w2 (by walk_at "app")
      rw [gpT_one]
      refine n_adds (szle (by rw [len_app, slen_nl]; omega)) ?_
      walk_at "go"
      refine nx_mk w ⟨_, _, rfl, ?_, rfl⟩ (by walk_at "pk")
      rw [cd_app, cd_app, hf, rowsW_take hm, nl_cd, crow_gt]
      simp
    · obtain ⟨f, y3, rfl, hf, rfl⟩ := hp
      walk_at "go"
      refine q f _ _ (w.to .nil) ?_
      rw [hf, hvl, List.take_length]
      rfl
-- _law_number
theorem ok_law_number {f : Addr} {fd : FuncData} (F : FunD K "_law_number" "_law_number" (defArgs s_law_number) (defBody s_law_number) (defScope s_law_number) [] [] f fd) (T : Txt K mg)  : FnOk P w K mg base CX0 1 f fd ["word"] (S1 (φlnum73 K)) := by
  refine F.ok sc_law_number (fun vs H Q E h => ?_) (fun cdv A outer s H vs Q E hr h => ?_)
  · exact S1.len h
  · match vs, h with
    | [v0], h =>
    have hu := hu_of hr
    refine ⟨_, PSs.nox (C8.pss_cut (ps_set (i := 1) sc_law_number.nd rfl (.inl rfl) (pe_ifExp (pt_cmpR op_eq (pe_slice sl_str (pv 0) po_none (po_some pe_int)) pe_str (nomark _)) (pe_slice sl_str (pv 0) (po_some pe_int) po_none) (pv 0)))
      (pss_cons (ps_if (PW.pt (pw_or (pt_cmpR op_eq (pv 1) pe_str (nomark _)) (pw_or (pt_cmpR op_gt (pe_callB clLenS (by rfl) T.b_len (by decide +kernel) (pa_cons (pv 1) pa_nil)) pe_int (nomark _)) (pw_or1 (pt_cmpR (opNeD (K := K) hr.units) (pe_lc (own := [("sign", 2)]) (g := gName 2) rfl sc_law_number.nd (pi_str (pv 1)) (blkOk_by (own := [("sign", 2)]) (N := ["word", "figures", "sign"]) (sc := defScope s_law_number) (by decide +kernel)) (fun _ _ _ _ _ => pg_name (i := 2) sc_law_number.nd rfl (Or.inl rfl)) (fun _ _ _ _ _ => pts_one (pt_cmpR opNotInS (pv 2) pe_str (by rfl))) (fun _ _ _ _ _ => (pv 2))) (pe_lst pa_nil) (nomark _)))))) (pss_one (ps_ret pe_non)) pss_nil)
      (pss_cons (ps_if (PW.pt (pw_and (pt_cmpR op_eq (pe_ix ix_str (pv 1) pe_int (fun _ _ => rfl)) pe_str (nomark _)) (pw_and1 (pt_cmpR op_ne (pv 0) pe_str (nomark _))))) (pss_one (ps_ret pe_non)) pss_nil)
      (pss_one (ps_ret (pe_callTy clIntS (by rfl) T.b_int (by decide +kernel) (pa_cons (pv 0) pa_nil))))))), ?_⟩
    rw [show start ["word", "figures", "sign"] [v0] = [some v0, none, none] from rfl]
    obtain ⟨F, s, rfl, hw, hok, hl, q⟩ := h
    have w := W.start (M := []) hw
    obtain ⟨fs, efs⟩ : ∃ fs : Str, fs = if (cd s).take 1 = [45] then cutS s (some 1) none else s := ⟨_, rfl⟩
    have hfs : cd fs = figs (cd s) := by
      rw [efs]
      unfold figs
      split
      · exact cut_cd_from s 1
      · rfl
    have fl : fs.length ≤ s.length := by
      rw [← cd_len, ← cd_len s, hfs]
      unfold figs
      split
      · rw [List.length_drop]; omega
      · exact Nat.le_refl _
    have okf : okS fs := ok_codes.mpr fun c hc => by
      rw [hfs] at hc
      unfold figs at hc
      split at hc
      · exact ok_codes.mp hok c (List.mem_of_mem_drop hc)
      · exact ok_codes.mp hok c hc
    walk_at "go"
    refine n_cut w (fun σ L => σ = [some (.str s), some (.str fs), none] ∧ L = []) ?_ (fun σ L F' H' hp w => ?_)
    · walk_at "go"
      refine w_slS (szle (by omega)) ?_
      walk_at "go"
      have e1 : cutS s none (some 1) = Str.ofString "-" ↔ (cd s).take 1 = [45] := by rw [str_is, cd_minus, show cd (cutS s none (some 1)) = (cd s).take 1 from cut_cd_to s 1]
      by_cases hm : (cd s).take 1 = [45]
      · rw [decide_eq_true (e1.mpr hm)]
        walk_at "go"
        refine w_slS (szle (by omega)) ?_
        have ef : fs = cutS s (some 1) none := by rw [efs, if_pos hm]
        walk_at "go"
        exact nx_mk w ⟨by rw [ef], rfl⟩ (by walk_at "pk")
      · rw [decide_eq_false (fun z => hm (e1.mp z))]
        have ef : fs = s := by rw [efs, if_neg hm]
        walk_at "go"
        exact nx_mk w ⟨by rw [ef], rfl⟩ (by walk_at "pk")
    obtain ⟨rfl, rfl⟩ := hp
    have flen : (figs (cd s)).length = fs.length := by rw [← hfs, cd_len]
    walk_at "go"
    by_cases h1 : figs (cd s) = []
    · rw [decide_eq_true (show fs = Str.ofString "" from str_is.mpr (by rw [hfs, h1, cd_none]))]
      walk_at "go"
      rw [show isN s = false from isn1 h1] at q
      exact q _ _ (w.to .nil)
    rw [decide_eq_false (show ¬ fs = Str.ofString "" from fun z => h1 (by rw [← hfs, z, cd_none]))]
    walk_at "go"
    by_cases h2 : 60 < (figs (cd s)).length
    · rw [decide_eq_true (show (60 : Int) < ((fs.length : Nat) : Int) by omega)]
      walk_at "go"
      rw [show isN s = false from isn2 h2] at q
      exact q _ _ (w.to .nil)
    rw [decide_eq_false (show ¬ (60 : Int) < ((fs.length : Nat) : Int) by omega)]
    walk_at "go"
    refine n_lcS fs w (fun i ys L => ys = (badS ((cd fs).take i)).map (fun c => V.str ⟨#[c]⟩) ∧ L = []) ⟨rfl, rfl⟩ (fun i ys L F' H' D hi hp w hD => ?_) (fun D ys L F' H' hp w hD => ?_)
    · obtain ⟨rfl, rfl⟩ := hp
      have hi2 : i < (cd fs).length := by rw [cd_len]; exact hi
      unfold sgnV
      obtain ⟨c, ec⟩ : ∃ c, c = fs.cps.toList.getD i 0 := ⟨_, rfl⟩
      have hc : (cd fs)[i]? = some c := by
        rw [ec, List.getD_eq_getElem?_getD]
        show fs.cps.toList[i]? = _
        rw [List.getElem?_eq_getElem hi2]
        rfl
      rw [← ec]
      have et : badS ((cd fs).take (i + 1)) = badS ((cd fs).take i) ++ (if dg c = true then [] else [c]) := by
        unfold badS
        rw [List.take_add_one, hc, List.filter_append]
        cases e : dg c <;> simp [e]
      have hbl : (badS ((cd fs).take i)).length ≤ 60 := by
        have h5 := List.length_filter_le (fun c => !dg c) ((cd fs).take i)
        rw [List.length_take] at h5
        rw [cd_len] at h5
        show ((cd fs).take i |>.filter (fun c => !dg c)).length ≤ 60
        omega
      walk_at "wp"
      walk_at "go"
      refine n_notin ?_
      rw [show cd (⟨#[c]⟩ : Str) = [c] from rfl, fig_in]
      cases e : dg c with
      | true =>
        walk_at "go"
        exact ⟨_, _, F', ⟨by rw [et, e]; simp, rfl⟩, w⟩
      | false =>
        walk_at "go"
        refine n_acc _ w ⟨by rw [et, e, List.map_append]; rfl, rfl⟩ (by walk_at "pk") (small_lt (by rw [List.length_map]; omega))
    obtain ⟨rfl, rfl⟩ := hp
    rw [List.take_of_length_le (by rw [cd_len]; exact Nat.le_refl _), hfs] at w
    walk_at "go"
    refine n_lst w (szle (by show 0 ≤ 1000000; decide)) fun p9 F9 H9 w hp9 => ?_
    refine n_neS (cs := badS (figs (cd s))) (by walk_at "sq") (by walk_at "sq") (by have h5 := List.length_filter_le (fun c => !dg c) (figs (cd s)); show ((figs (cd s)).filter (fun c => !dg c)).length ≤ _; omega) (fun c hc => ok_codes.mp okf c (by rw [hfs]; exact (List.mem_filter.mp hc).1)) ?_
    by_cases h3 : badS (figs (cd s)) = []
    · rw [decide_eq_true h3]
      walk_at "go"
      obtain ⟨c, cs9, ecs⟩ : ∃ c cs9, figs (cd s) = c :: cs9 := by
        cases e : figs (cd s) with
        | nil => exact absurd e h1
        | cons c cs9 => exact ⟨c, cs9, rfl⟩
      refine w_ixS (c := c) (le1000 (by omega)) (show atI fs.cps.toList ((0 : Nat) : Int) = some c from atI_nat (by show (cd fs)[0]? = _; rw [hfs, ecs]; rfl)) ?_
      walk_at "go"
      have hq := isn4 h1 h2 h3
      rw [ecs] at hq
      have e9 : (⟨#[c]⟩ : Str) = Str.ofString "0" ↔ [c] = [48] := by rw [str_is, cd_nought]
      have e0 : s = Str.ofString "0" ↔ cd s = [48] := by rw [str_is, cd_nought]
      by_cases h5 : [c] = [48]
      · rw [decide_eq_true (e9.mpr h5)]
        walk_at "go"
        by_cases h4 : cd s = [48]
        · rw [decide_eq_true (e0.mpr h4)]
          walk_at "go"
          have hn : isN s = true := by show isNumB (cd s) = true; rw [hq, decide_eq_true h4]; rfl
          refine n_intS (num_reads hn).1 (num_reads hn).2 ?_
          rw [if_pos hn] at q
          exact q _ _ (w.to .nil)
        · rw [decide_eq_false (fun z => h4 (e0.mp z))]
          walk_at "go"
          have hn : isN s = false := by show isNumB (cd s) = false; rw [hq, decide_eq_false h4, show (c :: cs9).take 1 = [c] from rfl, decide_eq_true h5]; rfl
          rw [hn] at q
          exact q _ _ (w.to .nil)
      · rw [decide_eq_false (fun z => h5 (e9.mp z))]
        walk_at "go"
        have hn : isN s = true := by show isNumB (cd s) = true; rw [hq, show (c :: cs9).take 1 = [c] from rfl, decide_eq_false h5]; simp
        refine n_intS (num_reads hn).1 (num_reads hn).2 ?_
        rw [if_pos hn] at q
        exact q _ _ (w.to .nil)
    · rw [decide_eq_false h3]
      walk_at "go"
      rw [show isN s = false from isn3 h3] at q
      exact q _ _ (w.to .nil)
-- _law_words_read
theorem ok_law_words_read {f : Addr} {fd : FuncData} (F : FunD K "_law_words_read" "_law_words_read" (defArgs s_law_words_read) (defBody s_law_words_read) (defScope s_law_words_read) [] [] f fd) (T : Txt K mg) (D_law_number : DO P w K mg base 1 "_law_number" ["word"] [] (S1 (φlnum73 K))) : FnOk P w K mg base CX0 2 f fd ["words", "kinds"] (S2 (φlwords73 K)) := by
  refine F.ok sc_law_words_read (fun vs H Q E h => ?_) (fun cdv A outer s H vs Q E hr h => ?_)
  · exact S2.len h
  · match vs, h with
    | [v0, v1], h =>
    have hu := hu_of hr
    refine ⟨_, PSs.nox (pss_cons (ps_for PassesOwn.never rfl (pi_list (pv 1)) (pg_tup (by rfl) (pgs_cons (pg_name (i := 2) sc_law_words_read.nd rfl (.inl rfl)) (pgs_cons (pg_name (i := 3) sc_law_words_read.nd rfl (.inl rfl)) pgs_nil))) (pss_one (ps_if (PW.pt (pw_and (pt_cmpR op_eq (pe_ix (ixL (K := K)) (pv 0) pe_int (fun _ _ => rfl)) (pv 2) (nomark _)) (pw_and1 (pt_cmpR op_eq (pe_callB (clLenQ (K := K)) (by rfl) T.b_len (by decide +kernel) (pa_cons (pv 0) pa_nil)) (pe_op op_add pe_int (pe_callB clLenS (by rfl) T.b_len (by decide +kernel) (pa_cons (pv 3) pa_nil))) (nomark _))))) (pss_cons (ps_set (i := 4) sc_law_words_read.nd rfl (.inl rfl) (pe_lst (pa_cons (pv 2) pa_nil)))
      (pss_cons (ps_for PassesOwn.never rfl (pi_range1 rfl T.b_range (pa_cons (pe_callB clLenS (by rfl) T.b_len (by decide +kernel) (pa_cons (pv 3) pa_nil)) pa_nil)) (pg_name (i := 5) sc_law_words_read.nd rfl (.inl rfl)) (pss_cons (ps_set (i := 6) sc_law_words_read.nd rfl (.inl rfl) (pe_ix (ixL (K := K)) (pv 0) (pe_op op_add pe_int (pv 5)) (fun _ _ => rfl)))
      (pss_cons (ps_set (i := 7) sc_law_words_read.nd rfl (.inl rfl) (pe_ifExp (pt_cmpR op_eq (pe_ix ix_str (pv 3) (pv 5) (fun _ _ => rfl)) pe_str (nomark _)) (pcall D_law_number hr (pa_cons (pv 6) pa_nil)) pe_non))
      (pss_cons (ps_if (PW.pt (pw_or (PW.pt (pw_and (pt_cmpR op_eq (pe_ix ix_str (pv 3) (pv 5) (fun _ _ => rfl)) pe_str (nomark _)) (pw_and1 (pt_cmp (pc_isN (pv 7)) (by rfl))))) (pw_or1 (PW.pt (pw_and (pt_cmpR op_eq (pe_ix ix_str (pv 3) (pv 5) (fun _ _ => rfl)) pe_str (nomark _)) (pw_and1 (pt_not (pt_chain op_lt op_le pe_int (pe_callB clLenS (by rfl) T.b_len (by decide +kernel) (pa_cons (pv 6) pa_nil)) pe_int)))))))) (pss_one (ps_ret pe_non)) pss_nil)
      (pss_one (ps_expr (peBM (K := K) PySem.F.plainAttrs_list PySem.F.slot_list_append PySem.F.type_list_append mt_append (pv 4) (pa_cons (pe_ifExp (pt_cmpR op_eq (pe_ix ix_str (pv 3) (pv 5) (fun _ _ => rfl)) pe_str (nomark _)) (pv 6) (pv 7)) pa_nil))))))))
      (pss_one (ps_ret (pe_tupleOf rfl T.b_tuple (pv 4)))))) pss_nil)))
      (pss_one (ps_ret pe_non))), ?_⟩
    rw [show start ["words", "kinds", "kind", "parts", "row", "k", "word", "number"] [v0, v1] = [some v0, some v1, none, none, none, none, none, none] from rfl]
    obtain ⟨F, a, ka, w0, ws, kvs, ks, rfl, rfl, hw, hS, hok, hl, hK, hKD, hko, q⟩ := h
    have w := (((W.start (M := []) hw).push (dpa K kvs (ks.map kindD)) hKD).push (imL K ka kvs) hK).push (imL K a ((w0 :: ws).map V.str)) hS
    have hkl : kvs.length = ks.length := by rw [dpa_len hKD, List.length_map]
    have e0 : atI ((w0 :: ws).map V.str) ((0 : Nat) : Int) = some (.str w0) := atI_nat rfl
    have el : (((V.str w0 :: ws.map V.str).length : Nat) : Int) = (ws.length : Int) + 1 := by rw [List.length_cons, List.length_map]; omega
    walk_at "go"
    refine n_forL kvs w (fun i σ L => ∃ y2 y3 y4 y5 y6 y7, σ = [some (.ref a), some (.ref ka), y2, y3, y4, y5, y6, y7] ∧ wordsR ks (w0 :: ws) = wordsR (ks.drop i) (w0 :: ws) ∧ L = [imL K a ((w0 :: ws).map V.str), imL K ka kvs, dpa K kvs (ks.map kindD)]) ⟨none, none, none, none, none, none, rfl, rfl, rfl⟩ (fun i σ L F' H' hp w => ?_) (fun i x σ L F' H' hx hp w => ?_) (fun σ L F' H' hp w => ?_)
    · obtain ⟨y2, y3, y4, y5, y6, y7, rfl, hrw, rfl⟩ := hp
      walk_at "sq"
    · obtain ⟨y2, y3, y4, y5, y6, y7, rfl, hrw, rfl⟩ := hp
      obtain ⟨⟨kd, pt⟩, hkp, dk⟩ := dpa_at (w.dpa (K := K) (xs := kvs) (ds := ks.map kindD) (by walk_at "mem")) hx
      obtain ⟨t, rfl, hT⟩ := dp_kind dk
      have hT : SqT K F' t [.str kd, .str pt] := hT
      replace w := w.push (imT K t [.str kd, .str pt]) hT
      have hko2 := hko.2 (kd, pt) (List.mem_of_getElem? hkp)
      have hdr : ks.drop i = (kd, pt) :: ks.drop (i + 1) := by
        obtain ⟨hj, e⟩ := List.getElem?_eq_some_iff.mp hkp
        rw [List.drop_eq_getElem_cons hj, e]
      rw [hdr, wordsR] at hrw
      have hptl : pt.length ≤ 3 := hko2.2.2.2.1
      walk_at "go"
      refine w_ixL _ _ (by walk_at "sq") e0 ?_
      walk_at "go"
      by_cases hk : w0 = kd
      · refine w_iteT hk ?_
        walk_at "go"
        by_cases hpl : ws.length = pt.length
        · refine w_iteT (show (((V.str w0 :: ws.map V.str).length : Nat) : Int) = 1 + ((pt.length : Nat) : Int) by rw [el]; omega) ?_
          rw [if_pos ⟨by rw [hk]; rfl, by rw [List.length_cons]; omega⟩] at hrw
          have hrw : wordsR ks (w0 :: ws) = (partsR (cd pt) ws).map (GRow.mk kd) := hrw
          walk_at "go"
          refine n_lst w (szle (by show 1 ≤ 1000000; decide)) fun p1 F1 H1 w hp1 => ?_
          walk_at "go"
          refine n_forR (n := pt.length) w (fun j σ L => ∃ (gs : List GP) (y5 y6 y7 : Option V), σ = [some (.ref a), some (.ref ka), some (.str kd), some (.str pt), some (.ref p1), y5, y6, y7] ∧ gs.length = j ∧ partsR (cd pt) ws = (partsR ((cd pt).drop j) (ws.drop j)).map (gs ++ ·) ∧ L = [mu p1 (.lst (V.str kd :: gs.map GP.v)), imL K a ((w0 :: ws).map V.str), imL K ka kvs, dpa K kvs (ks.map kindD)]) ⟨[], _, _, _, rfl, rfl, by show _ = Option.map (fun x => x) _; rw [Option.map_id']; rfl, rfl⟩ (fun j σ L F' H' hj hp w => ?_) (fun σ L F' H' hp w => ?_)
          · obtain ⟨gs, y5, y6, y7, rfl, hgl, hpr, rfl⟩ := hp
            obtain ⟨c, hc⟩ : ∃ c, (cd pt)[j]? = some c := ⟨_, List.getElem?_eq_getElem (by rw [cd_len]; exact hj)⟩
            obtain ⟨v, hv⟩ : ∃ v, ws[j]? = some v := ⟨_, List.getElem?_eq_getElem (by omega)⟩
            obtain ⟨st1, st2⟩ := parts_step hc hv hpr
            have hvo := hok v (List.mem_cons_of_mem _ (List.mem_of_getElem? hv))
            have ev : atI ((w0 :: ws).map V.str) (1 + ((j : Nat) : Int)) = some (.str v) := by
              rw [show (1 : Int) + ((j : Nat) : Int) = ((j + 1 : Nat) : Int) by omega]
              refine atI_nat ?_
              rw [List.getElem?_map, List.getElem?_cons_succ, hv]
              rfl
            have ec : atI pt.cps.toList ((j : Nat) : Int) = some c := atI_nat hc
            walk_at "go"
            refine w_ixL _ _ (by walk_at "sq") ev ?_
            walk_at "go"
            refine w_ixS (c := c) (le1000 (by omega)) ec ?_
            walk_at "go"
            rcases hko2.2.2.2.2 c (List.mem_of_getElem? hc) with rfl | rfl
            · refine w_iteT sgn_nt.1 ?_
              walk_at "go"
              refine ⟨_, v, rfl, w.fh, hvo.1, hvo.2, fun F2 H2 w2 => ?_⟩
              replace w := w.cal .nil w2 (by walk_at "app")
              cases hn : isN v with
              | true =>
                rw [if_pos rfl]
                walk_at "go"
                refine w_ixS (c := 110) (le1000 (by omega)) ec ?_
                walk_at "go"
                refine w_iteF (fun z => nomatch z) ?_
                walk_at "go"
                refine w_ixS (c := 110) (le1000 (by omega)) ec ?_
                walk_at "go"
                refine w_ixS (c := 110) (le1000 (by omega)) ec ?_
                walk_at "go"
                refine n_app (p := p1) (xs := V.str kd :: gs.map GP.v) w (by walk_at "pick") (small_lt (by rw [List.length_cons, List.length_map]; omega)) fun H3 w => ?_
                walk_at "go"
                refine nx_mk w ⟨gs ++ [.i (nVl v)], _, _, _, rfl, by rw [List.length_append, hgl]; rfl, st1 _ (by unfold partR; rw [if_pos rfl, if_pos hn]), rfl⟩ ?_
                rw [List.map_append]
                walk_at "pk"
              | false =>
                rw [if_neg (by decide)]
                walk_at "go"
                refine w_ixS (c := 110) (le1000 (by omega)) ec ?_
                walk_at "go"
                refine q _ _ _ ((w.push (dat K .non (orD (wordsR ks (w0 :: ws)))) ?_).to (by walk_at "pick"))
                rw [hrw, st2 (by unfold partR; rw [if_pos rfl, hn]; rfl)]
                exact .non
            · walk_at "go"
              refine w_ixS (c := 116) (le1000 (by omega)) ec ?_
              walk_at "go"
              refine w_ixS (c := 116) (le1000 (by omega)) ec ?_
              walk_at "go"
              cases ht : isT v with
              | true =>
                have ht2 := of_decide_eq_true (show decide (1 ≤ v.length ∧ v.length ≤ 400) = true from ht)
                walk_at "go"
                refine w_iteT (show (0 : Int) < ((v.length : Nat) : Int) by omega) ?_
                walk_at "go"
                rw [decide_eq_true (show ((v.length : Nat) : Int) ≤ 400 by omega)]
                walk_at "go"
                refine w_ixS (c := 116) (le1000 (by omega)) ec ?_
                walk_at "go"
                refine n_app (p := p1) (xs := V.str kd :: gs.map GP.v) w (by walk_at "pick") (small_lt (by rw [List.length_cons, List.length_map]; omega)) fun H3 w => ?_
                walk_at "go"
                refine nx_mk w ⟨gs ++ [.s v], _, _, _, rfl, by rw [List.length_append, hgl]; rfl, st1 _ (by unfold partR; rw [if_neg (by decide), if_pos ht]), rfl⟩ ?_
                rw [List.map_append]
                walk_at "pk"
              | false =>
                have ht2 := of_decide_eq_false (show decide (1 ≤ v.length ∧ v.length ≤ 400) = false from ht)
                have fin : ∀ {H'' : Hp} {w' : W [] F H F' H'' [mu p1 (.lst (V.str kd :: gs.map GP.v)), imL K a ((w0 :: ws).map V.str), imL K ka kvs, dpa K kvs (ks.map kindD)]}, Q .non H'' := fun {H''} {w'} => by
                  refine q _ _ _ ((w'.push (dat K .non (orD (wordsR ks (w0 :: ws)))) ?_).to (by walk_at "pick"))
                  rw [hrw, st2 (by unfold partR; rw [if_neg (by decide), ht]; rfl)]
                  exact .non
                walk_at "go"
                by_cases hv1 : (0 : Int) < ((v.length : Nat) : Int)
                · refine w_iteT hv1 ?_
                  walk_at "go"
                  rw [decide_eq_false (show ¬ ((v.length : Nat) : Int) ≤ 400 by omega)]
                  walk_at "go"
                  exact fin (w' := w)
                · refine w_iteF hv1 ?_
                  walk_at "go"
                  exact fin (w' := w)
          · obtain ⟨gs, y5, y6, y7, rfl, hgl, hpr, rfl⟩ := hp
            rw [List.drop_of_length_le (by rw [cd_len]; exact Nat.le_refl _)] at hpr
            have hpr : partsR (cd pt) ws = some (gs ++ []) := hpr
            rw [List.append_nil] at hpr
            walk_at "go"
            refine n_tupOf (p := p1) w (by walk_at "sq") fun t9 F9 H9 w => ?_
            refine q _ _ _ ((w.push (dat K (.ref t9) (orD (wordsR ks (w0 :: ws)))) ?_).to (by walk_at "pick"))
            rw [hrw, hpr]
            exact .tup (sqT_of (w.i (fx t9 _) (by walk_at "mem"))) (.cons (.str kd) (dpa_gps gs))
        · refine w_iteF (show ¬ (((V.str w0 :: ws.map V.str).length : Nat) : Int) = 1 + ((pt.length : Nat) : Int) by rw [el]; omega) ?_
          rw [if_neg (fun z => hpl (by have := z.2; rw [List.length_cons] at this; omega))] at hrw
          walk_at "go"
          exact nx_mk w ⟨_, _, _, _, _, _, rfl, hrw, rfl⟩ (by walk_at "pk")
      · refine w_iteF hk ?_
        rw [if_neg (fun z => hk (Option.some.inj z.1))] at hrw
        walk_at "go"
        exact nx_mk w ⟨_, _, _, _, _, _, rfl, hrw, rfl⟩ (by walk_at "pk")
    obtain ⟨y2, y3, y4, y5, y6, y7, rfl, hrw, rfl⟩ := hp
    rw [List.drop_of_length_le (by rw [hkl]; exact Nat.le_refl _), wordsR] at hrw
    walk_at "go"
    refine q _ _ _ ((w.push (dat K .non (orD (wordsR ks (w0 :: ws)))) ?_).to (by walk_at "pick"))
    rw [hrw]
    exact .non
-- _law_lines_read
theorem ok_law_lines_read {f : Addr} {fd : FuncData} (F : FunD K "_law_lines_read" "_law_lines_read" (defArgs s_law_lines_read) (defBody s_law_lines_read) (defScope s_law_lines_read) [] [] f fd) (T : Txt K mg) (D_law_words_read : DO P w K mg base 2 "_law_words_read" ["words", "kinds"] [] (S2 (φlwords73 K))) : FnOk P w K mg base CX0 3 f fd ["text", "kinds"] (S2 (φllines73 K)) := by
  refine F.ok sc_law_lines_read (fun vs H Q E h => ?_) (fun cdv A outer s H vs Q E hr h => ?_)
  · exact S2.len h
  · match vs, h with
    | [v0, v1], h =>
    have hu := hu_of hr
    refine ⟨_, PSs.nox (pss_cons (ps_setLc (i := 2) (own := [("line", 3)]) (g := gName 3) rfl sc_law_lines_read.nd rfl rfl (sw_true rfl rfl rfl (by decide +kernel)) (pi_list (pe_splitG (pv 0) pe_str)) (blkOk_by (own := [("line", 3)]) (N := ["text", "kinds", "rows", "line"]) (sc := defScope s_law_lines_read) (by decide +kernel)) (fun _ _ _ _ _ => pg_name (i := 3) sc_law_lines_read.nd rfl (Or.inl rfl)) (fun _ _ _ _ _ => pts_nil) (fun _ _ _ _ _ => (pcall D_law_words_read hr (pa_cons (pe_splitG (pv 3) pe_str) (pa_cons (pv 1) pa_nil)))))
      (pss_one (ps_ret (pe_ifExp (pt_cmpR (opInQ (K := K) hr) pe_non (pv 2) (by rfl)) pe_non (pv 2))))), ?_⟩
    rw [show start ["text", "kinds", "rows", "line"] [v0, v1] = [some v0, some v1, none, none] from rfl]
    obtain ⟨F, s, ka, kvs, ks, rfl, rfl, hw, hP, hl, hK, hKD, hko, q1, q2⟩ := h
    have w := ((W.start (M := []) hw).push (dpa K kvs (ks.map kindD)) hKD).push (imL K ka kvs) hK
    obtain ⟨f1, f2, f3⟩ := lines_facts hP
    obtain ⟨ls, els⟩ : ∃ ls, ls = Txt.split s (Str.ofString "\n") := ⟨_, rfl⟩
    have ewo : wordsLs s = ls.map fun l => Txt.split l (Str.ofString " ") := by rw [els]; rfl
    rw [← els] at f1 f2 f3
    have lll := ltot_len ls
    have hokw : ∀ ws ∈ wordsLs s, ∀ v ∈ ws, okS v := fun ws hws v hv => by
      rw [ewo] at hws
      obtain ⟨l, hl, rfl⟩ := List.mem_map.mp hws
      exact ((words_facts (f3 l hl)).2.2 v hv).ok
    have gg : good (.list ((wordsLs s).map fun ws => orD (wordsR ks ws))) = true ∧ (PyData.list ((wordsLs s).map fun ws => orD (wordsR ks ws))).depth ≤ 2 := by
      constructor
      · refine good_list (by rw [List.length_map, ewo, List.length_map]; omega) fun d hd => ?_
        obtain ⟨ws, hws, rfl⟩ := List.mem_map.mp hd
        exact (orD_good fun r hr => words_ok hko.2 (hokw ws hws) hr).1
      · refine depth_list fun d hd => ?_
        obtain ⟨ws, hws, rfl⟩ := List.mem_map.mp hd
        exact (orD_good fun r hr => words_ok hko.2 (hokw ws hws) hr).2
    walk_at "go"
    refine n_split w (by omega) (by decide +kernel) fun p1 H1 w hp1 => ?_
    rw [← els] at w
    obtain ⟨F1, w⟩ := w.fzL (p := p1) (by walk_at "pick") hp1
    replace w := w.push (dpa K [] (((wordsLs s).take 0).map fun ws => orD (wordsR ks ws))) .nil
    refine n_il (xs := ls.map V.str) (sqL_same w.fh (sqL_of (w.i (fx p1 (.lst (ls.map V.str))) (by walk_at "mem")))) ?_
    refine n_lcL (ls.map V.str) w (fun j ys L => ys.length = j ∧ L = [dpa K ys (((wordsLs s).take j).map fun ws => orD (wordsR ks ws)), fx p1 (.lst (ls.map V.str)), imL K ka kvs, dpa K kvs (ks.map kindD)]) ⟨rfl, rfl⟩ (fun j ys L F' H' D hp w => ?_) (fun j x ys L F' H' D hx hp w hD => ?_) (fun D ys L F' H' hp w hD => ?_)
    · obtain ⟨hyl, rfl⟩ := hp
      walk_at "sq"
    · obtain ⟨hyl, rfl⟩ := hp
      obtain ⟨l, hl2, ex⟩ := mapS_at hx
      have ex : x = .str l := ex
      subst ex
      have hj := (List.getElem?_eq_some_iff.mp hl2).1
      have hlm := List.mem_of_getElem? hl2
      have hlt := ltot_mem hlm
      obtain ⟨g1, g2, g3⟩ := words_facts (f3 l hlm)
      have gl := ltot_len (Txt.split l (Str.ofString " "))
      obtain ⟨w0, ws, ews⟩ : ∃ w0 ws, Txt.split l (Str.ofString " ") = w0 :: ws := by
        cases e : Txt.split l (Str.ofString " ") with
        | nil => exact absurd e g1
        | cons w0 ws => exact ⟨w0, ws, rfl⟩
      rw [ews] at g2 g3 gl
      have hwj : (wordsLs s)[j]? = some (w0 :: ws) := by rw [ewo, List.getElem?_map, hl2, ← ews]; rfl
      walk_at "wp"
      walk_at "go"
      refine n_split (a := l) (b := Str.ofString " ") w (by omega) (by decide +kernel) fun p2 H2 w hp2 => ?_
      rw [ews] at w
      obtain ⟨F2, w⟩ := w.fzL (p := p2) (by walk_at "pick") hp2
      rw [List.length_cons] at gl
      walk_at "go"
      refine ⟨_, p2, ka, w0, ws, kvs, ks, rfl, rfl, w.fh, sqL_of (w.i (fx p2 (.lst ((w0 :: ws).map V.str))) (by walk_at "mem")), fun v hv => ⟨(g3 v hv).ok, by have := ltot_mem hv; omega⟩, by omega, w.imL (by walk_at "mem"), w.dpa (by walk_at "mem"), hko, fun v F2 H2 w2 => ?_⟩
      replace w := w.cal .nil w2 (by walk_at "app")
      replace w := w.push (dpa K (ys ++ [v]) (((wordsLs s).take (j + 1)).map fun ws => orD (wordsR ks ws))) (by
        rw [List.take_add_one, hwj, List.map_append]
        exact dpa_snoc (w.dpa (by walk_at "mem")) (w.dat (by walk_at "mem")))
      exact n_acc ys w ⟨by rw [List.length_append, hyl]; rfl, rfl⟩ (by walk_at "pk") (small_lt (by omega))
    obtain ⟨hyl, rfl⟩ := hp
    rw [List.take_of_length_le (by rw [ewo, List.length_map, List.length_map]; exact Nat.le_refl _)] at w
    walk_at "go"
    refine ⟨.none, (wordsLs s).map fun ws => orD (wordsR ks ws), .non, .lst (by walk_at "sq") (dpa_same w.fh _ _ (w.dpa (K := K) (xs := ys) (ds := (wordsLs s).map fun ws => orD (wordsR ks ws)) (by walk_at "mem"))), good_shaped rfl (by decide), good_shaped gg.1 (Nat.le_trans gg.2 (by decide)), ?_⟩
    rw [any_none]
    cases e : rowsR ks (wordsLs s) with
    | none =>
      walk_at "go"
      exact q2 e _ _ (w.to .nil)
    | some rs =>
      rw [show (some rs).isNone = false from rfl]
      walk_at "go"
      have em : ((wordsLs s).map fun ws => orD (wordsR ks ws)) = rs.map GRow.d := by
        have h9 := (rows_ok hko hokw e).2.2
        rw [show (fun ws => orD (wordsR ks ws)) = orD ∘ (fun ws => wordsR ks ws) from rfl, ← List.map_map, h9, List.map_map]
        rfl
      rw [em] at w
      exact q1 rs e D ys _ _ hD (w.to (by walk_at "pick"))
-- _law_kind
theorem ok_law_kind {f : Addr} {fd : FuncData} (F : FunD K "_law_kind" "_law_kind" (defArgs s_law_kind) (defBody s_law_kind) (defScope s_law_kind) [] [] f fd) (T : Txt K mg)  : FnOk P w K mg base CX0 1 f fd ["e"] (S1 (φkind72 K)) := by
  refine F.ok sc_law_kind (fun vs H Q E h => ?_) (fun cdv A outer s H vs Q E hr h => ?_)
  · exact S1.len h
  · match vs, h with
    | [v0], h =>
    have hu := hu_of hr
    refine ⟨_, PSs.nox (pss_cons (ps_set (i := 1) sc_law_kind.nd rfl (.inr rfl) (pe_lst (pa_cons pe_str (pa_cons pe_str (pa_cons pe_str (pa_cons pe_str (pa_cons pe_str (pa_cons pe_str (pa_cons pe_str (pa_cons pe_str (pa_cons pe_str (pa_cons pe_str pa_nil))))))))))))
      (pss_cons (ps_set (i := 2) sc_law_kind.nd rfl (.inr rfl) (pe_lst (pa_cons (pe_callB (clIsK (K := K)) (by rfl) T.b_isinstance (by decide +kernel) (pa_cons (pv 0) (pa_cons (C8.pe_gc (v := .ref (He.ga K "BadRow")) (by rfl) ⟨_, T.g_BadRow, rfl⟩) pa_nil))) (pa_cons (pe_callB (clIsK (K := K)) (by rfl) T.b_isinstance (by decide +kernel) (pa_cons (pv 0) (pa_cons (C8.pe_gc (v := .ref (He.ga K "BadSize")) (by rfl) ⟨_, T.g_BadSize, rfl⟩) pa_nil))) (pa_cons (pe_callB (clIsK (K := K)) (by rfl) T.b_isinstance (by decide +kernel) (pa_cons (pv 0) (pa_cons (C8.pe_gc (v := .ref (He.ga K "Busy")) (by rfl) ⟨_, T.g_Busy, rfl⟩) pa_nil))) (pa_cons (pe_callB (clIsK (K := K)) (by rfl) T.b_isinstance (by decide +kernel) (pa_cons (pv 0) (pa_cons (C8.pe_gc (v := .ref (He.ga K "NoSpare")) (by rfl) ⟨_, T.g_NoSpare, rfl⟩) pa_nil))) pa_nil))))))
      (pss_cons (ps_set (i := 2) sc_law_kind.nd rfl (.inr rfl) (pe_op op_cat (pv 2) (pe_lst (pa_cons (pe_callB (clIsK (K := K)) (by rfl) T.b_isinstance (by decide +kernel) (pa_cons (pv 0) (pa_cons (C8.pe_gc (v := .ref (He.ga K "NoText")) (by rfl) ⟨_, T.g_NoText, rfl⟩) pa_nil))) (pa_cons (pe_callB (clIsK (K := K)) (by rfl) T.b_isinstance (by decide +kernel) (pa_cons (pv 0) (pa_cons (C8.pe_gc (v := .ref (He.ga K "NoVersion")) (by rfl) ⟨_, T.g_NoVersion, rfl⟩) pa_nil))) (pa_cons (pe_callB (clIsK (K := K)) (by rfl) T.b_isinstance (by decide +kernel) (pa_cons (pv 0) (pa_cons (pe_bltn (v := .ty "ValueError") (by rfl) T.b_ValueError (by decide +kernel) rfl) pa_nil))) pa_nil))))))
      (pss_cons (ps_set (i := 2) sc_law_kind.nd rfl (.inr rfl) (pe_op op_cat (pv 2) (pe_lst (pa_cons (pe_callB (clIsK (K := K)) (by rfl) T.b_isinstance (by decide +kernel) (pa_cons (pv 0) (pa_cons (pe_bltn (v := .ty "LookupError") (by rfl) T.b_LookupError (by decide +kernel) rfl) pa_nil))) (pa_cons (pe_callB (clIsK (K := K)) (by rfl) T.b_isinstance (by decide +kernel) (pa_cons (pv 0) (pa_cons (pe_bltn (v := .ty "KeyError") (by rfl) T.b_KeyError (by decide +kernel) rfl) pa_nil))) (pa_cons (pe_callB (clIsK (K := K)) (by rfl) T.b_isinstance (by decide +kernel) (pa_cons (pv 0) (pa_cons (pe_bltn (v := .ty "RuntimeError") (by rfl) T.b_RuntimeError (by decide +kernel) rfl) pa_nil))) pa_nil))))))
      (pss_one (ps_ret (peJoin (K := K) pe_str (pe_lc (own := [("k", 3)]) (g := gName 3) rfl sc_law_kind.nd (pi_range1 rfl T.b_range (pa_cons pe_int pa_nil)) (blkOk_by (own := [("k", 3)]) (N := ["e", "names", "kinds", "k"]) (sc := defScope s_law_kind) (by decide +kernel)) (fun _ _ _ _ _ => pg_name (i := 3) sc_law_kind.nd rfl (Or.inl rfl)) (fun _ _ _ _ _ => pts_one (pt_val (pe_ix (ixL (K := K)) (pv 2) (pv 3) (fun _ _ => rfl)))) (fun _ _ _ _ _ => (pe_ix (ixL (K := K)) (pv 1) (pv 3) (fun _ _ => rfl))))))))))), ?_⟩
    rw [show start ["e", "names", "kinds", "k"] [v0] = [some v0, none, none, none] from rfl]
    obtain ⟨F, xa, C, d, rfl, hw, hx, kd, hC, q⟩ := h
    have w := (W.start (M := []) hw).push (fx xa (exk xa (.ref (He.ga K (Str.ofString C))) d)) hx
    rcases hC with rfl | rfl | rfl
    ·
      walk_at "go"
      refine n_lst w (szle (by simp)) fun p8 F1 H1 w hp8 => ?_
      walk_at "go"
      refine ⟨xa, _, d, _, _, false, rfl, by walk_at "at", (kd.same w.ff).same w.fh, T.y_NoText, .own _, T.q_0, ?_⟩
      walk_at "go"
      refine ⟨xa, _, d, _, _, false, rfl, by walk_at "at", (kd.same w.ff).same w.fh, T.y_NoText, .own _, T.q_1, ?_⟩
      walk_at "go"
      refine ⟨xa, _, d, _, _, false, rfl, by walk_at "at", (kd.same w.ff).same w.fh, T.y_NoText, .own _, T.q_2, ?_⟩
      walk_at "go"
      refine ⟨xa, _, d, _, _, false, rfl, by walk_at "at", (kd.same w.ff).same w.fh, T.y_NoText, .own _, T.q_3, ?_⟩
      walk_at "go"
      refine n_lst w (szle (by simp)) fun p1 F1 H1 w hp1 => ?_
      walk_at "go"
      refine ⟨xa, _, d, _, _, true, rfl, by walk_at "at", (kd.same w.ff).same w.fh, T.y_NoText, .own _, T.q_4, ?_⟩
      walk_at "go"
      refine ⟨xa, _, d, _, _, false, rfl, by walk_at "at", (kd.same w.ff).same w.fh, T.y_NoText, .own _, T.q_5, ?_⟩
      walk_at "go"
      refine ⟨xa, _, d, _, _, true, rfl, by walk_at "at", (kd.same w.ff).same w.fh, T.y_NoText, .ty _, T.q_6, ?_⟩
      walk_at "go"
      refine n_lst w (szle (by simp)) fun p2 F1 H1 w hp2 => ?_
      walk_at "go"
      refine n_cat (p := p1) (q := p2) w (by walk_at "at") (by walk_at "at") (szle (by simp)) fun p5 F1 H1 w hp5 => ?_
      walk_at "go"
      refine ⟨xa, _, d, _, _, false, rfl, by walk_at "at", (kd.same w.ff).same w.fh, T.y_NoText, .ty _, T.q_7, ?_⟩
      walk_at "go"
      refine ⟨xa, _, d, _, _, false, rfl, by walk_at "at", (kd.same w.ff).same w.fh, T.y_NoText, .ty _, T.q_8, ?_⟩
      walk_at "go"
      refine ⟨xa, _, d, _, _, false, rfl, by walk_at "at", (kd.same w.ff).same w.fh, T.y_NoText, .ty _, T.q_9, ?_⟩
      walk_at "go"
      refine n_lst w (szle (by simp)) fun p3 F1 H1 w hp3 => ?_
      walk_at "go"
      refine n_cat (p := p5) (q := p3) w (by walk_at "at") (by walk_at "at") (szle (by simp)) fun p6 F1 H1 w hp6 => ?_
      walk_at "go"
      replace w := w.to (D := [mu p8 (.lst [V.str (Str.ofString "BadRow"), V.str (Str.ofString "BadSize"), V.str (Str.ofString "Busy"), V.str (Str.ofString "NoSpare"), V.str (Str.ofString "NoText"), V.str (Str.ofString "NoVersion"), V.str (Str.ofString "value"), V.str (Str.ofString "lookup"), V.str (Str.ofString "key"), V.str (Str.ofString "runtime")]), mu p6 (.lst [V.bl false, V.bl false, V.bl false, V.bl false, V.bl true, V.bl false, V.bl true, V.bl false, V.bl false, V.bl false])]) (by walk_at "pick")
      refine n_lcR (n := 10) w (fun i ys L => ys = (pickY [Str.ofString "BadRow", Str.ofString "BadSize", Str.ofString "Busy", Str.ofString "NoSpare", Str.ofString "NoText", Str.ofString "NoVersion", Str.ofString "value", Str.ofString "lookup", Str.ofString "key", Str.ofString "runtime"] [false, false, false, false, true, false, true, false, false, false] i).map V.str ∧ L = [mu p8 (.lst [V.str (Str.ofString "BadRow"), V.str (Str.ofString "BadSize"), V.str (Str.ofString "Busy"), V.str (Str.ofString "NoSpare"), V.str (Str.ofString "NoText"), V.str (Str.ofString "NoVersion"), V.str (Str.ofString "value"), V.str (Str.ofString "lookup"), V.str (Str.ofString "key"), V.str (Str.ofString "runtime")]), mu p6 (.lst [V.bl false, V.bl false, V.bl false, V.bl false, V.bl true, V.bl false, V.bl true, V.bl false, V.bl false, V.bl false])]) ⟨rfl, rfl⟩ (fun i ys L F' H' D hi hp w hD => ?_) (fun D ys L F' H' hp w hD => ?_)
      · obtain ⟨rfl, rfl⟩ := hp
        have hwl : (pickY [Str.ofString "BadRow", Str.ofString "BadSize", Str.ofString "Busy", Str.ofString "NoSpare", Str.ofString "NoText", Str.ofString "NoVersion", Str.ofString "value", Str.ofString "lookup", Str.ofString "key", Str.ofString "runtime"] [false, false, false, false, true, false, true, false, false, false] i).length ≤ 10 := pickY_len
        obtain ⟨z, hz⟩ : ∃ z : Str, ([Str.ofString "BadRow", Str.ofString "BadSize", Str.ofString "Busy", Str.ofString "NoSpare", Str.ofString "NoText", Str.ofString "NoVersion", Str.ofString "value", Str.ofString "lookup", Str.ofString "key", Str.ofString "runtime"] : List Str)[i]? = some z := ⟨_, List.getElem?_eq_getElem hi⟩
        obtain ⟨bi, hb⟩ : ∃ bi, [false, false, false, false, true, false, true, false, false, false][i]? = some bi := ⟨_, List.getElem?_eq_getElem hi⟩
        have hx : [V.bl false, V.bl false, V.bl false, V.bl false, V.bl true, V.bl false, V.bl true, V.bl false, V.bl false, V.bl false][i]? = some (V.bl bi) := by
          rw [show [V.bl false, V.bl false, V.bl false, V.bl false, V.bl true, V.bl false, V.bl true, V.bl false, V.bl false, V.bl false] = [false, false, false, false, true, false, true, false, false, false].map V.bl from rfl, List.getElem?_map, hb]
          rfl
        have hn : [V.str (Str.ofString "BadRow"), V.str (Str.ofString "BadSize"), V.str (Str.ofString "Busy"), V.str (Str.ofString "NoSpare"), V.str (Str.ofString "NoText"), V.str (Str.ofString "NoVersion"), V.str (Str.ofString "value"), V.str (Str.ofString "lookup"), V.str (Str.ofString "key"), V.str (Str.ofString "runtime")][i]? = some (V.str z) := by
          rw [show [V.str (Str.ofString "BadRow"), V.str (Str.ofString "BadSize"), V.str (Str.ofString "Busy"), V.str (Str.ofString "NoSpare"), V.str (Str.ofString "NoText"), V.str (Str.ofString "NoVersion"), V.str (Str.ofString "value"), V.str (Str.ofString "lookup"), V.str (Str.ofString "key"), V.str (Str.ofString "runtime")] = ([Str.ofString "BadRow", Str.ofString "BadSize", Str.ofString "Busy", Str.ofString "NoSpare", Str.ofString "NoText", Str.ofString "NoVersion", Str.ofString "value", Str.ofString "lookup", Str.ofString "key", Str.ofString "runtime"] : List Str).map V.str from rfl, List.getElem?_map, hz]
          rfl
        walk_at "wp"
        walk_at "go"
        refine w_ixL _ _ (by walk_at "sq") (atI_nat hx) ?_
        walk_at "go"
        cases bi with
        | true =>
          walk_at "go"
          refine w_ixL _ _ (by walk_at "sq") (atI_nat hn) ?_
          exact n_acc _ w ⟨by rw [pickY_T hz hb, List.map_append]; rfl, rfl⟩ (by walk_at "pk") (small_lt (by rw [List.length_map]; omega))
        | false =>
          walk_at "go"
          exact ⟨_, _, _, ⟨by rw [pickY_F hz hb], rfl⟩, w.to (by walk_at "pick")⟩
      obtain ⟨rfl, rfl⟩ := hp
      have w := w.to (D := [mu D (.lst [V.str (Str.ofString "NoText"), V.str (Str.ofString "value")])]) (by walk_at "pick")
      walk_at "go"
      refine ⟨_, D, [Str.ofString "NoText", Str.ofString "value"], rfl, rfl, .inl (by walk_at "sq"), ?_, ?_⟩
      · decide +kernel
      rw [show Txt.join (Str.ofString " ") [Str.ofString "NoText", Str.ofString "value"] = Str.ofString "NoText value" by decide +kernel]
      exact q _ _ (w.to .nil)
    ·
      walk_at "go"
      refine n_lst w (szle (by simp)) fun p8 F1 H1 w hp8 => ?_
      walk_at "go"
      refine ⟨xa, _, d, _, _, false, rfl, by walk_at "at", (kd.same w.ff).same w.fh, T.y_BadSize, .own _, T.q_10, ?_⟩
      walk_at "go"
      refine ⟨xa, _, d, _, _, true, rfl, by walk_at "at", (kd.same w.ff).same w.fh, T.y_BadSize, .own _, T.q_11, ?_⟩
      walk_at "go"
      refine ⟨xa, _, d, _, _, false, rfl, by walk_at "at", (kd.same w.ff).same w.fh, T.y_BadSize, .own _, T.q_12, ?_⟩
      walk_at "go"
      refine ⟨xa, _, d, _, _, false, rfl, by walk_at "at", (kd.same w.ff).same w.fh, T.y_BadSize, .own _, T.q_13, ?_⟩
      walk_at "go"
      refine n_lst w (szle (by simp)) fun p1 F1 H1 w hp1 => ?_
      walk_at "go"
      refine ⟨xa, _, d, _, _, false, rfl, by walk_at "at", (kd.same w.ff).same w.fh, T.y_BadSize, .own _, T.q_14, ?_⟩
      walk_at "go"
      refine ⟨xa, _, d, _, _, false, rfl, by walk_at "at", (kd.same w.ff).same w.fh, T.y_BadSize, .own _, T.q_15, ?_⟩
      walk_at "go"
      refine ⟨xa, _, d, _, _, true, rfl, by walk_at "at", (kd.same w.ff).same w.fh, T.y_BadSize, .ty _, T.q_16, ?_⟩
      walk_at "go"
      refine n_lst w (szle (by simp)) fun p2 F1 H1 w hp2 => ?_
      walk_at "go"
      refine n_cat (p := p1) (q := p2) w (by walk_at "at") (by walk_at "at") (szle (by simp)) fun p5 F1 H1 w hp5 => ?_
      walk_at "go"
      refine ⟨xa, _, d, _, _, false, rfl, by walk_at "at", (kd.same w.ff).same w.fh, T.y_BadSize, .ty _, T.q_17, ?_⟩
      walk_at "go"
      refine ⟨xa, _, d, _, _, false, rfl, by walk_at "at", (kd.same w.ff).same w.fh, T.y_BadSize, .ty _, T.q_18, ?_⟩
      walk_at "go"
      refine ⟨xa, _, d, _, _, false, rfl, by walk_at "at", (kd.same w.ff).same w.fh, T.y_BadSize, .ty _, T.q_19, ?_⟩
      walk_at "go"
      refine n_lst w (szle (by simp)) fun p3 F1 H1 w hp3 => ?_
      walk_at "go"
      refine n_cat (p := p5) (q := p3) w (by walk_at "at") (by walk_at "at") (szle (by simp)) fun p6 F1 H1 w hp6 => ?_
      walk_at "go"
      replace w := w.to (D := [mu p8 (.lst [V.str (Str.ofString "BadRow"), V.str (Str.ofString "BadSize"), V.str (Str.ofString "Busy"), V.str (Str.ofString "NoSpare"), V.str (Str.ofString "NoText"), V.str (Str.ofString "NoVersion"), V.str (Str.ofString "value"), V.str (Str.ofString "lookup"), V.str (Str.ofString "key"), V.str (Str.ofString "runtime")]), mu p6 (.lst [V.bl false, V.bl true, V.bl false, V.bl false, V.bl false, V.bl false, V.bl true, V.bl false, V.bl false, V.bl false])]) (by walk_at "pick")
      refine n_lcR (n := 10) w (fun i ys L => ys = (pickY [Str.ofString "BadRow", Str.ofString "BadSize", Str.ofString "Busy", Str.ofString "NoSpare", Str.ofString "NoText", Str.ofString "NoVersion", Str.ofString "value", Str.ofString "lookup", Str.ofString "key", Str.ofString "runtime"] [false, true, false, false, false, false, true, false, false, false] i).map V.str ∧ L = [mu p8 (.lst [V.str (Str.ofString "BadRow"), V.str (Str.ofString "BadSize"), V.str (Str.ofString "Busy"), V.str (Str.ofString "NoSpare"), V.str (Str.ofString "NoText"), V.str (Str.ofString "NoVersion"), V.str (Str.ofString "value"), V.str (Str.ofString "lookup"), V.str (Str.ofString "key"), V.str (Str.ofString "runtime")]), mu p6 (.lst [V.bl false, V.bl true, V.bl false, V.bl false, V.bl false, V.bl false, V.bl true, V.bl false, V.bl false, V.bl false])]) ⟨rfl, rfl⟩ (fun i ys L F' H' D hi hp w hD => ?_) (fun D ys L F' H' hp w hD => ?_)
      · obtain ⟨rfl, rfl⟩ := hp
        have hwl : (pickY [Str.ofString "BadRow", Str.ofString "BadSize", Str.ofString "Busy", Str.ofString "NoSpare", Str.ofString "NoText", Str.ofString "NoVersion", Str.ofString "value", Str.ofString "lookup", Str.ofString "key", Str.ofString "runtime"] [false, true, false, false, false, false, true, false, false, false] i).length ≤ 10 := pickY_len
        obtain ⟨z, hz⟩ : ∃ z : Str, ([Str.ofString "BadRow", Str.ofString "BadSize", Str.ofString "Busy", Str.ofString "NoSpare", Str.ofString "NoText", Str.ofString "NoVersion", Str.ofString "value", Str.ofString "lookup", Str.ofString "key", Str.ofString "runtime"] : List Str)[i]? = some z := ⟨_, List.getElem?_eq_getElem hi⟩
        obtain ⟨bi, hb⟩ : ∃ bi, [false, true, false, false, false, false, true, false, false, false][i]? = some bi := ⟨_, List.getElem?_eq_getElem hi⟩
        have hx : [V.bl false, V.bl true, V.bl false, V.bl false, V.bl false, V.bl false, V.bl true, V.bl false, V.bl false, V.bl false][i]? = some (V.bl bi) := by
          rw [show [V.bl false, V.bl true, V.bl false, V.bl false, V.bl false, V.bl false, V.bl true, V.bl false, V.bl false, V.bl false] = [false, true, false, false, false, false, true, false, false, false].map V.bl from rfl, List.getElem?_map, hb]
          rfl
        have hn : [V.str (Str.ofString "BadRow"), V.str (Str.ofString "BadSize"), V.str (Str.ofString "Busy"), V.str (Str.ofString "NoSpare"), V.str (Str.ofString "NoText"), V.str (Str.ofString "NoVersion"), V.str (Str.ofString "value"), V.str (Str.ofString "lookup"), V.str (Str.ofString "key"), V.str (Str.ofString "runtime")][i]? = some (V.str z) := by
          rw [show [V.str (Str.ofString "BadRow"), V.str (Str.ofString "BadSize"), V.str (Str.ofString "Busy"), V.str (Str.ofString "NoSpare"), V.str (Str.ofString "NoText"), V.str (Str.ofString "NoVersion"), V.str (Str.ofString "value"), V.str (Str.ofString "lookup"), V.str (Str.ofString "key"), V.str (Str.ofString "runtime")] = ([Str.ofString "BadRow", Str.ofString "BadSize", Str.ofString "Busy", Str.ofString "NoSpare", Str.ofString "NoText", Str.ofString "NoVersion", Str.ofString "value", Str.ofString "lookup", Str.ofString "key", Str.ofString "runtime"] : List Str).map V.str from rfl, List.getElem?_map, hz]
          rfl
        walk_at "wp"
        walk_at "go"
        refine w_ixL _ _ (by walk_at "sq") (atI_nat hx) ?_
        walk_at "go"
        cases bi with
        | true =>
          walk_at "go"
          refine w_ixL _ _ (by walk_at "sq") (atI_nat hn) ?_
          exact n_acc _ w ⟨by rw [pickY_T hz hb, List.map_append]; rfl, rfl⟩ (by walk_at "pk") (small_lt (by rw [List.length_map]; omega))
        | false =>
          walk_at "go"
          exact ⟨_, _, _, ⟨by rw [pickY_F hz hb], rfl⟩, w.to (by walk_at "pick")⟩
      obtain ⟨rfl, rfl⟩ := hp
      have w := w.to (D := [mu D (.lst [V.str (Str.ofString "BadSize"), V.str (Str.ofString "value")])]) (by walk_at "pick")
      walk_at "go"
      refine ⟨_, D, [Str.ofString "BadSize", Str.ofString "value"], rfl, rfl, .inl (by walk_at "sq"), ?_, ?_⟩
      · decide +kernel
      rw [show Txt.join (Str.ofString " ") [Str.ofString "BadSize", Str.ofString "value"] = Str.ofString "BadSize value" by decide +kernel]
      exact q _ _ (w.to .nil)
    ·
      walk_at "go"
      refine n_lst w (szle (by simp)) fun p8 F1 H1 w hp8 => ?_
      walk_at "go"
      refine ⟨xa, _, d, _, _, true, rfl, by walk_at "at", (kd.same w.ff).same w.fh, T.y_BadRow, .own _, T.q_20, ?_⟩
      walk_at "go"
      refine ⟨xa, _, d, _, _, false, rfl, by walk_at "at", (kd.same w.ff).same w.fh, T.y_BadRow, .own _, T.q_21, ?_⟩
      walk_at "go"
      refine ⟨xa, _, d, _, _, false, rfl, by walk_at "at", (kd.same w.ff).same w.fh, T.y_BadRow, .own _, T.q_22, ?_⟩
      walk_at "go"
      refine ⟨xa, _, d, _, _, false, rfl, by walk_at "at", (kd.same w.ff).same w.fh, T.y_BadRow, .own _, T.q_23, ?_⟩
      walk_at "go"
      refine n_lst w (szle (by simp)) fun p1 F1 H1 w hp1 => ?_
      walk_at "go"
      refine ⟨xa, _, d, _, _, false, rfl, by walk_at "at", (kd.same w.ff).same w.fh, T.y_BadRow, .own _, T.q_24, ?_⟩
      walk_at "go"
      refine ⟨xa, _, d, _, _, false, rfl, by walk_at "at", (kd.same w.ff).same w.fh, T.y_BadRow, .own _, T.q_25, ?_⟩
      walk_at "go"
      refine ⟨xa, _, d, _, _, true, rfl, by walk_at "at", (kd.same w.ff).same w.fh, T.y_BadRow, .ty _, T.q_26, ?_⟩
      walk_at "go"
      refine n_lst w (szle (by simp)) fun p2 F1 H1 w hp2 => ?_
      walk_at "go"
      refine n_cat (p := p1) (q := p2) w (by walk_at "at") (by walk_at "at") (szle (by simp)) fun p5 F1 H1 w hp5 => ?_
      walk_at "go"
      refine ⟨xa, _, d, _, _, false, rfl, by walk_at "at", (kd.same w.ff).same w.fh, T.y_BadRow, .ty _, T.q_27, ?_⟩
      walk_at "go"
      refine ⟨xa, _, d, _, _, false, rfl, by walk_at "at", (kd.same w.ff).same w.fh, T.y_BadRow, .ty _, T.q_28, ?_⟩
      walk_at "go"
      refine ⟨xa, _, d, _, _, false, rfl, by walk_at "at", (kd.same w.ff).same w.fh, T.y_BadRow, .ty _, T.q_29, ?_⟩
      walk_at "go"
      refine n_lst w (szle (by simp)) fun p3 F1 H1 w hp3 => ?_
      walk_at "go"
      refine n_cat (p := p5) (q := p3) w (by walk_at "at") (by walk_at "at") (szle (by simp)) fun p6 F1 H1 w hp6 => ?_
      walk_at "go"
      replace w := w.to (D := [mu p8 (.lst [V.str (Str.ofString "BadRow"), V.str (Str.ofString "BadSize"), V.str (Str.ofString "Busy"), V.str (Str.ofString "NoSpare"), V.str (Str.ofString "NoText"), V.str (Str.ofString "NoVersion"), V.str (Str.ofString "value"), V.str (Str.ofString "lookup"), V.str (Str.ofString "key"), V.str (Str.ofString "runtime")]), mu p6 (.lst [V.bl true, V.bl false, V.bl false, V.bl false, V.bl false, V.bl false, V.bl true, V.bl false, V.bl false, V.bl false])]) (by walk_at "pick")
      refine n_lcR (n := 10) w (fun i ys L => ys = (pickY [Str.ofString "BadRow", Str.ofString "BadSize", Str.ofString "Busy", Str.ofString "NoSpare", Str.ofString "NoText", Str.ofString "NoVersion", Str.ofString "value", Str.ofString "lookup", Str.ofString "key", Str.ofString "runtime"] [true, false, false, false, false, false, true, false, false, false] i).map V.str ∧ L = [mu p8 (.lst [V.str (Str.ofString "BadRow"), V.str (Str.ofString "BadSize"), V.str (Str.ofString "Busy"), V.str (Str.ofString "NoSpare"), V.str (Str.ofString "NoText"), V.str (Str.ofString "NoVersion"), V.str (Str.ofString "value"), V.str (Str.ofString "lookup"), V.str (Str.ofString "key"), V.str (Str.ofString "runtime")]), mu p6 (.lst [V.bl true, V.bl false, V.bl false, V.bl false, V.bl false, V.bl false, V.bl true, V.bl false, V.bl false, V.bl false])]) ⟨rfl, rfl⟩ (fun i ys L F' H' D hi hp w hD => ?_) (fun D ys L F' H' hp w hD => ?_)
      · obtain ⟨rfl, rfl⟩ := hp
        have hwl : (pickY [Str.ofString "BadRow", Str.ofString "BadSize", Str.ofString "Busy", Str.ofString "NoSpare", Str.ofString "NoText", Str.ofString "NoVersion", Str.ofString "value", Str.ofString "lookup", Str.ofString "key", Str.ofString "runtime"] [true, false, false, false, false, false, true, false, false, false] i).length ≤ 10 := pickY_len
        obtain ⟨z, hz⟩ : ∃ z : Str, ([Str.ofString "BadRow", Str.ofString "BadSize", Str.ofString "Busy", Str.ofString "NoSpare", Str.ofString "NoText", Str.ofString "NoVersion", Str.ofString "value", Str.ofString "lookup", Str.ofString "key", Str.ofString "runtime"] : List Str)[i]? = some z := ⟨_, List.getElem?_eq_getElem hi⟩
        obtain ⟨bi, hb⟩ : ∃ bi, [true, false, false, false, false, false, true, false, false, false][i]? = some bi := ⟨_, List.getElem?_eq_getElem hi⟩
        have hx : [V.bl true, V.bl false, V.bl false, V.bl false, V.bl false, V.bl false, V.bl true, V.bl false, V.bl false, V.bl false][i]? = some (V.bl bi) := by
          rw [show [V.bl true, V.bl false, V.bl false, V.bl false, V.bl false, V.bl false, V.bl true, V.bl false, V.bl false, V.bl false] = [true, false, false, false, false, false, true, false, false, false].map V.bl from rfl, List.getElem?_map, hb]
          rfl
        have hn : [V.str (Str.ofString "BadRow"), V.str (Str.ofString "BadSize"), V.str (Str.ofString "Busy"), V.str (Str.ofString "NoSpare"), V.str (Str.ofString "NoText"), V.str (Str.ofString "NoVersion"), V.str (Str.ofString "value"), V.str (Str.ofString "lookup"), V.str (Str.ofString "key"), V.str (Str.ofString "runtime")][i]? = some (V.str z) := by
          rw [show [V.str (Str.ofString "BadRow"), V.str (Str.ofString "BadSize"), V.str (Str.ofString "Busy"), V.str (Str.ofString "NoSpare"), V.str (Str.ofString "NoText"), V.str (Str.ofString "NoVersion"), V.str (Str.ofString "value"), V.str (Str.ofString "lookup"), V.str (Str.ofString "key"), V.str (Str.ofString "runtime")] = ([Str.ofString "BadRow", Str.ofString "BadSize", Str.ofString "Busy", Str.ofString "NoSpare", Str.ofString "NoText", Str.ofString "NoVersion", Str.ofString "value", Str.ofString "lookup", Str.ofString "key", Str.ofString "runtime"] : List Str).map V.str from rfl, List.getElem?_map, hz]
          rfl
        walk_at "wp"
        walk_at "go"
        refine w_ixL _ _ (by walk_at "sq") (atI_nat hx) ?_
        walk_at "go"
        cases bi with
        | true =>
          walk_at "go"
          refine w_ixL _ _ (by walk_at "sq") (atI_nat hn) ?_
          exact n_acc _ w ⟨by rw [pickY_T hz hb, List.map_append]; rfl, rfl⟩ (by walk_at "pk") (small_lt (by rw [List.length_map]; omega))
        | false =>
          walk_at "go"
          exact ⟨_, _, _, ⟨by rw [pickY_F hz hb], rfl⟩, w.to (by walk_at "pick")⟩
      obtain ⟨rfl, rfl⟩ := hp
      have w := w.to (D := [mu D (.lst [V.str (Str.ofString "BadRow"), V.str (Str.ofString "value")])]) (by walk_at "pick")
      walk_at "go"
      refine ⟨_, D, [Str.ofString "BadRow", Str.ofString "value"], rfl, rfl, .inl (by walk_at "sq"), ?_, ?_⟩
      · decide +kernel
      rw [show Txt.join (Str.ofString " ") [Str.ofString "BadRow", Str.ofString "value"] = Str.ofString "BadRow value" by decide +kernel]
      exact q _ _ (w.to .nil)
-- _law_named
theorem ok_law_named {f : Addr} {fd : FuncData} (F : FunD K "_law_named" "_law_named" (defArgs s_law_named) (defBody s_law_named) (defScope s_law_named) [] [] f fd) (T : Txt K mg)  : FnOk P w K mg base CX0 1 f fd ["word"] (S1 (φnamed72 K)) := by
  refine F.ok sc_law_named (fun vs H Q E h => ?_) (fun cdv A outer s H vs Q E hr h => ?_)
  · exact S1.len h
  · match vs, h with
    | [v0], h =>
    have hu := hu_of hr
    refine ⟨_, PSs.nox (pss_cons (ps_if (pt_cmpR op_eq (pv 0) pe_str (nomark _)) (pss_one (ps_ret pe_str)) pss_nil)
      (pss_one (ps_ret (pe_op opAddS (pv 0) (pe_ifExp (pt_cmpR op_eq (pv 0) pe_str (nomark _)) pe_str pe_str))))), ?_⟩
    rw [show start ["word"] [v0] = [some v0] from rfl]
    obtain ⟨F, s, rfl, hw, h2, hl, q⟩ := h
    have w := W.start (M := []) hw
    walk_at "go"
    by_cases h1 : s = Str.ofString ""
    · rw [decide_eq_true h1]
      rw [if_pos h1] at q
      walk_at "go"
      exact q _ _ (w.to .nil)
    rw [decide_eq_false h1]
    rw [if_neg h1] at q
    walk_at "go"
    rw [decide_eq_false h2]
    walk_at "go"
    refine n_adds (szle (by have : (Str.ofString " value").length = 6 := by decide +kernel
                            omega)) ?_
    walk_at "go"
    exact q _ _ (w.to .nil)
-- _law_spoilt
theorem ok_law_spoilt {f : Addr} {fd : FuncData} (F : FunD K "_law_spoilt" "_law_spoilt" (defArgs s_law_spoilt) (defBody s_law_spoilt) (defScope s_law_spoilt) [] [] f fd) (T : Txt K mg) (D_law_draw : DO P w K mg base 2 "_law_draw" ["bag", "many"] [] (S2 (φdraw K))) (D_law_signs : DO P w K mg base 1 "_law_signs" [] [] (S0 φsigns)) : FnOk P w K mg base CX0 3 f fd ["bag", "text", "words"] (S3 (φspoilt73 K)) := by
  refine F.ok sc_law_spoilt (fun vs H Q E h => ?_) (fun cdv A outer s H vs Q E hr h => ?_)
  · exact S3.len h
  · match vs, h with
    | [v0, v1, v2], h =>
    have hu := hu_of hr
    refine ⟨_, PSs.nox (pss_cons (ps_set (i := 3) sc_law_spoilt.nd rfl (.inl rfl) (pcall D_law_draw hr (pa_cons (pv 0) (pa_cons pe_int pa_nil))))
      (pss_cons (ps_set (i := 4) sc_law_spoilt.nd rfl (.inl rfl) (pcall D_law_draw hr (pa_cons (pv 0) (pa_cons (pe_op op_add (pe_callB clLenS (by rfl) T.b_len (by decide +kernel) (pa_cons (pv 1) pa_nil)) pe_int) pa_nil))))
      (pss_cons (ps_set (i := 5) sc_law_spoilt.nd rfl (.inl rfl) (pe_op opAddS (pe_op opAddS (pcall0 D_law_signs hr) (pe_op opMulT pe_str pe_int)) pe_str))
      (pss_cons (ps_set (i := 6) sc_law_spoilt.nd rfl (.inl rfl) (pe_ix ix_str (pv 5) (pcall D_law_draw hr (pa_cons (pv 0) (pa_cons (pe_callB clLenS (by rfl) T.b_len (by decide +kernel) (pa_cons (pv 5) pa_nil)) pa_nil))) (fun _ _ => rfl)))
      (pss_cons (ps_if (pt_cmpR op_eq (pv 3) pe_int (nomark _)) (pss_one (ps_ret (pe_op opAddS (pe_op opAddS (pe_slice sl_str (pv 1) po_none (po_some (pv 4))) (pv 6)) (pe_slice sl_str (pv 1) (po_some (pv 4)) po_none)))) pss_nil)
      (pss_cons (ps_if (pt_cmpR op_eq (pv 3) pe_int (nomark _)) (pss_one (ps_ret (pe_op opAddS (pe_slice sl_str (pv 1) po_none (po_some (pv 4))) (pe_slice sl_str (pv 1) (po_some (pe_op op_add (pv 4) pe_int)) po_none)))) pss_nil)
      (pss_cons (ps_if (pt_cmpR op_eq (pv 3) pe_int (nomark _)) (pss_one (ps_ret (pe_op opAddS (pe_op opAddS (pe_slice sl_str (pv 1) po_none (po_some (pv 4))) (pv 6)) (pe_slice sl_str (pv 1) (po_some (pe_op op_add (pv 4) pe_int)) po_none)))) pss_nil)
      (pss_cons (ps_set (i := 7) sc_law_spoilt.nd rfl (.inl rfl) (pe_splitG (pv 1) pe_str))
      (pss_cons (ps_set (i := 8) sc_law_spoilt.nd rfl (.inl rfl) (pcall D_law_draw hr (pa_cons (pv 0) (pa_cons (pe_callB (clLenQ (K := K)) (by rfl) T.b_len (by decide +kernel) (pa_cons (pv 7) pa_nil)) pa_nil))))
      (pss_cons (ps_if (pt_cmpR op_eq (pv 3) pe_int (nomark _)) (pss_one (ps_ret (peJoin (K := K) pe_str (pe_op op_cat (pe_slice (slL (K := K)) (pv 7) po_none (po_some (pv 8))) (pe_slice (slL (K := K)) (pv 7) (po_some (pe_op op_add (pv 8) pe_int)) po_none))))) pss_nil)
      (pss_cons (ps_if (pt_cmpR op_eq (pv 3) pe_int (nomark _)) (pss_one (ps_ret (peJoin (K := K) pe_str (pe_op op_cat (pe_op op_cat (pe_slice (slL (K := K)) (pv 7) po_none (po_some (pv 8))) (pe_lst (pa_cons (pe_ix (ixL (K := K)) (pv 7) (pcall D_law_draw hr (pa_cons (pv 0) (pa_cons (pe_callB (clLenQ (K := K)) (by rfl) T.b_len (by decide +kernel) (pa_cons (pv 7) pa_nil)) pa_nil))) (fun _ _ => rfl)) pa_nil))) (pe_slice (slL (K := K)) (pv 7) (po_some (pv 8)) po_none))))) pss_nil)
      (pss_cons (ps_if (pt_cmpR op_eq (pv 3) pe_int (nomark _)) (pss_one (ps_ret (peJoin (K := K) pe_str (pe_op op_cat (pe_slice (slL (K := K)) (pv 7) (po_some (pv 8)) po_none) (pe_slice (slL (K := K)) (pv 7) po_none (po_some (pv 8))))))) pss_nil)
      (pss_cons (ps_set (i := 9) sc_law_spoilt.nd rfl (.inl rfl) (pe_splitG (pe_ix (ixL (K := K)) (pv 7) (pv 8) (fun _ _ => rfl)) pe_str))
      (pss_cons (ps_set (i := 10) sc_law_spoilt.nd rfl (.inl rfl) (pcall D_law_draw hr (pa_cons (pv 0) (pa_cons (pe_callB (clLenQ (K := K)) (by rfl) T.b_len (by decide +kernel) (pa_cons (pv 9) pa_nil)) pa_nil))))
      (pss_cons (ps_set (i := 11) sc_law_spoilt.nd rfl (.inl rfl) (pe_lst (pa_cons (pe_op opAddS (pe_ix (ixL (K := K)) (pv 9) (pv 10) (fun _ _ => rfl)) (pe_ix (ixL (K := K)) (pv 9) (pv 10) (fun _ _ => rfl))) (pa_cons (pe_op opAddS pe_str (pe_ix (ixL (K := K)) (pv 9) (pv 10) (fun _ _ => rfl))) (pa_cons (pe_op opAddS pe_str (pe_ix (ixL (K := K)) (pv 9) (pv 10) (fun _ _ => rfl))) (pa_cons (pe_op opAddS pe_str (pe_ix (ixL (K := K)) (pv 9) (pv 10) (fun _ _ => rfl))) (pa_cons (pe_op opAddS (pe_ix (ixL (K := K)) (pv 9) (pv 10) (fun _ _ => rfl)) pe_str) (pa_cons (pe_slice sl_str (pe_ix (ixL (K := K)) (pv 9) (pv 10) (fun _ _ => rfl)) (po_some pe_int) po_none) pa_nil))))))))
      (pss_cons (ps_set (i := 11) sc_law_spoilt.nd rfl (.inl rfl) (pe_op op_cat (pv 11) (pe_lst (pa_cons (pe_op opMulT pe_str pe_int) (pa_cons (pe_op opAddS pe_str (pe_op opMulT pe_str pe_int)) (pa_cons (pe_op opMulT pe_str pe_int) (pa_cons (pe_op opMulT pe_str pe_int) (pa_cons pe_str (pa_cons pe_str (pa_cons (pe_ix (ixL (K := K)) (pv 2) (pcall D_law_draw hr (pa_cons (pv 0) (pa_cons (pe_callB (clLenQ (K := K)) (by rfl) T.b_len (by decide +kernel) (pa_cons (pv 2) pa_nil)) pa_nil))) (fun _ _ => rfl)) (pa_cons (pe_op opMulT pe_str pe_int) pa_nil)))))))))))
      (pss_cons (ps_set (i := 11) sc_law_spoilt.nd rfl (.inl rfl) (pe_op op_cat (pv 11) (pe_lst (pa_cons (pe_op opMulT pe_str pe_int) (pa_cons pe_str (pa_cons (pe_upper (pe_ix (ixL (K := K)) (pv 9) (pv 10) (fun _ _ => rfl))) (pa_cons (pe_op opAddS (pe_ix (ixL (K := K)) (pv 9) (pv 10) (fun _ _ => rfl)) pe_str) pa_nil)))))))
      (C8.pss_cut (ps_if (pt_cmpR op_eq (pv 3) pe_int (nomark _)) (pss_one (ps_set (i := 9) sc_law_spoilt.nd rfl (.inl rfl) (pe_op op_cat (pe_slice (slL (K := K)) (pv 9) po_none (po_some (pv 10))) (pe_slice (slL (K := K)) (pv 9) (po_some (pe_op op_add (pv 10) pe_int)) po_none)))) (pss_one (ps_if (pt_cmpR op_eq (pv 3) pe_int (nomark _)) (pss_one (ps_set (i := 9) sc_law_spoilt.nd rfl (.inl rfl) (pe_op op_cat (pe_op op_cat (pe_slice (slL (K := K)) (pv 9) po_none (po_some (pv 10))) (pe_lst (pa_cons (pe_ix (ixL (K := K)) (pv 9) (pv 10) (fun _ _ => rfl)) pa_nil))) (pe_slice (slL (K := K)) (pv 9) (po_some (pv 10)) po_none)))) (pss_one (ps_set (i := 9) sc_law_spoilt.nd rfl (.inl rfl) (pe_op op_cat (pe_op op_cat (pe_slice (slL (K := K)) (pv 9) po_none (po_some (pv 10))) (pe_lst (pa_cons (pe_ix (ixL (K := K)) (pv 11) (pcall D_law_draw hr (pa_cons (pv 0) (pa_cons (pe_callB (clLenQ (K := K)) (by rfl) T.b_len (by decide +kernel) (pa_cons (pv 11) pa_nil)) pa_nil))) (fun _ _ => rfl)) pa_nil))) (pe_slice (slL (K := K)) (pv 9) (po_some (pe_op op_add (pv 10) pe_int)) po_none)))))))
      (pss_one (ps_ret (peJoin (K := K) pe_str (pe_op op_cat (pe_op op_cat (pe_slice (slL (K := K)) (pv 7) po_none (po_some (pv 8))) (pe_lst (pa_cons (peJoin (K := K) pe_str (pv 9)) pa_nil))) (pe_slice (slL (K := K)) (pv 7) (po_some (pe_op op_add (pv 8) pe_int)) po_none))))))))))))))))))))))), ?_⟩
    rw [show start ["bag", "text", "words", "way", "at", "signs", "sign", "lines", "k", "parts", "j", "some"] [v0, v1, v2] = [some v0, some v1, some v2, none, none, none, none, none, none, none, none, none] from rfl]
    obtain ⟨F, b, a, s, ws, rfl, rfl, rfl, s0, hWS, hwn, hwl, hws, hP, hl, q⟩ := h
    have w := (s0.w (M := [b])).push (imL K a (ws.map V.str)) hWS
    have wl0 : 0 < ws.length := List.length_pos_iff.mpr hwn
    obtain ⟨sl1, sl2, sl3, sl4, sl5, sl6, sl7, sl8, sl9⟩ := slit_len
    obtain ⟨sp1, sp2, sp3, sp4, sp5, sp6, sp7, sp8, sp9⟩ := slit_plain
    walk_at "go"
    refine n_draw w (by walk_at "pick") (by decide) (by decide) fun way F1 H1 w y0 y1 => ?_
    walk_at "go"
    refine n_draw w (by walk_at "pick") (by omega) (by omega) fun ati F1 H1 w a0 a1 => ?_
    obtain ⟨i, rfl⟩ : ∃ k : Nat, ati = (k : Int) := ⟨ati.toNat, by omega⟩
    walk_at "go"
    refine n_signs ?_
    walk_at "go"
    refine n_mulL (z := Str.ofString " \n") (l := 2) (n := 20) (by decide +kernel) rfl (by decide) (by decide) (by decide) (by decide) (plain_lit (by decide +kernel)) fun m0 hm0 pm0 => ?_
    refine n_adds (szle (by omega)) ?_
    walk_at "go"
    refine n_adds (szle (by rw [len_app]; omega)) ?_
    walk_at "go"
    obtain ⟨sg, esg⟩ : ∃ sg, sg = sig93 ++ m0 ++ Str.ofString "00-+" := ⟨_, rfl⟩
    have lsg : sg.length = 137 := by rw [esg, len_app, len_app]; omega
    have psg : plainT sg := by rw [esg]; exact plain_app (plain_app sp9 pm0) sp8
    rw [← esg]
    walk_at "go"
    refine n_draw w (by walk_at "pick") (by omega) (by omega) fun r F1 H1 w r0 r1 => ?_
    walk_at "go"
    refine w_ixLP psg (by omega) r0 r1 fun sn hsn psn => ?_
    walk_at "go"
    refine w_ite (fun h0 => ?_) (fun h0 => ?_)
    · walk_at "go"
      refine w_slS (szle (by omega)) ?_
      walk_at "go"
      refine n_adds (szle (by rw [len_to]; omega)) ?_
      walk_at "go"
      refine w_slS (szle (by omega)) ?_
      walk_at "go"
      refine n_adds (szle (by rw [len_app, len_to, R.len_from]; omega)) ?_
      exact q _ _ _ (w.to (by walk_at "pick")) (plain_app (plain_app (plain_to hP _) psn) (plain_from hP _)) (by rw [len_app, len_app, len_to, R.len_from]; omega)
    walk_at "go"
    refine w_ite (fun h1 => ?_) (fun h1 => ?_)
    · walk_at "go"
      refine w_slS (szle (by omega)) ?_
      walk_at "go"
      refine w_slS (szle (by omega)) ?_
      rw [show ((i : Nat) : Int) + 1 = ((i + 1 : Nat) : Int) from rfl]
      walk_at "go"
      refine n_adds (szle (by rw [len_to, R.len_from]; omega)) ?_
      exact q _ _ _ (w.to (by walk_at "pick")) (plain_app (plain_to hP _) (plain_from hP _)) (by rw [len_app, len_to, R.len_from]; omega)
    walk_at "go"
    refine w_ite (fun h2 => ?_) (fun h2 => ?_)
    · walk_at "go"
      refine w_slS (szle (by omega)) ?_
      walk_at "go"
      refine n_adds (szle (by rw [len_to]; omega)) ?_
      walk_at "go"
      refine w_slS (szle (by omega)) ?_
      rw [show ((i : Nat) : Int) + 1 = ((i + 1 : Nat) : Int) from rfl]
      walk_at "go"
      refine n_adds (szle (by rw [len_app, len_to, R.len_from]; omega)) ?_
      exact q _ _ _ (w.to (by walk_at "pick")) (plain_app (plain_app (plain_to hP _) psn) (plain_from hP _)) (by rw [len_app, len_app, len_to, R.len_from]; omega)
    obtain ⟨f1, f2, f3⟩ := lines_facts hP
    obtain ⟨ls, els⟩ : ∃ ls, ls = Txt.split s (Str.ofString "\n") := ⟨_, rfl⟩
    rw [← els] at f1 f2 f3
    have lll := ltot_len ls
    have lpos : 0 < ls.length := List.length_pos_iff.mpr f1
    walk_at "go"
    refine n_split w (by omega) (by decide +kernel) fun p1 H1 w hp1 => ?_
    rw [← els] at w
    obtain ⟨F1, w⟩ := w.fzL (p := p1) (by walk_at "pick") hp1
    have lme : (((ls.map V.str).length : Nat) : Int) = (ls.length : Int) := by rw [List.length_map]
    walk_at "go"
    refine n_draw w (by walk_at "pick") (by rw [lme]; omega) (by rw [lme]; omega) fun kk F1 H1 w k0 k1 => ?_
    obtain ⟨k, rfl⟩ : ∃ k : Nat, kk = (k : Int) := ⟨kk.toNat, by omega⟩
    have t1 := ltot_td ls k
    have t2 := ltot_take ls k
    have t3 := ltot_drop ls k
    have t4 := ltot_drop ls (k + 1)
    walk_at "go"
    refine w_ite (fun h3 => ?_) (fun h3 => ?_)
    · walk_at "go"
      refine n_slL w (by walk_at "sq") fun q1 F2 H2 w hq1 => ?_
      rw [show cutV (ls.map V.str) none (some ((k : Nat) : Int)) = (ls.take k).map V.str by rw [cut_to_V, List.map_take]] at w
      walk_at "go"
      refine n_slL w (by walk_at "sq") fun q2 F2 H2 w hq2 => ?_
      rw [show cutV (ls.map V.str) (some (((k : Nat) : Int) + 1)) none = (ls.drop (k + 1)).map V.str by rw [show ((k : Nat) : Int) + 1 = ((k + 1 : Nat) : Int) from rfl]; rw [cut_from_V, List.map_drop]] at w
      walk_at "go"
      refine n_cat (p := q1) (q := q2) w (by walk_at "at") (by walk_at "at") (szle (by simp only [List.length_append, List.length_map, List.length_take, List.length_drop, List.length_cons, List.length_nil]; omega)) fun q3 F4 H4 w hq3 => ?_
      rw [← List.map_append] at w
      walk_at "go"
      have hj := joinN_plain (ls := ls.take k ++ ls.drop (k + 1)) (plain_parts (plain_takeL f3 _) (plain_dropL f3 _))
      have ht : ltot (ls.take k ++ ls.drop (k + 1)) ≤ 300000 := by
        simp only [ltot_app, ltot_one]
        omega
      refine ⟨_, q3, ls.take k ++ ls.drop (k + 1), rfl, rfl, .inl (by walk_at "sq"), by have := ltot_sum (ls.take k ++ ls.drop (k + 1)); rw [slen_nl7]; omega, ?_⟩
      have hj2 : (Txt.join (Str.ofString "\n") (ls.take k ++ ls.drop (k + 1))).length ≤ ltot (ls.take k ++ ls.drop (k + 1)) := hj.2
      exact q _ _ _ (w.to (by walk_at "pick")) hj.1 (by omega)
    walk_at "go"
    refine w_ite (fun h4 => ?_) (fun h4 => ?_)
    · walk_at "go"
      refine n_slL w (by walk_at "sq") fun q1 F2 H2 w hq1 => ?_
      rw [show cutV (ls.map V.str) none (some ((k : Nat) : Int)) = (ls.take k).map V.str by rw [cut_to_V, List.map_take]] at w
      walk_at "go"
      refine n_draw w (by walk_at "pick") (by rw [lme]; omega) (by rw [lme]; omega) fun kx F1 H1 w kx0 kx1 => ?_
      walk_at "go"
      refine w_ixLW (P := plainT) f3 (by walk_at "sq") kx0 (by omega) fun lx hlx lxm => ?_
      have lxl := ltot_mem lxm
      walk_at "go"
      refine n_lst w (szle (by show 1 ≤ 1000000; decide)) fun q2 F2 H2 w hq2 => ?_
      walk_at "go"
      refine n_cat (p := q1) (q := q2) w (by walk_at "at") (by walk_at "at") (szle (by simp only [List.length_append, List.length_map, List.length_take, List.length_drop, List.length_cons, List.length_nil]; omega)) fun q3 F4 H4 w hq3 => ?_
      rw [show (ls.take k).map V.str ++ [V.str lx] = (ls.take k ++ [lx]).map V.str by rw [List.map_append]; rfl] at w
      walk_at "go"
      refine n_slL w (by walk_at "sq") fun q4 F2 H2 w hq4 => ?_
      rw [show cutV (ls.map V.str) (some (((k : Nat) : Int))) none = (ls.drop k).map V.str by rw [cut_from_V, List.map_drop]] at w
      walk_at "go"
      refine n_cat (p := q3) (q := q4) w (by walk_at "at") (by walk_at "at") (szle (by simp only [List.length_append, List.length_map, List.length_take, List.length_drop, List.length_cons, List.length_nil]; omega)) fun q5 F4 H4 w hq5 => ?_
      rw [← List.map_append] at w
      walk_at "go"
      have hj := joinN_plain (ls := ls.take k ++ [lx] ++ ls.drop k) (plain_parts (plain_parts (plain_takeL f3 _) (plain_oneL hlx)) (plain_dropL f3 _))
      have ht : ltot (ls.take k ++ [lx] ++ ls.drop k) ≤ 400000 := by
        simp only [ltot_app, ltot_one]
        omega
      refine ⟨_, q5, ls.take k ++ [lx] ++ ls.drop k, rfl, rfl, .inl (by walk_at "sq"), by have := ltot_sum (ls.take k ++ [lx] ++ ls.drop k); rw [slen_nl7]; omega, ?_⟩
      have hj2 : (Txt.join (Str.ofString "\n") (ls.take k ++ [lx] ++ ls.drop k)).length ≤ ltot (ls.take k ++ [lx] ++ ls.drop k) := hj.2
      exact q _ _ _ (w.to (by walk_at "pick")) hj.1 (by omega)
    walk_at "go"
    refine w_ite (fun h5 => ?_) (fun h5 => ?_)
    · walk_at "go"
      refine n_slL w (by walk_at "sq") fun q1 F2 H2 w hq1 => ?_
      rw [show cutV (ls.map V.str) (some (((k : Nat) : Int))) none = (ls.drop k).map V.str by rw [cut_from_V, List.map_drop]] at w
      walk_at "go"
      refine n_slL w (by walk_at "sq") fun q2 F2 H2 w hq2 => ?_
      rw [show cutV (ls.map V.str) none (some ((k : Nat) : Int)) = (ls.take k).map V.str by rw [cut_to_V, List.map_take]] at w
      walk_at "go"
      refine n_cat (p := q1) (q := q2) w (by walk_at "at") (by walk_at "at") (szle (by simp only [List.length_append, List.length_map, List.length_take, List.length_drop, List.length_cons, List.length_nil]; omega)) fun q3 F4 H4 w hq3 => ?_
      rw [← List.map_append] at w
      walk_at "go"
      have hj := joinN_plain (ls := ls.drop k ++ ls.take k) (plain_parts (plain_dropL f3 _) (plain_takeL f3 _))
      have ht : ltot (ls.drop k ++ ls.take k) ≤ 300000 := by
        simp only [ltot_app, ltot_one]
        omega
      refine ⟨_, q3, ls.drop k ++ ls.take k, rfl, rfl, .inl (by walk_at "sq"), by have := ltot_sum (ls.drop k ++ ls.take k); rw [slen_nl7]; omega, ?_⟩
      have hj2 : (Txt.join (Str.ofString "\n") (ls.drop k ++ ls.take k)).length ≤ ltot (ls.drop k ++ ls.take k) := hj.2
      exact q _ _ _ (w.to (by walk_at "pick")) hj.1 (by omega)
    walk_at "go"
    refine w_ixLW (P := plainT) f3 (by walk_at "sq") k0 (by omega) fun ln hln lnm => ?_
    have lnl := ltot_mem lnm
    obtain ⟨g1, g2, g3⟩ := words_facts hln
    obtain ⟨ps, eps⟩ : ∃ ps, ps = Txt.split ln (Str.ofString " ") := ⟨_, rfl⟩
    rw [← eps] at g1 g2 g3
    have pll := ltot_len ps
    have ppos : 0 < ps.length := List.length_pos_iff.mpr g1
    have hpsN : ∀ z ∈ ps, plainN 90000 z := fun z hz => ⟨g3 z hz, by have := ltot_mem hz; omega⟩
    walk_at "go"
    refine n_split w (by omega) (by decide +kernel) fun p2 H2 w hp2 => ?_
    rw [← eps] at w
    obtain ⟨F1, w⟩ := w.fzL (p := p2) (by walk_at "pick") hp2
    have pme : (((ps.map V.str).length : Nat) : Int) = (ps.length : Int) := by rw [List.length_map]
    walk_at "go"
    refine n_draw w (by walk_at "pick") (by rw [pme]; omega) (by rw [pme]; omega) fun jj F1 H1 w j0 j1 => ?_
    have j1 : jj < (ps.length : Int) := by omega
    walk_at "go"
    refine w_ixLW (P := plainN 90000) hpsN (by walk_at "sq") j0 j1 fun v1 hv1 _ => ?_
    walk_at "go"
    refine w_ixLW (P := plainN 90000) hpsN (by walk_at "sq") j0 j1 fun v2 hv2 _ => ?_
    walk_at "go"
    refine n_adds (szle (by have := hv1.2; have := hv2.2; omega)) ?_
    walk_at "go"
    refine w_ixLW (P := plainN 90000) hpsN (by walk_at "sq") j0 j1 fun v3 hv3 _ => ?_
    walk_at "go"
    refine n_adds (szle (by have := hv3.2; omega)) ?_
    walk_at "go"
    refine w_ixLW (P := plainN 90000) hpsN (by walk_at "sq") j0 j1 fun v4 hv4 _ => ?_
    walk_at "go"
    refine n_adds (szle (by have := hv4.2; omega)) ?_
    walk_at "go"
    refine w_ixLW (P := plainN 90000) hpsN (by walk_at "sq") j0 j1 fun v5 hv5 _ => ?_
    walk_at "go"
    refine n_adds (szle (by have := hv5.2; omega)) ?_
    walk_at "go"
    refine w_ixLW (P := plainN 90000) hpsN (by walk_at "sq") j0 j1 fun v6 hv6 _ => ?_
    walk_at "go"
    refine n_adds (szle (by have := hv6.2; omega)) ?_
    walk_at "go"
    refine w_ixLW (P := plainN 90000) hpsN (by walk_at "sq") j0 j1 fun v7 hv7 _ => ?_
    walk_at "go"
    refine w_slS (szle (by have := hv7.2; omega)) ?_
    walk_at "go"
    refine n_lst w (szle (by simp)) fun pS0 F2 H2 w hpS0 => ?_
    have hs1 : AllS (plainN 180001) [V.str (v1 ++ v2), V.str (Str.ofString "0" ++ v3), V.str (Str.ofString "-" ++ v4), V.str (Str.ofString "+" ++ v5), V.str (v6 ++ Str.ofString "_0"), V.str (cutS v7 (some ((1 : Nat) : Int)) none)] :=
      alls_cons ⟨plain_app hv1.1 hv2.1, by have := hv1.2; have := hv2.2; rw [len_app]; omega⟩ (alls_cons ⟨plain_app sp1 hv3.1, by have := hv3.2; rw [len_app]; omega⟩ (alls_cons ⟨plain_app sp2 hv4.1, by have := hv4.2; rw [len_app]; omega⟩ (alls_cons ⟨plain_app sp3 hv5.1, by have := hv5.2; rw [len_app]; omega⟩ (alls_cons ⟨plain_app hv6.1 sp4, by have := hv6.2; rw [len_app]; omega⟩ (alls_cons ⟨plain_from hv7.1 _, by have := hv7.2; rw [R.len_from]; omega⟩ alls_nil)))))
    walk_at "go"
    refine n_mulL (z := Str.ofString "1") (l := 1) (n := 60) (by decide +kernel) rfl (by decide) (by decide) (by decide) (by decide) (plain_lit (by decide +kernel)) fun m1 hm1 pm1 => ?_
    walk_at "go"
    refine n_mulL (z := Str.ofString "9") (l := 1) (n := 60) (by decide +kernel) rfl (by decide) (by decide) (by decide) (by decide) (plain_lit (by decide +kernel)) fun m2 hm2 pm2 => ?_
    refine n_adds (szle (by omega)) ?_
    walk_at "go"
    refine n_mulL (z := Str.ofString "1") (l := 1) (n := 61) (by decide +kernel) rfl (by decide) (by decide) (by decide) (by decide) (plain_lit (by decide +kernel)) fun m3 hm3 pm3 => ?_
    walk_at "go"
    refine n_mulL (z := Str.ofString "0") (l := 1) (n := 2) (by decide +kernel) rfl (by decide) (by decide) (by decide) (by decide) (plain_lit (by decide +kernel)) fun m4 hm4 pm4 => ?_
    walk_at "go"
    refine n_draw w (by walk_at "pick") (by rw [List.length_map]; omega) (by rw [List.length_map]; omega) fun wx F1 H1 w wx0 wx1 => ?_
    walk_at "go"
    refine w_ixLW (P := plainN 4) hws (by walk_at "sq") wx0 (by rw [List.length_map] at wx1; exact wx1) fun wv hwv _ => ?_
    walk_at "go"
    refine n_mulL (z := Str.ofString "a") (l := 1) (n := 400) (by decide +kernel) rfl (by decide) (by decide) (by decide) (by decide) (plain_lit (by decide +kernel)) fun m5 hm5 pm5 => ?_
    walk_at "go"
    refine n_lst w (szle (by simp)) fun pT0 F2 H2 w hpT0 => ?_
    have hs2 : AllS (plainN 180001) [V.str m1, V.str (Str.ofString "-" ++ m2), V.str m3, V.str m4, V.str (Str.ofString "-0"), V.str (Str.ofString "0"), V.str wv, V.str m5] :=
      alls_cons ⟨pm1, by omega⟩ (alls_cons ⟨plain_app sp2 pm2, by rw [len_app]; omega⟩ (alls_cons ⟨pm3, by omega⟩ (alls_cons ⟨pm4, by omega⟩ (alls_cons ⟨sp6, by omega⟩ (alls_cons ⟨sp1, by omega⟩ (alls_cons ⟨hwv.1, by have := hwv.2; omega⟩ (alls_cons ⟨pm5, by omega⟩ alls_nil)))))))
    walk_at "go"
    refine n_cat (p := pS0) (q := pT0) w (by walk_at "at") (by walk_at "at") (szle (by simp)) fun pS2 F4 H4 w hpS2 => ?_
    walk_at "go"
    refine n_mulL (z := Str.ofString "a") (l := 1) (n := 401) (by decide +kernel) rfl (by decide) (by decide) (by decide) (by decide) (plain_lit (by decide +kernel)) fun m6 hm6 pm6 => ?_
    walk_at "go"
    refine w_ixLW (P := plainN 90000) hpsN (by walk_at "sq") j0 j1 fun v8 hv8 _ => ?_
    walk_at "go"
    refine ⟨v8, rfl, rfl, by have := hv8.2; omega, ?_⟩
    walk_at "go"
    refine w_ixLW (P := plainN 90000) hpsN (by walk_at "sq") j0 j1 fun v9 hv9 _ => ?_
    walk_at "go"
    refine n_adds (szle (by have := hv9.2; omega)) ?_
    walk_at "go"
    refine n_lst w (szle (by simp)) fun pU0 F2 H2 w hpU0 => ?_
    have hs3 : AllS (plainN 180001) [V.str m6, V.str (Str.ofString ""), V.str (Txt.upper v8), V.str (v9 ++ Str.ofString ".")] :=
      alls_cons ⟨pm6, by omega⟩ (alls_cons ⟨sp7, by omega⟩ (alls_cons ⟨(plain_upper hv8.1).1, by have := hv8.2; rw [(plain_upper hv8.1).2]; omega⟩ (alls_cons ⟨plain_app hv9.1 sp5, by have := hv9.2; rw [len_app]; omega⟩ alls_nil)))
    walk_at "go"
    refine n_cat (p := pS2) (q := pU0) w (by walk_at "at") (by walk_at "at") (szle (by simp)) fun pS3 F4 H4 w hpS3 => ?_
    have hall := alls_app (alls_app hs1 hs2) hs3
    walk_at "go"
    refine n_cut w (fun σ L => ∃ (zs : List Str) (pz : Addr) (u0 u1 u2 u3 u4 u5 : Option V), σ = [some (.ref b), some (.str s), u0, u1, u2, u3, u4, some (.ref p1), some (.int (k : Nat)), some (.ref pz), u5, some (.ref pS3)] ∧ (∀ z ∈ zs, plainT z) ∧ ltot zs ≤ 600000 ∧ L = [fx pz (.lst (zs.map V.str)), fx p1 (.lst (ls.map V.str)), bag K b]) ?_ (fun σ L F' H' hp w => ?_)
    · obtain ⟨jn, rfl⟩ : ∃ k : Nat, jj = (k : Int) := ⟨jj.toNat, by omega⟩
      have u1 := ltot_td ps jn
      have u2 := ltot_take ps jn
      have u3 := ltot_drop ps jn
      have u4 := ltot_drop ps (jn + 1)
      walk_at "go"
      refine w_ite (fun h6 => ?_) (fun h6 => ?_)
      · walk_at "go"
        refine n_slL w (by walk_at "sq") fun q1 F2 H2 w hq1 => ?_
        rw [show cutV (ps.map V.str) none (some ((jn : Nat) : Int)) = (ps.take jn).map V.str by rw [cut_to_V, List.map_take]] at w
        walk_at "go"
        refine n_slL w (by walk_at "sq") fun q2 F2 H2 w hq2 => ?_
        rw [show cutV (ps.map V.str) (some (((jn : Nat) : Int) + 1)) none = (ps.drop (jn + 1)).map V.str by rw [show ((jn : Nat) : Int) + 1 = ((jn + 1 : Nat) : Int) from rfl]; rw [cut_from_V, List.map_drop]] at w
        walk_at "go"
        refine n_cat (p := q1) (q := q2) w (by walk_at "at") (by walk_at "at") (szle (by simp only [List.length_append, List.length_map, List.length_take, List.length_drop, List.length_cons, List.length_nil]; omega)) fun q3 F4 H4 w hq3 => ?_
        rw [← List.map_append] at w
        obtain ⟨F4, w⟩ := w.fzL (p := q3) (by walk_at "pick") hq3
        walk_at "go"
        have ht : ltot (ps.take jn ++ ps.drop (jn + 1)) ≤ 600000 := by
          simp only [ltot_app, ltot_one]
          omega
        exact nx_mk w ⟨ps.take jn ++ ps.drop (jn + 1), q3, _, _, _, _, _, _, rfl, plain_parts (plain_takeL g3 _) (plain_dropL g3 _), ht, rfl⟩ (by walk_at "pk")
      · walk_at "go"
        refine w_ite (fun h7 => ?_) (fun h7 => ?_)
        · walk_at "go"
          refine n_slL w (by walk_at "sq") fun q1 F2 H2 w hq1 => ?_
          rw [show cutV (ps.map V.str) none (some ((jn : Nat) : Int)) = (ps.take jn).map V.str by rw [cut_to_V, List.map_take]] at w
          walk_at "go"
          refine w_ixLW (P := plainN 90000) hpsN (by walk_at "sq") j0 j1 fun vx hvx _ => ?_
          walk_at "go"
          refine n_lst w (szle (by show 1 ≤ 1000000; decide)) fun q2 F2 H2 w hq2 => ?_
          walk_at "go"
          have vxl := hvx.2
          refine n_cat (p := q1) (q := q2) w (by walk_at "at") (by walk_at "at") (szle (by simp only [List.length_append, List.length_map, List.length_take, List.length_drop, List.length_cons, List.length_nil]; omega)) fun q3 F4 H4 w hq3 => ?_
          rw [show (ps.take jn).map V.str ++ [V.str vx] = (ps.take jn ++ [vx]).map V.str by rw [List.map_append]; rfl] at w
          walk_at "go"
          refine n_slL w (by walk_at "sq") fun q4 F2 H2 w hq4 => ?_
          rw [show cutV (ps.map V.str) (some (((jn : Nat) : Int))) none = (ps.drop jn).map V.str by rw [cut_from_V, List.map_drop]] at w
          walk_at "go"
          refine n_cat (p := q3) (q := q4) w (by walk_at "at") (by walk_at "at") (szle (by simp only [List.length_append, List.length_map, List.length_take, List.length_drop, List.length_cons, List.length_nil]; omega)) fun q5 F4 H4 w hq5 => ?_
          rw [← List.map_append] at w
          obtain ⟨F4, w⟩ := w.fzL (p := q5) (by walk_at "pick") hq5
          walk_at "go"
          have ht : ltot (ps.take jn ++ [vx] ++ ps.drop jn) ≤ 600000 := by
            simp only [ltot_app, ltot_one]
            omega
          exact nx_mk w ⟨ps.take jn ++ [vx] ++ ps.drop jn, q5, _, _, _, _, _, _, rfl, plain_parts (plain_parts (plain_takeL g3 _) (plain_oneL hvx.1)) (plain_dropL g3 _), ht, rfl⟩ (by walk_at "pk")
        · walk_at "go"
          refine n_slL w (by walk_at "sq") fun q1 F2 H2 w hq1 => ?_
          rw [show cutV (ps.map V.str) none (some ((jn : Nat) : Int)) = (ps.take jn).map V.str by rw [cut_to_V, List.map_take]] at w
          walk_at "go"
          refine n_draw w (by walk_at "pick") (by simp) (by simp) fun sx F1 H1 w sx0 sx1 => ?_
          walk_at "go"
          refine w_ixLA (P := plainN 180001) hall (by walk_at "sq") sx0 sx1 fun vx hvx => ?_
          walk_at "go"
          refine n_lst w (szle (by show 1 ≤ 1000000; decide)) fun q2 F2 H2 w hq2 => ?_
          walk_at "go"
          have vxl := hvx.2
          refine n_cat (p := q1) (q := q2) w (by walk_at "at") (by walk_at "at") (szle (by simp only [List.length_append, List.length_map, List.length_take, List.length_drop, List.length_cons, List.length_nil]; omega)) fun q3 F4 H4 w hq3 => ?_
          rw [show (ps.take jn).map V.str ++ [V.str vx] = (ps.take jn ++ [vx]).map V.str by rw [List.map_append]; rfl] at w
          walk_at "go"
          refine n_slL w (by walk_at "sq") fun q4 F2 H2 w hq4 => ?_
          rw [show cutV (ps.map V.str) (some (((jn : Nat) : Int) + 1)) none = (ps.drop (jn + 1)).map V.str by rw [show ((jn : Nat) : Int) + 1 = ((jn + 1 : Nat) : Int) from rfl]; rw [cut_from_V, List.map_drop]] at w
          walk_at "go"
          refine n_cat (p := q3) (q := q4) w (by walk_at "at") (by walk_at "at") (szle (by simp only [List.length_append, List.length_map, List.length_take, List.length_drop, List.length_cons, List.length_nil]; omega)) fun q5 F4 H4 w hq5 => ?_
          rw [← List.map_append] at w
          obtain ⟨F4, w⟩ := w.fzL (p := q5) (by walk_at "pick") hq5
          walk_at "go"
          have ht : ltot (ps.take jn ++ [vx] ++ ps.drop (jn + 1)) ≤ 600000 := by
            simp only [ltot_app, ltot_one]
            omega
          exact nx_mk w ⟨ps.take jn ++ [vx] ++ ps.drop (jn + 1), q5, _, _, _, _, _, _, rfl, plain_parts (plain_parts (plain_takeL g3 _) (plain_oneL hvx.1)) (plain_dropL g3 _), ht, rfl⟩ (by walk_at "pk")
    obtain ⟨zs, pz, u0, u1, u2, u3, u4, u5, rfl, hzs, hzt, rfl⟩ := hp
    have hjw := joinW_plain hzs
    walk_at "go"
    refine n_slL w (by walk_at "sq") fun q1 F2 H2 w hq1 => ?_
    rw [show cutV (ls.map V.str) none (some ((k : Nat) : Int)) = (ls.take k).map V.str by rw [cut_to_V, List.map_take]] at w
    walk_at "go"
    refine ⟨_, pz, zs, rfl, rfl, .inl (by walk_at "sq"), by have := ltot_sum zs; rw [slen_sp7]; omega, ?_⟩
    walk_at "go"
    refine n_lst w (szle (by show 1 ≤ 1000000; decide)) fun q2 F2 H2 w hq2 => ?_
    walk_at "go"
    refine n_cat (p := q1) (q := q2) w (by walk_at "at") (by walk_at "at") (szle (by simp only [List.length_append, List.length_map, List.length_take, List.length_drop, List.length_cons, List.length_nil]; omega)) fun q3 F4 H4 w hq3 => ?_
    rw [show (ls.take k).map V.str ++ [V.str (Txt.join (Str.ofString " ") zs)] = (ls.take k ++ [joinW zs]).map V.str by rw [List.map_append]; rfl] at w
    walk_at "go"
    refine n_slL w (by walk_at "sq") fun q4 F2 H2 w hq4 => ?_
    rw [show cutV (ls.map V.str) (some (((k : Nat) : Int) + 1)) none = (ls.drop (k + 1)).map V.str by rw [show ((k : Nat) : Int) + 1 = ((k + 1 : Nat) : Int) from rfl]; rw [cut_from_V, List.map_drop]] at w
    walk_at "go"
    refine n_cat (p := q3) (q := q4) w (by walk_at "at") (by walk_at "at") (szle (by simp only [List.length_append, List.length_map, List.length_take, List.length_drop, List.length_cons, List.length_nil]; omega)) fun q5 F4 H4 w hq5 => ?_
    rw [← List.map_append] at w
    walk_at "go"
    have hjl := hjw.2
    have hj := joinN_plain (ls := ls.take k ++ [joinW zs] ++ ls.drop (k + 1)) (plain_parts (plain_parts (plain_takeL f3 _) (plain_oneL hjw.1)) (plain_dropL f3 _))
    have ht : ltot (ls.take k ++ [joinW zs] ++ ls.drop (k + 1)) ≤ 880000 := by
      simp only [ltot_app, ltot_one]
      omega
    refine ⟨_, q5, ls.take k ++ [joinW zs] ++ ls.drop (k + 1), rfl, rfl, .inl (by walk_at "sq"), by have := ltot_sum (ls.take k ++ [joinW zs] ++ ls.drop (k + 1)); rw [slen_nl7]; omega, ?_⟩
    have hj2 : (Txt.join (Str.ofString "\n") (ls.take k ++ [joinW zs] ++ ls.drop (k + 1))).length ≤ ltot (ls.take k ++ [joinW zs] ++ ls.drop (k + 1)) := hj.2
    exact q _ _ _ (w.to (by walk_at "pick")) hj.1 (by omega)
-- _law_within
theorem ok_law_within {f : Addr} {fd : FuncData} (F : FunD K "_law_within" "_law_within" (defArgs s_law_within) (defBody s_law_within) (defScope s_law_within) [] [] f fd) (T : Txt K mg)  : FnOk P w K mg base CX0 1 f fd ["text"] (S1 (φwithin73 K)) := by
  refine F.ok sc_law_within (fun vs H Q E h => ?_) (fun cdv A outer s H vs Q E hr h => ?_)
  · exact S1.len h
  · match vs, h with
    | [v0], h =>
    have hu := hu_of hr
    refine ⟨_, PSs.nox (pss_cons (ps_set (i := 1) sc_law_within.nd rfl (.inl rfl) pe_int)
      (pss_cons (ps_for PassesOwn.never rfl (pi_str (pv 0)) (pg_name (i := 2) sc_law_within.nd rfl (.inl rfl)) (pss_cons (ps_set (i := 1) sc_law_within.nd rfl (.inl rfl) (pe_ifExp (pt_cmpR opInS (pv 2) pe_str (by rfl)) (pe_op op_add (pv 1) pe_int) pe_int))
      (pss_one (ps_if (pt_cmpR op_gt (pv 1) pe_int (nomark _)) (pss_one (ps_ret pe_bl)) pss_nil))))
      (pss_one (ps_ret (pe_cmpR op_le (pe_callB clLenS (by rfl) T.b_len (by decide +kernel) (pa_cons (pv 0) pa_nil)) pe_int (nomark _)))))), ?_⟩
    rw [show start ["text", "run", "sign"] [v0] = [some v0, none, none] from rfl]
    obtain ⟨F, s, rfl, hw, hl, q⟩ := h
    have w := W.start (M := []) hw
    walk_at "go"
    refine n_forS s w (fun i σ L => ∃ (r : Int) (y2 : Option V), σ = [some (.str s), some (.int r), y2] ∧ L = []) ⟨0, none, rfl, rfl⟩ (fun i σ L F' H' hi hp w => ?_) (fun σ L F' H' hp w => ?_)
    · obtain ⟨r, y2, rfl, rfl⟩ := hp
      walk_at "go"
      refine n_in ?_
      walk_at "go"
      have fin : ∀ r2 : Int, True := fun _ => trivial
      split
      · walk_at "go"
        refine w_ite (fun h0 => ?_) (fun h0 => ?_)
        · walk_at "go"
          exact q false _ _ (w.to .nil) (fun z => nomatch z)
        · walk_at "go"
          exact nx_mk w ⟨_, _, rfl, rfl⟩ (by walk_at "pk")
      · walk_at "go"
        exact nx_mk w ⟨_, _, rfl, rfl⟩ (by walk_at "pk")
    · obtain ⟨r, y2, rfl, rfl⟩ := hp
      walk_at "go"
      exact q _ _ _ (w.to .nil) (fun z => by have := of_decide_eq_true z; omega)
-- _law_row_fault
theorem ok_law_row_fault {f : Addr} {fd : FuncData} (F : FunD K "_law_row_fault" "_law_row_fault" (defArgs s_law_row_fault) (defBody s_law_row_fault) (defScope s_law_row_fault) [] [] f fd) (T : Txt K mg)  : FnOk P w K mg base CX0 1 f fd ["size", "rows"] (S2 (φfault72 K)) := by
  refine F.ok sc_law_row_fault (fun vs H Q E h => ?_) (fun cdv A outer s H vs Q E hr h => ?_)
  · exact S2.len h
  · match vs, h with
    | [v0, v1], h =>
    have hu := hu_of hr
    refine ⟨_, PSs.nox (pss_cons (ps_set (i := 2) sc_law_row_fault.nd rfl (.inl rfl) pe_int)
      (pss_cons (ps_for PassesOwn.never rfl (pi_range1 rfl T.b_range (pa_cons (pe_callB (clLenQ (K := K)) (by rfl) T.b_len (by decide +kernel) (pa_cons (pv 1) pa_nil)) pa_nil)) (pg_name (i := 3) sc_law_row_fault.nd rfl (.inl rfl)) (pss_cons (ps_set (i := 4) sc_law_row_fault.nd rfl (.inl rfl) (pe_ix (ixL (K := K)) (pv 1) (pv 3) (fun _ _ => rfl)))
      (C8.pss_cut (ps_if (pt_cmpR op_eq (pe_ix (ixT (K := K)) (pv 4) pe_int (fun _ _ => rfl)) pe_str (nomark _)) (pss_one (ps_set (i := 5) sc_law_row_fault.nd rfl (.inl rfl) (pe_callB clLenS (by rfl) T.b_len (by decide +kernel) (pa_cons (pe_ix (ixT (K := K)) (pv 4) pe_int (fun _ _ => rfl)) pa_nil)))) (pss_cons (ps_set (i := 6) sc_law_row_fault.nd rfl (.inl rfl) (pe_and (pe_cmpR op_ge (pe_ix (ixT (K := K)) (pv 4) pe_int (fun _ _ => rfl)) pe_int (nomark _)) (pe_and (pe_cmpR op_gt (pe_ix (ixT (K := K)) (pv 4) pe_int (fun _ _ => rfl)) pe_int (nomark _)) (pe_one (pe_cmpR op_le (pe_op op_add (pe_ix (ixT (K := K)) (pv 4) pe_int (fun _ _ => rfl)) (pe_ix (ixT (K := K)) (pv 4) pe_int (fun _ _ => rfl))) (pv 0) (nomark _))))))
      (pss_one (ps_set (i := 5) sc_law_row_fault.nd rfl (.inl rfl) (pe_ifExp (pt_val (pv 6)) (pe_ix (ixT (K := K)) (pv 4) pe_int (fun _ _ => rfl)) pe_int)))))
      (pss_cons (ps_set (i := 2) sc_law_row_fault.nd rfl (.inl rfl) (pe_op op_add (pv 2) (pv 5)))
      (pss_one (ps_if (PW.pt (pw_or (pt_cmpR op_eq (pv 5) pe_int (nomark _)) (pw_or1 (pt_cmpR op_gt (pv 2) pe_int (nomark _))))) (pss_one (ps_ret (pv 3))) pss_nil))))))
      (pss_one (ps_ret pe_non)))), ?_⟩
    rw [show start ["size", "rows", "many", "k", "row", "more", "good"] [v0, v1] = [some v0, some v1, none, none, none, none, none] from rfl]
    obtain ⟨F, a, vs, size, xs, rfl, rfl, hw, hS, hD, hl, hs, q⟩ := h
    have w := ((W.start (M := []) hw).push (dpa K vs (xs.map XRow.d)) hD).push (imL K a vs) hS
    have hvl : vs.length = xs.length := by rw [dpa_len hD, List.length_map]
    walk_at "go"
    refine n_forR (n := vs.length) w (fun i σ L => ∃ (m : Nat) (y3 y4 y5 y6 : Option V), σ = [some (.int size), some (.ref a), some (.int (m : Nat)), y3, y4, y5, y6] ∧ fxX size 0 0 xs = fxX size i m (xs.drop i) ∧ L = [imL K a vs, dpa K vs (xs.map XRow.d)]) ⟨0, none, none, none, none, rfl, by rw [List.drop_zero], rfl⟩ (fun i σ L F' H' hi hp w => ?_) (fun σ L F' H' hp w => ?_)
    · obtain ⟨m, y3, y4, y5, y6, rfl, hf, rfl⟩ := hp
      obtain ⟨r, hr⟩ : ∃ r, xs[i]? = some r := ⟨_, List.getElem?_eq_getElem (by omega)⟩
      obtain ⟨y, hy, dy⟩ := dpa_get (w.dpa (K := K) (xs := vs) (ds := xs.map XRow.d) (by walk_at "mem")) (show (xs.map XRow.d)[i]? = some r.d by rw [List.getElem?_map, hr]; rfl)
      have hrs := hs r (List.mem_of_getElem? hr)
      rw [drop_at hr] at hf
      walk_at "go"
      refine w_ixL _ _ (by walk_at "sq") (atI_nat hy) ?_
      walk_at "go"
      refine n_cut w (fun σ L => ∃ y6, σ = [some (.int size), some (.ref a), some (.int (m : Nat)), some (.int (i : Nat)), some y, some (.int ((XRow.gv size r : Nat))), y6] ∧ L = [imL K a vs, dpa K vs (xs.map XRow.d)]) ?_ (fun σ L F' H' hp w => ?_)
      · cases r with
        | put z =>
          obtain ⟨p, rfl, hT⟩ := dp_xput dy
          have hz : z.length ≤ 1000 := hrs.2
          have w := w.push (imT K p [.str (Str.ofString "put"), .str z]) hT
          walk_at "go"
          exact nx_mk w ⟨_, rfl, rfl⟩ (by walk_at "pk")
        | copy c n =>
          obtain ⟨p, rfl, hT⟩ := dp_xcopy dy
          have w := w.push (imT K p [.str (Str.ofString "copy"), .int c, .int n]) hT
          have bad : ¬ (0 ≤ c ∧ 0 < n ∧ c + n ≤ size) → XRow.gv size (.copy c n) = 0 := fun z => if_pos (by omega)
          walk_at "go"
          refine w_ite (fun h1 => ?_) (fun h1 => ?_)
          · walk_at "go"
            refine w_ite (fun h2 => ?_) (fun h2 => ?_)
            · walk_at "go"
              by_cases h3 : c + n ≤ size
              · rw [decide_eq_true h3]
                walk_at "go"
                refine nx_mk w ⟨some (.bl true), ?_, rfl⟩ (by walk_at "pk")
                rw [show XRow.gv size (.copy c n) = n.toNat from if_neg (by omega), show ((n.toNat : Nat) : Int) = n by omega]
              · rw [decide_eq_false h3]
                walk_at "go"
                refine nx_mk w ⟨some (.bl false), ?_, rfl⟩ (by walk_at "pk")
                rw [bad (by omega)]
                rfl
            · walk_at "go"
              refine nx_mk w ⟨some (.bl false), ?_, rfl⟩ (by walk_at "pk")
              rw [bad (by omega)]
              rfl
          · walk_at "go"
            refine nx_mk w ⟨some (.bl false), ?_, rfl⟩ (by walk_at "pk")
            rw [bad (by omega)]
            rfl
      obtain ⟨y6, rfl, rfl⟩ := hp
      walk_at "go"
      refine w_ite (fun h3 => ?_) (fun h3 => ?_)
      · walk_at "go"
        rw [hf, show fxX size i m (r :: xs.drop (i + 1)) = some i from if_pos (.inl (by omega))] at q
        exact q _ _ (w.to .nil)
      walk_at "go"
      refine w_ite (fun h4 => ?_) (fun h4 => ?_)
      · walk_at "go"
        rw [hf, show fxX size i m (r :: xs.drop (i + 1)) = some i from if_pos (.inr (by omega))] at q
        exact q _ _ (w.to .nil)
      walk_at "go"
      exact nx_mk w ⟨m + r.gv size, _, _, _, _, rfl, hf.trans (fx_go (by omega)), rfl⟩ (by walk_at "pk")
    · obtain ⟨m, y3, y4, y5, y6, rfl, hf, rfl⟩ := hp
      rw [List.drop_eq_nil_of_le (by omega)] at hf
      walk_at "go"
      rw [hf] at q
      exact q _ _ (w.to .nil)
-- _law_due
theorem ok_law_due {f : Addr} {fd : FuncData} (F : FunD K "_law_due" "_law_due" (defArgs s_law_due) (defBody s_law_due) (defScope s_law_due) [] [] f fd) (T : Txt K mg) (D_law_lines_read : DO P w K mg base 3 "_law_lines_read" ["text", "kinds"] [] (S2 (φllines73 K))) (D_law_row_fault : DO P w K mg base 1 "_law_row_fault" ["size", "rows"] [] (S2 (φfault72 K))) : FnOk P w K mg base CX0 4 f fd ["text"] (S1 (φdue72 K)) := by
  refine F.ok sc_law_due (fun vs H Q E h => ?_) (fun cdv A outer s H vs Q E hr h => ?_)
  · exact S1.len h
  · match vs, h with
    | [v0], h =>
    have hu := hu_of hr
    refine ⟨_, PSs.nox (pss_cons (ps_set (i := 1) sc_law_due.nd rfl (.inl rfl) (pcall D_law_lines_read hr (pa_cons (pv 0) (pa_cons (pe_lst (pa_cons (pe_tup (pa_cons pe_str (pa_cons pe_str pa_nil))) (pa_cons (pe_tup (pa_cons pe_str (pa_cons pe_str pa_nil))) (pa_cons (pe_tup (pa_cons pe_str (pa_cons pe_str pa_nil))) pa_nil)))) pa_nil))))
      (pss_cons (ps_set (i := 2) sc_law_due.nd rfl (.inl rfl) (pe_ifExp (pt_cmp (pc_isN (pv 1)) (by rfl)) (pe_lst pa_nil) (pe_lc (own := [("row", 5)]) (g := gName 5) rfl sc_law_due.nd (pi_list (pv 1)) (blkOk_by (own := [("row", 5)]) (N := ["text", "rows", "heads", "size", "fault", "row"]) (sc := defScope s_law_due) (by decide +kernel)) (fun _ _ _ _ _ => pg_name (i := 5) sc_law_due.nd rfl (Or.inl rfl)) (fun _ _ _ _ _ => pts_nil) (fun _ _ _ _ _ => (pe_cmpR op_eq (pe_ix (ixT (K := K)) (pv 5) pe_int (fun _ _ => rfl)) pe_str (nomark _))))))
      (pss_cons (ps_if (PW.pt (pw_or (pt_cmp (pc_isN (pv 1)) (by rfl)) (pw_or1 (pt_cmpR (opNeD (K := K) hr.units) (pv 2) (pe_op op_cat (pe_lst (pa_cons pe_bl pa_nil)) (pe_op op_rep (pe_lst (pa_cons pe_bl pa_nil)) (pe_op op_sub (pe_callB (clLenQ (K := K)) (by rfl) T.b_len (by decide +kernel) (pa_cons (pv 1) pa_nil)) pe_int))) (nomark _))))) (pss_one (ps_ret (pe_tup (pa_cons pe_str (pa_cons pe_non (pa_cons pe_int (pa_cons (pe_lst pa_nil) pa_nil))))))) pss_nil)
      (pss_cons (ps_set (i := 3) sc_law_due.nd rfl (.inl rfl) (pe_ix (ixT (K := K)) (pe_ix (ixL (K := K)) (pv 1) pe_int (fun _ _ => rfl)) pe_int (fun _ _ => rfl)))
      (pss_cons (ps_if (PW.pt (pw_or (pt_cmpR op_lt (pv 3) pe_int (nomark _)) (pw_or1 (pt_cmpR op_gt (pv 3) pe_int (nomark _))))) (pss_one (ps_ret (pe_tup (pa_cons pe_str (pa_cons pe_non (pa_cons pe_int (pa_cons (pe_lst pa_nil) pa_nil))))))) pss_nil)
      (pss_cons (ps_set (i := 4) sc_law_due.nd rfl (.inl rfl) (pcall D_law_row_fault hr (pa_cons (pv 3) (pa_cons (pe_slice (slL (K := K)) (pv 1) (po_some pe_int) po_none) pa_nil))))
      (pss_cons (ps_if (pt_cmp (pc_notN (pv 4)) (by rfl)) (pss_one (ps_ret (pe_tup (pa_cons pe_str (pa_cons (pv 4) (pa_cons pe_int (pa_cons (pe_lst pa_nil) pa_nil))))))) pss_nil)
      (pss_one (ps_ret (pe_tup (pa_cons pe_str (pa_cons pe_non (pa_cons (pv 3) (pa_cons (pe_slice (slL (K := K)) (pv 1) (po_some pe_int) po_none) pa_nil)))))))))))))), ?_⟩
    rw [show start ["text", "rows", "heads", "size", "fault", "row"] [v0] = [some v0, none, none, none, none, none] from rfl]
    obtain ⟨F, s, rfl, hw, hP, hl, q1, q2, q3, q4⟩ := h
    have w := W.start (M := []) hw
    obtain ⟨f1, f2, f3⟩ := lines_facts hP
    have lll := ltot_len (Txt.split s (Str.ofString "\n"))
    have hokw : ∀ ws ∈ wordsLs s, ∀ v ∈ ws, okS v := fun ws hws v hv => by
      obtain ⟨l, hl, rfl⟩ := List.mem_map.mp (show ws ∈ (Txt.split s (Str.ofString "\n")).map fun l => Txt.split l (Str.ofString " ") from hws)
      exact ((words_facts (f3 l hl)).2.2 v hv).ok
    have lwl : (wordsLs s).length ≤ 90001 := by
      show ((Txt.split s (Str.ofString "\n")).map _).length ≤ _
      rw [List.length_map]
      omega
    have lwn : wordsLs s ≠ [] := fun z => f1 (List.map_eq_nil_iff.mp z)
    walk_at "go"
    refine n_tup w (szle (by simp)) fun t1 F3 H3 w => ?_
    walk_at "go"
    refine n_tup w (szle (by simp)) fun t2 F3 H3 w => ?_
    walk_at "go"
    refine n_tup w (szle (by simp)) fun t3 F3 H3 w => ?_
    walk_at "go"
    refine n_lst w (szle (by simp)) fun pk F4 H4 w hpk => ?_
    obtain ⟨F4, w⟩ := w.fzL (p := pk) (by walk_at "pick") hpk
    replace w := w.push (dpa K [.ref t1, .ref t2, .ref t3] (allK.map kindD)) (.cons (.tup (sqT_of (w.i (fx t1 _) (by walk_at "mem"))) (.cons (.str _) (.cons (.str _) .nil))) (.cons (.tup (sqT_of (w.i (fx t2 _) (by walk_at "mem"))) (.cons (.str _) (.cons (.str _) .nil))) (.cons (.tup (sqT_of (w.i (fx t3 _) (by walk_at "mem"))) (.cons (.str _) (.cons (.str _) .nil))) .nil)))
    walk_at "go"
    obtain ⟨lw, elw⟩ : ∃ lw, lw = wordsLs s := ⟨_, rfl⟩
    refine ⟨_, s, pk, _, allK, rfl, rfl, w.fh, hP, hl, sqL_of (w.i (fx pk (.lst [.ref t1, .ref t2, .ref t3])) (by walk_at "mem")), w.dpa (by walk_at "mem"), kinds_ok.1, fun rs9 hrs p vs F2 H2 hp w2 => ?_, fun hno F2 H2 w2 => ?_⟩
    rotate_left
    · rw [← elw] at hno q1 q2 q3 q4 lwn
      obtain ⟨h0, l0, rfl⟩ : ∃ h0 l0, lw = h0 :: l0 := by
        cases lw with
        | nil => exact absurd rfl lwn
        | cons a b => exact ⟨a, b, rfl⟩
      replace w := w.cal .nil w2 (by walk_at "app")
      walk_at "go"
      refine n_lst w (szle (by show 0 ≤ 1000000; decide)) fun pq F2 H2 w hpq => ?_
      walk_at "go"
      refine n_lst w (szle (by show 0 ≤ 1000000; decide)) fun pe F2 H2 w hpe => ?_
      walk_at "go"
      refine n_tup w (szle (by simp)) fun t F3 H3 w => ?_
      exact q1 (dueC_none hno) t pe _ _ (w.to (by walk_at "pick"))
    have hgood := rows_ok kinds_ok.1 hokw hrs
    rw [← elw] at hrs q1 q2 q3 q4 lwn lwl hgood hokw
    obtain ⟨h0, l0, rfl⟩ : ∃ h0 l0, lw = h0 :: l0 := by
      cases lw with
      | nil => exact absurd rfl lwn
      | cons a b => exact ⟨a, b, rfl⟩
    obtain ⟨r, rs, rfl⟩ : ∃ r rs, rs9 = r :: rs := by
      cases rs9 with
      | nil => have := hgood.2.1; simp at this
      | cons a b => exact ⟨a, b, rfl⟩
    have hp' := w.g.fresh hp
    replace w := w.cal .nil w2 (by walk_at "app")
    obtain ⟨F2, w⟩ := w.fzL (p := p) (by walk_at "pick") hp'
    replace w := w.to (D := [fx p (.lst vs), dpa K vs ((r :: rs).map GRow.d)]) (by walk_at "pick")
    have hvl : vs.length = rs.length + 1 := by rw [dpa_len (w.dpa (K := K) (xs := vs) (ds := (r :: rs).map GRow.d) (by walk_at "mem")), List.length_map, List.length_cons]
    have hrl : rs.length + 1 ≤ 90001 := by have := hgood.2.1; rw [List.length_cons] at this; omega
    walk_at "go"
    refine w_iteF (fun z => nomatch z) ?_
    walk_at "go"
    refine n_lcL vs w (fun j ys L => ys = (((r :: rs).take j).map GRow.isSz).map V.bl ∧ L = [fx p (.lst vs), dpa K vs ((r :: rs).map GRow.d)]) ⟨rfl, rfl⟩ (fun j ys L F' H' D hp w => ?_) (fun j x ys L F' H' D hx hp w hD => ?_) (fun D ys L F' H' hp w hD => ?_)
    · obtain ⟨rfl, rfl⟩ := hp
      walk_at "sq"
    · obtain ⟨rfl, rfl⟩ := hp
      obtain ⟨g, hg, dg2⟩ := dpa_at (w.dpa (K := K) (xs := vs) (ds := (r :: rs).map GRow.d) (by walk_at "mem")) hx
      have hj := (List.getElem?_eq_some_iff.mp hg).1
      rw [List.length_cons] at hj
      obtain ⟨pg, rfl, hT⟩ := dp_g dg2
      replace w := w.push (imT K pg g.vals) hT
      walk_at "wp"
      walk_at "go"
      refine w_ixT _ _ (by walk_at "st") (show atI g.vals ((0 : Nat) : Int) = some (.str g.w) from atI_nat rfl) ?_
      walk_at "go"
      exact n_acc _ w ⟨by rw [List.take_add_one, hg, List.map_append, List.map_append]; rfl, rfl⟩ (by walk_at "pk") (small_lt (by rw [List.length_map, List.length_map, List.length_take, List.length_cons]; omega))
    obtain ⟨rfl, rfl⟩ := hp
    rw [List.take_of_length_le (by rw [hvl]; exact Nat.le_refl _)] at w
    walk_at "go"
    refine w_iteF (fun z => nomatch z) ?_
    walk_at "go"
    refine n_lst w (szle (by show 1 ≤ 1000000; decide)) fun pa F2 H2 w hpa => ?_
    walk_at "go"
    refine n_lst w (szle (by show 1 ≤ 1000000; decide)) fun pb F2 H2 w hpb => ?_
    walk_at "go"
    refine n_rep (p := pb) w (by walk_at "at") (by omega) (by omega) (szle (by show 1 * _ ≤ 1000000; omega)) fun pc F2 H2 w hpc => ?_
    rw [show (List.replicate (((vs.length : Nat) : Int) - 1).toNat [V.bl false]).flatten = (List.replicate rs.length false).map V.bl by rw [show (((vs.length : Nat) : Int) - 1).toNat = rs.length by omega, flat_one, List.map_replicate]] at w
    walk_at "go"
    refine n_cat (p := pa) (q := pc) w (by walk_at "at") (by walk_at "at") (szle (by rw [List.length_map, List.length_replicate]; show 1 + _ ≤ _; omega)) fun pd F2 H2 w hpd => ?_
    rw [show [V.bl true] ++ (List.replicate rs.length false).map V.bl = (true :: List.replicate rs.length false).map V.bl from rfl] at w
    refine n_neBl (as := (r :: rs).map GRow.isSz) (bs := true :: List.replicate rs.length false) (by walk_at "sq") (by walk_at "sq") (by rw [List.length_map, List.length_cons]; omega) (by rw [List.length_cons, List.length_replicate]; omega) ?_
    walk_at "go"
    by_cases hh : (r :: rs).map GRow.isSz = true :: List.replicate rs.length false
    rotate_left
    · refine w_iteNT hh ?_
      walk_at "go"
      refine n_lst w (szle (by show 0 ≤ 1000000; decide)) fun pe F2 H2 w hpe => ?_
      walk_at "go"
      refine n_tup w (szle (by simp)) fun t F3 H3 w => ?_
      exact q1 (dueC_heads hrs hh) t pe _ _ (w.to (by walk_at "pick"))
    refine w_iteNF hh ?_
    obtain ⟨n, rfl, hsz, hrr⟩ := (heads_iff hrs).mp hh
    have hdue := dueC_yes hsz hrr
    obtain ⟨hxd, hxs⟩ := rowsK_x (fun v hv u hu => hokw v (List.mem_cons_of_mem _ hv) u hu) hrr
    obtain ⟨x0, hx0, dx0⟩ := dpa_get (w.dpa (K := K) (xs := vs) (ds := ((GRow.mk (Str.ofString "size") [.i n]) :: rs).map GRow.d) (by walk_at "mem")) (show (((GRow.mk (Str.ofString "size") [.i n]) :: rs).map GRow.d)[0]? = some (GRow.mk (Str.ofString "size") [.i n]).d from rfl)
    obtain ⟨p0, rfl, hT0⟩ := dp_g dx0
    replace w := w.push (imT K p0 [.str (Str.ofString "size"), .int n]) hT0
    walk_at "go"
    refine w_ixL _ _ (by walk_at "sq") (show atI vs ((0 : Nat) : Int) = some (.ref p0) from atI_nat hx0) ?_
    walk_at "go"
    by_cases hn : n < 0 ∨ 400 < n
    · have hb : dueC (h0 :: l0) = .size := by rw [hdue, show dueX n (rs.map xOf) = .size from if_pos hn]
      refine w_ite (fun h1 => ?_) (fun h1 => ?_)
      · walk_at "go"
        refine n_lst w (szle (by show 0 ≤ 1000000; decide)) fun pe F2 H2 w hpe => ?_
        walk_at "go"
        refine n_tup w (szle (by simp)) fun t F3 H3 w => ?_
        exact q2 hb t pe _ _ (w.to (by walk_at "pick"))
      walk_at "go"
      refine w_iteT (show 400 < n by omega) ?_
      walk_at "go"
      refine n_lst w (szle (by show 0 ≤ 1000000; decide)) fun pe F2 H2 w hpe => ?_
      walk_at "go"
      refine n_tup w (szle (by simp)) fun t F3 H3 w => ?_
      exact q2 hb t pe _ _ (w.to (by walk_at "pick"))
    refine w_iteF (show ¬ n < 0 by omega) ?_
    walk_at "go"
    refine w_iteF (show ¬ 400 < n by omega) ?_
    have hdx : dueX n (rs.map xOf) = match fxX n 0 0 (rs.map xOf) with
        | some k => .row k
        | none => .ok := if_neg hn
    have hd1 := dpa_dropN 1 (w.dpa (K := K) (xs := vs) (ds := ((GRow.mk (Str.ofString "size") [.i n]) :: rs).map GRow.d) (by walk_at "mem"))
    obtain ⟨zs, ezs⟩ : ∃ zs, zs = vs.drop 1 := ⟨_, rfl⟩
    rw [← ezs] at hd1
    replace w := w.push (dpa K zs (rs.map GRow.d)) hd1
    walk_at "go"
    refine n_slL w (by walk_at "sq") fun pz F3 H3 w hpz => ?_
    rw [show cutV vs (some 1) none = zs from (cut_from_V _ 1).trans ezs.symm] at w
    obtain ⟨F3, w⟩ := w.fzL (p := pz) (by walk_at "pick") hpz
    walk_at "go"
    refine ⟨_, pz, zs, n, rs.map xOf, rfl, rfl, w.fh, sqL_of (w.i (fx pz (.lst zs)) (by walk_at "mem")), by rw [← hxd]; exact w.dpa (by walk_at "mem"), by rw [List.length_map]; omega, hxs, fun F2 H2 w2 => ?_⟩
    replace w := w.cal .nil w2 (by walk_at "app")
    cases hfx : fxX n 0 0 (rs.map xOf) with
    | some k =>
      rw [hfx] at hdx
      rw [hdx] at hdue
      rw [show fltV (some k) = V.int (k : Nat) from rfl]
      walk_at "go"
      refine w_iteNT (fun z => nomatch z) ?_
      walk_at "go"
      refine n_lst w (szle (by show 0 ≤ 1000000; decide)) fun pe F2 H2 w hpe => ?_
      walk_at "go"
      refine n_tup w (szle (by simp)) fun t F3 H3 w => ?_
      exact q3 k hdue t pe _ _ (w.to (by walk_at "pick"))
    | none =>
      rw [hfx] at hdx
      rw [hdx] at hdue
      rw [show fltV none = V.non from rfl]
      walk_at "go"
      refine n_slL w (by walk_at "sq") fun py F3 H3 w hpy => ?_
      rw [show cutV vs (some 1) none = zs from (cut_from_V _ 1).trans ezs.symm] at w
      obtain ⟨F3, w⟩ := w.fzL (p := py) (by walk_at "pick") hpy
      walk_at "go"
      refine n_tup w (szle (by simp)) fun t F3 H3 w => ?_
      exact q4 n rs hdue t py zs _ _ (w.to (by walk_at "pick"))
-- _law_read
theorem ok_law_read {f : Addr} {fd : FuncData} (F : FunD K "_law_read" "_law_read" (defArgs s_law_read) (defBody s_law_read) (defScope s_law_read) [] [] f fd) (T : Txt K mg) (D_law_kind : DO P w K mg base 1 "_law_kind" ["e"] [] (S1 (φkind72 K))) (DXD_read_change_r_1 : DOXd P w K mg base 5 "read_change" ["text"] [] (SX1 (φrchX K))) : FnOk P w K mg base CX0 7 f fd ["text"] (S1 (φread72 K)) := by
  refine F.ok sc_law_read (fun vs H Q E h => ?_) (fun cdv A outer s H vs Q E hr h => ?_)
  · exact S1.len h
  · match vs, h with
    | [v0], h =>
    have hu := hu_of hr
    refine' ⟨_, PSs.nox (pss_cons (ps_set (i := 1) sc_law_read.nd rfl (.inl rfl) pe_non)
      (pss_cons (ps_set (i := 2) sc_law_read.nd rfl (.inl rfl) pe_non)
      (pss_cons (ps_set (i := 3) sc_law_read.nd rfl (.inl rfl) pe_non)
      (pss_cons (ps_keep rfl rfl sc_law_read.nd rfl takes0 ?tr1 (HdK.named (i := 4) (tst_one ⟨by rfl, by decide, .inl T.g_NoText⟩) rfl rfl (fun a oe cls d pn hz hf => (pss_one (ps_set (i := 2) sc_law_read.nd rfl (.inl rfl) (pv 4)))) (HdK.named (i := 4) (tst_one ⟨by rfl, by decide, .inl T.g_BadSize⟩) rfl rfl (fun a oe cls d pn hz hf => (pss_one (ps_set (i := 2) sc_law_read.nd rfl (.inl rfl) (pv 4)))) (HdK.named (i := 4) (tst_one ⟨by rfl, by decide, .inl T.x_BadRow.g⟩) rfl rfl (fun a oe cls d pn hz hf => (pss_cons (ps_set (i := 2) sc_law_read.nd rfl (.inl rfl) (pv 4))
      (pss_one (ps_set (i := 3) sc_law_read.nd rfl (.inl rfl) (pe_xff T.x_BadRow hz hf (pv 4)))))) HdK.nil))))
      (pss_one (ps_ret (pe_tup (pa_cons (pv 1) (pa_cons (pe_ifExp (pt_cmp (pc_isN (pv 2)) (by rfl)) pe_str (pcall D_law_kind hr (pa_cons (pv 2) pa_nil))) (pa_cons (pv 3) pa_nil)))))))))), ?_⟩
    case tr1 => exact fun _ _ _ tk => (pss_one (ps_set (i := 1) sc_law_read.nd rfl (.inl rfl) (pcallXd DXD_read_change_r_1 hr tk (pa_cons (pv 0) pa_nil))))
    rw [show start ["text", "found", "caught", "row", "e"] [v0] = [some v0, none, none, none, none] from rfl]
    obtain ⟨F, s, rfl, hw, hP, hl, q1, q2, q3, q4⟩ := h
    have w := W.start (M := []) hw
    walk_at "go"
    refine ⟨_, s, rfl, w.fh, hP, hl, fun n cs hdue v m rows F2 H2 w2 e1 hm e2 e3 hR => ?_, fun hno F2 H2 w2 => ?_, fun hsz F2 H2 w2 => ?_, fun k hk dd F2 H2 hdd w2 => ?_⟩
    · replace w := w.cal .nil w2 (by walk_at "app")
      walk_at "go"
      refine n_tup w (szle (by simp)) fun t F3 H3 w => ?_
      exact q4 n cs hdue t v m rows _ _ (w.to (by walk_at "pick")) e1 hm e3 hR
    · replace w := w.cal .nil w2 (by walk_at "app")
      refine w_clY T.m_0 fun xa hxa => ?_
      try dsimp only [List.set_cons_succ, List.set_cons_zero]
      walk_at "go"
      intro na
      try dsimp only [List.set_cons_succ, List.set_cons_zero]
      have hxf := w.g.fresh na
      replace w := w.nw (u := exk xa (.ref (He.ga K "NoText")) none) na
      walk_at "go"
      refine w_iteF (fun z => nomatch z) ?_
      walk_at "go"
      replace w := (w.fz (p := xa) (by walk_at "pick") hxf).push (fx xa (exk xa (.ref (He.ga K "NoText")) none)) upd_same
      refine ⟨_, xa, "NoText", none, rfl, w.fh, w.i (fx xa _) (by walk_at "mem"), .inl rfl, by simp, fun F7 H7 w7 => ?_⟩
      replace w := w.cal .nil w7 (by walk_at "app")
      walk_at "go"
      refine n_tup w (szle (by simp)) fun t F3 H3 w => ?_
      exact q1 hno t _ _ (w.to (by walk_at "pick"))
    · replace w := w.cal .nil w2 (by walk_at "app")
      refine w_clN T.m_1 ?_
      refine w_clY T.m_2 fun xa hxa => ?_
      try dsimp only [List.set_cons_succ, List.set_cons_zero]
      walk_at "go"
      intro na
      try dsimp only [List.set_cons_succ, List.set_cons_zero]
      have hxf := w.g.fresh na
      replace w := w.nw (u := exk xa (.ref (He.ga K "BadSize")) none) na
      walk_at "go"
      refine w_iteF (fun z => nomatch z) ?_
      walk_at "go"
      replace w := (w.fz (p := xa) (by walk_at "pick") hxf).push (fx xa (exk xa (.ref (He.ga K "BadSize")) none)) upd_same
      refine ⟨_, xa, "BadSize", none, rfl, w.fh, w.i (fx xa _) (by walk_at "mem"), .inl rfl, by simp, fun F7 H7 w7 => ?_⟩
      replace w := w.cal .nil w7 (by walk_at "app")
      walk_at "go"
      refine n_tup w (szle (by simp)) fun t F3 H3 w => ?_
      exact q2 hsz t _ _ (w.to (by walk_at "pick"))
    · replace w := w.cal .nil w2 (by walk_at "app")
      refine w_clN T.m_3 ?_
      refine w_clN T.m_4 ?_
      refine w_clY T.m_5 fun xa hxa => ?_
      try dsimp only [List.set_cons_succ, List.set_cons_zero]
      walk_at "go"
      refine n_xf (f := "row") (v := .int (k : Nat)) (by walk_at "at") (by rfl) ?_
      walk_at "go"
      intro na
      try dsimp only [List.set_cons_succ, List.set_cons_zero]
      have hxf := w.g.fresh na
      replace w := w.nw (u := exk xa (.ref (He.ga K "BadRow")) (some dd)) na
      walk_at "go"
      refine w_iteF (fun z => nomatch z) ?_
      walk_at "go"
      replace w := (w.fz (p := xa) (by walk_at "pick") hxf).push (fx xa (exk xa (.ref (He.ga K "BadRow")) (some dd))) upd_same
      refine ⟨_, xa, "BadRow", (some dd), rfl, w.fh, w.i (fx xa _) (by walk_at "mem"), .inr ⟨dd, _, rfl, w.i (fx dd _) (by walk_at "mem")⟩, by simp, fun F7 H7 w7 => ?_⟩
      replace w := w.cal .nil w7 (by walk_at "app")
      walk_at "go"
      refine n_tup w (szle (by simp)) fun t F3 H3 w => ?_
      exact q3 k hk t _ _ (w.to (by walk_at "pick"))
-- _law_right
theorem ok_law_right {f : Addr} {fd : FuncData} (F : FunD K "_law_right" "_law_right" (defArgs s_law_right) (defBody s_law_right) (defScope s_law_right) [] [] f fd) (T : Txt K mg) (D_law_alike : DO P w K mg base 6 "_law_alike" ["found", "due"] [] (S2 (φalike K 6))) (D_law_due : DO P w K mg base 4 "_law_due" ["text"] [] (S1 (φdue72 K))) (D_law_named : DO P w K mg base 1 "_law_named" ["word"] [] (S1 (φnamed72 K))) (D_law_read : DO P w K mg base 7 "_law_read" ["text"] [] (S1 (φread72 K))) (D_law_same : DO P w K mg base 10 "_law_same" ["found", "size", "rows"] [] (S3 (φsame K))) : FnOk P w K mg base CX0 11 f fd ["text"] (S1 (φright73 K)) := by
  refine F.ok sc_law_right (fun vs H Q E h => ?_) (fun cdv A outer s H vs Q E hr h => ?_)
  · exact S1.len h
  · match vs, h with
    | [v0], h =>
    have hu := hu_of hr
    refine ⟨_, PSs.nox (pss_cons (ps_asg (pcall D_law_due hr (pa_cons (pv 0) pa_nil)) (pg_tup (by rfl) (pgs_cons (pg_name (i := 1) sc_law_right.nd rfl (.inl rfl)) (pgs_cons (pg_name (i := 2) sc_law_right.nd rfl (.inl rfl)) (pgs_cons (pg_name (i := 3) sc_law_right.nd rfl (.inl rfl)) (pgs_cons (pg_name (i := 4) sc_law_right.nd rfl (.inl rfl)) pgs_nil))))))
      (pss_cons (ps_asg (pcall D_law_read hr (pa_cons (pv 0) pa_nil)) (pg_tup (by rfl) (pgs_cons (pg_name (i := 5) sc_law_right.nd rfl (.inl rfl)) (pgs_cons (pg_name (i := 6) sc_law_right.nd rfl (.inl rfl)) (pgs_cons (pg_name (i := 7) sc_law_right.nd rfl (.inl rfl)) pgs_nil)))))
      (pss_cons (ps_if (PW.pt (pw_or (pt_cmpR op_ne (pv 6) (pcall D_law_named hr (pa_cons (pv 1) pa_nil)) (nomark _)) (pw_or1 (pt_not (pt_val (pcall D_law_alike hr (pa_cons (pv 7) (pa_cons (pv 2) pa_nil)))))))) (pss_one (ps_ret pe_bl)) pss_nil)
      (pss_one (ps_ret (pe_ifExp (pt_cmpR op_ne (pv 1) pe_str (nomark _)) (pe_cmp (pc_isN (pv 5)) (by rfl)) (pcall D_law_same hr (pa_cons (pv 5) (pa_cons (pv 3) (pa_cons (pv 4) pa_nil)))))))))), ?_⟩
    rw [show start ["text", "word", "row", "size", "rows", "found", "told", "k"] [v0] = [some v0, none, none, none, none, none, none, none] from rfl]
    have kC := T.k_Change
    have kS := T.na_Change_size
    have kR := T.na_Change_rows
    
    obtain ⟨F, s, rfl, hw, hP, hl, q⟩ := h
    have w := W.start (M := []) hw
    walk_at "go"
    cases hd : dueC (wordsLs s) with
    | no =>
      refine ⟨_, s, rfl, w.fh, hP, hl, fun _ t p F2 H2 w2 => ?_, fun z => (nomatch hd.symm.trans z), fun k z => (nomatch hd.symm.trans z), fun n cs z => (nomatch hd.symm.trans z)⟩
      replace w := w.cal .nil w2 (by walk_at "app")
      walk_at "go"
      refine ⟨_, s, rfl, w.fh, hP, hl, fun _ t3 F2 H2 w2 => ?_, fun z => (nomatch hd.symm.trans z), fun k z => (nomatch hd.symm.trans z), fun n cs z => (nomatch hd.symm.trans z)⟩
      replace w := w.cal .nil w2 (by walk_at "app")
      walk_at "go"
      refine ⟨_, Str.ofString "NoText", rfl, w.fh, by decide +kernel, by decide +kernel, fun F2 H2 w2 => ?_⟩
      replace w := w.cal .nil w2 (by walk_at "app")
      rw [show (if Str.ofString "NoText" = Str.ofString "" then Str.ofString "" else Str.ofString "NoText" ++ Str.ofString " value") = Str.ofString "NoText value" by decide +kernel]
      walk_at "go"
      refine ⟨_, .none, w.fh, .non, .non, by show (0 : Nat) < 6; decide, rfl, fun F9 H9 g9 => ?_⟩
      replace w := w.gr0 g9
      walk_at "go"
      refine w_iteNT (by decide +kernel) ?_
      walk_at "go"
      exact q _ _ (by walk_at "w")
    | size =>
      refine ⟨_, s, rfl, w.fh, hP, hl, fun z => (nomatch hd.symm.trans z), fun _ t p F2 H2 w2 => ?_, fun k z => (nomatch hd.symm.trans z), fun n cs z => (nomatch hd.symm.trans z)⟩
      replace w := w.cal .nil w2 (by walk_at "app")
      walk_at "go"
      refine ⟨_, s, rfl, w.fh, hP, hl, fun z => (nomatch hd.symm.trans z), fun _ t3 F2 H2 w2 => ?_, fun k z => (nomatch hd.symm.trans z), fun n cs z => (nomatch hd.symm.trans z)⟩
      replace w := w.cal .nil w2 (by walk_at "app")
      walk_at "go"
      refine ⟨_, Str.ofString "BadSize", rfl, w.fh, by decide +kernel, by decide +kernel, fun F2 H2 w2 => ?_⟩
      replace w := w.cal .nil w2 (by walk_at "app")
      rw [show (if Str.ofString "BadSize" = Str.ofString "" then Str.ofString "" else Str.ofString "BadSize" ++ Str.ofString " value") = Str.ofString "BadSize value" by decide +kernel]
      walk_at "go"
      refine ⟨_, .none, w.fh, .non, .non, by show (0 : Nat) < 6; decide, rfl, fun F9 H9 g9 => ?_⟩
      replace w := w.gr0 g9
      walk_at "go"
      refine w_iteNT (by decide +kernel) ?_
      walk_at "go"
      exact q _ _ (by walk_at "w")
    | row k0 =>
      refine ⟨_, s, rfl, w.fh, hP, hl, fun z => (nomatch hd.symm.trans z), fun z => (nomatch hd.symm.trans z), fun k hk t p F2 H2 w2 => ?_, fun n cs z => (nomatch hd.symm.trans z)⟩
      cases hd.symm.trans hk
      replace w := w.cal .nil w2 (by walk_at "app")
      walk_at "go"
      refine ⟨_, s, rfl, w.fh, hP, hl, fun z => (nomatch hd.symm.trans z), fun z => (nomatch hd.symm.trans z), fun k hk2 t3 F2 H2 w2 => ?_, fun n cs z => (nomatch hd.symm.trans z)⟩
      cases hd.symm.trans hk2
      replace w := w.cal .nil w2 (by walk_at "app")
      walk_at "go"
      refine ⟨_, Str.ofString "BadRow", rfl, w.fh, by decide +kernel, by decide +kernel, fun F2 H2 w2 => ?_⟩
      replace w := w.cal .nil w2 (by walk_at "app")
      rw [show (if Str.ofString "BadRow" = Str.ofString "" then Str.ofString "" else Str.ofString "BadRow" ++ Str.ofString " value") = Str.ofString "BadRow value" by decide +kernel]
      walk_at "go"
      refine ⟨_, .int (k0 : Nat), w.fh, .int _, .int _, by show (0 : Nat) < 6; decide, rfl, fun F9 H9 g9 => ?_⟩
      replace w := w.gr0 g9
      walk_at "go"
      refine w_iteNT (by decide +kernel) ?_
      walk_at "go"
      exact q _ _ (by walk_at "w")
    | ok n0 cs0 =>
      refine ⟨_, s, rfl, w.fh, hP, hl, fun z => (nomatch hd.symm.trans z), fun z => (nomatch hd.symm.trans z), fun k z => (nomatch hd.symm.trans z), fun n cs hk t p vs F2 H2 w2 => ?_⟩
      cases hd.symm.trans hk
      replace w := w.cal .nil w2 (by walk_at "app")
      walk_at "go"
      refine ⟨_, s, rfl, w.fh, hP, hl, fun z => (nomatch hd.symm.trans z), fun z => (nomatch hd.symm.trans z), fun k z => (nomatch hd.symm.trans z), fun n cs hk2 t3 v m rows F2 H2 w2 e1 hm e3 hR => ?_⟩
      cases hd.symm.trans hk2
      replace w := w.cal .nil w2 (by walk_at "app")
      rw [e3] at w
      rw [e1] at w
      walk_at "go"
      refine ⟨_, Str.ofString "", rfl, w.fh, by decide +kernel, by decide +kernel, fun F2 H2 w2 => ?_⟩
      replace w := w.cal .nil w2 (by walk_at "app")
      rw [show (if Str.ofString "" = Str.ofString "" then Str.ofString "" else Str.ofString "" ++ Str.ofString " value") = Str.ofString "" by decide +kernel]
      walk_at "go"
      refine ⟨_, .none, w.fh, .non, .non, by show (0 : Nat) < 6; decide, rfl, fun F9 H9 g9 => ?_⟩
      replace w := w.gr0 g9
      walk_at "go"
      refine ⟨_, p, vs, m, rows, by rw [e1], rfl, w.fh, sqL_of (w.i (fx p (.lst vs)) (by walk_at "mem")), w.dpa (by walk_at "mem"), w.i (chg K v m rows) (by walk_at "mem"), hR, fun F9 H9 w9 => ?_⟩
      replace w := w.cal .nil w9 (by walk_at "app")
      walk_at "go"
      exact q _ _ (by walk_at "w")
-- law
theorem ok_law {f : Addr} {fd : FuncData} (F : FunD K "law" "law" (defArgs s_law) (defBody s_law) (defScope s_law) [] [] f fd) (T : Txt K mg) (D_law_bag : DO P w K mg base 1 "_law_bag" ["script"] [] (S1 (φbag K))) (D_law_change_written : DO P w K mg base 2 "_law_change_written" ["size", "rows"] [] (S2 (φcwrit71 K))) (D_law_draw : DO P w K mg base 2 "_law_draw" ["bag", "many"] [] (S2 (φdraw K))) (D_law_right : DO P w K mg base 11 "_law_right" ["text"] [] (S1 (φright73 K))) (D_law_rows : DO P w K mg base 5 "_law_rows" ["bag", "size", "many", "most"] [] (S4 (φrowsC K))) (D_law_size : DO P w K mg base 3 "_law_size" ["bag"] [] (S1 (φsize1 K))) (D_law_spoilt : DO P w K mg base 3 "_law_spoilt" ["bag", "text", "words"] [] (S3 (φspoilt73 K))) (D_law_within : DO P w K mg base 1 "_law_within" ["text"] [] (S1 (φwithin73 K))) : FnOk P w K mg base CX0 12 f fd ["script"] (S1 (φlaw K)) := by
  refine F.ok sc_law (fun vs H Q E h => ?_) (fun cdv A outer s H vs Q E hr h => ?_)
  · exact S1.len h
  · match vs, h with
    | [v0], h =>
    have hu := hu_of hr
    refine ⟨_, PSs.nox (pss_cons (ps_set (i := 1) sc_law.nd rfl (.inl rfl) (pcall D_law_bag hr (pa_cons (pv 0) pa_nil)))
      (pss_cons (ps_set (i := 2) sc_law.nd rfl (.inl rfl) (pcall D_law_draw hr (pa_cons (pv 1) (pa_cons pe_int pa_nil))))
      (pss_cons (ps_set (i := 3) sc_law.nd rfl (.inl rfl) (pcall D_law_size hr (pa_cons (pv 1) pa_nil)))
      (pss_cons (ps_set (i := 4) sc_law.nd rfl (.inl rfl) (pcall D_law_rows hr (pa_cons (pv 1) (pa_cons (pv 3) (pa_cons (pcall D_law_draw hr (pa_cons (pv 1) (pa_cons (pe_ix (ixL (K := K)) (pe_lst (pa_cons pe_int (pa_cons pe_int (pa_cons pe_int (pa_cons pe_int pa_nil))))) (pcall D_law_draw hr (pa_cons (pv 1) (pa_cons pe_int pa_nil))) (fun _ _ => rfl)) pa_nil))) (pa_cons pe_int pa_nil))))))
      (pss_cons (ps_set (i := 5) sc_law.nd rfl (.inl rfl) (pcall D_law_change_written hr (pa_cons (pv 3) (pa_cons (pv 4) pa_nil))))
      (pss_cons (ps_for PassesOwn.never rfl (pi_range1 rfl T.b_range (pa_cons (pe_op op_add (pv 2) pe_int) pa_nil)) (pg_name (i := 6) sc_law.nd rfl (.inl rfl)) (pss_cons (ps_if (pt_not (pt_val (pcall D_law_right hr (pa_cons (pv 5) pa_nil)))) (pss_one (ps_ret pe_bl)) pss_nil)
      (pss_cons (ps_set (i := 7) sc_law.nd rfl (.inl rfl) (pcall D_law_spoilt hr (pa_cons (pv 1) (pa_cons (pv 5) (pa_cons (pe_lst (pa_cons pe_str (pa_cons pe_str (pa_cons pe_str (pa_cons pe_str (pa_cons pe_str (pa_cons pe_str (pa_cons pe_str pa_nil)))))))) pa_nil)))))
      (pss_one (ps_set (i := 5) sc_law.nd rfl (.inl rfl) (pe_ifExp (pt_val (pcall D_law_within hr (pa_cons (pv 7) pa_nil))) (pv 7) (pv 5)))))))
      (pss_one (ps_ret (pcall D_law_right hr (pa_cons pe_str pa_nil)))))))))), ?_⟩
    rw [show start ["script", "bag", "spoils", "size", "rows", "text", "k", "more"] [v0] = [some v0, none, none, none, none, none, none, none] from rfl]
    have kC := T.k_Change
    have kS := T.na_Change_size
    have kR := T.na_Change_rows
    
    obtain ⟨sc, ns, rfl, hS, hl, q⟩ := h
    walk_at "go"
    refine ⟨sc, ns, rfl, hS, hl, fun b F1 H1 g1 hb => ?_⟩
    have w := W.bag0 g1 hb
    walk_at "go"
    refine n_draw w (by walk_at "pick") (by decide) (by decide) fun sp F1 H1 w y0 y1 => ?_
    obtain ⟨N, rfl⟩ : ∃ k : Nat, sp = (k : Int) := ⟨sp.toNat, by omega⟩
    walk_at "go"
    refine ⟨_, b, rfl, w.st (by walk_at "pick"), fun n F2 H2 w2 hn => ?_⟩
    replace w := w.calB (by walk_at "pick") w2 (by walk_at "app")
    walk_at "go"
    refine n_lst w (szle (by simp)) fun pl F3 H3 w hpl => ?_
    walk_at "go"
    refine n_draw w (by walk_at "pick") (by decide) (by decide) fun r F1 H1 w r0 r1 => ?_
    obtain ⟨my, ey, my0, my1⟩ := pick_ix (ns := [7, 7, 41, 401]) (lo := 7) (hi := 401) r0 r1 (by decide)
    walk_at "go"
    refine w_ixL _ _ (by walk_at "sq") ey ?_
    walk_at "go"
    refine n_draw w (by walk_at "pick") (by omega) (by omega) fun many F1 H1 w y0 y1 => ?_
    walk_at "go"
    refine ⟨_, b, n, many, 400, rfl, rfl, rfl, rfl, w.st (by walk_at "pick"), hn, by omega, by omega, by omega, by omega, fun p ys rows F2 H2 hp w2 hok hgm hrc => ?_⟩
    have hp' := w.g.fresh hp
    replace w := w.calB (by walk_at "pick") w2 (by walk_at "app")
    obtain ⟨F2, w⟩ := w.fzL (p := p) (by walk_at "pick") hp'
    walk_at "go"
    refine ⟨_, p, ys, n, rows, rfl, rfl, w.fh, sqL_of (w.i (fx p (.lst ys)) (by walk_at "mem")), w.dpa (by walk_at "mem"), hok, hn, fun t0 F6 H6 w6 ht0 => ?_⟩
    replace w := w.cal .nil w6 (by walk_at "app")
    have htg := writ_g ht0
    have hpl : plainT t0 := by
      rw [htg]
      refine (joinN_plain fun l hl => ?_).1
      obtain ⟨r, hr, rfl⟩ := List.mem_map.mp hl
      refine (joinW_plain fun v hv => ?_).1
      rcases List.mem_cons.mp hr with rfl | hr
      · exact clean_plain (GRow.cl (size_cln n) v hv)
      · obtain ⟨c, hc, rfl⟩ := List.mem_map.mp hr
        exact clean_plain (GRow.cl (crow_cln (hrc c hc)) v hv)
    have hgl : t0.length ≤ 90000 := Nat.le_trans (writ_ok hn hok ht0).2 (by decide)
    walk_at "go"
    refine n_forR (n := N + 1) w (fun i σ L => ∃ (t : Str) (y6 y7 : Option V), σ = [some (.ref sc), some (.ref b), some (.int (N : Nat)), some (.int (n : Nat)), some (.ref p), some (.str t), y6, y7] ∧ plainT t ∧ t.length ≤ 90000 ∧ L = [bag K b]) ⟨t0, none, none, rfl, hpl, hgl, rfl⟩ (fun i σ L F' H' hi hp w => ?_) (fun σ L F' H' hp w => ?_)
    · obtain ⟨t, y6, y7, rfl, hpt, htl, rfl⟩ := hp
      walk_at "go"
      refine ⟨_, t, rfl, w.fh, hpt, htl, fun F6 H6 w6 => ?_⟩
      replace w := w.cal .nil w6 (by walk_at "app")
      walk_at "go"
      refine n_lst w (szle (by simp)) fun pw F4 H4 w hpw => ?_
      obtain ⟨F4, w⟩ := w.fzL (p := pw) (by walk_at "pick") hpw
      walk_at "go"
      refine ⟨_, b, pw, t, [Str.ofString "size", Str.ofString "copy", Str.ofString "put", Str.ofString "keep", Str.ofString "lay", Str.ofString "puts", Str.ofString "co"], rfl, rfl, rfl, w.st (by walk_at "pick"), sqL_of (w.i (fx pw _) (by walk_at "mem")), by decide, by decide, fun v hv => ?_, hpt, htl, fun m F2 H2 w2 hm hml => ?_⟩
      · simp only [List.mem_cons, List.not_mem_nil, or_false] at hv
        rcases hv with rfl | rfl | rfl | rfl | rfl | rfl | rfl <;> exact ⟨clean_plain (by unfold clean; decide +kernel), by decide +kernel⟩
      replace w := w.calB (by walk_at "pick") w2 (by walk_at "app")
      walk_at "go"
      refine ⟨_, m, rfl, w.fh, hml, fun bb F6 H6 w6 hbb => ?_⟩
      replace w := w.cal .nil w6 (by walk_at "app")
      walk_at "go"
      cases bb with
      | true =>
        walk_at "go"
        exact nx_mk w ⟨_, _, _, rfl, hm, by have := hbb rfl; omega, rfl⟩ (by walk_at "pk")
      | false =>
        walk_at "go"
        exact nx_mk w ⟨_, _, _, rfl, hpt, htl, rfl⟩ (by walk_at "pk")
    · obtain ⟨t, y6, y7, rfl, hpt, htl, rfl⟩ := hp
      walk_at "go"
      refine ⟨_, Str.ofString "", rfl, w.fh, (fun c hc => by rw [cd_none] at hc; cases hc), by decide +kernel, fun F6 H6 w6 => ?_⟩
      exact q _
end
theorem facts {P : Program} {w : World} {K : PySem.W.Frag} {mg : Str → Option Value} {h : Heap} {f : Addr} (X : K.In h) (G : h.Ns mainGlobals mg) (hfa : mg ("law" : Str) = some (.ref f)) (c : He.SaysD fa fn K) (ex : exB K = true) :
    ∃ fd : FuncData, (∀ (s : Shared) (v : Value), BindsTo s fd ⟨[v], []⟩ [("script", v)]) ∧ ∀ base : Heap, K.In base → base.Ns mainGlobals mg → FnOk P w K mg base CX0 12 f fd ["script"] (S1 (φlaw K)) := by
  unfold exB at ex
  simp only [Bool.and_eq_true] at ex
  have T : Txt K mg := ⟨He.free_ok X G (c.fact 0 (f := .free "KeyError") rfl), He.free_ok X G (c.fact 1 (f := .free "LookupError") rfl), He.free_ok X G (c.fact 2 (f := .free "RuntimeError") rfl), He.free_ok X G (c.fact 3 (f := .free "ValueError") rfl), He.free_ok X G (c.fact 4 (f := .free "abs") rfl), He.free_ok X G (c.fact 5 (f := .free "all") rfl), He.free_ok X G (c.fact 6 (f := .free "bool") rfl), He.free_ok X G (c.fact 7 (f := .free "int") rfl), He.free_ok X G (c.fact 8 (f := .free "isinstance") rfl), He.free_ok X G (c.fact 9 (f := .free "len") rfl), He.free_ok X G (c.fact 10 (f := .free "list") rfl), He.free_ok X G (c.fact 11 (f := .free "min") rfl), He.free_ok X G (c.fact 12 (f := .free "range") rfl), He.free_ok X G (c.fact 13 (f := .free "str") rfl), He.free_ok X G (c.fact 14 (f := .free "tuple") rfl), He.int_ok X G (c.fact 15 (f := .int "MOST" 400) rfl), He.int_ok X G (c.fact 16 (f := .int "MOST_FIGURES" 60) rfl), He.str_ok X G (c.fact 17 (f := .str "FIGURES" (Str.ofString "0123456789")) rfl), He.int_ok X G (c.fact 18 (f := .int "MOST_SIGNS" 400) rfl), He.cls_ok (c.fact 51 (f := .cls "Change") rfl), He.noat_ok (c.fact 53 (f := .noat "Change" "size") rfl), He.noat_ok (c.fact 54 (f := .noat "Change" "rows") rfl), He.glo_ok X G (c.fact 50 (f := .glo "Change") rfl), insB_ok (He.cls_ok (c.fact 51 (f := .cls "Change") rfl)) ex.1, ec_ok (He.glo_ok X G (c.fact 55 (f := .glo "BadSize") rfl)) (He.exc_ok (c.fact 56 (f := .exc "BadSize") rfl)) (He.exm_ok (c.fact 57 (f := .exm "BadSize" "BadSize" true) rfl)), ec_ok (He.glo_ok X G (c.fact 58 (f := .glo "NoText") rfl)) (He.exc_ok (c.fact 59 (f := .exc "NoText") rfl)) (He.exm_ok (c.fact 60 (f := .exm "NoText" "NoText" true) rfl)), xfB_ok2 (He.glo_ok X G (c.fact 61 (f := .glo "BadRow") rfl)) ex.2.1, He.glo_ok X G (c.fact 61 (f := .glo "BadRow") rfl), He.glo_ok X G (c.fact 55 (f := .glo "BadSize") rfl), He.glo_ok X G (c.fact 62 (f := .glo "Busy") rfl), He.glo_ok X G (c.fact 63 (f := .glo "NoSpare") rfl), He.glo_ok X G (c.fact 58 (f := .glo "NoText") rfl), He.glo_ok X G (c.fact 64 (f := .glo "NoVersion") rfl), (excB_ok ex.2.2.1), (excB_ok ex.2.2.2.1), (excB_ok ex.2.2.2.2.1), (of_decide_eq_true ex.2.2.2.2.2.1), (of_decide_eq_true ex.2.2.2.2.2.2.1), (of_decide_eq_true ex.2.2.2.2.2.2.2.1), (of_decide_eq_true ex.2.2.2.2.2.2.2.2.1), (of_decide_eq_true ex.2.2.2.2.2.2.2.2.2.1), (of_decide_eq_true ex.2.2.2.2.2.2.2.2.2.2.1), (of_decide_eq_true ex.2.2.2.2.2.2.2.2.2.2.2.1), (of_decide_eq_true ex.2.2.2.2.2.2.2.2.2.2.2.2.1), (of_decide_eq_true ex.2.2.2.2.2.2.2.2.2.2.2.2.2.1), (of_decide_eq_true ex.2.2.2.2.2.2.2.2.2.2.2.2.2.2.1), (of_decide_eq_true ex.2.2.2.2.2.2.2.2.2.2.2.2.2.2.2.1), (of_decide_eq_true ex.2.2.2.2.2.2.2.2.2.2.2.2.2.2.2.2.1), (of_decide_eq_true ex.2.2.2.2.2.2.2.2.2.2.2.2.2.2.2.2.2.1), (of_decide_eq_true ex.2.2.2.2.2.2.2.2.2.2.2.2.2.2.2.2.2.2.1), (of_decide_eq_true ex.2.2.2.2.2.2.2.2.2.2.2.2.2.2.2.2.2.2.2.1), (of_decide_eq_true ex.2.2.2.2.2.2.2.2.2.2.2.2.2.2.2.2.2.2.2.2.1), (of_decide_eq_true ex.2.2.2.2.2.2.2.2.2.2.2.2.2.2.2.2.2.2.2.2.2.1), (of_decide_eq_true ex.2.2.2.2.2.2.2.2.2.2.2.2.2.2.2.2.2.2.2.2.2.2.1), (of_decide_eq_true ex.2.2.2.2.2.2.2.2.2.2.2.2.2.2.2.2.2.2.2.2.2.2.2.1), (of_decide_eq_true ex.2.2.2.2.2.2.2.2.2.2.2.2.2.2.2.2.2.2.2.2.2.2.2.2.1), (of_decide_eq_true ex.2.2.2.2.2.2.2.2.2.2.2.2.2.2.2.2.2.2.2.2.2.2.2.2.2.1), (of_decide_eq_true ex.2.2.2.2.2.2.2.2.2.2.2.2.2.2.2.2.2.2.2.2.2.2.2.2.2.2.1), (of_decide_eq_true ex.2.2.2.2.2.2.2.2.2.2.2.2.2.2.2.2.2.2.2.2.2.2.2.2.2.2.2.1), (of_decide_eq_true ex.2.2.2.2.2.2.2.2.2.2.2.2.2.2.2.2.2.2.2.2.2.2.2.2.2.2.2.2.1), (of_decide_eq_true ex.2.2.2.2.2.2.2.2.2.2.2.2.2.2.2.2.2.2.2.2.2.2.2.2.2.2.2.2.2.1), (of_decide_eq_true ex.2.2.2.2.2.2.2.2.2.2.2.2.2.2.2.2.2.2.2.2.2.2.2.2.2.2.2.2.2.2.1), (of_decide_eq_true ex.2.2.2.2.2.2.2.2.2.2.2.2.2.2.2.2.2.2.2.2.2.2.2.2.2.2.2.2.2.2.2.1), (of_decide_eq_true ex.2.2.2.2.2.2.2.2.2.2.2.2.2.2.2.2.2.2.2.2.2.2.2.2.2.2.2.2.2.2.2.2.1), (of_decide_eq_true ex.2.2.2.2.2.2.2.2.2.2.2.2.2.2.2.2.2.2.2.2.2.2.2.2.2.2.2.2.2.2.2.2.2.1), (of_decide_eq_true ex.2.2.2.2.2.2.2.2.2.2.2.2.2.2.2.2.2.2.2.2.2.2.2.2.2.2.2.2.2.2.2.2.2.2.1), (of_decide_eq_true ex.2.2.2.2.2.2.2.2.2.2.2.2.2.2.2.2.2.2.2.2.2.2.2.2.2.2.2.2.2.2.2.2.2.2.2.1), (of_decide_eq_true ex.2.2.2.2.2.2.2.2.2.2.2.2.2.2.2.2.2.2.2.2.2.2.2.2.2.2.2.2.2.2.2.2.2.2.2.2.1), (of_decide_eq_true ex.2.2.2.2.2.2.2.2.2.2.2.2.2.2.2.2.2.2.2.2.2.2.2.2.2.2.2.2.2.2.2.2.2.2.2.2.2.1), (of_decide_eq_true ex.2.2.2.2.2.2.2.2.2.2.2.2.2.2.2.2.2.2.2.2.2.2.2.2.2.2.2.2.2.2.2.2.2.2.2.2.2.2.1), (of_decide_eq_true ex.2.2.2.2.2.2.2.2.2.2.2.2.2.2.2.2.2.2.2.2.2.2.2.2.2.2.2.2.2.2.2.2.2.2.2.2.2.2.2.1), (of_decide_eq_true ex.2.2.2.2.2.2.2.2.2.2.2.2.2.2.2.2.2.2.2.2.2.2.2.2.2.2.2.2.2.2.2.2.2.2.2.2.2.2.2.2.1)⟩
  obtain ⟨fd_gives, F_gives⟩ := c.def_ 0 (d := d_gives) rfl
  obtain ⟨fd_BadRowX_initX, F_BadRowX_initX⟩ := c.def_ 1 (d := d_BadRowX_initX) rfl
  obtain ⟨fd_ChangeX_initX_r, F_ChangeX_initX_r⟩ := c.def_ 2 (d := d_ChangeX_initX_r) rfl
  obtain ⟨fd_is_number, F_is_number⟩ := c.def_ 3 (d := d_is_number) rfl
  obtain ⟨fd_number_of_r, F_number_of_r⟩ := c.def_ 4 (d := d_number_of_r) rfl
  obtain ⟨fd_text_of_r, F_text_of_r⟩ := c.def_ 5 (d := d_text_of_r) rfl
  obtain ⟨fd_change_row_r, F_change_row_r⟩ := c.def_ 6 (d := d_change_row_r) rfl
  obtain ⟨fd_read_change_r, F_read_change_r⟩ := c.def_ 7 (d := d_read_change_r) rfl
  obtain ⟨fd_law_bag, F_law_bag⟩ := c.def_ 8 (d := d_law_bag) rfl
  obtain ⟨fd_law_stirred, F_law_stirred⟩ := c.def_ 9 (d := d_law_stirred) rfl
  obtain ⟨fd_law_draw, F_law_draw⟩ := c.def_ 10 (d := d_law_draw) rfl
  obtain ⟨fd_law_whole, F_law_whole⟩ := c.def_ 11 (d := d_law_whole) rfl
  obtain ⟨fd_law_alike, F_law_alike⟩ := c.def_ 12 (d := d_law_alike) rfl
  obtain ⟨fd_law_signs, F_law_signs⟩ := c.def_ 13 (d := d_law_signs) rfl
  obtain ⟨fd_law_text, F_law_text⟩ := c.def_ 14 (d := d_law_text) rfl
  obtain ⟨fd_law_row, F_law_row⟩ := c.def_ 15 (d := d_law_row) rfl
  obtain ⟨fd_law_rows, F_law_rows⟩ := c.def_ 16 (d := d_law_rows) rfl
  obtain ⟨fd_law_size, F_law_size⟩ := c.def_ 17 (d := d_law_size) rfl
  obtain ⟨fd_law_same, F_law_same⟩ := c.def_ 18 (d := d_law_same) rfl
  obtain ⟨fd_law_plan_written, F_law_plan_written⟩ := c.def_ 19 (d := d_law_plan_written) rfl
  obtain ⟨fd_law_change_written, F_law_change_written⟩ := c.def_ 20 (d := d_law_change_written) rfl
  obtain ⟨fd_law_number, F_law_number⟩ := c.def_ 21 (d := d_law_number) rfl
  obtain ⟨fd_law_words_read, F_law_words_read⟩ := c.def_ 22 (d := d_law_words_read) rfl
  obtain ⟨fd_law_lines_read, F_law_lines_read⟩ := c.def_ 23 (d := d_law_lines_read) rfl
  obtain ⟨fd_law_kind, F_law_kind⟩ := c.def_ 24 (d := d_law_kind) rfl
  obtain ⟨fd_law_named, F_law_named⟩ := c.def_ 25 (d := d_law_named) rfl
  obtain ⟨fd_law_spoilt, F_law_spoilt⟩ := c.def_ 26 (d := d_law_spoilt) rfl
  obtain ⟨fd_law_within, F_law_within⟩ := c.def_ 27 (d := d_law_within) rfl
  obtain ⟨fd_law_row_fault, F_law_row_fault⟩ := c.def_ 28 (d := d_law_row_fault) rfl
  obtain ⟨fd_law_due, F_law_due⟩ := c.def_ 29 (d := d_law_due) rfl
  obtain ⟨fd_law_read, F_law_read⟩ := c.def_ 30 (d := d_law_read) rfl
  obtain ⟨fd_law_right, F_law_right⟩ := c.def_ 31 (d := d_law_right) rfl
  obtain ⟨fd_law, F_law⟩ := c.def_ 32 (d := d_law) rfl
  have D_gives : ∀ base, DO P w K mg base 1 "gives" ["row", "size"] [] (S2 (φgivesX K)) := fun base => ⟨_, _, [], ok_gives F_gives T , He.glo_ok X G (c.fact 19 (f := .glo "gives") rfl), F_gives.kp, F_gives.bindsN fun _ _ _ _ _ _ us hl => match us, hl with | [_, _], _ => rfl, .nil⟩
  have DXI_BadRow : ∀ base, DXI P w K mg base 1 "BadRow" "row" ["self", "row"] := fun base => ⟨fd_BadRowX_initX, ok_BadRowX_initX F_BadRowX_initX T , F_BadRowX_initX.bindsN fun _ _ _ _ _ _ us hl => match us, hl with | [_, _], _ => rfl⟩
  have DNX_Change : ∀ base, DNX P w K mg base 3 "Change" ["self", "size", "rows"] (SX3 (φinitX72 K)) := fun base => ⟨_, ok_ChangeX_initX_r F_ChangeX_initX_r T (D_gives base) (DXI_BadRow base), He.mkr_ok (c.fact 52 (f := .mkr "Change") rfl), He.glo_ok X G (c.fact 50 (f := .glo "Change") rfl), F_ChangeX_initX_r.bindsN fun _ _ _ _ _ _ us hl => match us, hl with | [_, _, _], _ => rfl⟩
  have D_is_number : ∀ base, DO P w K mg base 1 "is_number" ["word"] [] (S1 (φisnum71 K)) := fun base => ⟨_, _, [], ok_is_number F_is_number T , He.glo_ok X G (c.fact 20 (f := .glo "is_number") rfl), F_is_number.kp, F_is_number.bindsN fun _ _ _ _ _ _ us hl => match us, hl with | [_], _ => rfl, .nil⟩
  have DXD_number_of_r_1 : ∀ base, DOXd P w K mg base 2 "number_of" ["word"] [] (SX1 (φnumofX K)) := fun base => ⟨_, _, [], ok_number_of_r F_number_of_r T (D_is_number base), He.glo_ok X G (c.fact 21 (f := .glo "number_of") rfl), F_number_of_r.kp, F_number_of_r.bindsN fun _ _ _ _ _ _ us hl => match us, hl with | [_], _ => rfl, .nil⟩
  have DXD_text_of_r_1 : ∀ base, DOXd P w K mg base 1 "text_of" ["word"] [] (SX1 (φtextofX K)) := fun base => ⟨_, _, [], ok_text_of_r F_text_of_r T , He.glo_ok X G (c.fact 22 (f := .glo "text_of") rfl), F_text_of_r.kp, F_text_of_r.bindsN fun _ _ _ _ _ _ us hl => match us, hl with | [_], _ => rfl, .nil⟩
  have DX_change_row_r : ∀ base, DOX P w K mg base 3 "change_row" ["words"] (SX1 (φcrowX K)) := fun base => ⟨_, _, ok_change_row_r F_change_row_r T (DXD_number_of_r_1 base) (DXD_text_of_r_1 base), He.glo_ok X G (c.fact 23 (f := .glo "change_row") rfl), F_change_row_r.kp, F_change_row_r.bindsN fun _ _ _ _ _ _ us hl => match us, hl with | [_], _ => rfl⟩
  have DXD_read_change_r_1 : ∀ base, DOXd P w K mg base 5 "read_change" ["text"] [] (SX1 (φrchX K)) := fun base => ⟨_, _, [], ok_read_change_r F_read_change_r T (DX_change_row_r base) (DXD_number_of_r_1 base) (DNX_Change base), He.glo_ok X G (c.fact 24 (f := .glo "read_change") rfl), F_read_change_r.kp, F_read_change_r.bindsN fun _ _ _ _ _ _ us hl => match us, hl with | [_], _ => rfl, .nil⟩
  have D_law_bag : ∀ base, DO P w K mg base 1 "_law_bag" ["script"] [] (S1 (φbag K)) := fun base => ⟨_, _, [], ok_law_bag F_law_bag T , He.glo_ok X G (c.fact 25 (f := .glo "_law_bag") rfl), F_law_bag.kp, F_law_bag.bindsN fun _ _ _ _ _ _ us hl => match us, hl with | [_], _ => rfl, .nil⟩
  have D_law_stirred : ∀ base, DO P w K mg base 1 "_law_stirred" ["bag", "many"] [] (S2 (φdraw K)) := fun base => ⟨_, _, [], ok_law_stirred F_law_stirred T , He.glo_ok X G (c.fact 26 (f := .glo "_law_stirred") rfl), F_law_stirred.kp, F_law_stirred.bindsN fun _ _ _ _ _ _ us hl => match us, hl with | [_, _], _ => rfl, .nil⟩
  have D_law_draw : ∀ base, DO P w K mg base 2 "_law_draw" ["bag", "many"] [] (S2 (φdraw K)) := fun base => ⟨_, _, [], ok_law_draw F_law_draw T (D_law_stirred base), He.glo_ok X G (c.fact 27 (f := .glo "_law_draw") rfl), F_law_draw.kp, F_law_draw.bindsN fun _ _ _ _ _ _ us hl => match us, hl with | [_, _], _ => rfl, .nil⟩
  have D_law_whole : ∀ base, DO P w K mg base 1 "_law_whole" ["found"] [] (S1 φwholeI) := fun base => ⟨_, _, [], ok_law_whole F_law_whole T , He.glo_ok X G (c.fact 28 (f := .glo "_law_whole") rfl), F_law_whole.kp, F_law_whole.bindsN fun _ _ _ _ _ _ us hl => match us, hl with | [_], _ => rfl, .nil⟩
  have D_law_alike : ∀ base, DO P w K mg base 6 "_law_alike" ["found", "due"] [] (S2 (φalike K 6)) := fun base => recDO (φ := fun n => (S2 (φalike K n))) (fun vs H Q E h => alike0 h) (He.glo_ok X G (c.fact 29 (f := .glo "_law_alike") rfl)) F_law_alike.kp (F_law_alike.bindsN fun _ _ _ _ _ _ us hl => match us, hl with | [_, _], _ => rfl) (fun n ih => ok_law_alike F_law_alike T ih) 6
  have D_law_signs : ∀ base, DO P w K mg base 1 "_law_signs" [] [] (S0 φsigns) := fun base => ⟨_, _, [], ok_law_signs F_law_signs T , He.glo_ok X G (c.fact 30 (f := .glo "_law_signs") rfl), F_law_signs.kp, F_law_signs.bindsN fun _ _ _ _ _ _ us hl => match us, hl with | [], _ => rfl, .nil⟩
  have D_law_text : ∀ base, DO P w K mg base 3 "_law_text" ["bag", "size"] [] (S2 (φtextC K)) := fun base => ⟨_, _, [], ok_law_text F_law_text T (D_law_draw base) (D_law_signs base), He.glo_ok X G (c.fact 31 (f := .glo "_law_text") rfl), F_law_text.kp, F_law_text.bindsN fun _ _ _ _ _ _ us hl => match us, hl with | [_, _], _ => rfl, .nil⟩
  have D_law_row : ∀ base, DO P w K mg base 4 "_law_row" ["bag", "size", "left", "last"] [] (S4 (φrowC K)) := fun base => ⟨_, _, [], ok_law_row F_law_row T (D_law_draw base) (D_law_text base), He.glo_ok X G (c.fact 32 (f := .glo "_law_row") rfl), F_law_row.kp, F_law_row.bindsN fun _ _ _ _ _ _ us hl => match us, hl with | [_, _, _, _], _ => rfl, .nil⟩
  have D_law_rows : ∀ base, DO P w K mg base 5 "_law_rows" ["bag", "size", "many", "most"] [] (S4 (φrowsC K)) := fun base => ⟨_, _, [], ok_law_rows F_law_rows T (D_law_draw base) (D_law_row base), He.glo_ok X G (c.fact 33 (f := .glo "_law_rows") rfl), F_law_rows.kp, F_law_rows.bindsN fun _ _ _ _ _ _ us hl => match us, hl with | [_, _, _, _], _ => rfl, .nil⟩
  have D_law_size : ∀ base, DO P w K mg base 3 "_law_size" ["bag"] [] (S1 (φsize1 K)) := fun base => ⟨_, _, [], ok_law_size F_law_size T (D_law_draw base), He.glo_ok X G (c.fact 34 (f := .glo "_law_size") rfl), F_law_size.kp, F_law_size.bindsN fun _ _ _ _ _ _ us hl => match us, hl with | [_], _ => rfl, .nil⟩
  have D_law_same : ∀ base, DO P w K mg base 10 "_law_same" ["found", "size", "rows"] [] (S3 (φsame K)) := fun base => ⟨_, _, [], ok_law_same F_law_same T (D_law_alike base), He.glo_ok X G (c.fact 35 (f := .glo "_law_same") rfl), F_law_same.kp, F_law_same.bindsN fun _ _ _ _ _ _ us hl => match us, hl with | [_, _, _], _ => rfl, .nil⟩
  have D_law_plan_written : ∀ base, DO P w K mg base 1 "_law_plan_written" ["plan"] [] (S1 (φptext71 K)) := fun base => ⟨_, _, [], ok_law_plan_written F_law_plan_written T , He.glo_ok X G (c.fact 36 (f := .glo "_law_plan_written") rfl), F_law_plan_written.kp, F_law_plan_written.bindsN fun _ _ _ _ _ _ us hl => match us, hl with | [_], _ => rfl, .nil⟩
  have D_law_change_written : ∀ base, DO P w K mg base 2 "_law_change_written" ["size", "rows"] [] (S2 (φcwrit71 K)) := fun base => ⟨_, _, [], ok_law_change_written F_law_change_written T (D_law_plan_written base), He.glo_ok X G (c.fact 37 (f := .glo "_law_change_written") rfl), F_law_change_written.kp, F_law_change_written.bindsN fun _ _ _ _ _ _ us hl => match us, hl with | [_, _], _ => rfl, .nil⟩
  have D_law_number : ∀ base, DO P w K mg base 1 "_law_number" ["word"] [] (S1 (φlnum73 K)) := fun base => ⟨_, _, [], ok_law_number F_law_number T , He.glo_ok X G (c.fact 38 (f := .glo "_law_number") rfl), F_law_number.kp, F_law_number.bindsN fun _ _ _ _ _ _ us hl => match us, hl with | [_], _ => rfl, .nil⟩
  have D_law_words_read : ∀ base, DO P w K mg base 2 "_law_words_read" ["words", "kinds"] [] (S2 (φlwords73 K)) := fun base => ⟨_, _, [], ok_law_words_read F_law_words_read T (D_law_number base), He.glo_ok X G (c.fact 39 (f := .glo "_law_words_read") rfl), F_law_words_read.kp, F_law_words_read.bindsN fun _ _ _ _ _ _ us hl => match us, hl with | [_, _], _ => rfl, .nil⟩
  have D_law_lines_read : ∀ base, DO P w K mg base 3 "_law_lines_read" ["text", "kinds"] [] (S2 (φllines73 K)) := fun base => ⟨_, _, [], ok_law_lines_read F_law_lines_read T (D_law_words_read base), He.glo_ok X G (c.fact 40 (f := .glo "_law_lines_read") rfl), F_law_lines_read.kp, F_law_lines_read.bindsN fun _ _ _ _ _ _ us hl => match us, hl with | [_, _], _ => rfl, .nil⟩
  have D_law_kind : ∀ base, DO P w K mg base 1 "_law_kind" ["e"] [] (S1 (φkind72 K)) := fun base => ⟨_, _, [], ok_law_kind F_law_kind T , He.glo_ok X G (c.fact 41 (f := .glo "_law_kind") rfl), F_law_kind.kp, F_law_kind.bindsN fun _ _ _ _ _ _ us hl => match us, hl with | [_], _ => rfl, .nil⟩
  have D_law_named : ∀ base, DO P w K mg base 1 "_law_named" ["word"] [] (S1 (φnamed72 K)) := fun base => ⟨_, _, [], ok_law_named F_law_named T , He.glo_ok X G (c.fact 42 (f := .glo "_law_named") rfl), F_law_named.kp, F_law_named.bindsN fun _ _ _ _ _ _ us hl => match us, hl with | [_], _ => rfl, .nil⟩
  have D_law_spoilt : ∀ base, DO P w K mg base 3 "_law_spoilt" ["bag", "text", "words"] [] (S3 (φspoilt73 K)) := fun base => ⟨_, _, [], ok_law_spoilt F_law_spoilt T (D_law_draw base) (D_law_signs base), He.glo_ok X G (c.fact 43 (f := .glo "_law_spoilt") rfl), F_law_spoilt.kp, F_law_spoilt.bindsN fun _ _ _ _ _ _ us hl => match us, hl with | [_, _, _], _ => rfl, .nil⟩
  have D_law_within : ∀ base, DO P w K mg base 1 "_law_within" ["text"] [] (S1 (φwithin73 K)) := fun base => ⟨_, _, [], ok_law_within F_law_within T , He.glo_ok X G (c.fact 44 (f := .glo "_law_within") rfl), F_law_within.kp, F_law_within.bindsN fun _ _ _ _ _ _ us hl => match us, hl with | [_], _ => rfl, .nil⟩
  have D_law_row_fault : ∀ base, DO P w K mg base 1 "_law_row_fault" ["size", "rows"] [] (S2 (φfault72 K)) := fun base => ⟨_, _, [], ok_law_row_fault F_law_row_fault T , He.glo_ok X G (c.fact 45 (f := .glo "_law_row_fault") rfl), F_law_row_fault.kp, F_law_row_fault.bindsN fun _ _ _ _ _ _ us hl => match us, hl with | [_, _], _ => rfl, .nil⟩
  have D_law_due : ∀ base, DO P w K mg base 4 "_law_due" ["text"] [] (S1 (φdue72 K)) := fun base => ⟨_, _, [], ok_law_due F_law_due T (D_law_lines_read base) (D_law_row_fault base), He.glo_ok X G (c.fact 46 (f := .glo "_law_due") rfl), F_law_due.kp, F_law_due.bindsN fun _ _ _ _ _ _ us hl => match us, hl with | [_], _ => rfl, .nil⟩
  have D_law_read : ∀ base, DO P w K mg base 7 "_law_read" ["text"] [] (S1 (φread72 K)) := fun base => ⟨_, _, [], ok_law_read F_law_read T (D_law_kind base) (DXD_read_change_r_1 base), He.glo_ok X G (c.fact 47 (f := .glo "_law_read") rfl), F_law_read.kp, F_law_read.bindsN fun _ _ _ _ _ _ us hl => match us, hl with | [_], _ => rfl, .nil⟩
  have D_law_right : ∀ base, DO P w K mg base 11 "_law_right" ["text"] [] (S1 (φright73 K)) := fun base => ⟨_, _, [], ok_law_right F_law_right T (D_law_alike base) (D_law_due base) (D_law_named base) (D_law_read base) (D_law_same base), He.glo_ok X G (c.fact 48 (f := .glo "_law_right") rfl), F_law_right.kp, F_law_right.bindsN fun _ _ _ _ _ _ us hl => match us, hl with | [_], _ => rfl, .nil⟩
  have e := hfa.symm.trans (He.glo_ok X G (c.fact 49 (f := .glo "law") rfl))
  cases e
  have b := FunD.bindsA (ps := ["script"]) F_law fun _ _ _ _ _ _ us hl => match us, hl with | [_], _ => rfl
  exact ⟨fd_law, fun s v => b s [v] rfl, fun base _ _ => ok_law F_law T (D_law_bag base) (D_law_change_written base) (D_law_draw base) (D_law_right base) (D_law_rows base) (D_law_size base) (D_law_spoilt base) (D_law_within base)⟩
end Z
theorem PySem.Challenge.cw_remadehere_k72_changes_spoilt_holds : PySem.Challenge.rw_remadehere_k72_changes_spoilt.Holds :=
  Z.close fun _ _ _ _ _ _ X G hfa c ex => Z.facts X G hfa c ex
