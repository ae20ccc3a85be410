import PyProof.Rows.All
import Wide.All
import OpenK.AllK
import Wide.FinOn
import KE.KStateDown
import Lean
import HandS.Base
import HandS.Call
import HandS.List
import HandS.Comp
import HandS.Ends
import HandS.Dict
import HandS.Iter
import HandS.Text
import HandS.Words
import HandS.WordsList
import HandS.Defaults
import HandS.IsInst
import HandS.Wide
import HandS.WideBits
import HandS.Conv
import HandS.Flow
import HandS.Style
import HandS.Flt
import HandS.More
import HandS.Set
import HandS.SetFor
import HandS.Strs
import HandS.SortInts
import HandS.MakeKw
import HandS.MakeKwOnly
import HandS.Codes
import HandS.SetKeys
import HandS.FStr
import HandS.Head0
import HandS.Head1
import HandS.Head2
import HandS.HeadEnd
import HandS.HeadHook1
import HandS.HeadHook2
import PyProof.DictMoreH
import PyProof.ListStr
import HandS.OwnEq
import PyProof.StrLawsIn
import PyProof.StrLawsFirst
import HandS.RevTup
import HandS.Rev
import PyProof.CallStr
import PyProof.FString2
import PyProof.FString3
import OpenK.KOps
import PyProof.InstNe
import HandS.SortRule
import KE.SortData
import PyProof.StrReplace2
import PyProof.Rows.EqNone
import PyProof.Rows.EqMixed
import PyProof.FactsAll.dict_1
import PyProof.FactsAll.list_1
import PyProof.FactsAll.tuple_1
import PyProof.Conv_bool
import PySem.Challenge.RW_remadehere_k03_equal_and_long
set_option Elab.async false
set_option linter.all false
set_option maxRecDepth 100000
set_option maxHeartbeats 8000000
set_option synthInstance.maxHeartbeats 2000000
set_option synthInstance.maxSize 100000
namespace R
open PySem L2
/-! ### steps as classes: one look finds the rule for a goal -/
class Step (P : Prop) (Q : outParam Prop) : Prop where mk ::
  h : Q → P
class StepO (P : Prop) (Q : outParam Prop) : Prop where mk ::
  h : Q → P
class StepN (P : Prop) (Q : outParam Prop) : Prop where mk ::
  h : Q → P
class SideK (P : Prop) (k : Nat) : Prop where mk ::
/-- rows of steps: the new walk's, the old walk's -/
class GoN (P : Prop) (Q : outParam Prop) : Prop where mk ::
  h : Q → P
class GoO (P : Prop) (Q : outParam Prop) : Prop where mk ::
  h : Q → P
instance (priority := low) goN_end {P : Prop} : GoN P P := ⟨id⟩
instance (priority := low) goO_end {P : Prop} : GoO P P := ⟨id⟩
instance goN_n {P Q R : Prop} [s : StepN P Q] [g : GoN Q R] : GoN P R := ⟨fun r => s.h (g.h r)⟩
instance goO_o {P Q R : Prop} [s : StepO P Q] [g : GoO Q R] : GoO P R := ⟨fun r => s.h (g.h r)⟩
instance goN_s {P Q R : Prop} [s : Step P Q] [g : GoN Q R] : GoN P R := ⟨fun r => s.h (g.h r)⟩
instance goO_s {P Q R : Prop} [s : Step P Q] [g : GoO Q R] : GoO P R := ⟨fun r => s.h (g.h r)⟩
theorem goNS {P Q R : Prop} [s : Step P Q] [g : GoN Q R] (r : R) : P := s.h (g.h r)
theorem goNN {P Q R : Prop} [s : StepN P Q] [g : GoN Q R] (r : R) : P := s.h (g.h r)
theorem goOS {P Q R : Prop} [s : Step P Q] [g : GoO Q R] (r : R) : P := s.h (g.h r)
theorem goOO {P Q R : Prop} [s : StepO P Q] [g : GoO Q R] (r : R) : P := s.h (g.h r)
theorem sideI {P : Prop} (k : Nat) [SideK P k] (q : P) : P := q
/-! ### worlds: F the part that stays, H all that is tracked -/
theorem ne_none {α : Type} {o : Option α} {x : α} (h : o = some x) : o ≠ none := fun e => by rw [h] at e; cases e
theorem Same.new {H : Hp} {p : Addr} {o : HO} (h : H p = none) : Same H (upd H p o) := fun a u e => by
  rw [upd_ne (ne_of_none e h)]
  exact e
theorem rd_same {F H : Hp} {a : Addr} {u : HO} (e : Same F H) (h : Rd F a u) : Rd H a u := by
  rcases h with h | ⟨o, h⟩
  · exact .inl (e _ _ h)
  · exact .inr ⟨o, e _ _ h⟩
theorem sqL_same {K : PySem.W.Frag} {F H : Hp} {a : Addr} {xs : List V} (e : Same F H) (h : SqL K F a xs) : SqL K H a xs := by
  rcases h with h | h
  · exact .inl (rd_same e h)
  · exact .inr h
theorem sqT_same {K : PySem.W.Frag} {F H : Hp} {a : Addr} {xs : List V} (e : Same F H) (h : SqT K F a xs) : SqT K H a xs := by
  rcases h with h | h
  · exact .inl (rd_same e h)
  · exact .inr h
theorem sqL_of {K : PySem.W.Frag} {H : Hp} {a : Addr} {xs : List V} (h : H a = some (.lst xs)) : SqL K H a xs := .inl (.inl h)
theorem sqT_of {K : PySem.W.Frag} {H : Hp} {a : Addr} {xs : List V} (h : H a = some (.tup xs)) : SqT K H a xs := .inl (.inl h)
mutual
theorem dp_same {K : PySem.W.Frag} {F H : Hp} (e : Same F H) : ∀ (d : PyData) (v : V), Dp K F v d → Dp K H v d
  | .none, _, .non => .non
  | .bool _, _, .bl b => .bl b
  | .int _, _, .int i => .int i
  | .str _, _, .str x => .str x
  | .list ds, _, .lst h hs => .lst (sqL_same e h) (dpa_same e ds _ hs)
  | .tuple ds, _, .tup h hs => .tup (sqT_same e h) (dpa_same e ds _ hs)
theorem dpa_same {K : PySem.W.Frag} {F H : Hp} (e : Same F H) : ∀ (ds : List PyData) (vs : List V), DpAll K F vs ds → DpAll K H vs ds
  | [], _, .nil => .nil
  | d :: ds, _, .cons h hs => .cons (dp_same e d _ h) (dpa_same e ds _ hs)
end
/-- what a deed does: F grows to F2, H to H2; of what H has outside of F only the objects at M change -/
structure Gr (M : List Addr) (F H F2 H2 : Hp) : Prop where
  ff : Same F F2
  fh : Same F2 H2
  hh : ∀ a o, a ∉ M → H a = some o → H2 a = some o
  al : ∀ a, H a ≠ none → H2 a ≠ none
  nw : ∀ a, H a ≠ none → F a = none → F2 a = none
theorem Gr.refl {M : List Addr} {F H : Hp} (h : Same F H) : Gr M F H F H := ⟨Same.refl F, h, fun _ _ _ e => e, fun _ e => e, fun _ _ e => e⟩
theorem Gr.trans {M : List Addr} {F H F1 H1 F2 H2 : Hp} (a : Gr M F H F1 H1) (b : Gr M F1 H1 F2 H2) : Gr M F H F2 H2 :=
  ⟨a.ff.trans b.ff, b.fh, fun x o n e => b.hh x o n (a.hh x o n e), fun x e => b.al x (a.al x e), fun x e n => b.nw x (a.al x e) (a.nw x e n)⟩
/-- a new object that stays -/
theorem Gr.im {M : List Addr} {F H : Hp} {p : Addr} {o : HO} (w : Same F H) (h : H p = none) : Gr M F H (upd F p o) (upd H p o) := by
  have hF : F p = none := w.free h
  refine ⟨Same.new hF, fun a u e => ?_, fun a u _ e => ?_, fun a e => ?_, fun a e n => ?_⟩
  · by_cases q : a = p
    · subst q
      rw [upd_same] at e ⊢
      exact e
    · rw [upd_ne q] at e ⊢
      exact w a u e
  · rw [upd_ne (ne_of_none e h)]
    exact e
  · by_cases q : a = p
    · subst q
      rw [upd_same]
      exact fun z => nomatch z
    · rw [upd_ne q]
      exact e
  · have q : a ≠ p := fun z => by subst z; exact e h
    rw [upd_ne q]
    exact n
/-- a new object that may change -/
theorem Gr.new {M : List Addr} {F H : Hp} {p : Addr} {o : HO} (w : Same F H) (h : H p = none) : Gr M F H F (upd H p o) := by
  refine ⟨Same.refl F, w.trans (Same.new h), fun a u _ e => ?_, fun a e => ?_, fun a e n => n⟩
  · rw [upd_ne (ne_of_none e h)]
    exact e
  · by_cases q : a = p
    · subst q
      rw [upd_same]
      exact fun z => nomatch z
    · rw [upd_ne q]
      exact e
/-- a change of an object that may change -/
theorem Gr.wr {M : List Addr} {F H : Hp} {p : Addr} {o : HO} (w : Same F H) (h : F p = none) (hm : p ∈ M) : Gr M F H F (upd H p o) := by
  refine ⟨Same.refl F, fun a u e => ?_, fun a u n e => ?_, fun a e => ?_, fun a e n => n⟩
  · have q : a ≠ p := ne_of_none e h
    rw [upd_ne q]
    exact w a u e
  · have q : a ≠ p := fun z => by subst z; exact n hm
    rw [upd_ne q]
    exact e
  · by_cases q : a = p
    · subst q
      rw [upd_same]
      exact fun z => nomatch z
    · rw [upd_ne q]
      exact e
/-- .. of one that was new behind the start -/
theorem Gr.wrn {M : List Addr} {F0 H0 F H : Hp} {p : Addr} {o : HO} (g : Gr M F0 H0 F H) (h : F p = none) (hn : H0 p = none) : Gr M F0 H0 F (upd H p o) := by
  refine ⟨g.ff, fun a u e => ?_, fun a u n e => ?_, fun a e => ?_, g.nw⟩
  · have q : a ≠ p := ne_of_none e h
    rw [upd_ne q]
    exact g.fh a u e
  · have q : a ≠ p := fun z => by subst z; rw [hn] at e; cases e
    rw [upd_ne q]
    exact g.hh a u n e
  · by_cases q : a = p
    · subst q
      rw [upd_same]
      exact fun z => nomatch z
    · rw [upd_ne q]
      exact g.al a e
/-- an object that may change -/
structure Mu (F H : Hp) (p : Addr) (o : HO) : Prop where
  n : F p = none
  h : H p = some o
theorem Gr.mu {M : List Addr} {F H F2 H2 : Hp} {p : Addr} {o : HO} (g : Gr M F H F2 H2) (m : Mu F H p o) (hp : p ∉ M) : Mu F2 H2 p o := ⟨g.nw p (ne_none m.h) m.n, g.hh p o hp m.h⟩
theorem Gr.mu0 {F H F2 H2 : Hp} {p : Addr} {o : HO} (g : Gr [] F H F2 H2) (m : Mu F H p o) : Mu F2 H2 p o := g.mu m (fun h => nomatch h)
theorem Mu.new {F H : Hp} {p : Addr} {o : HO} (w : Same F H) (h : H p = none) : Mu F (upd H p o) p o := ⟨w.free h, upd_same⟩
theorem Mu.wr {F H : Hp} {p : Addr} {o u : HO} (m : Mu F H p o) : Mu F (upd H p u) p u := ⟨m.n, upd_same⟩
theorem Mu.oth {F H : Hp} {p q : Addr} {o u : HO} (m : Mu F H p o) (h : p ≠ q) : Mu F (upd H q u) p o := ⟨m.n, by rw [upd_ne h]; exact m.h⟩
theorem Mu.sq {K : PySem.W.Frag} {F H : Hp} {p : Addr} {xs : List V} (m : Mu F H p (.lst xs)) : SqL K H p xs := sqL_of m.h
theorem Mu.ne_new {F H : Hp} {p q : Addr} {o : HO} (m : Mu F H p o) (h : H q = none) : p ≠ q := ne_of_none m.h h
/-! ### promises by the number of arguments -/
def S1 (φ : V → Hp → VK → Prop) : Sp := fun vs H Q _ => match vs with
  | [a] => φ a H Q
  | _ => False
def S2 (φ : V → V → Hp → VK → Prop) : Sp := fun vs H Q _ => match vs with
  | [a, b] => φ a b H Q
  | _ => False
def S3 (φ : V → V → V → Hp → VK → Prop) : Sp := fun vs H Q _ => match vs with
  | [a, b, c] => φ a b c H Q
  | _ => False
def S4 (φ : V → V → V → V → Hp → VK → Prop) : Sp := fun vs H Q _ => match vs with
  | [a, b, c, d] => φ a b c d H Q
  | _ => False
def S5 (φ : V → V → V → V → V → Hp → VK → Prop) : Sp := fun vs H Q _ => match vs with
  | [a, b, c, d, e] => φ a b c d e H Q
  | _ => False
def S6 (φ : V → V → V → V → V → V → Hp → VK → Prop) : Sp := fun vs H Q _ => match vs with
  | [a, b, c, d, e, f] => φ a b c d e f H Q
  | _ => False
def S7 (φ : V → V → V → V → V → V → V → Hp → VK → Prop) : Sp := fun vs H Q _ => match vs with
  | [a, b, c, d, e, f, g] => φ a b c d e f g H Q
  | _ => False
def S0 (φ : Hp → VK → Prop) : Sp := fun vs H Q _ => match vs with
  | [] => φ H Q
  | _ => False
theorem S0.len {φ : Hp → VK → Prop} {vs : List V} {H : Hp} {Q : VK} {E : XK} (h : S0 φ vs H Q E) : vs.length = 0 := by
  match vs, h with
  | [], _ => rfl
theorem S1.len {φ : V → Hp → VK → Prop} {vs : List V} {H : Hp} {Q : VK} {E : XK} (h : S1 φ vs H Q E) : vs.length = 1 := by
  match vs, h with
  | [_], _ => rfl
theorem S2.len {φ : V → V → Hp → VK → Prop} {vs : List V} {H : Hp} {Q : VK} {E : XK} (h : S2 φ vs H Q E) : vs.length = 2 := by
  match vs, h with
  | [_, _], _ => rfl
theorem S3.len {φ : V → V → V → Hp → VK → Prop} {vs : List V} {H : Hp} {Q : VK} {E : XK} (h : S3 φ vs H Q E) : vs.length = 3 := by
  match vs, h with
  | [_, _, _], _ => rfl
theorem S4.len {φ : V → V → V → V → Hp → VK → Prop} {vs : List V} {H : Hp} {Q : VK} {E : XK} (h : S4 φ vs H Q E) : vs.length = 4 := by
  match vs, h with
  | [_, _, _, _], _ => rfl
theorem S5.len {φ : V → V → V → V → V → Hp → VK → Prop} {vs : List V} {H : Hp} {Q : VK} {E : XK} (h : S5 φ vs H Q E) : vs.length = 5 := by
  match vs, h with
  | [_, _, _, _, _], _ => rfl
theorem S6.len {φ : V → V → V → V → V → V → Hp → VK → Prop} {vs : List V} {H : Hp} {Q : VK} {E : XK} (h : S6 φ vs H Q E) : vs.length = 6 := by
  match vs, h with
  | [_, _, _, _, _, _], _ => rfl
theorem S7.len {φ : V → V → V → V → V → V → V → Hp → VK → Prop} {vs : List V} {H : Hp} {Q : VK} {E : XK} (h : S7 φ vs H Q E) : vs.length = 7 := by
  match vs, h with
  | [_, _, _, _, _, _, _], _ => rfl
/-! ### a def as it stands, with its promise -/
structure DO (P : Program) (w : World) (K : PySem.W.Frag) (mg : Str → Option Value) (base : Heap) (k : Nat) (x : Str) (ps : List Str) (dvs : List V) (sp : Sp) : Prop where
  ex : ∃ (f : Addr) (fd : FuncData) (ds : List Value), FnOk P w K mg base CX0 k f fd ps sp ∧ mg x = some (.ref f) ∧ PySem.W.keepIn K (.ref f) = true ∧ Binds K fd ps ds ∧ Vals dvs ds
section
variable {X : Cx} {k j : Nat} {ps : List Str} {sp : Sp} {dvs : List V} {x : Str} {p pos : Pos} {e : Expr} {es : List Expr} {t : TA}
theorem pcall (D : DO X.prog X.w X.K X.mg X.base k x ps dvs sp) (hr : Room j X.A) (ha : PA X (e :: es) t) (hj : k ≤ j := by first | decide | exact Nat.le_refl _ | omega) (hg : Gl X x := by rfl) (hdb : (x == ("__debug__" : Str)) = false := by decide)
    (he : starEach (e :: es) X.env = (false, eval e X.env) :: starEach es X.env := by rfl) (hpl : (backTo pos (starEach es X.env)).any (·.1) = false := by rfl) :
    PE X (.Call (.Name x p) (e :: es) [] pos) (tCall sp dvs E0 t) := by
  obtain ⟨f, fd, ds, F, hm, hk, hb, hd⟩ := D.ex
  exact pe_call F (hr.mono hj) hg hm hk hb hd pass0 ha hdb he hpl
theorem pcall0 (D : DO X.prog X.w X.K X.mg X.base k x ps dvs sp) (hr : Room j X.A) (hj : k ≤ j := by first | decide | exact Nat.le_refl _ | omega) (hg : Gl X x := by rfl) (hdb : (x == ("__debug__" : Str)) = false := by decide) :
    PE X (.Call (.Name x p) [] [] pos) (tCall sp dvs E0 tNil) := by
  obtain ⟨f, fd, ds, F, hm, hk, hb, hd⟩ := D.ex
  exact pe_call0 F (hr.mono hj) hg hm hk hb hd pass0 hdb
end
theorem recDO {P : Program} {w : World} {K : PySem.W.Frag} {mg : Str → Option Value} {base : Heap} {x : Str} {f : Addr} {fd : FuncData} {ps : List Str} {φ : Nat → Sp} (h0 : ∀ vs H Q E, φ 0 vs H Q E → False) (hm : mg x = some (.ref f)) (hk : PySem.W.keepIn K (.ref f) = true) (hb : Binds K fd ps [])
    (hs : ∀ n, DO P w K mg base n x ps [] (φ n) → FnOk P w K mg base CX0 (n + 1) f fd ps (φ (n + 1))) : ∀ n, DO P w K mg base n x ps [] (φ n)
  | 0 => ⟨f, fd, [], ⟨fun vs H Q E h => (h0 vs H Q E h).elim, fun A outer s H args us vs Q E _ _ _ _ h => (h0 vs H Q E h).elim⟩, hm, hk, hb, .nil⟩
  | n + 1 => ⟨f, fd, [], hs n (recDO h0 hm hk hb hs n), hm, hk, hb, .nil⟩
/-! ### calls with keywords -/
theorem pe_gint {X : Cx} {x : Str} {i : Int} {pos : Pos} (hg : Gl X x) (hm : ∃ t, X.mg x = some (.int i t)) (hd : (x == ("__debug__" : Str)) = false := by decide) : PE X (.Name x pos) (tC (.int i)) := by
  obtain ⟨t, h⟩ := hm
  exact pe_glob hg h ⟨_, rfl⟩ hd
/-! ### rules with the written part by its own name -/
section
variable {X : Cx} {K : PySem.W.Frag}
theorem ixL (h : X.K = K := by rfl) : IxR X (rIxL K) := by subst h; exact ix_list
theorem ixT (h : X.K = K := by rfl) : IxR X (rIxT K) := by subst h; exact ix_tup
theorem ixQ (h : X.K = K := by rfl) : IxR X (rIx K) := by subst h; exact ix_seq
theorem slL (h : X.K = K := by rfl) : SlR X (rSlL K) := by subst h; exact sl_list
theorem slT (h : X.K = K := by rfl) : SlR X (rSlT K) := by subst h; exact sl_tup
theorem opEqD (A : X.A.units + 64 < cLine) (h : X.K = K := by rfl) : OpR X (compareOp .Eq) (rEqD K) := by subst h; exact op_eqD A
theorem opNeD (A : X.A.units + 64 < cLine) (h : X.K = K := by rfl) : OpR X (compareOp .NotEq) (rNeD K) := by subst h; exact op_neD A
def rLenQ (K : PySem.W.Frag) : List V → Hp → VK → Prop := fun xs H Q => ∃ p ys, xs = [.ref p] ∧ (SqL K H p ys ∨ SqT K H p ys) ∧ Q (.int ys.length) H
def rListOf (K : PySem.W.Frag) : List V → Hp → VK → Prop := fun xs H Q => ∃ p ys, xs = [.ref p] ∧ (SqL K H p ys ∨ SqT K H p ys) ∧ ∀ l, H l = none → Q (.ref l) (upd H l (.lst ys))
def rLenS : List V → Hp → VK → Prop := fun xs H Q => ∃ z, xs = [.str z] ∧ z.length ≤ sizeLine ∧ Q (.int z.length) H
def rInt1 : List V → Hp → VK → Prop := fun xs H Q => (∃ i, xs = [.int i] ∧ Q (.int i) H) ∨ ∃ k, xs = [.bl k] ∧ Q (.int (if k then 1 else 0)) H
def rAbs : List V → Hp → VK → Prop := fun xs H Q => ∃ i, xs = [.int i] ∧ Q (.int (if i < 0 then -i else i)) H
def rMin2 : List V → Hp → VK → Prop := fun xs H Q => ∃ i j, xs = [.int i, .int j] ∧ Q (.int (if j < i then j else i)) H
def rMax2 : List V → Hp → VK → Prop := fun xs H Q => ∃ i j, xs = [.int i, .int j] ∧ Q (.int (if j > i then j else i)) H
theorem clLenQ (h : X.K = K := by rfl) : CallR X (.builtin "len") (rLenQ K) := by subst h; exact call_len_seq
theorem clLenS : CallR X (.builtin "len") rLenS := call_len_str
theorem clListOf (h : X.K = K := by rfl) : CallR X (.type "list") (rListOf K) := by subst h; exact call_list_of
theorem clInt1 : CallR X (.type "int") rInt1 := call_int1
theorem clAbs : CallR X (.builtin "abs") rAbs := call_abs
theorem clMin2 (hc : X.calm = true := by rfl) : CallR X (.builtin "min") rMin2 := call_min2 hc
theorem clSum (hc : X.calm = true := by rfl) (h : X.K = K := by rfl) : CallR X (.builtin "sum") (rSum K) := by subst h; exact cr_sum hc
theorem clAll (hc : X.calm = true := by rfl) (h : X.K = K := by rfl) : CallR X (.builtin "all") (rAll K) := by subst h; exact cr_all hc
theorem clIsi (h : X.K = K := by rfl) : CallR X (.builtin "isinstance") (rIsi K) := by subst h; exact call_isi
theorem clIsiT (h : X.K = K := by rfl) : CallR X (.builtin "isinstance") (rIsiT K) := by subst h; exact call_isiT
def tTruth (K : PySem.W.Frag) (ta : TE) : TT := fun σ H Q => ta σ H fun x H' => ∃ k, TruV K x H' k ∧ Q k H'
variable {o e : Expr} {es : List Expr} {to te : TE} {t : TA} {name : Str} {apos cpos : Pos} {T id : String} {r : V → List V → Hp → VK → Prop}
theorem peBM (pa : PlainAttrs T) (slot : Slot T name id) (hty : typeOf (.builtin id) = pure (.type "method_descriptor")) (hm : MtR X id r) (ho : PE X o to) (ha : PA X (e :: es) t) (h : X.K = K := by rfl)
    (hbase : attributeBase o name X.env (eval o X.env) = eval o X.env := by rfl)
    (hfew : ((backTo cpos (starEach (e :: es) X.env)).all (fun x => !x.1) && (backToKw cpos (keywordEach [] X.env)).all (fun x => x.1.isSome)
      && decide ((e :: es).length + ([] : List Keyword).length + (if ([] : List Keyword).isEmpty then 0 else 1) < 30)) = true := by rfl)
    (hline : (apos.endLine == cpos.line) = true := by rfl) (hs : starEach (e :: es) X.env = (false, eval e X.env) :: starEach es X.env := by rfl) (hplain : (backTo cpos (starEach es X.env)).any (·.1) = false := by rfl) :
    PE X (.Call (.Attribute o name apos) (e :: es) [] cpos) (tBM K T r to t) := by
  subst h
  exact pe_bm pa slot hty hm ho ha hbase hfew hline hs hplain
def rJoin (K : PySem.W.Frag) : V → List V → Hp → VK → Prop := fun x xs H Q => ∃ a p, ∃ ys : List Str, x = .str a ∧ xs = [.ref p] ∧ (SqL K H p (ys.map V.str) ∨ SqT K H p (ys.map V.str)) ∧
      (ys.map (·.length)).sum + ys.length * a.length ≤ 16777216 ∧ Q (.str (Txt.join a ys)) H
theorem peJoin (ho : PE X o to) (he : PE X e te) (h : X.K = K := by rfl) (hs : starEach [e] X.env = [(false, eval e X.env)] := by rfl) (hbase : attributeBase o "join" X.env (eval o X.env) = eval o X.env := by rfl) (hline : (apos.endLine == cpos.line) = true := by rfl) :
    PE X (.Call (.Attribute o "join" apos) [e] [] cpos) (tM1 (rJoin K) to te) := by
  subst h
  exact pe_join ho he hs hbase hline
theorem peFld {f : Str} {pos : Pos} (he : PE X o to) (h : X.K = K := by rfl) (hb : attributeBase o f X.env (eval o X.env) = eval o X.env := by rfl) : PE X (.Attribute o f pos) (tFld K to f) := by
  subst h
  exact pe_fld he hb
end
/-! ### steps of a reading -/
section
variable {K : PySem.W.Frag} {σ : L2.St} {H : Hp} {Q : VK} {ta tb te : TE} {x y v : V} {nx bk ct : L2.St → Hp → Prop} {rt : VK}
-- slots
section
variable {a0 a1 a2 a3 a4 a5 a6 a7 a8 a9 a10 a11 a12 a13 : Option V} {r : L2.St}
theorem w_v0 (q : Q v H) : tVar 0 (some v :: r) H Q := ⟨v, rfl, q⟩
instance : Step (tVar 0 (some v :: r) H Q) (Q v H) := ⟨w_v0⟩ -- st
theorem w_v1 (q : Q v H) : tVar 1 (a0 :: some v :: r) H Q := ⟨v, rfl, q⟩
instance : Step (tVar 1 (a0 :: some v :: r) H Q) (Q v H) := ⟨w_v1⟩ -- st
theorem w_v2 (q : Q v H) : tVar 2 (a0 :: a1 :: some v :: r) H Q := ⟨v, rfl, q⟩
instance : Step (tVar 2 (a0 :: a1 :: some v :: r) H Q) (Q v H) := ⟨w_v2⟩ -- st
theorem w_v3 (q : Q v H) : tVar 3 (a0 :: a1 :: a2 :: some v :: r) H Q := ⟨v, rfl, q⟩
instance : Step (tVar 3 (a0 :: a1 :: a2 :: some v :: r) H Q) (Q v H) := ⟨w_v3⟩ -- st
theorem w_v4 (q : Q v H) : tVar 4 (a0 :: a1 :: a2 :: a3 :: some v :: r) H Q := ⟨v, rfl, q⟩
instance : Step (tVar 4 (a0 :: a1 :: a2 :: a3 :: some v :: r) H Q) (Q v H) := ⟨w_v4⟩ -- st
theorem w_v5 (q : Q v H) : tVar 5 (a0 :: a1 :: a2 :: a3 :: a4 :: some v :: r) H Q := ⟨v, rfl, q⟩
instance : Step (tVar 5 (a0 :: a1 :: a2 :: a3 :: a4 :: some v :: r) H Q) (Q v H) := ⟨w_v5⟩ -- st
theorem w_v6 (q : Q v H) : tVar 6 (a0 :: a1 :: a2 :: a3 :: a4 :: a5 :: some v :: r) H Q := ⟨v, rfl, q⟩
instance : Step (tVar 6 (a0 :: a1 :: a2 :: a3 :: a4 :: a5 :: some v :: r) H Q) (Q v H) := ⟨w_v6⟩ -- st
theorem w_v7 (q : Q v H) : tVar 7 (a0 :: a1 :: a2 :: a3 :: a4 :: a5 :: a6 :: some v :: r) H Q := ⟨v, rfl, q⟩
instance : Step (tVar 7 (a0 :: a1 :: a2 :: a3 :: a4 :: a5 :: a6 :: some v :: r) H Q) (Q v H) := ⟨w_v7⟩ -- st
theorem w_v8 (q : Q v H) : tVar 8 (a0 :: a1 :: a2 :: a3 :: a4 :: a5 :: a6 :: a7 :: some v :: r) H Q := ⟨v, rfl, q⟩
instance : Step (tVar 8 (a0 :: a1 :: a2 :: a3 :: a4 :: a5 :: a6 :: a7 :: some v :: r) H Q) (Q v H) := ⟨w_v8⟩ -- st
theorem w_v9 (q : Q v H) : tVar 9 (a0 :: a1 :: a2 :: a3 :: a4 :: a5 :: a6 :: a7 :: a8 :: some v :: r) H Q := ⟨v, rfl, q⟩
instance : Step (tVar 9 (a0 :: a1 :: a2 :: a3 :: a4 :: a5 :: a6 :: a7 :: a8 :: some v :: r) H Q) (Q v H) := ⟨w_v9⟩ -- st
theorem w_v10 (q : Q v H) : tVar 10 (a0 :: a1 :: a2 :: a3 :: a4 :: a5 :: a6 :: a7 :: a8 :: a9 :: some v :: r) H Q := ⟨v, rfl, q⟩
instance : Step (tVar 10 (a0 :: a1 :: a2 :: a3 :: a4 :: a5 :: a6 :: a7 :: a8 :: a9 :: some v :: r) H Q) (Q v H) := ⟨w_v10⟩ -- st
theorem w_v11 (q : Q v H) : tVar 11 (a0 :: a1 :: a2 :: a3 :: a4 :: a5 :: a6 :: a7 :: a8 :: a9 :: a10 :: some v :: r) H Q := ⟨v, rfl, q⟩
instance : Step (tVar 11 (a0 :: a1 :: a2 :: a3 :: a4 :: a5 :: a6 :: a7 :: a8 :: a9 :: a10 :: some v :: r) H Q) (Q v H) := ⟨w_v11⟩ -- st
theorem w_v12 (q : Q v H) : tVar 12 (a0 :: a1 :: a2 :: a3 :: a4 :: a5 :: a6 :: a7 :: a8 :: a9 :: a10 :: a11 :: some v :: r) H Q := ⟨v, rfl, q⟩
instance : Step (tVar 12 (a0 :: a1 :: a2 :: a3 :: a4 :: a5 :: a6 :: a7 :: a8 :: a9 :: a10 :: a11 :: some v :: r) H Q) (Q v H) := ⟨w_v12⟩ -- st
theorem w_v13 (q : Q v H) : tVar 13 (a0 :: a1 :: a2 :: a3 :: a4 :: a5 :: a6 :: a7 :: a8 :: a9 :: a10 :: a11 :: a12 :: some v :: r) H Q := ⟨v, rfl, q⟩
instance : Step (tVar 13 (a0 :: a1 :: a2 :: a3 :: a4 :: a5 :: a6 :: a7 :: a8 :: a9 :: a10 :: a11 :: a12 :: some v :: r) H Q) (Q v H) := ⟨w_v13⟩ -- st
variable {N : L2.St → Hp → Prop}
theorem w_n0 (q : N (some v :: r) H) : gName 0 v (a0 :: r) H N := q
instance : Step (gName 0 v (a0 :: r) H N) (N (some v :: r) H) := ⟨w_n0⟩ -- st
theorem w_n1 (q : N (a0 :: some v :: r) H) : gName 1 v (a0 :: a1 :: r) H N := q
instance : Step (gName 1 v (a0 :: a1 :: r) H N) (N (a0 :: some v :: r) H) := ⟨w_n1⟩ -- st
theorem w_n2 (q : N (a0 :: a1 :: some v :: r) H) : gName 2 v (a0 :: a1 :: a2 :: r) H N := q
instance : Step (gName 2 v (a0 :: a1 :: a2 :: r) H N) (N (a0 :: a1 :: some v :: r) H) := ⟨w_n2⟩ -- st
theorem w_n3 (q : N (a0 :: a1 :: a2 :: some v :: r) H) : gName 3 v (a0 :: a1 :: a2 :: a3 :: r) H N := q
instance : Step (gName 3 v (a0 :: a1 :: a2 :: a3 :: r) H N) (N (a0 :: a1 :: a2 :: some v :: r) H) := ⟨w_n3⟩ -- st
theorem w_n4 (q : N (a0 :: a1 :: a2 :: a3 :: some v :: r) H) : gName 4 v (a0 :: a1 :: a2 :: a3 :: a4 :: r) H N := q
instance : Step (gName 4 v (a0 :: a1 :: a2 :: a3 :: a4 :: r) H N) (N (a0 :: a1 :: a2 :: a3 :: some v :: r) H) := ⟨w_n4⟩ -- st
theorem w_n5 (q : N (a0 :: a1 :: a2 :: a3 :: a4 :: some v :: r) H) : gName 5 v (a0 :: a1 :: a2 :: a3 :: a4 :: a5 :: r) H N := q
instance : Step (gName 5 v (a0 :: a1 :: a2 :: a3 :: a4 :: a5 :: r) H N) (N (a0 :: a1 :: a2 :: a3 :: a4 :: some v :: r) H) := ⟨w_n5⟩ -- st
theorem w_n6 (q : N (a0 :: a1 :: a2 :: a3 :: a4 :: a5 :: some v :: r) H) : gName 6 v (a0 :: a1 :: a2 :: a3 :: a4 :: a5 :: a6 :: r) H N := q
instance : Step (gName 6 v (a0 :: a1 :: a2 :: a3 :: a4 :: a5 :: a6 :: r) H N) (N (a0 :: a1 :: a2 :: a3 :: a4 :: a5 :: some v :: r) H) := ⟨w_n6⟩ -- st
theorem w_n7 (q : N (a0 :: a1 :: a2 :: a3 :: a4 :: a5 :: a6 :: some v :: r) H) : gName 7 v (a0 :: a1 :: a2 :: a3 :: a4 :: a5 :: a6 :: a7 :: r) H N := q
instance : Step (gName 7 v (a0 :: a1 :: a2 :: a3 :: a4 :: a5 :: a6 :: a7 :: r) H N) (N (a0 :: a1 :: a2 :: a3 :: a4 :: a5 :: a6 :: some v :: r) H) := ⟨w_n7⟩ -- st
theorem w_n8 (q : N (a0 :: a1 :: a2 :: a3 :: a4 :: a5 :: a6 :: a7 :: some v :: r) H) : gName 8 v (a0 :: a1 :: a2 :: a3 :: a4 :: a5 :: a6 :: a7 :: a8 :: r) H N := q
instance : Step (gName 8 v (a0 :: a1 :: a2 :: a3 :: a4 :: a5 :: a6 :: a7 :: a8 :: r) H N) (N (a0 :: a1 :: a2 :: a3 :: a4 :: a5 :: a6 :: a7 :: some v :: r) H) := ⟨w_n8⟩ -- st
theorem w_n9 (q : N (a0 :: a1 :: a2 :: a3 :: a4 :: a5 :: a6 :: a7 :: a8 :: some v :: r) H) : gName 9 v (a0 :: a1 :: a2 :: a3 :: a4 :: a5 :: a6 :: a7 :: a8 :: a9 :: r) H N := q
instance : Step (gName 9 v (a0 :: a1 :: a2 :: a3 :: a4 :: a5 :: a6 :: a7 :: a8 :: a9 :: r) H N) (N (a0 :: a1 :: a2 :: a3 :: a4 :: a5 :: a6 :: a7 :: a8 :: some v :: r) H) := ⟨w_n9⟩ -- st
theorem w_n10 (q : N (a0 :: a1 :: a2 :: a3 :: a4 :: a5 :: a6 :: a7 :: a8 :: a9 :: some v :: r) H) : gName 10 v (a0 :: a1 :: a2 :: a3 :: a4 :: a5 :: a6 :: a7 :: a8 :: a9 :: a10 :: r) H N := q
instance : Step (gName 10 v (a0 :: a1 :: a2 :: a3 :: a4 :: a5 :: a6 :: a7 :: a8 :: a9 :: a10 :: r) H N) (N (a0 :: a1 :: a2 :: a3 :: a4 :: a5 :: a6 :: a7 :: a8 :: a9 :: some v :: r) H) := ⟨w_n10⟩ -- st
theorem w_n11 (q : N (a0 :: a1 :: a2 :: a3 :: a4 :: a5 :: a6 :: a7 :: a8 :: a9 :: a10 :: some v :: r) H) : gName 11 v (a0 :: a1 :: a2 :: a3 :: a4 :: a5 :: a6 :: a7 :: a8 :: a9 :: a10 :: a11 :: r) H N := q
instance : Step (gName 11 v (a0 :: a1 :: a2 :: a3 :: a4 :: a5 :: a6 :: a7 :: a8 :: a9 :: a10 :: a11 :: r) H N) (N (a0 :: a1 :: a2 :: a3 :: a4 :: a5 :: a6 :: a7 :: a8 :: a9 :: a10 :: some v :: r) H) := ⟨w_n11⟩ -- st
theorem w_n12 (q : N (a0 :: a1 :: a2 :: a3 :: a4 :: a5 :: a6 :: a7 :: a8 :: a9 :: a10 :: a11 :: some v :: r) H) : gName 12 v (a0 :: a1 :: a2 :: a3 :: a4 :: a5 :: a6 :: a7 :: a8 :: a9 :: a10 :: a11 :: a12 :: r) H N := q
instance : Step (gName 12 v (a0 :: a1 :: a2 :: a3 :: a4 :: a5 :: a6 :: a7 :: a8 :: a9 :: a10 :: a11 :: a12 :: r) H N) (N (a0 :: a1 :: a2 :: a3 :: a4 :: a5 :: a6 :: a7 :: a8 :: a9 :: a10 :: a11 :: some v :: r) H) := ⟨w_n12⟩ -- st
theorem w_n13 (q : N (a0 :: a1 :: a2 :: a3 :: a4 :: a5 :: a6 :: a7 :: a8 :: a9 :: a10 :: a11 :: a12 :: some v :: r) H) : gName 13 v (a0 :: a1 :: a2 :: a3 :: a4 :: a5 :: a6 :: a7 :: a8 :: a9 :: a10 :: a11 :: a12 :: a13 :: r) H N := q
instance : Step (gName 13 v (a0 :: a1 :: a2 :: a3 :: a4 :: a5 :: a6 :: a7 :: a8 :: a9 :: a10 :: a11 :: a12 :: a13 :: r) H N) (N (a0 :: a1 :: a2 :: a3 :: a4 :: a5 :: a6 :: a7 :: a8 :: a9 :: a10 :: a11 :: a12 :: some v :: r) H) := ⟨w_n13⟩ -- st
end
-- expressions
theorem w_c (q : Q v H) : tC v σ H Q := q
instance : Step (tC v σ H Q) (Q v H) := ⟨w_c⟩ -- st
theorem w_op {r : R2} (q : ta σ H fun x H1 => tb σ H1 fun y H2 => r x y H2 Q) : tOp r ta tb σ H Q := q
instance {r : R2} : Step (tOp r ta tb σ H Q) (ta σ H fun x H1 => tb σ H1 fun y H2 => r x y H2 Q) := ⟨w_op⟩ -- st
theorem w_un {r : V → Hp → VK → Prop} (q : ta σ H fun x H1 => r x H1 Q) : tUn r ta σ H Q := q
instance {r : V → Hp → VK → Prop} : Step (tUn r ta σ H Q) (ta σ H fun x H1 => r x H1 Q) := ⟨w_un⟩ -- st
theorem w_add {i j : Int} (q : Q (.int (i + j)) H) : rI0 (fun i j => V.int (i + j)) (.int i) (.int j) H Q := ⟨i, j, rfl, rfl, q⟩
instance {i j : Int} : Step (rI0 (fun i j => V.int (i + j)) (.int i) (.int j) H Q) (Q (.int (i + j)) H) := ⟨w_add⟩ -- st
theorem w_subt {i j : Int} (q : Q (.int (i - j)) H) : rI0 (fun i j => V.int (i - j)) (.int i) (.int j) H Q := ⟨i, j, rfl, rfl, q⟩
instance {i j : Int} : Step (rI0 (fun i j => V.int (i - j)) (.int i) (.int j) H Q) (Q (.int (i - j)) H) := ⟨w_subt⟩ -- st
theorem w_lt {i j : Int} (q : Q (.bl (decide (i < j))) H) : rI0 (fun i j => V.bl (decide (i < j))) (.int i) (.int j) H Q := ⟨i, j, rfl, rfl, q⟩
instance {i j : Int} : Step (rI0 (fun i j => V.bl (decide (i < j))) (.int i) (.int j) H Q) (Q (.bl (decide (i < j))) H) := ⟨w_lt⟩ -- st
theorem w_le {i j : Int} (q : Q (.bl (decide (i ≤ j))) H) : rI0 (fun i j => V.bl (decide (i ≤ j))) (.int i) (.int j) H Q := ⟨i, j, rfl, rfl, q⟩
instance {i j : Int} : Step (rI0 (fun i j => V.bl (decide (i ≤ j))) (.int i) (.int j) H Q) (Q (.bl (decide (i ≤ j))) H) := ⟨w_le⟩ -- st
theorem w_gt {i j : Int} (q : Q (.bl (decide (j < i))) H) : rI0 (fun i j => V.bl (decide (j < i))) (.int i) (.int j) H Q := ⟨i, j, rfl, rfl, q⟩
instance {i j : Int} : Step (rI0 (fun i j => V.bl (decide (j < i))) (.int i) (.int j) H Q) (Q (.bl (decide (j < i))) H) := ⟨w_gt⟩ -- st
theorem w_ge {i j : Int} (q : Q (.bl (decide (j ≤ i))) H) : rI0 (fun i j => V.bl (decide (j ≤ i))) (.int i) (.int j) H Q := ⟨i, j, rfl, rfl, q⟩
instance {i j : Int} : Step (rI0 (fun i j => V.bl (decide (j ≤ i))) (.int i) (.int j) H Q) (Q (.bl (decide (j ≤ i))) H) := ⟨w_ge⟩ -- st
theorem w_mul {i j : Int} (c : CMul i j) (q : Q (.int (i * j)) H) : rI CMul (fun i j => V.int (i * j)) (.int i) (.int j) H Q := ⟨i, j, rfl, rfl, c, q⟩
instance {i j : Int} : SideK (rI CMul (fun i j => V.int (i * j)) (.int i) (.int j) H Q) 1 := ⟨⟩ -- st
theorem w_mod {i j : Int} (c : 0 < j) (q : Q (.int (i % j)) H) : rI (fun _ j => 0 < j) (fun i j => V.int (i % j)) (.int i) (.int j) H Q := ⟨i, j, rfl, rfl, c, q⟩
instance {i j : Int} : SideK (rI (fun _ j => 0 < j) (fun i j => V.int (i % j)) (.int i) (.int j) H Q) 1 := ⟨⟩ -- st
theorem w_fdiv {i j : Int} (c : CDivW i j) (q : Q (.int (i / j)) H) : rI CDivW (fun i j => V.int (i / j)) (.int i) (.int j) H Q := ⟨i, j, rfl, rfl, c, q⟩
instance {i j : Int} : SideK (rI CDivW (fun i j => V.int (i / j)) (.int i) (.int j) H Q) 1 := ⟨⟩ -- st
theorem w_pow {i j : Int} (c : CPow i j) (q : Q (.int (i ^ j.toNat)) H) : rI CPow (fun i j => V.int (i ^ j.toNat)) (.int i) (.int j) H Q := ⟨i, j, rfl, rfl, c, q⟩
instance {i j : Int} : SideK (rI CPow (fun i j => V.int (i ^ j.toNat)) (.int i) (.int j) H Q) 1 := ⟨⟩ -- st
theorem w_neg {i : Int} (q : Q (.int (-i)) H) : rU (fun i => V.int (-i)) (.int i) H Q := ⟨i, rfl, q⟩
instance {i : Int} : Step (rU (fun i => V.int (-i)) (.int i) H Q) (Q (.int (-i)) H) := ⟨w_neg⟩ -- st
def asInt (x : V) (H : Hp) (Z : Int → Hp → Prop) : Prop := ∃ i, x = .int i ∧ Z i H
def asBl (x : V) (H : Hp) (T : Bool → Hp → Prop) : Prop := ∃ k, x = .bl k ∧ T k H
theorem w_asInt {i : Int} {Z : Int → Hp → Prop} (q : Z i H) : asInt (.int i) H Z := ⟨i, rfl, q⟩
instance {i : Int} {Z : Int → Hp → Prop} : Step (asInt (.int i) H Z) (Z i H) := ⟨w_asInt⟩ -- st
theorem w_asBl {b : Bool} {T : Bool → Hp → Prop} (q : T b H) : asBl (.bl b) H T := ⟨b, rfl, q⟩
instance {b : Bool} {T : Bool → Hp → Prop} : Step (asBl (.bl b) H T) (T b H) := ⟨w_asBl⟩ -- st
theorem w_bits {to : TE} (q : to σ H fun x H1 => asInt x H1 fun i H2 => Q (.int (Builtin.Int.intBits i : Nat)) H2) : tBits to σ H Q := q
instance {to : TE} : Step (tBits to σ H Q) (to σ H fun x H1 => asInt x H1 fun i H2 => Q (.int (Builtin.Int.intBits i : Nat)) H2) := ⟨w_bits⟩ -- st
theorem w_eqI {i j : Int} (q : Q (.bl (decide (i = j))) H) : rEq (.int i) (.int j) H Q := ⟨rfl, by
  have e : decide (V.int i = V.int j) = decide (i = j) := by
    by_cases h : i = j
    · subst h; simp
    · rw [decide_eq_false h, decide_eq_false fun z => h (V.int.inj z)]
  rw [e]
  exact q⟩
instance {i j : Int} : Step (rEq (.int i) (.int j) H Q) (Q (.bl (decide (i = j))) H) := ⟨w_eqI⟩ -- st
theorem w_neI {i j : Int} (q : Q (.bl (!decide (i = j))) H) : rNe (.int i) (.int j) H Q := ⟨rfl, by
  have e : decide (V.int i = V.int j) = decide (i = j) := by
    by_cases h : i = j
    · subst h; simp
    · rw [decide_eq_false h, decide_eq_false fun z => h (V.int.inj z)]
  rw [e]
  exact q⟩
instance {i j : Int} : Step (rNe (.int i) (.int j) H Q) (Q (.bl (!decide (i = j))) H) := ⟨w_neI⟩ -- st
theorem w_eqS {a b : Str} (q : Q (.bl (decide (a = b))) H) : rEq (.str a) (.str b) H Q := ⟨rfl, by
  have e : decide (V.str a = V.str b) = decide (a = b) := by
    by_cases h : a = b
    · subst h; simp
    · rw [decide_eq_false h, decide_eq_false fun z => h (V.str.inj z)]
  rw [e]
  exact q⟩
instance {a b : Str} : Step (rEq (.str a) (.str b) H Q) (Q (.bl (decide (a = b))) H) := ⟨w_eqS⟩ -- st
theorem w_neS {a b : Str} (q : Q (.bl (!decide (a = b))) H) : rNe (.str a) (.str b) H Q := ⟨rfl, by
  have e : decide (V.str a = V.str b) = decide (a = b) := by
    by_cases h : a = b
    · subst h; simp
    · rw [decide_eq_false h, decide_eq_false fun z => h (V.str.inj z)]
  rw [e]
  exact q⟩
instance {a b : Str} : Step (rNe (.str a) (.str b) H Q) (Q (.bl (!decide (a = b))) H) := ⟨w_neS⟩ -- st
theorem w_eqB {a b : Bool} (q : Q (.bl (decide (a = b))) H) : rEq (.bl a) (.bl b) H Q := ⟨rfl, by
  have e : decide (V.bl a = V.bl b) = decide (a = b) := by
    by_cases h : a = b
    · subst h; simp
    · rw [decide_eq_false h, decide_eq_false fun z => h (V.bl.inj z)]
  rw [e]
  exact q⟩
instance {a b : Bool} : Step (rEq (.bl a) (.bl b) H Q) (Q (.bl (decide (a = b))) H) := ⟨w_eqB⟩ -- st
theorem w_neB {a b : Bool} (q : Q (.bl (!decide (a = b))) H) : rNe (.bl a) (.bl b) H Q := ⟨rfl, by
  have e : decide (V.bl a = V.bl b) = decide (a = b) := by
    by_cases h : a = b
    · subst h; simp
    · rw [decide_eq_false h, decide_eq_false fun z => h (V.bl.inj z)]
  rw [e]
  exact q⟩
instance {a b : Bool} : Step (rNe (.bl a) (.bl b) H Q) (Q (.bl (!decide (a = b))) H) := ⟨w_neB⟩ -- st
theorem w_isN (q : ta σ H fun x H1 => Q (.bl (decide (x = .non))) H1) : tIsN ta σ H Q := q
instance : Step (tIsN ta σ H Q) (ta σ H fun x H1 => Q (.bl (decide (x = .non))) H1) := ⟨w_isN⟩ -- st
theorem w_notN (q : ta σ H fun x H1 => Q (.bl (!decide (x = .non))) H1) : tNotN ta σ H Q := q
instance : Step (tNotN ta σ H Q) (ta σ H fun x H1 => Q (.bl (!decide (x = .non))) H1) := ⟨w_notN⟩ -- st
-- tests
section
variable {T : Bool → Hp → Prop} {t u : TT}
theorem w_test (q : te σ H fun x H1 => asBl x H1 T) : tTest te σ H T := q
instance : Step (tTest te σ H T) (te σ H fun x H1 => asBl x H1 T) := ⟨w_test⟩ -- st
theorem w_tB (q : te σ H fun x H1 => asBl x H1 T) : tB te σ H T := q
instance : Step (tB te σ H T) (te σ H fun x H1 => asBl x H1 T) := ⟨w_tB⟩ -- st
theorem w_and (q : t σ H fun c H1 => if c = true then u σ H1 T else T false H1) : tAnd t u σ H T := q
instance : Step (tAnd t u σ H T) (t σ H fun c H1 => if c = true then u σ H1 T else T false H1) := ⟨w_and⟩ -- st
theorem w_or (q : t σ H fun c H1 => if c = true then T true H1 else u σ H1 T) : tOr t u σ H T := q
instance : Step (tOr t u σ H T) (t σ H fun c H1 => if c = true then T true H1 else u σ H1 T) := ⟨w_or⟩ -- st
theorem w_not (q : t σ H fun c H1 => T (!c) H1) : tNot t σ H T := q
instance : Step (tNot t σ H T) (t σ H fun c H1 => T (!c) H1) := ⟨w_not⟩ -- st
theorem w_yes (q : T true H) : tYes σ H T := q
instance : Step (tYes σ H T) (T true H) := ⟨w_yes⟩ -- st
theorem w_if (q : t σ H fun c H1 => if c = true then ta σ H1 Q else tb σ H1 Q) : tIf t ta tb σ H Q := q
instance : Step (tIf t ta tb σ H Q) (t σ H fun c H1 => if c = true then ta σ H1 Q else tb σ H1 Q) := ⟨w_if⟩ -- st
theorem w_truth (q : ta σ H fun x H' => ∃ k, TruV K x H' k ∧ T k H') : tTruth K ta σ H T := q
instance : Step (tTruth K ta σ H T) (ta σ H fun x H' => ∃ k, TruV K x H' k ∧ T k H') := ⟨w_truth⟩ -- st
end
theorem w_andV (q : ta σ H fun x H1 => asBl x H1 fun c H2 => if c = true then tb σ H2 Q else Q (.bl false) H2) : tAndV ta tb σ H Q := q
instance : Step (tAndV ta tb σ H Q) (ta σ H fun x H1 => asBl x H1 fun c H2 => if c = true then tb σ H2 Q else Q (.bl false) H2) := ⟨w_andV⟩ -- st
theorem w_orV (q : ta σ H fun x H1 => asBl x H1 fun c H2 => if c = true then Q (.bl true) H2 else tb σ H2 Q) : tOrV ta tb σ H Q := q
instance : Step (tOrV ta tb σ H Q) (ta σ H fun x H1 => asBl x H1 fun c H2 => if c = true then Q (.bl true) H2 else tb σ H2 Q) := ⟨w_orV⟩ -- st
theorem w_notV (q : ta σ H fun x H1 => asBl x H1 fun c H2 => Q (.bl (!c)) H2) : tNotV ta σ H Q := q
instance : Step (tNotV ta σ H Q) (ta σ H fun x H1 => asBl x H1 fun c H2 => Q (.bl (!c)) H2) := ⟨w_notV⟩ -- st
-- arguments
theorem w_nil {L : List V → Hp → Prop} (q : L [] H) : tNil σ H L := q
instance {L : List V → Hp → Prop} : Step (tNil σ H L) (L [] H) := ⟨w_nil⟩ -- st
theorem w_cons {tr : TA} {L : List V → Hp → Prop} (q : ta σ H fun x H1 => tr σ H1 fun xs H2 => L (x :: xs) H2) : tCons ta tr σ H L := q
instance {tr : TA} {L : List V → Hp → Prop} : Step (tCons ta tr σ H L) (ta σ H fun x H1 => tr σ H1 fun xs H2 => L (x :: xs) H2) := ⟨w_cons⟩ -- st
theorem w_call {sp : Sp} {dvs : List V} {E : XK} {t : TA} (q : t σ H fun vs H1 => sp (vs ++ dvs) H1 Q E) : tCall sp dvs E t σ H Q := q
instance {sp : Sp} {dvs : List V} {E : XK} {t : TA} : Step (tCall sp dvs E t σ H Q) (t σ H fun vs H1 => sp (vs ++ dvs) H1 Q E) := ⟨w_call⟩ -- st
theorem w_callN {n m : Nat} {sp : Sp} {gV : List V → List V → List V} {E : XK} {t tk : TA} (q : t σ H fun vs H1 => tk σ H1 fun zs H2 => vs.length = n ∧ zs.length = m ∧ sp (gV vs zs) H2 Q E) : tCallN n m sp gV E t tk σ H Q := q
instance {n m : Nat} {sp : Sp} {gV : List V → List V → List V} {E : XK} {t tk : TA} : Step (tCallN n m sp gV E t tk σ H Q) (t σ H fun vs H1 => tk σ H1 fun zs H2 => vs.length = n ∧ zs.length = m ∧ sp (gV vs zs) H2 Q E) := ⟨w_callN⟩ -- st
theorem w_CB {r : List V → Hp → VK → Prop} {t : TA} (q : t σ H fun vs H1 => r vs H1 Q) : tCB r t σ H Q := q
instance {r : List V → Hp → VK → Prop} {t : TA} : Step (tCB r t σ H Q) (t σ H fun vs H1 => r vs H1 Q) := ⟨w_CB⟩ -- st
theorem w_tup {t : TA} (q : t σ H fun xs H1 => xs.length ≤ sizeLine ∧ ∀ p, H1 p = none → Q (.ref p) (upd H1 p (.tup xs))) : tTup t σ H Q := q
instance {t : TA} : StepO (tTup t σ H Q) (t σ H fun xs H1 => xs.length ≤ sizeLine ∧ ∀ p, H1 p = none → Q (.ref p) (upd H1 p (.tup xs))) := ⟨w_tup⟩ -- st
theorem w_lst {t : TA} (q : t σ H fun xs H1 => xs.length ≤ sizeLine ∧ ∀ p, H1 p = none → Q (.ref p) (upd H1 p (.lst xs))) : tLst t σ H Q := q
instance {t : TA} : StepO (tLst t σ H Q) (t σ H fun xs H1 => xs.length ≤ sizeLine ∧ ∀ p, H1 p = none → Q (.ref p) (upd H1 p (.lst xs))) := ⟨w_lst⟩ -- st
theorem w_sl {r : V → Option Int → Option Int → Hp → VK → Prop} {tl th : TO} (q : te σ H fun x H1 => tl σ H1 fun l H2 => th σ H2 fun u H3 => r x l u H3 Q) : tSl r te tl th σ H Q := q
instance {r : V → Option Int → Option Int → Hp → VK → Prop} {tl th : TO} : Step (tSl r te tl th σ H Q) (te σ H fun x H1 => tl σ H1 fun l H2 => th σ H2 fun u H3 => r x l u H3 Q) := ⟨w_sl⟩ -- st
theorem w_nop {Z : Option Int → Hp → Prop} (q : Z none H) : tNoPart σ H Z := q
instance {Z : Option Int → Hp → Prop} : Step (tNoPart σ H Z) (Z none H) := ⟨w_nop⟩ -- st
theorem w_part {Z : Option Int → Hp → Prop} (q : te σ H fun x H1 => asInt x H1 fun i H2 => Z (some i) H2) : tPart te σ H Z := q
instance {Z : Option Int → Hp → Prop} : Step (tPart te σ H Z) (te σ H fun x H1 => asInt x H1 fun i H2 => Z (some i) H2) := ⟨w_part⟩ -- st
theorem w_BM0 {T : String} {r : V → List V → Hp → VK → Prop} (q : ta σ H fun x H1 => tyV K T x H1 ∧ r x [] H1 Q) : tBM0 K T r ta σ H Q := q
instance {T : String} {r : V → List V → Hp → VK → Prop} : Step (tBM0 K T r ta σ H Q) (ta σ H fun x H1 => tyV K T x H1 ∧ r x [] H1 Q) := ⟨w_BM0⟩ -- st
theorem w_BM {T : String} {r : V → List V → Hp → VK → Prop} {t : TA} (q : ta σ H fun x H1 => tyV K T x H1 ∧ t σ H1 fun xs H2 => r x xs H2 Q) : tBM K T r ta t σ H Q := q
instance {T : String} {r : V → List V → Hp → VK → Prop} {t : TA} : Step (tBM K T r ta t σ H Q) (ta σ H fun x H1 => tyV K T x H1 ∧ t σ H1 fun xs H2 => r x xs H2 Q) := ⟨w_BM⟩ -- st
def asStr (x : V) (P : Prop) : Prop := (∃ a, x = .str a) ∧ P
theorem w_M0 {r : V → List V → Hp → VK → Prop} (q : ta σ H fun x H1 => asStr x (r x [] H1 Q)) : tM0 r ta σ H Q := q
instance {r : V → List V → Hp → VK → Prop} : Step (tM0 r ta σ H Q) (ta σ H fun x H1 => asStr x (r x [] H1 Q)) := ⟨w_M0⟩ -- st
theorem w_M1 {r : V → List V → Hp → VK → Prop} (q : ta σ H fun x H1 => asStr x (te σ H1 fun y H2 => r x [y] H2 Q)) : tM1 r ta te σ H Q := q
instance {r : V → List V → Hp → VK → Prop} : Step (tM1 r ta te σ H Q) (ta σ H fun x H1 => asStr x (te σ H1 fun y H2 => r x [y] H2 Q)) := ⟨w_M1⟩ -- st
theorem w_asStr {a : Str} {P : Prop} (q : P) : asStr (.str a) P := ⟨⟨a, rfl⟩, q⟩
instance {a : Str} {P : Prop} : Step (asStr (.str a) P) (P) := ⟨w_asStr⟩ -- st
theorem w_sub {to ti : TE} {t : TSet} {Z : L2.St → Hp → Prop} (q : to σ H fun o H1 => ti σ H1 fun i H2 => t o i v H2 fun H3 => Z σ H3) : gSub to ti t v σ H Z := q
instance {to ti : TE} {t : TSet} {Z : L2.St → Hp → Prop} : Step (gSub to ti t v σ H Z) (to σ H fun o H1 => ti σ H1 fun i H2 => t o i v H2 fun H3 => Z σ H3) := ⟨w_sub⟩ -- st
-- statements
section
variable {t u tbody : TS} {c : TT} {g : TG}
theorem w_seq (q : t ⟨u ⟨nx, rt, bk, ct⟩, rt, bk, ct⟩ σ H) : tSeq t u ⟨nx, rt, bk, ct⟩ σ H := q
instance : Step (tSeq t u ⟨nx, rt, bk, ct⟩ σ H) (t ⟨u ⟨nx, rt, bk, ct⟩, rt, bk, ct⟩ σ H) := ⟨w_seq⟩ -- st
theorem w_cut (Mid : L2.St → Hp → Prop) (h1 : t ⟨Mid, rt, bk, ct⟩ σ H) (h2 : ∀ σ' H', Mid σ' H' → u ⟨nx, rt, bk, ct⟩ σ' H') : C8.tCut t u ⟨nx, rt, bk, ct⟩ σ H := ⟨Mid, h1, h2⟩
theorem w_asg (q : te σ H fun x H1 => g x σ H1 nx) : tAsg te g ⟨nx, rt, bk, ct⟩ σ H := q
instance : Step (tAsg te g ⟨nx, rt, bk, ct⟩ σ H) (te σ H fun x H1 => g x σ H1 nx) := ⟨w_asg⟩ -- st
theorem w_ret (q : te σ H rt) : tRet te ⟨nx, rt, bk, ct⟩ σ H := q
instance : Step (tRet te ⟨nx, rt, bk, ct⟩ σ H) (te σ H rt) := ⟨w_ret⟩ -- st
theorem w_retN (q : rt .non H) : tRetN ⟨nx, rt, bk, ct⟩ σ H := q
instance : Step (tRetN ⟨nx, rt, bk, ct⟩ σ H) (rt .non H) := ⟨w_retN⟩ -- st
theorem w_drop (q : te σ H fun _ H1 => nx σ H1) : tDrop te ⟨nx, rt, bk, ct⟩ σ H := q
instance : Step (tDrop te ⟨nx, rt, bk, ct⟩ σ H) (te σ H fun _ H1 => nx σ H1) := ⟨w_drop⟩ -- st
theorem w_ifS (q : c σ H fun b H1 => if b = true then t ⟨nx, rt, bk, ct⟩ σ H1 else u ⟨nx, rt, bk, ct⟩ σ H1) : tIfS c t u ⟨nx, rt, bk, ct⟩ σ H := q
instance : Step (tIfS c t u ⟨nx, rt, bk, ct⟩ σ H) (c σ H fun b H1 => if b = true then t ⟨nx, rt, bk, ct⟩ σ H1 else u ⟨nx, rt, bk, ct⟩ σ H1) := ⟨w_ifS⟩ -- st
theorem w_nx (q : nx σ H) : tNext ⟨nx, rt, bk, ct⟩ σ H := q
instance : Step (tNext ⟨nx, rt, bk, ct⟩ σ H) (nx σ H) := ⟨w_nx⟩ -- st
theorem w_cont (q : ct σ H) : tCont ⟨nx, rt, bk, ct⟩ σ H := q
instance : Step (tCont ⟨nx, rt, bk, ct⟩ σ H) (ct σ H) := ⟨w_cont⟩ -- st
theorem w_brk (q : bk σ H) : tBreak ⟨nx, rt, bk, ct⟩ σ H := q
instance : Step (tBreak ⟨nx, rt, bk, ct⟩ σ H) (bk σ H) := ⟨w_brk⟩ -- st
theorem w_tgt {n : Nat} {ts : TGs} {Z : L2.St → Hp → Prop} {a : Addr} (xs : List V) (h : SqT K H a xs) (hn : xs.length = n) (q : ts xs σ H Z) : gTup K n ts (.ref a) σ H Z := ⟨a, xs, rfl, h, hn, q⟩
instance {n : Nat} {ts : TGs} {Z : L2.St → Hp → Prop} {a : Addr} : SideK (gTup K n ts (.ref a) σ H Z) 5 := ⟨⟩ -- st
theorem w_gc {ts : TGs} {xs : List V} {Z : L2.St → Hp → Prop} (q : g v σ H fun σ' H' => ts xs σ' H' Z) : gCons g ts (v :: xs) σ H Z := ⟨v, xs, rfl, q⟩
instance {ts : TGs} {xs : List V} {Z : L2.St → Hp → Prop} : Step (gCons g ts (v :: xs) σ H Z) (g v σ H fun σ' H' => ts xs σ' H' Z) := ⟨w_gc⟩ -- st
theorem w_gn {Z : L2.St → Hp → Prop} (q : Z σ H) : gNil [] σ H Z := ⟨rfl, q⟩
instance {Z : L2.St → Hp → Prop} : Step (gNil [] σ H Z) (Z σ H) := ⟨w_gn⟩ -- st
/-- for k in range(n), range(a, b) -/
theorem w_for {wi : TI} (q : wi σ H fun J H1 => ∃ W : Nat → Nat → L2.St → Hp → Prop, (∃ m, W 0 m σ H1) ∧ ∀ i m σ H, W i m σ H →
      (J.stop i H ∧ nx σ H) ∨ (J.go i H ∧ ∃ N : L2.St → Hp → Prop, (∀ σ' H', N σ' H' → ∃ m', m' < m ∧ W (i + 1) m' σ' H') ∧ ∀ x H', J.yld i H x H' → g x σ H' fun σ2 H2 => tbody ⟨N, rt, nx, N⟩ σ2 H2)) : tFor wi g tbody ⟨nx, rt, bk, ct⟩ σ H := q
instance {wi : TI} : StepO (tFor wi g tbody ⟨nx, rt, bk, ct⟩ σ H) (wi σ H fun J H1 => ∃ W : Nat → Nat → L2.St → Hp → Prop, (∃ m, W 0 m σ H1) ∧ ∀ i m σ H, W i m σ H → (J.stop i H ∧ nx σ H) ∨ (J.go i H ∧ ∃ N : L2.St → Hp → Prop, (∀ σ' H', N σ' H' → ∃ m', m' < m ∧ W (i + 1) m' σ' H') ∧ ∀ x H', J.yld i H x H' → g x σ H' fun σ2 H2 => tbody ⟨N, rt, nx, N⟩ σ2 H2)) := ⟨w_for⟩ -- st
end
theorem w_rng1 {t : TA} {R : It → Hp → Prop} (q : t σ H fun vs H1 => ∃ j : Int, vs = [.int j] ∧ -(2 ^ 62) ≤ j ∧ j < 2 ^ 62 ∧ R (Itr 0 j.toNat) H1) : iRng1 t σ H R := q
instance {t : TA} {R : It → Hp → Prop} : StepO (iRng1 t σ H R) (t σ H fun vs H1 => ∃ j : Int, vs = [.int j] ∧ -(2 ^ 62) ≤ j ∧ j < 2 ^ 62 ∧ R (Itr 0 j.toNat) H1) := ⟨w_rng1⟩ -- st
theorem w_rng2 {t : TA} {R : It → Hp → Prop} (q : t σ H fun vs H1 => ∃ i j : Int, vs = [.int i, .int j] ∧ (-(2 ^ 62) ≤ i ∧ i < 2 ^ 62 ∧ -(2 ^ 62) ≤ j ∧ j < 2 ^ 62) ∧ R (Itr i (j - i).toNat) H1) : iRng2 t σ H R := q
instance {t : TA} {R : It → Hp → Prop} : StepO (iRng2 t σ H R) (t σ H fun vs H1 => ∃ i j : Int, vs = [.int i, .int j] ∧ (-(2 ^ 62) ≤ i ∧ i < 2 ^ 62 ∧ -(2 ^ 62) ≤ j ∧ j < 2 ^ 62) ∧ R (Itr i (j - i).toNat) H1) := ⟨w_rng2⟩ -- st
theorem w_ilist {R : It → Hp → Prop} (q : te σ H fun x H1 => ∃ a, x = .ref a ∧ (∃ xs, SqL K H1 a xs) ∧ R (Itl K a) H1) : iList K te σ H R := q
instance {R : It → Hp → Prop} : StepO (iList K te σ H R) (te σ H fun x H1 => ∃ a, x = .ref a ∧ (∃ xs, SqL K H1 a xs) ∧ R (Itl K a) H1) := ⟨w_ilist⟩ -- st
theorem w_itup {R : It → Hp → Prop} (q : te σ H fun x H1 => ∃ a, x = .ref a ∧ (∃ xs, SqT K H1 a xs) ∧ R (Itt K a) H1) : iTup K te σ H R := q
instance {R : It → Hp → Prop} : StepO (iTup K te σ H R) (te σ H fun x H1 => ∃ a, x = .ref a ∧ (∃ xs, SqT K H1 a xs) ∧ R (Itt K a) H1) := ⟨w_itup⟩ -- st
theorem w_istr {R : It → Hp → Prop} (q : te σ H fun v H1 => ∃ x, v = .str x ∧ R (Its x) H1) : iStr te σ H R := q
instance {R : It → Hp → Prop} : StepO (iStr te σ H R) (te σ H fun v H1 => ∃ x, v = .str x ∧ R (Its x) H1) := ⟨w_istr⟩ -- st
theorem w_lc {wi : TI} {g : TG} {tt : TT} {vs : List Nat} (q : wi σ H fun J H1 => ∀ D, H1 D = none → ∃ W : Nat → Nat → Hp → Prop, (∃ m, W 0 m (upd H1 D (.lst []))) ∧ ∀ i m H, W i m H →
    (J.stop i H ∧ Q (.ref D) H) ∨ (J.go i H ∧ ∃ Nx : Hp → Prop, (∀ H', Nx H' → ∃ m', m' < m ∧ W (i + 1) m' H') ∧ ∀ x H', J.yld i H x H' → g x (wipe σ vs) H' fun σ2 H2 => wipe σ2 vs = wipe σ vs ∧ tt σ2 H2 fun b H3 =>
      if b = true then te σ2 H3 fun y H4 => ∃ acc, H4 D = some (.lst acc) ∧ acc.length < sizeLine ∧ Nx (upd H4 D (.lst (acc ++ [y]))) else Nx H3)) : tLc wi g tt te vs σ H Q := q
instance {wi : TI} {g : TG} {tt : TT} {vs : List Nat} : StepO (tLc wi g tt te vs σ H Q) (wi σ H fun J H1 => ∀ D, H1 D = none → ∃ W : Nat → Nat → Hp → Prop, (∃ m, W 0 m (upd H1 D (.lst []))) ∧ ∀ i m H, W i m H → (J.stop i H ∧ Q (.ref D) H) ∨ (J.go i H ∧ ∃ Nx : Hp → Prop, (∀ H', Nx H' → ∃ m', m' < m ∧ W (i + 1) m' H') ∧ ∀ x H', J.yld i H x H' → g x (wipe σ vs) H' fun σ2 H2 => wipe σ2 vs = wipe σ vs ∧ tt σ2 H2 fun b H3 => if b = true then te σ2 H3 fun y H4 => ∃ acc, H4 D = some (.lst acc) ∧ acc.length < sizeLine ∧ Nx (upd H4 D (.lst (acc ++ [y]))) else Nx H3)) := ⟨w_lc⟩ -- st
/-- a test that is open -/
theorem w_ite {p : Prop} [Decidable p] {A B : Prop} (h1 : p → A) (h2 : ¬ p → B) : if decide p = true then A else B := by
  by_cases h : p
  · rw [if_pos (decide_eq_true h)]
    exact h1 h
  · rw [if_neg (by simpa using h)]
    exact h2 h
theorem w_iteT {p : Prop} [Decidable p] {A B : Prop} (hp : p) (h1 : A) : if decide p = true then A else B := by
  rw [if_pos (decide_eq_true hp)]
  exact h1
instance {p : Prop} [Decidable p] {A B : Prop} : SideK (if decide p = true then A else B) 6 := ⟨⟩ -- st
theorem w_iteF {p : Prop} [Decidable p] {A B : Prop} (hp : ¬ p) (h2 : B) : if decide p = true then A else B := by
  rw [if_neg (by simpa using hp)]
  exact h2
theorem w_tt {A B : Prop} (h : A) : if true = true then A else B := by rw [if_pos rfl]; exact h
instance {A B : Prop} : Step (if true = true then A else B) (A) := ⟨w_tt⟩ -- st
theorem w_ff {A B : Prop} (h : B) : if false = true then A else B := by rw [if_neg Bool.false_ne_true]; exact h
instance {A B : Prop} : Step (if false = true then A else B) (B) := ⟨w_ff⟩ -- st
theorem w_ntt {A B : Prop} (h : B) : if (!true) = true then A else B := by rw [if_neg (by decide)]; exact h
instance {A B : Prop} : Step (if (!true) = true then A else B) (B) := ⟨w_ntt⟩ -- st
theorem w_nff {A B : Prop} (h : A) : if (!false) = true then A else B := by rw [if_pos (by rfl)]; exact h
instance {A B : Prop} : Step (if (!false) = true then A else B) (A) := ⟨w_nff⟩ -- st
/-- subscripts -/
theorem w_ixL {p : Addr} {i : Int} (xs : List V) (v : V) (h : SqL K H p xs) (a : atI xs i = some v) (q : Q v H) : rIxL K (.ref p) (.int i) H Q := ⟨p, xs, i, v, rfl, rfl, h, a, q⟩
instance {p : Addr} {i : Int} : SideK (rIxL K (.ref p) (.int i) H Q) 2 := ⟨⟩ -- st
theorem w_ixT {p : Addr} {i : Int} (xs : List V) (v : V) (h : SqT K H p xs) (a : atI xs i = some v) (q : Q v H) : rIxT K (.ref p) (.int i) H Q := ⟨p, xs, i, v, rfl, rfl, h, a, q⟩
instance {p : Addr} {i : Int} : SideK (rIxT K (.ref p) (.int i) H Q) 2 := ⟨⟩ -- st
theorem w_ixS {z : Str} {i : Int} {c : Nat} (h : z.length ≤ sizeLine) (a : atI z.cps.toList i = some c) (q : Q (.str ⟨#[c]⟩) H) : rIxS (.str z) (.int i) H Q := ⟨z, i, c, rfl, rfl, h, a, q⟩
theorem w_setL {p : Addr} {k : Int} {Z : Hp → Prop} (xs : List V) (j : Nat) (h : H p = some (.lst xs)) (a : ixN xs.length k = some j) (q : Z (upd H p (.lst (xs.set j v)))) : rSetL (.ref p) (.int k) v H Z := ⟨p, xs, k, j, rfl, rfl, h, a, q⟩
instance {p : Addr} {k : Int} {Z : Hp → Prop} : SideK (rSetL (.ref p) (.int k) v H Z) 3 := ⟨⟩ -- st
theorem w_b1 {p : Addr} (a0 a1 a2 a3 a4 : V) {Z : Hp → Prop} (h : H p = some (.lst [a0, a1, a2, a3, a4])) (q : Z (upd H p (.lst [a0, v, a2, a3, a4]))) : rSetL (.ref p) (.int 1) v H Z := ⟨p, _, 1, 1, rfl, rfl, h, rfl, q⟩
instance {p : Addr} {Z : Hp → Prop} : SideK (rSetL (.ref p) (.int 1) v H Z) 3 := ⟨⟩ -- st
theorem w_b2 {p : Addr} (a0 a1 a2 a3 a4 : V) {Z : Hp → Prop} (h : H p = some (.lst [a0, a1, a2, a3, a4])) (q : Z (upd H p (.lst [a0, a1, v, a3, a4]))) : rSetL (.ref p) (.int 2) v H Z := ⟨p, _, 2, 2, rfl, rfl, h, rfl, q⟩
theorem w_b3 {p : Addr} (a0 a1 a2 a3 a4 : V) {Z : Hp → Prop} (h : H p = some (.lst [a0, a1, a2, a3, a4])) (q : Z (upd H p (.lst [a0, a1, a2, v, a4]))) : rSetL (.ref p) (.int 3) v H Z := ⟨p, _, 3, 3, rfl, rfl, h, rfl, q⟩
theorem w_b4 {p : Addr} (a0 a1 a2 a3 a4 : V) {Z : Hp → Prop} (h : H p = some (.lst [a0, a1, a2, a3, a4])) (q : Z (upd H p (.lst [a0, a1, a2, a3, v]))) : rSetL (.ref p) (.int 4) v H Z := ⟨p, _, 4, 4, rfl, rfl, h, rfl, q⟩
theorem w_app {l : Addr} (xs : List V) (h : H l = some (.lst xs)) (hn : xs.length < sizeLine) (q : Q .non (upd H l (.lst (xs ++ [y])))) : rAppend (.ref l) [y] H Q := ⟨l, xs, y, rfl, rfl, h, hn, q⟩
instance {l : Addr} : SideK (rAppend (.ref l) [y] H Q) 3 := ⟨⟩ -- st
theorem w_tyL {l : Addr} {P : Prop} (xs : List V) (h : SqL K H l xs) (q : P) : tyV K "list" (.ref l) H ∧ P := ⟨.inl ⟨rfl, _, h⟩, q⟩
instance {l : Addr} {P : Prop} : SideK (tyV K "list" (.ref l) H ∧ P) 2 := ⟨⟩ -- st
theorem w_lenQ {p : Addr} (xs : List V) (h : SqL K H p xs) (q : Q (.int xs.length) H) : rLenQ K [.ref p] H Q := ⟨p, xs, rfl, .inl h, q⟩
instance {p : Addr} : SideK (rLenQ K [.ref p] H Q) 2 := ⟨⟩ -- st
theorem w_lenQT {p : Addr} (xs : List V) (h : SqT K H p xs) (q : Q (.int xs.length) H) : rLenQ K [.ref p] H Q := ⟨p, xs, rfl, .inr h, q⟩
theorem w_lenS {z : Str} (h : z.length ≤ sizeLine) (q : Q (.int z.length) H) : rLenS [.str z] H Q := ⟨z, rfl, h, q⟩
instance {z : Str} : SideK (rLenS [.str z] H Q) 2 := ⟨⟩ -- st
theorem w_listOf {p : Addr} (xs : List V) (h : SqL K H p xs) (q : ∀ l, H l = none → Q (.ref l) (upd H l (.lst xs))) : rListOf K [.ref p] H Q := ⟨p, xs, rfl, .inl h, q⟩
instance {p : Addr} : SideK (rListOf K [.ref p] H Q) 3 := ⟨⟩ -- st
theorem w_int1 {i : Int} (q : Q (.int i) H) : rInt1 [.int i] H Q := .inl ⟨i, rfl, q⟩
instance {i : Int} : Step (rInt1 [.int i] H Q) (Q (.int i) H) := ⟨w_int1⟩ -- st
theorem w_int1b {b : Bool} (q : Q (.int (if b then 1 else 0)) H) : rInt1 [.bl b] H Q := .inr ⟨b, rfl, q⟩
instance {b : Bool} : Step (rInt1 [.bl b] H Q) (Q (.int (if b then 1 else 0)) H) := ⟨w_int1b⟩ -- st
theorem w_abs {i : Int} (q : Q (.int (if i < 0 then -i else i)) H) : rAbs [.int i] H Q := ⟨i, rfl, q⟩
instance {i : Int} : Step (rAbs [.int i] H Q) (Q (.int (if i < 0 then -i else i)) H) := ⟨w_abs⟩ -- st
theorem w_min2 {i j : Int} (q : Q (.int (if j < i then j else i)) H) : rMin2 [.int i, .int j] H Q := ⟨i, j, rfl, q⟩
instance {i j : Int} : Step (rMin2 [.int i, .int j] H Q) (Q (.int (if j < i then j else i)) H) := ⟨w_min2⟩ -- st
theorem w_max2 {i j : Int} (q : Q (.int (if j > i then j else i)) H) : rMax2 [.int i, .int j] H Q := ⟨i, j, rfl, q⟩
instance {i j : Int} : Step (rMax2 [.int i, .int j] H Q) (Q (.int (if j > i then j else i)) H) := ⟨w_max2⟩ -- st
theorem w_min3 {i j k : Int} (q : Q (.int (min (min i j) k)) H) : rNuC3 nuMin3 [.int i, .int j, .int k] H Q := by
  refine ⟨.int i, .int j, .int k, .int (min (min i j) k), rfl, ?_, q⟩
  have e1 : nuMin2 (.int i) (.int j) = some (.int (min i j)) := by
    show some (if decide (j < i) = true then V.int j else V.int i) = _
    by_cases h : j < i
    · rw [if_pos (decide_eq_true h)]
      congr 2
      omega
    · rw [if_neg (by simpa using h)]
      congr 2
      omega
  have e2 : nuMin2 (.int (min i j)) (.int k) = some (.int (min (min i j) k)) := by
    show some (if decide (k < min i j) = true then V.int k else V.int (min i j)) = _
    by_cases h : k < min i j
    · rw [if_pos (decide_eq_true h)]
      congr 2
      omega
    · rw [if_neg (by simpa using h)]
      congr 2
      omega
  show (nuMin2 (.int i) (.int j)).bind (fun m => nuMin2 m (.int k)) = _
  rw [e1]
  exact e2
instance {i j k : Int} : Step (rNuC3 nuMin3 [.int i, .int j, .int k] H Q) (Q (.int (min (min i j) k)) H) := ⟨w_min3⟩ -- st
theorem w_slL {p : Addr} {lo hi : Option Int} (xs : List V) (h : SqL K H p xs) (q : ∀ l, H l = none → Q (.ref l) (upd H l (.lst (cutV xs lo hi)))) : rSlL K (.ref p) lo hi H Q := ⟨p, xs, rfl, h, q⟩
instance {p : Addr} {lo hi : Option Int} : SideK (rSlL K (.ref p) lo hi H Q) 3 := ⟨⟩ -- st
theorem w_slS {z : Str} {lo hi : Option Int} (h : z.length ≤ sizeLine) (q : Q (.str (cutS z lo hi)) H) : rSlS (.str z) lo hi H Q := ⟨z, rfl, h, q⟩
end
end R
namespace R
open PySem L2
/-! ### the bag of a law: its cells (never changed), a place, what is left, the stirred number, a count -/
structure Bag (K : PySem.W.Frag) (F H : Hp) (b : Addr) : Prop where
  ex : ∃ (c : Addr) (cells : List Int) (i cur st n : Int), F b = none ∧ H b = some (.lst [.ref c, .int i, .int cur, .int st, .int n]) ∧ SqL K F c (cells.map V.int) ∧ cells.length ≤ 63 ∧
    (∀ x ∈ cells, 0 ≤ x ∧ x < 10 ^ 60) ∧ 0 ≤ i ∧ 0 ≤ cur ∧ cur < 10 ^ 60 ∧ 0 ≤ st ∧ st < 2147483647
theorem Bag.keep {K : PySem.W.Frag} {M : List Addr} {F H F2 H2 : Hp} {b : Addr} (g : Gr M F H F2 H2) (h : Bag K F H b) (hb : b ∉ M) : Bag K F2 H2 b := by
  obtain ⟨c, cells, i, cur, st, n, h1, h2, h3, h4⟩ := h.ex
  exact ⟨c, cells, i, cur, st, n, g.nw b (ne_none h2) h1, g.hh b _ hb h2, sqL_same g.ff h3, h4⟩
theorem Bag.ne_new {K : PySem.W.Frag} {F H : Hp} {b q : Addr} (h : Bag K F H b) (hq : H q = none) : b ≠ q := by
  obtain ⟨c, cells, i, cur, st, n, h1, h2, _⟩ := h.ex
  exact ne_of_none h2 hq
/-- a draw: a number from 0 on below n -/
def φdraw (K : PySem.W.Frag) : V → V → Hp → VK → Prop := fun x y H Q => ∃ (b : Addr) (m : Int) (F : Hp), x = .ref b ∧ y = .int m ∧ Same F H ∧ Bag K F H b ∧ 0 < m ∧ m < 2 ^ 200 ∧
  ∀ (r : Int) (F2 H2 : Hp), Gr [b] F H F2 H2 → Bag K F2 H2 b → 0 ≤ r → r < m → Q (.int r) H2
theorem u_draw {K : PySem.W.Frag} {b : Addr} {m : Int} {F H : Hp} {Q : VK} {E : XK} (w : Same F H) (hb : Bag K F H b) (h0 : 0 < m) (h1 : m < 2 ^ 200) (q : ∀ (r : Int) (F2 H2 : Hp), Gr [b] F H F2 H2 → Bag K F2 H2 b → 0 ≤ r → r < m → Q (.int r) H2) :
    S2 (φdraw K) ([.ref b, .int m] ++ []) H Q E := ⟨b, m, F, rfl, rfl, w, hb, h0, h1, q⟩
def φbag (K : PySem.W.Frag) : V → Hp → VK → Prop := fun x H Q => ∃ (a : Addr) (ns : List Int), x = .ref a ∧ SqL K H a (ns.map V.int) ∧ ns.length ≤ 63 ∧
  ∀ (b : Addr) (F2 H2 : Hp), Gr [] H H F2 H2 → Bag K F2 H2 b → Q (.ref b) H2
theorem bits_le {m : Int} (h0 : 0 < m) (h1 : m < 2 ^ 200) : (Builtin.Int.intBits m : Int) ≤ 200 := by
  have h : m.natAbs < 2 ^ 200 := by omega
  have e := PyProof.Rows.intBits_le h
  omega
theorem mod_nn {a b : Int} (h : 0 < b) : 0 ≤ a % b := Int.emod_nonneg a (by omega)
theorem mod_lt {a b : Int} (h : 0 < b) : a % b < b := Int.emod_lt_of_pos a h
theorem div_nn {a b : Int} (ha : 0 ≤ a) (hb : 0 < b) : 0 ≤ a / b := Int.ediv_nonneg ha (by omega)
theorem div_le' {a b : Int} (ha : 0 ≤ a) (hb : 0 < b) : a / b ≤ a := Int.ediv_le_self b ha
theorem log2_lt {j : Int} (h : j.natAbs < 2 ^ 8999) (h0 : 0 < j) : CDivW 0 j := by
  refine ⟨h0, ?_⟩
  have hp : j.natAbs ≠ 0 := by omega
  have := (Nat.log2_lt hp).mpr h
  omega
theorem divw_ok {i j : Int} (h0 : 0 < j) (h1 : j < 2 ^ 200) : CDivW i j := by
  refine ⟨h0, ?_⟩
  have hp : j.natAbs ≠ 0 := by omega
  have h : j.natAbs < 2 ^ 200 := by omega
  have := (Nat.log2_lt hp).mpr h
  omega
/-! ### loops by what holds at each turn -/
section
variable {K : PySem.W.Frag} {σ : L2.St} {H : Hp} {Q : VK} {nx bk ct : L2.St → Hp → Prop} {rt : VK} {g : TG} {tb : TS}
/-- what tFor asks of a range, by what holds ahead of turn i -/
theorem f_range {lo : Int} {n : Nat} (Pv : Nat → L2.St → Hp → Prop) (h0 : Pv 0 σ H) (hs : ∀ i σ H, i < n → Pv i σ H → g (.int (lo + i)) σ H fun σ2 H2 => tb ⟨Pv (i + 1), rt, nx, Pv (i + 1)⟩ σ2 H2) (hd : ∀ σ H, Pv n σ H → nx σ H) :
    ∃ W : Nat → Nat → L2.St → Hp → Prop, (∃ m, W 0 m σ H) ∧ ∀ i m σ H, W i m σ H →
      ((Itr lo n).stop i H ∧ nx σ H) ∨ ((Itr lo n).go i H ∧ ∃ N : L2.St → Hp → Prop, (∀ σ' H', N σ' H' → ∃ m', m' < m ∧ W (i + 1) m' σ' H') ∧ ∀ x H', (Itr lo n).yld i H x H' → g x σ H' fun σ2 H2 => tb ⟨N, rt, nx, N⟩ σ2 H2) := by
  refine ⟨fun i m σ H => m = n - i ∧ i ≤ n ∧ Pv i σ H, ⟨n, by simp, Nat.zero_le _, h0⟩, ?_⟩
  rintro i m σ H ⟨rfl, hi, p⟩
  by_cases hlt : i < n
  · refine .inr ⟨hlt, Pv (i + 1), fun σ' H' p' => ⟨n - (i + 1), by omega, rfl, hlt, p'⟩, fun x H' y => ?_⟩
    obtain ⟨e, y⟩ := y
    subst e y
    exact hs i σ _ hlt p
  · have e : i = n := by omega
    subst e
    exact .inl ⟨Nat.le_refl _, hd σ H p⟩
theorem f_range0 {n : Nat} (Pv : Nat → L2.St → Hp → Prop) (h0 : Pv 0 σ H) (hs : ∀ i σ H, i < n → Pv i σ H → g (.int (i : Int)) σ H fun σ2 H2 => tb ⟨Pv (i + 1), rt, nx, Pv (i + 1)⟩ σ2 H2) (hd : ∀ σ H, Pv n σ H → nx σ H) :
    ∃ W : Nat → Nat → L2.St → Hp → Prop, (∃ m, W 0 m σ H) ∧ ∀ i m σ H, W i m σ H →
      ((Itr 0 n).stop i H ∧ nx σ H) ∨ ((Itr 0 n).go i H ∧ ∃ N : L2.St → Hp → Prop, (∀ σ' H', N σ' H' → ∃ m', m' < m ∧ W (i + 1) m' σ' H') ∧ ∀ x H', (Itr 0 n).yld i H x H' → g x σ H' fun σ2 H2 => tb ⟨N, rt, nx, N⟩ σ2 H2) :=
  f_range Pv h0 (fun i σ H hi hp => by rw [Int.zero_add]; exact hs i σ H hi hp) hd
theorem f_list {a : Addr} {xs : List V} (Pv : Nat → L2.St → Hp → Prop) (h0 : Pv 0 σ H) (hl : ∀ i σ H, i ≤ xs.length → Pv i σ H → SqL K H a xs)
    (hs : ∀ i x σ H, xs[i]? = some x → Pv i σ H → g x σ H fun σ2 H2 => tb ⟨Pv (i + 1), rt, nx, Pv (i + 1)⟩ σ2 H2) (hd : ∀ σ H, Pv xs.length σ H → nx σ H) :
    ∃ W : Nat → Nat → L2.St → Hp → Prop, (∃ m, W 0 m σ H) ∧ ∀ i m σ H, W i m σ H →
      ((Itl K a).stop i H ∧ nx σ H) ∨ ((Itl K a).go i H ∧ ∃ N : L2.St → Hp → Prop, (∀ σ' H', N σ' H' → ∃ m', m' < m ∧ W (i + 1) m' σ' H') ∧ ∀ x H', (Itl K a).yld i H x H' → g x σ H' fun σ2 H2 => tb ⟨N, rt, nx, N⟩ σ2 H2) := by
  refine ⟨fun i m σ H => m = xs.length - i ∧ i ≤ xs.length ∧ Pv i σ H, ⟨xs.length, by simp, Nat.zero_le _, h0⟩, ?_⟩
  rintro i m σ H ⟨rfl, hi, p⟩
  have q := hl i σ H hi p
  by_cases hlt : i < xs.length
  · refine .inr ⟨⟨xs, xs[i], q, by simp [hlt]⟩, Pv (i + 1), fun σ' H' p' => ⟨xs.length - (i + 1), by omega, rfl, hlt, p'⟩, fun x H' y => ?_⟩
    obtain ⟨e, y⟩ := y
    subst e
    exact hs i x σ _ (y xs q) p
  · have e : i = xs.length := by omega
    subst e
    exact .inl ⟨⟨xs, q, Nat.le_refl _⟩, hd σ H p⟩
variable {tt : TT} {te : TE} {vs : List Nat} {D : Addr} {Qd : Hp → Prop}
theorem lc_rng {n : Nat} (Pv : Nat → Hp → Prop) (h0 : Pv 0 (upd H D (.lst []))) (hs : ∀ i H, i < n → Pv i H → g (.int (i : Int)) (wipe σ vs) H fun σ2 H2 => wipe σ2 vs = wipe σ vs ∧ tt σ2 H2 fun b H3 =>
      if b = true then te σ2 H3 fun y H4 => ∃ acc, H4 D = some (.lst acc) ∧ acc.length < sizeLine ∧ Pv (i + 1) (upd H4 D (.lst (acc ++ [y]))) else Pv (i + 1) H3) (hd : ∀ H, Pv n H → Qd H) :
    ∃ W : Nat → Nat → Hp → Prop, (∃ m, W 0 m (upd H D (.lst []))) ∧ ∀ i m H, W i m H →
      ((Itr 0 n).stop i H ∧ Qd H) ∨ ((Itr 0 n).go i H ∧ ∃ Nx : Hp → Prop, (∀ H', Nx H' → ∃ m', m' < m ∧ W (i + 1) m' H') ∧ ∀ x H', (Itr 0 n).yld i H x H' → g x (wipe σ vs) H' fun σ2 H2 => wipe σ2 vs = wipe σ vs ∧ tt σ2 H2 fun b H3 =>
        if b = true then te σ2 H3 fun y H4 => ∃ acc, H4 D = some (.lst acc) ∧ acc.length < sizeLine ∧ Nx (upd H4 D (.lst (acc ++ [y]))) else Nx H3) :=
  lc_range (lo := 0) Pv h0 (fun i H hi hp => by rw [Int.zero_add]; exact hs i H hi hp) hd
end
end R
namespace R
open PySem L2
theorem Gr.put {M : List Addr} {F0 H0 F H : Hp} {p : Addr} {o : HO} (g : Gr M F0 H0 F H) (h : F p = none) (hm : p ∈ M) : Gr M F0 H0 F (upd H p o) := g.trans (.wr g.fh h hm)
theorem Gr.add {M : List Addr} {F0 H0 F H : Hp} {p : Addr} {o : HO} (g : Gr M F0 H0 F H) (h : H p = none) : Gr M F0 H0 (upd F p o) (upd H p o) := g.trans (.im g.fh h)
theorem Gr.addm {M : List Addr} {F0 H0 F H : Hp} {p : Addr} {o : HO} (g : Gr M F0 H0 F H) (h : H p = none) : Gr M F0 H0 F (upd H p o) := g.trans (.new g.fh h)
theorem Gr.ws {M : List Addr} {F H F2 H2 : Hp} (g : Gr M F H F2 H2) : Same F H2 := g.ff.trans g.fh
theorem Gr.transN {M N : List Addr} {F H F1 H1 F2 H2 : Hp} (a : Gr M F H F1 H1) (b : Gr N F1 H1 F2 H2) (h : ∀ x ∈ N, x ∈ M ∨ H x = none) : Gr M F H F2 H2 :=
  ⟨a.ff.trans b.ff, b.fh, fun x o n e => b.hh x o (fun m => (h x m).elim n fun z => by rw [z] at e; cases e) (a.hh x o n e), fun x e => b.al x (a.al x e), fun x e n => b.nw x (a.al x e) (a.nw x e n)⟩
theorem Gr.fresh {M : List Addr} {F0 H0 F H : Hp} {p : Addr} (g : Gr M F0 H0 F H) (h : H p = none) : H0 p = none := by
  cases e : H0 p with
  | none => rfl
  | some o => exact absurd h (g.al p (ne_none e))
/-- an object that was new behind the start, and changes no more -/
theorem Gr.frz {M : List Addr} {F0 H0 F H : Hp} {p : Addr} {o : HO} (g : Gr M F0 H0 F H) (hn : H0 p = none) (m : Mu F H p o) : Gr M F0 H0 (upd F p o) H := by
  refine ⟨g.ff.trans (Same.new m.n), fun a u e => ?_, g.hh, g.al, fun a e n => ?_⟩
  · by_cases q : a = p
    · subst q
      rw [upd_same] at e
      exact m.h.trans e
    · rw [upd_ne q] at e
      exact g.fh a u e
  · have q : a ≠ p := fun z => by subst z; exact e hn
    rw [upd_ne q]
    exact g.nw a e n
theorem Mu.same {F H : Hp} {p : Addr} {o : HO} (m : Mu F H p o) (w : Same F H) : Same (upd F p o) H := fun a u e => by
  by_cases q : a = p
  · subst q
    rw [upd_same] at e
    exact m.h.trans e
  · rw [upd_ne q] at e
    exact w a u e
theorem Mu.frz {F H : Hp} {p q : Addr} {o u : HO} (m : Mu F H p o) (h : p ≠ q) : Mu (upd F q u) H p o := ⟨by rw [upd_ne h]; exact m.n, m.h⟩
theorem Bag.frz {K : PySem.W.Frag} {F H : Hp} {b q : Addr} {u : HO} (h : Bag K F H b) (hn : F q = none) (hq : b ≠ q) : Bag K (upd F q u) H b := by
  obtain ⟨c, cells, i, cur, st, n, h1, h2, h3, h4⟩ := h.ex
  exact ⟨c, cells, i, cur, st, n, by rw [upd_ne hq]; exact h1, h2, sqL_same (Same.new hn) h3, h4⟩
theorem Bag.put {K : PySem.W.Frag} {F H : Hp} {b q : Addr} {u : HO} (h : Bag K F H b) (hq : b ≠ q) : Bag K F (upd H q u) b := by
  obtain ⟨c, cells, i, cur, st, n, h1, h2, h3, h4⟩ := h.ex
  exact ⟨c, cells, i, cur, st, n, h1, by rw [upd_ne hq]; exact h2, h3, h4⟩
theorem Bag.addm {K : PySem.W.Frag} {F H : Hp} {b q : Addr} {u : HO} (h : Bag K F H b) (hq : H q = none) : Bag K F (upd H q u) b := h.put (h.ne_new hq)
theorem Bag.add {K : PySem.W.Frag} {F H : Hp} {b q : Addr} {u : HO} (w : Same F H) (h : Bag K F H b) (hq : H q = none) : Bag K (upd F q u) (upd H q u) b := (h.addm hq).frz (w.free hq) (h.ne_new hq)
theorem Mu.addm {F H : Hp} {p q : Addr} {o u : HO} (m : Mu F H p o) (hq : H q = none) : Mu F (upd H q u) p o := m.oth (m.ne_new hq)
theorem Mu.add {F H : Hp} {p q : Addr} {o u : HO} (m : Mu F H p o) (hq : H q = none) : Mu (upd F q u) (upd H q u) p o := (m.addm hq).frz (m.ne_new hq)
/-! ### data -/
theorem dpa_len {K : PySem.W.Frag} {F : Hp} : ∀ {vs : List V} {ds : List PyData}, DpAll K F vs ds → vs.length = ds.length
  | _, _, .nil => rfl
  | _, _, .cons _ t => congrArg (· + 1) (dpa_len t)
theorem dpa_get {K : PySem.W.Frag} {F : Hp} : ∀ {vs : List V} {ds : List PyData} {i : Nat} {d : PyData}, DpAll K F vs ds → ds[i]? = some d → ∃ v, vs[i]? = some v ∧ Dp K F v d
  | _, _, _, _, .nil, e => by simp at e
  | _, _, 0, _, .cons h _, e => by
    have e' := Option.some.inj e
    subst e'
    exact ⟨_, rfl, h⟩
  | _, _, i + 1, _, .cons _ t, e => dpa_get (i := i) t e
theorem dpa_app {K : PySem.W.Frag} {F : Hp} : ∀ {vs us : List V} {ds es : List PyData}, DpAll K F vs ds → DpAll K F us es → DpAll K F (vs ++ us) (ds ++ es)
  | _, _, _, _, .nil, h => h
  | _, _, _, _, .cons h t, u => .cons h (dpa_app t u)
theorem dpa_snoc {K : PySem.W.Frag} {F : Hp} {vs : List V} {ds : List PyData} {v : V} {d : PyData} (h : DpAll K F vs ds) (hd : Dp K F v d) : DpAll K F (vs ++ [v]) (ds ++ [d]) := dpa_app h (.cons hd .nil)
def tyD : PyData → String
  | .none => "NoneType" | .bool _ => "bool" | .int _ => "int" | .str _ => "str" | .list _ => "list" | .tuple _ => "tuple" | .dict _ => "dict"
theorem tyx_of {K : PySem.W.Frag} {F H : Hp} {x : V} {d : PyData} (h : Dp K F x d) (w : Same F H) : TyX K H x (.type (tyD d)) := by
  cases h with
  | non => exact .base .non
  | bl b => exact .base (.bl b)
  | int i => exact .base (.int i)
  | str s => exact .base (.str s)
  | lst hs _ =>
    rcases hs with (h | ⟨o, h⟩) | ⟨o, its, n, e1, e2, _⟩
    · exact .base (.lst (w _ _ h))
    · exact .base (.frz (w _ _ h))
    · exact .kList e1 e2
  | tup hs _ =>
    rcases hs with (h | ⟨o, h⟩) | ⟨o, its, n, e1, e2, _⟩
    · exact .base (.tup (w _ _ h))
    · exact .fTuple (w _ _ h)
    · exact .kTuple e1 e2
section
variable {K : PySem.W.Frag} {F H : Hp} {x y : V} {d : PyData} {Q : VK} {n m : String} {p : Addr}
theorem u_isi {b : Bool} (h : Dp K F x d) (w : Same F H) (e : kitB (tyD d) n = some b) (q : Q (.bl b) H) : rIsi K [x, .ty n] H Q :=
  ⟨x, .ty n, _, _, b, rfl, .ty n, tyx_of h w, kit_ty e, q⟩
theorem u_isiT {b c : Bool} (h : Dp K F x d) (w : Same F H) (hp : H p = some (.tup [.ty n, .ty m])) (e1 : kitB (tyD d) n = some b) (e2 : kitB (tyD d) m = some c) (q : Q (.bl (b || c)) H) : rIsiT K [x, .ref p] H Q := by
  refine ⟨x, p, _, _, _, b || c, rfl, hp, .cons (.ty n) (.cons (.ty m) .nil), tyx_of h w, ?_, q⟩
  refine kitAny_cons (kit_ty e1) (fun hb => ?_) (fun hb => by rw [hb]; rfl)
  refine kitAny_cons (kit_ty e2) (fun hc => ?_) (fun hc => by rw [hc]; simp)
  rw [hb, hc]
  exact kitAny_nil
end
/-- the answers of isinstance for data -/
def isSeq : PyData → Bool
  | .list _ | .tuple _ => true
  | _ => false
def isLst : PyData → Bool
  | .list _ => true
  | _ => false
def isTup : PyData → Bool
  | .tuple _ => true
  | _ => false
def isBol : PyData → Bool
  | .bool _ => true
  | _ => false
def isInt : PyData → Bool
  | .bool _ | .int _ => true
  | _ => false
def isStr : PyData → Bool
  | .str _ => true
  | _ => false
theorem k_list : ∀ d : PyData, kitB (tyD d) "list" = some (isLst d) := by intro d; cases d <;> simp only [tyD, isLst, isTup, isBol, isInt, isStr] <;> decide +kernel
theorem k_tuple : ∀ d : PyData, kitB (tyD d) "tuple" = some (isTup d) := by intro d; cases d <;> simp only [tyD, isLst, isTup, isBol, isInt, isStr] <;> decide +kernel
theorem k_bool : ∀ d : PyData, kitB (tyD d) "bool" = some (isBol d) := by intro d; cases d <;> simp only [tyD, isLst, isTup, isBol, isInt, isStr] <;> decide +kernel
theorem k_int : ∀ d : PyData, kitB (tyD d) "int" = some (isInt d) := by intro d; cases d <;> simp only [tyD, isLst, isTup, isBol, isInt, isStr] <;> decide +kernel
theorem k_str : ∀ d : PyData, kitB (tyD d) "str" = some (isStr d) := by intro d; cases d <;> simp only [tyD, isLst, isTup, isBol, isInt, isStr] <;> decide +kernel
def itemsD : PyData → List PyData
  | .list ds | .tuple ds => ds
  | _ => []
theorem seq_of {K : PySem.W.Frag} {F : Hp} {x : V} {d : PyData} (h : Dp K F x d) (s : isSeq d = true) : ∃ (a : Addr) (vs : List V), x = .ref a ∧ (SqL K F a vs ∨ SqT K F a vs) ∧ DpAll K F vs (itemsD d) := by
  cases h with
  | lst hs ha => exact ⟨_, _, rfl, .inl hs, ha⟩
  | tup hs ha => exact ⟨_, _, rfl, .inr hs, ha⟩
  | _ => cases s
theorem sca_of {K : PySem.W.Frag} {F : Hp} {x y : V} {d : PyData} (h : Dp K F x d) (h' : Dp K F y d) (s : isSeq d = false) : y = x ∧ scal x x = true := by
  cases h with
  | lst hs ha => cases s
  | tup hs ha => cases s
  | non => cases h'; exact ⟨rfl, rfl⟩
  | bl => cases h'; exact ⟨rfl, rfl⟩
  | int => cases h'; exact ⟨rfl, rfl⟩
  | str => cases h'; exact ⟨rfl, rfl⟩
theorem depth_item : ∀ {d e : PyData} {i : Nat}, isSeq d = true → (itemsD d)[i]? = some e → e.depth < d.depth := by
  have key : ∀ (ds : List PyData) (i : Nat) (e : PyData), ds[i]? = some e → e.depth ≤ PyData.depthAll ds := by
    intro ds
    induction ds with
    | nil => intro i e h; simp at h
    | cons d ds ih =>
      intro i e h
      cases i with
      | zero =>
        have e' := Option.some.inj h
        subst e'
        rw [PyData.depthAll]
        exact Nat.le_max_left _ _
      | succ i =>
        have := ih i e h
        rw [PyData.depthAll]
        exact Nat.le_trans this (Nat.le_max_right _ _)
  intro d e i s h
  cases d with
  | list ds => rw [PyData.depth]; exact Nat.lt_succ_of_le (key ds i e h)
  | tuple ds => rw [PyData.depth]; exact Nat.lt_succ_of_le (key ds i e h)
  | _ => cases s
section
variable {K : PySem.W.Frag} {H : Hp} {Q : VK} {v : V} {A B : Prop}
theorem w_ixQ {a : Addr} {i : Int} (vs : List V) (v : V) (h : SqL K H a vs ∨ SqT K H a vs) (e : atI vs i = some v) (q : Q v H) : rIx K (.ref a) (.int i) H Q := by
  rcases h with h | h
  · exact .inl ⟨a, vs, i, v, rfl, rfl, h, e, q⟩
  · exact .inr (.inl ⟨a, vs, i, v, rfl, rfl, h, e, q⟩)
theorem sq_same {F : Hp} {a : Addr} {vs : List V} (w : Same F H) (h : SqL K F a vs ∨ SqT K F a vs) : SqL K H a vs ∨ SqT K H a vs := h.elim (fun h => .inl (sqL_same w h)) fun h => .inr (sqT_same w h)
theorem w_nself {α : Type} [DecidableEq α] {a : α} (h : B) : if (!decide (a = a)) = true then A else B := by
  rw [if_neg (by simp)]
  exact h
instance {α : Type} [DecidableEq α] {a : α} : Step (if (!decide (a = a)) = true then A else B) (B) := ⟨w_nself⟩ -- st
theorem w_self {α : Type} [DecidableEq α] {a : α} (h : A) : if decide (a = a) = true then A else B := by
  rw [if_pos (by simp)]
  exact h
instance {α : Type} [DecidableEq α] {a : α} : Step (if decide (a = a) = true then A else B) (A) := ⟨w_self⟩ -- st
theorem w_is {b c : Bool} (e : b = c) (h : if c = true then A else B) : if b = true then A else B := by rw [e]; exact h
end
theorem le1000 {n : Nat} (h : n ≤ 1000) : n ≤ sizeLine := Nat.le_of_lt (small1000 h)
theorem small_lt {n : Nat} (h : n ≤ 1000000) : n < sizeLine := by rw [sizeLine_eq]; omega
theorem all_rep (n : Nat) : (List.replicate n true).all id = true := by
  induction n with
  | zero => rfl
  | succ n ih => rw [List.replicate_succ, List.all_cons, ih]; rfl
theorem szle {n : Nat} (h : n ≤ 1000000) : n ≤ sizeLine := Nat.le_of_lt (by rw [sizeLine_eq]; omega)
section
variable {K : PySem.W.Frag} {σ : L2.St} {H : Hp} {Q : VK} {ta : TE}
theorem w_lstRg {te : L2.St → Hp → (Int → Int → Hp → Prop) → Prop} (q : te σ H fun a b H1 => RgOk a b ∧ ∀ q, H1 q = none → Q (.ref q) (upd H1 q (.lst (rgV a b)))) : tLstRg te σ H Q := q
instance {te : L2.St → Hp → (Int → Int → Hp → Prop) → Prop} : StepO (tLstRg te σ H Q) (te σ H fun a b H1 => RgOk a b ∧ ∀ q, H1 q = none → Q (.ref q) (upd H1 q (.lst (rgV a b)))) := ⟨w_lstRg⟩ -- st
theorem w_rg1 {R : Int → Int → Hp → Prop} (q : ta σ H fun x H1 => asInt x H1 fun n H2 => R 0 n H2) : tRg1 ta σ H R := q
instance {R : Int → Int → Hp → Prop} : Step (tRg1 ta σ H R) (ta σ H fun x H1 => asInt x H1 fun n H2 => R 0 n H2) := ⟨w_rg1⟩ -- st
theorem w_revL (q : ta σ H fun x H1 => ∃ a xs, x = .ref a ∧ SqL K H1 a xs ∧ ∀ p, H1 p = none → Q (.ref p) (upd H1 p (.lst xs.reverse))) : tRevL K ta σ H Q := q
instance : StepO (tRevL K ta σ H Q) (ta σ H fun x H1 => ∃ a xs, x = .ref a ∧ SqL K H1 a xs ∧ ∀ p, H1 p = none → Q (.ref p) (upd H1 p (.lst xs.reverse))) := ⟨w_revL⟩ -- st
end
def nV (l : List Nat) : List V := l.map fun k => V.int (k : Nat)
theorem pick_ix {ns : List Int} {i lo hi : Int} (h0 : 0 ≤ i) (h1 : i < (ns.length : Int)) (hb : ∀ x ∈ ns, lo ≤ x ∧ x ≤ hi) : ∃ m, atI (ns.map V.int) i = some (.int m) ∧ lo ≤ m ∧ m ≤ hi := by
  have hi : i.toNat < ns.length := by omega
  refine ⟨ns[i.toNat], ?_, hb _ (List.getElem_mem hi)⟩
  refine at_of (j := i.toNat) (by omega) ?_
  rw [List.getElem?_map, List.getElem?_eq_getElem hi]
  rfl
theorem cell_at {cells : List Int} {i : Int} (h0 : 0 ≤ i) (h1 : i < ((cells.map V.int).length : Nat)) : ∃ x, x ∈ cells ∧ atI (cells.map V.int) i = some (.int x) := by
  rw [List.length_map] at h1
  have hi : i.toNat < cells.length := by omega
  refine ⟨cells[i.toNat], List.getElem_mem hi, ?_⟩
  refine at_of (j := i.toNat) (by omega) ?_
  rw [List.getElem?_map, List.getElem?_eq_getElem hi]
  rfl
theorem cut63 {ns : List Int} (h : ns.length ≤ 63) : cutV (ns.map V.int) none (some 63) = ns.map V.int := by
  unfold cutV
  rw [HT.sIx_none, show HT.sIx (ns.map V.int).length (ns.map V.int).length (some 63) = min 63 (ns.map V.int).length from HT.sIx_nat _ _ 63, List.drop_zero, List.length_map]
  refine List.take_of_length_le ?_
  rw [List.length_map]
  omega
theorem map_get {ns : List Int} {i : Nat} {x : V} (h : (ns.map V.int)[i]? = some x) : ∃ c, x = .int c := by
  rw [List.getElem?_map] at h
  cases e : ns[i]? with
  | none => rw [e] at h; cases h
  | some c =>
    rw [e] at h
    exact ⟨c, (Option.some.inj h).symm⟩
/-! data of modest size, no dicts, plain signs -/
mutual
def good : PyData → Bool
  | .none | .bool _ | .int _ => true
  | .str x => PyData.strOk x && decide (x.length ≤ 100000)
  | .list ds | .tuple ds => decide (ds.length ≤ 100000) && goodAll ds
  | .dict _ => false
def goodAll : List PyData → Bool
  | [] => true
  | d :: ds => good d && goodAll ds
end
theorem goodAll_iff : ∀ {ds : List PyData}, goodAll ds = true ↔ ∀ d ∈ ds, good d = true
  | [] => by simp [goodAll]
  | d :: ds => by simp [goodAll, goodAll_iff (ds := ds)]
mutual
theorem lay_good : ∀ d : PyData, good d = true → d.canLay0 = true
  | .none, _ => rfl
  | .bool _, _ => rfl
  | .int _, _ => rfl
  | .str x, h => by
    rw [good, Bool.and_eq_true] at h
    exact h.1
  | .list ds, h => by
    rw [good, Bool.and_eq_true] at h
    exact lay_goodAll ds h.2
  | .tuple ds, h => by
    rw [good, Bool.and_eq_true] at h
    exact lay_goodAll ds h.2
  | .dict _, h => by cases h
theorem lay_goodAll : ∀ ds : List PyData, goodAll ds = true → PyData.canLayAll0 ds = true
  | [], _ => rfl
  | d :: ds, h => by
    rw [goodAll, Bool.and_eq_true] at h
    rw [PyData.canLayAll0, lay_good d h.1, lay_goodAll ds h.2]
    rfl
end
theorem good_item {d e : PyData} {i : Nat} (h : good d = true) (he : (itemsD d)[i]? = some e) : good e = true := by
  cases d with
  | list ds =>
    rw [good, Bool.and_eq_true] at h
    exact goodAll_iff.mp h.2 e (List.mem_of_getElem? he)
  | tuple ds =>
    rw [good, Bool.and_eq_true] at h
    exact goodAll_iff.mp h.2 e (List.mem_of_getElem? he)
  | _ => simp [itemsD] at he
theorem good_len {d : PyData} (h : good d = true) : (itemsD d).length ≤ 100000 := by
  cases d with
  | list ds =>
    rw [good, Bool.and_eq_true] at h
    exact of_decide_eq_true h.1
  | tuple ds =>
    rw [good, Bool.and_eq_true] at h
    exact of_decide_eq_true h.1
  | _ => exact Nat.zero_le _
theorem good_shaped {d : PyData} (h : good d = true) (hd : d.depth ≤ 64) : SeqAt.shaped d = true := by
  unfold SeqAt.shaped
  rw [lay_good d h, decide_eq_true hd]
  rfl
theorem good_refl {d : PyData} (h : good d = true) : PyData.eqv d d = true := SeqAt.eqv_refl d (lay_good d h)
theorem good_list {ds : List PyData} (hl : ds.length ≤ 100000) (h : ∀ d ∈ ds, good d = true) : good (.list ds) = true := by
  rw [good, Bool.and_eq_true]
  exact ⟨decide_eq_true hl, goodAll_iff.mpr h⟩
theorem good_tuple {ds : List PyData} (hl : ds.length ≤ 100000) (h : ∀ d ∈ ds, good d = true) : good (.tuple ds) = true := by
  rw [good, Bool.and_eq_true]
  exact ⟨decide_eq_true hl, goodAll_iff.mpr h⟩
theorem depth_list {ds : List PyData} {n : Nat} (h : ∀ d ∈ ds, d.depth ≤ n) : (PyData.list ds).depth ≤ n + 1 := by
  have key : ∀ ds : List PyData, (∀ d ∈ ds, d.depth ≤ n) → PyData.depthAll ds ≤ n := by
    intro ds
    induction ds with
    | nil => intro _; exact Nat.zero_le _
    | cons d ds ih =>
      intro h
      rw [PyData.depthAll]
      exact Nat.max_le.mpr ⟨h d (List.mem_cons_self ..), ih fun e he => h e (List.mem_cons_of_mem _ he)⟩
  rw [PyData.depth]
  exact Nat.succ_le_succ (key ds h)
theorem depth_tuple {ds : List PyData} {n : Nat} (h : ∀ d ∈ ds, d.depth ≤ n) : (PyData.tuple ds).depth ≤ n + 1 := depth_list (ds := ds) h
/-! == and != of equal data -/
section
variable {K : PySem.W.Frag} {F H : Hp} {x y : V} {d : PyData} {Q : VK}
theorem u_neD (w : Same F H) (hx : Dp K F x d) (hy : Dp K F y d) (hg : good d = true) (hd : d.depth ≤ 64) (q : Q (.bl false) H) : rNeD K x y H Q :=
  ⟨d, d, dp_same w _ _ hx, dp_same w _ _ hy, good_shaped hg hd, good_shaped hg hd, by rw [good_refl hg]; exact q⟩
end
/-- two things of the same data -/
def φalike (K : PySem.W.Frag) (n : Nat) : V → V → Hp → VK → Prop := fun x y H Q => ∃ (F : Hp) (d : PyData), Same F H ∧ Dp K F x d ∧ Dp K F y d ∧ d.depth < n ∧ good d = true ∧
  ∀ F2 H2 : Hp, Gr [] F H F2 H2 → Q (.bl true) H2
theorem alike0 {K : PySem.W.Frag} {vs : List V} {H : Hp} {Q : VK} {E : XK} (h : S2 (φalike K 0) vs H Q E) : False := by
  match vs, h with
  | [_, _], h =>
    obtain ⟨F, d, _, _, _, hn, _⟩ := h
    exact absurd hn (Nat.not_lt_zero _)
end R
namespace R
open PySem L2
/-! ### data taken apart -/
section
variable {K : PySem.W.Frag} {F : Hp} {x v : V}
theorem dp_int {i : Int} (h : Dp K F x (.int i)) : x = .int i := by cases h; rfl
theorem dp_str {s : Str} (h : Dp K F x (.str s)) : x = .str s := by cases h; rfl
theorem dp_tup {ds : List PyData} (h : Dp K F x (.tuple ds)) : ∃ (a : Addr) (vs : List V), x = .ref a ∧ SqT K F a vs ∧ DpAll K F vs ds := by
  cases h with
  | tup hs ha => exact ⟨_, _, rfl, hs, ha⟩
theorem dpa_cons {vs : List V} {d : PyData} {ds : List PyData} (h : DpAll K F vs (d :: ds)) : ∃ v us, vs = v :: us ∧ Dp K F v d ∧ DpAll K F us ds := by
  cases h with
  | cons h t => exact ⟨_, _, rfl, h, t⟩
theorem dpa_nil {vs : List V} (h : DpAll K F vs []) : vs = [] := by cases h; rfl
theorem dp_tup3 {d1 d2 d3 : PyData} (h : Dp K F x (.tuple [d1, d2, d3])) : ∃ (a : Addr) (v1 v2 v3 : V), x = .ref a ∧ SqT K F a [v1, v2, v3] ∧ Dp K F v1 d1 ∧ Dp K F v2 d2 ∧ Dp K F v3 d3 := by
  obtain ⟨a, vs, rfl, hs, h0⟩ := dp_tup h
  obtain ⟨v1, us, rfl, h1, h0⟩ := dpa_cons h0
  obtain ⟨v2, us, rfl, h2, h0⟩ := dpa_cons h0
  obtain ⟨v3, us, rfl, h3, h0⟩ := dpa_cons h0
  cases dpa_nil h0
  exact ⟨a, v1, v2, v3, rfl, hs, h1, h2, h3⟩
end
/-! ### texts -/
/-- a text of plain signs -/
def okS (z : Str) : Prop := PyData.strOk z = true
instance (z : Str) : Decidable (okS z) := inferInstanceAs (Decidable (PyData.strOk z = true))
theorem ok_cat {a b : Str} (h : okS a) (h' : okS b) : okS (a ++ b) := by
  have e : (a ++ b).cps.toList = a.cps.toList ++ b.cps.toList := TL.tl_append a b
  have h1 : a.cps.all (· < 0x110000) = true := h
  have h2 : b.cps.all (· < 0x110000) = true := h'
  show (a ++ b).cps.all (· < 0x110000) = true
  rw [← Array.all_toList] at h1 h2 ⊢
  rw [e, List.all_append, h1, h2]
  rfl
theorem joined (ys : List Str) (h : ∀ y ∈ ys, y.length = 1 ∧ okS y) : (Txt.join ⟨#[]⟩ ys).length = ys.length ∧ okS (Txt.join ⟨#[]⟩ ys) := by
  have e : TL.tl (Txt.join ⟨#[]⟩ ys) = (ys.map TL.tl).flatten := by
    rw [TL.join_eq, TL.tl_join]
    have key : ∀ l : List (List Nat), TL.joinL [] l = l.flatten := by
      intro l
      induction l with
      | nil => rfl
      | cons p r ih =>
        cases r with
        | nil => simp [TL.joinL]
        | cons q r =>
          show p ++ ([] ++ TL.joinL [] (q :: r)) = _
          rw [ih, List.nil_append]
          rfl
    exact key _
  have hl : ∀ z : Str, z.length = (TL.tl z).length := fun z => by simp [TL.tl, Str.length]
  constructor
  · rw [hl, e]
    clear e
    induction ys with
    | nil => rfl
    | cons y r ih =>
      rw [List.map_cons, List.flatten_cons, List.length_append, ih fun z hz => h z (List.mem_cons_of_mem _ hz), ← hl, (h y (List.mem_cons_self ..)).1, List.length_cons]
      omega
  · show (Txt.join ⟨#[]⟩ ys).cps.all (· < 0x110000) = true
    rw [← Array.all_toList]
    show (TL.tl (Txt.join ⟨#[]⟩ ys)).all _ = true
    rw [e, List.all_eq_true]
    intro c hc
    obtain ⟨l, hl1, hc⟩ := List.mem_flatten.mp hc
    obtain ⟨y, hy, rfl⟩ := List.mem_map.mp hl1
    have h2 : y.cps.all (· < 0x110000) = true := (h y hy).2
    rw [← Array.all_toList, List.all_eq_true] at h2
    exact h2 c hc
theorem sum_ones : ∀ (ys : List Str), (∀ y ∈ ys, y.length = 1 ∧ okS y) → (ys.map (·.length)).sum = ys.length
  | [], _ => rfl
  | y :: r, h => by
    rw [List.map_cons, List.sum_cons, sum_ones r fun z hz => h z (List.mem_cons_of_mem _ hz), (h y (List.mem_cons_self ..)).1, List.length_cons]
    omega
theorem at_of' {α : Type} {xs : List α} {z : Int} {j : Nat} {v : α} (e : z = (j : Int)) (h : xs[j]? = some v) : atI xs z = some v := by
  rw [e]
  exact atI_nat h
theorem sign_at {z : Str} {r : Int} (ok : okS z) (h0 : 0 ≤ r) (h1 : r < (z.length : Nat)) : ∃ c : Nat, atI z.cps.toList r = some c ∧ okS ⟨#[c]⟩ := by
  have hi : r.toNat < z.cps.toList.length := by
    have : z.cps.toList.length = z.length := by simp [Str.length]
    omega
  refine ⟨z.cps.toList[r.toNat], at_of' (by omega) (List.getElem?_eq_getElem hi), ?_⟩
  have h2 : z.cps.all (· < 0x110000) = true := ok
  rw [← Array.all_toList, List.all_eq_true] at h2
  have h3 := h2 _ (List.getElem_mem hi)
  show (#[z.cps.toList[r.toNat]] : Array Nat).all (· < 0x110000) = true
  simpa using h3
/-! ### rows of a plan -/
inductive Wd where | copy | keep | lay
  deriving DecidableEq
def Wd.s : Wd → Str
  | .copy => "copy" | .keep => "keep" | .lay => "lay"
inductive PRow where
  | put (to : Int) (s : Str)
  | mv (w : Wd) (to at_ n : Int)
def PRow.d : PRow → PyData
  | .put to s => .tuple [.str "put", .int to, .str s]
  | .mv w to a n => .tuple [.str w.s, .int to, .int a, .int n]
def PRow.size : PRow → Nat
  | .put _ s => s.length
  | .mv _ _ _ n => n.toNat
def PRow.ok : PRow → Prop
  | .put _ s => okS s ∧ s.length ≤ 5000
  | .mv _ _ _ n => 0 ≤ n ∧ n ≤ 5000
def wr (a : Str) (i : Int) (b : Str) (x : PyData) : PyData := .tuple [.str a, .int i, .str b, x]
/-! ### the law's makers -/
theorem w_ixL1 {z : Str} {r : Int} {n : Int} {H : Hp} {Q : VK} (ok : okS z) (hn : (z.length : Int) = n) (hs : z.length ≤ 1000) (r0 : 0 ≤ r) (r1 : r < n) (q : ∀ s : Str, s.length = 1 → okS s → Q (.str s) H) : rIxS (.str z) (.int r) H Q := by
  obtain ⟨c, ec, oc⟩ := sign_at (z := z) ok r0 (by rw [hn]; exact r1)
  exact w_ixS (le1000 hs) ec (q _ rfl oc)
/-- a list of truths of this length, that may change -/
def Hs (F H : Hp) (t : Addr) (n : Nat) : Prop := ∃ bs : List Bool, bs.length = n ∧ Mu F H t (.lst (bs.map V.bl))
theorem Hs.keep {M : List Addr} {F H F2 H2 : Hp} {t : Addr} {n : Nat} (g : Gr M F H F2 H2) (h : Hs F H t n) (ht : t ∉ M) : Hs F2 H2 t n := by
  obtain ⟨bs, l, m⟩ := h
  exact ⟨bs, l, g.mu m ht⟩
theorem Hs.addm {F H : Hp} {t p : Addr} {n : Nat} {u : HO} (h : Hs F H t n) (hp : H p = none) : Hs F (upd H p u) t n := by
  obtain ⟨bs, l, m⟩ := h
  exact ⟨bs, l, m.addm hp⟩
theorem Hs.add {F H : Hp} {t p : Addr} {n : Nat} {u : HO} (h : Hs F H t n) (hp : H p = none) : Hs (upd F p u) (upd H p u) t n := by
  obtain ⟨bs, l, m⟩ := h
  exact ⟨bs, l, m.add hp⟩
theorem Hs.ne_new {F H : Hp} {t q : Addr} {n : Nat} (h : Hs F H t n) (hq : H q = none) : t ≠ q := by
  obtain ⟨_, _, m⟩ := h
  exact m.ne_new hq
theorem Hs.put {F H : Hp} {t q : Addr} {n : Nat} {u : HO} (h : Hs F H t n) (hq : t ≠ q) : Hs F (upd H q u) t n := by
  obtain ⟨bs, l, m⟩ := h
  exact ⟨bs, l, m.oth hq⟩
theorem Hs.set {F H : Hp} {t p : Addr} {n : Nat} {cs : List Bool} (h : Hs F H t n) (hp : t = p → cs.length = n) (m : Mu F H p (.lst (cs.map V.bl))) {j : Nat} : Hs F (upd H p (.lst ((cs.map V.bl).set j (V.bl true)))) t n := by
  by_cases e : t = p
  · subst e
    refine ⟨cs.set j true, by rw [List.length_set]; exact hp rfl, ?_⟩
    rw [List.map_set]
    exact m.wr
  · obtain ⟨bs, l, m'⟩ := h
    exact ⟨bs, l, m'.oth e⟩
theorem str_good {z : Str} (h : okS z) (hl : z.length ≤ 100000) : good (.str z) = true := by
  rw [good, h, decide_eq_true hl]
  rfl
def φlaw (K : PySem.W.Frag) : V → Hp → VK → Prop := fun x H Q => ∃ (a : Addr) (ns : List Int), x = .ref a ∧ SqL K H a (ns.map V.int) ∧ ns.length ≤ 63 ∧ ∀ H', Q (.bl true) H'
theorem law_start {K : PySem.W.Frag} {H : Hp} (a : Addr) (ns : List Int) (hl : ns.length ≤ 63) (hO : Only H) (hS : SqL K H a (ns.map V.int)) : (S1 (φlaw K)) [.ref a] H (fun v _ => v = .bl true) fun _ _ _ => False := ⟨a, ns, rfl, hS, hl, fun _ => rfl⟩
end R
namespace R
open PySem PySem.Spec PyProof.Rows L2
/-- d.setdefault(t, z), t a tuple -/
def tDSetT (td ty tx : TE) : TE := fun σ H Q => td σ H fun x H1 => ∃ a, x = .ref a ∧ IsD H1 a ∧ ty σ H1 fun y H2 => tx σ H2 fun z H3 => ∃ (b : Addr) (kvs : List (List Key × V)) (k : List Key), H3 a = some (.dT kvs) ∧ y = .ref b ∧ H3 b = some (.tup (k.map kV)) ∧ kvs.length < sizeLine ∧
  (∀ v, valV kvs k = some v → Q v H3) ∧ (valV kvs k = none → Q z (upd H3 a (.dT (putK kvs k z))))
end R
namespace R
open PySem L2
/-! ### dicts in a reading -/
def gDGet (x y : V) (H : Hp) (Q : VK) : Prop := ∃ a v, x = .ref a ∧ DGet H a y (some v) ∧ Q v H
def gDIn (x y : V) (H : Hp) (Q : VK) : Prop := ∃ a o, x = .ref a ∧ DGet H a y o ∧ Q (.bl o.isSome) H
def gDNotIn (x y : V) (H : Hp) (Q : VK) : Prop := ∃ a o, x = .ref a ∧ DGet H a y o ∧ Q (.bl (!o.isSome)) H
def gDPut (x y v : V) (H : Hp) (Z : Hp → Prop) : Prop := ∃ a H4, x = .ref a ∧ DPut H a y v H4 ∧ Z H4
section
variable {K : PySem.W.Frag} {σ : L2.St} {H : Hp} {Q : VK} {td ty tv tx te : TE} {x y v : V} {nx bk ct : L2.St → Hp → Prop} {rt : VK} {D p : Addr} {kvs : List (List Key × V)} {ks : List Key}
theorem w_dnewT (q : ∀ p, H p = none → Q (.ref p) (upd H p (.dT []))) : tDNewT σ H Q := q
instance : Step (tDNewT σ H Q) (∀ p, H p = none → Q (.ref p) (upd H p (.dT []))) := ⟨w_dnewT⟩ -- st
theorem w_dnewK (q : ∀ p, H p = none → Q (.ref p) (upd H p (.dK []))) : tDNewK σ H Q := q
instance : Step (tDNewK σ H Q) (∀ p, H p = none → Q (.ref p) (upd H p (.dK []))) := ⟨w_dnewK⟩ -- st
theorem w_dget (q : td σ H fun x H1 => ty σ H1 fun y H2 => gDGet x y H2 Q) : tDGet td ty σ H Q := q
instance : Step (tDGet td ty σ H Q) (td σ H fun x H1 => ty σ H1 fun y H2 => gDGet x y H2 Q) := ⟨w_dget⟩ -- st
theorem w_din (q : ty σ H fun y H1 => td σ H1 fun x H2 => gDIn x y H2 Q) : tDIn ty td σ H Q := q
instance : Step (tDIn ty td σ H Q) (ty σ H fun y H1 => td σ H1 fun x H2 => gDIn x y H2 Q) := ⟨w_din⟩ -- st
theorem w_dnotin (q : ty σ H fun y H1 => td σ H1 fun x H2 => gDNotIn x y H2 Q) : tDNotIn ty td σ H Q := q
instance : Step (tDNotIn ty td σ H Q) (ty σ H fun y H1 => td σ H1 fun x H2 => gDNotIn x y H2 Q) := ⟨w_dnotin⟩ -- st
theorem w_dput (q : tv σ H fun v H1 => td σ H1 fun x H2 => ty σ H2 fun y H3 => gDPut x y v H3 fun H4 => nx σ H4) : sDPut td ty tv ⟨nx, rt, bk, ct⟩ σ H := q
instance : Step (sDPut td ty tv ⟨nx, rt, bk, ct⟩ σ H) (tv σ H fun v H1 => td σ H1 fun x H2 => ty σ H2 fun y H3 => gDPut x y v H3 fun H4 => nx σ H4) := ⟨w_dput⟩ -- st
theorem w_dsetT (q : td σ H fun x H1 => ∃ a, x = .ref a ∧ IsD H1 a ∧ ty σ H1 fun y H2 => tx σ H2 fun z H3 => ∃ (b : Addr) (kvs : List (List Key × V)) (k : List Key), H3 a = some (.dT kvs) ∧ y = .ref b ∧ H3 b = some (.tup (k.map kV)) ∧ kvs.length < sizeLine ∧
  (∀ v, valV kvs k = some v → Q v H3) ∧ (valV kvs k = none → Q z (upd H3 a (.dT (putK kvs k z))))) : tDSetT td ty tx σ H Q := q
instance : Step (tDSetT td ty tx σ H Q) (td σ H fun x H1 => ∃ a, x = .ref a ∧ IsD H1 a ∧ ty σ H1 fun y H2 => tx σ H2 fun z H3 => ∃ (b : Addr) (kvs : List (List Key × V)) (k : List Key), H3 a = some (.dT kvs) ∧ y = .ref b ∧ H3 b = some (.tup (k.map kV)) ∧ kvs.length < sizeLine ∧ (∀ v, valV kvs k = some v → Q v H3) ∧ (valV kvs k = none → Q z (upd H3 a (.dT (putK kvs k z))))) := ⟨w_dsetT⟩ -- st
end
theorem w_rg2 {σ : L2.St} {H : Hp} {ta tb : TE} {R : Int → Int → Hp → Prop} (q : ta σ H fun x H1 => tb σ H1 fun y H2 => ∃ i j, x = .int i ∧ y = .int j ∧ R i j H2) : tRg2 ta tb σ H R := q
instance {σ : L2.St} {H : Hp} {ta tb : TE} {R : Int → Int → Hp → Prop} : Step (tRg2 ta tb σ H R) (ta σ H fun x H1 => tb σ H1 fun y H2 => ∃ i j, x = .int i ∧ y = .int j ∧ R i j H2) := ⟨w_rg2⟩ -- st
/-! ### writes as acts -/
structure WAct where
  w : Str
  n : Int
  s : Str
  x : Key
def keyD : Key → PyData
  | .inl i => .int i
  | .inr z => .str z
def WAct.d (t : WAct) : PyData := .tuple [.str t.w, .int t.n, .str t.s, keyD t.x]
def keyOk : Key → Prop
  | .inl _ => True
  | .inr z => okS z ∧ z.length ≤ 100
def WAct.ok (t : WAct) : Prop := (okS t.w ∧ t.w.length ≤ 100) ∧ (okS t.s ∧ t.s.length ≤ 100) ∧ keyOk t.x
/-! ### the fault of a row of acts -/
/-- a fault as a value -/
def ResV (F : Hp) (v : V) : Option (Nat × Nat) → Prop
  | none => v = .non
  | some (i, j) => ∃ p, v = .ref p ∧ F p = some (.tup [.int (i : Nat), .int (j : Nat)])
theorem ResV.same {F F2 : Hp} {v : V} {o : Option (Nat × Nat)} (h : ResV F v o) (w : Same F F2) : ResV F2 v o := by
  cases o with
  | none => exact h
  | some p =>
    obtain ⟨a, e1, e2⟩ := h
    exact ⟨a, e1, w _ _ e2⟩
/-! ### the law's makers -/
/-- marks that stay -/
structure Mks (F : Hp) (p : Addr) (n : Nat) (ms : List Nat) : Prop where
  at_ : F p = some (.lst (nV ms))
  ok : ∀ k ∈ ms, 1 ≤ k ∧ k < n
  len : ms.length ≤ 20000
theorem Mks.same {F F2 : Hp} {p : Addr} {n : Nat} {ms : List Nat} (h : Mks F p n ms) (w : Same F F2) : Mks F2 p n ms := ⟨w _ _ h.at_, h.ok, h.len⟩
/-- a list of lists of marks -/
def PL (F : Hp) (n : Nat) (v : V) : Prop := ∃ p ms, v = .ref p ∧ Mks F p n ms
theorem PL.same {F F2 : Hp} {n : Nat} {v : V} (h : PL F n v) (w : Same F F2) : PL F2 n v := by
  obtain ⟨p, ms, e, m⟩ := h
  exact ⟨p, ms, e, m.same w⟩
end R
namespace R
open PySem L2
/-! ### parts of the heap, one beside the other -/
structure Own where
  as : List Addr
  φ : Hp → Hp → Prop
  st : ∀ {F H F2 H2 : Hp}, Same F F2 → (∀ a ∈ as, ∀ o, H a = some o → H2 a = some o) → (∀ a ∈ as, F a = none → F2 a = none) → φ F H → φ F2 H2
  al : ∀ {F H : Hp}, φ F H → ∀ a ∈ as, H a ≠ none
theorem Own.gr (o : Own) {M : List Addr} {F H F2 H2 : Hp} (g : Gr M F H F2 H2) (h : ∀ a ∈ o.as, a ∉ M) (x : o.φ F H) : o.φ F2 H2 :=
  o.st g.ff (fun a m u e => g.hh a u (h a m) e) (fun a m e => g.nw a (o.al x a m) e) x
def mu (p : Addr) (o : HO) : Own := ⟨[p], fun F H => Mu F H p o, fun s h n m => ⟨n p (List.mem_singleton.mpr rfl) m.n, h p (List.mem_singleton.mpr rfl) o m.h⟩, fun m a h => by
  rw [List.mem_singleton.mp h]
  exact ne_none m.h⟩
def bag (K : PySem.W.Frag) (b : Addr) : Own := ⟨[b], fun F H => Bag K F H b, fun s h n m => by
  obtain ⟨c, cells, i, cur, st, k, h1, h2, h3, h4⟩ := m.ex
  exact ⟨c, cells, i, cur, st, k, n b (List.mem_singleton.mpr rfl) h1, h b (List.mem_singleton.mpr rfl) _ h2, sqL_same s h3, h4⟩, fun m a h => by
  rw [List.mem_singleton.mp h]
  obtain ⟨c, cells, i, cur, st, k, h1, h2, h3, h4⟩ := m.ex
  exact ne_none h2⟩
def pur (φ : Hp → Prop) (h : ∀ {F F2 : Hp}, Same F F2 → φ F → φ F2) : Own := ⟨[], fun F _ => φ F, fun s _ _ x => h s x, fun _ a h => nomatch h⟩
def dat (K : PySem.W.Frag) (v : V) (d : PyData) : Own := pur (fun F => Dp K F v d) fun s x => dp_same s _ _ x
def dpa (K : PySem.W.Frag) (vs : List V) (ds : List PyData) : Own := pur (fun F => DpAll K F vs ds) fun s x => dpa_same s _ _ x
def imL (K : PySem.W.Frag) (a : Addr) (xs : List V) : Own := pur (fun F => SqL K F a xs) fun s x => sqL_same s x
def imT (K : PySem.W.Frag) (a : Addr) (xs : List V) : Own := pur (fun F => SqT K F a xs) fun s x => sqT_same s x
/-- an object that stays -/
def fx (p : Addr) (o : HO) : Own := pur (fun F => F p = some o) fun s x => s _ _ x
abbrev ads (L : List Own) : List Addr := L.flatMap Own.as
structure St (F H : Hp) (L : List Own) : Prop where
  s : Same F H
  i : ∀ o ∈ L, o.φ F H
  d : (ads L).Nodup
structure W (M : List Addr) (F0 H0 F H : Hp) (L : List Own) : Prop where
  g : Gr M F0 H0 F H
  i : ∀ o ∈ L, o.φ F H
  d : (ads L).Nodup
  o : ∀ a ∈ ads L, a ∈ M ∨ H0 a = none
/-- D taken out of L leaves Rs -/
inductive Rm (x : Own) : List Own → List Own → Prop
  | here {L : List Own} : Rm x (x :: L) L
  | there {y : Own} {L Rs : List Own} : Rm x L Rs → Rm x (y :: L) (y :: Rs)
inductive Pick : List Own → List Own → List Own → Prop
  | nil {L : List Own} : Pick L [] L
  | cons {o : Own} {L L1 D Rs : List Own} : Rm o L L1 → Pick L1 D Rs → Pick L (o :: D) Rs
theorem Rm.perm {x : Own} {L Rs : List Own} (h : Rm x L Rs) : L.Perm (x :: Rs) := by
  induction h with
  | here => exact .refl _
  | there _ ih => exact (ih.cons _).trans (.swap _ _ _)
theorem Pick.perm {L D Rs : List Own} (h : Pick L D Rs) : L.Perm (D ++ Rs) := by
  induction h with
  | nil => exact .refl _
  | cons h _ ih => exact h.perm.trans (ih.cons _)
theorem ads_perm {L L' : List Own} (h : L.Perm L') : (ads L).Perm (ads L') := h.flatMap_right Own.as
theorem ads_app (L L' : List Own) : ads (L ++ L') = ads L ++ ads L' := by simp [ads]
section
variable {K : PySem.W.Frag} {M N : List Addr} {F0 H0 F H F1 H1 F2 H2 : Hp} {L L2 D Rs : List Own} {p a : Addr} {u o2 : HO}
theorem W.perm (w : W M F0 H0 F H L) (h : L.Perm L2) : W M F0 H0 F H L2 :=
  ⟨w.g, fun o m => w.i o (h.mem_iff.mpr m), (ads_perm h).nodup_iff.mp w.d, fun a m => w.o a ((ads_perm h).mem_iff.mpr m)⟩
theorem W.to (w : W M F0 H0 F H L) (k : Pick L D Rs) : W M F0 H0 F H D := by
  have w := w.perm k.perm
  refine ⟨w.g, fun o m => w.i o (List.mem_append_left _ m), ?_, fun a m => w.o a (by rw [ads_app]; exact List.mem_append_left _ m)⟩
  have h := w.d
  rw [ads_app] at h
  exact (List.nodup_append.mp h).1
def Pk (L D : List Own) : Prop := ∃ Rs, Pick L D Rs
theorem W.pk (w : W M F0 H0 F H L) (k : Pk L D) : W M F0 H0 F H D := k.elim fun _ k => w.to k
theorem W.st (w : W M F0 H0 F H L) (k : Pick L D Rs) : St F H D := ⟨w.g.fh, (w.to k).i, (w.to k).d⟩
theorem St.w (s : St F H L) (h : M = ads L := by rfl) : W M F H F H L := ⟨.refl s.s, s.i, s.d, fun a m => .inl (by rw [h]; exact m)⟩
theorem W.start (s : Same F H) : W M F H F H [] := ⟨.refl s, (fun _ h => nomatch h), .nil, (fun _ h => nomatch h)⟩
theorem W.call (w : W M F0 H0 F H L) (k : Pick L D Rs) (w2 : W N F H F2 H2 L2) (hN : N = ads D := by rfl) : W M F0 H0 F2 H2 (L2 ++ Rs) := by
  subst hN
  have w := w.perm k.perm
  have hd := w.d
  have ho := w.o
  rw [ads_app] at hd ho
  obtain ⟨d1, d2, d3⟩ := List.nodup_append.mp hd
  have hR : ∀ a ∈ ads Rs, H a ≠ none := fun a m => by
    obtain ⟨o, mo, ma⟩ := List.mem_flatMap.mp m
    exact o.al (w.i o (List.mem_append_right _ mo)) a ma
  refine ⟨w.g.transN w2.g fun x m => ho x (List.mem_append_left _ m), fun o m => ?_, ?_, fun a m => ?_⟩
  · rcases List.mem_append.mp m with m | m
    · exact w2.i o m
    · refine o.gr w2.g (fun a ha hb => d3 a hb a (List.mem_flatMap.mpr ⟨o, m, ha⟩) rfl) (w.i o (List.mem_append_right _ m))
  · rw [ads_app]
    refine List.nodup_append.mpr ⟨w2.d, d2, fun a ha b hb e => ?_⟩
    subst e
    rcases w2.o a ha with h | h
    · exact d3 a h a hb rfl
    · exact hR a hb h
  · rw [ads_app] at m
    rcases List.mem_append.mp m with m | m
    · rcases w2.o a m with h | h
      · exact ho a (List.mem_append_left _ h)
      · exact .inr (w.g.fresh h)
    · exact ho a (List.mem_append_right _ m)
theorem W.ws (w : W M F0 H0 F H L) : Same F0 H := w.g.ws
theorem W.fh (w : W M F0 H0 F H L) : Same F H := w.g.fh
theorem W.ff (w : W M F0 H0 F H L) : Same F0 F := w.g.ff
theorem W.push (w : W M F0 H0 F H L) (o : Own) (h : o.φ F H) (e : o.as = [] := by rfl) : W M F0 H0 F H (o :: L) := by
  refine ⟨w.g, fun q m => ?_, ?_, fun a m => ?_⟩
  · rcases List.mem_cons.mp m with rfl | m
    · exact h
    · exact w.i q m
  · show ((o :: L).flatMap Own.as).Nodup
    rw [List.flatMap_cons, e]
    exact w.d
  · have m' : a ∈ (o :: L).flatMap Own.as := m
    rw [List.flatMap_cons, e] at m'
    exact w.o a m'
/-- a new object that stays -/
theorem W.im (w : W M F0 H0 F H L) (h : H p = none) : W M F0 H0 (upd F p u) (upd H p u) L := by
  have w2 : W [] F H (upd F p u) (upd H p u) [] := ⟨.im w.g.fh h, (fun _ h => nomatch h), .nil, (fun _ h => nomatch h)⟩
  exact w.call .nil w2
/-- a new object that may change -/
theorem W.nw (w : W M F0 H0 F H L) (h : H p = none) : W M F0 H0 F (upd H p u) (mu p u :: L) := by
  have w2 : W [] F H F (upd H p u) [mu p u] := by
    refine ⟨.new w.g.fh h, fun q m => ?_, ?_, fun a m => ?_⟩
    · rw [List.mem_singleton.mp m]
      exact Mu.new w.g.fh h
    · show ([p] : List Addr).Nodup
      simp
    · have : a = p := List.mem_singleton.mp m
      subst this
      exact .inr h
  exact w.call .nil w2
/-- a change -/
theorem W.wr (w : W M F0 H0 F H L) (k : Pick L [mu p o2] Rs) : W M F0 H0 F (upd H p u) (mu p u :: Rs) := by
  have m : Mu F H p o2 := (w.to k).i _ (List.mem_singleton.mpr rfl)
  have w2 : W [p] F H F (upd H p u) [mu p u] := by
    refine ⟨.wr w.g.fh m.n (List.mem_singleton.mpr rfl), fun q h => ?_, ?_, fun a h => ?_⟩
    · rw [List.mem_singleton.mp h]
      exact m.wr
    · show ([p] : List Addr).Nodup
      simp
    · exact .inl h
  exact w.call k w2 rfl
/-- an object that changes no more -/
theorem W.fz (w : W M F0 H0 F H L) (k : Pick L [mu p u] Rs) (hn : H0 p = none) : W M F0 H0 (upd F p u) H Rs := by
  have w := w.perm k.perm
  have m : Mu F H p u := w.i _ (List.mem_cons_self ..)
  have hd := w.d
  rw [ads_app] at hd
  obtain ⟨d1, d2, d3⟩ := List.nodup_append.mp hd
  refine ⟨w.g.frz hn m, fun o ho => ?_, d2, fun a ha => w.o a (by rw [ads_app]; exact List.mem_append_right _ ha)⟩
  have hp : ∀ a ∈ o.as, a ≠ p := fun a ha e => d3 p (List.mem_singleton.mpr rfl) a (List.mem_flatMap.mpr ⟨o, ho, ha⟩) e.symm
  refine o.st (Same.new m.n) (fun a _ _ e => e) (fun a ha e => ?_) (w.i o (List.mem_append_right _ ho))
  rw [upd_ne (hp a ha)]
  exact e
theorem W.fzL {xs : List V} (w : W M F0 H0 F H L) (k : Pick L [mu p (.lst xs)] Rs) (hn : H0 p = none) : ∃ F2, W M F0 H0 F2 H (fx p (.lst xs) :: Rs) := ⟨_, (w.fz k hn).push (fx p (.lst xs)) upd_same⟩
end
inductive App : List Own → List Own → List Own → Prop
  | nil {Rs : List Own} : App [] Rs Rs
  | cons {o : Own} {L Rs L' : List Own} : App L Rs L' → App (o :: L) Rs (o :: L')
theorem App.eq {L Rs L' : List Own} (h : App L Rs L') : L ++ Rs = L' := by
  induction h with
  | nil => rfl
  | cons _ ih => rw [List.cons_append, ih]
section
variable {K : PySem.W.Frag} {M N : List Addr} {F0 H0 F H F1 H1 F2 H2 : Hp} {L L2 L3 D Rs : List Own} {p a : Addr} {u o2 : HO} {xs ys : List V} {ds : List PyData} {d : PyData} {v : V}
theorem W.cal (w : W M F0 H0 F H L) (k : Pick L D Rs) (w2 : W N F H F2 H2 L2) (e : App L2 Rs L3) (hN : N = ads D := by rfl) : W M F0 H0 F2 H2 L3 := by
  rw [← e.eq]
  exact w.call k w2 hN
/-- .. by what the older promises tell -/
theorem W.gr (w : W M F0 H0 F H L) (k : Pick L D Rs) (g : Gr N F H F2 H2) (i : ∀ o ∈ D, o.φ F2 H2) (e : App D Rs L3) (hN : N = ads D := by rfl) : W M F0 H0 F2 H2 L3 :=
  w.cal k (L2 := D) ⟨g, i, (w.to k).d, fun a m => .inl (by rw [hN]; exact m)⟩ e hN
theorem W.gr0 (w : W M F0 H0 F H L) (g : Gr [] F H F2 H2) : W M F0 H0 F2 H2 L := w.gr (D := []) .nil g (fun _ h => nomatch h) .nil
theorem W.gr1 {o : Own} (w : W M F0 H0 F H L) (k : Pick L [o] Rs) (g : Gr N F H F2 H2) (i : o.φ F2 H2) (hN : N = ads [o] := by rfl) : W M F0 H0 F2 H2 (o :: Rs) :=
  w.gr k g (fun q m => by rw [List.mem_singleton.mp m]; exact i) (.cons .nil) hN
theorem W.mu (w : W M F0 H0 F H L) (m : mu p u ∈ L) : Mu F H p u := w.i _ m
theorem W.bag {b : Addr} (w : W M F0 H0 F H L) (m : bag K b ∈ L) : Bag K F H b := w.i _ m
theorem W.dat (w : W M F0 H0 F H L) (m : dat K v d ∈ L) : Dp K F v d := w.i _ m
theorem W.dpa (w : W M F0 H0 F H L) (m : dpa K xs ds ∈ L) : DpAll K F xs ds := w.i _ m
theorem W.imL (w : W M F0 H0 F H L) (m : imL K p xs ∈ L) : SqL K F p xs := w.i _ m
theorem W.imT (w : W M F0 H0 F H L) (m : imT K p xs ∈ L) : SqT K F p xs := w.i _ m
theorem W.at_ (w : W M F0 H0 F H L) (m : R.mu p u ∈ L) : H p = some u := (w.mu m).h
theorem W.sqM (w : W M F0 H0 F H L) (m : R.mu p (.lst xs) ∈ L) : SqL K H p xs := (w.mu m).sq
theorem W.fx (w : W M F0 H0 F H L) (m : R.fx p u ∈ L) : H p = some u := w.fh _ _ (w.i _ m)
theorem W.sqF (w : W M F0 H0 F H L) (m : R.fx p (.lst xs) ∈ L) : SqL K H p xs := sqL_of (w.fx m)
theorem W.stF (w : W M F0 H0 F H L) (m : R.fx p (.tup xs) ∈ L) : SqT K H p xs := sqT_of (w.fx m)
theorem W.sqI (w : W M F0 H0 F H L) (m : R.imL K p xs ∈ L) : SqL K H p xs := sqL_same w.fh (w.imL m)
theorem W.sq0 (w : W M F0 H0 F H L) (h : SqL K F0 p xs) : SqL K H p xs := sqL_same w.ws h
theorem W.stI (w : W M F0 H0 F H L) (m : R.imT K p xs ∈ L) : SqT K H p xs := sqT_same w.fh (w.imT m)
theorem W.st0 (w : W M F0 H0 F H L) (h : SqT K F0 p xs) : SqT K H p xs := sqT_same w.ws h
theorem W.dp0 (w : W M F0 H0 F H L) (h : Dp K F0 v d) : Dp K F v d := dp_same w.ff _ _ h
end
/-! ### steps -/
def mkT (xs : List V) (H : Hp) (Q : VK) : Prop := xs.length ≤ sizeLine ∧ ∀ p, H p = none → Q (.ref p) (upd H p (.tup xs))
def mkL (xs : List V) (H : Hp) (Q : VK) : Prop := xs.length ≤ sizeLine ∧ ∀ p, H p = none → Q (.ref p) (upd H p (.lst xs))
def forG (g : TG) (tb : TS) (D : Ends) (J : It) (σ : L2.St) (H : Hp) : Prop := ∃ W : Nat → Nat → L2.St → Hp → Prop, (∃ m, W 0 m σ H) ∧ ∀ i m σ H, W i m σ H →
  (J.stop i H ∧ D.nx σ H) ∨ (J.go i H ∧ ∃ N : L2.St → Hp → Prop, (∀ σ' H', N σ' H' → ∃ m', m' < m ∧ W (i + 1) m' σ' H') ∧ ∀ x H', J.yld i H x H' → g x σ H' fun σ2 H2 => tb ⟨N, D.rt, D.nx, N⟩ σ2 H2)
def lcG (g : TG) (tt : TT) (te : TE) (vs : List Nat) (J : It) (σ : L2.St) (H : Hp) (Q : VK) : Prop := ∀ D, H D = none → ∃ W : Nat → Nat → Hp → Prop, (∃ m, W 0 m (upd H D (.lst []))) ∧ ∀ i m H, W i m H →
  (J.stop i H ∧ Q (.ref D) H) ∨ (J.go i H ∧ ∃ Nx : Hp → Prop, (∀ H', Nx H' → ∃ m', m' < m ∧ W (i + 1) m' H') ∧ ∀ x H', J.yld i H x H' → g x (wipe σ vs) H' fun σ2 H2 => wipe σ2 vs = wipe σ vs ∧ tt σ2 H2 fun b H3 =>
    if b = true then te σ2 H3 fun y H4 => ∃ acc, H4 D = some (.lst acc) ∧ acc.length < sizeLine ∧ Nx (upd H4 D (.lst (acc ++ [y]))) else Nx H3)
def accG (D : Addr) (Z : Hp → Prop) (y : V) (H : Hp) : Prop := ∃ acc, H D = some (.lst acc) ∧ acc.length < sizeLine ∧ Z (upd H D (.lst (acc ++ [y])))
def Nx (M : List Addr) (F0 H0 : Hp) (Inv : L2.St → List Own → Prop) : L2.St → Hp → Prop := fun σ H => ∃ L F, Inv σ L ∧ W M F0 H0 F H L
def NxC (M : List Addr) (F0 H0 : Hp) (P : List V → List Own → Prop) (D : Addr) : Hp → Prop := fun H => ∃ ys L F, P ys L ∧ W M F0 H0 F H (mu D (.lst ys) :: L)
section
variable {K : PySem.W.Frag} {M N : List Addr} {F0 H0 F H : Hp} {L Rs T : List Own} {σ : L2.St} {Q : VK} {ta tb te : TE} {x y v : V} {nx bk ct : L2.St → Hp → Prop} {rt : VK} {p q a D : Addr} {xs ys : List V} {u : HO}
variable {t : TA} {wi : TI} {g : TG} {tbody : TS} {c tt : TT} {vs : List Nat} {ts us : TS}
theorem x_tup (h : t σ H fun xs H1 => mkT xs H1 Q) : tTup t σ H Q := h
instance : StepN (tTup t σ H Q) (t σ H fun xs H1 => mkT xs H1 Q) := ⟨x_tup⟩ -- st
theorem x_lst (h : t σ H fun xs H1 => mkL xs H1 Q) : tLst t σ H Q := h
instance : StepN (tLst t σ H Q) (t σ H fun xs H1 => mkL xs H1 Q) := ⟨x_lst⟩ -- st
theorem x_for (h : wi σ H fun J H1 => forG g tbody ⟨nx, rt, bk, ct⟩ J σ H1) : tFor wi g tbody ⟨nx, rt, bk, ct⟩ σ H := h
instance : StepN (tFor wi g tbody ⟨nx, rt, bk, ct⟩ σ H) (wi σ H fun J H1 => forG g tbody ⟨nx, rt, bk, ct⟩ J σ H1) := ⟨x_for⟩ -- st
theorem x_lc (h : wi σ H fun J H1 => lcG g tt te vs J σ H1 Q) : tLc wi g tt te vs σ H Q := h
instance : StepN (tLc wi g tt te vs σ H Q) (wi σ H fun J H1 => lcG g tt te vs J σ H1 Q) := ⟨x_lc⟩ -- st
theorem x_wp {a b : L2.St} {B : Prop} (h : a = b) (q : B) : a = b ∧ B := ⟨h, q⟩
instance {a b : L2.St} {B : Prop} : SideK (a = b ∧ B) 6 := ⟨⟩ -- st
theorem n_tup (w : W M F0 H0 F H L) (hs : xs.length ≤ sizeLine) (h : ∀ p F2 H2, W M F0 H0 F2 H2 (fx p (.tup xs) :: L) → Q (.ref p) H2) : mkT xs H Q :=
  ⟨hs, fun p np => h p _ _ ((w.im (u := .tup xs) np).push (fx p (.tup xs)) upd_same)⟩
theorem n_new (w : W M F0 H0 F H L) (h : ∀ p F2 H2, W M F0 H0 F2 H2 (mu p u :: L) → H0 p = none → Q (.ref p) H2) : ∀ p, H p = none → Q (.ref p) (upd H p u) := fun p np => h p _ _ (w.nw np) (w.g.fresh np)
theorem n_lst (w : W M F0 H0 F H L) (hs : xs.length ≤ sizeLine) (h : ∀ p F2 H2, W M F0 H0 F2 H2 (mu p (.lst xs) :: L) → H0 p = none → Q (.ref p) H2) : mkL xs H Q := ⟨hs, n_new w h⟩
theorem n_slL {lo hi : Option Int} (w : W M F0 H0 F H L) (hs : SqL K H p xs) (h : ∀ p F2 H2, W M F0 H0 F2 H2 (mu p (.lst (cutV xs lo hi)) :: L) → H0 p = none → Q (.ref p) H2) : rSlL K (.ref p) lo hi H Q := w_slL xs hs (n_new w h)
theorem n_listOf (w : W M F0 H0 F H L) (hs : SqL K H p xs) (h : ∀ p F2 H2, W M F0 H0 F2 H2 (mu p (.lst xs) :: L) → H0 p = none → Q (.ref p) H2) : rListOf K [.ref p] H Q := w_listOf xs hs (n_new w h)
def revG (K : PySem.W.Frag) (x : V) (H : Hp) (Q : VK) : Prop := ∃ a xs, x = .ref a ∧ SqL K H a xs ∧ ∀ p, H p = none → Q (.ref p) (upd H p (.lst xs.reverse))
theorem x_revL (h : ta σ H fun x H1 => revG K x H1 Q) : tRevL K ta σ H Q := h
instance : StepN (tRevL K ta σ H Q) (ta σ H fun x H1 => revG K x H1 Q) := ⟨x_revL⟩ -- st
theorem n_revL (w : W M F0 H0 F H L) (hs : SqL K H p xs) (h : ∀ p F2 H2, W M F0 H0 F2 H2 (mu p (.lst xs.reverse) :: L) → H0 p = none → Q (.ref p) H2) : revG K (.ref p) H Q := ⟨p, xs, rfl, hs, n_new w h⟩
def lrgG (a b : Int) (H : Hp) (Q : VK) : Prop := RgOk a b ∧ ∀ q, H q = none → Q (.ref q) (upd H q (.lst (rgV a b)))
theorem x_lstRg {te : L2.St → Hp → (Int → Int → Hp → Prop) → Prop} (h : te σ H fun a b H1 => lrgG a b H1 Q) : tLstRg te σ H Q := h
instance {te : L2.St → Hp → (Int → Int → Hp → Prop) → Prop} : StepN (tLstRg te σ H Q) (te σ H fun a b H1 => lrgG a b H1 Q) := ⟨x_lstRg⟩ -- st
theorem n_cat (w : W M F0 H0 F H L) (h1 : H p = some (.lst xs)) (h2 : H q = some (.lst ys)) (hs : xs.length + ys.length ≤ sizeLine) (h : ∀ p F2 H2, W M F0 H0 F2 H2 (mu p (.lst (xs ++ ys)) :: L) → H0 p = none → Q (.ref p) H2) : rCat (.ref p) (.ref q) H Q :=
  ⟨p, q, xs, ys, rfl, rfl, h1, h2, hs, n_new w h⟩
theorem n_app (w : W M F0 H0 F H L) (k : Pick L [mu p (.lst xs)] Rs) (hn : xs.length < sizeLine) (h : ∀ H2, W M F0 H0 F H2 (mu p (.lst (xs ++ [y])) :: Rs) → Q .non H2) : rAppend (.ref p) [y] H Q :=
  w_app xs ((w.to k).at_ (List.mem_singleton.mpr rfl)) hn (h _ (w.wr k))
theorem n_setL {k : Int} {Z : Hp → Prop} (w : W M F0 H0 F H L) (kk : Pick L [mu p (.lst xs)] Rs) (j : Nat) (e : ixN xs.length k = some j) (h : ∀ H2, W M F0 H0 F H2 (mu p (.lst (xs.set j v)) :: Rs) → Z H2) : rSetL (.ref p) (.int k) v H Z :=
  w_setL xs j ((w.to kk).at_ (List.mem_singleton.mpr rfl)) e (h _ (w.wr kk))
theorem n_draw {m : Int} {E : XK} {b : Addr} (w : W M F0 H0 F H L) (k : Pick L [bag K b] Rs) (h0 : 0 < m) (h1 : m < 2 ^ 200) (h : ∀ r F2 H2, W M F0 H0 F2 H2 (bag K b :: Rs) → 0 ≤ r → r < m → Q (.int r) H2) : S2 (φdraw K) ([.ref b, .int m] ++ []) H Q E :=
  u_draw w.fh ((w.to k).bag (List.mem_singleton.mpr rfl)) h0 h1 fun r F2 H2 g hb r0 r1 => h r F2 H2 (w.gr1 k g hb) r0 r1
def rg1G (vs : List V) (H : Hp) (Rr : It → Hp → Prop) : Prop := ∃ j : Int, vs = [.int j] ∧ -(2 ^ 62) ≤ j ∧ j < 2 ^ 62 ∧ Rr (Itr 0 j.toNat) H
def rg2G (vs : List V) (H : Hp) (Rr : It → Hp → Prop) : Prop := ∃ i j : Int, vs = [.int i, .int j] ∧ (-(2 ^ 62) ≤ i ∧ i < 2 ^ 62 ∧ -(2 ^ 62) ≤ j ∧ j < 2 ^ 62) ∧ Rr (Itr i (j - i).toNat) H
def ilG (K : PySem.W.Frag) (x : V) (H : Hp) (Rr : It → Hp → Prop) : Prop := ∃ a, x = .ref a ∧ (∃ xs, SqL K H a xs) ∧ Rr (Itl K a) H
def itG (K : PySem.W.Frag) (x : V) (H : Hp) (Rr : It → Hp → Prop) : Prop := ∃ a, x = .ref a ∧ (∃ xs, SqT K H a xs) ∧ Rr (Itt K a) H
def isG (x : V) (H : Hp) (Rr : It → Hp → Prop) : Prop := ∃ z, x = .str z ∧ Rr (Its z) H
theorem x_rng1 {Rr : It → Hp → Prop} (h : t σ H fun vs H1 => rg1G vs H1 Rr) : iRng1 t σ H Rr := h
instance {Rr : It → Hp → Prop} : StepN (iRng1 t σ H Rr) (t σ H fun vs H1 => rg1G vs H1 Rr) := ⟨x_rng1⟩ -- st
theorem x_rng2 {Rr : It → Hp → Prop} (h : t σ H fun vs H1 => rg2G vs H1 Rr) : iRng2 t σ H Rr := h
instance {Rr : It → Hp → Prop} : StepN (iRng2 t σ H Rr) (t σ H fun vs H1 => rg2G vs H1 Rr) := ⟨x_rng2⟩ -- st
theorem x_il {Rr : It → Hp → Prop} (h : te σ H fun x H1 => ilG K x H1 Rr) : iList K te σ H Rr := h
instance {Rr : It → Hp → Prop} : StepN (iList K te σ H Rr) (te σ H fun x H1 => ilG K x H1 Rr) := ⟨x_il⟩ -- st
theorem x_it {Rr : It → Hp → Prop} (h : te σ H fun x H1 => itG K x H1 Rr) : iTup K te σ H Rr := h
instance {Rr : It → Hp → Prop} : StepN (iTup K te σ H Rr) (te σ H fun x H1 => itG K x H1 Rr) := ⟨x_it⟩ -- st
theorem x_is {Rr : It → Hp → Prop} (h : te σ H fun x H1 => isG x H1 Rr) : iStr te σ H Rr := h
instance {Rr : It → Hp → Prop} : StepN (iStr te σ H Rr) (te σ H fun x H1 => isG x H1 Rr) := ⟨x_is⟩ -- st
theorem n_rng1 {j : Int} {Rr : It → Hp → Prop} (h0 : -(2 ^ 62) ≤ j) (h1 : j < 2 ^ 62) (h : Rr (Itr 0 j.toNat) H) : rg1G [.int j] H Rr := ⟨j, rfl, h0, h1, h⟩
instance {j : Int} {Rr : It → Hp → Prop} : SideK (rg1G [.int j] H Rr) 5 := ⟨⟩ -- st
theorem n_rng2 {i j : Int} {Rr : It → Hp → Prop} (h0 : -(2 ^ 62) ≤ i) (h1 : i < 2 ^ 62) (h2 : -(2 ^ 62) ≤ j) (h3 : j < 2 ^ 62) (h : Rr (Itr i (j - i).toNat) H) : rg2G [.int i, .int j] H Rr := ⟨i, j, rfl, ⟨h0, h1, h2, h3⟩, h⟩
instance {i j : Int} {Rr : It → Hp → Prop} : SideK (rg2G [.int i, .int j] H Rr) 5 := ⟨⟩ -- st
theorem n_il {Rr : It → Hp → Prop} (hs : SqL K H a xs) (h : Rr (Itl K a) H) : ilG K (.ref a) H Rr := ⟨a, rfl, ⟨xs, hs⟩, h⟩
instance {Rr : It → Hp → Prop} : SideK (ilG K (.ref a) H Rr) 4 := ⟨⟩ -- st
theorem n_it {Rr : It → Hp → Prop} (hs : SqT K H a xs) (h : Rr (Itt K a) H) : itG K (.ref a) H Rr := ⟨a, rfl, ⟨xs, hs⟩, h⟩
instance {Rr : It → Hp → Prop} : SideK (itG K (.ref a) H Rr) 4 := ⟨⟩ -- st
theorem n_is {z : Str} {Rr : It → Hp → Prop} (h : Rr (Its z) H) : isG (.str z) H Rr := ⟨z, rfl, h⟩
instance {z : Str} {Rr : It → Hp → Prop} : StepN (isG (.str z) H Rr) (Rr (Its z) H) := ⟨n_is⟩ -- st
theorem nx_mk {Inv : L2.St → List Own → Prop} {L2 : List Own} (w : W M F0 H0 F H L) (h : Inv σ L2) (k : Pk L L2) : Nx M F0 H0 Inv σ H := ⟨L2, F, h, w.pk k⟩
def addsG : R2 := fun x y H Q => ∃ a b, x = .str a ∧ y = .str b ∧ a.length + b.length ≤ sizeLine ∧ Q (.str (a ++ b)) H
theorem opAddS {X : Cx} : OpR X (binaryOp .Add) addsG := op_add_str
theorem n_adds {a b : Str} (hl : a.length + b.length ≤ sizeLine) (h : Q (.str (a ++ b)) H) : addsG (.str a) (.str b) H Q := ⟨a, b, rfl, rfl, hl, h⟩
instance {a b : Str} : SideK (addsG (.str a) (.str b) H Q) 5 := ⟨⟩ -- st
theorem x_aug {i : Nat} {ti : TIp} {x : V} {H : Hp} (h : σ[i]? = some (some x)) (q : te σ H fun y H1 => ti x y H1 fun z H2 => nx (σ.set i (some z)) H2) : tAug i te ti ⟨nx, rt, bk, ct⟩ σ H := ⟨x, h, q⟩
instance {i : Nat} {ti : TIp} {H : Hp} : SideK (tAug i te ti ⟨nx, rt, bk, ct⟩ σ H) 4 := ⟨⟩ -- st
theorem n_ipI {g : Int → Int → Int} {i j : Int} {Z : VK} (q : Z (.int (g i j)) H) : ipI g (.int i) (.int j) H Z := ⟨i, j, rfl, rfl, q⟩
instance {g : Int → Int → Int} {i j : Int} {Z : VK} : SideK (ipI g (.int i) (.int j) H Z) 5 := ⟨⟩ -- st
/-- loops -/
theorem n_forR {n : Nat} (w : W M F0 H0 F H L) (Inv : Nat → L2.St → List Own → Prop) {L1 : List Own} (h0 : Inv 0 σ L1)
    (hs : ∀ (i : Nat) σ L F H, i < n → Inv i σ L → W M F0 H0 F H L → g (.int (i : Int)) σ H fun σ2 H2 => tbody ⟨Nx M F0 H0 (Inv (i + 1)), rt, nx, Nx M F0 H0 (Inv (i + 1))⟩ σ2 H2)
    (hd : ∀ σ L F H, Inv n σ L → W M F0 H0 F H L → nx σ H) (k : Pk L L1 := by walk_at "pk") : forG g tbody ⟨nx, rt, bk, ct⟩ (Itr 0 n) σ H :=
  f_range0 (fun i σ H => Nx M F0 H0 (Inv i) σ H) ⟨L1, F, h0, w.pk k⟩ (fun i σ H hi ⟨L, F, h, w⟩ => hs i σ L F H hi h w) fun σ H ⟨L, F, h, w⟩ => hd σ L F H h w
theorem n_forL (xs : List V) (w : W M F0 H0 F H L) (Inv : Nat → L2.St → List Own → Prop) {L1 : List Own} (h0 : Inv 0 σ L1) (hl : ∀ i σ L F H, Inv i σ L → W M F0 H0 F H L → SqL K H a xs)
    (hs : ∀ (i : Nat) x σ L F H, xs[i]? = some x → Inv i σ L → W M F0 H0 F H L → g x σ H fun σ2 H2 => tbody ⟨Nx M F0 H0 (Inv (i + 1)), rt, nx, Nx M F0 H0 (Inv (i + 1))⟩ σ2 H2)
    (hd : ∀ σ L F H, Inv xs.length σ L → W M F0 H0 F H L → nx σ H) (k : Pk L L1 := by walk_at "pk") : forG g tbody ⟨nx, rt, bk, ct⟩ (Itl K a) σ H :=
  f_list (xs := xs) (fun i σ H => Nx M F0 H0 (Inv i) σ H) ⟨L1, F, h0, w.pk k⟩ (fun i σ H _ ⟨L, F, h, w⟩ => hl i σ L F H h w) (fun i x σ H hx ⟨L, F, h, w⟩ => hs i x σ L F H hx h w) fun σ H ⟨L, F, h, w⟩ => hd σ L F H h w
theorem n_cut (w : W M F0 H0 F H L) (Mid : L2.St → List Own → Prop) (h1 : ts ⟨Nx M F0 H0 Mid, rt, bk, ct⟩ σ H) (h2 : ∀ σ L F H, Mid σ L → W M F0 H0 F H L → us ⟨nx, rt, bk, ct⟩ σ H) : C8.tCut ts us ⟨nx, rt, bk, ct⟩ σ H :=
  w_cut (Nx M F0 H0 Mid) h1 fun σ' H' ⟨L, F, h, w⟩ => h2 σ' L F H' h w
theorem n_lcR {n : Nat} (w : W M F0 H0 F H L) (P : Nat → List V → List Own → Prop) {L1 : List Own} (h0 : P 0 [] L1)
    (hs : ∀ (i : Nat) ys L F H D, i < n → P i ys L → W M F0 H0 F H (mu D (.lst ys) :: L) → H0 D = none → g (.int (i : Int)) (wipe σ vs) H fun σ2 H2 => wipe σ2 vs = wipe σ vs ∧ tt σ2 H2 fun b H3 =>
      if b = true then te σ2 H3 (accG D (NxC M F0 H0 (P (i + 1)) D)) else NxC M F0 H0 (P (i + 1)) D H3)
    (hd : ∀ D ys L F H, P n ys L → W M F0 H0 F H (mu D (.lst ys) :: L) → H0 D = none → Q (.ref D) H) (k : Pk L L1 := by walk_at "pk") : lcG g tt te vs (Itr 0 n) σ H Q := fun D nD =>
  lc_rng (fun i H => NxC M F0 H0 (P i) D H) ⟨[], L1, F, h0, (w.pk k).nw nD⟩ (fun i H hi ⟨ys, L, F, h, w'⟩ => hs i ys L F H D hi h w' (w.g.fresh nD)) fun H ⟨ys, L, F, h, w'⟩ => hd D ys L F H h w' (w.g.fresh nD)
theorem n_lcL (xs : List V) (w : W M F0 H0 F H L) (P : Nat → List V → List Own → Prop) {L1 : List Own} (h0 : P 0 [] L1) (hl : ∀ i ys L F H D, P i ys L → W M F0 H0 F H (mu D (.lst ys) :: L) → SqL K H a xs)
    (hs : ∀ (i : Nat) x ys L F H D, xs[i]? = some x → P i ys L → W M F0 H0 F H (mu D (.lst ys) :: L) → H0 D = none → g x (wipe σ vs) H fun σ2 H2 => wipe σ2 vs = wipe σ vs ∧ tt σ2 H2 fun b H3 =>
      if b = true then te σ2 H3 (accG D (NxC M F0 H0 (P (i + 1)) D)) else NxC M F0 H0 (P (i + 1)) D H3)
    (hd : ∀ D ys L F H, P xs.length ys L → W M F0 H0 F H (mu D (.lst ys) :: L) → H0 D = none → Q (.ref D) H) (k : Pk L L1 := by walk_at "pk") : lcG g tt te vs (Itl K a) σ H Q := fun D nD =>
  lc_list (xs := xs) (fun i H => NxC M F0 H0 (P i) D H) ⟨[], L1, F, h0, (w.pk k).nw nD⟩ (fun i H _ ⟨ys, L, F, h, w'⟩ => hl i ys L F H D h w') (fun i x H hx ⟨ys, L, F, h, w'⟩ => hs i x ys L F H D hx h w' (w.g.fresh nD)) fun H ⟨ys, L, F, h, w'⟩ => hd D ys L F H h w' (w.g.fresh nD)
theorem getD_of {l : List V} {j : Nat} (h : j < l.length) : l[j]? = some (l.getD j .non) := by
  rw [List.getD_eq_getElem?_getD, List.getElem?_eq_getElem h]
  rfl
/-- over enumerate(list) -/
def enG (K : PySem.W.Frag) (vs : List V) (H : Hp) (Rr : It → Hp → Prop) : Prop := ∃ a xs, vs = [.ref a] ∧ SqL K H a xs ∧ Rr (Ite K a) H
theorem x_en {Rr : It → Hp → Prop} (h : t σ H fun vs H1 => enG K vs H1 Rr) : iEnum K t σ H Rr := h
instance {Rr : It → Hp → Prop} : Step (iEnum K t σ H Rr) (t σ H fun vs H1 => enG K vs H1 Rr) := ⟨x_en⟩ -- st
theorem W.calB {b : Addr} {F2 H2 : Hp} {L2 L3 : List Own} (w : W M F0 H0 F H L) (k : Pick L [R.bag K b] Rs) (w2 : W [b] F H F2 H2 L2) (e : App L2 Rs L3) : W M F0 H0 F2 H2 L3 := w.cal k w2 e rfl
theorem W.bag0 {b : Addr} {F2 H2 : Hp} (g : Gr [] H H F2 H2) (h : Bag K F2 H2 b) : W [] H H F2 H2 [R.bag K b] := by
  obtain ⟨c, cells, i, cur, st, k, h1, h2, _⟩ := h.ex
  refine ⟨g, fun o m => ?_, ?_, fun a m => ?_⟩
  · rw [List.mem_singleton.mp m]
    exact h
  · show ([b] : List Addr).Nodup
    simp
  · rw [show a = b from List.mem_singleton.mp m]
    exact .inr (g.ff.free h1)
theorem n_acc (ys : List V) {P : List V → List Own → Prop} (w : W M F0 H0 F H L) (hp : P (ys ++ [y]) Rs) (k : Pk L (mu D (.lst ys) :: Rs)) (hl : ys.length < sizeLine) : accG D (NxC M F0 H0 P D) y H := by
  have w' := w.pk k
  refine ⟨ys, w'.at_ (List.mem_cons_self ..), hl, ys ++ [y], Rs, F, hp, ?_⟩
  exact w'.wr (.cons .here .nil)
end
end R
namespace R
open PySem PySem.Spec PyProof.Rows L2
section
variable {X : Cx} {K : PySem.W.Frag} {w : World}
def rSetL (K : PySem.W.Frag) (w : World) : List V → Hp → VK → Prop := fun xs H Q => ∃ (a : Addr) (ns : List Int), xs = [.ref a] ∧ SqL K H a (ns.map V.int) ∧ ns.length ≤ 4000 ∧ ∀ p c, c ≤ ns.length → H p = none → Q (.ref p) (upd H p (SetO w p (fun j => decide (j ∈ ns)) c))
end
end R
namespace R
open PySem PySem.Spec PyProof.Rows L2
/-! ### list(s) of a text -/
def chars (z : Str) : List V := z.cps.toList.map fun c => V.str ⟨#[c]⟩
/-! ### flat values -/
/-! ### slices -/
/-! ### items put one by one from a place on -/
/-! ### moves -/
inductive Mv where
  | put (to : Nat) (s : Str)
  | copy (to a n : Nat)
def Mv.d : Mv → PyData
  | .put to s => .tuple [.str "put", .int to, .str s]
  | .copy to a n => .tuple [.str "copy", .int to, .int a, .int n]
def Mv.to : Mv → Nat
  | .put to _ => to
  | .copy to _ _ => to
def Mv.len : Mv → Nat
  | .put _ s => s.length
  | .copy _ _ n => n
def Mv.hi : Mv → Nat
  | .put _ _ => 0
  | .copy _ a n => a + n
def Mv.sOk : Mv → Prop
  | .put _ s => okS s ∧ s.length ≤ 1000
  | .copy to a _ => to ≠ a
structure MvOk (N : Nat) (m : Mv) : Prop where
  s : m.sOk
  p : 1 ≤ m.len
  t : m.to + m.len ≤ N
  h : m.hi ≤ N
def Mv.some (xs : List V) : Mv → List V
  | .put _ s => chars s
  | .copy _ a n => (xs.drop a).take n
section
variable {K : PySem.W.Frag} {F : Hp} {x : V}
/-- item i of a list of data -/
theorem dpa_at {α : Type} {f : α → PyData} {us : List V} {as : List α} {i : Nat} {y : V} (h : DpAll K F us (as.map f)) (hx : us[i]? = some y) : ∃ r, as[i]? = some r ∧ Dp K F y (f r) := by
  have hl := dpa_len h
  have hi := (List.getElem?_eq_some_iff.mp hx).1
  rw [List.length_map] at hl
  have hr : as[i]? = some as[i] := List.getElem?_eq_getElem (by omega)
  obtain ⟨v, hv, dv⟩ := dpa_get (i := i) (d := f as[i]) h (by rw [List.getElem?_map, hr]; rfl)
  rw [hx] at hv
  rw [Option.some.inj hv]
  exact ⟨_, hr, dv⟩
end
/-- no cell is written twice -/
def Apart (ms : List Mv) : Prop := ms.Pairwise fun m k => m.to + m.len ≤ k.to ∨ k.to + k.len ≤ m.to
theorem Apart.perm {ms ks : List Mv} (h : Apart ms) (p : ms.Perm ks) : Apart ks := (p.pairwise_iff (fun h => h.symm)).mp h
structure MvsOk (N : Nat) (ms : List Mv) : Prop where
  ok : ∀ m ∈ ms, MvOk N m
  ap : Apart ms
theorem MvsOk.perm {N : Nat} {ms ks : List Mv} (h : MvsOk N ms) (p : ms.Perm ks) : MvsOk N ks := ⟨fun m hm => h.ok m (p.mem_iff.mpr hm), h.ap.perm p⟩
theorem nodup_lt : ∀ (N : Nat) (l : List Nat), l.Nodup → (∀ x ∈ l, x < N) → l.length ≤ N
  | 0, [], _, _ => Nat.le_refl _
  | 0, x :: l, _, h => absurd (h x (List.mem_cons_self ..)) (Nat.not_lt_zero _)
  | N + 1, l, hn, h => by
    have ih := nodup_lt N (l.erase N) (hn.erase N) fun x hx => by
      have h1 := h x (List.mem_of_mem_erase hx)
      have h2 : x ≠ N := fun e => by
        subst e
        exact (List.Nodup.mem_erase_iff hn).mp hx |>.1 rfl
      omega
    rw [List.length_erase] at ih
    split at ih <;> omega
/-- fewer than N + 1 of them -/
theorem MvsOk.len {N : Nat} {ms : List Mv} (h : MvsOk N ms) : ms.length ≤ N := by
  have hn : (ms.map Mv.to).Nodup := by
    refine List.pairwise_map.mpr (h.ap.imp_of_mem fun ha hb z => ?_)
    have := (h.ok _ ha).p
    have := (h.ok _ hb).p
    omega
  have hs : ∀ x ∈ ms.map Mv.to, x < N := fun x hx => by
    obtain ⟨m, hm, rfl⟩ := List.mem_map.mp hx
    have := (h.ok m hm).p
    have := (h.ok m hm).t
    omega
  have := nodup_lt N _ hn hs
  rwa [List.length_map] at this
/-! ### cuts and blocks -/
/-! ### promises -/
def φtextN (K : PySem.W.Frag) : V → V → Hp → VK → Prop := fun x y H Q => ∃ (F : Hp) (b : Addr) (n : Int), x = .ref b ∧ y = .int n ∧ St F H [bag K b] ∧ 0 ≤ n ∧ n ≤ 1000 ∧
  ∀ (s : Str) F2 H2, W [b] F H F2 H2 [bag K b] → (s.length : Int) = n → okS s → Q (.str s) H2
end R
namespace R
open PySem L2
/-! ### a class of the text: its methods with their promises, its making -/
structure DM (P : Program) (w : World) (K : PySem.W.Frag) (mg : Str → Option Value) (base : Heap) (k : Nat) (C m : Str) (ps : List Str) (dvs : List V) (sp : Sp) : Prop where
  ex : ∃ (fd : FuncData) (ds : List Value), FnOk P w K mg base CX0 k (He.ma K (He.ga K C) m) fd ps sp ∧ Meth K (He.ga K C) m (He.ma K (He.ga K C) m) ∧ Cls K (He.ga K C) ∧ Binds K fd ps ds ∧ Vals dvs ds
structure DN (P : Program) (w : World) (K : PySem.W.Frag) (mg : Str → Option Value) (base : Heap) (k : Nat) (C : Str) (ps : List Str) (dvs : List V) (sp : Sp) : Prop where
  ex : ∃ (fd : FuncData) (ds : List Value), FnOk P w K mg base CX0 k (He.ma K (He.ga K C) "__init__") fd ps sp ∧ Mk K (He.ga K C) (He.ma K (He.ga K C) "__init__") ∧ mg C = some (.ref (He.ga K C)) ∧ Binds K fd ps ds ∧ Vals dvs ds
section
variable {X : Cx} {k j n : Nat} {ps ks : List Str} {sp : Sp} {dvs : List V} {C m x : Str} {p pos apos : Pos} {o e : Expr} {es : List Expr} {kws : List Keyword} {ta : TE} {t tk : TA} {tp : List (Nat × Nat)} {pl : Sem Bool}
theorem pmake (D : DN X.prog X.w X.K X.mg X.base k x ps dvs sp) (hr : Room j X.A) (ha : PA X (e :: es) t) (hj : k + 1 ≤ j := by first | decide | exact Nat.le_refl _ | omega) (hg : Gl X x := by rfl) (hdb : (x == ("__debug__" : Str)) = false := by decide)
    (he : starEach (e :: es) X.env = (false, eval e X.env) :: starEach es X.env := by rfl) (hpl : (backTo pos (starEach es X.env)).any (·.1) = false := by rfl) :
    PE X (.Call (.Name x p) (e :: es) [] pos) (tMake (He.ga X.K x) sp dvs E0 t) := by
  obtain ⟨fd, ds, F, M, hm, hb, hd⟩ := D.ex
  exact pe_make M F (hr.mono hj) hg hm hb hd pass0 ha hdb he hpl
end
/-! ### rules with the written part by its own name -/
section
variable {X : Cx} {K : PySem.W.Frag} {o value : Expr} {f : Str} {ta tv : TE} {pos p2 : Pos}
theorem psFld (ha : PE X o ta) (hv : PE X value tv) (hs : swapsWith value (some (.Attribute o f p2)) pos.line X.env = pure false) (h : X.K = K := by rfl) : PS X (.Assign [.Attribute o f p2] value pos) (sFld K ta tv f) := by
  subst h
  exact ps_fld ha hv hs
end
/-! ### steps -/
section
variable {K : PySem.W.Frag} {σ : L2.St} {H : Hp} {Q : VK} {ta tv : TE} {x v : V} {nx bk ct : L2.St → Hp → Prop} {rt : VK} {C a dx : Addr} {f m : Str} {fs : List (Str × V)}
/-- what an instance's field asks -/
def gFld (K : PySem.W.Frag) (f : Str) (x : V) (H : Hp) (Q : VK) : Prop := ∃ a C dx fs v, x = .ref a ∧ H a = some (.ins C dx fs) ∧ Cls K C ∧ NoAttr K C f ∧ fs.lookup f = some v ∧ Q v H
theorem w_fldE (q : ta σ H fun x H1 => gFld K f x H1 Q) : tFld K ta f σ H Q := q
instance : Step (tFld K ta f σ H Q) (ta σ H fun x H1 => gFld K f x H1 Q) := ⟨w_fldE⟩ -- st
theorem w_fld (c : Cls K C) (n : NoAttr K C f) (h : H a = some (.ins C dx fs)) (l : fs.lookup f = some v) (q : Q v H) : gFld K f (.ref a) H Q := ⟨a, C, dx, fs, v, rfl, h, c, n, l, q⟩
def gSFld (K : PySem.W.Frag) (f : Str) (x y : V) (H : Hp) (Z : Hp → Prop) : Prop := ∃ a C dx fs, x = .ref a ∧ H a = some (.ins C dx fs) ∧ Cls K C ∧ NoAttr K C f ∧ fs.length < 1000 ∧ Z (upd H a (.ins C dx (putF f y fs)))
theorem w_sfldE (q : tv σ H fun y H1 => ta σ H1 fun x H2 => gSFld K f x y H2 fun H3 => nx σ H3) : sFld K ta tv f ⟨nx, rt, bk, ct⟩ σ H := q
instance : Step (sFld K ta tv f ⟨nx, rt, bk, ct⟩ σ H) (tv σ H fun y H1 => ta σ H1 fun x H2 => gSFld K f x y H2 fun H3 => nx σ H3) := ⟨w_sfldE⟩ -- st
theorem w_sfld {Z : Hp → Prop} (c : Cls K C) (n : NoAttr K C f) (h : H a = some (.ins C dx fs)) (l : fs.length < 1000) (q : Z (upd H a (.ins C dx (putF f v fs)))) : gSFld K f (.ref a) v H Z := ⟨a, C, dx, fs, rfl, h, c, n, l, q⟩
theorem w_meth {sp : Sp} {dvs : List V} {E : XK} {t : TA} (q : ta σ H fun x H1 => ∃ a dx fs, x = .ref a ∧ H1 a = some (.ins C dx fs) ∧ fs.lookup m = none ∧ t σ H1 fun vs H2 => sp (x :: (vs ++ dvs)) H2 Q E) : tMeth C m sp dvs E ta t σ H Q := q
end
end R
namespace R
open PySem PySem.Spec PyProof.Rows L2
/-! ### the head's facts with one more of the written part -/
def obsEG (n : Nat) (fa : List He.Fa) (fn : List He.DefD) (ex : PySem.W.Frag → Bool) (g : Addr → Option Obj) : He.AlD × Bool := (He.obsDG n fa fn g, ex (He.frG g (He.asD g n)))
def hookE (n : Nat) (fa : List He.Fa) (fn : List He.DefD) (ex : PySem.W.Frag → Bool) : PySem.W.Hook where
  α := He.AlD × Bool
  obs := fun s => obsEG n fa fn ex s.heap.get?
  val := fun _ => (He.valD fn, true)
  says := fun _ h => ∃ K : PySem.W.Frag, K.In h ∧ He.SaysD fa fn K ∧ ex K = true
  of := fun _ _ e => ⟨_, He.frG_in, congrArg Prod.fst e, congrArg Prod.snd e⟩
  keeps := fun _ _ _ ⟨K, hK, c⟩ k => ⟨K, PySem.W.Frag.In.keeps hK k, c⟩
theorem obsEG_eq {n : Nat} {fa : List He.Fa} {fn : List He.DefD} {ex : PySem.W.Frag → Bool} {g : Addr → Option Obj} {s : Shared} (h : ∀ a, g a = s.heap.get? a) : obsEG n fa fn ex g = (hookE n fa fn ex).obs s := by
  have e : g = s.heap.get? := funext h
  rw [e] <;> rfl
def eqV2 (a b : Option (Option Value)) : Bool := decide (a = b)
/-- what isinstance asks of an own class -/
def insB (K : PySem.W.Frag) (C : Str) : Bool := eqV2 (PySem.W.findIn K (.ref (He.ga K C)) "__class__") (some (some (.builtin "object.__class__"))) &&
  (eqV2 (PySem.W.specialIn K (.builtin "object.__class__") "__get__") (some (some (.builtin "getset_descriptor.__get__"))) &&
  (decide (PySem.W.takesIn K (.builtin "object.__class__") = some true) && (decide (PySem.W.mroIn K (He.ga K C) (.type "object") = some true) && decide (PySem.W.kitOne K (.ref (He.ga K C)) (.ref (He.ga K C)) = some true))))
theorem insB_ok {K : PySem.W.Frag} {C : Str} (c : Cls K (He.ga K C)) (h : insB K C = true) : C8.InsC K (He.ga K C) := by
  unfold insB at h
  simp only [Bool.and_eq_true, eqV2, decide_eq_true_eq] at h
  obtain ⟨h1, h2, h3, h4, h5⟩ := h
  exact ⟨c, h1, h2, h3, h4, h5⟩
/-- a class's own function for a special name -/
def spcB (K : PySem.W.Frag) (C m : Str) : Bool := eqV2 (PySem.W.findIn K (.ref (He.ga K C)) m) (some (some (.ref (He.ma K (He.ga K C) m)))) && PySem.W.isFn K (.ref (He.ma K (He.ga K C) m))
section
variable {X : Cx} {K : PySem.W.Frag} {k : Nat} {C : Str} {ps : List Str} {sp : Sp}
def aftI (Q : VK) : VK := fun v H2 => ∃ n : Int, v = .int n ∧ (0 ≤ n ∧ n < 2 ^ 63) ∧ Q (.int n) H2
def aftB (Q : VK) : VK := fun v H2 => ∃ k : Bool, v = .bl k ∧ Q (.bl k) H2
/-- len(x) by an own __len__ -/
def rLenO (C : Addr) (sp : Sp) : List V → Hp → VK → Prop := fun xs H Q => ∃ a dx fs, xs = [.ref a] ∧ H a = some (.ins C dx fs) ∧ sp [.ref a] H (aftI Q) E0
theorem clLenO (D : DM X.prog X.w X.K X.mg X.base k C "__len__" ps [] sp) {j : Nat} (hr : Room j X.A) (hj : k + 1 ≤ j) : CallR X (.builtin "len") (rLenO (He.ga X.K C) sp) := by
  obtain ⟨fd, ds, F, c, _, hb, hv⟩ := D.ex
  cases hv
  intro pins s σ H xs us Q I r h
  obtain ⟨a, dx, fs, rfl, ha, q⟩ := h
  rw [Vals.ref1 r]
  obtain ⟨mA, J, _⟩ := ins_get I.hok ha
  obtain ⟨od, J, _⟩ := J.look
  obtain ⟨m, hF⟩ := I.fr
  refine PySem.W.len_K hF I.ok.mod.kin J c.at_ c.fn ?_
  have e0 : Env0 X.prog X.w X.K X.mg X.base X.A.in1 X.stack s H := by
    have e := I.env0
    exact ⟨e.frames, e.mod, e.bs, e.bsz, e.funs, e.frf, e.hok, e.bare⟩
  have hl := F.len _ _ _ _ q
  refine wpAny_call (codeAny_mono (F.run X.A.in1 X.stack s H ⟨[.ref a], []⟩ [.ref a] [.ref a] _ E0 (hr.mono hj).in1 e0 (by
    have := hb s [.ref a] I.kIn (by simpa using hl)
    simpa using this) (.cons rfl .nil) q) fun r s' hq => ?_)
  cases r with
  | error e => exact pass0 pins σ H s e s' I hq
  | ok fl =>
    cases fl with
    | ret w =>
      obtain ⟨z, H', I', rz, n, ez, hn, q⟩ := I.after hq
      subst ez
      obtain ⟨t, rfl⟩ := rz
      exact ⟨hn, .int n, H', I'.tok _, ⟨_, rfl⟩, q⟩
    | next => exact False.elim hq
    | brk => exact False.elim hq
    | cont => exact False.elim hq
/-- x == y of two own instances by an own __eq__ -/
def rEqO (C : Addr) (sp : Sp) : R2 := fun x y H Q => ∃ a b dx dy fs gs, x = .ref a ∧ y = .ref b ∧ H a = some (.ins C dx fs) ∧ H b = some (.ins C dy gs) ∧ sp [.ref a, .ref b] H (aftB Q) E0
theorem opEqO (D : DM X.prog X.w X.K X.mg X.base k C "__eq__" ps [] sp) {j : Nat} (hr : Room j X.A) (hj : k ≤ j) : OpR X (compareOp .Eq) (rEqO (He.ga X.K C) sp) := by
  obtain ⟨fd, ds, F, c, _, hb, hv⟩ := D.ex
  cases hv
  intro pins s σ H x y u v Q I rx ry h
  obtain ⟨a, b, dx, dy, fs, gs, rfl, rfl, ha, hb', q⟩ := h
  cases rx
  cases ry
  obtain ⟨mA, J, _⟩ := ins_get I.hok ha
  obtain ⟨mB, J', _⟩ := ins_get I.hok hb'
  obtain ⟨od, J, _⟩ := J.look
  obtain ⟨od', J', _⟩ := J'.look
  obtain ⟨m, hF⟩ := I.fr
  show wpAny (model X.prog X.w) X.A (richCompare .Eq (.ref a) (.ref b)) (EP X pins σ Q) X.xe s
  refine PySem.W.cmp_K (op := .Eq) (tb := .ref (He.ga X.K C)) hr.units0 hF I.ok.mod.kin J J'.type (by simp [PySem.W.notFirst]) c.at_ c.fn ?_
  have hl := F.len _ _ _ _ q
  refine wpAny_call (codeAny_mono (F.run X.A X.stack s H ⟨[.ref a, .ref b], []⟩ [.ref a, .ref b] [.ref a, .ref b] _ E0 (hr.mono hj) I.env0 (by
    have := hb s [.ref a, .ref b] I.kIn (by simpa using hl)
    simpa using this) (.cons rfl (.cons rfl .nil)) q) fun r s' hq => ?_)
  cases r with
  | error e => exact pass0 pins σ H s e s' I hq
  | ok fl =>
    cases fl with
    | ret w =>
      obtain ⟨z, H', I', rz, n, ez, q⟩ := I.after hq
      subst ez
      cases rz
      exact ⟨.bl n, H', I', rfl, q⟩
    | next => exact False.elim hq
    | brk => exact False.elim hq
    | cont => exact False.elim hq
end
section
variable {K : PySem.W.Frag} {H : Hp} {Q : VK} {C : Str} {c : Addr} {a b dx dy : Addr} {fs gs : List (Str × V)} {sp : Sp}
theorem n_lenO (h : H a = some (.ins c dx fs)) (q : sp [.ref a] H (aftI Q) E0) : rLenO c sp [.ref a] H Q := ⟨a, dx, fs, rfl, h, q⟩
theorem n_eqO (h : H a = some (.ins c dx fs)) (h' : H b = some (.ins c dy gs)) (q : sp [.ref a, .ref b] H (aftB Q) E0) : rEqO c sp (.ref a) (.ref b) H Q := ⟨a, b, dx, dy, fs, gs, rfl, rfl, h, h', q⟩
end
end R
namespace R
open PySem L2
/-! ### instances in a reading -/
def mthG (C : Addr) (m : Str) (x : V) (H : Hp) (P : Prop) : Prop := (∃ a dx fs, x = .ref a ∧ H a = some (.ins C dx fs) ∧ fs.lookup m = none) ∧ P
def aftG (Q : VK) (x : Addr) : VK := fun v H2 => v = .non ∧ Q (.ref x) H2
def makG (C : Addr) (sp : Sp) (ws : List V) (E : XK) (H : Hp) (Q : VK) : Prop := ∀ x dx, H x = none → H dx = none → dx ≠ x → sp (.ref x :: ws) (upd (upd H dx (.own x)) x (.ins C dx [])) (aftG Q x) E
section
variable {K : PySem.W.Frag} {M : List Addr} {F0 H0 F H : Hp} {L Rs : List Own} {σ : L2.St} {Q : VK} {ta : TE} {v : V} {nx bk ct : L2.St → Hp → Prop} {rt : VK} {C a dx : Addr} {f m : Str} {fs : List (Str × V)}
theorem n_fld (h : H a = some (.ins C dx fs)) (l : fs.lookup f = some v) (c : Cls K C) (n : NoAttr K C f) (q : Q v H) : gFld K f (.ref a) H Q := w_fld c n h l q
instance : SideK (gFld K f (.ref a) H Q) 4 := ⟨⟩ -- st
theorem n_sfld {Z : Hp → Prop} (w : W M F0 H0 F H L) (k : Pick L [mu a (.ins C dx fs)] Rs) (c : Cls K C) (n : NoAttr K C f) (l : fs.length < 1000) (q : ∀ H2, W M F0 H0 F H2 (mu a (.ins C dx (putF f v fs)) :: Rs) → Z H2) : gSFld K f (.ref a) v H Z :=
  w_sfld c n ((w.to k).at_ (List.mem_singleton.mpr rfl)) l (q _ (w.wr k))
theorem x_meth {sp : Sp} {dvs : List V} {E : XK} {t : TA} (q : ta σ H fun x H1 => mthG C m x H1 (t σ H1 fun vs H2 => sp (x :: (vs ++ dvs)) H2 Q E)) : tMeth C m sp dvs E ta t σ H Q := by
  refine w_meth ?_
  refine cast ?_ q
  congr 1
  funext x H1
  unfold mthG
  refine propext ⟨?_, ?_⟩
  · rintro ⟨⟨a, dx, fs, h1, h2, h3⟩, h4⟩
    exact ⟨a, dx, fs, h1, h2, h3, h4⟩
  · rintro ⟨a, dx, fs, h1, h2, h3, h4⟩
    exact ⟨⟨a, dx, fs, h1, h2, h3⟩, h4⟩
instance {sp : Sp} {dvs : List V} {E : XK} {t : TA} : Step (tMeth C m sp dvs E ta t σ H Q) (ta σ H fun x H1 => mthG C m x H1 (t σ H1 fun vs H2 => sp (x :: (vs ++ dvs)) H2 Q E)) := ⟨x_meth⟩ -- st
theorem n_meth {P : Prop} (h : H a = some (.ins C dx fs)) (l : fs.lookup m = none) (q : P) : mthG C m (.ref a) H P := ⟨⟨a, dx, fs, rfl, h, l⟩, q⟩
instance {P : Prop} : SideK (mthG C m (.ref a) H P) 4 := ⟨⟩ -- st
theorem x_make {sp : Sp} {dvs : List V} {E : XK} {t : TA} (q : t σ H fun vs H1 => makG C sp (vs ++ dvs) E H1 Q) : tMake C sp dvs E t σ H Q := q
instance {sp : Sp} {dvs : List V} {E : XK} {t : TA} : Step (tMake C sp dvs E t σ H Q) (t σ H fun vs H1 => makG C sp (vs ++ dvs) E H1 Q) := ⟨x_make⟩ -- st
theorem n_make {sp : Sp} {ws : List V} {E : XK} (w : W M F0 H0 F H L) (q : ∀ x dx H2, W M F0 H0 F H2 (mu x (.ins C dx []) :: mu dx (.own x) :: L) → H0 x = none → sp (.ref x :: ws) H2 (aftG Q x) E) : makG C sp ws E H Q := by
  intro x dx nx ndx hne
  have w1 := w.nw (u := .own x) ndx
  have nx1 : upd H dx (.own x) x = none := by rw [upd_ne hne.symm]; exact nx
  exact q x dx _ (w1.nw (u := .ins C dx []) nx1) (w.g.fresh nx)
end
/-! ### rows of a change -/
inductive CRow where
  | put (s : Str)
  | copy (a n : Nat)
def CRow.d : CRow → PyData
  | .put s => .tuple [.str "put", .str s]
  | .copy a n => .tuple [.str "copy", .int a, .int n]
def CRow.gives : CRow → Nat
  | .put s => s.length
  | .copy _ n => n
def CRow.hi : CRow → Nat
  | .put _ => 0
  | .copy a n => a + n
def CRow.sOk : CRow → Prop
  | .put s => okS s ∧ s.length ≤ 1000
  | .copy _ _ => True
structure CRowOk (size : Nat) (r : CRow) : Prop where
  s : r.sOk
  p : 1 ≤ r.gives
  h : r.hi ≤ size
abbrev givesL (rows : List CRow) : Nat := (rows.map CRow.gives).sum
structure RowsOk (size : Nat) (rows : List CRow) : Prop where
  ok : ∀ r ∈ rows, CRowOk size r
  sum : givesL rows ≤ 400
theorem rows_len : ∀ {rows : List CRow}, (∀ r ∈ rows, 1 ≤ r.gives) → rows.length ≤ givesL rows
  | [], _ => Nat.le_refl _
  | r :: rows, h => by
    have ih := rows_len (rows := rows) fun q hq => h q (List.mem_cons_of_mem _ hq)
    have h1 := h r (List.mem_cons_self ..)
    show rows.length + 1 ≤ r.gives + givesL rows
    omega
theorem RowsOk.len {size : Nat} {rows : List CRow} (h : RowsOk size rows) : rows.length ≤ 400 := Nat.le_trans (rows_len fun r hr => (h.ok r hr).p) h.sum
section
variable {K : PySem.W.Frag} {F : Hp} {x : V}
theorem dp_cput {s : Str} (h : Dp K F x (CRow.put s).d) : ∃ a, x = .ref a ∧ SqT K F a [.str "put", .str s] := by
  obtain ⟨a, vs, rfl, hs, h0⟩ := dp_tup h
  obtain ⟨v1, us, rfl, h1, h0⟩ := dpa_cons h0
  obtain ⟨v2, us, rfl, h2, h0⟩ := dpa_cons h0
  cases dpa_nil h0
  rw [dp_str h1, dp_str h2] at hs
  exact ⟨a, rfl, hs⟩
theorem dp_ccopy {a n : Nat} (h : Dp K F x (CRow.copy a n).d) : ∃ p, x = .ref p ∧ SqT K F p [.str "copy", .int a, .int n] := by
  obtain ⟨a, v1, v2, v3, rfl, hs, h1, h2, h3⟩ := dp_tup3 h
  rw [dp_str h1, dp_int h2, dp_int h3] at hs
  exact ⟨a, rfl, hs⟩
theorem dp_cput' {p : Addr} {s : Str} (h : SqT K F p [.str "put", .str s]) : Dp K F (.ref p) (CRow.put s).d := .tup h (.cons (.str _) (.cons (.str _) .nil))
theorem dp_ccopy' {p : Addr} {a n : Nat} (h : SqT K F p [.str "copy", .int a, .int n]) : Dp K F (.ref p) (CRow.copy a n).d := .tup h (.cons (.str _) (.cons (.int _) (.cons (.int _) .nil)))
end
theorem crow_good {m : CRow} (h : m.sOk) : good m.d = true ∧ m.d.depth ≤ 1 := by
  cases m with
  | put s =>
    constructor
    · refine good_tuple (by simp) fun d hd => ?_
      simp only [List.mem_cons, List.not_mem_nil, or_false] at hd
      rcases hd with rfl | rfl
      · decide +kernel
      · exact str_good h.1 (Nat.le_trans h.2 (by decide))
    · refine depth_tuple fun d hd => ?_
      simp only [List.mem_cons, List.not_mem_nil, or_false] at hd
      rcases hd with rfl | rfl <;> exact Nat.le_refl _
  | copy a n =>
    constructor
    · refine good_tuple (by simp) fun d hd => ?_
      simp only [List.mem_cons, List.not_mem_nil, or_false] at hd
      rcases hd with rfl | rfl | rfl
      · decide +kernel
      · rfl
      · rfl
    · refine depth_tuple fun d hd => ?_
      simp only [List.mem_cons, List.not_mem_nil, or_false] at hd
      rcases hd with rfl | rfl | rfl <;> exact Nat.le_refl _
theorem crows_good {ms : List CRow} (h : ∀ m ∈ ms, m.sOk) (hl : ms.length ≤ 100000) : good (.list (ms.map CRow.d)) = true ∧ (PyData.list (ms.map CRow.d)).depth ≤ 2 := by
  constructor
  · refine good_list (by rw [List.length_map]; exact hl) fun d hd => ?_
    obtain ⟨r, hr, rfl⟩ := List.mem_map.mp hd
    exact (crow_good (h r hr)).1
  · refine depth_list fun d hd => ?_
    obtain ⟨r, hr, rfl⟩ := List.mem_map.mp hd
    exact (crow_good (h r hr)).2
/-- a change that stays -/
def insC (C dx r : Addr) (n : Nat) : HO := .ins C dx [("size", .int (n : Nat)), ("rows", .ref r)]
def Chg (K : PySem.W.Frag) (F : Hp) (x : V) (n : Nat) (rows : List CRow) : Prop := ∃ c dx r vs, x = .ref c ∧ F c = some (insC (He.ga K "Change") dx r n) ∧ F r = some (.lst vs) ∧ DpAll K F vs (rows.map CRow.d)
theorem Chg.same {K : PySem.W.Frag} {F F2 : Hp} {x : V} {n : Nat} {rows : List CRow} (s : Same F F2) (h : Chg K F x n rows) : Chg K F2 x n rows := by
  obtain ⟨c, dx, r, vs, e, h1, h2, h3⟩ := h
  exact ⟨c, dx, r, vs, e, s _ _ h1, s _ _ h2, dpa_same s _ _ h3⟩
def chg (K : PySem.W.Frag) (x : V) (n : Nat) (rows : List CRow) : Own := pur (fun F => Chg K F x n rows) fun s h => h.same s
/-! ### moves of a change -/
theorem gives_take {rows : List CRow} {i : Nat} {r : CRow} (h : rows[i]? = some r) : givesL (rows.take (i + 1)) = givesL (rows.take i) + r.gives := by
  unfold givesL
  rw [List.take_add_one, h, List.map_append, List.sum_append]
  rfl
theorem gives_le (rows : List CRow) (i : Nat) : givesL (rows.take i) ≤ givesL rows := by
  have := List.sum_append (l₁ := (rows.take i).map CRow.gives) (l₂ := (rows.drop i).map CRow.gives)
  rw [← List.map_append, List.take_append_drop] at this
  show ((rows.take i).map CRow.gives).sum ≤ (rows.map CRow.gives).sum
  omega
/-! ### promises -/
def φgives (K : PySem.W.Frag) : V → V → Hp → VK → Prop := fun x y H Q => ∃ (F : Hp) (r : CRow) (n : Nat), y = .int (n : Nat) ∧ Same F H ∧ Dp K F x r.d ∧ CRowOk n r ∧ ∀ F2 H2, W [] F H F2 H2 [] → Q (.int (r.gives : Nat)) H2
def φinit (K : PySem.W.Frag) : V → V → V → Hp → VK → Prop := fun x y z H Q => ∃ (F : Hp) (c dx a : Addr) (vs : List V) (n : Nat) (rows : List CRow), x = .ref c ∧ y = .int (n : Nat) ∧ z = .ref a ∧ St F H [mu c (.ins (He.ga K "Change") dx [])] ∧ SqL K F a vs ∧ DpAll K F vs (rows.map CRow.d) ∧ n ≤ 400 ∧ RowsOk n rows ∧
  ∀ r F2 H2, H r = none → W [c] F H F2 H2 [mu c (insC (He.ga K "Change") dx r n), mu r (.lst vs)] → Q .non H2
/-- the making of a change -/
theorem c_init {K : PySem.W.Frag} {M : List Addr} {F0 H0 F H : Hp} {L Rs : List Own} {Q : VK} {E : XK} {c dx a : Addr} {vs : List V} {n : Nat} {rows : List CRow} (w : W M F0 H0 F H L) (k : Pick L [mu c (.ins (He.ga K "Change") dx [])] Rs) (hc : H0 c = none) (hs : SqL K F a vs) (hd : DpAll K F vs (rows.map CRow.d)) (hn : n ≤ 400) (ok : RowsOk n rows)
    (q : ∀ F2 H2, W M F0 H0 F2 H2 (chg K (.ref c) n rows :: Rs) → Q (.ref c) H2) : S3 (φinit K) [.ref c, .int (n : Nat), .ref a] H (aftG Q c) E := by
  refine ⟨F, c, dx, a, vs, n, rows, rfl, rfl, rfl, w.st k, hs, hd, hn, ok, fun r F2 H2 hr w2 => ⟨rfl, ?_⟩⟩
  have hr' := w.g.fresh hr
  have hd2 := dpa_same w2.ff _ _ hd
  have w := w.cal k w2 (.cons (.cons .nil)) rfl
  have m1 := w.mu (p := c) (List.mem_cons_self ..)
  have w := w.fz (.cons .here .nil) hc
  have hd2 := dpa_same (Same.new (o := insC (He.ga K "Change") dx r n) m1.n) _ _ hd2
  have m2 := w.mu (p := r) (List.mem_cons_self ..)
  have w := w.fz (.cons .here .nil) hr'
  have hd2 := dpa_same (Same.new (o := .lst vs) m2.n) _ _ hd2
  refine q _ _ (w.push _ ⟨c, dx, r, vs, rfl, ?_, upd_same, hd2⟩)
  have hne : c ≠ r := fun e => by
    subst e
    have := m2.n
    rw [upd_same] at this
    cases this
  rw [upd_ne hne, upd_same]
theorem crows_snoc {n : Nat} {rows : List CRow} {r : CRow} (h : ∀ q ∈ rows, CRowOk n q) (hr : CRowOk n r) : ∀ q ∈ rows ++ [r], CRowOk n q := by
  intro q hq
  rcases List.mem_append.mp hq with hq | hq
  · exact h q hq
  · rw [List.mem_singleton.mp hq]
    exact hr
theorem gives_snoc (rows : List CRow) (r : CRow) : givesL (rows ++ [r]) = givesL rows + r.gives := by
  unfold givesL
  rw [List.map_append, List.sum_append]
  rfl
/-! ### the makers of k01 .. k16 -/
theorem cut_last (xs : List V) : cutV xs (some (-1)) none = xs.drop (xs.length - 1) := by
  unfold cutV
  rw [HT.sIx_none]
  have e : HT.sIx xs.length 0 (some (-1)) = xs.length - 1 := by
    unfold HT.sIx
    simp
    omega
  rw [e]
  exact List.take_of_length_le (by rw [List.length_drop]; exact Nat.le_refl _)
theorem cut_last_snoc (xs : List V) (v : V) : cutV (xs ++ [v]) (some (-1)) none = [v] := by
  rw [cut_last, List.length_append]
  show (xs ++ [v]).drop (xs.length + 1 - 1) = [v]
  rw [Nat.add_sub_cancel, List.drop_left]
def sig93 : Str := "!\"#$&'()*+,-./0123456789:;<=>?@ABCDEFGHIJKLMNOPQRSTUVWXYZ" ++ "[\\]^_`abcdefghijklmnopqrstuvwxyz{|}~"
theorem sig_len : sig93.length = 93 := by decide +kernel
theorem sig_ok : okS sig93 := by decide +kernel
def φsigns : Hp → VK → Prop := fun H Q => Q (.str sig93) H
/-- the last row at the end of a list, or none -/
def φrow1 (K : PySem.W.Frag) : V → V → V → V → Hp → VK → Prop := fun x1 x2 x3 x4 H Q => ∃ (F : Hp) (b l : Addr) (n : Nat) (left : Int) (zs : List V), x1 = .ref b ∧ x2 = .int (n : Nat) ∧ x3 = .int left ∧ x4 = .ref l ∧ St F H [bag K b] ∧ SqL K F l zs ∧ (zs = [] ∨ ∃ v r, zs = [v] ∧ Dp K F v (CRow.d r) ∧ CRowOk n r) ∧ n ≤ 400 ∧ 1 ≤ left ∧ left ≤ 400 ∧
  ∀ v r F2 H2, W [b] F H F2 H2 [dat K v (CRow.d r), bag K b] → CRowOk n r → (r.gives : Int) ≤ left → Q v H2
def φrows1 (K : PySem.W.Frag) : V → V → V → V → Hp → VK → Prop := fun x1 x2 x3 x4 H Q => ∃ (F : Hp) (b : Addr) (n : Nat) (many most : Int), x1 = .ref b ∧ x2 = .int (n : Nat) ∧ x3 = .int many ∧ x4 = .int most ∧ St F H [bag K b] ∧ n ≤ 400 ∧ 0 ≤ many ∧ many ≤ 1000 ∧ 0 ≤ most ∧ most ≤ 400 ∧
  ∀ p ys rows F2 H2, H p = none → W [b] F H F2 H2 [mu p (.lst ys), dpa K ys (rows.map CRow.d), bag K b] → RowsOk n rows → (givesL rows : Int) ≤ most → Q (.ref p) H2
def φsize1 (K : PySem.W.Frag) : V → Hp → VK → Prop := fun x H Q => ∃ (F : Hp) (b : Addr), x = .ref b ∧ St F H [bag K b] ∧ ∀ (n : Nat) F2 H2, W [b] F H F2 H2 [bag K b] → n ≤ 400 → Q (.int (n : Nat)) H2
/-- len(change) -/
def φclen (K : PySem.W.Frag) : V → Hp → VK → Prop := fun x H Q => ∃ (F : Hp) (n : Nat) (rows : List CRow), Same F H ∧ Chg K F x n rows ∧ rows.length ≤ 100000 ∧ ∀ F2 H2, W [] F H F2 H2 [] → Q (.int (rows.length : Nat)) H2
theorem n_signs {H : Hp} {Q : VK} {E : XK} (q : Q (.str sig93) H) : S0 φsigns ([] ++ []) H Q E := q
end R
namespace R
open PySem PySem.Spec PyProof.Rows L2
/-! ### an instance made within a comprehension -/
theorem pmakeQ {X : Cx} {K : PySem.W.Frag} {k j : Nat} {ps : List Str} {sp : Sp} {dvs : List V} {x : Str} {p pos : Pos} {e : Expr} {es : List Expr} {t : TA} (D : DN X.prog X.w K X.mg X.base k x ps dvs sp) (hr : Room j X.A) (ha : PA X (e :: es) t) (hj : k + 1 ≤ j := by first | decide | exact Nat.le_refl _ | omega) (hg : Gl X x := by rfl) (hdb : (x == ("__debug__" : Str)) = false := by decide)
    (he : starEach (e :: es) X.env = (false, eval e X.env) :: starEach es X.env := by rfl) (hpl : (backTo pos (starEach es X.env)).any (·.1) = false := by rfl) (hK : X.K = K := by rfl) :
    PE X (.Call (.Name x p) (e :: es) [] pos) (tMake (He.ga K x) sp dvs E0 t) := by
  subst hK
  exact pmake D hr ha hj hg hdb he hpl
end R
namespace R
open PySem PySem.StrLaws Builtin.Str L2
/-! ### stretches of a text, by its signs -/
/-! ### the least cost of each beginning -/
/-! ### texts by their signs -/
abbrev cd (z : Str) : List Nat := z.cps.toList
theorem cd_len (z : Str) : (cd z).length = z.length := by simp [Str.length]
/-! ### the table -/
theorem ok_codes {z : Str} : okS z ↔ ∀ c ∈ cd z, c < 0x110000 := by
  show (z.cps.all (· < 0x110000)) = true ↔ _
  rw [← Array.all_toList, List.all_eq_true]
  exact ⟨fun h c hc => of_decide_eq_true (h c hc), fun h c hc => decide_eq_true (h c hc)⟩
theorem dpa_rev {K : PySem.W.Frag} {F : Hp} : ∀ {vs : List V} {ds : List PyData}, DpAll K F vs ds → DpAll K F vs.reverse ds.reverse
  | _, _, .nil => .nil
  | _, _, .cons h t => by
    rw [List.reverse_cons, List.reverse_cons]
    exact dpa_app (dpa_rev t) (.cons h .nil)
/-! ### cells -/
/-! ### promises -/
theorem cut_cd_to (z : Str) (j : Nat) : cd (cutS z none (some (j : Int))) = (cd z).take j := by
  have hl : z.cps.toList.length = z.length := cd_len z
  unfold cutS
  rw [HT.sIx_none, HT.sIx_nat]
  show ((z.cps.toList.drop 0).take _).toArray.toList = z.cps.toList.take j
  rw [List.toList_toArray, List.drop_zero, Nat.sub_zero]
  by_cases h : j ≤ z.length
  · rw [Nat.min_eq_left h]
  · rw [Nat.min_eq_right (by omega), List.take_of_length_le (by omega), List.take_of_length_le (by omega)]
theorem cut_cd_from (z : Str) (i : Nat) : cd (cutS z (some (i : Int)) none) = (cd z).drop i := by
  have hl : z.cps.toList.length = z.length := cd_len z
  unfold cutS
  rw [HT.sIx_none, HT.sIx_nat]
  show ((z.cps.toList.drop _).take _).toArray.toList = z.cps.toList.drop i
  rw [List.toList_toArray]
  by_cases h : i ≤ z.length
  · rw [Nat.min_eq_left h]
    exact List.take_of_length_le (by rw [List.length_drop]; omega)
  · rw [Nat.min_eq_right (by omega), Nat.sub_self, List.take_zero, List.drop_eq_nil_of_le (by omega)]
theorem ok_to {z : Str} (h : okS z) (j : Nat) : okS (cutS z none (some (j : Int))) := by
  rw [ok_codes, cut_cd_to]
  exact fun c hc => ok_codes.mp h c (List.mem_of_mem_take hc)
theorem ok_from {z : Str} (h : okS z) (j : Nat) : okS (cutS z (some (j : Int)) none) := by
  rw [ok_codes, cut_cd_from]
  exact fun c hc => ok_codes.mp h c (List.mem_of_mem_drop hc)
theorem len_to (z : Str) (j : Nat) : (cutS z none (some (j : Int))).length = min j z.length := by rw [← cd_len, cut_cd_to, List.length_take, cd_len]
theorem len_from (z : Str) (j : Nat) : (cutS z (some (j : Int)) none).length = z.length - j := by rw [← cd_len, cut_cd_from, List.length_drop, cd_len]
theorem len_app (a b : Str) : (a ++ b).length = a.length + b.length := by
  rw [← cd_len, ← cd_len, ← cd_len, ← List.length_append]
  congr 1
  exact TL.tl_append a b
/-! ### plain finds -/
end R
namespace R
open PySem PySem.StrLaws Builtin.Str L2
/-! ### cells of a change, and the fewest rows that give them -/
inductive Cel where
  | pl (i : Nat)
  | sg (c : Nat)
  deriving DecidableEq
def Cel.ok (n : Nat) : Cel → Prop
  | .pl i => i < n
  | .sg c => c < 0x110000
def Cel.w : Cel → Nat
  | .pl _ => 0
  | .sg _ => 1
theorem cd_app (a b : Str) : cd (a ++ b) = cd a ++ cd b := TL.tl_append a b
def CRow.add : CRow → Cel → Option CRow
  | .copy a n, .pl i => if a + n = i then some (.copy a (n + 1)) else none
  | .put s, .sg c => some (.put (s ++ ⟨#[c]⟩))
  | _, _ => none
def CRow.one : Cel → CRow
  | .pl i => .copy i 1
  | .sg c => .put ⟨#[c]⟩
theorem row_le {rows : List CRow} {r : CRow} (h : r ∈ rows) : r.gives ≤ givesL rows := by
  induction rows with
  | nil => cases h
  | cons q rows ih =>
    show r.gives ≤ q.gives + givesL rows
    rcases List.mem_cons.mp h with rfl | h
    · omega
    · have := ih h
      omega
/-! ### back, and one behind the other -/
theorem cut_to_V (xs : List V) (k : Nat) : cutV xs none (some (k : Int)) = xs.take k := by
  unfold cutV
  rw [HT.sIx_none, HT.sIx_nat, List.drop_zero, Nat.sub_zero]
  by_cases h : k ≤ xs.length
  · rw [Nat.min_eq_left h]
  · rw [Nat.min_eq_right (by omega), List.take_of_length_le (by omega), List.take_of_length_le (by omega)]
theorem cut_from_V (xs : List V) (k : Nat) : cutV xs (some (k : Int)) none = xs.drop k := by
  unfold cutV
  rw [HT.sIx_none, HT.sIx_nat]
  by_cases h : k ≤ xs.length
  · rw [Nat.min_eq_left h]
    exact List.take_of_length_le (by rw [List.length_drop]; exact Nat.le_refl _)
  · rw [Nat.min_eq_right (by omega), Nat.sub_self, List.take_zero, List.drop_eq_nil_of_le (by omega)]
theorem dpa_takeN {K : PySem.W.Frag} {F : Hp} : ∀ {vs : List V} {ds : List PyData} (n : Nat), DpAll K F vs ds → DpAll K F (vs.take n) (ds.take n)
  | _, _, 0, _ => by rw [List.take_zero, List.take_zero]; exact .nil
  | _, _, n + 1, .nil => by rw [List.take_nil, List.take_nil]; exact .nil
  | _, _, n + 1, .cons h t => .cons h (dpa_takeN n t)
theorem dpa_dropN {K : PySem.W.Frag} {F : Hp} : ∀ {vs : List V} {ds : List PyData} (n : Nat), DpAll K F vs ds → DpAll K F (vs.drop n) (ds.drop n)
  | _, _, 0, h => h
  | _, _, n + 1, .nil => by rw [List.drop_nil, List.drop_nil]; exact .nil
  | _, _, n + 1, .cons h t => dpa_dropN n t
def Cel.d : Cel → PyData
  | .pl i => .int (i : Nat)
  | .sg c => .str ⟨#[c]⟩
/-! ### promises -/
/-! d.setdefault(k, x), d.get(k, x) with keys that are numbers -/
end R
namespace R
open PySem PySem.Spec PyProof.Rows L2 PySem.W
/-! ### str(x) by an own __str__ -/
section
variable {prog : Program} {w : World} {A : Around} {E : Value → Shared → Prop} {s : Shared} {K : PySem.W.Frag} {x C f : Addr} {ox : Obj} {od : Option Obj}
theorem plain_str_new : plainId "str.__new__" = true := by decide +kernel
theorem strOf_K {Q : Value → Shared → Prop} (hu : A.units < cLine) (X : K.In s.heap) (I : InstAt s.heap x ox C od) (hs : findIn K (.ref C) "__str__" = some (some (.ref f))) (hf : isFn K (.ref f) = true)
    (h : wpAny (model prog w) A (call (.ref f) [.ref x]) (StrBack Q) E s) : wpAny (model prog w) A (Builtin.Str.strOf (.ref x)) Q E s := by
  unfold Builtin.Str.strOf
  rw [show Builtin.Str.isExactStr (.ref x) = false from rfl]
  show wpAny _ _ (cRoomFor "str" [.ref x] >>= _) _ _ _
  refine wpAny_bind (wpAny_cRoomFor hu ?_)
  refine wpAny_bind (m := callSpecial? (.ref x) (Str.ofString "__str__")) (special_fn X I hs (beq_iff_eq.mp hf) (wpAny_mono h (fun r s' hr => ?_) fun _ _ y => y))
  cases r <;> first | exact hr.elim | skip
  exact wpAny_pure hr
theorem code_str_new {Q₁ : Value → Shared → Prop} (hu : A.units + 1 < cLine) (X : K.In s.heap) (I : InstAt s.heap x ox C od) (hs : findIn K (.ref C) "__str__" = some (some (.ref f))) (hf : isFn K (.ref f) = true)
    (h : wpAny (model prog w) A.in1 (call (.ref f) [.ref x]) (StrBack Q₁) E s) : codeAny (model prog w) A (.call (.builtin "str.__new__") ⟨[.type "str", .ref x], []⟩) (wants Q₁ E) s := by
  refine codeAny_of_tree ?_
  show wpAny _ A.in1 (do checkBuiltinCall "str.__new__" ⟨[.type "str", .ref x], []⟩; again (.builtin "str.__new__" ⟨[.type "str", .ref x], []⟩)) _ _ s
  refine wpAny_bind (wpAny_of_eq (F.newCall_str_1 _) (wpAny_pure ⟨plainId_quiet plain_str_new _, codeAny_builtin F.entry_str_new ?_⟩))
  rw [Around.under_plainId plain_str_new _]
  rw [str_new_tree]
  refine wpAny_bind (wpAny_pure ?_)
  refine wpAny_bind (wpAny_of_eq isSubtype_str_str ?_)
  refine wpAny_bind (wpAny_mono (strOf_K (A := A.in1) hu X I hs hf h) (fun r s' h' => wpAny_pure ?_) fun _ _ e => e)
  exact h'
theorem str_own {Q : Value → Shared → Prop} (hu : A.units + 2 < cLine) (X : K.In s.heap) (I : InstAt s.heap x ox C od) (hs : findIn K (.ref C) "__str__" = some (some (.ref f))) (hf : isFn K (.ref f) = true)
    (h : wpAny (model prog w) A.in1.in1 (call (.ref f) [.ref x]) (StrBack Q) E s) : wpAny (model prog w) A (call (.type "str") [.ref x]) Q E s := by
  refine callType_codes (Q₁ := fun obj s₁ => s₁.TypeIs obj "str" ∧ Q obj s₁) F.called_str (F.typeCall_str_1 _) F.entry_object_init
    (code_str_new (A := A.in1) hu X I hs hf (wpAny_mono h (fun r s' hr => ?_) fun _ _ e => e)) fun obj s₁ h₁ => ?_
  · cases r <;> first | exact hr.elim | skip
    exact ⟨typeIs_str _ _ _, hr⟩
  · exact ⟨h₁.1, F.args_object_init_2 obj _, object_init_meets F.called_str.init.lookup F.called_str.made (by decide) prog w A.in1 _ s₁ ⟨h₁.1, rfl, h₁.2⟩⟩
end
/-- what str(x), f'{x}' ask of an own class -/
def strB (K : PySem.W.Frag) (C : Str) : Bool := spcB K C "__str__" && (eqV2 (PySem.W.findIn K (.ref (He.ga K C)) "__format__") (some (some (.builtin "object.__format__"))) && decide (PySem.W.mroIn K (He.ga K C) (.type "object") = some true))
structure StrC (K : PySem.W.Frag) (C : Str) : Prop where
  f : PySem.W.findIn K (.ref (He.ga K C)) "__format__" = some (some (.builtin "object.__format__"))
  o : PySem.W.mroIn K (He.ga K C) (.type "object") = some true
theorem strB_ok {K : PySem.W.Frag} {C : Str} (h : strB K C = true) : StrC K C := by
  unfold strB at h
  simp only [Bool.and_eq_true, eqV2, decide_eq_true_eq] at h
  exact ⟨h.2.1, h.2.2⟩
section
variable {X : Cx} {K : PySem.W.Frag} {k : Nat} {C : Str} {ps : List Str} {sp : Sp}
def aftS (Q : VK) : VK := fun v H2 => ∃ z : Str, v = .str z ∧ Q (.str z) H2
/-- str(x) by an own __str__ -/
def rStrO (C : Addr) (sp : Sp) : List V → Hp → VK → Prop := fun xs H Q => ∃ a dx fs, xs = [.ref a] ∧ H a = some (.ins C dx fs) ∧ sp [.ref a] H (aftS Q) E0
theorem clStrO (D : DM X.prog X.w X.K X.mg X.base k C "__str__" ps [] sp) {j : Nat} (hr : Room j X.A) (hj : k + 2 ≤ j) : CallR X (.type "str") (rStrO (He.ga X.K C) sp) := by
  obtain ⟨fd, ds, F, c, _, hb, hv⟩ := D.ex
  cases hv
  intro pins s σ H xs us Q I r h
  obtain ⟨a, dx, fs, rfl, ha, q⟩ := h
  rw [Vals.ref1 r]
  obtain ⟨mA, J, _⟩ := ins_get I.hok ha
  obtain ⟨od, J, _⟩ := J.look
  have e0 : Env0 X.prog X.w X.K X.mg X.base X.A.in1.in1 X.stack s H := by
    have e := I.env0
    exact ⟨e.frames, e.mod, e.bs, e.bsz, e.funs, e.frf, e.hok, e.bare⟩
  have hl := F.len _ _ _ _ q
  refine str_own (by have := hr.un; omega) I.kIn J c.at_ c.fn ?_
  refine wpAny_call (codeAny_mono (F.run X.A.in1.in1 X.stack s H ⟨[.ref a], []⟩ [.ref a] [.ref a] _ E0 (hr.mono hj).in1.in1 e0 (by
    have := hb s [.ref a] I.kIn (by simpa using hl)
    simpa using this) (.cons rfl .nil) q) fun r s' hq => ?_)
  cases r with
  | error e => exact pass0 pins σ H s e s' I hq
  | ok fl =>
    cases fl with
    | ret w =>
      obtain ⟨z, H', I', rz, n, ez, q⟩ := I.after hq
      subst ez
      obtain ⟨t, rfl⟩ := rz
      exact ⟨.str n, H', I', ⟨_, rfl⟩, q⟩
    | next => exact False.elim hq
    | brk => exact False.elim hq
    | cont => exact False.elim hq
/-- {x} of an own instance -/
def tFmtO (C : Addr) (sp : Sp) (te : TE) : TE := fun σ H Q => te σ H fun x H1 => ∃ a dx fs, x = .ref a ∧ H1 a = some (.ins C dx fs) ∧ sp [.ref a] H1 (aftS Q) E0
end
section
variable {σ : L2.St} {H : Hp} {Q : VK} {te : TE} {C : Addr} {m : Nat} {sp : Sp} {gV : List V → List V → List V} {E : XK} {tk : TA} {ts : List TE} {acc y : Str} {x : V} {R : Str → Hp → Prop} {i : Int}
def fmtG (x : V) (H1 : Hp) (Q : VK) : Prop := (∃ y : Str, x = .str y ∧ y.length ≤ sizeLine ∧ Q (.str y) H1) ∨ ∃ i : Int, x = .int i ∧ i.natAbs.log2 < 1920 ∧ Q (.str (toString i)) H1
theorem x_fmt (q : te σ H fun x H1 => fmtG x H1 Q) : tFmt te σ H Q := q
instance : Step (tFmt te σ H Q) (te σ H fun x H1 => fmtG x H1 Q) := ⟨x_fmt⟩ -- st
theorem n_fmtI (h : i.natAbs.log2 < 1920) (q : Q (.str (toString i)) H) : fmtG (.int i) H Q := .inr ⟨i, rfl, h, q⟩
def fmtGO (C : Addr) (sp : Sp) (x : V) (H1 : Hp) (Q : VK) : Prop := ∃ a dx fs, x = .ref a ∧ H1 a = some (.ins C dx fs) ∧ sp [.ref a] H1 (aftS Q) E0
theorem x_fmtO (q : te σ H fun x H1 => fmtGO C sp x H1 Q) : tFmtO C sp te σ H Q := q
instance : Step (tFmtO C sp te σ H Q) (te σ H fun x H1 => fmtGO C sp x H1 Q) := ⟨x_fmtO⟩ -- st
theorem n_strO {a dx : Addr} {fs : List (Str × V)} (h : H a = some (.ins C dx fs)) (q : sp [.ref a] H (aftS Q) E0) : rStrO C sp [.ref a] H Q := ⟨a, dx, fs, rfl, h, q⟩
def jsG (ts : List TE) (acc : Str) (σ : L2.St) (x : V) (H1 : Hp) (R : Str → Hp → Prop) : Prop := ∃ y : Str, x = .str y ∧ (acc ++ y).length ≤ sizeLine ∧ tJs ts (acc ++ y) σ H1 R
theorem x_js (q : te σ H fun x H1 => jsG ts acc σ x H1 R) : tJs (te :: ts) acc σ H R := q
instance : Step (tJs (te :: ts) acc σ H R) (te σ H fun x H1 => jsG ts acc σ x H1 R) := ⟨x_js⟩ -- st
theorem x_js0 (q : R acc H) : tJs [] acc σ H R := q
instance : Step (tJs [] acc σ H R) (R acc H) := ⟨x_js0⟩ -- st
theorem n_js (h : (acc ++ y).length ≤ sizeLine) (q : tJs ts (acc ++ y) σ H R) : jsG ts acc σ (.str y) H R := ⟨y, rfl, h, q⟩
/-- an instance made by keywords alone -/
def makKG (C : Addr) (sp : Sp) (gV : List V → List V → List V) (zs : List V) (E : XK) (H : Hp) (Q : VK) : Prop := ∀ x dx, H x = none → H dx = none → dx ≠ x → sp (gV [.ref x] zs) (upd (upd H dx (.own x)) x (.ins C dx [])) (aftG Q x) E
theorem x_makeK0 (q : tk σ H fun zs H2 => zs.length = m ∧ makKG C sp gV zs E H2 Q) : tMakeK C 0 m sp gV E tNil tk σ H Q := by
  show tk σ H _
  refine cast ?_ q
  congr 1
  funext zs H2
  refine propext ⟨?_, ?_⟩
  · rintro ⟨h1, h3⟩
    exact ⟨rfl, h1, fun x dx a b c => h3 x dx a b c⟩
  · rintro ⟨_, h1, h3⟩
    exact ⟨h1, fun x dx a b c => h3 x dx a b c⟩
instance : Step (tMakeK C 0 m sp gV E tNil tk σ H Q) (tk σ H fun zs H2 => zs.length = m ∧ makKG C sp gV zs E H2 Q) := ⟨x_makeK0⟩ -- st
end
end R
namespace R
open PySem L2
/-! ### the writing of a change -/
def numS (n : Nat) : Str := Str.ofString (toString ((n : Nat) : Int))
def smallNum (n : Nat) : Bool := (numS n).cps.all (· < 0x110000) && decide ((numS n).length ≤ 3)
theorem nums_small : ∀ n, n < 401 → smallNum n = true := by decide +kernel
theorem num_ok {n : Nat} (h : n ≤ 400) : okS (numS n) ∧ (numS n).length ≤ 3 := by
  have := nums_small n (by omega)
  unfold smallNum at this
  rw [Bool.and_eq_true, decide_eq_true_eq] at this
  exact this
theorem num_log {n : Nat} (h : n ≤ 400) : ((n : Nat) : Int).natAbs.log2 < 1920 := by
  have : ((n : Nat) : Int).natAbs = n := by simp
  rw [this]
  by_cases h0 : n = 0
  · rw [h0]
    decide
  · exact (Nat.log2_lt h0).mpr (Nat.lt_of_le_of_lt h (by decide +kernel : 400 < 2 ^ 1920))
def rowW : CRow → List Nat
  | .put s => cd (Str.ofString "put ") ++ cd s
  | .copy a n => cd (Str.ofString "copy ") ++ cd (numS a) ++ cd (Str.ofString " ") ++ cd (numS n)
def rowsW (rows : List CRow) : List Nat := rows.flatMap fun r => 10 :: rowW r
def writL (n : Nat) (rows : List CRow) : List Nat := (cd (Str.ofString "size ") ++ cd (numS n)) ++ rowsW rows
theorem len_put : (cd (Str.ofString "put ")).length = 4 := by decide +kernel
theorem len_copy : (cd (Str.ofString "copy ")).length = 5 := by decide +kernel
theorem len_sp : (cd (Str.ofString " ")).length = 1 := by decide +kernel
theorem nl_cd : cd (Str.ofString "\n") = [10] := by decide +kernel
theorem row_len {r : CRow} {n : Nat} (h : CRowOk n r) (hn : n ≤ 400) : (rowW r).length ≤ 12 + r.gives := by
  cases r with
  | put s =>
    show (cd (Str.ofString "put ") ++ cd s).length ≤ 12 + s.length
    rw [List.length_append, len_put, cd_len]
    omega
  | copy a m =>
    have h1 : a + m ≤ n := h.h
    have h2 := (num_ok (n := a) (by omega)).2
    have h3 := (num_ok (n := m) (by omega)).2
    show (cd (Str.ofString "copy ") ++ cd (numS a) ++ cd (Str.ofString " ") ++ cd (numS m)).length ≤ _
    rw [List.length_append, List.length_append, List.length_append, len_copy, len_sp, cd_len, cd_len]
    omega
theorem joinL_nl (a : List Nat) : ∀ l : List (List Nat), TL.joinL [10] (a :: l) = a ++ l.flatMap fun t => 10 :: t := by
  intro l
  induction l generalizing a with
  | nil => simp [TL.joinL]
  | cons b l ih =>
    rw [TL.joinL, ih]
    simp
theorem join_nl (t : Str) (ts : List Str) : cd (Txt.join (Str.ofString "\n") (t :: ts)) = cd t ++ (ts.map cd).flatMap fun c => 10 :: c := by
  have e : TL.tl (Txt.join (Str.ofString "\n") (t :: ts)) = TL.joinL [10] ((t :: ts).map TL.tl) := by
    rw [TL.join_eq, TL.tl_join]
    first | rfl | (congr 1; done) | (congr 1; exact nl_cd)
  refine e.trans ?_
  rw [List.map_cons, joinL_nl]
  try rfl
theorem sum_leW {l : List Str} {m : Nat} (h : ∀ t ∈ l, t.length ≤ m) : (l.map (·.length)).sum ≤ l.length * m := by
  induction l with
  | nil => exact Nat.zero_le _
  | cons a l ih =>
    have h1 := h a (List.mem_cons_self ..)
    have h2 := ih fun t ht => h t (List.mem_cons_of_mem _ ht)
    rw [List.map_cons, List.sum_cons, List.length_cons, Nat.succ_mul]
    omega
theorem slen_copy : (Str.ofString "copy ").length = 5 := by decide +kernel
theorem slen_size : (Str.ofString "size ").length = 5 := by decide +kernel
theorem slen_sp : (Str.ofString " ").length = 1 := by decide +kernel
theorem slen_nl : (Str.ofString "\n").length = 1 := by decide +kernel
theorem slen_e : Str.empty.length = 0 := rfl
theorem cd_e : cd Str.empty = [] := rfl
/-! ### promises -/
def φrowtext (K : PySem.W.Frag) : V → Hp → VK → Prop := fun x H Q => ∃ (F : Hp) (r : CRow) (n : Nat), Same F H ∧ Dp K F x r.d ∧ CRowOk n r ∧ n ≤ 400 ∧ ∀ s F2 H2, W [] F H F2 H2 [] → cd s = rowW r → Q (.str s) H2
def φstr (K : PySem.W.Frag) : V → Hp → VK → Prop := fun x H Q => ∃ (F : Hp) (n : Nat) (rows : List CRow), Same F H ∧ Chg K F x n rows ∧ RowsOk n rows ∧ n ≤ 400 ∧ ∀ s F2 H2, W [] F H F2 H2 [] → cd s = writL n rows → Q (.str s) H2
end R
namespace R
open PySem PySem.Spec PyProof.Rows L2
/-! ### x != y by an own __eq__, no own __ne__ -/
theorem ne_bind (self : Value) : bindSpecial (.builtin "object.__ne__") self = pure (.builtin "object.__ne__", [self]) := F.cmp_object.ne.bind self
section
variable {prog : Program} {w : World} {A : Around} {E : Value → Shared → Prop} {s : Shared} {K : PySem.W.Frag} {x C f : Addr} {h₀ : Heap} {L : Addr} {m : Str → Option Value} {ox : Obj} {od : Option Obj} {name : Str} {b tb : Value}
theorem ifBound_B {M : Model} {args : List Value} {Q : Option Value → Shared → Prop} {id : String} (X : K.In s.heap) (I : PySem.W.InstAt s.heap x ox C od) (hs : PySem.W.findIn K (.ref C) name = some (some (.builtin id))) (hb : ∀ self, bindSpecial (.builtin id) self = pure (.builtin id, [self]))
    (h : wpAny M A (call (.builtin id) (.ref x :: args)) (fun v => Q (some v)) E s) : wpAny M A (callSpecialIfBound? (.ref x) name args) Q E s := by
  simp only [callSpecialIfBound?, bindSpecialIfBound?]
  refine wpAny_holding (wpAny_bind (wpAny_bind (wpAny_bind (I.type.here ((PySem.W.looks_findIn X hs).here ?_)))))
  refine wpAny_bind (wpAny_askSetting (wpAny_ite ?_))
  have fin : wpAny M A (call (.builtin id) ([.ref x] ++ args) >>= fun v => pure (some v)) Q E s := wpAny_bind (wpAny_mono h (fun v s' h' => wpAny_pure h') fun _ _ h' => h')
  rw [hb]
  split
  · exact wpAny_bind (wpAny_pure (wpAny_pure (by exact fin)))
  · exact wpAny_tryCatch (wpAny_bind (wpAny_pure (wpAny_pure (by exact fin))))
theorem objNe_K {Q : Fin → Shared → Prop} (hu : A.units < cLine) (X : K.In s.heap) (I : PySem.W.InstAt s.heap x ox C od) (hs : PySem.W.findIn K (.ref C) "__eq__" = some (some (.ref f))) (hf : PySem.W.isFn K (.ref f) = true)
    (hcall : wpAny (model prog w) A (call (.ref f) [.ref x, b]) (fun v s' => ∃ k, v = .bool k ∧ Q (.done (.ret (.bool (!k)))) s') E s) :
    wpAny (model prog w) A (Builtin.«object.__ne__» ⟨[.ref x, b], []⟩) Q E s := by
  unfold Builtin.«object.__ne__»
  repeat (first
    | with_reducible refine wpAny_cRoomFor hu ?_
    | (refine wpAny_bind (m := callSpecialIfBound? (.ref x) (Str.ofString "__eq__") [b])
        (PySem.W.ifBound_K X I hs hf (wpAny_mono hcall (fun r s' hr => by
          obtain ⟨k, rfl, hq⟩ := hr
          repeat (first | exact hq | exact wpAny_pure hq | exact wpAny_truthy_bool hq | (refine wpAny_bind (m := truthy (.bool _)) (wpAny_truthy_bool ?_)) | wp_step)) fun _ _ e => e)))
    | wp_step)
theorem ne_K {Q : Value → Shared → Prop} (hu : A.units + 1 < cLine) (F : PyProof.Rows.Fr h₀ L s.heap m) (X₀ : K.In h₀) (I : PySem.W.InstAt s.heap x ox C od) (hb : PySem.W.Looks (model prog w) s.heap (typeOf b) tb) (hn : PySem.W.notFirst K C tb = true)
    (hne : PySem.W.findIn K (.ref C) "__ne__" = some (some (.builtin "object.__ne__"))) (hob : PySem.W.mroIn K C (.type "object") = some true)
    (hs : PySem.W.findIn K (.ref C) "__eq__" = some (some (.ref f))) (hf : PySem.W.isFn K (.ref f) = true)
    (h : wpAny (model prog w) A.in1 (call (.ref f) [.ref x, b]) (fun v s' => ∃ k, v = .bool k ∧ Q (.bool (!k)) s') E s) : wpAny (model prog w) A (richCompare .NotEq (.ref x) b) Q E s := by
  have X := X₀.keeps F.keep
  have one : wpAny (model prog w) A (tryCompare (.ref x) (cmpInfo .NotEq).2.1 b) (fun r s' => ∃ v, r = some v ∧ Q v s') E s := by
    unfold tryCompare
    refine wpAny_bind (ifBound_B (name := (cmpInfo .NotEq).2.1) X I hne ne_bind (wpAny_call (codeAny_call_builtin PySem.F.cmp_object.ne.plain PySem.F.cmpEntry_ne
      (PySem.W.check_slot PySem.F.cmpKind_ne PySem.F.cmpSplit_ne (I.type.andThen (PySem.W.looks_mroIn X hob)) (PySem.F.cmpArgs_ne _ _)
        (objNe_K (A := A.in1) hu X I hs hf (wpAny_mono h (fun v s' hv => ?_) fun _ _ e => e))))))
    obtain ⟨k, rfl, hq⟩ := hv
    first | exact ⟨k, rfl, wpAny_pure ⟨_, rfl, hq⟩⟩ | exact ⟨k, rfl, wpAny_pure (wpAny_pure ⟨_, rfl, hq⟩)⟩
  unfold richCompare
  simp only [oneThing_ref]
  refine wpAny_holding (wpAny_bind (wpAny_cRoomFor (Nat.lt_of_succ_lt hu) ?_))
  refine wpAny_bind (I.type.here (wpAny_bind (hb.here ?_)))
  split
  · rename_i q
    have e : PySem.W.subIn K tb (.ref C) = some false := by
      rcases Bool.or_eq_true_iff.mp hn with e | e
      · rw [beq_iff_eq.mp e] at q; simp at q
      · exact beq_iff_eq.mp e
    refine wpAny_bind ((PySem.W.looks_subIn X e).here ?_)
    simp only [Bool.false_eq_true, if_false]
    refine wpAny_bind (wpAny_mono one (fun r s' z => ?_) fun _ _ e => e)
    obtain ⟨v, rfl, hq⟩ := z
    exact wpAny_pure hq
  · refine wpAny_bind (wpAny_pure ?_)
    simp only [Bool.false_eq_true, if_false]
    refine wpAny_bind (wpAny_mono one (fun r s' z => ?_) fun _ _ e => e)
    obtain ⟨v, rfl, hq⟩ := z
    exact wpAny_pure hq
end
/-- what != asks of an own class -/
def neB (K : PySem.W.Frag) (C : Str) : Bool := eqV2 (PySem.W.findIn K (.ref (He.ga K C)) "__ne__") (some (some (.builtin "object.__ne__"))) && decide (PySem.W.mroIn K (He.ga K C) (.type "object") = some true)
structure Ne0 (K : PySem.W.Frag) (C : Str) : Prop where
  n : PySem.W.findIn K (.ref (He.ga K C)) "__ne__" = some (some (.builtin "object.__ne__"))
  o : PySem.W.mroIn K (He.ga K C) (.type "object") = some true
theorem neB_ok {K : PySem.W.Frag} {C : Str} (h : neB K C = true) : Ne0 K C := by
  unfold neB at h
  simp only [Bool.and_eq_true, eqV2, decide_eq_true_eq] at h
  exact ⟨h.1, h.2⟩
section
variable {X : Cx} {K : PySem.W.Frag} {k : Nat} {C : Str} {ps : List Str} {sp : Sp}
def aftN (Q : VK) : VK := fun v H2 => ∃ k : Bool, v = .bl k ∧ Q (.bl (!k)) H2
def rNeO (C : Addr) (sp : Sp) : R2 := fun x y H Q => ∃ a b dx dy fs gs, x = .ref a ∧ y = .ref b ∧ H a = some (.ins C dx fs) ∧ H b = some (.ins C dy gs) ∧ sp [.ref a, .ref b] H (aftN Q) E0
theorem opNeO (D : DM X.prog X.w X.K X.mg X.base k C "__eq__" ps [] sp) (n0 : Ne0 X.K C) {j : Nat} (hr : Room j X.A) (hj : k + 1 ≤ j) : OpR X (compareOp .NotEq) (rNeO (He.ga X.K C) sp) := by
  obtain ⟨fd, ds, F, c, _, hb, hv⟩ := D.ex
  cases hv
  intro pins s σ H x y u v Q I rx ry h
  obtain ⟨a, b, dx, dy, fs, gs, rfl, rfl, ha, hb', q⟩ := h
  cases rx
  cases ry
  obtain ⟨mA, J, _⟩ := ins_get I.hok ha
  obtain ⟨mB, J', _⟩ := ins_get I.hok hb'
  obtain ⟨od, J, _⟩ := J.look
  obtain ⟨od', J', _⟩ := J'.look
  obtain ⟨m, hF⟩ := I.fr
  show wpAny (model X.prog X.w) X.A (richCompare .NotEq (.ref a) (.ref b)) (EP X pins σ Q) X.xe s
  refine ne_K (b := .ref b) (tb := .ref (He.ga X.K C)) (hu_of hr) hF I.ok.mod.kin J J'.type (by simp [PySem.W.notFirst]) n0.n n0.o c.at_ c.fn ?_
  have e0 : Env0 X.prog X.w X.K X.mg X.base X.A.in1 X.stack s H := by
    have e := I.env0
    exact ⟨e.frames, e.mod, e.bs, e.bsz, e.funs, e.frf, e.hok, e.bare⟩
  have hl := F.len _ _ _ _ q
  refine wpAny_call (codeAny_mono (F.run X.A.in1 X.stack s H ⟨[.ref a, .ref b], []⟩ [.ref a, .ref b] [.ref a, .ref b] _ E0 (hr.mono hj).in1 e0 (by
    have := hb s [.ref a, .ref b] I.kIn (by simpa using hl)
    simpa using this) (.cons rfl (.cons rfl .nil)) q) fun r s' hq => ?_)
  cases r with
  | error e => exact pass0 pins σ H s e s' I hq
  | ok fl =>
    cases fl with
    | ret w =>
      obtain ⟨z, H', I', rz, n, ez, q⟩ := I.after hq
      subst ez
      cases rz
      exact ⟨n, rfl, .bl (!n), H', I', rfl, q⟩
    | next => exact False.elim hq
    | brk => exact False.elim hq
    | cont => exact False.elim hq
end
end R
namespace R
open PySem PySem.Spec PyProof.Rows L2
/-- a tuple as a comprehension's target -/
theorem pgT {X : Cx} {K : PySem.W.Frag} {es : List Expr} {k n : Nat} {t : TGs} {pos : Pos} (hc : X.calm = true) (h : PGs X es t) (hK : X.K = K := by rfl)
    (hn : (assignEach es X.env).length = n := by rfl) (hst : (assignEach es X.env).findIdx? (·.1) = none := by rfl) : PG X (.Tuple es k pos) (gTup K n t) := by subst hK; exact pg_tup hc h hn hst
/-! ### sorted(xs) of data, and < of data -/
end R
namespace R
open PySem PySem.Spec PyProof.Rows L2
open AutoSeq1 (wpAny_loadPart')
open MeetsSeq MeetsSeq2 MeetsSeq3 SeqRoads2
/-! ### own objects beside things of other kinds (k03) -/
def kindsX : List String := ["NoneType", "int", "bool", "str", "list", "dict", "tuple"]
def kinB (K : PySem.W.Frag) (C : Str) : Bool := kindsX.all fun T => decide (PySem.W.kitOne K (.type T) (.ref (He.ga K C)) = some false) && (PySem.W.notFirst K (He.ga K C) (.type T) && decide (PySem.W.mroIn K (He.ga K C) (.type T) = some false))
structure Kin (K : PySem.W.Frag) (C : Str) : Prop where
  i : ∀ T ∈ kindsX, PySem.W.kitOne K (.type T) (.ref (He.ga K C)) = some false
  n : ∀ T ∈ kindsX, PySem.W.notFirst K (He.ga K C) (.type T) = true
  m : ∀ T ∈ kindsX, PySem.W.mroIn K (He.ga K C) (.type T) = some false
theorem kinB_ok {K : PySem.W.Frag} {C : Str} (h : kinB K C = true) : Kin K C := by
  unfold kinB at h
  have h2 := List.all_eq_true.mp h
  simp only [Bool.and_eq_true, decide_eq_true_eq] at h2
  exact ⟨fun T hT => (h2 T hT).1, fun T hT => (h2 T hT).2.1, fun T hT => (h2 T hT).2.2⟩
def boB (K : PySem.W.Frag) (C : Str) : Bool := eqV2 (PySem.W.findIn K (.ref (He.ga K C)) "__bool__") (some none)
theorem boB_ok {K : PySem.W.Frag} {C : Str} (h : boB K C = true) : PySem.W.findIn K (.ref (He.ga K C)) "__bool__" = some none := of_decide_eq_true h
section
variable {prog : Program} {w : World} {A : Around} {E : Value → Shared → Prop} {s : Shared} {K : PySem.W.Frag} {x C f : Addr} {h₀ : Heap} {L : Addr} {m : Str → Option Value} {ox : Obj} {od : Option Obj} {u : Value} {T id : String}
/-- u == x: the kind of u declines, then x's own == is asked -/
theorem rev_K {Q : Value → Shared → Prop} (hu : A.units < cLine) (F : PyProof.Rows.Fr h₀ L s.heap m) (X₀ : K.In h₀) (I : PySem.W.InstAt s.heap x ox C od) (hT : s.TypeIs u T) (ho : oneThing? .Eq u (.ref x) = none) (hm : PySem.W.mroIn K C (.type T) = some false)
    (slot : Slot T (cmpInfo .Eq).2.1 id) (hc : ∀ {Q' : Value → Shared → Prop}, Q' .notImplemented s → wpAny (model prog w) A (call (.builtin id) [u, .ref x]) Q' E s)
    (hs : PySem.W.findIn K (.ref C) "__eq__" = some (some (.ref f))) (hf : PySem.W.isFn K (.ref f) = true)
    (h : wpAny (model prog w) A (call (.ref f) [.ref x, u]) (PySem.W.CmpBack Q) E s) : wpAny (model prog w) A (richCompare .Eq u (.ref x)) Q E s := by
  have X := X₀.keeps F.keep
  have one : wpAny (model prog w) A (tryCompare (.ref x) (cmpInfo .Eq).2.2 u) (fun r s' => ∃ v, r = some v ∧ Q v s') E s := by
    unfold tryCompare
    refine wpAny_bind (PySem.W.ifBound_K X I hs hf (wpAny_mono h (fun v s' hv => ?_) fun _ _ e => e))
    cases v <;> first | exact hv.elim | exact wpAny_pure ⟨_, rfl, hv⟩
  unfold richCompare
  simp only [ho]
  refine wpAny_holding (wpAny_bind (wpAny_cRoomFor hu ?_))
  refine wpAny_bind (wpAny_typeOf hT (wpAny_bind (I.type.here ?_)))
  rw [if_pos (show (Value.type T != Value.ref C) = true from rfl)]
  refine wpAny_bind ((PySem.W.looks_mroIn X hm).here ?_)
  simp only [Bool.false_eq_true, if_false, Bool.not_false, if_true]
  refine wpAny_bind (m := tryCompare u _ (.ref x)) (wpAny_tryCompare_declines hT slot (hc ⟨rfl, ?_⟩))
  refine wpAny_bind (wpAny_mono one (fun r s' z => ?_) fun _ _ e => e)
  obtain ⟨v, rfl, hq⟩ := z
  exact wpAny_pure hq
/-! #### each kind declines -/
def AtI (x C dx : Addr) (s : Shared) : Prop := s.heap.get? x = some (PySem.W.instObj C dx)
theorem dec_none (x : Addr) : Gives (Builtin.«NoneType.__eq__» ⟨[.none, .ref x], []⟩) (.val (Value.notImplemented)) :=
  .of_wp fun M A E s Q h => by obtain ⟨hp, g, d, tk, os⟩ := s; wp_walk; exact ⟨_, rfl, h⟩
theorem dec_int (a : Int) (t : Tok) (x C dx : Addr) : GivesAt (AtI x C dx) (Builtin.«int.__eq__» ⟨[.int a t, .ref x], []⟩) (.val (Value.notImplemented)) := by
  intro prog w A R s hP h
  obtain ⟨hp, g, d, tk, os⟩ := s
  have hx : hp.get? x = some (PySem.W.instObj C dx) := hP
  wp_walk using wpAny_load' hx
  exact h
theorem dec_bool (a : Bool) (x C dx : Addr) : GivesAt (AtI x C dx) (Builtin.«int.__eq__» ⟨[.bool a, .ref x], []⟩) (.val (Value.notImplemented)) := by
  intro prog w A R s hP h
  obtain ⟨hp, g, d, tk, os⟩ := s
  have hx : hp.get? x = some (PySem.W.instObj C dx) := hP
  wp_walk using wpAny_load' hx
  exact h
theorem dec_str (a : Str) (t : Tok) (x C dx : Addr) : GivesAt (AtI x C dx) (Builtin.«str.__eq__» ⟨[.str a t, .ref x], []⟩) (.val (Value.notImplemented)) := by
  intro prog w A R s hP h
  obtain ⟨hp, g, d, tk, os⟩ := s
  have hx : hp.get? x = some (PySem.W.instObj C dx) := hP
  wp_walk using wpAny_load' hx
  exact h
/-- x is an instance of C, and C is none of T -/
def NotI (x : Addr) (T : String) (s : Shared) : Prop := ∀ M : Model, PySem.W.Looks M s.heap (isInstance (.ref x) (.type T)) false
theorem dec_list (a x : Addr) : GivesAt (NotI x "list") (Builtin.«list.__eq__» ⟨[.ref a, .ref x], []⟩) (.val (Value.notImplemented)) := by
  intro prog w A R s hP h
  have hx := hP (model prog w)
  unfold Builtin.«list.__eq__»
  repeat (first
    | (refine wpAny_bind (m := isInstance (.ref x) (.type "list")) (hx.here ?_))
    | wp_step)
  exact h
theorem dec_tuple (a x : Addr) : GivesAt (NotI x "tuple") (Builtin.«tuple.__eq__» ⟨[.ref a, .ref x], []⟩) (.val (Value.notImplemented)) := by
  intro prog w A R s hP h
  have hx := hP (model prog w)
  unfold Builtin.«tuple.__eq__»
  repeat (first
    | (refine wpAny_bind (m := isInstance (.ref x) (.type "tuple")) (hx.here ?_))
    | wp_step)
  exact h
theorem dec_dict (a x : Addr) : GivesAt (NotI x "dict") (Builtin.«dict.__eq__» ⟨[.ref a, .ref x], []⟩) (.val (Value.notImplemented)) := by
  intro prog w A R s hP h
  have hx := hP (model prog w)
  unfold Builtin.«dict.__eq__»
  repeat (first
    | (refine wpAny_bind (m := isInstance (.ref x) (.type "dict")) (hx.here ?_))
    | wp_step)
  exact h
/-! #### bool(x) by an own __len__ -/
def LenB (Q : Bool → Shared → Prop) : Value → Shared → Prop := PySem.W.LenBack fun v s' => ∃ n t, v = .int n t ∧ Q (n != 0) s'
theorem truthyL_K {Q : Bool → Shared → Prop} (F : PyProof.Rows.Fr h₀ L s.heap m) (X₀ : K.In h₀) (I : PySem.W.InstAt s.heap x ox C od) (hb : PySem.W.findIn K (.ref C) "__bool__" = some none) (hs : PySem.W.findIn K (.ref C) "__len__" = some (some (.ref f))) (hf : PySem.W.isFn K (.ref f) = true)
    (h : wpAny (model prog w) A.in1 (call (.ref f) [.ref x]) (LenB Q) E s) : wpAny (model prog w) A (truthy (.ref x)) Q E s := by
  have X := X₀.keeps F.keep
  have key : wpAny (model prog w) A (runValue (.builtin "len" ⟨[.ref x], []⟩)) (fun r s' => ∃ n t, r = .int n t ∧ Q (n != 0) s') E s := by
    refine wpAny_runValue (codeAny_builtin entry_len ?_)
    rw [Around.under_plainId plain_len _]
    unfold Builtin.«len»
    refine wpAny_bind (m := oneArg "len" _) (wpAny_pure ?_)
    refine wpAny_bind (m := callSpecial? (.ref x) (Str.ofString "__len__")) (PySem.W.special_fn (X₀.keeps F.keep) I hs (beq_iff_eq.mp hf) (wpAny_mono h (fun r s' hr => ?_) fun _ _ y => y))
    cases r <;> first | exact hr.elim | skip
    rename_i n u
    obtain ⟨⟨h0, h1⟩, hq⟩ := hr
    refine wpAny_bind (wpAny_holding (wpAny_pure ?_))
    refine wpAny_bind (wpAny_letGo ?_)
    show wpAny _ _ (if n < 0 then _ else _) _ _ _
    rw [if_neg (by omega)]
    show wpAny _ _ (if n ≥ 2 ^ 63 then _ else _) _ _ _
    rw [if_neg (by omega)]
    exact wpAny_bind (wpAny_mkInt (wpAny_pure hq))
  unfold truthy
  refine wpAny_bind (m := callSpecial? (.ref x) (Str.ofString "__bool__")) (wpAny_bind (wpAny_bind (I.type.here ((PySem.W.looks_findIn X hb).here (wpAny_pure ?_)))))
  refine wpAny_bind (wpAny_bind (I.type.here ((PySem.W.looks_findIn X hs).here ?_)))
  refine wpAny_bind (m := runValue (.builtin "len" ⟨[.ref x], []⟩)) (wpAny_mono key (fun r s' hr => ?_) fun _ _ y => y)
  obtain ⟨n, t, rfl, hq⟩ := hr
  exact wpAny_pure hq
theorem plain_bool_new : plainId "bool.__new__" = true := by decide +kernel
theorem code_bool_new {Q₁ : Value → Shared → Prop} (F : PyProof.Rows.Fr h₀ L s.heap m) (X₀ : K.In h₀) (I : PySem.W.InstAt s.heap x ox C od) (hb : PySem.W.findIn K (.ref C) "__bool__" = some none) (hs : PySem.W.findIn K (.ref C) "__len__" = some (some (.ref f))) (hf : PySem.W.isFn K (.ref f) = true)
    (h : wpAny (model prog w) A.in1.in1 (call (.ref f) [.ref x]) (LenB fun b s' => Q₁ (.bool b) s') E s) : codeAny (model prog w) A (.call (.builtin "bool.__new__") ⟨[.type "bool", .ref x], []⟩) (wants Q₁ E) s := by
  refine codeAny_of_tree ?_
  show wpAny _ A.in1 (do checkBuiltinCall "bool.__new__" ⟨[.type "bool", .ref x], []⟩; again (.builtin "bool.__new__" ⟨[.type "bool", .ref x], []⟩)) _ _ s
  refine wpAny_bind (wpAny_of_eq (PySem.F.newCall_bool_1 _) (wpAny_pure ⟨plainId_quiet plain_bool_new _, codeAny_builtin PySem.F.entry_bool_new ?_⟩))
  rw [Around.under_plainId plain_bool_new _]
  have f1 := PySem.F.conv_sub_bool
  have ht := truthyL_K (A := A.in1) F X₀ I hb hs hf h
  unfold Builtin.«bool.__new__»
  repeat (first
    | (refine wpAny_bind (m := truthy (.ref x)) (wpAny_mono ht (fun r s' hr => ?_) fun _ _ e => e))
    | wp_step)
  exact hr
theorem bool_own {Q : Value → Shared → Prop} (F : PyProof.Rows.Fr h₀ L s.heap m) (X₀ : K.In h₀) (I : PySem.W.InstAt s.heap x ox C od) (hb : PySem.W.findIn K (.ref C) "__bool__" = some none) (hs : PySem.W.findIn K (.ref C) "__len__" = some (some (.ref f))) (hf : PySem.W.isFn K (.ref f) = true)
    (h : wpAny (model prog w) A.in1.in1.in1 (call (.ref f) [.ref x]) (LenB fun b s' => Q (.bool b) s') E s) : wpAny (model prog w) A (call (.type "bool") [.ref x]) Q E s := by
  refine callType_codes (Q₁ := fun obj s₁ => s₁.TypeIs obj "bool" ∧ Q obj s₁) PySem.F.called_bool (PySem.F.typeCall_bool_1 _) PySem.F.entry_object_init
    (code_bool_new (A := A.in1) F X₀ I hb hs hf (wpAny_mono h (fun r s' hr => ?_) fun _ _ e => e)) fun obj s₁ h₁ => ?_
  · cases r <;> first | exact hr.elim | skip
    exact ⟨hr.1, by obtain ⟨n, t, e, q⟩ := hr.2; exact ⟨n, t, e, rfl, q⟩⟩
  · exact ⟨h₁.1, PySem.F.args_object_init_2 obj _, object_init_meets PySem.F.called_bool.init.lookup PySem.F.called_bool.made (by decide) prog w A.in1 _ s₁ ⟨h₁.1, rfl, h₁.2⟩⟩
end
/-! #### in, count, index where == runs own code -/
section
variable {prog : Program} {w : World} {A : Around} {R : Result → Shared → Prop}
/-- at each turn the list is read anew; its i-th item is equal to x or not, as e tells -/
def ScanI (prog : Program) (w : World) (A : Around) (E : Value → Shared → Prop) (l : Addr) (x : Value) (N : Nat) (e : Nat → Bool) (I : Nat → Shared → Prop) : Prop :=
  ∀ i s, I i s → ∃ (items : Array Value) (n : Nat), s.heap.get? l = some { cls := .type "list", data := .seq items n } ∧ items.size = N ∧ ∀ (h : i < items.size), wpAny (model prog w) A.in1 (eqBool items[i] x) (fun r s' => r = e i ∧ I (i + 1) s') E s
theorem contains_loopG (l : Addr) (x : Value) (N : Nat) (e : Nat → Bool) (I : Nat → Shared → Prop) (hl : ScanI prog w A (fun e s' => R (.error e) s') l x N e I) (j : Nat) (hj : j ≤ N) (hno : ∀ m, m < j → e m = false) (hit : j < N → e j = true)
    (f1 : ∀ s, j < N → I (j + 1) s → R (.ok (.ret (.bool true))) s) (f2 : ∀ s, j = N → I N s → R (.ok (.ret (.bool false))) s) (k : Nat) :
    ∀ i : Nat, j - i = k → i ≤ j → ∀ s, I i s →
      wpAny (model prog w) A.in1 (Builtin.«list.__contains__.loop» ⟨[.ref l, x, rawInt i], []⟩) (GQ.FinOf prog w A R) (fun e s' => R (.error e) s') s := by
  induction k with
  | zero =>
    intro i hk hi s h
    obtain ⟨items, n, hl1, hs1, turn⟩ := hl _ _ h
    have hij : i = j := by omega
    subst hij
    by_cases hn : i < N
    · have ht := turn (by omega)
      rw [hit hn] at ht
      obtain ⟨hp, g, d, tk, os⟩ := s
      wp_walk using wpAny_loadPart' hl1
      have hi1 : items[((i : Nat) : Int).toNat]? = some items[i] := by simp [show i < items.size by omega]
      rw [hi1]
      refine wpAny_bind (wpAny_mono ht (fun r s2 h2 => ?_) fun _ _ x => x)
      obtain ⟨hr, h2⟩ := h2
      subst hr
      have hR := f1 s2 hn h2
      obtain ⟨hp2, g2, d2, tk2, os2⟩ := s2
      wp_walk
      exact hR
    · have hR := f2 s (by omega) (by rw [show N = i by omega]; exact h)
      obtain ⟨hp, g, d, tk, os⟩ := s
      wp_walk using wpAny_loadPart' hl1
      have hi1 : items[((i : Nat) : Int).toNat]? = none := by simp; omega
      rw [hi1]
      wp_walk
      exact hR
  | succ k ih =>
    intro i hk hi s h
    obtain ⟨items, n, hl1, hs1, turn⟩ := hl _ _ h
    have hlt : i < items.size := by omega
    have ht := turn hlt
    rw [hno i (by omega)] at ht
    obtain ⟨hp, g, d, tk, os⟩ := s
    wp_walk using wpAny_loadPart' hl1
    have hi1 : items[((i : Nat) : Int).toNat]? = some items[i] := by simp [hlt]
    have hc : ((i : Int) + 1) = ((i + 1 : Nat) : Int) := by omega
    rw [hi1]
    refine wpAny_bind (wpAny_mono ht (fun r s2 h2 => ?_) fun _ _ x => x)
    obtain ⟨hr, h2⟩ := h2
    subst hr
    have hrec := ih (i + 1) (by omega) (by omega) s2 h2
    obtain ⟨hp2, g2, d2, tk2, os2⟩ := s2
    wp_walk
    rw [hc]
    exact ⟨plainId_quiet plain_contains_loop _, codeAny_builtin entry_contains_loop (by
      rw [Around.under_plainId plain_contains_loop _]
      exact hrec)⟩
theorem list_containsG (l : Addr) (x : Value) (N : Nat) (e : Nat → Bool) (I : Nat → Shared → Prop) (hl : ScanI prog w A (fun e s' => R (.error e) s') l x N e I) (j : Nat) (hj : j ≤ N) (hno : ∀ m, m < j → e m = false) (hit : j < N → e j = true)
    (f1 : ∀ s, j < N → I (j + 1) s → R (.ok (.ret (.bool true))) s) (f2 : ∀ s, j = N → I N s → R (.ok (.ret (.bool false))) s) {s : Shared} (h : I 0 s) :
    wpAny (model prog w) A.in1 (Builtin.«list.__contains__» ⟨[.ref l, x], []⟩) (GQ.FinOf prog w A R) (fun e s' => R (.error e) s') s := by
  obtain ⟨items, n, hl1, hs1, _⟩ := hl _ _ h
  have hrec := contains_loopG (A := A) (R := R) l x N e I hl j hj hno hit f1 f2 _ 0 rfl (Nat.zero_le _) s h
  obtain ⟨hp, g, d, tk, os⟩ := s
  wp_walk using wpAny_loadPart' hl1
  exact ⟨plainId_quiet plain_contains_loop _, codeAny_builtin entry_contains_loop (by
    rw [Around.under_plainId plain_contains_loop _]
    exact hrec)⟩
def cntE (e : Nat → Bool) : Nat → Nat
  | 0 => 0
  | i + 1 => cntE e i + (if e i = true then 1 else 0)
theorem count_loopG (l : Addr) (x : Value) (N : Nat) (e : Nat → Bool) (I : Nat → Shared → Prop) (hl : ScanI prog w A (fun e s' => R (.error e) s') l x N e I)
    (fin : ∀ s, I N s → R (.ok (.ret (.int (cntE e N : Nat) s.toks))) { s with toks := s.toks + 1 }) (k : Nat) :
    ∀ i : Nat, N - i = k → i ≤ N → ∀ s, I i s →
      wpAny (model prog w) A.in1 (Builtin.«list.count.loop» ⟨[.ref l, x, rawInt i, rawInt (cntE e i : Nat)], []⟩) (GQ.FinOf prog w A R) (fun e s' => R (.error e) s') s := by
  induction k with
  | zero =>
    intro i hk hi s h
    obtain ⟨items, n, hl1, hs1, turn⟩ := hl _ _ h
    have hij : i = N := by omega
    have hR := fin s (hij ▸ h)
    obtain ⟨hp, g, d, tk, os⟩ := s
    wp_walk using wpAny_loadPart' hl1
    have hi1 : items[((i : Nat) : Int).toNat]? = none := by simp; omega
    rw [hi1]
    wp_walk
    rw [hij]
    exact hR
  | succ k ih =>
    intro i hk hi s h
    obtain ⟨items, n, hl1, hs1, turn⟩ := hl _ _ h
    have hlt : i < items.size := by omega
    have ht := turn hlt
    obtain ⟨hp, g, d, tk, os⟩ := s
    wp_walk using wpAny_loadPart' hl1
    have hi1 : items[((i : Nat) : Int).toNat]? = some items[i] := by simp [hlt]
    have hc : ((i : Int) + 1) = ((i + 1 : Nat) : Int) := by omega
    rw [hi1]
    refine wpAny_bind (wpAny_mono ht (fun r s2 h2 => ?_) fun _ _ x => x)
    obtain ⟨hr, h2⟩ := h2
    subst hr
    have hrec := ih (i + 1) (by omega) (by omega) s2 h2
    have hcc : ((cntE e (i + 1) : Nat) : Int) = if e i = true then ((cntE e i : Nat) : Int) + 1 else ((cntE e i : Nat) : Int) := by
      show ((cntE e i + (if e i = true then 1 else 0) : Nat) : Int) = _
      split <;> omega
    rw [hcc] at hrec
    obtain ⟨hp2, g2, d2, tk2, os2⟩ := s2
    wp_walk
    rw [hc]
    refine ⟨plainId_quiet plain_count_loop _, codeAny_builtin entry_count_loop (by
      rw [Around.under_plainId plain_count_loop _]
      exact hrec)⟩
theorem list_countG (l : Addr) (x : Value) (N : Nat) (e : Nat → Bool) (I : Nat → Shared → Prop) (hl : ScanI prog w A (fun e s' => R (.error e) s') l x N e I)
    (fin : ∀ s, I N s → R (.ok (.ret (.int (cntE e N : Nat) s.toks))) { s with toks := s.toks + 1 }) {s : Shared} (h : I 0 s) :
    wpAny (model prog w) A.in1 (Builtin.«list.count» ⟨[.ref l, x], []⟩) (GQ.FinOf prog w A R) (fun e s' => R (.error e) s') s := by
  obtain ⟨items, n, hl1, hs1, _⟩ := hl _ _ h
  have hrec := count_loopG (A := A) (R := R) l x N e I hl fin _ 0 rfl (Nat.zero_le _) s h
  obtain ⟨hp, g, d, tk, os⟩ := s
  wp_walk using wpAny_loadPart' hl1
  exact ⟨plainId_quiet plain_count_loop _, codeAny_builtin entry_count_loop (by
    rw [Around.under_plainId plain_count_loop _]
    exact hrec)⟩
theorem index_loopG (l : Addr) (x : Value) (N : Nat) (e : Nat → Bool) (I : Nat → Shared → Prop) (hl : ScanI prog w A (fun e s' => R (.error e) s') l x N e I) (upto : Int) (j : Nat) (hj : j < N) (hupto : (j : Int) < upto) (hno : ∀ m, m < j → e m = false) (hit : e j = true)
    (fin : ∀ s, I (j + 1) s → R (.ok (.ret (.int (j : Nat) s.toks))) { s with toks := s.toks + 1 }) (k : Nat) :
    ∀ i : Nat, j - i = k → i ≤ j → ∀ s, I i s →
      wpAny (model prog w) A.in1 (Builtin.«list.index.loop» ⟨[.ref l, x, rawInt i, rawInt upto], []⟩) (GQ.FinOf prog w A R) (fun e s' => R (.error e) s') s := by
  induction k with
  | zero =>
    intro i hk hi s h
    obtain ⟨items, n, hl1, hs1, turn⟩ := hl _ _ h
    have hij : i = j := by omega
    subst hij
    have ht := turn (by omega)
    rw [hit] at ht
    obtain ⟨hp, g, d, tk, os⟩ := s
    wp_walk using wpAny_loadPart' hl1
    have hi1 : (if (i : Int) < upto then items[((i : Nat) : Int).toNat]? else none) = some items[i] := by simp [hupto, show i < items.size by omega]
    rw [hi1]
    refine wpAny_bind (wpAny_mono ht (fun r s2 h2 => ?_) fun _ _ x => x)
    obtain ⟨hr, h2⟩ := h2
    subst hr
    have hR := fin s2 h2
    obtain ⟨hp2, g2, d2, tk2, os2⟩ := s2
    wp_walk
    exact hR
  | succ k ih =>
    intro i hk hi s h
    obtain ⟨items, n, hl1, hs1, turn⟩ := hl _ _ h
    have hlt : i < items.size := by omega
    have ht := turn hlt
    rw [hno i (by omega)] at ht
    have hst : (i : Int) < upto := by omega
    obtain ⟨hp, g, d, tk, os⟩ := s
    wp_walk using wpAny_loadPart' hl1
    have hi1 : (if (i : Int) < upto then items[((i : Nat) : Int).toNat]? else none) = some items[i] := by simp [hst, hlt]
    have hc : ((i : Int) + 1) = ((i + 1 : Nat) : Int) := by omega
    rw [hi1]
    refine wpAny_bind (wpAny_mono ht (fun r s2 h2 => ?_) fun _ _ x => x)
    obtain ⟨hr, h2⟩ := h2
    subst hr
    have hrec := ih (i + 1) (by omega) (by omega) s2 h2
    obtain ⟨hp2, g2, d2, tk2, os2⟩ := s2
    wp_walk
    rw [hc]
    exact ⟨plainId_quiet plain_index_loop _, codeAny_builtin entry_index_loop (by
      rw [Around.under_plainId plain_index_loop _]
      exact hrec)⟩
theorem list_indexG (l : Addr) (x : Value) (N : Nat) (e : Nat → Bool) (I : Nat → Shared → Prop) (hl : ScanI prog w A (fun e s' => R (.error e) s') l x N e I) (j : Nat) (hj : j < N) (hsmall : (j : Int) < 2 ^ 63 - 1) (hno : ∀ m, m < j → e m = false) (hit : e j = true)
    (fin : ∀ s, I (j + 1) s → R (.ok (.ret (.int (j : Nat) s.toks))) { s with toks := s.toks + 1 }) {s : Shared} (h : I 0 s) :
    wpAny (model prog w) A.in1 (Builtin.«list.index» ⟨[.ref l, x], []⟩) (GQ.FinOf prog w A R) (fun e s' => R (.error e) s') s := by
  obtain ⟨items, n, hl1, hs1, _⟩ := hl _ _ h
  have hrec := index_loopG (A := A) (R := R) l x N e I hl (2 ^ 63 - 1) j hj hsmall hno hit fin _ 0 rfl (Nat.zero_le _) s h
  obtain ⟨hp, g, d, tk, os⟩ := s
  wp_walk using wpAny_loadPart' hl1
  have a1 : ((fun i : Int => if i < 0 then max 0 (i + (items.size : Int)) else i) ((none : Option Int).getD 0)) = ((0 : Nat) : Int) := by simp
  have a2 : ((fun i : Int => if i < 0 then max 0 (i + (items.size : Int)) else i) ((none : Option Int).getD (2 ^ 63 - 1))) = 2 ^ 63 - 1 := by simp
  rw [a1, a2]
  exact ⟨plainId_quiet plain_index_loop _, codeAny_builtin entry_index_loop (by
    rw [Around.under_plainId plain_index_loop _]
    exact hrec)⟩
end
/-! ### the rules -/
inductive KindV (F : Hp) : V → Prop
  | non : KindV F .non
  | int (i : Int) : KindV F (.int i)
  | bl (b : Bool) : KindV F (.bl b)
  | str (z : Str) : KindV F (.str z)
  | lst {a : Addr} {xs : List V} (h : F a = some (.lst xs)) : KindV F (.ref a)
  | tup {a : Addr} {xs : List V} (h : F a = some (.tup xs)) : KindV F (.ref a)
  | dK {a : Addr} {kvs : List (Key × V)} (h : F a = some (.dK kvs)) : KindV F (.ref a)
theorem KindV.same {F F2 : Hp} {v : V} (s : Same F F2) (h : KindV F v) : KindV F2 v := by
  cases h with
  | non => exact .non
  | int i => exact .int i
  | bl b => exact .bl b
  | str z => exact .str z
  | lst h => exact .lst (s _ _ h)
  | tup h => exact .tup (s _ _ h)
  | dK h => exact .dK (s _ _ h)
theorem KindV.ty {K : PySem.W.Frag} {H : Hp} {v : V} (h : KindV H v) : ∃ T ∈ kindsX, TyX K H v (.type T) := by
  cases h with
  | non => exact ⟨"NoneType", by decide, .base .non⟩
  | int i => exact ⟨"int", by decide, .base (.int i)⟩
  | bl b => exact ⟨"bool", by decide, .base (.bl b)⟩
  | str z => exact ⟨"str", by decide, .base (.str z)⟩
  | lst h => exact ⟨"list", by decide, .base (.lst h)⟩
  | tup h => exact ⟨"tuple", by decide, .base (.tup h)⟩
  | dK h => exact ⟨"dict", by decide, .base (.dK h)⟩
section
variable {X : Cx} {K : PySem.W.Frag} {k : Nat} {C : Str} {ps : List Str} {sp : Sp}
/-- how an own == ends -/
def rEqA (C : Addr) (sp : Sp) : R2 := fun x y H Q => ∃ a dx fs, x = .ref a ∧ H a = some (.ins C dx fs) ∧ KindV H y ∧ sp [.ref a, y] H (aftB Q) E0
theorem opEqA (D : DM X.prog X.w X.K X.mg X.base k C "__eq__" ps [] sp) (n0 : Kin X.K C) {j : Nat} (hr : Room j X.A) (hj : k ≤ j) : OpR X (compareOp .Eq) (rEqA (He.ga X.K C) sp) := by
  obtain ⟨fd, ds, F, c, _, hb, hv⟩ := D.ex
  cases hv
  intro pins s σ H x y u v Q I rx ry h
  obtain ⟨a, dx, fs, rfl, ha, hk, q⟩ := h
  cases rx
  obtain ⟨mA, J, _⟩ := ins_get I.hok ha
  obtain ⟨od, J, _⟩ := J.look
  obtain ⟨T, hT, ty⟩ := hk.ty (K := X.K)
  obtain ⟨P, Z, p, hx⟩ := kit_of I ry ty
  obtain ⟨m, hF⟩ := I.fr
  show wpAny (model X.prog X.w) X.A (richCompare .Eq (.ref a) v) (EP X pins σ Q) X.xe s
  refine PySem.W.cmp_K (op := .Eq) (tb := .type T) hr.units0 hF I.ok.mod.kin J (Z.ty _ _ I.kIn p) (n0.n T hT) c.at_ c.fn ?_
  have hl := F.len _ _ _ _ q
  refine wpAny_call (codeAny_mono (F.run X.A X.stack s H ⟨[.ref a, v], []⟩ [.ref a, v] [.ref a, y] _ E0 (hr.mono hj) I.env0 (by
    have := hb s [.ref a, v] I.kIn (by simpa using hl)
    simpa using this) (.cons rfl (.cons ry .nil)) q) fun r s' hq => ?_)
  cases r with
  | error e => exact pass0 pins σ H s e s' I hq
  | ok fl =>
    cases fl with
    | ret w =>
      obtain ⟨z, H', I', rz, n, ez, q⟩ := I.after hq
      subst ez
      cases rz
      exact ⟨.bl n, H', I', rfl, q⟩
    | next => exact False.elim hq
    | brk => exact False.elim hq
    | cont => exact False.elim hq
def rNeA (C : Addr) (sp : Sp) : R2 := fun x y H Q => ∃ a dx fs, x = .ref a ∧ H a = some (.ins C dx fs) ∧ KindV H y ∧ sp [.ref a, y] H (aftN Q) E0
theorem opNeA (D : DM X.prog X.w X.K X.mg X.base k C "__eq__" ps [] sp) (n1 : Ne0 X.K C) (n0 : Kin X.K C) {j : Nat} (hr : Room j X.A) (hj : k + 1 ≤ j) : OpR X (compareOp .NotEq) (rNeA (He.ga X.K C) sp) := by
  obtain ⟨fd, ds, F, c, _, hb, hv⟩ := D.ex
  cases hv
  intro pins s σ H x y u v Q I rx ry h
  obtain ⟨a, dx, fs, rfl, ha, hk, q⟩ := h
  cases rx
  obtain ⟨mA, J, _⟩ := ins_get I.hok ha
  obtain ⟨od, J, _⟩ := J.look
  obtain ⟨T, hT, ty⟩ := hk.ty (K := X.K)
  obtain ⟨P, Z, p, hx⟩ := kit_of I ry ty
  obtain ⟨m, hF⟩ := I.fr
  show wpAny (model X.prog X.w) X.A (richCompare .NotEq (.ref a) v) (EP X pins σ Q) X.xe s
  refine ne_K (b := v) (tb := .type T) (hu_of hr) hF I.ok.mod.kin J (Z.ty _ _ I.kIn p) (n0.n T hT) n1.n n1.o c.at_ c.fn ?_
  have e0 : Env0 X.prog X.w X.K X.mg X.base X.A.in1 X.stack s H := by
    have e := I.env0
    exact ⟨e.frames, e.mod, e.bs, e.bsz, e.funs, e.frf, e.hok, e.bare⟩
  have hl := F.len _ _ _ _ q
  refine wpAny_call (codeAny_mono (F.run X.A.in1 X.stack s H ⟨[.ref a, v], []⟩ [.ref a, v] [.ref a, y] _ E0 (hr.mono hj).in1 e0 (by
    have := hb s [.ref a, v] I.kIn (by simpa using hl)
    simpa using this) (.cons rfl (.cons ry .nil)) q) fun r s' hq => ?_)
  cases r with
  | error e => exact pass0 pins σ H s e s' I hq
  | ok fl =>
    cases fl with
    | ret w =>
      obtain ⟨z, H', I', rz, n, ez, q⟩ := I.after hq
      subst ez
      cases rz
      exact ⟨n, rfl, .bl (!n), H', I', rfl, q⟩
    | next => exact False.elim hq
    | brk => exact False.elim hq
    | cont => exact False.elim hq
/-- what the kind of v answers -/
theorem kind_dec {E : Value → Shared → Prop} {pins : List (Addr × Obj)} {σ : L2.St} {H : Hp} {s : Shared} {v : V} {u : Value} {b Cc dx : Addr} {fs : List (Str × V)} (I : Inv X pins σ H s) (rv : RelV v u) (hk : KindV H v) (hb : H b = some (.ins Cc dx fs)) (hm : ∀ T ∈ kindsX, PySem.W.mroIn X.K Cc (.type T) = some false) :
    ∃ T id, T ∈ kindsX ∧ s.TypeIs u T ∧ Slot T (cmpInfo .Eq).2.1 id ∧ ∀ {Q' : Value → Shared → Prop}, Q' .notImplemented s → wpAny (model X.prog X.w) X.A (call (.builtin id) [u, .ref b]) Q' E s := by
  obtain ⟨mB, J, _⟩ := ins_get I.hok hb
  have hat : AtI b Cc dx s := J.obj
  obtain ⟨od, J2, _⟩ := J.look
  have hno : ∀ T ∈ kindsX, NotI b T s := fun T hT M => J2.type.andThen (PySem.W.looks_mroIn I.kIn (hm T hT))
  cases hk with
  | non =>
    cases (show u = Value.none from rv)
    exact ⟨"NoneType", _, by decide, rfl, PySem.F.slot_NoneType_eq, fun q => call_gives PySem.F.slot_NoneType_eq rfl PySem.F.entry_NoneType_eq (PySem.F.args_NoneType_eq_2 _ _) (dec_none b) q⟩
  | int i =>
    obtain ⟨t, q⟩ := (show ∃ t, u = Value.int i t from rv)
    cases q
    exact ⟨"int", _, by decide, typeIs_int _ _ _, PySem.F.slot_int_eq, fun q => call_givesAt PySem.F.slot_int_eq (typeIs_int _ _ _) PySem.F.entry_int_eq (PySem.F.args_int_eq_2 _ _) (dec_int i t b Cc dx) hat q⟩
  | bl y =>
    cases (show u = Value.bool y from rv)
    exact ⟨"bool", _, by decide, rfl, PySem.F.slot_bool_eq, fun q => call_givesAt PySem.F.slot_bool_eq rfl PySem.F.entry_int_eq (PySem.F.args_int_eq_2 _ _) (dec_bool y b Cc dx) hat q⟩
  | str z =>
    obtain ⟨t, q⟩ := (show ∃ t, u = Value.str z t from rv)
    cases q
    exact ⟨"str", _, by decide, typeIs_str _ _ _, PySem.F.slot_str_eq, fun q => call_givesAt PySem.F.slot_str_eq (typeIs_str _ _ _) PySem.F.entry_str_eq (PySem.F.args_str_eq_2 _ _) (dec_str z t b Cc dx) hat q⟩
  | @lst a xs ea =>
    cases (show u = Value.ref a from rv)
    obtain ⟨_, _, n, _, h1⟩ := (show ObjOk X.prog X.w H s.heap a (.lst xs) from I.hok a _ ea)
    have hT : s.TypeIs (.ref a) "list" := ⟨_, h1, rfl⟩
    exact ⟨"list", _, by decide, hT, PySem.F.slot_list_eq, fun q => call_givesAt PySem.F.slot_list_eq hT PySem.F.entry_list_eq (PySem.F.args_list_eq_2 _ _) (dec_list a b) (hno "list" (by decide)) q⟩
  | @tup a xs ea =>
    cases (show u = Value.ref a from rv)
    obtain ⟨_, _, _, o, h1, h2, _⟩ := (show ObjOk X.prog X.w H s.heap a (.tup xs) from I.hok a _ ea)
    have hT : s.TypeIs (.ref a) "tuple" := ⟨_, h1, h2⟩
    exact ⟨"tuple", _, by decide, hT, PySem.F.slot_tuple_eq, fun q => call_givesAt PySem.F.slot_tuple_eq hT PySem.F.entry_tuple_eq (PySem.F.args_tuple_eq_2 _ _) (dec_tuple a b) (hno "tuple" (by decide)) q⟩
  | @dK a kvs ea =>
    cases (show u = Value.ref a from rv)
    obtain ⟨_, _, vs, _, o, es, ep, h1, h2, _⟩ := (show ObjOk X.prog X.w H s.heap a (.dK kvs) from I.hok a _ ea)
    have hT : s.TypeIs (.ref a) "dict" := ⟨_, h1, h2.1⟩
    exact ⟨"dict", _, by decide, hT, PySem.F.slot_dict_eq, fun q => call_givesAt PySem.F.slot_dict_eq hT PySem.F.entry_dict_eq (PySem.F.args_dict_eq_2 _ _) (dec_dict a b) (hno "dict" (by decide)) q⟩
def rRevA (C : Addr) (sp : Sp) : R2 := fun x y H Q => ∃ a dx fs, y = .ref a ∧ H a = some (.ins C dx fs) ∧ KindV H x ∧ sp [.ref a, x] H (aftB Q) E0
theorem opRevA (D : DM X.prog X.w X.K X.mg X.base k C "__eq__" ps [] sp) (n0 : Kin X.K C) {j : Nat} (hr : Room j X.A) (hj : k ≤ j) : OpR X (compareOp .Eq) (rRevA (He.ga X.K C) sp) := by
  obtain ⟨fd, ds, F, c, _, hb, hv⟩ := D.ex
  cases hv
  intro pins s σ H x y u v Q I rx ry h
  obtain ⟨a, dx, fs, rfl, ha, hk, q⟩ := h
  cases ry
  obtain ⟨T, id, hT, hty, slot, hc⟩ := kind_dec (E := X.xe) I rx hk ha n0.m
  obtain ⟨mA, J, _⟩ := ins_get I.hok ha
  obtain ⟨od, J, _⟩ := J.look
  obtain ⟨m, hF⟩ := I.fr
  show wpAny (model X.prog X.w) X.A (richCompare .Eq u (.ref a)) (EP X pins σ Q) X.xe s
  refine rev_K hr.units0 hF I.ok.mod.kin J hty (hty.oneThing_none _ _) (n0.m T hT) slot hc c.at_ c.fn ?_
  have hl := F.len _ _ _ _ q
  refine wpAny_call (codeAny_mono (F.run X.A X.stack s H ⟨[.ref a, u], []⟩ [.ref a, u] [.ref a, x] _ E0 (hr.mono hj) I.env0 (by
    have := hb s [.ref a, u] I.kIn (by simpa using hl)
    simpa using this) (.cons rfl (.cons rx .nil)) q) fun r s' hq => ?_)
  cases r with
  | error e => exact pass0 pins σ H s e s' I hq
  | ok fl =>
    cases fl with
    | ret w =>
      obtain ⟨z, H', I', rz, n, ez, q⟩ := I.after hq
      subst ez
      cases rz
      exact ⟨.bl n, H', I', rfl, q⟩
    | next => exact False.elim hq
    | brk => exact False.elim hq
    | cont => exact False.elim hq
/-- isinstance(x, C), x an instance or of another kind -/
def rIsA (K : PySem.W.Frag) (C : Str) : List V → Hp → VK → Prop := fun xs H Q => ∃ v, xs = [v, .ref (He.ga K C)] ∧ ((∃ a dx fs, v = .ref a ∧ H a = some (.ins (He.ga K C) dx fs) ∧ Q (.bl true) H) ∨ (KindV H v ∧ Q (.bl false) H))
theorem clIsA (c : C8.InsC X.K (He.ga X.K C)) (n0 : Kin X.K C) : CallR X (.builtin "isinstance") (rIsA X.K C) := by
  intro pins s σ H xs us Q I r h
  obtain ⟨v, rfl, ⟨a, dx, fs, rfl, ha, q⟩ | ⟨hk, q⟩⟩ := h
  · exact C8.call_isC c pins s σ H _ us Q I r ⟨a, dx, fs, rfl, ha, q⟩
  · obtain ⟨T, hT, ty⟩ := hk.ty (K := X.K)
    exact call_isi pins s σ H _ us Q I r ⟨v, _, _, _, false, rfl, .own _, ty, n0.i T hT, q⟩
/-- bool(x) by an own __len__ -/
def aftL (Q : VK) : VK := fun v H2 => ∃ n : Int, v = .int n ∧ (0 ≤ n ∧ n < 2 ^ 63) ∧ Q (.bl (n != 0)) H2
def rBoolO (C : Addr) (sp : Sp) : List V → Hp → VK → Prop := fun xs H Q => ∃ a dx fs, xs = [.ref a] ∧ H a = some (.ins C dx fs) ∧ sp [.ref a] H (aftL Q) E0
theorem clBoolO (D : DM X.prog X.w X.K X.mg X.base k C "__len__" ps [] sp) (nb : PySem.W.findIn X.K (.ref (He.ga X.K C)) "__bool__" = some none) {j : Nat} (hr : Room j X.A) (hj : k + 3 ≤ j) : CallR X (.type "bool") (rBoolO (He.ga X.K C) sp) := by
  obtain ⟨fd, ds, F, c, _, hb, hv⟩ := D.ex
  cases hv
  intro pins s σ H xs us Q I r h
  obtain ⟨a, dx, fs, rfl, ha, q⟩ := h
  rw [Vals.ref1 r]
  obtain ⟨mA, J, _⟩ := ins_get I.hok ha
  obtain ⟨od, J, _⟩ := J.look
  obtain ⟨m, hF⟩ := I.fr
  refine bool_own hF I.ok.mod.kin J nb c.at_ c.fn ?_
  have e0 : Env0 X.prog X.w X.K X.mg X.base X.A.in1.in1.in1 X.stack s H := by
    have e := I.env0
    exact ⟨e.frames, e.mod, e.bs, e.bsz, e.funs, e.frf, e.hok, e.bare⟩
  have hl := F.len _ _ _ _ q
  refine wpAny_call (codeAny_mono (F.run X.A.in1.in1.in1 X.stack s H ⟨[.ref a], []⟩ [.ref a] [.ref a] _ E0 (hr.mono hj).in1.in1.in1 e0 (by
    have := hb s [.ref a] I.kIn (by simpa using hl)
    simpa using this) (.cons rfl .nil) q) fun r s' hq => ?_)
  cases r with
  | error e => exact pass0 pins σ H s e s' I hq
  | ok fl =>
    cases fl with
    | ret w =>
      obtain ⟨z, H', I', rz, n, ez, hn, q⟩ := I.after hq
      subst ez
      obtain ⟨t, rfl⟩ := rz
      exact ⟨hn, n, _, rfl, .bl (n != 0), H', I'.tok _, rfl, q⟩
    | next => exact False.elim hq
    | brk => exact False.elim hq
    | cont => exact False.elim hq
/-- == of an item and x inside a builtin -/
def EqsO (C : Addr) (sp : Sp) (a b : Addr) (H : Hp) (e : Bool) : Prop := (b = a ∧ e = true) ∨ (b ≠ a ∧ ∀ H', Ext H H' → sp [.ref b, .ref a] H' (fun v H2 => v = .bl e ∧ Ext H' H2) E0)
theorem eqB_own (D : DM X.prog X.w X.K X.mg X.base k C "__eq__" ps [] sp) {j : Nat} (hr : Room j X.A) (hj : k + 1 ≤ j) {pins : List (Addr × Obj)} {σ : L2.St} {H H' : Hp} {s : Shared} {a b dx dy : Addr} {fs gs : List (Str × V)} {e : Bool} (I : Inv X pins σ H' s) (hx : Ext H H')
    (ha : H a = some (.ins (He.ga X.K C) dx fs)) (hb : H b = some (.ins (He.ga X.K C) dy gs)) (h : EqsO (He.ga X.K C) sp a b H e) :
    wpAny (model X.prog X.w) X.A.in1 (eqBool (.ref b) (.ref a)) (fun r s' => r = e ∧ ∃ H2, Inv X pins σ H2 s' ∧ Ext H H2) X.xe s := by
  rcases h with ⟨rfl, rfl⟩ | ⟨hne, q⟩
  · exact SeqAt.EqAt.same (A := X.A.in1) (s := s) (.ref b) X.prog X.w X.xe _ ⟨rfl, H', I, hx⟩
  have q := q H' hx
  obtain ⟨fd, ds, F, c, _, hb', hv⟩ := D.ex
  cases hv
  obtain ⟨mA, J', _⟩ := ins_get I.hok (hx _ _ ha)
  obtain ⟨mB, J, _⟩ := ins_get I.hok (hx _ _ hb)
  obtain ⟨od, J, _⟩ := J.look
  obtain ⟨od', J', _⟩ := J'.look
  obtain ⟨m, hF⟩ := I.fr
  have hr1 : Room k X.A.in1 := (hr.mono hj).in1
  refine GQ.eqBool_refG hne (PySem.W.cmp_K (op := .Eq) (tb := .ref (He.ga X.K C)) hr1.units0 hF I.ok.mod.kin J J'.type (by simp [PySem.W.notFirst]) c.at_ c.fn ?_)
  have e0 : Env0 X.prog X.w X.K X.mg X.base X.A.in1 X.stack s H' := by
    have e := I.env0
    exact ⟨e.frames, e.mod, e.bs, e.bsz, e.funs, e.frf, e.hok, e.bare⟩
  have hl := F.len _ _ _ _ q
  refine wpAny_call (codeAny_mono (F.run X.A.in1 X.stack s H' ⟨[.ref b, .ref a], []⟩ [.ref b, .ref a] [.ref b, .ref a] _ E0 hr1 e0 (by
    have := hb' s [.ref b, .ref a] I.kIn (by simpa using hl)
    simpa using this) (.cons rfl (.cons rfl .nil)) q) fun r s' hq => ?_)
  cases r with
  | error e => exact pass0 pins σ H' s e s' I hq
  | ok fl =>
    cases fl with
    | ret w =>
      obtain ⟨z, H2, I', rz, ez, ex⟩ := I.after hq
      subst ez
      cases rz
      exact ⟨e, rfl, rfl, H2, I', hx.trans ex⟩
    | next => exact False.elim hq
    | brk => exact False.elim hq
    | cont => exact False.elim hq
/-- the items are instances, each equal to x or not -/
def ItemsO (C : Addr) (sp : Sp) (a : Addr) (xs : List V) (e : Nat → Bool) (H : Hp) : Prop := (∃ dx fs, H a = some (.ins C dx fs)) ∧ ∀ i v, xs[i]? = some v → ∃ b dx fs, v = .ref b ∧ H b = some (.ins C dx fs) ∧ EqsO C sp a b H (e i)
theorem scanO (D : DM X.prog X.w X.K X.mg X.base k C "__eq__" ps [] sp) {j : Nat} (hr : Room j X.A) (hj : k + 1 ≤ j) {pins : List (Addr × Obj)} {σ : L2.St} {H : Hp} {a l : Addr} {xs : List V} {e : Nat → Bool} (hl : H l = some (.lst xs)) (h : ItemsO (He.ga X.K C) sp a xs e H) :
    ScanI X.prog X.w X.A X.xe l (.ref a) xs.length e (fun _ s' => LoopI X pins σ H s') := by
  intro i s' ⟨H1, I1, e1⟩
  obtain ⟨z, its, n, r, hlen, ho⟩ := I1.lstM (e1 _ _ hl)
  refine ⟨its.toArray, n, ho, by rw [List.size_toArray]; exact hlen.symm, fun hi => ?_⟩
  have hi2 : i < xs.length := by rw [List.size_toArray] at hi; omega
  obtain ⟨⟨dx, fs, ha⟩, hit⟩ := h
  obtain ⟨b, dy, gs, eb, hb, hq⟩ := hit i _ (List.getElem?_eq_getElem hi2)
  obtain ⟨u, hu, ru⟩ := r.get (List.getElem?_eq_getElem hi2)
  rw [eb] at ru
  cases ru
  have eu : its.toArray[i] = Value.ref b := by
    have : its[i]? = some its.toArray[i] := by rw [List.getElem?_eq_getElem (by rw [List.size_toArray] at hi; exact hi)] <;> simp
    rw [this] at hu
    exact Option.some.inj hu
  rw [eu]
  exact eqB_own D hr hj I1 e1 ha hb hq
def rInO (C : Addr) (sp : Sp) : R2 := fun x y H Q => ∃ (a l : Addr) (xs : List V) (e : Nat → Bool) (j : Nat), x = .ref a ∧ y = .ref l ∧ H l = some (.lst xs) ∧ ItemsO C sp a xs e H ∧ j ≤ xs.length ∧ (∀ m, m < j → e m = false) ∧ (j < xs.length → e j = true) ∧ ∀ H', Ext H H' → Q (.bl (decide (j < xs.length))) H'
theorem opInO (D : DM X.prog X.w X.K X.mg X.base k C "__eq__" ps [] sp) {j : Nat} (hr : Room j X.A) (hj : k + 1 ≤ j) : OpR X (compareOp .In) (rInO (He.ga X.K C) sp) := by
  intro pins s σ H x y u v Q I rx ry h
  obtain ⟨a, l, xs, e, jj, rfl, rfl, hl, hi, hjj, hno, hit, q⟩ := h
  cases rx
  cases ry
  obtain ⟨z, its, n, r, hlen, ho⟩ := I.lstM hl
  have hT : s.TypeIs (.ref l) "list" := ⟨_, ho, rfl⟩
  show wpAny _ X.A (do return .bool (← contains (.ref l) (.ref a))) (EP X pins σ Q) X.xe s
  refine wpAny_bind (wpAny_contains_slot hT PySem.F.slot_list_contains (wpAny_mono (GQ.call_here (Q := fun v s' => ∃ b, v = .bool b ∧ EP X pins σ Q (.bool b) s') PySem.F.slot_list_contains hT PySem.F.entry_list_contains (PySem.F.args_list_contains_2 _ _)
    (list_containsG (R := wants (fun v s' => ∃ b, v = .bool b ∧ EP X pins σ Q (.bool b) s') X.xe) l (.ref a) xs.length e (fun _ s' => LoopI X pins σ H s') (scanO D hr hj hl hi) jj hjj hno hit
      (fun s' hlt ⟨H', I', ex⟩ => ⟨true, rfl, .bl true, H', I', rfl, by have := q H' ex; rw [decide_eq_true hlt] at this; exact this⟩)
      (fun s' heq ⟨H', I', ex⟩ => ⟨false, rfl, .bl false, H', I', rfl, by have := q H' ex; rw [decide_eq_false (by omega)] at this; exact this⟩) ⟨H, I, Ext.rfl'⟩)) (fun v s' hv => ?_) fun _ _ e => e))
  obtain ⟨b, rfl, hq⟩ := hv
  exact wpAny_truthy_bool (wpAny_pure hq)
def rCountO (C : Addr) (sp : Sp) : V → List V → Hp → VK → Prop := fun x ys H Q => ∃ (a l : Addr) (xs : List V) (e : Nat → Bool), x = .ref l ∧ ys = [.ref a] ∧ H l = some (.lst xs) ∧ ItemsO C sp a xs e H ∧ ∀ H', Ext H H' → Q (.int (cntE e xs.length : Nat)) H'
theorem mtCountO (D : DM X.prog X.w X.K X.mg X.base k C "__eq__" ps [] sp) {j : Nat} (hr : Room j X.A) (hj : k + 1 ≤ j) : MtR X "list.count" (rCountO (He.ga X.K C) sp) := by
  intro pins s σ H x ys u us Q I rx rys h
  obtain ⟨a, l, xs, e, rfl, rfl, hl, hi, q⟩ := h
  cases rx
  obtain ⟨u, rfl, ru⟩ := rys.one
  cases ru
  obtain ⟨z, its, n, r, hlen, ho⟩ := I.lstM hl
  have hT : s.TypeIs (.ref l) "list" := ⟨_, ho, rfl⟩
  exact GQ.call_here PySem.F.slot_list_count hT PySem.F.entry_list_count (PySem.F.args_list_count_2 _ _)
    (list_countG (R := wants (EP X pins σ Q) X.xe) l (.ref a) xs.length e (fun _ s' => LoopI X pins σ H s') (scanO D hr hj hl hi)
      (fun s' ⟨H', I', ex⟩ => ⟨.int _, H', I'.tok _, ⟨_, rfl⟩, q H' ex⟩) ⟨H, I, Ext.rfl'⟩)
def rIndexO (C : Addr) (sp : Sp) : V → List V → Hp → VK → Prop := fun x ys H Q => ∃ (a l : Addr) (xs : List V) (e : Nat → Bool) (j : Nat), x = .ref l ∧ ys = [.ref a] ∧ H l = some (.lst xs) ∧ ItemsO C sp a xs e H ∧ j < xs.length ∧ (∀ m, m < j → e m = false) ∧ e j = true ∧ ∀ H', Ext H H' → Q (.int (j : Nat)) H'
theorem mtIndexO (D : DM X.prog X.w X.K X.mg X.base k C "__eq__" ps [] sp) {j : Nat} (hr : Room j X.A) (hj : k + 1 ≤ j) : MtR X "list.index" (rIndexO (He.ga X.K C) sp) := by
  intro pins s σ H x ys u us Q I rx rys h
  obtain ⟨a, l, xs, e, jj, rfl, rfl, hl, hi, hjj, hno, hit, q⟩ := h
  cases rx
  obtain ⟨u, rfl, ru⟩ := rys.one
  cases ru
  obtain ⟨z, its, n, r, hlen, ho⟩ := I.lstM hl
  have hT : s.TypeIs (.ref l) "list" := ⟨_, ho, rfl⟩
  have hsl := sizeLine_eq
  exact GQ.call_here PySem.F.slot_list_index hT PySem.F.entry_list_index (PySem.F.args_list_index_2 _ _)
    (list_indexG (R := wants (EP X pins σ Q) X.xe) l (.ref a) xs.length e (fun _ s' => LoopI X pins σ H s') (scanO D hr hj hl hi) jj hjj (by omega) hno hit
      (fun s' ⟨H', I', ex⟩ => ⟨.int _, H', I'.tok _, ⟨_, rfl⟩, q H' ex⟩) ⟨H, I, Ext.rfl'⟩)
end
end R
namespace R
open PySem PySem.Spec PyProof.Rows L2
/-! ### equal rows (k03) -/
theorem crow_eqv (r1 r2 : CRow) : PyData.eqv r1.d r2.d = true ↔ r1 = r2 := by
  cases r1 with
  | put s =>
    cases r2 with
    | put t =>
      show (((Str.ofString "put") == (Str.ofString "put")) && ((s == t) && true)) = true ↔ _
      rw [beq_self_eq_true, Bool.true_and, Bool.and_true, beq_iff_eq]
      exact ⟨fun e => by rw [e], fun e => CRow.put.inj e⟩
    | copy a n => exact ⟨(fun e => by cases (show ((Str.ofString "put" == Str.ofString "copy") && false) = true from by simpa [CRow.d, PyData.eqv, PyData.eqvAll] using e)), fun e => by cases e⟩
  | copy a n =>
    cases r2 with
    | put t => exact ⟨(fun e => by simp [CRow.d, PyData.eqv, PyData.eqvAll] at e), fun e => by cases e⟩
    | copy b m =>
      show (((Str.ofString "copy") == (Str.ofString "copy")) && (((a : Int) == (b : Int)) && (((n : Int) == (m : Int)) && true))) = true ↔ _
      rw [beq_self_eq_true, Bool.true_and, Bool.and_true, Bool.and_eq_true, beq_iff_eq, beq_iff_eq]
      exact ⟨fun ⟨e1, e2⟩ => by rw [show a = b by omega, show n = m by omega], fun e => by cases e; exact ⟨rfl, rfl⟩⟩
theorem crows_eqv : ∀ rs1 rs2 : List CRow, PyData.eqvAll (rs1.map CRow.d) (rs2.map CRow.d) = true ↔ rs1 = rs2
  | [], [] => ⟨fun _ => rfl, fun _ => rfl⟩
  | [], _ :: _ => ⟨(fun e => by cases e), fun e => by cases e⟩
  | _ :: _, [] => ⟨(fun e => by cases e), fun e => by cases e⟩
  | r1 :: rs1, r2 :: rs2 => by
    show (PyData.eqv r1.d r2.d && PyData.eqvAll (rs1.map CRow.d) (rs2.map CRow.d)) = true ↔ _
    rw [Bool.and_eq_true, crow_eqv, crows_eqv rs1 rs2]
    exact ⟨fun ⟨e1, e2⟩ => by rw [e1, e2], fun e => by cases e; exact ⟨rfl, rfl⟩⟩
/-- a size and rows -/
abbrev SR := Nat × List CRow
def srD (o : SR) : PyData := .tuple [.int (o.1 : Nat), .list (o.2.map CRow.d)]
theorem sr_eqv (a b : SR) : PyData.eqv (srD a) (srD b) = true ↔ a = b := by
  show (((a.1 : Int) == (b.1 : Int)) && (PyData.eqvAll (a.2.map CRow.d) (b.2.map CRow.d) && true)) = true ↔ _
  rw [Bool.and_true, Bool.and_eq_true, crows_eqv, beq_iff_eq]
  exact ⟨fun ⟨e1, e2⟩ => Prod.ext (by omega) e2, fun e => by cases e; exact ⟨rfl, rfl⟩⟩
theorem sr_good {o : SR} (h : ∀ m ∈ o.2, m.sOk) (hl : o.2.length ≤ 100000) : good (srD o) = true ∧ (srD o).depth ≤ 64 := by
  have g := crows_good h hl
  constructor
  · refine good_tuple (by simp) fun d hd => ?_
    simp only [List.mem_cons, List.not_mem_nil, or_false] at hd
    rcases hd with rfl | rfl
    · rfl
    · exact g.1
  · refine Nat.le_trans (depth_tuple (n := 2) fun d hd => ?_) (by decide)
    simp only [List.mem_cons, List.not_mem_nil, or_false] at hd
    rcases hd with rfl | rfl
    · exact Nat.zero_le _
    · exact g.2
/-! ### when the heap has only grown -/
theorem ext_gr {F H H' : Hp} (s : Same F H) (e : Ext H H') : Gr [] F H F H' := ⟨Same.refl F, s.trans e, fun a o _ h => e a o h, (fun a h z => by
  obtain ⟨o, eo⟩ := Option.ne_none_iff_exists'.mp h
  rw [e a o eo] at z
  cases z), fun _ _ h => h⟩
theorem W.ext {M : List Addr} {F0 H0 F H H' : Hp} {L : List Own} (w : W M F0 H0 F H L) (e : Ext H H') : W M F0 H0 F H' L :=
  w.call (D := []) .nil (w2 := (⟨ext_gr w.g.fh e, (fun _ h => nomatch h), .nil, (fun _ h => nomatch h)⟩ : W [] F H F H' []))
theorem ext_of {F H F2 H2 : Hp} (w : W [] F H F2 H2 []) : Ext H H2 := fun a o e => w.g.hh a o (fun h => nomatch h) e
/-! ### == of changes -/
def φceqX (K : PySem.W.Frag) : V → V → Hp → VK → Prop := fun x y H Q => ∃ (F : Hp) (n : Nat) (rows : List CRow), Same F H ∧ Chg K F x n rows ∧ RowsOk n rows ∧
  ((∃ (n2 : Nat) (rows2 : List CRow) (b : Bool), Chg K F y n2 rows2 ∧ RowsOk n2 rows2 ∧ (b = true ↔ n = n2 ∧ rows = rows2) ∧ ∀ F2 H2, W [] F H F2 H2 [] → Q (.bl b) H2) ∨ (KindV F y ∧ ∀ F2 H2, W [] F H F2 H2 [] → Q (.bl false) H2))
theorem eqs_ceq {K : PySem.W.Frag} {C : Addr} {F H : Hp} {a b : Addr} {n1 n2 : Nat} {rs1 rs2 : List CRow} {e : Bool} (s : Same F H) (ha : Chg K F (.ref a) n1 rs1) (hb : Chg K F (.ref b) n2 rs2) (ok1 : RowsOk n1 rs1) (ok2 : RowsOk n2 rs2) (hne : b ≠ a) (he : e = true ↔ n2 = n1 ∧ rs2 = rs1) :
    EqsO C (S2 (φceqX K)) a b H e := .inr ⟨hne, fun H' hx => ⟨F, n2, rs2, s.trans hx, hb, ok2, .inl ⟨n1, rs1, e, ha, ok1, he, fun F2 H2 w => ⟨rfl, ext_of w⟩⟩⟩⟩
theorem chg_ins {K : PySem.W.Frag} {F H : Hp} {a : Addr} {n : Nat} {rows : List CRow} (s : Same F H) (h : Chg K F (.ref a) n rows) : ∃ dx fs, H a = some (.ins (He.ga K "Change") dx fs) := by
  obtain ⟨c, dx, r, vs, e, h1, _⟩ := h
  cases e
  exact ⟨dx, _, s _ _ h1⟩
/-! ### the law's lists -/
/-- sizes and rows, as the law's list has them -/
def OthL (K : PySem.W.Frag) (F : Hp) (ts : List V) (os : List SR) : Prop := ts.length = os.length ∧ ∀ (i : Nat) (v : V) (o : SR), ts[i]? = some v → os[i]? = some o → ∃ t p vs, v = .ref t ∧ SqT K F t [.int (o.1 : Nat), .ref p] ∧ SqL K F p vs ∧ DpAll K F vs (o.2.map CRow.d)
theorem OthL.same {K : PySem.W.Frag} {F F2 : Hp} {ts : List V} {os : List SR} (s : Same F F2) (h : OthL K F ts os) : OthL K F2 ts os := ⟨h.1, fun i v o h1 h2 => by
  obtain ⟨t, p, vs, e, a, b, c⟩ := h.2 i v o h1 h2
  exact ⟨t, p, vs, e, sqT_same s a, sqL_same s b, dpa_same s _ _ c⟩⟩
def oth (K : PySem.W.Frag) (ts : List V) (os : List SR) : Own := pur (fun F => OthL K F ts os) fun s h => h.same s
theorem snoc_at {α β : Type} {xs : List α} {ys : List β} {x v : α} {y o : β} (hl : xs.length = ys.length) {i : Nat} (h1 : (xs ++ [x])[i]? = some v) (h2 : (ys ++ [y])[i]? = some o) : (xs[i]? = some v ∧ ys[i]? = some o) ∨ (v = x ∧ o = y) := by
  by_cases hi : i < xs.length
  · rw [List.getElem?_append_left hi] at h1
    rw [List.getElem?_append_left (by rw [← hl]; exact hi)] at h2
    exact .inl ⟨h1, h2⟩
  · rw [List.getElem?_append_right (by omega)] at h1
    rw [List.getElem?_append_right (by rw [← hl]; omega), ← hl] at h2
    cases e : i - xs.length with
    | zero =>
      rw [e] at h1 h2
      cases h1
      cases h2
      exact .inr ⟨rfl, rfl⟩
    | succ k =>
      rw [e] at h1
      cases h1
theorem oth_nil {K : PySem.W.Frag} {F : Hp} : OthL K F [] [] := ⟨rfl, fun i v o h => nomatch h⟩
theorem oth_snoc {K : PySem.W.Frag} {F : Hp} {ts : List V} {os : List SR} {t p : Addr} {vs : List V} {o : SR} (h : OthL K F ts os) (ht : SqT K F t [.int (o.1 : Nat), .ref p]) (hp : SqL K F p vs) (hd : DpAll K F vs (o.2.map CRow.d)) : OthL K F (ts ++ [.ref t]) (os ++ [o]) := by
  refine ⟨by rw [List.length_append, List.length_append, h.1]; rfl, fun i v q h1 h2 => ?_⟩
  rcases snoc_at h.1 h1 h2 with ⟨h1, h2⟩ | ⟨rfl, rfl⟩
  · exact h.2 i v q h1 h2
  · exact ⟨t, p, vs, rfl, ht, hp, hd⟩
theorem oth_dp {K : PySem.W.Frag} {F : Hp} {ts : List V} {os : List SR} (h : OthL K F ts os) {i : Nat} {v : V} {o : SR} (h1 : ts[i]? = some v) (h2 : os[i]? = some o) : Dp K F v (srD o) := by
  obtain ⟨t, p, vs, rfl, a, b, c⟩ := h.2 i v o h1 h2
  exact .tup a (.cons (.int _) (.cons (.lst b c) .nil))
/-- changes made of these -/
def MadL (K : PySem.W.Frag) (a : Addr) (F : Hp) (vs : List V) (os : List SR) : Prop := vs.length = os.length ∧ ∀ (i : Nat) (v : V) (o : SR), vs[i]? = some v → os[i]? = some o → ∃ b, v = .ref b ∧ b ≠ a ∧ Chg K F (.ref b) o.1 o.2
theorem MadL.same {K : PySem.W.Frag} {a : Addr} {F F2 : Hp} {vs : List V} {os : List SR} (s : Same F F2) (h : MadL K a F vs os) : MadL K a F2 vs os := ⟨h.1, fun i v o h1 h2 => by
  obtain ⟨b, e, hn, hc⟩ := h.2 i v o h1 h2
  exact ⟨b, e, hn, hc.same s⟩⟩
def mad (K : PySem.W.Frag) (a : Addr) (vs : List V) (os : List SR) : Own := pur (fun F => MadL K a F vs os) fun s h => h.same s
theorem mad_nil {K : PySem.W.Frag} {a : Addr} {F : Hp} : MadL K a F [] [] := ⟨rfl, fun i v o h => nomatch h⟩
theorem mad_snoc {K : PySem.W.Frag} {a : Addr} {F : Hp} {vs : List V} {os : List SR} {b : Addr} {o : SR} (h : MadL K a F vs os) (hne : b ≠ a) (hb : Chg K F (.ref b) o.1 o.2) : MadL K a F (vs ++ [.ref b]) (os ++ [o]) := by
  refine ⟨by rw [List.length_append, List.length_append, h.1]; rfl, fun i v q h1 h2 => ?_⟩
  rcases snoc_at h.1 h1 h2 with ⟨h1, h2⟩ | ⟨rfl, rfl⟩
  · exact h.2 i v q h1 h2
  · exact ⟨b, rfl, hne, hb⟩
/-! ### promises -/
def φtruth03 : V → V → Hp → VK → Prop := fun x y H Q => ∃ b c : Bool, x = .bl b ∧ y = .bl c ∧ Q (.bl (decide (b = c))) H
def φgives03 (K : PySem.W.Frag) : V → Hp → VK → Prop := fun x H Q => ∃ (F : Hp) (a : Addr) (vs : List V) (rows : List CRow), x = .ref a ∧ Same F H ∧ SqL K F a vs ∧ DpAll K F vs (rows.map CRow.d) ∧ (∀ r ∈ rows, r.sOk) ∧ rows.length ≤ 1000 ∧ givesL rows ≤ 1000000 ∧ ∀ F2 H2, W [] F H F2 H2 [] → Q (.int (givesL rows : Nat)) H2
def φbent03 (K : PySem.W.Frag) : V → V → V → Hp → VK → Prop := fun x y z H Q => ∃ (F : Hp) (b : Addr) (n : Nat) (r : CRow), x = .ref b ∧ y = .int (n : Nat) ∧ St F H [bag K b] ∧ Dp K F z r.d ∧ CRowOk n r ∧ n ≤ 400 ∧ r.gives ≤ 400 ∧
  ∀ v r2 F2 H2, W [b] F H F2 H2 [dat K v (CRow.d r2), bag K b] → CRowOk n r2 → r2.gives ≤ r.gives + 1 → Q v H2
def φsplit03 (K : PySem.W.Frag) : V → V → Hp → VK → Prop := fun x y H Q => ∃ (F : Hp) (b : Addr) (n : Nat) (r : CRow), x = .ref b ∧ St F H [bag K b] ∧ Dp K F y r.d ∧ CRowOk n r ∧ n ≤ 400 ∧ r.gives ≤ 400 ∧
  ∀ p ys rows F2 H2, H p = none → W [b] F H F2 H2 [mu p (.lst ys), dpa K ys (rows.map CRow.d), bag K b] → (∀ q ∈ rows, CRowOk n q) → givesL rows = r.gives → rows.length ≤ 2 → Q (.ref p) H2
def φother03 (K : PySem.W.Frag) : V → V → V → Hp → VK → Prop := fun x y z H Q => ∃ (F : Hp) (b a : Addr) (vs : List V) (n : Nat) (rows : List CRow), x = .ref b ∧ y = .int (n : Nat) ∧ z = .ref a ∧ St F H [bag K b] ∧ SqL K F a vs ∧ DpAll K F vs (rows.map CRow.d) ∧ RowsOk n rows ∧ n ≤ 400 ∧
  ∀ t p ys (o : SR) F2 H2, H p = none → W [b] F H F2 H2 [fx t (.tup [.int (o.1 : Nat), .ref p]), mu p (.lst ys), dpa K ys (o.2.map CRow.d), bag K b] → (∀ q ∈ o.2, CRowOk o.1 q) → o.1 ≤ 400 → o.2.length ≤ 800 → givesL o.2 ≤ 100000 → Q (.ref t) H2
def φunlike03 (K : PySem.W.Frag) : V → V → V → Hp → VK → Prop := fun x y z H Q => ∃ (F : Hp) (a : Addr) (vs : List V) (n : Nat) (rows : List CRow), y = .int (n : Nat) ∧ z = .ref a ∧ Same F H ∧ Chg K F x n rows ∧ SqL K F a vs ∧ RowsOk n rows ∧ n ≤ 400 ∧ vs.length ≤ 400 ∧ ∀ F2 H2, W [] F H F2 H2 [] → Q (.bl true) H2
def φpair03 (K : PySem.W.Frag) : V → V → V → Hp → VK → Prop := fun x y z H Q => ∃ (F : Hp) (a b : Addr) (n1 n2 : Nat) (rs1 rs2 : List CRow) (e : Bool), x = .ref a ∧ y = .ref b ∧ z = .bl e ∧ Same F H ∧ Chg K F (.ref a) n1 rs1 ∧ Chg K F (.ref b) n2 rs2 ∧ RowsOk n1 rs1 ∧ RowsOk n2 rs2 ∧ b ≠ a ∧ (e = true ↔ n1 = n2 ∧ rs1 = rs2) ∧ ∀ F2 H2, W [] F H F2 H2 [] → Q (.bl true) H2
theorem sum_gives03 : ∀ rows : List CRow, (rows.map fun r => ((r.gives : Nat) : Int)).sum = ((givesL rows : Nat) : Int)
  | [] => rfl
  | r :: rows => by
    rw [List.map_cons, List.sum_cons, sum_gives03 rows]
    show _ = ((r.gives + givesL rows : Nat) : Int)
    omega
/-- things of other kinds -/
def knd (vs : List V) : Own := pur (fun F => ∀ v ∈ vs, KindV F v) fun s h v hv => (h v hv).same s
theorem n_slT03 {K : PySem.W.Frag} {M : List Addr} {F0 H0 F H : Hp} {L : List Own} {Q : VK} {p : Addr} {xs : List V} {lo hi : Option Int} (w : W M F0 H0 F H L) (hs : SqT K H p xs) (e : ¬ (HT.sIx xs.length 0 lo = 0 ∧ HT.sIx xs.length xs.length hi = xs.length)) (h : ∀ t F2 H2, W M F0 H0 F2 H2 (fx t (.tup (cutV xs lo hi)) :: L) → Q (.ref t) H2) : rSlT K (.ref p) lo hi H Q :=
  ⟨p, xs, rfl, hs, e, fun l hl => h l _ _ ((w.im (u := .tup (cutV xs lo hi)) hl).push (fx l (.tup (cutV xs lo hi))) upd_same)⟩
theorem dpa_set03 {K : PySem.W.Frag} {F : Hp} {v : V} {d : PyData} : ∀ {vs : List V} {ds : List PyData} (i : Nat), DpAll K F vs ds → Dp K F v d → DpAll K F (vs.set i v) (ds.set i d)
  | _, _, _, .nil, _ => .nil
  | _, _, 0, .cons _ h, hd => .cons hd h
  | _, _, i + 1, .cons h1 h, hd => .cons h1 (dpa_set03 i h hd)
theorem gives_set03 {r : CRow} : ∀ (rows : List CRow) (i : Nat), givesL (rows.set i r) ≤ givesL rows + r.gives
  | [], _ => Nat.zero_le _
  | q :: rows, 0 => by
    show r.gives + givesL rows ≤ (q.gives + givesL rows) + r.gives
    omega
  | q :: rows, i + 1 => by
    have := gives_set03 (r := r) rows i
    show q.gives + givesL (rows.set i r) ≤ (q.gives + givesL rows) + r.gives
    omega
theorem gives_app03 (a b : List CRow) : givesL (a ++ b) = givesL a + givesL b := by
  unfold givesL
  rw [List.map_append, List.sum_append]
theorem gives_take03 (rows : List CRow) (k : Nat) : givesL (rows.take k) + givesL (rows.drop k) = givesL rows := by rw [← gives_app03, List.take_append_drop]
theorem gives_rev03 (rows : List CRow) : givesL rows.reverse = givesL rows := by
  unfold givesL
  exact ((List.reverse_perm rows).map _).sum_nat
theorem put_ok03 {n : Nat} {s : Str} (h : okS s) (h1 : 1 ≤ s.length) (h2 : s.length ≤ 400) : CRowOk n (.put s) := ⟨⟨h, by omega⟩, h1, Nat.zero_le _⟩
theorem copy_ok03 {n a m : Nat} (h1 : 1 ≤ m) (h2 : a + m ≤ n) : CRowOk n (.copy a m) := ⟨trivial, h1, h2⟩
theorem crow_up03 {n m : Nat} {r : CRow} (h : CRowOk n r) (hn : n ≤ m) : CRowOk m r := ⟨h.s, h.p, Nat.le_trans h.h hn⟩
theorem ixNat03 {n j : Nat} (h : j < n) : ixN n ((j : Nat) : Int) = some j := by
  unfold ixN
  rw [if_pos (by omega), if_pos (by omega)]
  rfl
/-- the first place where a test holds, or the length -/
theorem first03 (e : Nat → Bool) : ∀ n : Nat, ∃ j, j ≤ n ∧ (∀ m, m < j → e m = false) ∧ (j < n → e j = true)
  | 0 => ⟨0, Nat.le_refl _, (fun m h => absurd h (Nat.not_lt_zero m)), fun h => absurd h (Nat.lt_irrefl 0)⟩
  | n + 1 => by
    obtain ⟨j, h1, h2, h3⟩ := first03 e n
    by_cases hj : j < n
    · exact ⟨j, by omega, h2, fun _ => h3 hj⟩
    · have hjn : j = n := by omega
      subst hjn
      cases he : e j with
      | true => exact ⟨j, by omega, h2, fun _ => he⟩
      | false => exact ⟨j + 1, Nat.le_refl _, fun m hm => by
          by_cases q : m = j
          · rw [q]; exact he
          · exact h2 m (by omega), fun h => absurd h (Nat.lt_irrefl _)⟩
/-- the places among the first n where a test holds -/
def filE (e : Nat → Bool) (n : Nat) : List Nat := (List.range n).filter e
theorem filE_snoc (e : Nat → Bool) (n : Nat) : filE e (n + 1) = filE e n ++ (if e n = true then [n] else []) := by
  unfold filE
  rw [List.range_succ, List.filter_append, List.filter_cons]
  split <;> rfl
theorem filE_len (e : Nat → Bool) (n : Nat) : (filE e n).length ≤ n := by
  unfold filE
  have := List.length_filter_le e (List.range n)
  rw [List.length_range] at this
  exact this
/-- where none holds the list is empty, else its first is the first place -/
theorem filE_first {e : Nat → Bool} {n j : Nat} (h1 : j ≤ n) (h2 : ∀ m, m < j → e m = false) (h3 : j < n → e j = true) : (j = n → filE e n = []) ∧ (j < n → ∃ l, filE e n = j :: l) := by
  constructor
  · rintro rfl
    unfold filE
    exact List.filter_eq_nil_iff.mpr fun m hm => by rw [h2 m (List.mem_range.mp hm)]; exact fun z => nomatch z
  · intro hj
    obtain ⟨d, rfl⟩ : ∃ d, n = j + 1 + d := ⟨n - (j + 1), by omega⟩
    have key : ∀ d, ∃ l, filE e (j + 1 + d) = j :: l := by
      intro d
      induction d with
      | zero =>
        have e0 : filE e j = [] := List.filter_eq_nil_iff.mpr fun m hm => by rw [h2 m (List.mem_range.mp hm)]; exact fun z => nomatch z
        refine ⟨[], ?_⟩
        show filE e (j + 1) = _
        rw [filE_snoc, e0, if_pos (h3 hj)]
        rfl
      | succ d ih =>
        obtain ⟨l, hl⟩ := ih
        exact ⟨l ++ (if e (j + 1 + d) = true then [j + 1 + d] else []), by show filE e (j + 1 + d + 1) = _; rw [filE_snoc, hl]; rfl⟩
    exact key d
theorem dpa_nat03 {K : PySem.W.Frag} {F : Hp} : ∀ ks : List Nat, DpAll K F (ks.map fun (k : Nat) => V.int (k : Nat)) (ks.map fun (k : Nat) => PyData.int (k : Nat))
  | [] => .nil
  | _ :: ks => .cons (.int _) (dpa_nat03 ks)
theorem nats_good03 {ks : List Nat} (h : ks.length ≤ 1000) : good (.list (ks.map fun (k : Nat) => PyData.int (k : Nat))) = true ∧ (PyData.list (ks.map fun (k : Nat) => PyData.int (k : Nat))).depth ≤ 64 := by
  constructor
  · refine good_list (by rw [List.length_map]; omega) fun d hd => ?_
    obtain ⟨k, _, rfl⟩ := List.mem_map.mp hd
    rfl
  · refine Nat.le_trans (depth_list (n := 0) fun d hd => ?_) (by decide)
    obtain ⟨k, _, rfl⟩ := List.mem_map.mp hd
    exact Nat.le_refl _
theorem nats_eqv03 (ks : List Nat) : PyData.eqv (.list (ks.map fun (k : Nat) => PyData.int (k : Nat))) (.list []) = decide (ks = []) := by
  cases ks with
  | nil => rfl
  | cons k ks => rfl
/-- which are equal to the first one -/
def eqS (o : SR) (os : List SR) (i : Nat) : Bool := match os[i]? with
  | some q => PyData.eqv (srD q) (srD o)
  | none => false
theorem eqS_at {o q : SR} {os : List SR} {i : Nat} (h : os[i]? = some q) : eqS o os i = PyData.eqv (srD q) (srD o) := by
  unfold eqS
  rw [h]
theorem eqS_iff {o q : SR} {os : List SR} {i : Nat} (h : os[i]? = some q) : eqS o os i = true ↔ q.1 = o.1 ∧ q.2 = o.2 := by
  rw [eqS_at h, sr_eqv]
  exact ⟨fun e => by rw [e]; exact ⟨rfl, rfl⟩, fun ⟨e1, e2⟩ => Prod.ext e1 e2⟩
theorem dp_sr03 {K : PySem.W.Frag} {F : Hp} {t p : Addr} {vs : List V} {o : SR} (h1 : SqT K F t [.int (o.1 : Nat), .ref p]) (h2 : SqL K F p vs) (h3 : DpAll K F vs (o.2.map CRow.d)) : Dp K F (.ref t) (srD o) := .tup h1 (.cons (.int _) (.cons (.lst h2 h3) .nil))
theorem items03 {K : PySem.W.Frag} {F H : Hp} {a : Addr} {n : Nat} {rows : List CRow} {vs : List V} {os : List SR} (s : Same F H) (ha : Chg K F (.ref a) n rows) (ok : RowsOk n rows) (h : MadL K a F vs os) (hos : ∀ o ∈ os, RowsOk o.1 o.2) : ItemsO (He.ga K "Change") (S2 (φceqX K)) a vs (eqS (n, rows) os) H := by
  refine ⟨chg_ins s ha, fun i v hv => ?_⟩
  have hi := (List.getElem?_eq_some_iff.mp hv).1
  obtain ⟨o, ho⟩ : ∃ o, os[i]? = some o := ⟨_, List.getElem?_eq_getElem (by rw [← h.1]; exact hi)⟩
  obtain ⟨b, rfl, hne, hb⟩ := h.2 i v o hv ho
  obtain ⟨dx, fs, hib⟩ := chg_ins s hb
  exact ⟨b, dx, fs, rfl, hib, eqs_ceq s ha hb ok (hos o (List.mem_of_getElem? ho)) hne (eqS_iff ho)⟩
end R
namespace Z
open PySem PySem.Spec PyProof.Rows L2 R
def topS (i : Nat) : Stmt := PySem.Challenge.pw_remadehere_k03_equal_and_long.main.body.getD i (.Pass ⟨0, 0, 0, 0⟩)
abbrev s_gives : Stmt := topS 6
theorem sc_gives : FnScope ["row", "size"] ["row", "size"] (defScope s_gives) := ⟨rfl, rfl, rfl, by decide +kernel, rfl, by decide +kernel, by decide +kernel⟩
abbrev s_row_text : Stmt := topS 7
theorem sc_row_text : FnScope ["row"] ["row"] (defScope s_row_text) := ⟨rfl, rfl, rfl, by decide +kernel, rfl, by decide +kernel, by decide +kernel⟩
abbrev s_ChangeX_initX : Stmt := inClass (topS 8) 0
theorem sc_ChangeX_initX : FnScope ["self", "size", "rows", "many", "k", "more"] ["self", "size", "rows"] (defScope s_ChangeX_initX) := ⟨rfl, rfl, rfl, by decide +kernel, rfl, by decide +kernel, by decide +kernel⟩
abbrev s_ChangeX_eqX : Stmt := inClass (topS 8) 1
theorem sc_ChangeX_eqX : FnScope ["self", "other"] ["self", "other"] (defScope s_ChangeX_eqX) := ⟨rfl, rfl, rfl, by decide +kernel, rfl, by decide +kernel, by decide +kernel⟩
abbrev s_ChangeX_lenX : Stmt := inClass (topS 8) 2
theorem sc_ChangeX_lenX : FnScope ["self"] ["self"] (defScope s_ChangeX_lenX) := ⟨rfl, rfl, rfl, by decide +kernel, rfl, by decide +kernel, by decide +kernel⟩
abbrev s_ChangeX_strX : Stmt := inClass (topS 8) 3
theorem sc_ChangeX_strX : FnScope ["self", "row"] ["self"] (defScope s_ChangeX_strX) := ⟨rfl, rfl, rfl, by decide +kernel, rfl, by decide +kernel, by decide +kernel⟩
abbrev s_law_bag : Stmt := topS 10
theorem sc_law_bag : FnScope ["script", "stir", "cell"] ["script"] (defScope s_law_bag) := ⟨rfl, rfl, rfl, by decide +kernel, rfl, by decide +kernel, by decide +kernel⟩
abbrev s_law_stirred : Stmt := topS 11
theorem sc_law_stirred : FnScope ["bag", "many", "found", "k"] ["bag", "many"] (defScope s_law_stirred) := ⟨rfl, rfl, rfl, by decide +kernel, rfl, by decide +kernel, by decide +kernel⟩
abbrev s_law_draw : Stmt := topS 12
theorem sc_law_draw : FnScope ["bag", "many", "found"] ["bag", "many"] (defScope s_law_draw) := ⟨rfl, rfl, rfl, by decide +kernel, rfl, by decide +kernel, by decide +kernel⟩
abbrev s_law_alike : Stmt := topS 14
theorem sc_law_alike : FnScope ["found", "due", "k"] ["found", "due"] (defScope s_law_alike) := ⟨rfl, rfl, rfl, by decide +kernel, rfl, by decide +kernel, by decide +kernel⟩
abbrev s_law_signs : Stmt := topS 15
theorem sc_law_signs : FnScope ["some"] [] (defScope s_law_signs) := ⟨rfl, rfl, rfl, by decide +kernel, rfl, by decide +kernel, by decide +kernel⟩
abbrev s_law_text : Stmt := topS 16
theorem sc_law_text : FnScope ["bag", "size", "few", "first", "some", "k"] ["bag", "size"] (defScope s_law_text) := ⟨rfl, rfl, rfl, by decide +kernel, rfl, by decide +kernel, by decide +kernel⟩
abbrev s_law_row : Stmt := topS 17
theorem sc_law_row : FnScope ["bag", "size", "left", "last", "way", "wide", "at"] ["bag", "size", "left", "last"] (defScope s_law_row) := ⟨rfl, rfl, rfl, by decide +kernel, rfl, by decide +kernel, by decide +kernel⟩
abbrev s_law_rows : Stmt := topS 18
theorem sc_law_rows : FnScope ["bag", "size", "many", "most", "rows", "left", "cap", "k"] ["bag", "size", "many", "most"] (defScope s_law_rows) := ⟨rfl, rfl, rfl, by decide +kernel, rfl, by decide +kernel, by decide +kernel⟩
abbrev s_law_size : Stmt := topS 19
theorem sc_law_size : FnScope ["bag"] ["bag"] (defScope s_law_size) := ⟨rfl, rfl, rfl, by decide +kernel, rfl, by decide +kernel, by decide +kernel⟩
abbrev s_law_truth : Stmt := topS 24
theorem sc_law_truth : FnScope ["found", "due"] ["found", "due"] (defScope s_law_truth) := ⟨rfl, rfl, rfl, by decide +kernel, rfl, by decide +kernel, by decide +kernel⟩
abbrev s_law_gives : Stmt := topS 23
theorem sc_law_gives : FnScope ["rows", "row"] ["rows"] (defScope s_law_gives) := ⟨rfl, rfl, rfl, by decide +kernel, rfl, by decide +kernel, by decide +kernel⟩
abbrev s_law_unlike_all : Stmt := topS 25
theorem sc_law_unlike_all : FnScope ["change", "size", "rows", "other"] ["change", "size", "rows"] (defScope s_law_unlike_all) := ⟨rfl, rfl, rfl, by decide +kernel, rfl, by decide +kernel, by decide +kernel⟩
abbrev s_law_row_bent : Stmt := topS 20
theorem sc_law_row_bent : FnScope ["bag", "size", "row", "at", "many", "some"] ["bag", "size", "row"] (defScope s_law_row_bent) := ⟨rfl, rfl, rfl, by decide +kernel, rfl, by decide +kernel, by decide +kernel⟩
abbrev s_law_split : Stmt := topS 21
theorem sc_law_split : FnScope ["bag", "row", "many", "cut"] ["bag", "row"] (defScope s_law_split) := ⟨rfl, rfl, rfl, by decide +kernel, rfl, by decide +kernel, by decide +kernel⟩
abbrev s_law_other : Stmt := topS 22
theorem sc_law_other : FnScope ["bag", "size", "rows", "way", "k", "j", "near", "bent"] ["bag", "size", "rows"] (defScope s_law_other) := ⟨rfl, rfl, rfl, by decide +kernel, rfl, by decide +kernel, by decide +kernel⟩
abbrev s_law_pair_right : Stmt := topS 26
theorem sc_law_pair_right : FnScope ["one", "other", "due"] ["one", "other", "due"] (defScope s_law_pair_right) := ⟨rfl, rfl, rfl, by decide +kernel, rfl, by decide +kernel, by decide +kernel⟩
abbrev s_law : Stmt := topS 27
theorem sc_law : FnScope ["script", "bag", "size", "rows", "change", "others", "k", "near", "some", "made", "where"] ["script"] (defScope s_law) := ⟨rfl, rfl, rfl, by decide +kernel, rfl, by decide +kernel, by decide +kernel⟩
structure Txt (K : PySem.W.Frag) (mg : Str → Option Value) : Prop where
  b_abs : mg "abs" = none
  b_all : mg "all" = none
  b_bool : mg "bool" = none
  b_int : mg "int" = none
  b_isinstance : mg "isinstance" = none
  b_len : mg "len" = none
  b_list : mg "list" = none
  b_min : mg "min" = none
  b_range : mg "range" = none
  b_str : mg "str" = none
  b_sum : mg "sum" = none
  b_tuple : mg "tuple" = none
  c_MOST : ∃ t, mg "MOST" = some (.int 400 t)
  k_Change : Cls K (He.ga K "Change")
  na_Change_size : NoAttr K (He.ga K "Change") "size"
  na_Change_rows : NoAttr K (He.ga K "Change") "rows"
  g_Change : mg "Change" = some (.ref (He.ga K "Change"))
  i_Change : C8.InsC K (He.ga K "Change")
  n_Change : Ne0 K "Change"
  s_Change : StrC K "Change"
  kn_Change : Kin K "Change"
  bo_Change : PySem.W.findIn K (.ref (He.ga K "Change")) "__bool__" = some none
def d_gives : He.DefD := ⟨("gives", none), "gives", "gives", defArgs s_gives, defBody s_gives, defScope s_gives, [], []⟩
def d_row_text : He.DefD := ⟨("row_text", none), "row_text", "row_text", defArgs s_row_text, defBody s_row_text, defScope s_row_text, [], []⟩
def d_ChangeX_initX : He.DefD := ⟨("Change", some "__init__"), "__init__", "Change.__init__", defArgs s_ChangeX_initX, defBody s_ChangeX_initX, defScope s_ChangeX_initX, [], []⟩
def d_ChangeX_eqX : He.DefD := ⟨("Change", some "__eq__"), "__eq__", "Change.__eq__", defArgs s_ChangeX_eqX, defBody s_ChangeX_eqX, defScope s_ChangeX_eqX, [], []⟩
def d_ChangeX_lenX : He.DefD := ⟨("Change", some "__len__"), "__len__", "Change.__len__", defArgs s_ChangeX_lenX, defBody s_ChangeX_lenX, defScope s_ChangeX_lenX, [], []⟩
def d_ChangeX_strX : He.DefD := ⟨("Change", some "__str__"), "__str__", "Change.__str__", defArgs s_ChangeX_strX, defBody s_ChangeX_strX, defScope s_ChangeX_strX, [], []⟩
def d_law_bag : He.DefD := ⟨("_law_bag", none), "_law_bag", "_law_bag", defArgs s_law_bag, defBody s_law_bag, defScope s_law_bag, [], []⟩
def d_law_stirred : He.DefD := ⟨("_law_stirred", none), "_law_stirred", "_law_stirred", defArgs s_law_stirred, defBody s_law_stirred, defScope s_law_stirred, [], []⟩
def d_law_draw : He.DefD := ⟨("_law_draw", none), "_law_draw", "_law_draw", defArgs s_law_draw, defBody s_law_draw, defScope s_law_draw, [], []⟩
def d_law_alike : He.DefD := ⟨("_law_alike", none), "_law_alike", "_law_alike", defArgs s_law_alike, defBody s_law_alike, defScope s_law_alike, [], []⟩
def d_law_signs : He.DefD := ⟨("_law_signs", none), "_law_signs", "_law_signs", defArgs s_law_signs, defBody s_law_signs, defScope s_law_signs, [], []⟩
def d_law_text : He.DefD := ⟨("_law_text", none), "_law_text", "_law_text", defArgs s_law_text, defBody s_law_text, defScope s_law_text, [], []⟩
def d_law_row : He.DefD := ⟨("_law_row", none), "_law_row", "_law_row", defArgs s_law_row, defBody s_law_row, defScope s_law_row, [], []⟩
def d_law_rows : He.DefD := ⟨("_law_rows", none), "_law_rows", "_law_rows", defArgs s_law_rows, defBody s_law_rows, defScope s_law_rows, [], []⟩
def d_law_size : He.DefD := ⟨("_law_size", none), "_law_size", "_law_size", defArgs s_law_size, defBody s_law_size, defScope s_law_size, [], []⟩
def d_law_truth : He.DefD := ⟨("_law_truth", none), "_law_truth", "_law_truth", defArgs s_law_truth, defBody s_law_truth, defScope s_law_truth, [], []⟩
def d_law_gives : He.DefD := ⟨("_law_gives", none), "_law_gives", "_law_gives", defArgs s_law_gives, defBody s_law_gives, defScope s_law_gives, [], []⟩
def d_law_unlike_all : He.DefD := ⟨("_law_unlike_all", none), "_law_unlike_all", "_law_unlike_all", defArgs s_law_unlike_all, defBody s_law_unlike_all, defScope s_law_unlike_all, [], []⟩
def d_law_row_bent : He.DefD := ⟨("_law_row_bent", none), "_law_row_bent", "_law_row_bent", defArgs s_law_row_bent, defBody s_law_row_bent, defScope s_law_row_bent, [], []⟩
def d_law_split : He.DefD := ⟨("_law_split", none), "_law_split", "_law_split", defArgs s_law_split, defBody s_law_split, defScope s_law_split, [], []⟩
def d_law_other : He.DefD := ⟨("_law_other", none), "_law_other", "_law_other", defArgs s_law_other, defBody s_law_other, defScope s_law_other, [], []⟩
def d_law_pair_right : He.DefD := ⟨("_law_pair_right", none), "_law_pair_right", "_law_pair_right", defArgs s_law_pair_right, defBody s_law_pair_right, defScope s_law_pair_right, [], []⟩
def d_law : He.DefD := ⟨("law", none), "law", "law", defArgs s_law, defBody s_law, defScope s_law, [], []⟩
def fn : List He.DefD := [d_gives, d_row_text, d_ChangeX_initX, d_ChangeX_eqX, d_ChangeX_lenX, d_ChangeX_strX, d_law_bag, d_law_stirred, d_law_draw, d_law_alike, d_law_signs, d_law_text, d_law_row, d_law_rows, d_law_size, d_law_truth, d_law_gives, d_law_unlike_all, d_law_row_bent, d_law_split, d_law_other, d_law_pair_right, d_law]
def fa : List He.Fa := [.free "abs", .free "all", .free "bool", .free "int", .free "isinstance", .free "len", .free "list", .free "min", .free "range", .free "str", .free "sum", .free "tuple", .int "MOST" 400, .glo "gives", .glo "row_text", .glo "_law_bag", .glo "_law_stirred", .glo "_law_draw", .glo "_law_alike", .glo "_law_signs", .glo "_law_text", .glo "_law_row", .glo "_law_rows", .glo "_law_size", .glo "_law_truth", .glo "_law_gives", .glo "_law_unlike_all", .glo "_law_row_bent", .glo "_law_split", .glo "_law_other", .glo "_law_pair_right", .glo "law", .glo "Change", .cls "Change", .mkr "Change", .noat "Change" "size", .noat "Change" "rows", .meth "Change" "__eq__", .meth "Change" "__len__", .meth "Change" "__str__"]
abbrev RR : PySem.W.OpenRow := PySem.W.OpenLaw.row PySem.Challenge.rw_remadehere_k03_equal_and_long
def exB (K : PySem.W.Frag) : Bool := (insB K "Change" && (neB K "Change" && (strB K "Change" && (kinB K "Change" && (boB K "Change" && true)))))
abbrev hk : PySem.W.Hook := hookE 4 fa fn exB
def ob (s : PySem.W.SharedT) : He.AlD × Bool := obsEG 4 fa fn exB (HandSHeadRun.getT s)
theorem ob_eq (s : PySem.W.SharedT) : ob s = hk.obs s.abs := obsEG_eq (HandSHeadRun.getT_eq s)
theorem run (w : World) : HandSHeadRun.RunEq RR (PySem.W.view RR.prog [27]) hk ob 3000 ["_wall", "BadRow", "BadSize", "MOST", "gives", "row_text", "Change", "_law_bag", "_law_stirred", "_law_draw", "_law_whole", "_law_alike", "_law_signs", "_law_text", "_law_row", "_law_rows", "_law_size", "_law_row_bent", "_law_split", "_law_other", "_law_gives", "_law_truth", "_law_unlike_all", "_law_pair_right"] w := by
  intro os
  kernel_rfl
def FactsP : Prop := ∀ (P : Program) (w : World) (K : PySem.W.Frag) (mg : Str → Option Value) (h : Heap) (f : Addr), K.In h → h.Ns mainGlobals mg → mg ("law" : Str) = some (.ref f) → He.SaysD fa fn K → exB K = true → ∃ fd : FuncData, (∀ (s : Shared) (v : Value), BindsTo s fd ⟨[v], []⟩ [("script", v)]) ∧ ∀ base : Heap, K.In base → base.Ns mainGlobals mg → FnOk P w K mg base CX0 12 f fd ["script"] (S1 (φlaw K))
end Z
section
open PySem PySem.W PySem.Calls PyProof.Rows
theorem Z.close (HF : Z.FactsP) : PySem.Challenge.rw_remadehere_k03_equal_and_long.Holds := by
  w_on; o_law
  refine HandSHeadRun.head_any (r := OpenLaw.row PySem.Challenge.rw_remadehere_k03_equal_and_long) (q := view (OpenLaw.row PySem.Challenge.rw_remadehere_k03_equal_and_long).prog [27]) (H := Z.hk) (ob := Z.ob) (M := 3000) (loose := ["_wall", "BadRow", "BadSize", "MOST", "gives", "row_text", "Change", "_law_bag", "_law_stirred", "_law_draw", "_law_whole", "_law_alike", "_law_signs", "_law_text", "_law_row", "_law_rows", "_law_size", "_law_row_bent", "_law_split", "_law_other", "_law_gives", "_law_truth", "_law_unlike_all", "_law_pair_right"]) (d := HandSHeadRun.topDef (OpenLaw.row PySem.Challenge.rw_remadehere_k03_equal_and_long).prog 27) (kwd := []) Z.ob_eq
    (by kernel_rfl) (fun s => by kernel_rfl) Z.run (by kernel_rfl) (by kernel_rfl) (by kernel_rfl) (by rfl) (by first | assumption | decide +kernel) (by decide +kernel) ⟨rfl, rfl, rfl, rfl, rfl, by decide +kernel⟩ ?hw ?hc
  case hw => w_witness2
  case hc =>
    refine L2.walk_ofE (l := PySem.Challenge.rw_remadehere_k03_equal_and_long) (n := 63) (k := 12) (x := "script") (CX := L2.CX0) rfl (by decide) (by kernel_rfl) ⟨rfl, by decide, by decide⟩ ?F (fun _ _ _ _ z => z)
    intro w mg fa h Y G hmg0
    obtain ⟨K, KX, c, ex⟩ := Y
    have hmg : mg ("law" : PySem.Str) = some (.ref fa) := by
      have e : (HandSHeadRun.topDef (OpenLaw.row PySem.Challenge.rw_remadehere_k03_equal_and_long).prog 27).name = ("law" : PySem.Str) := by kernel_rfl
      rw [← e]
      exact hmg0
    obtain ⟨fd, hb, hF⟩ := HF _ w K mg _ fa KX G hmg c ex
    exact ⟨K, fd, (R.S1 (R.φlaw K)), KX, hb, fun H a ns hl hO hS => R.law_start a ns hl hO hS, hF⟩
end
namespace Z
open PySem PySem.Spec PyProof.Rows L2 R
local macro_rules | `(tactic| walk_at "osq") => `(tactic| first
  | assumption
  | exact sqL_of upd_same
  | exact sqL_of (by assumption)
  | exact sqL_same (by assumption) (by assumption)
  | exact Mu.sq (by assumption)
  | exact sqL_same (Gr.ws (by assumption)) (by assumption)
  | exact sqL_same (Gr.fh (by assumption)) (by assumption))
local macro_rules | `(tactic| walk_at "ost") => `(tactic| first
  | assumption
  | exact sqT_of upd_same
  | exact sqT_of (by assumption)
  | exact sqT_same (by assumption) (by assumption)
  | exact sqT_same (Gr.ws (by assumption)) (by assumption)
  | exact sqT_same (Gr.fh (by assumption)) (by assumption))
local macro_rules | `(tactic| walk_at "owp") => `(tactic| dsimp only [wipe, List.map, List.set_cons_succ, List.set_cons_zero])
local macro_rules | `(tactic| walk_at "s1") => `(tactic| first
  | ((with_reducible refine w_mul ?c ?_); (case c => first | exact .inl ⟨by omega, by omega⟩ | exact .inr ⟨by omega, by omega⟩))
  | ((with_reducible refine w_mod ?c ?_); (case c => first | omega | decide))
  | ((with_reducible refine w_fdiv ?c ?_); (case c => exact divw_ok (by omega) (by omega)))
  | ((with_reducible refine w_pow ?c ?_); (case c => exact ⟨by omega, by omega, by omega⟩)))
local macro_rules | `(tactic| walk_at "os2") => `(tactic| first
  | ((with_reducible apply w_ixL _ _ ?c ?d); (case c => walk_at "osq"); (case d => rfl))
  | ((with_reducible apply w_lenQ _ ?c); (case c => walk_at "osq"))
  | ((with_reducible apply w_ixT _ _ ?c ?d); (case c => walk_at "ost"); (case d => rfl))
  | ((with_reducible apply w_lenS ?c); (case c => first | assumption | exact szle (by omega)))
  | ((with_reducible apply w_lenQT _ ?c); (case c => walk_at "ost"))
  | ((with_reducible apply w_tyL _ ?c); (case c => walk_at "osq")))
local macro_rules | `(tactic| walk_at "os3") => `(tactic| first
  | ((with_reducible apply w_b1 _ _ _ _ _ ?c); (case c => first | exact upd_same | assumption))
  | ((with_reducible apply w_b2 _ _ _ _ _ ?c); (case c => first | exact upd_same | assumption))
  | ((with_reducible apply w_b3 _ _ _ _ _ ?c); (case c => first | exact upd_same | assumption))
  | ((with_reducible apply w_b4 _ _ _ _ _ ?c); (case c => first | exact upd_same | assumption))
  | ((with_reducible apply w_setL _ _ ?c ?d); (case c => first | exact upd_same | assumption); (case d => rfl))
  | ((with_reducible apply w_app _ ?c ?d); (case c => first | exact upd_same | assumption | exact Mu.h (by assumption)); (case d => first | exact small_lt (by omega) | assumption))
  | ((with_reducible apply w_slL _ ?c); (case c => walk_at "osq"))
  | ((with_reducible apply w_listOf _ ?c); (case c => walk_at "osq")))
local macro_rules | `(tactic| walk_at "s6") => `(tactic| first
  | ((with_reducible refine w_iteF ?c ?_); (case c => decide +kernel))
  | ((with_reducible refine w_iteT ?c ?_); (case c => decide +kernel)))
local macro_rules | `(tactic| walk_at "og1") => `(tactic| first
  | refine goOS ?_
  | refine goOO ?_
  | ((refine sideI 2 ?_); walk_at "os2")
  | ((refine sideI 1 ?_); walk_at "s1")
  | ((refine sideI 3 ?_); walk_at "os3")
  | ((refine sideI 5 ?_); (with_reducible apply w_tgt _ ?c ?d); (case c => walk_at "ost"); (case d => rfl))
  | ((refine sideI 6 ?_); walk_at "s6"))
local macro_rules | `(tactic| walk_at "og") => `(tactic| repeat walk_at "og1")
local macro_rules | `(tactic| walk_at "memr") => `(tactic| first | with_reducible exact List.mem_cons_self .. | ((with_reducible refine List.mem_cons_of_mem _ ?_); walk_at "memr"))
local macro_rules | `(tactic| walk_at "memd") => `(tactic| first | exact List.mem_cons_self .. | ((with_reducible refine List.mem_cons_of_mem _ ?_); walk_at "memd"))
local macro_rules | `(tactic| walk_at "mem") => `(tactic| first | walk_at "memr" | walk_at "memd")
local macro_rules | `(tactic| walk_at "rm") => `(tactic| first | with_reducible exact Rm.here | ((with_reducible apply Rm.there); walk_at "rm"))
local macro_rules | `(tactic| walk_at "rmd") => `(tactic| first | exact Rm.here | ((with_reducible apply Rm.there); walk_at "rmd"))
local macro_rules | `(tactic| walk_at "pick") => `(tactic| first | with_reducible exact Pick.nil | ((with_reducible apply Pick.cons); (first | walk_at "rm" | walk_at "rmd"); walk_at "pick"))
local macro_rules | `(tactic| walk_at "pk") => `(tactic| exact ⟨_, by walk_at "pick"⟩)
local macro_rules | `(tactic| walk_at "app") => `(tactic| first | with_reducible exact App.nil | ((with_reducible apply App.cons); walk_at "app"))
local macro_rules | `(tactic| walk_at "w") => `(tactic| first | assumption | exact W.to (by assumption) (by walk_at "pick"))
local macro_rules | `(tactic| walk_at "lb") => `(tactic| first | assumption | omega | exact szle (by simp) | exact szle (by omega) | exact szle (by simp; omega) | exact small_lt (by omega) | exact small_lt (by simp; omega))
local macro_rules | `(tactic| walk_at "sq") => `(tactic| first
  | assumption
  | exact W.sqM (by assumption) (by walk_at "mem")
  | exact W.sqF (by assumption) (by walk_at "mem")
  | exact W.sqI (by assumption) (by walk_at "mem")
  | exact W.sq0 (by assumption) (by assumption))
local macro_rules | `(tactic| walk_at "st") => `(tactic| first
  | assumption
  | exact W.stF (by assumption) (by walk_at "mem")
  | exact W.stI (by assumption) (by walk_at "mem")
  | exact W.st0 (by assumption) (by assumption))
local macro_rules | `(tactic| walk_at "at") => `(tactic| first
  | assumption
  | exact W.at_ (by assumption) (by walk_at "mem")
  | exact W.fx (by assumption) (by walk_at "mem"))
local macro_rules | `(tactic| walk_at "wp") => `(tactic| dsimp only [wipe, List.map, List.set_cons_succ, List.set_cons_zero])
local macro_rules | `(tactic| walk_at "s2") => `(tactic| first
  | ((with_reducible apply w_ixL _ _ ?c ?d); (case c => walk_at "sq"); (case d => rfl))
  | ((with_reducible apply w_lenQ _ ?c); (case c => walk_at "sq"))
  | ((with_reducible apply w_ixT _ _ ?c ?d); (case c => walk_at "st"); (case d => rfl))
  | ((with_reducible apply w_lenS ?c); (case c => first | assumption | exact szle (by omega)))
  | ((with_reducible apply w_lenQT _ ?c); (case c => walk_at "st"))
  | ((with_reducible apply w_tyL _ ?c); (case c => walk_at "sq")))
local macro_rules | `(tactic| walk_at "s4") => `(tactic| first
  | ((with_reducible apply n_fld ?c ?d ?a ?b); (case c => walk_at "at"); (case d => rfl); (case a => assumption); (case b => assumption))
  | ((with_reducible apply n_meth ?c ?d); (case c => walk_at "at"); (case d => rfl))
  | ((with_reducible apply x_aug ?c ?_); (case c => rfl))
  | ((with_reducible apply n_il ?c ?_); (case c => walk_at "sq"))
  | ((with_reducible apply n_it ?c ?_); (case c => walk_at "st")))
local macro_rules | `(tactic| walk_at "s5") => `(tactic| first
  | ((with_reducible refine n_rng1 ?c ?d ?_); (case c => omega); (case d => omega))
  | ((with_reducible refine n_rng2 ?c ?d ?e ?f ?_); (case c => omega); (case d => omega); (case e => omega); (case f => omega))
  | ((with_reducible apply w_tgt _ ?c ?d); (case c => walk_at "st"); (case d => rfl))
  | ((with_reducible refine n_ipI ?_); (try dsimp only [List.set_cons_succ, List.set_cons_zero]))
  | ((with_reducible refine n_adds ?c ?_); (case c => first | exact szle (by decide +kernel) | exact szle (by omega))))
local macro_rules | `(tactic| walk_at "s7") => `(tactic| first
  | walk_at "s6"
  | ((with_reducible refine x_wp ?c ?_); (case c => rfl)))
local macro_rules | `(tactic| walk_at "go1") => `(tactic| first
  | refine goNS ?_
  | refine goNN ?_
  | ((refine sideI 2 ?_); walk_at "s2")
  | ((refine sideI 4 ?_); walk_at "s4")
  | ((refine sideI 5 ?_); walk_at "s5")
  | ((refine sideI 1 ?_); walk_at "s1")
  | ((refine sideI 6 ?_); walk_at "s7")
  | walk_at "wp")
local macro_rules | `(tactic| walk_at "go") => `(tactic| repeat walk_at "go1")
section
variable {P : Program} {w : World} {K : PySem.W.Frag} {mg : Str → Option Value} {base : Heap}
-- gives
theorem ok_gives {f : Addr} {fd : FuncData} (F : FunD K "gives" "gives" (defArgs s_gives) (defBody s_gives) (defScope s_gives) [] [] f fd) (T : Txt K mg)  : FnOk P w K mg base CX0 1 f fd ["row", "size"] (S2 (φgives K)) := by
  refine F.ok sc_gives (fun vs H Q E h => ?_) (fun cdv A outer s H vs Q E hr h => ?_)
  · exact S2.len h
  · match vs, h with
    | [v0, v1], h =>
    have hu := hu_of hr
    refine ⟨_, PSs.nox (pss_cons (ps_if (pt_cmpR op_eq (pe_ix (ixT (K := K)) (pv 0) pe_int (fun _ _ => rfl)) pe_str (nomark _)) (pss_one (ps_ret (pe_callB clLenS (by rfl) T.b_len (by decide +kernel) (pa_cons (pe_ix (ixT (K := K)) (pv 0) pe_int (fun _ _ => rfl)) pa_nil)))) pss_nil)
      (pss_cons (ps_if (PW.pt (pw_or (pt_cmpR op_lt (pe_ix (ixT (K := K)) (pv 0) pe_int (fun _ _ => rfl)) pe_int (nomark _)) (pw_or (pt_cmpR op_lt (pe_ix (ixT (K := K)) (pv 0) pe_int (fun _ _ => rfl)) pe_int (nomark _)) (pw_or1 (pt_cmpR op_gt (pe_op op_add (pe_ix (ixT (K := K)) (pv 0) pe_int (fun _ _ => rfl)) (pe_ix (ixT (K := K)) (pv 0) pe_int (fun _ _ => rfl))) (pv 1) (nomark _)))))) (pss_one (ps_ret pe_int)) pss_nil)
      (pss_one (ps_ret (pe_ix (ixT (K := K)) (pv 0) pe_int (fun _ _ => rfl)))))), ?_⟩
    rw [show start ["row", "size"] [v0, v1] = [some v0, some v1] from rfl]
    obtain ⟨F, r, n, rfl, hw, hx, hok, q⟩ := h
    have w := W.start (M := []) hw
    cases r with
    | put s =>
      obtain ⟨a, rfl, hT⟩ := dp_cput hx
      have hl := hok.s.2
      walk_at "go"
      exact q _ _ w
    | copy a k =>
      obtain ⟨p, rfl, hT⟩ := dp_ccopy hx
      have hp : 1 ≤ k := hok.p
      have hh : a + k ≤ n := hok.h
      walk_at "go"
      refine w_iteF (by omega) ?_
      walk_at "go"
      refine w_iteF (by omega) ?_
      walk_at "go"
      refine w_iteF (by omega) ?_
      walk_at "go"
      exact q _ _ w
-- row_text
theorem ok_row_text {f : Addr} {fd : FuncData} (F : FunD K "row_text" "row_text" (defArgs s_row_text) (defBody s_row_text) (defScope s_row_text) [] [] f fd) (T : Txt K mg)  : FnOk P w K mg base CX0 1 f fd ["row"] (S1 (φrowtext K)) := by
  refine F.ok sc_row_text (fun vs H Q E h => ?_) (fun cdv A outer s H vs Q E hr h => ?_)
  · exact S1.len h
  · match vs, h with
    | [v0], h =>
    have hu := hu_of hr
    refine ⟨_, PSs.nox (pss_cons (ps_if (pt_cmpR op_eq (pe_ix (ixT (K := K)) (pv 0) pe_int (fun _ _ => rfl)) pe_str (nomark _)) (pss_one (ps_ret (pe_op opAddS pe_str (pe_ix (ixT (K := K)) (pv 0) pe_int (fun _ _ => rfl))))) pss_nil)
      (pss_one (ps_ret (pe_joined (.cons pe_str (.cons (pe_fmt (pe_ix (ixT (K := K)) (pv 0) pe_int (fun _ _ => rfl))) (.cons pe_str (.cons (pe_fmt (pe_ix (ixT (K := K)) (pv 0) pe_int (fun _ _ => rfl))) .nil)))))))), ?_⟩
    rw [show start ["row"] [v0] = [some v0] from rfl]
    obtain ⟨F, r, n, hw, hx, hok, hn, q⟩ := h
    have w := W.start (M := []) hw
    cases r with
    | put s =>
      obtain ⟨a, rfl, hT⟩ := dp_cput hx
      have hl := hok.s.2
      walk_at "go"
      refine n_adds (szle (by show 4 + s.length ≤ 1000000; omega)) ?_
      exact q _ _ _ (by walk_at "w") (by rw [cd_app]; rfl)
    | copy a k =>
      obtain ⟨p, rfl, hT⟩ := dp_ccopy hx
      have hp : 1 ≤ k := hok.p
      have hh : a + k ≤ n := hok.h
      have na := num_ok (n := a) (by omega)
      have nk := num_ok (n := k) (by omega)
      have la := na.2
      have lk := nk.2
      walk_at "go"
      refine n_js (szle (by rw [len_app, slen_e, slen_copy]; decide)) ?_
      walk_at "go"
      refine n_fmtI (num_log (by omega)) ?_
      refine n_js (y := numS a) (szle (by rw [len_app, len_app, slen_e, slen_copy]; omega)) ?_
      walk_at "go"
      refine n_js (szle (by rw [len_app, len_app, len_app, slen_e, slen_copy, slen_sp]; omega)) ?_
      walk_at "go"
      refine n_fmtI (num_log (by omega)) ?_
      refine n_js (y := numS k) (szle (by rw [len_app, len_app, len_app, len_app, slen_e, slen_copy, slen_sp]; omega)) ?_
      walk_at "go"
      exact q _ _ _ (by walk_at "w") (by rw [cd_app, cd_app, cd_app, cd_app, cd_e]; rfl)
-- Change.__init__
theorem ok_ChangeX_initX {f : Addr} {fd : FuncData} (F : FunD K "__init__" "Change.__init__" (defArgs s_ChangeX_initX) (defBody s_ChangeX_initX) (defScope s_ChangeX_initX) [] [] f fd) (T : Txt K mg) (D_gives : DO P w K mg base 1 "gives" ["row", "size"] [] (S2 (φgives K))) : FnOk P w K mg base CX0 2 f fd ["self", "size", "rows"] (S3 (φinit K)) := by
  refine F.ok sc_ChangeX_initX (fun vs H Q E h => ?_) (fun cdv A outer s H vs Q E hr h => ?_)
  · exact S3.len h
  · match vs, h with
    | [v0, v1, v2], h =>
    have hu := hu_of hr
    refine ⟨_, PSs.nox (pss_cons (ps_if (PW.pt (pw_or (pt_cmpR op_lt (pv 1) pe_int (nomark _)) (pw_or1 (pt_cmpR op_gt (pv 1) (pe_gint (by rfl) T.c_MOST) (nomark _))))) (pss_one ps_never) pss_nil)
      (pss_cons (ps_set (i := 3) sc_ChangeX_initX.nd rfl (.inl rfl) pe_int)
      (pss_cons (ps_for PassesOwn.never rfl (pi_range1 rfl T.b_range (pa_cons (pe_callB (clLenQ (K := K)) (by rfl) T.b_len (by decide +kernel) (pa_cons (pv 2) pa_nil)) pa_nil)) (pg_name (i := 4) sc_ChangeX_initX.nd rfl (.inl rfl)) (pss_cons (ps_set (i := 5) sc_ChangeX_initX.nd rfl (.inl rfl) (pcall D_gives hr (pa_cons (pe_ix (ixL (K := K)) (pv 2) (pv 4) (fun _ _ => rfl)) (pa_cons (pv 1) pa_nil))))
      (pss_cons (ps_set (i := 3) sc_ChangeX_initX.nd rfl (.inl rfl) (pe_op op_add (pv 3) (pv 5)))
      (pss_one (ps_if (PW.pt (pw_or (pt_cmpR op_eq (pv 5) pe_int (nomark _)) (pw_or1 (pt_cmpR op_gt (pv 3) (pe_gint (by rfl) T.c_MOST) (nomark _))))) (pss_one ps_never) pss_nil)))))
      (pss_cons (psFld (K := K) (pv 0) (pv 1) rfl)
      (pss_one (psFld (K := K) (pv 0) (pe_callTy (clListOf (K := K)) (by rfl) T.b_list (by decide +kernel) (pa_cons (pv 2) pa_nil)) rfl)))))), ?_⟩
    rw [show start ["self", "size", "rows", "many", "k", "more"] [v0, v1, v2] = [some v0, some v1, some v2, none, none, none] from rfl]
    have kC := T.k_Change
    have kS := T.na_Change_size
    have kR := T.na_Change_rows
    
    obtain ⟨F, c, dx, a, vs, n, rows, rfl, rfl, rfl, s0, hS, hD, hn, hok, q⟩ := h
    have w := s0.w (M := [c])
    have hrl := hok.len
    have hvl : vs.length = rows.length := by rw [dpa_len hD, List.length_map]
    obtain ⟨tM, eM⟩ := T.c_MOST
    walk_at "go"
    refine w_iteF (by omega) ?_
    walk_at "go"
    refine w_iteF (by omega) ?_
    walk_at "go"
    refine n_forR w (fun i σ L => ∃ y4 y5, σ = [some (.ref c), some (.int (n : Nat)), some (.ref a), some (.int ((givesL (rows.take i) : Nat) : Int)), y4, y5] ∧ L = [mu c (.ins (He.ga K "Change") dx [])]) ⟨none, none, rfl, rfl⟩ (fun i σ L F' H' hi hp w => ?_) (fun σ L F' H' hp w => ?_)
    · obtain ⟨y4, y5, rfl, rfl⟩ := hp
      have hi2 : i < vs.length := by omega
      obtain ⟨r, hr, dr⟩ := dpa_at hD (getD_of hi2)
      have ro := hok.ok r (List.mem_of_getElem? hr)
      have g1 := gives_take hr
      have g2 := gives_le rows (i + 1)
      have g3 := hok.sum
      have g4 := ro.p
      walk_at "go"
      refine w_ixL _ _ (by walk_at "sq") (atI_nat (getD_of hi2)) ?_
      walk_at "go"
      refine ⟨F', r, n, rfl, w.fh, w.dp0 dr, ro, fun F2 H2 w2 => ?_⟩
      replace w := w.cal .nil w2 (by walk_at "app")
      walk_at "go"
      refine w_iteF (by omega) ?_
      walk_at "go"
      refine w_iteF (by omega) ?_
      walk_at "go"
      exact nx_mk w ⟨_, _, by rw [g1]; rfl, rfl⟩ (by walk_at "pk")
    · obtain ⟨y4, y5, rfl, rfl⟩ := hp
      walk_at "go"
      refine n_sfld w (by walk_at "pick") kC kS (by show (0 : Nat) < 1000; decide) fun H2 w => ?_
      walk_at "go"
      refine n_listOf w (by walk_at "sq") fun r F3 H3 w hr => ?_
      walk_at "go"
      refine n_sfld w (by walk_at "pick") kC kR (by show (1 : Nat) < 1000; decide) fun H4 w => ?_
      exact q r F3 H4 hr (by walk_at "w")
-- Change.__eq__
theorem ok_ChangeX_eqX {f : Addr} {fd : FuncData} (F : FunD K "__eq__" "Change.__eq__" (defArgs s_ChangeX_eqX) (defBody s_ChangeX_eqX) (defScope s_ChangeX_eqX) [] [] f fd) (T : Txt K mg)  : FnOk P w K mg base CX0 6 f fd ["self", "other"] (S2 (φceqX K)) := by
  refine F.ok sc_ChangeX_eqX (fun vs H Q E h => ?_) (fun cdv A outer s H vs Q E hr h => ?_)
  · exact S2.len h
  · match vs, h with
    | [v0, v1], h =>
    have hu := hu_of hr
    refine ⟨_, PSs.nox (pss_one (ps_ret (pe_and (pe_callB (clIsA T.i_Change T.kn_Change) (by rfl) T.b_isinstance (by decide +kernel) (pa_cons (pv 1) (pa_cons (C8.pe_gc (v := .ref (He.ga K "Change")) (by rfl) ⟨_, T.g_Change, rfl⟩) pa_nil))) (pe_and (pe_cmpR op_eq (peFld (K := K) (pv 0)) (peFld (K := K) (pv 1)) (nomark _)) (pe_one (pe_cmpR (opEqD (K := K) hr.units) (peFld (K := K) (pv 0)) (peFld (K := K) (pv 1)) (nomark _))))))), ?_⟩
    rw [show start ["self", "other"] [v0, v1] = [some v0, some v1] from rfl]
    have kC := T.k_Change
    have kS := T.na_Change_size
    have kR := T.na_Change_rows
    
    have kC := T.k_Change
    have kS := T.na_Change_size
    have kR := T.na_Change_rows
    
    obtain ⟨F, n, rows, hw, hC1, hok, h⟩ := h
    obtain ⟨c1, dx1, r1, vs1, rfl, hc1, hr1, hD1⟩ := hC1
    have gok := crows_good (fun m hm => (hok.ok m hm).s) (show rows.length ≤ 100000 by have := hok.len; omega)
    rcases h with ⟨n2, rows2, b, hC2, hok2, hb, q⟩ | ⟨hk, q⟩
    · obtain ⟨c2, dx2, r2, vs2, rfl, hc2, hr2, hD2⟩ := hC2
      have gok2 := crows_good (fun m hm => (hok2.ok m hm).s) (show rows2.length ≤ 100000 by have := hok2.len; omega)
      have w := ((((W.start (M := []) hw).push (fx c1 _) hc1).push (fx r1 (.lst vs1)) hr1).push (fx c2 _) hc2).push (fx r2 (.lst vs2)) hr2
      unfold insC at w
      walk_at "go"
      refine ⟨_, rfl, .inl ⟨_, _, _, rfl, by walk_at "at", ?_⟩⟩
      walk_at "go"
      by_cases hn : n = n2
      · rw [decide_eq_true (show ((n : Nat) : Int) = ((n2 : Nat) : Int) by omega)]
        walk_at "go"
        refine ⟨.list (rows.map CRow.d), .list (rows2.map CRow.d), .lst (by walk_at "sq") (dpa_same w.fh _ _ hD1), .lst (by walk_at "sq") (dpa_same w.fh _ _ hD2), good_shaped gok.1 (Nat.le_trans gok.2 (by decide)), good_shaped gok2.1 (Nat.le_trans gok2.2 (by decide)), ?_⟩
        have eb : PyData.eqv (.list (rows.map CRow.d)) (.list (rows2.map CRow.d)) = b := by
          refine Bool.eq_iff_iff.mpr ((crows_eqv rows rows2).trans ?_)
          rw [hb]
          exact ⟨fun e => ⟨hn, e⟩, fun e => e.2⟩
        rw [eb]
        exact q _ _ (by walk_at "w")
      · rw [decide_eq_false (show ¬ ((n : Nat) : Int) = ((n2 : Nat) : Int) by omega)]
        walk_at "go"
        have eb : b = false := Bool.eq_false_iff.mpr fun z => hn (hb.mp z).1
        rw [eb] at q
        exact q _ _ (by walk_at "w")
    · have w := ((W.start (M := []) hw).push (fx c1 _) hc1)
      unfold insC at w
      walk_at "go"
      refine ⟨_, rfl, .inr ⟨hk.same w.fh, ?_⟩⟩
      walk_at "go"
      exact q _ _ (by walk_at "w")
-- Change.__len__
theorem ok_ChangeX_lenX {f : Addr} {fd : FuncData} (F : FunD K "__len__" "Change.__len__" (defArgs s_ChangeX_lenX) (defBody s_ChangeX_lenX) (defScope s_ChangeX_lenX) [] [] f fd) (T : Txt K mg)  : FnOk P w K mg base CX0 1 f fd ["self"] (S1 (φclen K)) := by
  refine F.ok sc_ChangeX_lenX (fun vs H Q E h => ?_) (fun cdv A outer s H vs Q E hr h => ?_)
  · exact S1.len h
  · match vs, h with
    | [v0], h =>
    have hu := hu_of hr
    refine ⟨_, PSs.nox (pss_one (ps_ret (pe_callB (clLenQ (K := K)) (by rfl) T.b_len (by decide +kernel) (pa_cons (peFld (K := K) (pv 0)) pa_nil)))), ?_⟩
    rw [show start ["self"] [v0] = [some v0] from rfl]
    have kC := T.k_Change
    have kS := T.na_Change_size
    have kR := T.na_Change_rows
    
    obtain ⟨F, n, rows, hw, hC, hl, q⟩ := h
    obtain ⟨c, dx, r, vs, rfl, hc, hr, hD⟩ := hC
    have w := ((W.start (M := []) hw).push (fx c _) hc).push (fx r (.lst vs)) hr
    unfold insC at w
    walk_at "go"
    rw [show (vs.length : Nat) = rows.length by rw [dpa_len hD, List.length_map]]
    exact q _ _ (by walk_at "w")
-- Change.__str__
theorem ok_ChangeX_strX {f : Addr} {fd : FuncData} (F : FunD K "__str__" "Change.__str__" (defArgs s_ChangeX_strX) (defBody s_ChangeX_strX) (defScope s_ChangeX_strX) [] [] f fd) (T : Txt K mg) (D_row_text : DO P w K mg base 1 "row_text" ["row"] [] (S1 (φrowtext K))) : FnOk P w K mg base CX0 2 f fd ["self"] (S1 (φstr K)) := by
  refine F.ok sc_ChangeX_strX (fun vs H Q E h => ?_) (fun cdv A outer s H vs Q E hr h => ?_)
  · exact S1.len h
  · match vs, h with
    | [v0], h =>
    have hu := hu_of hr
    refine ⟨_, PSs.nox (pss_one (ps_ret (peJoin (K := K) pe_str (pe_op op_cat (pe_lst (pa_cons (pe_joined (.cons pe_str (.cons (pe_fmt (peFld (K := K) (pv 0))) .nil))) pa_nil)) (pe_lc (own := [("row", 1)]) (g := gName 1) rfl sc_ChangeX_strX.nd (pi_list (peFld (K := K) (pv 0))) (blkOk_by (own := [("row", 1)]) (N := ["self", "row"]) (sc := defScope s_ChangeX_strX) (by decide +kernel)) (fun _ _ _ _ _ => pg_name (i := 1) sc_ChangeX_strX.nd rfl (Or.inl rfl)) (fun _ _ _ _ _ => pts_nil) (fun _ _ _ _ _ => (pcall D_row_text hr (pa_cons (pv 1) pa_nil)))))))), ?_⟩
    rw [show start ["self", "row"] [v0] = [some v0, none] from rfl]
    have kC := T.k_Change
    have kS := T.na_Change_size
    have kR := T.na_Change_rows
    
    obtain ⟨F, n, rows, hw, hC, hok, hn, q⟩ := h
    obtain ⟨c, dx, r, vs, rfl, hc, hr', hD⟩ := hC
    have w := (((W.start (M := []) hw).push (fx c _) hc).push (fx r (.lst vs)) hr').push (dpa K vs (rows.map CRow.d)) hD
    unfold insC at w
    have hrl := hok.len
    have hvl : vs.length = rows.length := by rw [dpa_len hD, List.length_map]
    have nn := num_ok hn
    have ln := nn.2
    walk_at "go"
    refine n_js (szle (by rw [len_app, slen_e, slen_size]; decide)) ?_
    walk_at "go"
    refine n_fmtI (num_log hn) ?_
    refine n_js (y := numS n) (szle (by rw [len_app, len_app, slen_e, slen_size]; omega)) ?_
    walk_at "go"
    refine n_lst w (szle (by simp)) fun p1 F1 H1 w hp1 => ?_
    walk_at "go"
    refine n_lcL vs w (fun i ys L => ∃ ts : List Str, ys = ts.map V.str ∧ ts.map cd = (rows.take i).map rowW ∧ L = [mu p1 (.lst [V.str (Str.empty ++ Str.ofString "size " ++ numS n)]), fx r (.lst vs), dpa K vs (rows.map CRow.d)]) ⟨[], rfl, rfl, rfl⟩ (fun i ys L F' H' D hp w => ?_) (fun i x ys L F' H' D hx hp w hDn => ?_) (fun D ys L F' H' hp w hDn => ?_)
    · obtain ⟨ts, rfl, ht, rfl⟩ := hp
      walk_at "sq"
    · obtain ⟨ts, rfl, ht, rfl⟩ := hp
      obtain ⟨m, hm, dm⟩ := dpa_at (w.dpa (K := K) (xs := vs) (ds := rows.map CRow.d) (by walk_at "mem")) hx
      have hi := (List.getElem?_eq_some_iff.mp hm).1
      have lt : ts.length = i := by
        have := congrArg List.length ht
        rw [List.length_map, List.length_map, List.length_take] at this
        omega
      walk_at "wp"
      walk_at "go"
      refine ⟨_, m, n, w.fh, dm, hok.ok m (List.mem_of_getElem? hm), hn, fun s F5 H5 w5 hs => ?_⟩
      replace w := w.cal .nil w5 (by walk_at "app")
      refine n_acc _ w ⟨ts ++ [s], by rw [List.map_append]; rfl, ?_, rfl⟩ (by walk_at "pk") (small_lt (by rw [List.length_map]; omega))
      rw [List.map_append, ht, List.take_add_one, hm, List.map_append, List.map_cons, hs]
      rfl
    · obtain ⟨ts, rfl, ht, rfl⟩ := hp
      rw [hvl, List.take_length] at ht
      have lt : ts.length = rows.length := by
        have := congrArg List.length ht
        rwa [List.length_map, List.length_map] at this
      walk_at "go"
      refine n_cat w (by walk_at "at") (by walk_at "at") (szle (by rw [List.length_map]; show 1 + _ ≤ _; omega)) fun p4 F6 H6 w hp4 => ?_
      walk_at "go"
      refine ⟨_, p4, (Str.empty ++ Str.ofString "size " ++ numS n) :: ts, rfl, rfl, .inl (by walk_at "sq"), ?_, ?_⟩
      · have hb : ∀ t ∈ (Str.empty ++ Str.ofString "size " ++ numS n) :: ts, t.length ≤ 1000 := by
          intro t ht2
          rcases List.mem_cons.mp ht2 with rfl | ht2
          · rw [len_app, len_app, slen_e, slen_size]
            omega
          · have hm2 : cd t ∈ rows.map rowW := by rw [← ht]; exact List.mem_map.mpr ⟨t, ht2, rfl⟩
            obtain ⟨m, hm, e⟩ := List.mem_map.mp hm2
            have h1 := row_len (hok.ok m hm) hn
            have h2 := row_le hm
            have h3 := hok.sum
            rw [← cd_len, ← e]
            omega
        have hs := sum_leW hb
        rw [slen_nl]
        rw [List.length_cons] at hs ⊢
        omega
      · refine q _ _ _ (by walk_at "w") ?_
        rw [join_nl, ht, cd_app, cd_app, cd_e]
        show _ ++ ((rows.map rowW).flatMap fun c => 10 :: c) = _
        rw [List.flatMap_map]
        rfl
-- _law_bag
theorem ok_law_bag {f : Addr} {fd : FuncData} (F : FunD K "_law_bag" "_law_bag" (defArgs s_law_bag) (defBody s_law_bag) (defScope s_law_bag) [] [] f fd) (T : Txt K mg)  : FnOk P w K mg base CX0 1 f fd ["script"] (S1 (φbag K)) := by
  refine F.ok sc_law_bag (fun vs H Q E h => ?_) (fun cdv A outer s H vs Q E hr h => ?_)
  · exact S1.len h
  · match vs, h with
    | [v0], h =>
    have hu := hu_of hr
    refine ⟨_, PSs.nox (pss_cons (ps_set (i := 1) sc_law_bag.nd rfl (.inl rfl) pe_int)
      (pss_cons (ps_for PassesOwn.never rfl (pi_list (pe_slice (slL (K := K)) (pv 0) po_none (po_some pe_int))) (pg_name (i := 2) sc_law_bag.nd rfl (.inl rfl)) (pss_one (ps_set (i := 1) sc_law_bag.nd rfl (.inl rfl) (pe_op op_mod (pe_op op_add (pe_op op_add (pe_op op_mul (pv 1) pe_int) (pe_op op_mod (pv 2) pe_int)) pe_int) pe_int))))
      (pss_one (ps_ret (pe_lst (pa_cons (pe_lc (own := [("cell", 2)]) (g := gName 2) rfl sc_law_bag.nd (pi_list (pe_slice (slL (K := K)) (pv 0) po_none (po_some pe_int))) (blkOk_by (own := [("cell", 2)]) (N := ["script", "stir", "cell"]) (sc := defScope s_law_bag) (by decide +kernel)) (fun _ _ _ _ _ => pg_name (i := 2) sc_law_bag.nd rfl (Or.inl rfl)) (fun _ _ _ _ _ => pts_nil) (fun _ _ _ _ _ => (pe_op op_mod (pe_callB clAbs (by rfl) T.b_abs (by decide +kernel) (pa_cons (pv 2) pa_nil)) (pe_op op_pow pe_int pe_int)))) (pa_cons pe_int (pa_cons pe_int (pa_cons (pv 1) (pa_cons pe_int pa_nil)))))))))), ?_⟩
    rw [show start ["script", "stir", "cell"] [v0] = [some v0, none, none] from rfl]
    obtain ⟨a, ns, rfl, hS, hl, q⟩ := h
    walk_at "og"
    intro l nl
    rw [cut63 hl]
    refine ⟨l, rfl, ⟨_, sqL_of upd_same⟩, f_list (xs := ns.map V.int) (fun i σ H' => ∃ (st : Int) (y : Option V), σ = [some (.ref a), some (.int st), y] ∧ 0 ≤ st ∧ st < 2147483647 ∧ H' = upd H l (.lst (ns.map V.int))) ⟨19, none, rfl, by decide, by decide, rfl⟩ (fun i σ H' _ hp => ?_) (fun i x σ H' hx hp => ?_) (fun σ H' hp => ?_)⟩
    · obtain ⟨st, y, _, _, _, rfl⟩ := hp
      exact sqL_of upd_same
    · obtain ⟨st, y, rfl, s0, s1, rfl⟩ := hp
      obtain ⟨z, rfl⟩ := map_get hx
      walk_at "og"
      exact ⟨_, _, rfl, mod_nn (by decide), mod_lt (by decide), rfl⟩
    · obtain ⟨st, y, rfl, s0, s1, rfl⟩ := hp
      have hS2 : SqL K (upd H l (.lst (ns.map V.int))) a (ns.map V.int) := sqL_same (Same.new nl) hS
      walk_at "og"
      intro l2 nl2
      rw [cut63 hl]
      have g0 : Gr [] H H H (upd H l (.lst (ns.map V.int))) := .new (Same.refl H) nl
      have g1 := g0.add (o := .lst (ns.map V.int)) nl2
      refine ⟨l2, rfl, ⟨_, sqL_of upd_same⟩, fun D nD => ?_⟩
      have g2 := g1.addm (o := .lst []) nD
      refine lc_list (xs := ns.map V.int) (fun i H' => ∃ vs : List Int, Gr [] H H (upd H l2 (.lst (ns.map V.int))) H' ∧ Mu (upd H l2 (.lst (ns.map V.int))) H' D (.lst (vs.map V.int)) ∧ (∀ x ∈ vs, 0 ≤ x ∧ x < 10 ^ 60) ∧ vs.length = i) ⟨[], g2, Mu.new g1.fh nD, by simp, rfl⟩ (fun i H' _ hp => ?_) (fun i x H' hx hp => ?_) (fun H' hp => ?_)
      · obtain ⟨vs, g, _⟩ := hp
        exact sqL_same g.fh (sqL_of upd_same)
      · obtain ⟨vs, g, mu, hv, hn⟩ := hp
        obtain ⟨z, rfl⟩ := map_get hx
        have hi : i < ns.length := by
          have := (List.getElem?_eq_some_iff.mp hx).1
          rwa [List.length_map] at this
        show gName 2 _ [some (.ref a), some (.int st), none] H' _
        walk_at "og"
        refine ⟨rfl, ?_⟩
        walk_at "og"
        refine ⟨_, mu.h, small1000 (by rw [List.length_map]; omega), vs ++ [_], g.wrn mu.n (g1.fresh nD), by rw [List.map_append]; exact mu.wr, ?_, by simp [hn]⟩
        intro x hx
        rcases List.mem_append.mp hx with hx | hx
        · exact hv x hx
        · rw [List.mem_singleton.mp hx]
          exact ⟨mod_nn (by decide), mod_lt (by decide)⟩
      · obtain ⟨vs, g, mu, hv, hn⟩ := hp
        walk_at "og"
        refine ⟨le1000 (by simp), fun p np => ?_⟩
        have g5 := (g.frz (g1.fresh nD) mu).addm (o := .lst [.ref D, .int 0, .int 0, .int st, .int 0]) np
        refine q p _ _ g5 ⟨D, vs, 0, 0, st, 0, ?_, upd_same, sqL_of upd_same, by rw [hn, List.length_map]; exact hl, hv, by decide, by decide, by decide, s0, s1⟩
        have nF := g.fh.free np
        rw [upd_ne (mu.ne_new np).symm]
        exact nF
-- _law_stirred
theorem ok_law_stirred {f : Addr} {fd : FuncData} (F : FunD K "_law_stirred" "_law_stirred" (defArgs s_law_stirred) (defBody s_law_stirred) (defScope s_law_stirred) [] [] f fd) (T : Txt K mg)  : FnOk P w K mg base CX0 1 f fd ["bag", "many"] (S2 (φdraw K)) := by
  refine F.ok sc_law_stirred (fun vs H Q E h => ?_) (fun cdv A outer s H vs Q E hr h => ?_)
  · exact S2.len h
  · match vs, h with
    | [v0, v1], h =>
    have hu := hu_of hr
    refine ⟨_, PSs.nox (pss_cons (ps_set (i := 2) sc_law_stirred.nd rfl (.inl rfl) pe_int)
      (pss_cons (ps_for PassesOwn.never rfl (pi_range1 rfl T.b_range (pa_cons (pe_op op_add pe_int (pe_op op_fdivW (pe_bits (pv 1)) pe_int)) pa_nil)) (pg_name (i := 3) sc_law_stirred.nd rfl (.inl rfl)) (pss_cons (ps_asg (pe_op op_add (pe_ix (ixL (K := K)) (pv 0) pe_int (fun _ _ => rfl)) pe_int) (pg_sub (pv 0) pe_int set_list))
      (pss_cons (ps_asg (pe_op op_mod (pe_op op_add (pe_op op_add (pe_op op_add (pe_op op_pow (pe_ix (ixL (K := K)) (pv 0) pe_int (fun _ _ => rfl)) pe_int) (pe_op op_mul pe_int (pe_ix (ixL (K := K)) (pv 0) pe_int (fun _ _ => rfl)))) (pe_op op_mul pe_int (pe_ix (ixL (K := K)) (pv 0) pe_int (fun _ _ => rfl)))) pe_int) pe_int) (pg_sub (pv 0) pe_int set_list))
      (pss_one (ps_set (i := 2) sc_law_stirred.nd rfl (.inl rfl) (pe_op op_add (pe_op op_mul (pv 2) pe_int) (pe_op op_fdivW (pe_ix (ixL (K := K)) (pv 0) pe_int (fun _ _ => rfl)) pe_int)))))))
      (pss_one (ps_ret (pe_op op_mod (pv 2) (pv 1)))))), ?_⟩
    rw [show start ["bag", "many", "found", "k"] [v0, v1] = [some v0, some v1, none, none] from rfl]
    obtain ⟨b, m, F, rfl, rfl, hw, hb, h0, h1, q⟩ := h
    have hbits := bits_le h0 h1
    have hb0 : (0 : Int) ≤ (Builtin.Int.intBits m : Nat) := Int.natCast_nonneg _
    have hd0 : (0 : Int) ≤ (Builtin.Int.intBits m : Nat) / 27 := div_nn hb0 (by decide)
    have hd1 : (Builtin.Int.intBits m : Int) / 27 ≤ (Builtin.Int.intBits m : Nat) := div_le' hb0 (by decide)
    walk_at "og"
    refine ⟨_, rfl, by omega, by omega, f_range0 (fun i σ H' => ∃ (f : Int) (y : Option V) (F2 : Hp), σ = [some (.ref b), some (.int m), some (.int f), y] ∧ Gr [b] F H F2 H' ∧ Bag K F2 H' b) ⟨0, none, F, rfl, .refl hw, hb⟩ (fun i σ H' hi hp => ?_) (fun σ H' hp => ?_)⟩
    · obtain ⟨f, y, F2, rfl, g, hB⟩ := hp
      obtain ⟨c, cells, i1, cur, st, n, e1, e2, e3, e4, e5, e6, e7, e8, e9, e10⟩ := hB.ex
      walk_at "og"
      exact ⟨_, _, F2, rfl, (g.put e1 (by simp)).put e1 (by simp), ⟨c, cells, i1, cur, _, _, e1, upd_same, e3, e4, e5, e6, e7, e8, mod_nn (by decide), mod_lt (by decide)⟩⟩
    · obtain ⟨f, y, F2, rfl, g, hB⟩ := hp
      walk_at "og"
      exact q _ F2 H' g hB (mod_nn h0) (mod_lt h0)
-- _law_draw
theorem ok_law_draw {f : Addr} {fd : FuncData} (F : FunD K "_law_draw" "_law_draw" (defArgs s_law_draw) (defBody s_law_draw) (defScope s_law_draw) [] [] f fd) (T : Txt K mg) (D_law_stirred : DO P w K mg base 1 "_law_stirred" ["bag", "many"] [] (S2 (φdraw K))) : FnOk P w K mg base CX0 2 f fd ["bag", "many"] (S2 (φdraw K)) := by
  refine F.ok sc_law_draw (fun vs H Q E h => ?_) (fun cdv A outer s H vs Q E hr h => ?_)
  · exact S2.len h
  · match vs, h with
    | [v0, v1], h =>
    have hu := hu_of hr
    refine ⟨_, PSs.nox (pss_cons (ps_if (PW.pt (pw_and (pt_cmpR op_eq (pe_ix (ixL (K := K)) (pv 0) pe_int (fun _ _ => rfl)) pe_int (nomark _)) (pw_and1 (pt_cmpR op_lt (pe_ix (ixL (K := K)) (pv 0) pe_int (fun _ _ => rfl)) (pe_callB (clLenQ (K := K)) (by rfl) T.b_len (by decide +kernel) (pa_cons (pe_ix (ixL (K := K)) (pv 0) pe_int (fun _ _ => rfl)) pa_nil)) (nomark _))))) (pss_cons (ps_asg (pe_ix (ixL (K := K)) (pe_ix (ixL (K := K)) (pv 0) pe_int (fun _ _ => rfl)) (pe_ix (ixL (K := K)) (pv 0) pe_int (fun _ _ => rfl)) (fun _ _ => rfl)) (pg_sub (pv 0) pe_int set_list))
      (pss_one (ps_asg (pe_op op_add (pe_ix (ixL (K := K)) (pv 0) pe_int (fun _ _ => rfl)) pe_int) (pg_sub (pv 0) pe_int set_list)))) (pss_one (ps_if (pt_cmpR op_eq (pe_ix (ixL (K := K)) (pv 0) pe_int (fun _ _ => rfl)) pe_int (nomark _)) (pss_one (ps_ret (pcall D_law_stirred hr (pa_cons (pv 0) (pa_cons (pv 1) pa_nil))))) pss_nil)))
      (pss_cons (ps_set (i := 2) sc_law_draw.nd rfl (.inl rfl) (pe_op op_mod (pe_ix (ixL (K := K)) (pv 0) pe_int (fun _ _ => rfl)) (pv 1)))
      (pss_cons (ps_asg (pe_op op_fdivW (pe_ix (ixL (K := K)) (pv 0) pe_int (fun _ _ => rfl)) (pv 1)) (pg_sub (pv 0) pe_int set_list))
      (pss_one (ps_ret (pv 2)))))), ?_⟩
    rw [show start ["bag", "many", "found"] [v0, v1] = [some v0, some v1, none] from rfl]
    obtain ⟨b, m, F, rfl, rfl, hw, hb, h0, h1, q⟩ := h
    obtain ⟨c, cells, i1, cur, st, n, e1, e2, e3, e4, e5, e6, e7, e8, e9, e10⟩ := hb.ex
    have e3' := sqL_same hw e3
    have gr := Gr.refl (M := [b]) hw
    walk_at "og"
    refine w_ite (fun hc => ?_) (fun hc => ?_)
    · walk_at "og"
      refine w_ite (fun hd => ?_) (fun hd => ?_)
      · obtain ⟨x, hx, ex⟩ := cell_at e6 hd
        have bx := e5 x hx
        walk_at "og"
        refine w_ixL _ _ e3' ex ?_
        walk_at "og"
        exact q _ F _ (((gr.put e1 (by simp)).put e1 (by simp)).put e1 (by simp)) ⟨c, cells, i1 + 1, x / m, st, n, e1, upd_same, e3, e4, e5, by omega, div_nn bx.1 h0, Int.lt_of_le_of_lt (div_le' bx.1 h0) bx.2, e9, e10⟩ (mod_nn h0) (mod_lt h0)
      · walk_at "og"
        refine w_iteT hc ?_
        walk_at "og"
        exact ⟨b, m, F, rfl, rfl, hw, hb, h0, h1, q⟩
    · walk_at "og"
      refine w_iteF hc ?_
      walk_at "og"
      exact q _ F _ (gr.put e1 (by simp)) ⟨c, cells, i1, cur / m, st, n, e1, upd_same, e3, e4, e5, e6, div_nn e7 h0, Int.lt_of_le_of_lt (div_le' e7 h0) e8, e9, e10⟩ (mod_nn h0) (mod_lt h0)
-- _law_alike
theorem ok_law_alike {f : Addr} {fd : FuncData} (F : FunD K "_law_alike" "_law_alike" (defArgs s_law_alike) (defBody s_law_alike) (defScope s_law_alike) [] [] f fd) (T : Txt K mg) {n : Nat} (D_law_alike : DO P w K mg base n "_law_alike" ["found", "due"] [] (S2 (φalike K n))) : FnOk P w K mg base CX0 (n + 1) f fd ["found", "due"] (S2 (φalike K (n + 1))) := by
  refine F.ok sc_law_alike (fun vs H Q E h => ?_) (fun cdv A outer s H vs Q E hr h => ?_)
  · exact S2.len h
  · match vs, h with
    | [v0, v1], h =>
    have hu := hu_of hr
    refine ⟨_, PSs.nox (pss_cons (ps_if (pt_val (pe_callB (clIsiT (K := K)) (by rfl) T.b_isinstance (by decide +kernel) (pa_cons (pv 1) (pa_cons (pe_tup (pa_cons (pe_bltn (v := .ty "list") (by rfl) T.b_list (by decide +kernel) rfl) (pa_cons (pe_bltn (v := .ty "tuple") (by rfl) T.b_tuple (by decide +kernel) rfl) pa_nil))) pa_nil)))) (pss_cons (ps_if (PW.pt (pw_or (pt_not (pt_val (pe_callB (clIsiT (K := K)) (by rfl) T.b_isinstance (by decide +kernel) (pa_cons (pv 0) (pa_cons (pe_tup (pa_cons (pe_bltn (v := .ty "list") (by rfl) T.b_list (by decide +kernel) rfl) (pa_cons (pe_bltn (v := .ty "tuple") (by rfl) T.b_tuple (by decide +kernel) rfl) pa_nil))) pa_nil))))) (pw_or1 (pt_cmpR op_ne (pe_callB (clIsi (K := K)) (by rfl) T.b_isinstance (by decide +kernel) (pa_cons (pv 0) (pa_cons (pe_bltn (v := .ty "list") (by rfl) T.b_list (by decide +kernel) rfl) pa_nil))) (pe_callB (clIsi (K := K)) (by rfl) T.b_isinstance (by decide +kernel) (pa_cons (pv 1) (pa_cons (pe_bltn (v := .ty "list") (by rfl) T.b_list (by decide +kernel) rfl) pa_nil))) (nomark _))))) (pss_one (ps_ret pe_bl)) pss_nil)
      (pss_cons (ps_if (pt_cmpR op_ne (pe_callB (clLenQ (K := K)) (by rfl) T.b_len (by decide +kernel) (pa_cons (pv 0) pa_nil)) (pe_callB (clLenQ (K := K)) (by rfl) T.b_len (by decide +kernel) (pa_cons (pv 1) pa_nil)) (nomark _)) (pss_one (ps_ret pe_bl)) pss_nil)
      (pss_one (ps_ret (pe_callB (clAll (K := K)) (by rfl) T.b_all (by decide +kernel) (pa_cons (pe_lc (own := [("k", 2)]) (g := gName 2) rfl sc_law_alike.nd (pi_range1 rfl T.b_range (pa_cons (pe_callB (clLenQ (K := K)) (by rfl) T.b_len (by decide +kernel) (pa_cons (pv 1) pa_nil)) pa_nil)) (blkOk_by (own := [("k", 2)]) (N := ["found", "due", "k"]) (sc := defScope s_law_alike) (by decide +kernel)) (fun _ _ _ _ _ => pg_name (i := 2) sc_law_alike.nd rfl (Or.inl rfl)) (fun _ _ _ _ _ => pts_nil) (fun _ _ _ _ _ => (pcall D_law_alike hr (pa_cons (pe_ix (ixQ (K := K)) (pv 0) (pv 2) (fun _ _ => rfl)) (pa_cons (pe_ix (ixQ (K := K)) (pv 1) (pv 2) (fun _ _ => rfl)) pa_nil))))) pa_nil)))))) pss_nil)
      (pss_cons (ps_if (PW.pt (pw_or (pt_cmpR op_ne (pe_callB (clIsi (K := K)) (by rfl) T.b_isinstance (by decide +kernel) (pa_cons (pv 0) (pa_cons (pe_bltn (v := .ty "bool") (by rfl) T.b_bool (by decide +kernel) rfl) pa_nil))) (pe_callB (clIsi (K := K)) (by rfl) T.b_isinstance (by decide +kernel) (pa_cons (pv 1) (pa_cons (pe_bltn (v := .ty "bool") (by rfl) T.b_bool (by decide +kernel) rfl) pa_nil))) (nomark _)) (pw_or1 (pt_cmpR op_ne (pe_callB (clIsi (K := K)) (by rfl) T.b_isinstance (by decide +kernel) (pa_cons (pv 0) (pa_cons (pe_bltn (v := .ty "int") (by rfl) T.b_int (by decide +kernel) rfl) pa_nil))) (pe_callB (clIsi (K := K)) (by rfl) T.b_isinstance (by decide +kernel) (pa_cons (pv 1) (pa_cons (pe_bltn (v := .ty "int") (by rfl) T.b_int (by decide +kernel) rfl) pa_nil))) (nomark _))))) (pss_one (ps_ret pe_bl)) pss_nil)
      (pss_one (ps_ret (pe_and (pe_cmpR op_eq (pe_callB (clIsi (K := K)) (by rfl) T.b_isinstance (by decide +kernel) (pa_cons (pv 0) (pa_cons (pe_bltn (v := .ty "str") (by rfl) T.b_str (by decide +kernel) rfl) pa_nil))) (pe_callB (clIsi (K := K)) (by rfl) T.b_isinstance (by decide +kernel) (pa_cons (pv 1) (pa_cons (pe_bltn (v := .ty "str") (by rfl) T.b_str (by decide +kernel) rfl) pa_nil))) (nomark _)) (pe_one (pe_cmpR op_eq (pv 0) (pv 1) (nomark _)))))))), ?_⟩
    rw [show start ["found", "due", "k"] [v0, v1] = [some v0, some v1, none] from rfl]
    obtain ⟨F, d, hw, hx, hy, hn, hgd, q⟩ := h
    walk_at "og"
    refine ⟨le1000 (by simp), fun p np => ?_⟩
    have g1 : Gr [] F H F (upd H p (.tup [.ty "list", .ty "tuple"])) := .new hw np
    walk_at "og"
    refine u_isiT hy g1.fh upd_same (k_list d) (k_tuple d) ?_
    walk_at "og"
    cases hs : isSeq d with
    | false =>
      have e1 : isLst d = false := by cases d <;> first | rfl | cases hs
      have e2 : isTup d = false := by cases d <;> first | rfl | cases hs
      refine w_is (c := false) (by rw [e1, e2]; rfl) ?_
      obtain ⟨rfl, hsc⟩ := sca_of hx hy hs
      walk_at "og"
      refine u_isi hx g1.fh (k_bool d) ?_
      walk_at "og"
      refine u_isi hy g1.fh (k_bool d) ?_
      walk_at "og"
      refine u_isi hx g1.fh (k_int d) ?_
      walk_at "og"
      refine u_isi hy g1.fh (k_int d) ?_
      walk_at "og"
      refine u_isi hx g1.fh (k_str d) ?_
      walk_at "og"
      refine u_isi hy g1.fh (k_str d) ?_
      walk_at "og"
      refine ⟨hsc, ?_⟩
      rw [decide_eq_true rfl]
      exact q F _ g1
    | true =>
      refine w_is (c := true) (by cases d <;> first | rfl | cases hs) ?_
      obtain ⟨a, vs, rfl, ha, das⟩ := seq_of hx hs
      obtain ⟨b, us, rfl, hb, dbs⟩ := seq_of hy hs
      have hl : (itemsD d).length ≤ 100000 := good_len hgd
      walk_at "og"
      refine ⟨le1000 (by simp), fun p2 np2 => ?_⟩
      have g2 := g1.addm (o := .tup [.ty "list", .ty "tuple"]) np2
      walk_at "og"
      refine u_isiT hx g2.fh upd_same (k_list d) (k_tuple d) ?_
      walk_at "og"
      refine w_is (c := false) (by cases d <;> first | rfl | cases hs) ?_
      walk_at "og"
      refine u_isi hx g2.fh (k_list d) ?_
      walk_at "og"
      refine u_isi hy g2.fh (k_list d) ?_
      walk_at "og"
      refine ⟨a, vs, rfl, sq_same g2.fh ha, ?_⟩
      walk_at "og"
      refine ⟨b, us, rfl, sq_same g2.fh hb, ?_⟩
      walk_at "og"
      have el : vs.length = us.length := (dpa_len das).trans (dpa_len dbs).symm
      have lv : vs.length = (itemsD d).length := dpa_len das
      rw [el]
      refine w_nself ?_
      walk_at "og"
      refine ⟨b, us, rfl, sq_same g2.fh hb, ?_⟩
      walk_at "og"
      refine ⟨_, rfl, by omega, by omega, fun D nD => ?_⟩
      have g3 := g2.addm (o := .lst []) nD
      refine lc_rng (fun i H' => ∃ F2, Gr [] F H F2 H' ∧ Mu F2 H' D (.lst ((List.replicate i true).map V.bl))) ⟨F, g3, Mu.new g2.fh nD⟩ (fun i H' hi hp => ?_) (fun H' hp => ?_)
      · obtain ⟨F2, g, mu⟩ := hp
        have hi' : i < us.length := by omega
        have hid : (itemsD d)[i]? = some (itemsD d)[i] := List.getElem?_eq_getElem (by omega)
        obtain ⟨v, gv, dv⟩ := dpa_get das hid
        obtain ⟨u, gu, du⟩ := dpa_get dbs hid
        have hdep := depth_item hs hid
        show gName 2 _ [some (.ref a), some (.ref b), none] H' _
        walk_at "og"
        refine ⟨rfl, ?_⟩
        walk_at "og"
        have wF : Same F H' := g.ff.trans g.fh
        refine w_ixQ _ _ (sq_same wF ha) (atI_nat gv) ?_
        walk_at "og"
        refine w_ixQ _ _ (sq_same wF hb) (atI_nat gu) ?_
        walk_at "og"
        refine ⟨F2, _, g.fh, dp_same g.ff _ _ dv, dp_same g.ff _ _ du, by omega, good_item hgd hid, fun F3 H3 g3 => ?_⟩
        have mu3 := g3.mu0 mu
        refine ⟨_, mu3.h, small_lt (by rw [List.length_map, List.length_replicate]; omega), F3, (g.trans g3).wrn mu3.n (g2.fresh nD), ?_⟩
        rw [List.replicate_succ', List.map_append]
        exact mu3.wr
      · obtain ⟨F2, g, mu⟩ := hp
        walk_at "og"
        refine ⟨D, _, rfl, mu.sq, ?_⟩
        rw [all_rep]
        exact q F2 H' g
-- _law_signs
theorem ok_law_signs {f : Addr} {fd : FuncData} (F : FunD K "_law_signs" "_law_signs" (defArgs s_law_signs) (defBody s_law_signs) (defScope s_law_signs) [] [] f fd) (T : Txt K mg)  : FnOk P w K mg base CX0 1 f fd [] (S0 φsigns) := by
  refine F.ok sc_law_signs (fun vs H Q E h => ?_) (fun cdv A outer s H vs Q E hr h => ?_)
  · exact S0.len h
  · match vs, h with
    | [], h =>
    have hu := hu_of hr
    refine ⟨_, PSs.nox (pss_cons (ps_set (i := 0) sc_law_signs.nd rfl (.inl rfl) pe_str)
      (pss_one (ps_ret (pe_op opAddS (pv 0) pe_str)))), ?_⟩
    rw [show start ["some"] [] = [none] from rfl]
    have q : Q (.str sig93) H := h
    walk_at "go"
    exact q
-- _law_text
theorem ok_law_text {f : Addr} {fd : FuncData} (F : FunD K "_law_text" "_law_text" (defArgs s_law_text) (defBody s_law_text) (defScope s_law_text) [] [] f fd) (T : Txt K mg) (D_law_draw : DO P w K mg base 2 "_law_draw" ["bag", "many"] [] (S2 (φdraw K))) (D_law_signs : DO P w K mg base 1 "_law_signs" [] [] (S0 φsigns)) : FnOk P w K mg base CX0 3 f fd ["bag", "size"] (S2 (φtextN K)) := by
  refine F.ok sc_law_text (fun vs H Q E h => ?_) (fun cdv A outer s H vs Q E hr h => ?_)
  · exact S2.len h
  · match vs, h with
    | [v0, v1], h =>
    have hu := hu_of hr
    refine ⟨_, PSs.nox (pss_cons (ps_set (i := 2) sc_law_text.nd rfl (.inr rfl) (pe_ix (ixL (K := K)) (pe_lst (pa_cons pe_int (pa_cons pe_int (pa_cons pe_int (pa_cons pe_int pa_nil))))) (pcall D_law_draw hr (pa_cons (pv 0) (pa_cons pe_int pa_nil))) (fun _ _ => rfl)))
      (pss_cons (ps_set (i := 3) sc_law_text.nd rfl (.inr rfl) (pcall D_law_draw hr (pa_cons (pv 0) (pa_cons pe_int pa_nil))))
      (pss_cons (ps_set (i := 4) sc_law_text.nd rfl (.inr rfl) (pcall0 D_law_signs hr))
      (pss_one (ps_ret (peJoin (K := K) pe_str (pe_lc (own := [("k", 5)]) (g := gName 5) rfl sc_law_text.nd (pi_range1 rfl T.b_range (pa_cons (pv 1) pa_nil)) (blkOk_by (own := [("k", 5)]) (N := ["bag", "size", "few", "first", "some", "k"]) (sc := defScope s_law_text) (by decide +kernel)) (fun _ _ _ _ _ => pg_name (i := 5) sc_law_text.nd rfl (Or.inl rfl)) (fun _ _ _ _ _ => pts_nil) (fun _ _ _ _ _ => (pe_ix ix_str (pv 4) (pe_op op_mod (pe_op op_add (pv 3) (pcall D_law_draw hr (pa_cons (pv 0) (pa_cons (pv 2) pa_nil)))) pe_int) (fun _ _ => rfl)))))))))), ?_⟩
    rw [show start ["bag", "size", "few", "first", "some", "k"] [v0, v1] = [some v0, some v1, none, none, none, none] from rfl]
    obtain ⟨F, b, n, rfl, rfl, s0, n0, n1, q⟩ := h
    have w := s0.w (M := [b])
    walk_at "go"
    refine n_lst w (szle (by simp)) fun p1 F1 H1 w hp1 => ?_
    walk_at "go"
    refine n_draw w (by walk_at "pick") (by decide) (by decide) fun r F1 H1 w r0 r1 => ?_
    obtain ⟨wd, ew, wd0, wd1⟩ := pick_ix (ns := [93, 93, 2, 3]) (lo := 2) (hi := 93) r0 r1 (by decide)
    walk_at "go"
    refine w_ixL _ _ (by walk_at "sq") ew ?_
    walk_at "go"
    refine n_draw w (by walk_at "pick") (by omega) (by omega) fun first F1 H1 w f0 f1 => ?_
    walk_at "go"
    refine n_signs ?_
    walk_at "go"
    refine n_lcR w (fun i ys L => ∃ zs : List Str, ys = zs.map V.str ∧ zs.length = i ∧ (∀ y ∈ zs, y.length = 1 ∧ okS y) ∧ L = [bag K b]) ⟨[], rfl, rfl, by simp, rfl⟩ (fun i ys L F' H' D hi hp w hD => ?_) (fun D ys L F' H' hp w hD => ?_)
    · obtain ⟨zs, rfl, hz, hy, rfl⟩ := hp
      walk_at "wp"
      walk_at "go"
      refine n_draw w (by walk_at "pick") (by omega) (by omega) fun r F1 H1 w r0 r1 => ?_
      walk_at "go"
      have m0 := mod_nn (a := first + r) (b := 93) (by decide)
      have m1 := mod_lt (a := first + r) (b := 93) (by decide)
      refine w_ixL1 (n := 93) sig_ok (by rw [sig_len]; rfl) (by rw [sig_len]; decide) m0 m1 fun s hs oks => ?_
      refine n_acc _ w ⟨zs ++ [s], by rw [List.map_append]; rfl, by simp [hz], ?_, rfl⟩ (by walk_at "pk") (small_lt (by rw [List.length_map]; omega))
      intro y hy'
      rcases List.mem_append.mp hy' with h | h
      · exact hy y h
      · rw [List.mem_singleton.mp h]
        exact ⟨hs, oks⟩
    · obtain ⟨zs, rfl, hz, hy, rfl⟩ := hp
      refine ⟨_, D, zs, rfl, rfl, .inl (by walk_at "sq"), ?_, ?_⟩
      · rw [sum_ones zs hy]
        show zs.length + zs.length * 0 ≤ 16777216
        omega
      · obtain ⟨j1, j2⟩ := joined zs hy
        exact q _ F' H' (by walk_at "w") (by
          show (((Txt.join ⟨#[]⟩ zs).length : Nat) : Int) = n
          rw [j1, hz]
          omega) j2
-- _law_row
theorem ok_law_row {f : Addr} {fd : FuncData} (F : FunD K "_law_row" "_law_row" (defArgs s_law_row) (defBody s_law_row) (defScope s_law_row) [] [] f fd) (T : Txt K mg) (D_law_draw : DO P w K mg base 2 "_law_draw" ["bag", "many"] [] (S2 (φdraw K))) (D_law_text : DO P w K mg base 3 "_law_text" ["bag", "size"] [] (S2 (φtextN K))) : FnOk P w K mg base CX0 4 f fd ["bag", "size", "left", "last"] (S4 (φrow1 K)) := by
  refine F.ok sc_law_row (fun vs H Q E h => ?_) (fun cdv A outer s H vs Q E hr h => ?_)
  · exact S4.len h
  · match vs, h with
    | [v0, v1, v2, v3], h =>
    have hu := hu_of hr
    refine ⟨_, PSs.nox (pss_cons (ps_set (i := 4) sc_law_row.nd rfl (.inl rfl) (pcall D_law_draw hr (pa_cons (pv 0) (pa_cons pe_int pa_nil))))
      (pss_cons (ps_set (i := 5) sc_law_row.nd rfl (.inl rfl) (pe_ix (ixL (K := K)) (pe_lst (pa_cons pe_int (pa_cons pe_int (pa_cons pe_int pa_nil)))) (pcall D_law_draw hr (pa_cons (pv 0) (pa_cons pe_int pa_nil))) (fun _ _ => rfl)))
      (pss_cons (ps_if (PW.pt (pw_or (pt_cmpR op_eq (pv 4) pe_int (nomark _)) (pw_or1 (pt_cmpR op_eq (pv 1) pe_int (nomark _))))) (pss_one (ps_ret (pe_tup (pa_cons pe_str (pa_cons (pcall D_law_text hr (pa_cons (pv 0) (pa_cons (pe_op op_add pe_int (pcall D_law_draw hr (pa_cons (pv 0) (pa_cons (pe_callB clMin2 (by rfl) T.b_min (by decide +kernel) (pa_cons (pv 2) (pa_cons (pv 5) pa_nil))) pa_nil)))) pa_nil))) pa_nil))))) pss_nil)
      (pss_cons (ps_set (i := 6) sc_law_row.nd rfl (.inl rfl) (pcall D_law_draw hr (pa_cons (pv 0) (pa_cons (pv 1) pa_nil))))
      (C8.pss_cut (ps_if (PW.pt (pw_and (pt_cmpR op_eq (pv 4) pe_int (nomark _)) (pw_and (pt_cmpR (opNeD (K := K) hr.units) (pv 3) (pe_lst pa_nil) (nomark _)) (pw_and (pt_cmpR op_eq (pe_ix (ixT (K := K)) (pe_ix (ixL (K := K)) (pv 3) pe_int (fun _ _ => rfl)) pe_int (fun _ _ => rfl)) pe_str (nomark _)) (pw_and1 (pt_cmpR op_lt (pe_op op_add (pe_ix (ixT (K := K)) (pe_ix (ixL (K := K)) (pv 3) pe_int (fun _ _ => rfl)) pe_int (fun _ _ => rfl)) (pe_ix (ixT (K := K)) (pe_ix (ixL (K := K)) (pv 3) pe_int (fun _ _ => rfl)) pe_int (fun _ _ => rfl))) (pv 1) (nomark _))))))) (pss_one (ps_set (i := 6) sc_law_row.nd rfl (.inl rfl) (pe_op op_add (pe_ix (ixT (K := K)) (pe_ix (ixL (K := K)) (pv 3) pe_int (fun _ _ => rfl)) pe_int (fun _ _ => rfl)) (pe_ix (ixT (K := K)) (pe_ix (ixL (K := K)) (pv 3) pe_int (fun _ _ => rfl)) pe_int (fun _ _ => rfl))))) pss_nil)
      (pss_one (ps_ret (pe_tup (pa_cons pe_str (pa_cons (pv 6) (pa_cons (pe_op op_add pe_int (pcall D_law_draw hr (pa_cons (pv 0) (pa_cons (pe_callB (call_min3Nu rfl) (by rfl) T.b_min (by decide +kernel) (pa_cons (pv 2) (pa_cons (pe_op op_sub (pv 1) (pv 6)) (pa_cons (pv 5) pa_nil)))) pa_nil)))) pa_nil))))))))))), ?_⟩
    rw [show start ["bag", "size", "left", "last", "way", "wide", "at"] [v0, v1, v2, v3] = [some v0, some v1, some v2, some v3, none, none, none] from rfl]
    obtain ⟨F, b, l, n, left, zs, rfl, rfl, rfl, rfl, s0, hS, hz, hn, l0, l1, q⟩ := h
    have w := (s0.w (M := [b])).push (imL K l zs) hS
    walk_at "go"
    refine n_draw w (by walk_at "pick") (by decide) (by decide) fun way F1 H1 w wy0 wy1 => ?_
    walk_at "go"
    refine n_lst w (szle (by simp)) fun p1 F1 H1 w hp1 => ?_
    walk_at "go"
    refine n_draw w (by walk_at "pick") (by decide) (by decide) fun r F1 H1 w r0 r1 => ?_
    obtain ⟨wd, ew, wd0, wd1⟩ := pick_ix (ns := [3, 9, 400]) (lo := 3) (hi := 400) r0 r1 (by decide)
    walk_at "go"
    refine w_ixL _ _ (by walk_at "sq") ew ?_
    walk_at "go"
    refine w_ite (fun h1 => ?_) (fun h1 => ?_)
    · skip
      walk_at "go"
      obtain ⟨m1, em1⟩ : ∃ m1 : Int, m1 = (if wd < left then wd else left) := ⟨_, rfl⟩
      rw [← em1]
      have hm1 : 1 ≤ m1 ∧ m1 ≤ left := by split at em1 <;> omega
      refine n_draw w (by walk_at "pick") (by omega) (by omega) fun k F1 H1 w k0 k1 => ?_
      walk_at "go"
      refine ⟨_, b, 1 + k, rfl, rfl, w.st (by walk_at "pick"), by omega, by omega, fun s F2 H2 w2 hs oks => ?_⟩
      replace w := w.calB (by walk_at "pick") w2 (by walk_at "app")
      walk_at "go"
      refine n_tup w (szle (by simp)) fun t F3 H3 w => ?_
      have d2 : F3 t = some (.tup [.str "put", .str s]) := w.i (fx t _) (by walk_at "mem")
      have d3 := dp_cput' (sqT_of (K := K) d2)
      exact q _ (.put s) F3 H3 ((w.push (dat K _ _) d3).to (by walk_at "pick")) ⟨⟨oks, by omega⟩, by show 1 ≤ s.length; omega, Nat.zero_le _⟩ (by show (s.length : Int) ≤ left; omega)
    · walk_at "go"
      refine w_ite (fun h2 => ?_) (fun h2 => ?_)
      · skip
        walk_at "go"
        obtain ⟨m1, em1⟩ : ∃ m1 : Int, m1 = (if wd < left then wd else left) := ⟨_, rfl⟩
        rw [← em1]
        have hm1 : 1 ≤ m1 ∧ m1 ≤ left := by split at em1 <;> omega
        refine n_draw w (by walk_at "pick") (by omega) (by omega) fun k F1 H1 w k0 k1 => ?_
        walk_at "go"
        refine ⟨_, b, 1 + k, rfl, rfl, w.st (by walk_at "pick"), by omega, by omega, fun s F2 H2 w2 hs oks => ?_⟩
        replace w := w.calB (by walk_at "pick") w2 (by walk_at "app")
        walk_at "go"
        refine n_tup w (szle (by simp)) fun t F3 H3 w => ?_
        have d2 : F3 t = some (.tup [.str "put", .str s]) := w.i (fx t _) (by walk_at "mem")
        have d3 := dp_cput' (sqT_of (K := K) d2)
        exact q _ (.put s) F3 H3 ((w.push (dat K _ _) d3).to (by walk_at "pick")) ⟨⟨oks, by omega⟩, by show 1 ≤ s.length; omega, Nat.zero_le _⟩ (by show (s.length : Int) ≤ left; omega)
      · walk_at "go"
        refine n_draw w (by walk_at "pick") (by omega) (by omega) fun a' F1 H1 w a0 a1 => ?_
        obtain ⟨an, rfl⟩ : ∃ an : Nat, a' = (an : Int) := ⟨a'.toNat, by omega⟩
        walk_at "go"
        refine n_cut (w.to (D := [imL K l zs, bag K b]) (by walk_at "pick")) (fun σ L => ∃ (a : Nat), σ = [some (.ref b), some (.int (n : Nat)), some (.int left), some (.ref l), some (.int way), some (.int wd), some (.int (a : Nat))] ∧ a < n ∧ L = [imL K l zs, bag K b]) ?_ (fun σ L F' H' hp w => ?_)
        · have fin : ∀ {F1 H1 L}, W [b] F H F1 H1 L → Pk L [imL K l zs, bag K b] → Nx [b] F H (fun σ L => ∃ (a : Nat), σ = [some (.ref b), some (.int (n : Nat)), some (.int left), some (.ref l), some (.int way), some (.int wd), some (.int (a : Nat))] ∧ a < n ∧ L = [imL K l zs, bag K b]) [some (.ref b), some (.int (n : Nat)), some (.int left), some (.ref l), some (.int way), some (.int wd), some (.int (an : Nat))] H1 := fun w k => nx_mk w ⟨an, rfl, by omega, rfl⟩ k
          walk_at "go"
          refine w_ite (fun h3 => ?_) (fun h3 => ?_)
          · walk_at "go"
            refine n_lst w (szle (by simp)) fun p2 F2 H2 w hp2 => ?_
            walk_at "go"
            rcases hz with rfl | ⟨v, rw_, rfl, dr, ro⟩
            · refine u_neD (Same.refl _) (d := .list []) (.lst (by walk_at "sq") .nil) (.lst (by walk_at "sq") .nil) rfl (by decide) ?_
              walk_at "go"
              exact fin w (by walk_at "pk")
            · have d1 : Dp K H2 v rw_.d := dp_same w.ws _ _ dr
              refine ⟨.list [rw_.d], .list [], .lst (by walk_at "sq") (.cons d1 .nil), .lst (by walk_at "sq") .nil, ?_, good_shaped rfl (by decide), ?_⟩
              · have g := crow_good ro.s
                exact good_shaped (good_list (by simp) fun d hd => by rw [List.mem_singleton.mp hd]; exact g.1) (Nat.le_trans (depth_list (n := 1) fun d hd => by rw [List.mem_singleton.mp hd]; exact g.2) (by decide))
              rw [show PyData.eqv (.list [rw_.d]) (.list []) = false from rfl]
              walk_at "go"
              cases rw_ with
              | put s =>
                obtain ⟨pm, rfl, hT⟩ := dp_cput dr
                have hT := sqT_same (K := K) w.ws hT
                walk_at "go"
                exact fin w (by walk_at "pk")
              | copy a k =>
                obtain ⟨pm, rfl, hT⟩ := dp_ccopy dr
                have hT := sqT_same (K := K) w.ws hT
                walk_at "go"
                refine w_ite (fun h4 => ?_) (fun h4 => ?_)
                · walk_at "go"
                  exact nx_mk w ⟨a + k, rfl, by omega, rfl⟩ (by walk_at "pk")
                · walk_at "go"
                  exact fin w (by walk_at "pk")
          · walk_at "go"
            exact fin w (by walk_at "pk")
        obtain ⟨a, rfl, ha, rfl⟩ := hp
        walk_at "go"
        obtain ⟨m1, em1⟩ : ∃ m1 : Int, m1 = min (min left ((n : Int) - (a : Nat))) wd := ⟨_, rfl⟩
        rw [← em1]
        refine n_draw w (by walk_at "pick") (by omega) (by omega) fun k' F1 H1 w k0 k1 => ?_
        obtain ⟨k, ek⟩ : ∃ k : Nat, (k : Int) = 1 + k' := ⟨(1 + k').toNat, by omega⟩
        walk_at "go"
        rw [← ek]
        refine n_tup w (szle (by simp)) fun t F2 H2 w => ?_
        have d2 : F2 t = some (.tup [.str "copy", .int (a : Nat), .int (k : Nat)]) := w.i (fx t _) (by walk_at "mem")
        have d3 := dp_ccopy' (sqT_of (K := K) d2)
        exact q _ (.copy a k) F2 H2 ((w.push (dat K _ _) d3).to (by walk_at "pick")) ⟨trivial, by show 1 ≤ k; omega, by show a + k ≤ n; omega⟩ (by show (k : Int) ≤ left; omega)
-- _law_rows
theorem ok_law_rows {f : Addr} {fd : FuncData} (F : FunD K "_law_rows" "_law_rows" (defArgs s_law_rows) (defBody s_law_rows) (defScope s_law_rows) [] [] f fd) (T : Txt K mg) (D_law_draw : DO P w K mg base 2 "_law_draw" ["bag", "many"] [] (S2 (φdraw K))) (D_law_row : DO P w K mg base 4 "_law_row" ["bag", "size", "left", "last"] [] (S4 (φrow1 K))) : FnOk P w K mg base CX0 5 f fd ["bag", "size", "many", "most"] (S4 (φrows1 K)) := by
  refine F.ok sc_law_rows (fun vs H Q E h => ?_) (fun cdv A outer s H vs Q E hr h => ?_)
  · exact S4.len h
  · match vs, h with
    | [v0, v1, v2, v3], h =>
    have hu := hu_of hr
    refine ⟨_, PSs.nox (pss_cons (ps_set (i := 4) sc_law_rows.nd rfl (.inl rfl) (pe_lst pa_nil))
      (pss_cons (ps_set (i := 5) sc_law_rows.nd rfl (.inl rfl) (pv 3))
      (pss_cons (ps_set (i := 6) sc_law_rows.nd rfl (.inl rfl) (pe_ix (ixL (K := K)) (pe_lst (pa_cons pe_int (pa_cons pe_int (pa_cons pe_int (pa_cons pe_int pa_nil))))) (pe_op op_mul (pcall D_law_draw hr (pa_cons (pv 0) (pa_cons pe_int pa_nil))) (pe_callTy clInt1 (by rfl) T.b_int (by decide +kernel) (pa_cons (pe_cmpR op_gt (pv 2) pe_int (nomark _)) pa_nil))) (fun _ _ => rfl)))
      (pss_cons (ps_for PassesOwn.never rfl (pi_range1 rfl T.b_range (pa_cons (pv 2) pa_nil)) (pg_name (i := 7) sc_law_rows.nd rfl (.inl rfl)) (pss_one (ps_if (pt_cmpR op_gt (pv 5) pe_int (nomark _)) (pss_cons (ps_expr (peBM (K := K) PySem.F.plainAttrs_list PySem.F.slot_list_append PySem.F.type_list_append mt_append (pv 4) (pa_cons (pcall D_law_row hr (pa_cons (pv 0) (pa_cons (pv 1) (pa_cons (pe_callB clMin2 (by rfl) T.b_min (by decide +kernel) (pa_cons (pv 5) (pa_cons (pv 6) pa_nil))) (pa_cons (pe_slice (slL (K := K)) (pv 4) (po_some (pe_un un_neg pe_int)) po_none) pa_nil))))) pa_nil)))
      (pss_one (ps_set (i := 5) sc_law_rows.nd rfl (.inl rfl) (pe_op op_sub (pv 5) (pe_ifExp (pt_cmpR op_eq (pe_ix (ixT (K := K)) (pe_ix (ixL (K := K)) (pv 4) (pe_un un_neg pe_int) (fun _ _ => rfl)) pe_int (fun _ _ => rfl)) pe_str (nomark _)) (pe_callB clLenS (by rfl) T.b_len (by decide +kernel) (pa_cons (pe_ix (ixT (K := K)) (pe_ix (ixL (K := K)) (pv 4) (pe_un un_neg pe_int) (fun _ _ => rfl)) pe_int (fun _ _ => rfl)) pa_nil)) (pe_ix (ixT (K := K)) (pe_ix (ixL (K := K)) (pv 4) (pe_un un_neg pe_int) (fun _ _ => rfl)) pe_int (fun _ _ => rfl))))))) pss_nil)))
      (pss_one (ps_ret (pv 4))))))), ?_⟩
    rw [show start ["bag", "size", "many", "most", "rows", "left", "cap", "k"] [v0, v1, v2, v3] = [some v0, some v1, some v2, some v3, none, none, none, none] from rfl]
    obtain ⟨F, b, n, many, most, rfl, rfl, rfl, rfl, s0, hn, y0, y1, m0, m1, q⟩ := h
    have w := s0.w (M := [b])
    walk_at "go"
    refine n_lst w (szle (by simp)) fun f F1 H1 w hf => ?_
    walk_at "go"
    refine n_lst w (szle (by simp)) fun p1 F1 H1 w hp1 => ?_
    walk_at "go"
    refine n_draw w (by walk_at "pick") (by decide) (by decide) fun r F1 H1 w r0 r1 => ?_
    obtain ⟨e, he, e0, e1⟩ : ∃ e : Int, e = (if decide (20 < many) = true then 1 else 0) ∧ 0 ≤ e ∧ e ≤ 1 := ⟨_, rfl, by split <;> omega, by split <;> omega⟩
    walk_at "go"
    rw [← he]
    have hre : 0 ≤ r * e ∧ r * e < 4 := by
      rcases (show e = 0 ∨ e = 1 by omega) with rfl | rfl
      · rw [Int.mul_zero]; omega
      · rw [Int.mul_one]; omega
    walk_at "go"
    obtain ⟨cp, ec, cp0, cp1⟩ := pick_ix (ns := [400, 400, 1, 2]) (i := r * e) (lo := 1) (hi := 400) hre.1 (by show r * e < 4; exact hre.2) (by decide)
    refine w_ixL _ _ (by walk_at "sq") ec ?_
    replace w := w.push (dpa K [] (([] : List CRow).map CRow.d)) .nil
    walk_at "go"
    refine n_forR w (fun i σ L => ∃ (rows : List CRow) (ys : List V) (y7 : Option V), σ = [some (.ref b), some (.int (n : Nat)), some (.int many), some (.int most), some (.ref f), some (.int (most - ((givesL rows : Nat) : Int))), some (.int cp), y7] ∧ (∀ r ∈ rows, CRowOk n r) ∧ (givesL rows : Int) ≤ most ∧ ys.length = rows.length ∧
      L = [mu f (.lst ys), dpa K ys (rows.map CRow.d), bag K b]) ⟨[], [], none, by show _ = [_, _, _, _, _, some (V.int (most - ((0 : Nat) : Int))), _, _]; rw [show most - ((0 : Nat) : Int) = most by omega], by simp, by show ((0 : Nat) : Int) ≤ most; omega, rfl, rfl⟩ (fun i σ L F' H' hi hp w => ?_) (fun σ L F' H' hp w => ?_)
    · obtain ⟨rows, ys, y7, rfl, hok, hg, hyl, rfl⟩ := hp
      have hrl := rows_len (rows := rows) (fun r hr => (hok r hr).p)
      walk_at "go"
      refine w_ite (fun hpos => ?_) (fun hpos => ?_)
      · walk_at "go"
        obtain ⟨m2, em2⟩ : ∃ m2 : Int, m2 = (if cp < most - ((givesL rows : Nat) : Int) then cp else most - ((givesL rows : Nat) : Int)) := ⟨_, rfl⟩
        rw [← em2]
        have hm2 : 1 ≤ m2 ∧ m2 ≤ 400 ∧ m2 ≤ most - ((givesL rows : Nat) : Int) := by split at em2 <;> omega
        clear em2
        have d0 : DpAll K F' ys (rows.map CRow.d) := w.dpa (by walk_at "mem")
        refine n_slL w (by walk_at "sq") fun pl F1 H1 w hpl => ?_
        obtain ⟨F2, w⟩ := w.fzL (p := pl) (by walk_at "pick") hpl
        have d1 : DpAll K F2 ys (rows.map CRow.d) := w.dpa (by walk_at "mem")
        walk_at "go"
        refine ⟨F2, b, pl, n, m2, _, rfl, rfl, rfl, rfl, w.st (by walk_at "pick"), sqL_of (w.i (fx pl _) (by walk_at "mem")), ?_, hn, hm2.1, hm2.2.1, fun v r F3 H3 w3 ro hgl => ?_⟩
        · rcases List.eq_nil_or_concat ys with rfl | ⟨us, u, rfl⟩
          · exact .inl (by rw [cut_last]; rfl)
          · refine .inr ⟨u, ?_⟩
            rw [List.concat_eq_append] at d1 hyl ⊢
            rw [cut_last_snoc]
            obtain ⟨r, hr, dr⟩ := dpa_at (i := us.length) (y := u) d1 (by rw [List.getElem?_append_right (Nat.le_refl _), Nat.sub_self]; rfl)
            exact ⟨r, rfl, dr, hok r (List.mem_of_getElem? hr)⟩
        replace w := w.calB (by walk_at "pick") w3 (by walk_at "app")
        walk_at "go"
        refine n_app w (by walk_at "pick") (small_lt (by omega)) fun H4 w => ?_
        walk_at "go"
        have d1 : DpAll K F3 ys (rows.map CRow.d) := w.dpa (by walk_at "mem")
        have d2 : Dp K F3 v r.d := w.dat (by walk_at "mem")
        have d3 := dpa_snoc d1 d2
        rw [show rows.map CRow.d ++ [r.d] = (rows ++ [r]).map CRow.d by rw [List.map_append]; rfl] at d3
        replace w := w.push (dpa K _ _) d3
        have fin : ∀ {g : Int} {H5}, g = (r.gives : Int) → W [b] F H F3 H5 [dpa K (ys ++ [v]) ((rows ++ [r]).map CRow.d), mu f (.lst (ys ++ [v])), bag K b] → Nx [b] F H (fun σ L => ∃ (rows : List CRow) (ys : List V) (y7 : Option V), σ = [some (.ref b), some (.int (n : Nat)), some (.int many), some (.int most), some (.ref f), some (.int (most - ((givesL rows : Nat) : Int))), some (.int cp), y7] ∧ (∀ r ∈ rows, CRowOk n r) ∧ (givesL rows : Int) ≤ most ∧ ys.length = rows.length ∧
            L = [mu f (.lst ys), dpa K ys (rows.map CRow.d), bag K b]) [some (.ref b), some (.int (n : Nat)), some (.int many), some (.int most), some (.ref f), some (.int (most - ((givesL rows : Nat) : Int) - g)), some (.int cp), some (.int (i : Nat))] H5 := by
          intro g H5 hgi w
          have e2 : most - ((givesL rows : Nat) : Int) - g = most - ((givesL (rows ++ [r]) : Nat) : Int) := by rw [gives_snoc, hgi]; omega
          rw [e2]
          exact nx_mk w ⟨rows ++ [r], ys ++ [v], _, rfl, crows_snoc hok ro, by rw [gives_snoc]; omega, by rw [List.length_append, List.length_append, hyl]; rfl, rfl⟩ (by walk_at "pk")
        cases r with
        | put s =>
          obtain ⟨pm, rfl, hT⟩ := dp_cput d2
          have hT := sqT_same (K := K) w.fh hT
          have hsl := ro.s.2
          refine w_ixL _ _ (by walk_at "sq") (atI_last _ _) ?_
          walk_at "go"
          refine w_ixL _ _ (by walk_at "sq") (atI_last _ _) ?_
          walk_at "go"
          exact fin rfl (by walk_at "w")
        | copy a k =>
          obtain ⟨pm, rfl, hT⟩ := dp_ccopy d2
          have hT := sqT_same (K := K) w.fh hT
          refine w_ixL _ _ (by walk_at "sq") (atI_last _ _) ?_
          walk_at "go"
          refine w_ixL _ _ (by walk_at "sq") (atI_last _ _) ?_
          walk_at "go"
          exact fin rfl (by walk_at "w")
      · walk_at "go"
        exact nx_mk w ⟨rows, ys, _, rfl, hok, hg, hyl, rfl⟩ (by walk_at "pk")
    · obtain ⟨rows, ys, y7, rfl, hok, hg, hyl, rfl⟩ := hp
      walk_at "go"
      exact q f ys rows F' H' hf (by walk_at "w") ⟨hok, by omega⟩ hg
-- _law_size
theorem ok_law_size {f : Addr} {fd : FuncData} (F : FunD K "_law_size" "_law_size" (defArgs s_law_size) (defBody s_law_size) (defScope s_law_size) [] [] f fd) (T : Txt K mg) (D_law_draw : DO P w K mg base 2 "_law_draw" ["bag", "many"] [] (S2 (φdraw K))) : FnOk P w K mg base CX0 3 f fd ["bag"] (S1 (φsize1 K)) := by
  refine F.ok sc_law_size (fun vs H Q E h => ?_) (fun cdv A outer s H vs Q E hr h => ?_)
  · exact S1.len h
  · match vs, h with
    | [v0], h =>
    have hu := hu_of hr
    refine ⟨_, PSs.nox (pss_one (ps_ret (pcall D_law_draw hr (pa_cons (pv 0) (pa_cons (pe_ix (ixL (K := K)) (pe_lst (pa_cons pe_int (pa_cons pe_int (pa_cons pe_int (pa_cons pe_int (pa_cons pe_int (pa_cons pe_int (pa_cons pe_int (pa_cons pe_int pa_nil))))))))) (pcall D_law_draw hr (pa_cons (pv 0) (pa_cons pe_int pa_nil))) (fun _ _ => rfl)) pa_nil))))), ?_⟩
    rw [show start ["bag"] [v0] = [some v0] from rfl]
    obtain ⟨F, b, rfl, s0, q⟩ := h
    have w := s0.w (M := [b])
    walk_at "go"
    refine n_lst w (szle (by simp)) fun p1 F1 H1 w hp1 => ?_
    walk_at "go"
    refine n_draw w (by walk_at "pick") (by decide) (by decide) fun r F1 H1 w r0 r1 => ?_
    obtain ⟨sz, es, sz0, sz1⟩ := pick_ix (ns := [9, 9, 9, 3, 41, 41, 121, 401]) (lo := 3) (hi := 401) r0 r1 (by decide)
    walk_at "go"
    refine w_ixL _ _ (by walk_at "sq") es ?_
    walk_at "go"
    refine n_draw w (by walk_at "pick") (by omega) (by omega) fun n' F1 H1 w n0 n1 => ?_
    obtain ⟨n, rfl⟩ : ∃ n : Nat, n' = (n : Int) := ⟨n'.toNat, by omega⟩
    exact q n F1 H1 (by walk_at "w") (by omega)
-- _law_truth
theorem ok_law_truth {f : Addr} {fd : FuncData} (F : FunD K "_law_truth" "_law_truth" (defArgs s_law_truth) (defBody s_law_truth) (defScope s_law_truth) [] [] f fd) (T : Txt K mg)  : FnOk P w K mg base CX0 1 f fd ["found", "due"] (S2 φtruth03) := by
  refine F.ok sc_law_truth (fun vs H Q E h => ?_) (fun cdv A outer s H vs Q E hr h => ?_)
  · exact S2.len h
  · match vs, h with
    | [v0, v1], h =>
    have hu := hu_of hr
    refine ⟨_, PSs.nox (pss_one (ps_ret (pe_and (pe_callB (clIsi (K := K)) (by rfl) T.b_isinstance (by decide +kernel) (pa_cons (pv 0) (pa_cons (pe_bltn (v := .ty "bool") (by rfl) T.b_bool (by decide +kernel) rfl) pa_nil))) (pe_one (pe_cmpR op_eq (pv 0) (pv 1) (nomark _)))))), ?_⟩
    rw [show start ["found", "due"] [v0, v1] = [some v0, some v1] from rfl]
    obtain ⟨b, c, rfl, rfl, q⟩ := h
    walk_at "go"
    refine u_isi (F := H) (d := .bool b) (.bl _) (Same.refl _) (k_bool _) ?_
    walk_at "go"
    refine w_is (c := true) rfl ?_
    walk_at "go"
    exact q
-- _law_gives
theorem ok_law_gives {f : Addr} {fd : FuncData} (F : FunD K "_law_gives" "_law_gives" (defArgs s_law_gives) (defBody s_law_gives) (defScope s_law_gives) [] [] f fd) (T : Txt K mg)  : FnOk P w K mg base CX0 1 f fd ["rows"] (S1 (φgives03 K)) := by
  refine F.ok sc_law_gives (fun vs H Q E h => ?_) (fun cdv A outer s H vs Q E hr h => ?_)
  · exact S1.len h
  · match vs, h with
    | [v0], h =>
    have hu := hu_of hr
    refine ⟨_, PSs.nox (pss_one (ps_ret (pe_callB (clSum (K := K)) (by rfl) T.b_sum (by decide +kernel) (pa_cons (pe_lc (own := [("row", 1)]) (g := gName 1) rfl sc_law_gives.nd (pi_list (pv 0)) (blkOk_by (own := [("row", 1)]) (N := ["rows", "row"]) (sc := defScope s_law_gives) (by decide +kernel)) (fun _ _ _ _ _ => pg_name (i := 1) sc_law_gives.nd rfl (Or.inl rfl)) (fun _ _ _ _ _ => pts_nil) (fun _ _ _ _ _ => (pe_ifExp (pt_cmpR op_eq (pe_ix (ixT (K := K)) (pv 1) pe_int (fun _ _ => rfl)) pe_str (nomark _)) (pe_callB clLenS (by rfl) T.b_len (by decide +kernel) (pa_cons (pe_ix (ixT (K := K)) (pv 1) pe_int (fun _ _ => rfl)) pa_nil)) (pe_ix (ixT (K := K)) (pv 1) pe_int (fun _ _ => rfl))))) pa_nil)))), ?_⟩
    rw [show start ["rows", "row"] [v0] = [some v0, none] from rfl]
    obtain ⟨F, a, vs, rows, rfl, hw, hS, hD, hok, hl, hg, q⟩ := h
    have w := ((W.start (M := []) hw).push (imL K a vs) hS).push (dpa K vs (rows.map CRow.d)) hD
    have hvl : vs.length = rows.length := by rw [dpa_len hD, List.length_map]
    walk_at "go"
    refine n_lcL vs w (fun i ys L => ys = ((rows.take i).map fun r => ((r.gives : Nat) : Int)).map V.int ∧ L = [imL K a vs, dpa K vs (rows.map CRow.d)]) ⟨rfl, rfl⟩ (fun i ys L F' H' D hp w => ?_) (fun i x ys L F' H' D hx hp w hD2 => ?_) (fun D ys L F' H' hp w hD2 => ?_)
    · obtain ⟨rfl, rfl⟩ := hp
      walk_at "sq"
    · obtain ⟨rfl, rfl⟩ := hp
      obtain ⟨r, hr2, dr⟩ := dpa_at (w.dpa (K := K) (xs := vs) (ds := rows.map CRow.d) (by walk_at "mem")) hx
      have et : rows.take (i + 1) = rows.take i ++ [r] := by rw [List.take_add_one, hr2]; rfl
      have hi := (List.getElem?_eq_some_iff.mp hr2).1
      have ro := hok r (List.mem_of_getElem? hr2)
      walk_at "wp"
      cases r with
      | put s =>
        obtain ⟨pm, rfl, hT⟩ := dp_cput dr
        replace w := w.push (imT K pm _) hT
        have hsl := ro.2
        walk_at "go"
        refine n_acc _ w ⟨by rw [et, List.map_append, List.map_append]; rfl, rfl⟩ (by walk_at "pk") (small_lt (by rw [List.length_map, List.length_map, List.length_take]; omega))
      | copy a2 m =>
        obtain ⟨pm, rfl, hT⟩ := dp_ccopy dr
        replace w := w.push (imT K pm _) hT
        walk_at "go"
        refine n_acc _ w ⟨by rw [et, List.map_append, List.map_append]; rfl, rfl⟩ (by walk_at "pk") (small_lt (by rw [List.length_map, List.length_map, List.length_take]; omega))
    obtain ⟨rfl, rfl⟩ := hp
    rw [List.take_of_length_le (show rows.length ≤ vs.length by omega)] at w
    walk_at "go"
    refine ⟨D, rows.map fun r => ((r.gives : Nat) : Int), rfl, by walk_at "sq", ?_⟩
    rw [sum_gives03]
    walk_at "go"
    exact q _ _ (w.to .nil)
-- _law_unlike_all
theorem ok_law_unlike_all {f : Addr} {fd : FuncData} (F : FunD K "_law_unlike_all" "_law_unlike_all" (defArgs s_law_unlike_all) (defBody s_law_unlike_all) (defScope s_law_unlike_all) [] [] f fd) (T : Txt K mg) (D_law_truth : DO P w K mg base 1 "_law_truth" ["found", "due"] [] (S2 φtruth03)) (DM_ChangeX_eqX : DM P w K mg base 6 "Change" "__eq__" ["self", "other"] [] (S2 (φceqX K))) (DM_ChangeX_strX : DM P w K mg base 2 "Change" "__str__" ["self"] [] (S1 (φstr K))) : FnOk P w K mg base CX0 8 f fd ["change", "size", "rows"] (S3 (φunlike03 K)) := by
  refine F.ok sc_law_unlike_all (fun vs H Q E h => ?_) (fun cdv A outer s H vs Q E hr h => ?_)
  · exact S3.len h
  · match vs, h with
    | [v0, v1, v2], h =>
    have hu := hu_of hr
    refine ⟨_, PSs.nox (pss_cons (ps_for PassesOwn.never rfl (pi_list (pe_lst (pa_cons pe_non (pa_cons pe_int (pa_cons (pv 1) (pa_cons pe_bl (pa_cons pe_str (pa_cons (pe_callTy (clStrO DM_ChangeX_strX hr (by decide)) (by rfl) T.b_str (by decide +kernel) (pa_cons (pv 0) pa_nil)) (pa_cons (pe_lst pa_nil) (pa_cons pe_dnewK (pa_cons (pe_callTy (clListOf (K := K)) (by rfl) T.b_list (by decide +kernel) (pa_cons (pv 2) pa_nil)) (pa_cons (pe_tup (pa_cons (pv 1) (pa_cons (pe_callTy (clListOf (K := K)) (by rfl) T.b_list (by decide +kernel) (pa_cons (pv 2) pa_nil)) pa_nil))) (pa_cons (pe_lst (pa_cons (pv 1) (pa_cons (pe_callTy (clListOf (K := K)) (by rfl) T.b_list (by decide +kernel) (pa_cons (pv 2) pa_nil)) pa_nil))) pa_nil))))))))))))) (pg_name (i := 3) sc_law_unlike_all.nd rfl (.inl rfl)) (pss_cons (ps_if (PW.pt (pw_or (pt_not (pt_val (pcall D_law_truth hr (pa_cons (pe_cmpR (opEqA DM_ChangeX_eqX T.kn_Change hr (by decide)) (pv 0) (pv 3) (nomark _)) (pa_cons pe_bl pa_nil))))) (pw_or1 (pt_not (pt_val (pcall D_law_truth hr (pa_cons (pe_cmpR (opNeA DM_ChangeX_eqX T.n_Change T.kn_Change hr (by decide)) (pv 0) (pv 3) (nomark _)) (pa_cons pe_bl pa_nil)))))))) (pss_one (ps_ret pe_bl)) pss_nil)
      (pss_one (ps_if (pt_not (pt_val (pcall D_law_truth hr (pa_cons (pe_cmpR (opRevA DM_ChangeX_eqX T.kn_Change hr (by decide)) (pv 3) (pv 0) (nomark _)) (pa_cons pe_bl pa_nil))))) (pss_one (ps_ret pe_bl)) pss_nil))))
      (pss_one (ps_ret pe_bl))), ?_⟩
    rw [show start ["change", "size", "rows", "other"] [v0, v1, v2] = [some v0, some v1, some v2, none] from rfl]
    have kC := T.k_Change
    have kS := T.na_Change_size
    have kR := T.na_Change_rows
    
    obtain ⟨F, a, vs, n, rows, rfl, rfl, hw, hC, hS, hok, hn, hvl, q⟩ := h
    obtain ⟨c, dx, rr, vs0, rfl, hcc, hrr, hD0⟩ := id hC
    have w := (((W.start (M := []) hw).push (chg K (.ref c) n rows) hC).push (imL K a vs) hS).push (fx c _) hcc
    unfold insC at w
    walk_at "go"
    refine n_strO (by walk_at "at") ?_
    refine ⟨_, n, rows, w.fh, w.i (chg K (.ref c) n rows) (by walk_at "mem"), hok, hn, fun s F2 H2 w2 hs => ⟨_, rfl, ?_⟩⟩
    replace w := w.cal .nil w2 (by walk_at "app")
    walk_at "go"
    refine n_lst w (szle (by simp)) fun p1 F1 H1 w hp1 => ?_
    obtain ⟨F1, w⟩ := w.fzL (p := p1) (by walk_at "pick") hp1
    walk_at "go"
    intro pd npd
    have hpd := w.g.fresh npd
    replace w := w.nw (u := .dK []) npd
    replace w := (w.fz (p := pd) (by walk_at "pick") hpd).push (fx pd (.dK [])) upd_same
    walk_at "go"
    refine n_listOf w (xs := vs) (by walk_at "sq") fun p3 F3 H3 w hp3 => ?_
    obtain ⟨F3, w⟩ := w.fzL (p := p3) (by walk_at "pick") hp3
    walk_at "go"
    refine n_listOf w (xs := vs) (by walk_at "sq") fun p4 F4 H4 w hp4 => ?_
    obtain ⟨F4, w⟩ := w.fzL (p := p4) (by walk_at "pick") hp4
    walk_at "go"
    refine n_tup w (szle (by simp)) fun t5 F5 H5 w => ?_
    walk_at "go"
    refine n_listOf w (xs := vs) (by walk_at "sq") fun p6 F6 H6 w hp6 => ?_
    obtain ⟨F6, w⟩ := w.fzL (p := p6) (by walk_at "pick") hp6
    walk_at "go"
    refine n_lst w (szle (by simp)) fun p7 F7 H7 w hp7 => ?_
    obtain ⟨F7, w⟩ := w.fzL (p := p7) (by walk_at "pick") hp7
    walk_at "go"
    refine n_lst w (szle (by simp)) fun p8 F8 H8 w hp8 => ?_
    obtain ⟨F8, w⟩ := w.fzL (p := p8) (by walk_at "pick") hp8
    replace w := w.push (knd [.non, .int 0, .int (n : Nat), .bl true, .str (Str.ofString ""), .str s, .ref p1, .ref pd, .ref p3, .ref t5, .ref p7]) (by
      intro v hv
      simp only [List.mem_cons, List.not_mem_nil, or_false] at hv
      rcases hv with rfl | rfl | rfl | rfl | rfl | rfl | rfl | rfl | rfl | rfl | rfl
      · exact .non
      · exact .int _
      · exact .int _
      · exact .bl _
      · exact .str _
      · exact .str _
      · exact .lst (w.i (fx p1 _) (by walk_at "mem"))
      · exact .dK (w.i (fx pd _) (by walk_at "mem"))
      · exact .lst (w.i (fx p3 _) (by walk_at "mem"))
      · exact .tup (w.i (fx t5 _) (by walk_at "mem"))
      · exact .lst (w.i (fx p7 _) (by walk_at "mem")))
    replace w := w.to (D := [knd [.non, .int 0, .int (n : Nat), .bl true, .str (Str.ofString ""), .str s, .ref p1, .ref pd, .ref p3, .ref t5, .ref p7], fx p8 (.lst [.non, .int 0, .int (n : Nat), .bl true, .str (Str.ofString ""), .str s, .ref p1, .ref pd, .ref p3, .ref t5, .ref p7]), chg K (.ref c) n rows, fx c (.ins (He.ga K "Change") dx [("size", .int (n : Nat)), ("rows", .ref rr)])]) (by walk_at "pick")
    walk_at "go"
    refine n_forL [.non, .int 0, .int (n : Nat), .bl true, .str (Str.ofString ""), .str s, .ref p1, .ref pd, .ref p3, .ref t5, .ref p7] w (fun i σ L => ∃ y3 : Option V, σ = [some (.ref c), some (.int (n : Nat)), some (.ref a), y3] ∧ L = [knd [.non, .int 0, .int (n : Nat), .bl true, .str (Str.ofString ""), .str s, .ref p1, .ref pd, .ref p3, .ref t5, .ref p7], fx p8 (.lst [.non, .int 0, .int (n : Nat), .bl true, .str (Str.ofString ""), .str s, .ref p1, .ref pd, .ref p3, .ref t5, .ref p7]), chg K (.ref c) n rows, fx c (.ins (He.ga K "Change") dx [("size", .int (n : Nat)), ("rows", .ref rr)])]) ⟨none, rfl, rfl⟩ (fun i σ L F' H' hp w => ?_) (fun i x σ L F' H' hx hp w => ?_) (fun σ L F' H' hp w => ?_)
    · obtain ⟨y3, rfl, rfl⟩ := hp
      walk_at "sq"
    · obtain ⟨y3, rfl, rfl⟩ := hp
      have hk : KindV _ x := w.i (knd [.non, .int 0, .int (n : Nat), .bl true, .str (Str.ofString ""), .str s, .ref p1, .ref pd, .ref p3, .ref t5, .ref p7]) (by walk_at "mem") x (List.mem_of_getElem? hx)
      clear hx
      walk_at "go"
      refine ⟨c, _, _, rfl, by walk_at "at", hk.same w.fh, ?_⟩
      refine ⟨_, n, rows, w.fh, w.i (chg K (.ref c) n rows) (by walk_at "mem"), hok, .inr ⟨hk, fun F2 H2 w2 => ⟨_, rfl, ?_⟩⟩⟩
      replace w := w.cal .nil w2 (by walk_at "app")
      replace hk := hk.same w2.ff
      walk_at "go"
      refine ⟨false, false, rfl, rfl, ?_⟩
      walk_at "go"
      refine ⟨c, _, _, rfl, by walk_at "at", hk.same w.fh, ?_⟩
      refine ⟨_, n, rows, w.fh, w.i (chg K (.ref c) n rows) (by walk_at "mem"), hok, .inr ⟨hk, fun F2 H2 w2 => ⟨_, rfl, ?_⟩⟩⟩
      replace w := w.cal .nil w2 (by walk_at "app")
      replace hk := hk.same w2.ff
      walk_at "go"
      refine ⟨true, true, rfl, rfl, ?_⟩
      walk_at "go"
      refine ⟨c, _, _, rfl, by walk_at "at", hk.same w.fh, ?_⟩
      refine ⟨_, n, rows, w.fh, w.i (chg K (.ref c) n rows) (by walk_at "mem"), hok, .inr ⟨hk, fun F2 H2 w2 => ⟨_, rfl, ?_⟩⟩⟩
      replace w := w.cal .nil w2 (by walk_at "app")
      walk_at "go"
      refine ⟨false, false, rfl, rfl, ?_⟩
      walk_at "go"
      exact nx_mk w ⟨_, rfl, rfl⟩ (by walk_at "pk")
    obtain ⟨y3, rfl, rfl⟩ := hp
    walk_at "go"
    exact q _ _ (w.to .nil)
-- _law_row_bent
theorem ok_law_row_bent {f : Addr} {fd : FuncData} (F : FunD K "_law_row_bent" "_law_row_bent" (defArgs s_law_row_bent) (defBody s_law_row_bent) (defScope s_law_row_bent) [] [] f fd) (T : Txt K mg) (D_law_draw : DO P w K mg base 2 "_law_draw" ["bag", "many"] [] (S2 (φdraw K))) (D_law_text : DO P w K mg base 3 "_law_text" ["bag", "size"] [] (S2 (φtextN K))) : FnOk P w K mg base CX0 5 f fd ["bag", "size", "row"] (S3 (φbent03 K)) := by
  refine F.ok sc_law_row_bent (fun vs H Q E h => ?_) (fun cdv A outer s H vs Q E hr h => ?_)
  · exact S3.len h
  · match vs, h with
    | [v0, v1, v2], h =>
    have hu := hu_of hr
    refine ⟨_, PSs.nox (pss_cons (ps_if (pt_cmpR op_eq (pe_ix (ixT (K := K)) (pv 2) pe_int (fun _ _ => rfl)) pe_str (nomark _)) (pss_cons (ps_set (i := 3) sc_law_row_bent.nd rfl (.inl rfl) (pcall D_law_draw hr (pa_cons (pv 0) (pa_cons (pe_callB clLenS (by rfl) T.b_len (by decide +kernel) (pa_cons (pe_ix (ixT (K := K)) (pv 2) pe_int (fun _ _ => rfl)) pa_nil)) pa_nil))))
      (pss_one (ps_ret (pe_tup (pa_cons pe_str (pa_cons (pe_op opAddS (pe_op opAddS (pe_slice sl_str (pe_ix (ixT (K := K)) (pv 2) pe_int (fun _ _ => rfl)) po_none (po_some (pv 3))) (pcall D_law_text hr (pa_cons (pv 0) (pa_cons pe_int pa_nil)))) (pe_slice sl_str (pe_ix (ixT (K := K)) (pv 2) pe_int (fun _ _ => rfl)) (po_some (pe_op op_add (pv 3) pe_int)) po_none)) pa_nil)))))) pss_nil)
      (pss_cons (ps_asg (pe_slice (slT (K := K)) (pv 2) (po_some pe_int) po_none) (pg_tup (by rfl) (pgs_cons (pg_name (i := 3) sc_law_row_bent.nd rfl (.inl rfl)) (pgs_cons (pg_name (i := 4) sc_law_row_bent.nd rfl (.inl rfl)) pgs_nil))))
      (pss_cons (ps_set (i := 5) sc_law_row_bent.nd rfl (.inl rfl) (pe_lst (pa_cons (pe_tup (pa_cons (pe_op op_add (pv 3) pe_int) (pa_cons (pe_op op_sub (pv 4) pe_int) pa_nil))) (pa_cons (pe_tup (pa_cons (pv 3) (pa_cons (pe_op op_sub (pv 4) pe_int) pa_nil))) (pa_cons (pe_tup (pa_cons (pe_op op_sub (pv 3) pe_int) (pa_cons (pv 4) pa_nil))) (pa_cons (pe_tup (pa_cons (pv 3) (pa_cons (pe_op op_add (pv 4) pe_int) pa_nil))) pa_nil))))))
      (C8.pss_cut (ps_asg (pe_ix (ixL (K := K)) (pv 5) (pcall D_law_draw hr (pa_cons (pv 0) (pa_cons pe_int pa_nil))) (fun _ _ => rfl)) (pg_tup (by rfl) (pgs_cons (pg_name (i := 3) sc_law_row_bent.nd rfl (.inl rfl)) (pgs_cons (pg_name (i := 4) sc_law_row_bent.nd rfl (.inl rfl)) pgs_nil))))
      (pss_one (ps_ret (pe_ifExp (PW.pt (pw_and (pt_cmpR op_ge (pv 3) pe_int (nomark _)) (pw_and (pt_cmpR op_gt (pv 4) pe_int (nomark _)) (pw_and1 (pt_cmpR op_le (pe_op op_add (pv 3) (pv 4)) (pv 1) (nomark _)))))) (pe_tup (pa_cons pe_str (pa_cons (pv 3) (pa_cons (pv 4) pa_nil)))) (pv 2)))))))), ?_⟩
    rw [show start ["bag", "size", "row", "at", "many", "some"] [v0, v1, v2] = [some v0, some v1, some v2, none, none, none] from rfl]
    obtain ⟨F, b, n, r, rfl, rfl, s0, hD, ro, hn, hg, q⟩ := h
    have w := s0.w (M := [b])
    cases r with
    | put s =>
      obtain ⟨pm, rfl, hT0⟩ := dp_cput hD
      replace w := w.push (imT K pm [.str "put", .str s]) hT0
      have hoks := ro.s.1
      have hsl := ro.s.2
      have hs1 : 1 ≤ s.length := ro.p
      have hs4 : s.length ≤ 400 := hg
      walk_at "go"
      refine n_draw w (by walk_at "pick") (by omega) (by omega) fun at' F1 H1 w a0 a1 => ?_
      obtain ⟨at_, rfl⟩ : ∃ k : Nat, at' = (k : Int) := ⟨at'.toNat, by omega⟩
      walk_at "go"
      refine w_slS (szle (by omega)) ?_
      walk_at "go"
      refine ⟨_, b, 1, rfl, rfl, w.st (by walk_at "pick"), by decide, by decide, fun z F2 H2 w2 hz okz => ?_⟩
      replace w := w.calB (by walk_at "pick") w2 (by walk_at "app")
      have l1 : (cutS s none (some (at_ : Int))).length = min at_ s.length := len_to s at_
      have l2 : (cutS s (some (((at_ + 1 : Nat) : Nat) : Int)) none).length = s.length - (at_ + 1) := R.len_from s (at_ + 1)
      walk_at "go"
      refine w_slS (szle (by omega)) ?_
      rw [show ((at_ : Nat) : Int) + 1 = ((at_ + 1 : Nat) : Int) by omega]
      walk_at "go"
      refine n_adds (szle (by rw [len_app]; omega)) ?_
      walk_at "go"
      refine n_tup w (szle (by simp)) fun t F3 H3 w => ?_
      have d1 : Dp K F3 (.ref t) (CRow.put (cutS s none (some (at_ : Int)) ++ z ++ cutS s (some (((at_ + 1 : Nat) : Nat) : Int)) none)).d := dp_cput' (sqT_of (w.i (fx t _) (by walk_at "mem")))
      refine q _ (.put (cutS s none (some (at_ : Int)) ++ z ++ cutS s (some (((at_ + 1 : Nat) : Nat) : Int)) none)) _ _ ((w.push (dat K (.ref t) _) d1).to (by walk_at "pick")) (put_ok03 (ok_cat (ok_cat (ok_to hoks _) okz) (ok_from hoks _)) (by rw [len_app, len_app]; omega) (by rw [len_app, len_app]; omega)) ?_
      show (cutS s none (some (at_ : Int)) ++ z ++ cutS s (some (((at_ + 1 : Nat) : Nat) : Int)) none).length ≤ s.length + 1
      rw [len_app, len_app]
      omega
    | copy a m =>
      obtain ⟨pm, rfl, hT0⟩ := dp_ccopy hD
      replace w := w.push (imT K pm [.str "copy", .int (a : Nat), .int (m : Nat)]) hT0
      have hm1 : 1 ≤ m := ro.p
      have hh : a + m ≤ n := ro.h
      walk_at "go"
      refine n_slT03 w (xs := [V.str "copy", V.int (a : Nat), V.int (m : Nat)]) (by walk_at "st") (show ¬ (HT.sIx 3 0 (some 1) = 0 ∧ HT.sIx 3 3 none = 3) by decide) fun t F1 H1 w => ?_
      rw [show cutV [V.str "copy", V.int (a : Nat), V.int (m : Nat)] (some 1) none = [V.int (a : Nat), V.int (m : Nat)] from rfl] at w
      walk_at "go"
      refine n_tup w (szle (by simp)) fun t0 F1 H1 w => ?_
      walk_at "go"
      refine n_tup w (szle (by simp)) fun t1 F1 H1 w => ?_
      walk_at "go"
      refine n_tup w (szle (by simp)) fun t2 F1 H1 w => ?_
      walk_at "go"
      refine n_tup w (szle (by simp)) fun t3 F1 H1 w => ?_
      walk_at "go"
      refine n_lst w (szle (by simp)) fun pl F1 H1 w hpl => ?_
      walk_at "go"
      refine n_cut w (fun σ L => ∃ a2 m2 : Int, m2 ≤ (m : Int) + 1 ∧ σ = [some (.ref b), some (.int (n : Nat)), some (.ref pm), some (.int a2), some (.int m2), some (.ref pl)] ∧ L = [bag K b, imT K pm [V.str "copy", V.int (a : Nat), V.int (m : Nat)]]) ?_ (fun σ L F' H' hp w => ?_)
      · walk_at "go"
        refine n_draw w (by walk_at "pick") (by decide) (by decide) fun r F1 H1 w r0 r1 => ?_
        rcases (show r = 0 ∨ r = 1 ∨ r = 2 ∨ r = 3 by omega) with rfl | rfl | rfl | rfl
        all_goals
          walk_at "go"
          exact nx_mk w ⟨_, _, by omega, rfl, rfl⟩ (by walk_at "pk")
      obtain ⟨a2, m2, hm2, rfl, rfl⟩ := hp
      have keep : Q (.ref pm) H' := q _ (.copy a m) _ _ ((w.push (dat K (.ref pm) (CRow.copy a m).d) (dp_ccopy' (w.imT (by walk_at "mem")))).to (by walk_at "pick")) ro (Nat.le_succ _)
      walk_at "go"
      refine w_ite (fun h1 => ?_) (fun h1 => ?_)
      · walk_at "go"
        refine w_ite (fun h2 => ?_) (fun h2 => ?_)
        · walk_at "go"
          refine w_ite (fun h3 => ?_) (fun h3 => ?_)
          · walk_at "go"
            obtain ⟨a3, rfl⟩ : ∃ k : Nat, a2 = (k : Int) := ⟨a2.toNat, by omega⟩
            obtain ⟨m3, rfl⟩ : ∃ k : Nat, m2 = (k : Int) := ⟨m2.toNat, by omega⟩
            refine n_tup w (szle (by simp)) fun t F3 H3 w => ?_
            have d1 : Dp K F3 (.ref t) (CRow.copy a3 m3).d := dp_ccopy' (sqT_of (w.i (fx t _) (by walk_at "mem")))
            exact q _ (.copy a3 m3) _ _ ((w.push (dat K (.ref t) _) d1).to (by walk_at "pick")) (copy_ok03 (by omega) (by omega)) (by show m3 ≤ m + 1; omega)
          · walk_at "go"
            exact keep
        · walk_at "go"
          exact keep
      · walk_at "go"
        exact keep
-- _law_split
theorem ok_law_split {f : Addr} {fd : FuncData} (F : FunD K "_law_split" "_law_split" (defArgs s_law_split) (defBody s_law_split) (defScope s_law_split) [] [] f fd) (T : Txt K mg) (D_law_draw : DO P w K mg base 2 "_law_draw" ["bag", "many"] [] (S2 (φdraw K))) : FnOk P w K mg base CX0 3 f fd ["bag", "row"] (S2 (φsplit03 K)) := by
  refine F.ok sc_law_split (fun vs H Q E h => ?_) (fun cdv A outer s H vs Q E hr h => ?_)
  · exact S2.len h
  · match vs, h with
    | [v0, v1], h =>
    have hu := hu_of hr
    refine ⟨_, PSs.nox (pss_cons (ps_set (i := 2) sc_law_split.nd rfl (.inl rfl) (pe_ifExp (pt_cmpR op_eq (pe_ix (ixT (K := K)) (pv 1) pe_int (fun _ _ => rfl)) pe_str (nomark _)) (pe_callB clLenS (by rfl) T.b_len (by decide +kernel) (pa_cons (pe_ix (ixT (K := K)) (pv 1) pe_int (fun _ _ => rfl)) pa_nil)) (pe_ix (ixT (K := K)) (pv 1) pe_int (fun _ _ => rfl))))
      (pss_cons (ps_if (pt_cmpR op_lt (pv 2) pe_int (nomark _)) (pss_one (ps_ret (pe_lst (pa_cons (pv 1) pa_nil)))) pss_nil)
      (pss_cons (ps_set (i := 3) sc_law_split.nd rfl (.inl rfl) (pe_op op_add pe_int (pcall D_law_draw hr (pa_cons (pv 0) (pa_cons (pe_op op_sub (pv 2) pe_int) pa_nil)))))
      (pss_cons (ps_if (pt_cmpR op_eq (pe_ix (ixT (K := K)) (pv 1) pe_int (fun _ _ => rfl)) pe_str (nomark _)) (pss_one (ps_ret (pe_lst (pa_cons (pe_tup (pa_cons pe_str (pa_cons (pe_slice sl_str (pe_ix (ixT (K := K)) (pv 1) pe_int (fun _ _ => rfl)) po_none (po_some (pv 3))) pa_nil))) (pa_cons (pe_tup (pa_cons pe_str (pa_cons (pe_slice sl_str (pe_ix (ixT (K := K)) (pv 1) pe_int (fun _ _ => rfl)) (po_some (pv 3)) po_none) pa_nil))) pa_nil))))) pss_nil)
      (pss_one (ps_ret (pe_lst (pa_cons (pe_tup (pa_cons pe_str (pa_cons (pe_ix (ixT (K := K)) (pv 1) pe_int (fun _ _ => rfl)) (pa_cons (pv 3) pa_nil)))) (pa_cons (pe_tup (pa_cons pe_str (pa_cons (pe_op op_add (pe_ix (ixT (K := K)) (pv 1) pe_int (fun _ _ => rfl)) (pv 3)) (pa_cons (pe_op op_sub (pv 2) (pv 3)) pa_nil)))) pa_nil))))))))), ?_⟩
    rw [show start ["bag", "row", "many", "cut"] [v0, v1] = [some v0, some v1, none, none] from rfl]
    obtain ⟨F, b, n, r, rfl, s0, hD, ro, hn, hg, q⟩ := h
    have w := s0.w (M := [b])
    cases r with
    | put s =>
      obtain ⟨pm, rfl, hT0⟩ := dp_cput hD
      replace w := w.push (imT K pm [.str "put", .str s]) hT0
      have hoks := ro.s.1
      have hsl := ro.s.2
      have hs1 : 1 ≤ s.length := ro.p
      have hs4 : s.length ≤ 400 := hg
      walk_at "go"
      refine w_ite (fun h2 => ?_) (fun h2 => ?_)
      · walk_at "go"
        refine n_lst w (szle (by simp)) fun p F1 H1 w hp => ?_
        exact q p [.ref pm] [.put s] _ _ hp ((w.push (dpa K [.ref pm] ([CRow.put s].map CRow.d)) (.cons (dp_cput' (w.imT (by walk_at "mem"))) .nil)).to (by walk_at "pick")) (fun r hr => by rw [List.mem_singleton.mp hr]; exact ro) rfl (by simp)
      walk_at "go"
      refine n_draw w (by walk_at "pick") (by omega) (by omega) fun c' F3 H3 w c0 c1 => ?_
      obtain ⟨c, rfl⟩ : ∃ c : Nat, c' = (c : Int) := ⟨c'.toNat, by omega⟩
      walk_at "go"
    
      refine w_slS (szle (by omega)) ?_
      walk_at "go"
      refine n_tup w (szle (by simp)) fun t1 F5 H5 w => ?_
      walk_at "go"
      refine w_slS (szle (by omega)) ?_
      walk_at "go"
      refine n_tup w (szle (by simp)) fun t2 F6 H6 w => ?_
      walk_at "go"
      refine n_lst w (szle (by simp)) fun p F7 H7 w hp => ?_
      obtain ⟨c2, ec2⟩ : ∃ c2 : Nat, (1 : Int) + (c : Int) = (c2 : Int) := ⟨1 + c, by omega⟩
      rw [ec2] at w
      have l1 : (cutS s none (some (c2 : Int))).length = min c2 s.length := len_to s c2
      have l2 : (cutS s (some (c2 : Int)) none).length = s.length - c2 := R.len_from s c2
      refine q p [.ref t1, .ref t2] [.put (cutS s none (some (c2 : Int))), .put (cutS s (some (c2 : Int)) none)] _ _ hp ((w.push (dpa K [.ref t1, .ref t2] ([CRow.put (cutS s none (some (c2 : Int))), .put (cutS s (some (c2 : Int)) none)].map CRow.d)) (.cons (dp_cput' (sqT_of (w.i (fx t1 _) (by walk_at "mem")))) (.cons (dp_cput' (sqT_of (w.i (fx t2 _) (by walk_at "mem")))) .nil))).to (by walk_at "pick")) (fun r hr => ?_) ?_ (by simp)
      · simp only [List.mem_cons, List.not_mem_nil, or_false] at hr
        rcases hr with rfl | rfl
        · exact put_ok03 (ok_to hoks _) (by omega) (by omega)
        · exact put_ok03 (ok_from hoks _) (by omega) (by omega)
      · show (cutS s none (some (c2 : Int))).length + ((cutS s (some (c2 : Int)) none).length + 0) = s.length
        omega
    | copy a m =>
      obtain ⟨pm, rfl, hT0⟩ := dp_ccopy hD
      replace w := w.push (imT K pm [.str "copy", .int (a : Nat), .int (m : Nat)]) hT0
      have hm1 : 1 ≤ m := ro.p
      have hh : a + m ≤ n := ro.h
      have hm4 : m ≤ 400 := hg
      walk_at "go"
      refine w_ite (fun h2 => ?_) (fun h2 => ?_)
      · walk_at "go"
        refine n_lst w (szle (by simp)) fun p F1 H1 w hp => ?_
        exact q p [.ref pm] [.copy a m] _ _ hp ((w.push (dpa K [.ref pm] ([CRow.copy a m].map CRow.d)) (.cons (dp_ccopy' (w.imT (by walk_at "mem"))) .nil)).to (by walk_at "pick")) (fun r hr => by rw [List.mem_singleton.mp hr]; exact ro) rfl (by simp)
      walk_at "go"
      refine n_draw w (by walk_at "pick") (by omega) (by omega) fun c' F3 H3 w c0 c1 => ?_
      obtain ⟨c, rfl⟩ : ∃ c : Nat, c' = (c : Int) := ⟨c'.toNat, by omega⟩
      walk_at "go"
    
      refine n_tup w (szle (by simp)) fun t1 F5 H5 w => ?_
      walk_at "go"
      refine n_tup w (szle (by simp)) fun t2 F6 H6 w => ?_
      walk_at "go"
      refine n_lst w (szle (by simp)) fun p F7 H7 w hp => ?_
      rw [show (1 : Int) + ((c : Nat) : Int) = ((1 + c : Nat) : Int) by omega, show ((a : Nat) : Int) + ((1 + c : Nat) : Int) = ((a + (1 + c) : Nat) : Int) by omega, show ((m : Nat) : Int) - ((1 + c : Nat) : Int) = ((m - (1 + c) : Nat) : Int) by omega] at w
      refine q p [.ref t1, .ref t2] [.copy a (1 + c), .copy (a + (1 + c)) (m - (1 + c))] _ _ hp ((w.push (dpa K [.ref t1, .ref t2] ([CRow.copy a (1 + c), .copy (a + (1 + c)) (m - (1 + c))].map CRow.d)) (.cons (dp_ccopy' (sqT_of (w.i (fx t1 _) (by walk_at "mem")))) (.cons (dp_ccopy' (sqT_of (w.i (fx t2 _) (by walk_at "mem")))) .nil))).to (by walk_at "pick")) (fun r hr => ?_) ?_ (by simp)
      · simp only [List.mem_cons, List.not_mem_nil, or_false] at hr
        rcases hr with rfl | rfl
        · exact copy_ok03 (by omega) (by omega)
        · exact copy_ok03 (by omega) (by omega)
      · show (1 + c) + ((m - (1 + c)) + 0) = m
        omega
-- _law_other
theorem ok_law_other {f : Addr} {fd : FuncData} (F : FunD K "_law_other" "_law_other" (defArgs s_law_other) (defBody s_law_other) (defScope s_law_other) [] [] f fd) (T : Txt K mg) (D_law_draw : DO P w K mg base 2 "_law_draw" ["bag", "many"] [] (S2 (φdraw K))) (D_law_row_bent : DO P w K mg base 5 "_law_row_bent" ["bag", "size", "row"] [] (S3 (φbent03 K))) (D_law_rows : DO P w K mg base 5 "_law_rows" ["bag", "size", "many", "most"] [] (S4 (φrows1 K))) (D_law_split : DO P w K mg base 3 "_law_split" ["bag", "row"] [] (S2 (φsplit03 K))) : FnOk P w K mg base CX0 6 f fd ["bag", "size", "rows"] (S3 (φother03 K)) := by
  refine F.ok sc_law_other (fun vs H Q E h => ?_) (fun cdv A outer s H vs Q E hr h => ?_)
  · exact S3.len h
  · match vs, h with
    | [v0, v1, v2], h =>
    have hu := hu_of hr
    refine ⟨_, PSs.nox (pss_cons (ps_set (i := 3) sc_law_other.nd rfl (.inl rfl) (pcall D_law_draw hr (pa_cons (pv 0) (pa_cons pe_int pa_nil))))
      (pss_cons (ps_if (pt_cmpR op_eq (pv 3) pe_int (nomark _)) (pss_one (ps_ret (pe_tup (pa_cons (pv 1) (pa_cons (pcall D_law_rows hr (pa_cons (pv 0) (pa_cons (pv 1) (pa_cons (pe_callB (clLenQ (K := K)) (by rfl) T.b_len (by decide +kernel) (pa_cons (pv 2) pa_nil)) (pa_cons pe_int pa_nil))))) pa_nil))))) pss_nil)
      (pss_cons (ps_if (PW.pt (pw_or (pt_cmpR op_eq (pv 3) pe_int (nomark _)) (pw_or1 (pt_cmpR (opEqD (K := K) hr.units) (pv 2) (pe_lst pa_nil) (nomark _))))) (pss_one (ps_ret (pe_tup (pa_cons (pe_callB clMin2 (by rfl) T.b_min (by decide +kernel) (pa_cons pe_int (pa_cons (pe_op op_add (pv 1) (pcall D_law_draw hr (pa_cons (pv 0) (pa_cons pe_int pa_nil)))) pa_nil))) (pa_cons (pe_callTy (clListOf (K := K)) (by rfl) T.b_list (by decide +kernel) (pa_cons (pv 2) pa_nil)) pa_nil))))) pss_nil)
      (pss_cons (ps_set (i := 4) sc_law_other.nd rfl (.inl rfl) (pcall D_law_draw hr (pa_cons (pv 0) (pa_cons (pe_callB (clLenQ (K := K)) (by rfl) T.b_len (by decide +kernel) (pa_cons (pv 2) pa_nil)) pa_nil))))
      (pss_cons (ps_if (pt_cmpR op_eq (pv 3) pe_int (nomark _)) (pss_one (ps_ret (pe_tup (pa_cons (pv 1) (pa_cons (pe_op op_cat (pe_slice (slL (K := K)) (pv 2) po_none (po_some (pv 4))) (pe_slice (slL (K := K)) (pv 2) (po_some (pe_op op_add (pv 4) pe_int)) po_none)) pa_nil))))) pss_nil)
      (C8.pss_cut (ps_if (PW.pt (pw_and (pt_cmpR op_eq (pv 3) pe_int (nomark _)) (pw_and1 (pt_cmpR op_lt (pe_callB (clLenQ (K := K)) (by rfl) T.b_len (by decide +kernel) (pa_cons (pv 2) pa_nil)) pe_int (nomark _))))) (pss_one (ps_ret (pe_tup (pa_cons (pv 1) (pa_cons (pe_op op_cat (pe_op op_cat (pe_slice (slL (K := K)) (pv 2) po_none (po_some (pv 4))) (pcall D_law_split hr (pa_cons (pv 0) (pa_cons (pe_ix (ixL (K := K)) (pv 2) (pv 4) (fun _ _ => rfl)) pa_nil)))) (pe_slice (slL (K := K)) (pv 2) (po_some (pe_op op_add (pv 4) pe_int)) po_none)) pa_nil))))) pss_nil)
      (pss_cons (ps_if (pt_cmpR op_eq (pv 3) pe_int (nomark _)) (pss_one (ps_ret (pe_tup (pa_cons (pv 1) (pa_cons (pe_callTy (clListOf (K := K)) (by rfl) T.b_list (by decide +kernel) (pa_cons (pv 2) pa_nil)) pa_nil))))) pss_nil)
      (pss_cons (ps_set (i := 5) sc_law_other.nd rfl (.inl rfl) (pcall D_law_draw hr (pa_cons (pv 0) (pa_cons (pe_callB (clLenQ (K := K)) (by rfl) T.b_len (by decide +kernel) (pa_cons (pv 2) pa_nil)) pa_nil))))
      (pss_cons (ps_if (pt_cmpR op_eq (pv 3) pe_int (nomark _)) (pss_cons (ps_set (i := 6) sc_law_other.nd rfl (.inl rfl) (pe_callTy (clListOf (K := K)) (by rfl) T.b_list (by decide +kernel) (pa_cons (pv 2) pa_nil)))
      (pss_cons (ps_asg (pe_ix (ixL (K := K)) (pv 2) (pv 4) (fun _ _ => rfl)) (pg_sub (pv 6) (pv 5) set_list))
      (pss_cons (ps_asg (pe_ix (ixL (K := K)) (pv 2) (pv 5) (fun _ _ => rfl)) (pg_sub (pv 6) (pv 4) set_list))
      (pss_one (ps_ret (pe_tup (pa_cons (pv 1) (pa_cons (pv 6) pa_nil)))))))) pss_nil)
      (pss_cons (ps_if (pt_cmpR op_eq (pv 3) pe_int (nomark _)) (pss_one (ps_ret (pe_tup (pa_cons (pv 1) (pa_cons (pe_op op_cat (pe_slice (slL (K := K)) (pv 2) (po_some (pv 5)) po_none) (pe_slice (slL (K := K)) (pv 2) po_none (po_some (pv 5)))) pa_nil))))) pss_nil)
      (pss_cons (ps_if (pt_cmpR op_eq (pv 3) pe_int (nomark _)) (pss_one (ps_ret (pe_tup (pa_cons (pv 1) (pa_cons (pe_revL (pv 2)) pa_nil))))) pss_nil)
      (pss_cons (ps_set (i := 7) sc_law_other.nd rfl (.inl rfl) (pcall D_law_row_bent hr (pa_cons (pv 0) (pa_cons (pv 1) (pa_cons (pe_ix (ixL (K := K)) (pv 2) (pv 4) (fun _ _ => rfl)) pa_nil)))))
      (pss_one (ps_ret (pe_tup (pa_cons (pv 1) (pa_cons (pe_op op_cat (pe_op op_cat (pe_slice (slL (K := K)) (pv 2) po_none (po_some (pv 4))) (pe_lst (pa_cons (pv 7) pa_nil))) (pe_slice (slL (K := K)) (pv 2) (po_some (pe_op op_add (pv 4) pe_int)) po_none)) pa_nil))))))))))))))))), ?_⟩
    rw [show start ["bag", "size", "rows", "way", "k", "j", "near", "bent"] [v0, v1, v2] = [some v0, some v1, some v2, none, none, none, none, none] from rfl]
    obtain ⟨F, b, a, vs, n, rows, rfl, rfl, rfl, s0, hS, hD, hok, hn, q⟩ := h
    have w := ((s0.w (M := [b])).push (imL K a vs) hS).push (dpa K vs (rows.map CRow.d)) hD
    have hrl := hok.len
    have hsum := hok.sum
    have hvl : vs.length = rows.length := by rw [dpa_len hD, List.length_map]
    have gok := crows_good (fun m hm => (hok.ok m hm).s) (show rows.length ≤ 100000 by have := hok.len; omega)
    have fin : ∀ {F1 H1 : Hp} {L : List Own} {t pz : Addr} {us : List V} {o : SR}, W [b] F H F1 H1 L → Pk L [fx t (.tup [.int (o.1 : Nat), .ref pz]), mu pz (.lst us), dpa K us (o.2.map CRow.d), bag K b] → H pz = none → (∀ r ∈ o.2, CRowOk o.1 r) → o.1 ≤ 400 → o.2.length ≤ 800 → givesL o.2 ≤ 100000 → Q (.ref t) H1 :=
      fun w k h1 h2 h3 h4 h5 => q _ _ _ _ _ _ h1 (w.pk k) h2 h3 h4 h5
    have okt : ∀ k, ∀ r ∈ rows.take k, CRowOk n r := fun k r hr => hok.ok r (List.mem_of_mem_take hr)
    have okd : ∀ k, ∀ r ∈ rows.drop k, CRowOk n r := fun k r hr => hok.ok r (List.mem_of_mem_drop hr)
    walk_at "go"
    refine n_draw w (by walk_at "pick") (by decide) (by decide) fun way F1 H1 w y0 y1 => ?_
    walk_at "go"
    refine w_ite (fun h8 => ?_) (fun h8 => ?_)
    · walk_at "go"
      rw [hvl]
      refine ⟨_, b, n, (rows.length : Nat), 399, rfl, rfl, rfl, rfl, w.st (by walk_at "pick"), by omega, by omega, by omega, by decide, by decide, fun p ys rs F2 H2 hp w2 ok2 hg2 => ?_⟩
      have hp := w.g.fresh hp
      replace w := w.calB (by walk_at "pick") w2 (by walk_at "app")
      walk_at "go"
      refine n_tup w (szle (by simp)) fun t F5 H5 w => ?_
      exact fin (o := (n, rs)) w (by walk_at "pk") hp ok2.ok hn (by have := ok2.len; show rs.length ≤ 800; omega) (by show givesL rs ≤ 100000; omega)
    walk_at "go"
    refine w_ite (fun h0 => ?_) (fun h0 => ?_)
    · walk_at "go"
      refine n_draw w (by walk_at "pick") (by decide) (by decide) fun r F2 H2 w r0 r1 => ?_
      walk_at "go"
      obtain ⟨m, em⟩ : ∃ m : Nat, (if (n : Int) + r < 400 then (n : Int) + r else 400) = (m : Int) := ⟨(if (n : Int) + r < 400 then (n : Int) + r else 400).toNat, by split <;> omega⟩
      have hm : n ≤ m ∧ m ≤ 400 := by split at em <;> omega
      rw [em]
      refine n_listOf w (xs := vs) (by walk_at "sq") fun p F2 H2 w hp => ?_
      walk_at "go"
      refine n_tup w (szle (by simp)) fun t F5 H5 w => ?_
      exact fin (o := (m, rows)) w (by walk_at "pk") hp (fun r hr => crow_up03 (hok.ok r hr) hm.1) hm.2 (by show rows.length ≤ 800; omega) (by show givesL rows ≤ 100000; omega)
    walk_at "go"
    refine n_lst w (szle (by simp)) fun pe F2 H2 w hpe => ?_
    walk_at "go"
    refine ⟨.list (rows.map CRow.d), .list [], .lst (by walk_at "sq") (dpa_same w.ws _ _ hD), .lst (by walk_at "sq") .nil, good_shaped gok.1 (Nat.le_trans gok.2 (by decide)), good_shaped rfl (by decide), ?_⟩
    by_cases hr0 : rows = []
    · rw [show PyData.eqv (.list (rows.map CRow.d)) (.list []) = true from (crows_eqv rows []).mpr hr0]
      walk_at "go"
      refine n_draw w (by walk_at "pick") (by decide) (by decide) fun r F2 H2 w r0 r1 => ?_
      walk_at "go"
      obtain ⟨m, em⟩ : ∃ m : Nat, (if (n : Int) + r < 400 then (n : Int) + r else 400) = (m : Int) := ⟨(if (n : Int) + r < 400 then (n : Int) + r else 400).toNat, by split <;> omega⟩
      have hm : n ≤ m ∧ m ≤ 400 := by split at em <;> omega
      rw [em]
      refine n_listOf w (xs := vs) (by walk_at "sq") fun p F2 H2 w hp => ?_
      walk_at "go"
      refine n_tup w (szle (by simp)) fun t F5 H5 w => ?_
      exact fin (o := (m, rows)) w (by walk_at "pk") hp (fun r hr => crow_up03 (hok.ok r hr) hm.1) hm.2 (by show rows.length ≤ 800; omega) (by show givesL rows ≤ 100000; omega)
    rw [show PyData.eqv (.list (rows.map CRow.d)) (.list []) = false from Bool.eq_false_iff.mpr fun z => hr0 ((crows_eqv rows []).mp z)]
    have hl0 : 0 < rows.length := List.length_pos_iff.mpr hr0
    walk_at "go"
    refine n_draw w (by walk_at "pick") (by omega) (by omega) fun k' F2 H2 w k0 k1 => ?_
    obtain ⟨k, rfl⟩ : ∃ k : Nat, k' = (k : Int) := ⟨k'.toNat, by omega⟩
    have hk : k < vs.length := by omega
    obtain ⟨r, hr, dr0⟩ := dpa_at hD (getD_of hk)
    have ro := hok.ok r (List.mem_of_getElem? hr)
    have hrg : r.gives ≤ 400 := Nat.le_trans (row_le (List.mem_of_getElem? hr)) hsum
    have gt := gives_take03 rows k
    have gt1 := gives_take03 rows (k + 1)
    have ctl : (cutV vs none (some ((k : Nat) : Int))).length = (vs.take k).length := by rw [cut_to_V]
    have cfl : (cutV vs (some (((k + 1 : Nat) : Nat) : Int)) none).length = (vs.drop (k + 1)).length := by rw [cut_from_V]
    rw [List.length_take] at ctl
    rw [List.length_drop] at cfl
    replace w := w.to (D := [bag K b, dpa K vs (rows.map CRow.d), imL K a vs]) (by walk_at "pick")
    walk_at "go"
    refine w_ite (fun h1 => ?_) (fun h1 => ?_)
    · walk_at "go"
      refine n_slL w (by walk_at "sq") fun pa F2 H2 w hpa => ?_
      walk_at "go"
      rw [show ((k : Nat) : Int) + 1 = ((k + 1 : Nat) : Int) by omega]
      refine n_slL w (by walk_at "sq") fun pb F2 H2 w hpb => ?_
      walk_at "go"
      refine n_cat w (by walk_at "at") (by walk_at "at") (szle (by rw [ctl, cfl]; omega)) fun pz F2 H2 w hpz => ?_
      walk_at "go"
      refine n_tup w (szle (by simp)) fun t F5 H5 w => ?_
      have dv := w.dpa (K := K) (xs := vs) (ds := rows.map CRow.d) (by walk_at "mem")
      rw [cut_to_V, cut_from_V] at w
      have d3 : DpAll K F5 (vs.take k ++ vs.drop (k + 1)) ((rows.take k ++ rows.drop (k + 1)).map CRow.d) := by
        simp only [List.map_append, List.map_take, List.map_drop, List.map_reverse, List.map_set]
        exact dpa_app (dpa_takeN k dv) (dpa_dropN (k + 1) dv)
      refine fin (o := (n, rows.take k ++ rows.drop (k + 1))) (w.push (dpa K _ _) d3) (by walk_at "pk") hpz ?_ hn ?_ ?_
      · exact fun r hr => (List.mem_append.mp hr).elim (okt k r) (okd (k + 1) r)
      · show (rows.take k ++ rows.drop (k + 1)).length ≤ 800
        simp only [List.length_append, List.length_take, List.length_drop, List.length_reverse, List.length_set, List.length_cons, List.length_nil]
        omega
      · show givesL (rows.take k ++ rows.drop (k + 1)) ≤ 100000
        rw [gives_app03]; omega
    walk_at "go"
    refine n_cut w (fun σ L => σ = [some (.ref b), some (.int (n : Nat)), some (.ref a), some (.int way), some (.int (k : Nat)), none, none, none] ∧ L = [bag K b, dpa K vs (rows.map CRow.d), imL K a vs]) ?_ (fun σ L F' H' hp w => ?_)
    · walk_at "go"
      by_cases h2 : way = 2 ∧ rows.length < 400
      · rw [decide_eq_true h2.1]
        walk_at "go"
        rw [decide_eq_true (show ((vs.length : Nat) : Int) < 400 by omega)]
        walk_at "go"
        refine n_slL w (by walk_at "sq") fun pa F2 H2 w hpa => ?_
        walk_at "go"
        refine w_ixL _ _ (by walk_at "sq") (atI_nat (getD_of hk)) ?_
        walk_at "go"
        refine ⟨_, b, n, r, rfl, w.st (by walk_at "pick"), dp_same w.ff _ _ dr0, ro, hn, hrg, fun ps ys rs F2 H2 hps w2 okq hgv hln => ?_⟩
        have hps := w.g.fresh hps
        replace w := w.calB (by walk_at "pick") w2 (by walk_at "app")
        have hyl : ys.length = rs.length := by rw [dpa_len (w.dpa (K := K) (xs := ys) (ds := rs.map CRow.d) (by walk_at "mem")), List.length_map]
        walk_at "go"
        refine n_cat w (by walk_at "at") (by walk_at "at") (szle (by rw [ctl]; omega)) fun pc F2 H2 w hpc => ?_
        walk_at "go"
        rw [show ((k : Nat) : Int) + 1 = ((k + 1 : Nat) : Int) by omega]
        refine n_slL w (by walk_at "sq") fun pb F2 H2 w hpb => ?_
        walk_at "go"
        refine n_cat w (by walk_at "at") (by walk_at "at") (szle (by rw [List.length_append, ctl, cfl]; omega)) fun pz F2 H2 w hpz => ?_
        walk_at "go"
        refine n_tup w (szle (by simp)) fun t F5 H5 w => ?_
        have dv := w.dpa (K := K) (xs := vs) (ds := rows.map CRow.d) (by walk_at "mem")
        have dy := w.dpa (K := K) (xs := ys) (ds := rs.map CRow.d) (by walk_at "mem")
        rw [cut_to_V, cut_from_V] at w
        have d3 : DpAll K F5 (vs.take k ++ ys ++ vs.drop (k + 1)) ((rows.take k ++ rs ++ rows.drop (k + 1)).map CRow.d) := by
          simp only [List.map_append, List.map_take, List.map_drop, List.map_reverse, List.map_set]
          exact dpa_app (dpa_app (dpa_takeN k dv) dy) (dpa_dropN (k + 1) dv)
        refine fin (o := (n, rows.take k ++ rs ++ rows.drop (k + 1))) (w.push (dpa K _ _) d3) (by walk_at "pk") hpz ?_ hn ?_ ?_
        · exact fun q hq => (List.mem_append.mp hq).elim (fun hq => (List.mem_append.mp hq).elim (okt k q) (okq q)) (okd (k + 1) q)
        · show (rows.take k ++ rs ++ rows.drop (k + 1)).length ≤ 800
          simp only [List.length_append, List.length_take, List.length_drop, List.length_reverse, List.length_set, List.length_cons, List.length_nil]
          omega
        · show givesL (rows.take k ++ rs ++ rows.drop (k + 1)) ≤ 100000
          rw [gives_app03, gives_app03]; omega
      · by_cases h3 : way = 2
        · rw [decide_eq_true h3]
          walk_at "go"
          rw [decide_eq_false (show ¬ ((vs.length : Nat) : Int) < 400 by omega)]
          walk_at "go"
          exact nx_mk w ⟨rfl, rfl⟩ (by walk_at "pk")
        · rw [decide_eq_false h3]
          walk_at "go"
          exact nx_mk w ⟨rfl, rfl⟩ (by walk_at "pk")
    obtain ⟨rfl, rfl⟩ := hp
    walk_at "go"
    refine w_ite (fun h3 => ?_) (fun h3 => ?_)
    · walk_at "go"
      refine n_listOf w (xs := vs) (by walk_at "sq") fun p F2 H2 w hp => ?_
      walk_at "go"
      refine n_tup w (szle (by simp)) fun t F5 H5 w => ?_
      exact fin (o := (n, rows)) w (by walk_at "pk") hp hok.ok hn (by show rows.length ≤ 800; omega) (by show givesL rows ≤ 100000; omega)
    walk_at "go"
    refine n_draw w (by walk_at "pick") (by omega) (by omega) fun j' F2 H2 w j0 j1 => ?_
    obtain ⟨j, rfl⟩ : ∃ j : Nat, j' = (j : Int) := ⟨j'.toNat, by omega⟩
    have hj : j < vs.length := by omega
    obtain ⟨rj, hrj, drj0⟩ := dpa_at hD (getD_of hj)
    have roj := hok.ok rj (List.mem_of_getElem? hrj)
    have hrgj : rj.gives ≤ 400 := Nat.le_trans (row_le (List.mem_of_getElem? hrj)) hsum
    have gtj := gives_take03 rows j
    walk_at "go"
    refine w_ite (fun h4 => ?_) (fun h4 => ?_)
    · walk_at "go"
      refine n_listOf w (xs := vs) (by walk_at "sq") fun pz F2 H2 w hpz => ?_
      walk_at "go"
      refine w_ixL _ _ (by walk_at "sq") (atI_nat (getD_of hk)) ?_
      walk_at "go"
      refine n_setL w (p := pz) (by walk_at "pick") j (ixNat03 (by omega)) fun H5 w => ?_
      walk_at "go"
      refine w_ixL _ _ (by walk_at "sq") (atI_nat (getD_of hj)) ?_
      walk_at "go"
      refine n_setL w (p := pz) (by walk_at "pick") k (ixNat03 (by rw [List.length_set]; omega)) fun H5 w => ?_
      walk_at "go"
      refine n_tup w (szle (by simp)) fun t F5 H5 w => ?_
      have dv := w.dpa (K := K) (xs := vs) (ds := rows.map CRow.d) (by walk_at "mem")
      have d3 : DpAll K F5 ((vs.set j (vs.getD k .non)).set k (vs.getD j .non)) (((rows.set j r).set k rj).map CRow.d) := by
        simp only [List.map_append, List.map_take, List.map_drop, List.map_reverse, List.map_set]
        exact dpa_set03 k (dpa_set03 j dv (dp_same w.ff _ _ dr0)) (dp_same w.ff _ _ drj0)
      refine fin (o := (n, (rows.set j r).set k rj)) (w.push (dpa K _ _) d3) (by walk_at "pk") hpz ?_ hn ?_ ?_
      · exact fun q hq => (List.mem_or_eq_of_mem_set hq).elim (fun hq => (List.mem_or_eq_of_mem_set hq).elim (hok.ok q) fun e => e ▸ ro) fun e => e ▸ roj
      · show ((rows.set j r).set k rj).length ≤ 800
        simp only [List.length_append, List.length_take, List.length_drop, List.length_reverse, List.length_set, List.length_cons, List.length_nil]
        omega
      · show givesL ((rows.set j r).set k rj) ≤ 100000
        have g1 := gives_set03 (r := rj) (rows.set j r) k
        have g2 := gives_set03 (r := r) rows j
        omega
    walk_at "go"
    refine w_ite (fun h5 => ?_) (fun h5 => ?_)
    · walk_at "go"
      refine n_slL w (by walk_at "sq") fun pa F2 H2 w hpa => ?_
      walk_at "go"
      refine n_slL w (by walk_at "sq") fun pb F2 H2 w hpb => ?_
      walk_at "go"
      have cjl : (cutV vs none (some ((j : Nat) : Int))).length = (vs.take j).length := by rw [cut_to_V]
      have cjf : (cutV vs (some ((j : Nat) : Int)) none).length = (vs.drop j).length := by rw [cut_from_V]
      rw [List.length_take] at cjl
      rw [List.length_drop] at cjf
      refine n_cat w (by walk_at "at") (by walk_at "at") (szle (by rw [cjf, cjl]; omega)) fun pz F2 H2 w hpz => ?_
      walk_at "go"
      refine n_tup w (szle (by simp)) fun t F5 H5 w => ?_
      have dv := w.dpa (K := K) (xs := vs) (ds := rows.map CRow.d) (by walk_at "mem")
      rw [cut_to_V, cut_from_V] at w
      have d3 : DpAll K F5 (vs.drop j ++ vs.take j) ((rows.drop j ++ rows.take j).map CRow.d) := by
        simp only [List.map_append, List.map_take, List.map_drop, List.map_reverse, List.map_set]
        exact dpa_app (dpa_dropN j dv) (dpa_takeN j dv)
      refine fin (o := (n, rows.drop j ++ rows.take j)) (w.push (dpa K _ _) d3) (by walk_at "pk") hpz ?_ hn ?_ ?_
      · exact fun r hr => (List.mem_append.mp hr).elim (okd j r) (okt j r)
      · show (rows.drop j ++ rows.take j).length ≤ 800
        simp only [List.length_append, List.length_take, List.length_drop, List.length_reverse, List.length_set, List.length_cons, List.length_nil]
        omega
      · show givesL (rows.drop j ++ rows.take j) ≤ 100000
        rw [gives_app03]; omega
    walk_at "go"
    refine w_ite (fun h6 => ?_) (fun h6 => ?_)
    · walk_at "go"
      refine n_revL w (xs := vs) (by walk_at "sq") fun pz F2 H2 w hpz => ?_
      walk_at "go"
      refine n_tup w (szle (by simp)) fun t F5 H5 w => ?_
      have dv := w.dpa (K := K) (xs := vs) (ds := rows.map CRow.d) (by walk_at "mem")
      have d3 : DpAll K F5 (vs.reverse) ((rows.reverse).map CRow.d) := by
        simp only [List.map_append, List.map_take, List.map_drop, List.map_reverse, List.map_set]
        exact dpa_rev dv
      refine fin (o := (n, rows.reverse)) (w.push (dpa K _ _) d3) (by walk_at "pk") hpz ?_ hn ?_ ?_
      · exact fun r hr => hok.ok r (List.mem_reverse.mp hr)
      · show (rows.reverse).length ≤ 800
        simp only [List.length_append, List.length_take, List.length_drop, List.length_reverse, List.length_set, List.length_cons, List.length_nil]
        omega
      · show givesL (rows.reverse) ≤ 100000
        rw [gives_rev03]; omega
    walk_at "go"
    refine w_ixL _ _ (by walk_at "sq") (atI_nat (getD_of hk)) ?_
    walk_at "go"
    refine ⟨_, b, n, r, rfl, rfl, w.st (by walk_at "pick"), dp_same w.ff _ _ dr0, ro, hn, hrg, fun v r2 F2 H2 w2 ok2 hg2 => ?_⟩
    replace w := w.calB (by walk_at "pick") w2 (by walk_at "app")
    walk_at "go"
    refine n_slL w (by walk_at "sq") fun pa F2 H2 w hpa => ?_
    walk_at "go"
    refine n_lst w (szle (by simp)) fun pm F2 H2 w hpm => ?_
    walk_at "go"
    refine n_cat w (by walk_at "at") (by walk_at "at") (szle (by rw [ctl]; show _ + 1 ≤ _; omega)) fun pc F2 H2 w hpc => ?_
    walk_at "go"
    rw [show ((k : Nat) : Int) + 1 = ((k + 1 : Nat) : Int) by omega]
    refine n_slL w (by walk_at "sq") fun pb F2 H2 w hpb => ?_
    walk_at "go"
    refine n_cat w (by walk_at "at") (by walk_at "at") (szle (by rw [List.length_append, ctl, cfl]; show _ + 1 + _ ≤ _; omega)) fun pz F2 H2 w hpz => ?_
    walk_at "go"
    refine n_tup w (szle (by simp)) fun t F5 H5 w => ?_
    have dv := w.dpa (K := K) (xs := vs) (ds := rows.map CRow.d) (by walk_at "mem")
    have dy := w.dat (K := K) (v := v) (d := CRow.d r2) (by walk_at "mem")
    rw [cut_to_V, cut_from_V] at w
    have d3 : DpAll K F5 (vs.take k ++ [v] ++ vs.drop (k + 1)) ((rows.take k ++ [r2] ++ rows.drop (k + 1)).map CRow.d) := by
      simp only [List.map_append, List.map_take, List.map_drop, List.map_reverse, List.map_set]
      exact dpa_app (dpa_app (dpa_takeN k dv) (.cons dy .nil)) (dpa_dropN (k + 1) dv)
    refine fin (o := (n, rows.take k ++ [r2] ++ rows.drop (k + 1))) (w.push (dpa K _ _) d3) (by walk_at "pk") hpz ?_ hn ?_ ?_
    · exact fun q hq => (List.mem_append.mp hq).elim (fun hq => (List.mem_append.mp hq).elim (okt k q) fun hq => by rw [List.mem_singleton.mp hq]; exact ok2) (okd (k + 1) q)
    · show (rows.take k ++ [r2] ++ rows.drop (k + 1)).length ≤ 800
      simp only [List.length_append, List.length_take, List.length_drop, List.length_reverse, List.length_set, List.length_cons, List.length_nil]
      omega
    · show givesL (rows.take k ++ [r2] ++ rows.drop (k + 1)) ≤ 100000
      rw [gives_app03, gives_app03]
      have : givesL [r2] = r2.gives := Nat.add_zero _
      omega
-- _law_pair_right
theorem ok_law_pair_right {f : Addr} {fd : FuncData} (F : FunD K "_law_pair_right" "_law_pair_right" (defArgs s_law_pair_right) (defBody s_law_pair_right) (defScope s_law_pair_right) [] [] f fd) (T : Txt K mg) (D_law_truth : DO P w K mg base 1 "_law_truth" ["found", "due"] [] (S2 φtruth03)) (DM_ChangeX_eqX : DM P w K mg base 6 "Change" "__eq__" ["self", "other"] [] (S2 (φceqX K))) : FnOk P w K mg base CX0 9 f fd ["one", "other", "due"] (S3 (φpair03 K)) := by
  refine F.ok sc_law_pair_right (fun vs H Q E h => ?_) (fun cdv A outer s H vs Q E hr h => ?_)
  · exact S3.len h
  · match vs, h with
    | [v0, v1, v2], h =>
    have hu := hu_of hr
    refine ⟨_, PSs.nox (pss_cons (ps_if (PW.pt (pw_or (pt_not (pt_val (pcall D_law_truth hr (pa_cons (pe_cmpR (opEqO DM_ChangeX_eqX hr (by decide)) (pv 0) (pv 1) (nomark _)) (pa_cons (pv 2) pa_nil))))) (pw_or (pt_not (pt_val (pcall D_law_truth hr (pa_cons (pe_cmpR (opEqO DM_ChangeX_eqX hr (by decide)) (pv 1) (pv 0) (nomark _)) (pa_cons (pv 2) pa_nil))))) (pw_or1 (pt_not (pt_val (pcall D_law_truth hr (pa_cons (pe_cmpR (opNeO DM_ChangeX_eqX T.n_Change hr (by decide)) (pv 0) (pv 1) (nomark _)) (pa_cons (pe_not (pv 2)) pa_nil))))))))) (pss_one (ps_ret pe_bl)) pss_nil)
      (pss_one (ps_ret (pe_and (pcall D_law_truth hr (pa_cons (pe_cmpR (opInO DM_ChangeX_eqX hr (by decide)) (pv 0) (pe_lst (pa_cons (pv 1) pa_nil)) (by rfl)) (pa_cons (pv 2) pa_nil))) (pe_one (pe_cmpR op_eq (peBM (K := K) PySem.F.plainAttrs_list PySem.F.slot_list_count PySem.F.type_list_count (mtCountO DM_ChangeX_eqX hr (by decide)) (pe_lst (pa_cons (pv 1) (pa_cons (pv 0) pa_nil))) (pa_cons (pv 0) pa_nil)) (pe_op op_add pe_int (pe_callTy clInt1 (by rfl) T.b_int (by decide +kernel) (pa_cons (pv 2) pa_nil))) (nomark _))))))), ?_⟩
    rw [show start ["one", "other", "due"] [v0, v1, v2] = [some v0, some v1, some v2] from rfl]
    have kC := T.k_Change
    have kS := T.na_Change_size
    have kR := T.na_Change_rows
    
    obtain ⟨F, a, b, n1, n2, rs1, rs2, e, rfl, rfl, rfl, hw, hC1, hC2, ok1, ok2, hne, he, q⟩ := h
    obtain ⟨dx1, fs1, hi1⟩ := chg_ins (Same.refl F) hC1
    obtain ⟨dx2, fs2, hi2⟩ := chg_ins (Same.refl F) hC2
    have w := ((((W.start (M := []) hw).push (chg K (.ref a) n1 rs1) hC1).push (chg K (.ref b) n2 rs2) hC2).push (fx a _) hi1).push (fx b _) hi2
    have he2 : e = true ↔ n2 = n1 ∧ rs2 = rs1 := he.trans ⟨fun z => ⟨z.1.symm, z.2.symm⟩, fun z => ⟨z.1.symm, z.2.symm⟩⟩
    walk_at "go"
    refine n_eqO (by walk_at "at") (by walk_at "at") ?_
    refine ⟨_, n1, rs1, w.fh, w.i (chg K (.ref a) n1 rs1) (by walk_at "mem"), ok1, .inl ⟨n2, rs2, e, w.i (chg K (.ref b) n2 rs2) (by walk_at "mem"), ok2, he, fun F2 H2 w2 => ⟨_, rfl, ?_⟩⟩⟩
    replace w := w.cal .nil w2 (by walk_at "app")
    walk_at "go"
    refine ⟨e, e, rfl, rfl, ?_⟩
    rw [decide_eq_true (show e = e from rfl)]
    walk_at "go"
    refine n_eqO (by walk_at "at") (by walk_at "at") ?_
    refine ⟨_, n2, rs2, w.fh, w.i (chg K (.ref b) n2 rs2) (by walk_at "mem"), ok2, .inl ⟨n1, rs1, e, w.i (chg K (.ref a) n1 rs1) (by walk_at "mem"), ok1, he2, fun F2 H2 w2 => ⟨_, rfl, ?_⟩⟩⟩
    replace w := w.cal .nil w2 (by walk_at "app")
    walk_at "go"
    refine ⟨e, e, rfl, rfl, ?_⟩
    rw [decide_eq_true (show e = e from rfl)]
    walk_at "go"
    refine ⟨a, b, _, _, _, _, rfl, rfl, by walk_at "at", by walk_at "at", ?_⟩
    refine ⟨_, n1, rs1, w.fh, w.i (chg K (.ref a) n1 rs1) (by walk_at "mem"), ok1, .inl ⟨n2, rs2, e, w.i (chg K (.ref b) n2 rs2) (by walk_at "mem"), ok2, he, fun F2 H2 w2 => ⟨_, rfl, ?_⟩⟩⟩
    replace w := w.cal .nil w2 (by walk_at "app")
    walk_at "go"
    refine ⟨!e, !e, rfl, rfl, ?_⟩
    rw [decide_eq_true (show (!e) = (!e) from rfl)]
    walk_at "go"
    refine n_lst w (szle (by simp)) fun p1 F1 H1 w hp1 => ?_
    walk_at "go"
    refine ⟨a, p1, [.ref b], fun _ => e, if e = true then 0 else 1, rfl, rfl, by walk_at "at", ⟨⟨dx1, fs1, by walk_at "at"⟩, fun i v hv => ?_⟩, by cases e <;> simp, by cases e <;> simp, by cases e <;> simp, fun H' hx => ?_⟩
    · cases i with
      | zero =>
        cases hv
        exact ⟨b, dx2, fs2, rfl, by walk_at "at", eqs_ceq w.fh (w.i (chg K (.ref a) n1 rs1) (by walk_at "mem")) (w.i (chg K (.ref b) n2 rs2) (by walk_at "mem")) ok1 ok2 hne he2⟩
      | succ i => cases hv
    replace w := w.ext hx
    rw [show decide ((if e = true then 0 else 1) < [V.ref b].length) = e by cases e <;> rfl]
    walk_at "go"
    refine ⟨e, e, rfl, rfl, ?_⟩
    rw [decide_eq_true (show e = e from rfl)]
    walk_at "go"
    refine n_lst w (szle (by simp)) fun p2 F1 H1 w hp2 => ?_
    walk_at "go"
    refine ⟨a, p2, [.ref b, .ref a], fun i => if i = 0 then e else true, rfl, rfl, by walk_at "at", ⟨⟨dx1, fs1, by walk_at "at"⟩, fun i v hv => ?_⟩, fun H' hx => ?_⟩
    · match i, hv with
      | 0, hv =>
        cases hv
        exact ⟨b, dx2, fs2, rfl, by walk_at "at", eqs_ceq w.fh (w.i (chg K (.ref a) n1 rs1) (by walk_at "mem")) (w.i (chg K (.ref b) n2 rs2) (by walk_at "mem")) ok1 ok2 hne he2⟩
      | 1, hv =>
        cases hv
        exact ⟨a, dx1, fs1, rfl, by walk_at "at", .inl ⟨rfl, rfl⟩⟩
      | i + 2, hv => cases hv
    replace w := w.ext hx
    walk_at "go"
    rw [show decide (((cntE (fun i => if i = 0 then e else true) [V.ref b, V.ref a].length : Nat) : Int) = 1 + if e = true then 1 else 0) = true by cases e <;> rfl]
    exact q _ _ (w.to .nil)
-- law
theorem ok_law {f : Addr} {fd : FuncData} (F : FunD K "law" "law" (defArgs s_law) (defBody s_law) (defScope s_law) [] [] f fd) (T : Txt K mg) (D_law_alike : DO P w K mg base 6 "_law_alike" ["found", "due"] [] (S2 (φalike K 6))) (D_law_bag : DO P w K mg base 1 "_law_bag" ["script"] [] (S1 (φbag K))) (D_law_draw : DO P w K mg base 2 "_law_draw" ["bag", "many"] [] (S2 (φdraw K))) (D_law_gives : DO P w K mg base 1 "_law_gives" ["rows"] [] (S1 (φgives03 K))) (D_law_other : DO P w K mg base 6 "_law_other" ["bag", "size", "rows"] [] (S3 (φother03 K))) (D_law_pair_right : DO P w K mg base 9 "_law_pair_right" ["one", "other", "due"] [] (S3 (φpair03 K))) (D_law_rows : DO P w K mg base 5 "_law_rows" ["bag", "size", "many", "most"] [] (S4 (φrows1 K))) (D_law_size : DO P w K mg base 3 "_law_size" ["bag"] [] (S1 (φsize1 K))) (D_law_truth : DO P w K mg base 1 "_law_truth" ["found", "due"] [] (S2 φtruth03)) (D_law_unlike_all : DO P w K mg base 8 "_law_unlike_all" ["change", "size", "rows"] [] (S3 (φunlike03 K))) (DM_ChangeX_eqX : DM P w K mg base 6 "Change" "__eq__" ["self", "other"] [] (S2 (φceqX K))) (DM_ChangeX_lenX : DM P w K mg base 1 "Change" "__len__" ["self"] [] (S1 (φclen K))) (DN_Change_2 : DN P w K mg base 2 "Change" ["self", "size", "rows"] [] (S3 (φinit K))) : FnOk P w K mg base CX0 12 f fd ["script"] (S1 (φlaw K)) := by
  refine F.ok sc_law (fun vs H Q E h => ?_) (fun cdv A outer s H vs Q E hr h => ?_)
  · exact S1.len h
  · match vs, h with
    | [v0], h =>
    have hu := hu_of hr
    refine ⟨_, PSs.nox (pss_cons (ps_set (i := 1) sc_law.nd rfl (.inl rfl) (pcall D_law_bag hr (pa_cons (pv 0) pa_nil)))
      (pss_cons (ps_set (i := 2) sc_law.nd rfl (.inr rfl) (pcall D_law_size hr (pa_cons (pv 1) pa_nil)))
      (pss_cons (ps_set (i := 3) sc_law.nd rfl (.inr rfl) (pcall D_law_rows hr (pa_cons (pv 1) (pa_cons (pv 2) (pa_cons (pcall D_law_draw hr (pa_cons (pv 1) (pa_cons (pe_ix (ixL (K := K)) (pe_lst (pa_cons pe_int (pa_cons pe_int (pa_cons pe_int (pa_cons pe_int pa_nil))))) (pcall D_law_draw hr (pa_cons (pv 1) (pa_cons pe_int pa_nil))) (fun _ _ => rfl)) pa_nil))) (pa_cons pe_int pa_nil))))))
      (pss_cons (ps_set (i := 4) sc_law.nd rfl (.inl rfl) (pmake DN_Change_2 hr (pa_cons (pv 2) (pa_cons (pe_callTy (clListOf (K := K)) (by rfl) T.b_list (by decide +kernel) (pa_cons (pv 3) pa_nil)) pa_nil))))
      (pss_cons (ps_if (PW.pt (pw_or (pt_not (pt_val (pcall D_law_alike hr (pa_cons (pe_callB (clLenO DM_ChangeX_lenX hr (by decide)) (by rfl) T.b_len (by decide +kernel) (pa_cons (pv 4) pa_nil)) (pa_cons (pe_callB (clLenQ (K := K)) (by rfl) T.b_len (by decide +kernel) (pa_cons (pv 3) pa_nil)) pa_nil))))) (pw_or1 (pt_cmpR op_ne (pe_callTy (clBoolO DM_ChangeX_lenX T.bo_Change hr (by decide)) (by rfl) T.b_bool (by decide +kernel) (pa_cons (pv 4) pa_nil)) (pe_cmpR (opNeD (K := K) hr.units) (pv 3) (pe_lst pa_nil) (nomark _)) (nomark _))))) (pss_one (ps_ret pe_bl)) pss_nil)
      (pss_cons (ps_if (pt_not (pt_val (pcall D_law_unlike_all hr (pa_cons (pv 4) (pa_cons (pv 2) (pa_cons (pv 3) pa_nil)))))) (pss_one (ps_ret pe_bl)) pss_nil)
      (pss_cons (ps_set (i := 5) sc_law.nd rfl (.inr rfl) (pe_lst pa_nil))
      (pss_cons (ps_for PassesOwn.never rfl (pi_range1 rfl T.b_range (pa_cons (pe_op op_add pe_int (pe_callB clMin2 (by rfl) T.b_min (by decide +kernel) (pa_cons pe_int (pa_cons (pe_op op_fdivW (pe_callB (clLenQ (K := K)) (by rfl) T.b_len (by decide +kernel) (pa_cons (pv 0) pa_nil)) pe_int) pa_nil)))) pa_nil)) (pg_name (i := 6) sc_law.nd rfl (.inl rfl)) (pss_cons (ps_asg (pcall D_law_other hr (pa_cons (pv 1) (pa_cons (pv 2) (pa_cons (pv 3) pa_nil)))) (pg_tup (by rfl) (pgs_cons (pg_name (i := 7) sc_law.nd rfl (.inl rfl)) (pgs_cons (pg_name (i := 8) sc_law.nd rfl (.inl rfl)) pgs_nil))))
      (pss_one (ps_if (pt_cmpR op_le (pcall D_law_gives hr (pa_cons (pv 8) pa_nil)) pe_int (nomark _)) (pss_one (ps_expr (peBM (K := K) PySem.F.plainAttrs_list PySem.F.slot_list_append PySem.F.type_list_append mt_append (pv 5) (pa_cons (pe_tup (pa_cons (pv 7) (pa_cons (pv 8) pa_nil))) pa_nil)))) pss_nil))))
      (pss_cons (ps_setLc (i := 9) (own := [("near", 7), ("some", 8)]) (g := gTup K 2 (gCons (gName 7) (gCons (gName 8) gNil))) rfl sc_law.nd rfl rfl (sw_true rfl rfl rfl (by decide +kernel)) (pi_list (pv 5)) (blkOk_by (own := [("near", 7), ("some", 8)]) (N := ["script", "bag", "size", "rows", "change", "others", "k", "near", "some", "made", "where"]) (sc := defScope s_law) (by decide +kernel)) (fun _ _ _ _ _ => pgT (K := K) (n := 2) rfl (pgs_cons (pg_name (i := 7) sc_law.nd rfl (by first | exact Or.inl rfl | exact Or.inr rfl)) (pgs_cons (pg_name (i := 8) sc_law.nd rfl (by first | exact Or.inl rfl | exact Or.inr rfl)) pgs_nil))) (fun _ _ _ _ _ => pts_nil) (fun _ _ _ _ _ => (pmakeQ DN_Change_2 hr (pa_cons (pv 7) (pa_cons (pe_callTy (clListOf (K := K)) (by rfl) T.b_list (by decide +kernel) (pa_cons (pv 8) pa_nil)) pa_nil)))))
      (pss_cons (ps_for PassesOwn.never rfl (pi_range1 rfl T.b_range (pa_cons (pe_callB (clLenQ (K := K)) (by rfl) T.b_len (by decide +kernel) (pa_cons (pv 9) pa_nil)) pa_nil)) (pg_name (i := 6) sc_law.nd rfl (.inl rfl)) (pss_one (ps_if (pt_not (pt_val (pcall D_law_pair_right hr (pa_cons (pv 4) (pa_cons (pe_ix (ixL (K := K)) (pv 9) (pv 6) (fun _ _ => rfl)) (pa_cons (pe_cmpR (opEqD (K := K) hr.units) (pe_ix (ixL (K := K)) (pv 5) (pv 6) (fun _ _ => rfl)) (pe_tup (pa_cons (pv 2) (pa_cons (pv 3) pa_nil))) (nomark _)) pa_nil)))))) (pss_one (ps_ret pe_bl)) pss_nil)))
      (pss_cons (ps_setLc (i := 10) (own := [("k", 6)]) (g := gName 6) rfl sc_law.nd rfl rfl (sw_true rfl rfl rfl (by decide +kernel)) (pi_range1 rfl T.b_range (pa_cons (pe_callB (clLenQ (K := K)) (by rfl) T.b_len (by decide +kernel) (pa_cons (pv 5) pa_nil)) pa_nil)) (blkOk_by (own := [("k", 6)]) (N := ["script", "bag", "size", "rows", "change", "others", "k", "near", "some", "made", "where"]) (sc := defScope s_law) (by decide +kernel)) (fun _ _ _ _ _ => pg_name (i := 6) sc_law.nd rfl (Or.inl rfl)) (fun _ _ _ _ _ => pts_one (pt_cmpR (opEqD (K := K) hr.units) (pe_ix (ixL (K := K)) (pv 5) (pv 6) (fun _ _ => rfl)) (pe_tup (pa_cons (pv 2) (pa_cons (pv 3) pa_nil))) (nomark _))) (fun _ _ _ _ _ => (pv 6)))
      (pss_cons (ps_if (pt_not (pt_val (pcall D_law_truth hr (pa_cons (pe_cmpR (opInO DM_ChangeX_eqX hr (by decide)) (pv 4) (pv 9) (by rfl)) (pa_cons (pe_cmpR (opNeD (K := K) hr.units) (pv 10) (pe_lst pa_nil) (nomark _)) pa_nil))))) (pss_one (ps_ret pe_bl)) pss_nil)
      (pss_one (ps_ret (pe_or (pe_cmpR (opEqD (K := K) hr.units) (pv 10) (pe_lst pa_nil) (nomark _)) (pe_one (pe_cmpR op_eq (peBM (K := K) PySem.F.plainAttrs_list PySem.F.slot_list_index PySem.F.type_list_index (mtIndexO DM_ChangeX_eqX hr (by decide)) (pv 9) (pa_cons (pv 4) pa_nil)) (pe_ix (ixL (K := K)) (pv 10) pe_int (fun _ _ => rfl)) (nomark _)))))))))))))))))), ?_⟩
    rw [show start ["script", "bag", "size", "rows", "change", "others", "k", "near", "some", "made", "where"] [v0] = [some v0, none, none, none, none, none, none, none, none, none, none] from rfl]
    have kC := T.k_Change
    have kS := T.na_Change_size
    have kR := T.na_Change_rows
    
    obtain ⟨sc, ns, rfl, hS, hl, q⟩ := h
    walk_at "go"
    refine ⟨sc, ns, rfl, hS, hl, fun b F1 H1 g1 hb => ?_⟩
    have w := W.bag0 g1 hb
    replace w := w.push (imL K sc (ns.map V.int)) (sqL_same w.ff hS)
    walk_at "go"
    refine ⟨_, b, rfl, w.st (by walk_at "pick"), fun n F2 H2 w2 hn => ?_⟩
    replace w := w.calB (by walk_at "pick") w2 (by walk_at "app")
    walk_at "go"
    refine n_lst w (szle (by simp)) fun p1 F1 H1 w hp1 => ?_
    walk_at "go"
    refine n_draw w (by walk_at "pick") (by decide) (by decide) fun r2 F1 H1 w r20 r21 => ?_
    obtain ⟨mz, em2, z0, z1⟩ := pick_ix (ns := [7, 7, 41, 401]) (i := r2) (lo := 7) (hi := 401) (by omega) (by show r2 < 4; omega) (by
      intro x hx
      simp only [List.mem_cons, List.not_mem_nil, or_false] at hx
      rcases hx with rfl | rfl | rfl | rfl <;> omega)
    walk_at "go"
    refine w_ixL _ _ (by walk_at "sq") em2 ?_
    walk_at "go"
    refine n_draw w (by walk_at "pick") (by omega) (by omega) fun r3 F1 H1 w r30 r31 => ?_
    walk_at "go"
    refine ⟨_, b, n, r3, 399, rfl, rfl, rfl, rfl, w.st (by walk_at "pick"), hn, by omega, by omega, by decide, by decide, fun pr vs rows F2 H2 hpr w2 hok hgm => ?_⟩
    have hpr := w.g.fresh hpr
    replace w := w.calB (by walk_at "pick") w2 (by walk_at "app")
    obtain ⟨F2, w⟩ := w.fzL (p := pr) (by walk_at "pick") hpr
    replace w := w.push (imL K pr vs) (sqL_of (w.i (fx pr _) (by walk_at "mem")))
    have hrl := hok.len
    have hvl : vs.length = rows.length := by rw [dpa_len (w.dpa (K := K) (xs := vs) (ds := rows.map CRow.d) (by walk_at "mem")), List.length_map]
    have gok := crows_good (fun m hm => (hok.ok m hm).s) (show rows.length ≤ 100000 by omega)
    walk_at "go"
    refine n_listOf w (xs := vs) (by walk_at "sq") fun pl F2 H2 w hpl => ?_
    obtain ⟨F2, w⟩ := w.fzL (p := pl) (by walk_at "pick") hpl
    walk_at "go"
    refine n_make w fun a dx H7 w hc2 => ?_
    refine c_init w (by walk_at "pick") hc2 (sqL_of (w.i (fx pl _) (by walk_at "mem"))) (w.dpa (by walk_at "mem")) (by omega) hok fun F8 H8 w => ?_
    have hC : Chg K _ (.ref a) n rows := w.i (chg K (.ref a) n rows) (by walk_at "mem")
    obtain ⟨dxa, fsa, hia⟩ := chg_ins (Same.refl _) hC
    replace w := w.push (fx a _) hia
    clear hC
    replace w := w.to (D := [bag K b, imL K sc (ns.map V.int), imL K pr vs, dpa K vs (rows.map CRow.d), chg K (.ref a) n rows, fx a (.ins (He.ga K "Change") dxa fsa)]) (by walk_at "pick")
    walk_at "go"
    refine n_lenO (by walk_at "at") ?_
    refine ⟨_, n, rows, w.fh, w.i (chg K (.ref a) n rows) (by walk_at "mem"), by omega, fun F2 H2 w2 => ⟨_, rfl, ⟨by omega, by omega⟩, ?_⟩⟩
    replace w := w.cal .nil w2 (by walk_at "app")
    walk_at "go"
    rw [hvl]
    refine ⟨_, .int (rows.length : Nat), w.fh, .int _, .int _, by show (0 : Nat) < 6; decide, rfl, fun F9 H9 g9 => ?_⟩
    replace w := w.gr0 g9
    walk_at "go"
    refine ⟨a, _, _, rfl, by walk_at "at", ?_⟩
    refine ⟨_, n, rows, w.fh, w.i (chg K (.ref a) n rows) (by walk_at "mem"), by omega, fun F2 H2 w2 => ⟨_, rfl, ⟨by omega, by omega⟩, ?_⟩⟩
    replace w := w.cal .nil w2 (by walk_at "app")
    walk_at "go"
    refine n_lst w (szle (by simp)) fun pe F2 H2 w hpe => ?_
    walk_at "go"
    refine ⟨.list (rows.map CRow.d), .list [], .lst (by walk_at "sq") (dpa_same w.fh _ _ (w.dpa (by walk_at "mem"))), .lst (by walk_at "sq") .nil, good_shaped gok.1 (Nat.le_trans gok.2 (by decide)), good_shaped rfl (by decide), ?_⟩
    have e1 : (((rows.length : Nat) : Int) != 0) = !PyData.eqv (.list (rows.map CRow.d)) (.list []) := by
      refine Bool.eq_iff_iff.mpr ?_
      rw [bne_iff_ne, Bool.not_eq_true', Bool.eq_false_iff]
      constructor
      · intro h1 h2
        have : rows = [] := (crows_eqv rows []).mp h2
        rw [this] at h1
        exact h1 rfl
      · intro h1 h2
        exact h1 ((crows_eqv rows []).mpr (List.length_eq_zero_iff.mp (by omega)))
    rw [e1]
    obtain ⟨bb, ebb⟩ : ∃ bb : Bool, bb = !PyData.eqv (.list (rows.map CRow.d)) (.list []) := ⟨_, rfl⟩
    rw [← ebb]
    walk_at "go"
    refine ⟨_, pr, vs, n, rows, rfl, rfl, w.fh, w.i (chg K (.ref a) n rows) (by walk_at "mem"), w.imL (by walk_at "mem"), hok, hn, by omega, fun F2 H2 w2 => ?_⟩
    replace w := w.cal .nil w2 (by walk_at "app")
    walk_at "go"
    refine n_lst w (szle (by simp)) fun po F2 H2 w hpo => ?_
    replace w := w.push (oth K [] []) oth_nil
    walk_at "go"
    obtain ⟨nk, enk, hnk⟩ : ∃ nk : Nat, (1 + (if ((ns.map V.int).length : Int) / 4 < 6 then ((ns.map V.int).length : Int) / 4 else 6) : Int).toNat = nk ∧ nk ≤ 7 := ⟨_, rfl, by split <;> omega⟩
    rw [enk]
    replace w := w.to (D := [mu po (.lst []), oth K [] [], bag K b, imL K sc (ns.map V.int), imL K pr vs, dpa K vs (rows.map CRow.d), chg K (.ref a) n rows, fx a (.ins (He.ga K "Change") dxa fsa)]) (by walk_at "pick")
    refine n_forR (n := nk) w (fun i σ L => ∃ (ts : List V) (os : List SR) (y6 y7 y8 : Option V), (∀ o ∈ os, RowsOk o.1 o.2 ∧ o.1 ≤ 400) ∧ ts.length = os.length ∧ os.length ≤ i ∧ σ = [some (.ref sc), some (.ref b), some (.int (n : Nat)), some (.ref pr), some (.ref a), some (.ref po), y6, y7, y8, none, none] ∧ L = [mu po (.lst ts), oth K ts os, bag K b, imL K sc (ns.map V.int), imL K pr vs, dpa K vs (rows.map CRow.d), chg K (.ref a) n rows, fx a (.ins (He.ga K "Change") dxa fsa)]) ⟨[], [], none, none, none, (fun o h => nomatch h), rfl, Nat.le_refl _, rfl, rfl⟩ (fun i σ L F' H' hi hp w => ?_) (fun σ L F' H' hp w => ?_)
    · obtain ⟨ts, os, y6, y7, y8, hos, htl, hol, rfl, rfl⟩ := hp
      walk_at "go"
      refine ⟨_, b, pr, vs, n, rows, rfl, rfl, rfl, w.st (by walk_at "pick"), w.imL (by walk_at "mem"), w.dpa (by walk_at "mem"), hok, hn, fun t p ys o F2 H2 hp w2 ok2 hn2 hl2 hg2 => ?_⟩
      have hp := w.g.fresh hp
      replace w := w.calB (by walk_at "pick") w2 (by walk_at "app")
      obtain ⟨F2, w⟩ := w.fzL (p := p) (by walk_at "pick") hp
      walk_at "go"
      refine ⟨_, p, ys, o.2, rfl, w.fh, sqL_of (w.i (fx p _) (by walk_at "mem")), w.dpa (by walk_at "mem"), (fun r hr => (ok2 r hr).s), by omega, by omega, fun F2 H2 w2 => ?_⟩
      replace w := w.cal .nil w2 (by walk_at "app")
      walk_at "go"
      refine w_ite (fun h4 => ?_) (fun h4 => ?_)
      · walk_at "go"
        refine n_tup w (szle (by simp)) fun t2 F3 H3 w => ?_
        walk_at "go"
        refine n_app w (p := po) (by walk_at "pick") (small_lt (by omega)) fun H6 w => ?_
        replace w := w.push (oth K (ts ++ [V.ref t2]) (os ++ [o])) (oth_snoc (w.i (oth K ts os) (by walk_at "mem")) (sqT_of (w.i (fx t2 _) (by walk_at "mem"))) (sqL_of (w.i (fx p _) (by walk_at "mem"))) (w.dpa (by walk_at "mem")))
        walk_at "go"
        refine nx_mk w ⟨ts ++ [V.ref t2], os ++ [o], _, _, _, fun q hq => ?_, by rw [List.length_append, List.length_append, htl]; rfl, by rw [List.length_append]; show os.length + 1 ≤ i + 1; omega, rfl, rfl⟩ (by walk_at "pk")
        rcases List.mem_append.mp hq with hq | hq
        · exact hos q hq
        · rw [List.mem_singleton.mp hq]
          exact ⟨⟨ok2, by omega⟩, hn2⟩
      · walk_at "go"
        exact nx_mk w ⟨ts, os, _, _, _, hos, htl, by omega, rfl, rfl⟩ (by walk_at "pk")
    obtain ⟨ts, os, y6, y7, y8, hos, htl, hol, rfl, rfl⟩ := hp
    obtain ⟨F7, w⟩ := w.fzL (p := po) (by walk_at "pick") hpo
    replace w := (w.push (imL K po ts) (sqL_of (w.i (fx po _) (by walk_at "mem")))).push (mad K a [] []) mad_nil
    replace w := w.to (D := [mad K a [] [], imL K po ts, oth K ts os, bag K b, imL K sc (ns.map V.int), imL K pr vs, dpa K vs (rows.map CRow.d), chg K (.ref a) n rows, fx a (.ins (He.ga K "Change") dxa fsa)]) (by walk_at "pick")
    walk_at "go"
    refine n_lcL ts w (fun i us L => us.length = i ∧ L = [mad K a us (os.take i), imL K po ts, oth K ts os, bag K b, imL K sc (ns.map V.int), imL K pr vs, dpa K vs (rows.map CRow.d), chg K (.ref a) n rows, fx a (.ins (He.ga K "Change") dxa fsa)]) ⟨rfl, rfl⟩ (fun i us L F' H' D hp w => ?_) (fun i x us L F' H' D hx hp w hD => ?_) (fun D us L F' H' hp w hD => ?_)
    · obtain ⟨hul, rfl⟩ := hp
      walk_at "sq"
    · obtain ⟨hul, rfl⟩ := hp
      have hi := (List.getElem?_eq_some_iff.mp hx).1
      obtain ⟨o, ho⟩ : ∃ o, os[i]? = some o := ⟨_, List.getElem?_eq_getElem (by omega)⟩
      obtain ⟨hro, hno⟩ := hos o (List.mem_of_getElem? ho)
      obtain ⟨t, p, ys, rfl, hT, hS2, hD2⟩ := (show OthL K _ ts os from w.i (oth K ts os) (by walk_at "mem")).2 i x o hx ho
      replace w := ((w.push (imT K t [.int (o.1 : Nat), .ref p]) hT).push (imL K p ys) hS2).push (dpa K ys (o.2.map CRow.d)) hD2
      walk_at "wp"
      walk_at "go"
      refine n_listOf w (xs := ys) (by walk_at "sq") fun p2 F2 H2 w hp2 => ?_
      obtain ⟨F2, w⟩ := w.fzL (p := p2) (by walk_at "pick") hp2
      walk_at "go"
      refine n_make w fun c dx2 H7 w hc2 => ?_
      have hne : c ≠ a := fun e => by
        have h1 := (w.mu (p := c) (u := .ins (He.ga K "Change") dx2 []) (by walk_at "mem")).n
        rw [e, w.i (fx a (.ins (He.ga K "Change") dxa fsa)) (by walk_at "mem")] at h1
        cases h1
      refine c_init w (by walk_at "pick") hc2 (sqL_of (w.i (fx p2 _) (by walk_at "mem"))) (w.dpa (by walk_at "mem")) (by omega) hro fun F8 H8 w => ?_
      have hm2 := mad_snoc (show MadL K a _ us (os.take i) from w.i (mad K a us (os.take i)) (by walk_at "mem")) hne (w.i (chg K (.ref c) o.1 o.2) (by walk_at "mem"))
      rw [show os.take i ++ [o] = os.take (i + 1) by rw [List.take_add_one, ho]; rfl] at hm2
      exact n_acc us (w.push (mad K a _ _) hm2) ⟨by rw [List.length_append, hul]; rfl, rfl⟩ (by walk_at "pk") (small_lt (by omega))
    obtain ⟨hul, rfl⟩ := hp
    rw [List.take_of_length_le (show os.length ≤ ts.length by omega)] at w
    obtain ⟨F8, w⟩ := w.fzL (p := D) (by walk_at "pick") hD
    have hos2 : ∀ o ∈ os, RowsOk o.1 o.2 := fun o ho => (hos o ho).1
    have gn := sr_good (o := (n, rows)) (fun m hm => (hok.ok m hm).s) (show rows.length ≤ 100000 by omega)
    replace w := w.to (D := [fx D (.lst us), mad K a us os, imL K po ts, oth K ts os, bag K b, imL K sc (ns.map V.int), imL K pr vs, dpa K vs (rows.map CRow.d), chg K (.ref a) n rows, fx a (.ins (He.ga K "Change") dxa fsa)]) (by walk_at "pick")
    walk_at "go"
    refine n_forR (n := us.length) w (fun k σ L => ∃ (y6 : Option V), σ = [some (.ref sc), some (.ref b), some (.int (n : Nat)), some (.ref pr), some (.ref a), some (.ref po), y6, y7, y8, some (.ref D), none] ∧ L = [fx D (.lst us), mad K a us os, imL K po ts, oth K ts os, bag K b, imL K sc (ns.map V.int), imL K pr vs, dpa K vs (rows.map CRow.d), chg K (.ref a) n rows, fx a (.ins (He.ga K "Change") dxa fsa)]) ⟨_, rfl, rfl⟩ (fun k σ L F' H' hk hp w => ?_) (fun σ L F' H' hp w => ?_)
    · obtain ⟨z6, rfl, rfl⟩ := hp
      obtain ⟨o, ho⟩ : ∃ o, os[k]? = some o := ⟨_, List.getElem?_eq_getElem (by omega)⟩
      obtain ⟨x, hx⟩ : ∃ x, ts[k]? = some x := ⟨_, List.getElem?_eq_getElem (by omega)⟩
      obtain ⟨v, hv⟩ : ∃ v, us[k]? = some v := ⟨_, List.getElem?_eq_getElem (by omega)⟩
      have hro := hos2 o (List.mem_of_getElem? ho)
      have gv := sr_good (o := o) (fun m hm => (hro.ok m hm).s) (show o.2.length ≤ 100000 by have := hro.len; omega)
      obtain ⟨bk, rfl, hne, hbk⟩ := (show MadL K a _ us os from w.i (mad K a us os) (by walk_at "mem")).2 k v o hv ho
      replace w := w.push (chg K (.ref bk) o.1 o.2) hbk
      walk_at "go"
      refine w_ixL _ _ (by walk_at "sq") (atI_nat hv) ?_
      walk_at "go"
      refine w_ixL _ _ (by walk_at "sq") (atI_nat hx) ?_
      walk_at "go"
      refine n_tup w (szle (by simp)) fun tp F5 H5 w => ?_
      refine ⟨srD o, srD (n, rows), dp_same w.fh _ _ (oth_dp (show OthL K _ ts os from w.i (oth K ts os) (by walk_at "mem")) hx ho), dp_same w.fh _ _ (dp_sr03 (o := (n, rows)) (sqT_of (w.i (fx tp _) (by walk_at "mem"))) (w.imL (by walk_at "mem")) (w.dpa (by walk_at "mem"))), good_shaped gv.1 gv.2, good_shaped gn.1 gn.2, ?_⟩
      walk_at "go"
      refine ⟨_, a, bk, n, o.1, rows, o.2, _, rfl, rfl, rfl, w.fh, w.i (chg K (.ref a) n rows) (by walk_at "mem"), w.i (chg K (.ref bk) o.1 o.2) (by walk_at "mem"), hok, hro, hne, (sr_eqv o (n, rows)).trans ⟨fun e => by rw [e]; exact ⟨rfl, rfl⟩, fun ⟨e1, e2⟩ => Prod.ext e1.symm e2.symm⟩, fun F2 H2 w2 => ?_⟩
      replace w := w.cal .nil w2 (by walk_at "app")
      walk_at "go"
      exact nx_mk w ⟨_, rfl, rfl⟩ (by walk_at "pk")
    obtain ⟨z6, rfl, rfl⟩ := hp
    walk_at "go"
    refine n_lcR (n := ts.length) w (fun i zs L => zs = ((filE (eqS (n, rows) os) i).map fun (k : Nat) => V.int (k : Nat)) ∧ L = [fx D (.lst us), mad K a us os, imL K po ts, oth K ts os, bag K b, imL K sc (ns.map V.int), imL K pr vs, dpa K vs (rows.map CRow.d), chg K (.ref a) n rows, fx a (.ins (He.ga K "Change") dxa fsa)]) ⟨rfl, rfl⟩ (fun i zs L F' H' D2 hi hp w hD2 => ?_) (fun D2 zs L F' H' hp w hD2 => ?_)
    · obtain ⟨rfl, rfl⟩ := hp
      obtain ⟨o, ho⟩ : ∃ o, os[i]? = some o := ⟨_, List.getElem?_eq_getElem (by omega)⟩
      obtain ⟨x, hx⟩ : ∃ x, ts[i]? = some x := ⟨_, List.getElem?_eq_getElem (by omega)⟩
      have hro := hos2 o (List.mem_of_getElem? ho)
      have gv := sr_good (o := o) (fun m hm => (hro.ok m hm).s) (show o.2.length ≤ 100000 by have := hro.len; omega)
      have hfl := filE_len (eqS (n, rows) os) i
      walk_at "wp"
      walk_at "go"
      refine w_ixL _ _ (by walk_at "sq") (atI_nat hx) ?_
      walk_at "go"
      refine n_tup w (szle (by simp)) fun tp F5 H5 w => ?_
      refine ⟨srD o, srD (n, rows), dp_same w.fh _ _ (oth_dp (show OthL K _ ts os from w.i (oth K ts os) (by walk_at "mem")) hx ho), dp_same w.fh _ _ (dp_sr03 (o := (n, rows)) (sqT_of (w.i (fx tp _) (by walk_at "mem"))) (w.imL (by walk_at "mem")) (w.dpa (by walk_at "mem"))), good_shaped gv.1 gv.2, good_shaped gn.1 gn.2, ?_⟩
      rw [← eqS_at ho]
      cases e : eqS (n, rows) os i with
      | true =>
        walk_at "go"
        exact n_acc _ w ⟨by rw [filE_snoc, if_pos e, List.map_append]; rfl, rfl⟩ (by walk_at "pk") (small_lt (by rw [List.length_map]; omega))
      | false =>
        walk_at "go"
        exact ⟨_, _, _, ⟨by rw [filE_snoc, if_neg (by rw [e]; exact fun z => nomatch z), List.append_nil], rfl⟩, w.to (by walk_at "pick")⟩
    obtain ⟨rfl, rfl⟩ := hp
    have hfl := filE_len (eqS (n, rows) os) ts.length
    have gf := nats_good03 (ks := filE (eqS (n, rows) os) ts.length) (by omega)
    obtain ⟨j, hj1, hj2, hj3⟩ := first03 (eqS (n, rows) os) ts.length
    have hff := filE_first hj1 hj2 hj3
    walk_at "go"
    refine ⟨a, D, us, eqS (n, rows) os, j, rfl, rfl, by walk_at "at", items03 w.fh (w.i (chg K (.ref a) n rows) (by walk_at "mem")) hok (w.i (mad K a us os) (by walk_at "mem")) hos2, by omega, hj2, (fun h => hj3 (by omega)), fun H' hx => ?_⟩
    replace w := w.ext hx
    rw [hul]
    walk_at "go"
    refine n_lst w (szle (by simp)) fun pe2 F2 H2 w hpe2 => ?_
    walk_at "go"
    refine ⟨.list ((filE (eqS (n, rows) os) ts.length).map fun (k : Nat) => PyData.int (k : Nat)), .list [], .lst (by walk_at "sq") (dpa_nat03 _), .lst (by walk_at "sq") .nil, good_shaped gf.1 gf.2, good_shaped rfl (by decide), ?_⟩
    rw [nats_eqv03]
    walk_at "go"
    refine ⟨_, _, rfl, rfl, ?_⟩
    by_cases hj : j < ts.length
    · obtain ⟨l, hl⟩ := hff.2 hj
      rw [hl] at w gf ⊢
      rw [show decide (decide (j < ts.length) = !decide (j :: l = [])) = true by rw [decide_eq_true hj]; rfl]
      walk_at "go"
      refine n_lst w (szle (by simp)) fun pe3 F2 H2 w hpe3 => ?_
      walk_at "go"
      refine ⟨.list ((j :: l).map fun (k : Nat) => PyData.int (k : Nat)), .list [], .lst (by walk_at "sq") (dpa_nat03 _), .lst (by walk_at "sq") .nil, good_shaped gf.1 gf.2, good_shaped rfl (by decide), ?_⟩
      rw [show PyData.eqv (.list ((j :: l).map fun (k : Nat) => PyData.int (k : Nat))) (.list []) = false from rfl]
      walk_at "go"
      refine ⟨a, D, us, eqS (n, rows) os, j, rfl, rfl, by walk_at "at", items03 w.fh (w.i (chg K (.ref a) n rows) (by walk_at "mem")) hok (w.i (mad K a us os) (by walk_at "mem")) hos2, by omega, hj2, hj3 hj, fun H' hx => ?_⟩
      replace w := w.ext hx
      walk_at "go"
      refine w_ixL _ _ (by walk_at "sq") (show atI ((j :: l).map fun (k : Nat) => V.int (k : Nat)) 0 = some (.int (j : Nat)) from atI_nat (j := 0) rfl) ?_
      walk_at "go"
      rw [decide_eq_true (show ((j : Nat) : Int) = ((j : Nat) : Int) from rfl)]
      exact q _
    · have hjn : j = ts.length := by omega
      have hl := hff.1 hjn
      rw [hl] at w gf ⊢
      rw [show decide (decide (j < ts.length) = !decide (([] : List Nat) = [])) = true by rw [decide_eq_false hj]; rfl]
      walk_at "go"
      refine n_lst w (szle (by simp)) fun pe3 F2 H2 w hpe3 => ?_
      walk_at "go"
      refine ⟨.list (([] : List Nat).map fun (k : Nat) => PyData.int (k : Nat)), .list [], .lst (by walk_at "sq") (dpa_nat03 _), .lst (by walk_at "sq") .nil, good_shaped gf.1 gf.2, good_shaped rfl (by decide), ?_⟩
      rw [show PyData.eqv (.list (([] : List Nat).map fun (k : Nat) => PyData.int (k : Nat))) (.list []) = true from rfl]
      walk_at "go"
      exact q _
end
theorem facts {P : Program} {w : World} {K : PySem.W.Frag} {mg : Str → Option Value} {h : Heap} {f : Addr} (X : K.In h) (G : h.Ns mainGlobals mg) (hfa : mg ("law" : Str) = some (.ref f)) (c : He.SaysD fa fn K) (ex : exB K = true) :
    ∃ fd : FuncData, (∀ (s : Shared) (v : Value), BindsTo s fd ⟨[v], []⟩ [("script", v)]) ∧ ∀ base : Heap, K.In base → base.Ns mainGlobals mg → FnOk P w K mg base CX0 12 f fd ["script"] (S1 (φlaw K)) := by
  unfold exB at ex
  simp only [Bool.and_eq_true] at ex
  have T : Txt K mg := ⟨He.free_ok X G (c.fact 0 (f := .free "abs") rfl), He.free_ok X G (c.fact 1 (f := .free "all") rfl), He.free_ok X G (c.fact 2 (f := .free "bool") rfl), He.free_ok X G (c.fact 3 (f := .free "int") rfl), He.free_ok X G (c.fact 4 (f := .free "isinstance") rfl), He.free_ok X G (c.fact 5 (f := .free "len") rfl), He.free_ok X G (c.fact 6 (f := .free "list") rfl), He.free_ok X G (c.fact 7 (f := .free "min") rfl), He.free_ok X G (c.fact 8 (f := .free "range") rfl), He.free_ok X G (c.fact 9 (f := .free "str") rfl), He.free_ok X G (c.fact 10 (f := .free "sum") rfl), He.free_ok X G (c.fact 11 (f := .free "tuple") rfl), He.int_ok X G (c.fact 12 (f := .int "MOST" 400) rfl), He.cls_ok (c.fact 33 (f := .cls "Change") rfl), He.noat_ok (c.fact 35 (f := .noat "Change" "size") rfl), He.noat_ok (c.fact 36 (f := .noat "Change" "rows") rfl), He.glo_ok X G (c.fact 32 (f := .glo "Change") rfl), insB_ok (He.cls_ok (c.fact 33 (f := .cls "Change") rfl)) ex.1, neB_ok ex.2.1, strB_ok ex.2.2.1, (kinB_ok ex.2.2.2.1), (boB_ok ex.2.2.2.2.1)⟩
  obtain ⟨fd_gives, F_gives⟩ := c.def_ 0 (d := d_gives) rfl
  obtain ⟨fd_row_text, F_row_text⟩ := c.def_ 1 (d := d_row_text) rfl
  obtain ⟨fd_ChangeX_initX, F_ChangeX_initX⟩ := c.def_ 2 (d := d_ChangeX_initX) rfl
  obtain ⟨fd_ChangeX_eqX, F_ChangeX_eqX⟩ := c.def_ 3 (d := d_ChangeX_eqX) rfl
  obtain ⟨fd_ChangeX_lenX, F_ChangeX_lenX⟩ := c.def_ 4 (d := d_ChangeX_lenX) rfl
  obtain ⟨fd_ChangeX_strX, F_ChangeX_strX⟩ := c.def_ 5 (d := d_ChangeX_strX) rfl
  obtain ⟨fd_law_bag, F_law_bag⟩ := c.def_ 6 (d := d_law_bag) rfl
  obtain ⟨fd_law_stirred, F_law_stirred⟩ := c.def_ 7 (d := d_law_stirred) rfl
  obtain ⟨fd_law_draw, F_law_draw⟩ := c.def_ 8 (d := d_law_draw) rfl
  obtain ⟨fd_law_alike, F_law_alike⟩ := c.def_ 9 (d := d_law_alike) rfl
  obtain ⟨fd_law_signs, F_law_signs⟩ := c.def_ 10 (d := d_law_signs) rfl
  obtain ⟨fd_law_text, F_law_text⟩ := c.def_ 11 (d := d_law_text) rfl
  obtain ⟨fd_law_row, F_law_row⟩ := c.def_ 12 (d := d_law_row) rfl
  obtain ⟨fd_law_rows, F_law_rows⟩ := c.def_ 13 (d := d_law_rows) rfl
  obtain ⟨fd_law_size, F_law_size⟩ := c.def_ 14 (d := d_law_size) rfl
  obtain ⟨fd_law_truth, F_law_truth⟩ := c.def_ 15 (d := d_law_truth) rfl
  obtain ⟨fd_law_gives, F_law_gives⟩ := c.def_ 16 (d := d_law_gives) rfl
  obtain ⟨fd_law_unlike_all, F_law_unlike_all⟩ := c.def_ 17 (d := d_law_unlike_all) rfl
  obtain ⟨fd_law_row_bent, F_law_row_bent⟩ := c.def_ 18 (d := d_law_row_bent) rfl
  obtain ⟨fd_law_split, F_law_split⟩ := c.def_ 19 (d := d_law_split) rfl
  obtain ⟨fd_law_other, F_law_other⟩ := c.def_ 20 (d := d_law_other) rfl
  obtain ⟨fd_law_pair_right, F_law_pair_right⟩ := c.def_ 21 (d := d_law_pair_right) rfl
  obtain ⟨fd_law, F_law⟩ := c.def_ 22 (d := d_law) rfl
  have D_gives : ∀ base, DO P w K mg base 1 "gives" ["row", "size"] [] (S2 (φgives K)) := fun base => ⟨_, _, [], ok_gives F_gives T , He.glo_ok X G (c.fact 13 (f := .glo "gives") rfl), F_gives.kp, F_gives.bindsN fun _ _ _ _ _ _ us hl => match us, hl with | [_, _], _ => rfl, .nil⟩
  have D_row_text : ∀ base, DO P w K mg base 1 "row_text" ["row"] [] (S1 (φrowtext K)) := fun base => ⟨_, _, [], ok_row_text F_row_text T , He.glo_ok X G (c.fact 14 (f := .glo "row_text") rfl), F_row_text.kp, F_row_text.bindsN fun _ _ _ _ _ _ us hl => match us, hl with | [_], _ => rfl, .nil⟩
  have DN_Change_2 : ∀ base, DN P w K mg base 2 "Change" ["self", "size", "rows"] [] (S3 (φinit K)) := fun base => ⟨_, [], ok_ChangeX_initX F_ChangeX_initX T (D_gives base), He.mkr_ok (c.fact 34 (f := .mkr "Change") rfl), He.glo_ok X G (c.fact 32 (f := .glo "Change") rfl), F_ChangeX_initX.bindsN fun _ _ _ _ _ _ us hl => match us, hl with | [_, _, _], _ => rfl, .nil⟩
  have DM_ChangeX_eqX : ∀ base, DM P w K mg base 6 "Change" "__eq__" ["self", "other"] [] (S2 (φceqX K)) := fun base => ⟨_, [], ok_ChangeX_eqX F_ChangeX_eqX T , He.meth_ok (c.fact 37 (f := .meth "Change" "__eq__") rfl), T.k_Change, F_ChangeX_eqX.bindsN fun _ _ _ _ _ _ us hl => match us, hl with | [_, _], _ => rfl, .nil⟩
  have DM_ChangeX_lenX : ∀ base, DM P w K mg base 1 "Change" "__len__" ["self"] [] (S1 (φclen K)) := fun base => ⟨_, [], ok_ChangeX_lenX F_ChangeX_lenX T , He.meth_ok (c.fact 38 (f := .meth "Change" "__len__") rfl), T.k_Change, F_ChangeX_lenX.bindsN fun _ _ _ _ _ _ us hl => match us, hl with | [_], _ => rfl, .nil⟩
  have DM_ChangeX_strX : ∀ base, DM P w K mg base 2 "Change" "__str__" ["self"] [] (S1 (φstr K)) := fun base => ⟨_, [], ok_ChangeX_strX F_ChangeX_strX T (D_row_text base), He.meth_ok (c.fact 39 (f := .meth "Change" "__str__") rfl), T.k_Change, F_ChangeX_strX.bindsN fun _ _ _ _ _ _ us hl => match us, hl with | [_], _ => rfl, .nil⟩
  have D_law_bag : ∀ base, DO P w K mg base 1 "_law_bag" ["script"] [] (S1 (φbag K)) := fun base => ⟨_, _, [], ok_law_bag F_law_bag T , He.glo_ok X G (c.fact 15 (f := .glo "_law_bag") rfl), F_law_bag.kp, F_law_bag.bindsN fun _ _ _ _ _ _ us hl => match us, hl with | [_], _ => rfl, .nil⟩
  have D_law_stirred : ∀ base, DO P w K mg base 1 "_law_stirred" ["bag", "many"] [] (S2 (φdraw K)) := fun base => ⟨_, _, [], ok_law_stirred F_law_stirred T , He.glo_ok X G (c.fact 16 (f := .glo "_law_stirred") rfl), F_law_stirred.kp, F_law_stirred.bindsN fun _ _ _ _ _ _ us hl => match us, hl with | [_, _], _ => rfl, .nil⟩
  have D_law_draw : ∀ base, DO P w K mg base 2 "_law_draw" ["bag", "many"] [] (S2 (φdraw K)) := fun base => ⟨_, _, [], ok_law_draw F_law_draw T (D_law_stirred base), He.glo_ok X G (c.fact 17 (f := .glo "_law_draw") rfl), F_law_draw.kp, F_law_draw.bindsN fun _ _ _ _ _ _ us hl => match us, hl with | [_, _], _ => rfl, .nil⟩
  have D_law_alike : ∀ base, DO P w K mg base 6 "_law_alike" ["found", "due"] [] (S2 (φalike K 6)) := fun base => recDO (φ := fun n => (S2 (φalike K n))) (fun vs H Q E h => alike0 h) (He.glo_ok X G (c.fact 18 (f := .glo "_law_alike") rfl)) F_law_alike.kp (F_law_alike.bindsN fun _ _ _ _ _ _ us hl => match us, hl with | [_, _], _ => rfl) (fun n ih => ok_law_alike F_law_alike T ih) 6
  have D_law_signs : ∀ base, DO P w K mg base 1 "_law_signs" [] [] (S0 φsigns) := fun base => ⟨_, _, [], ok_law_signs F_law_signs T , He.glo_ok X G (c.fact 19 (f := .glo "_law_signs") rfl), F_law_signs.kp, F_law_signs.bindsN fun _ _ _ _ _ _ us hl => match us, hl with | [], _ => rfl, .nil⟩
  have D_law_text : ∀ base, DO P w K mg base 3 "_law_text" ["bag", "size"] [] (S2 (φtextN K)) := fun base => ⟨_, _, [], ok_law_text F_law_text T (D_law_draw base) (D_law_signs base), He.glo_ok X G (c.fact 20 (f := .glo "_law_text") rfl), F_law_text.kp, F_law_text.bindsN fun _ _ _ _ _ _ us hl => match us, hl with | [_, _], _ => rfl, .nil⟩
  have D_law_row : ∀ base, DO P w K mg base 4 "_law_row" ["bag", "size", "left", "last"] [] (S4 (φrow1 K)) := fun base => ⟨_, _, [], ok_law_row F_law_row T (D_law_draw base) (D_law_text base), He.glo_ok X G (c.fact 21 (f := .glo "_law_row") rfl), F_law_row.kp, F_law_row.bindsN fun _ _ _ _ _ _ us hl => match us, hl with | [_, _, _, _], _ => rfl, .nil⟩
  have D_law_rows : ∀ base, DO P w K mg base 5 "_law_rows" ["bag", "size", "many", "most"] [] (S4 (φrows1 K)) := fun base => ⟨_, _, [], ok_law_rows F_law_rows T (D_law_draw base) (D_law_row base), He.glo_ok X G (c.fact 22 (f := .glo "_law_rows") rfl), F_law_rows.kp, F_law_rows.bindsN fun _ _ _ _ _ _ us hl => match us, hl with | [_, _, _, _], _ => rfl, .nil⟩
  have D_law_size : ∀ base, DO P w K mg base 3 "_law_size" ["bag"] [] (S1 (φsize1 K)) := fun base => ⟨_, _, [], ok_law_size F_law_size T (D_law_draw base), He.glo_ok X G (c.fact 23 (f := .glo "_law_size") rfl), F_law_size.kp, F_law_size.bindsN fun _ _ _ _ _ _ us hl => match us, hl with | [_], _ => rfl, .nil⟩
  have D_law_truth : ∀ base, DO P w K mg base 1 "_law_truth" ["found", "due"] [] (S2 φtruth03) := fun base => ⟨_, _, [], ok_law_truth F_law_truth T , He.glo_ok X G (c.fact 24 (f := .glo "_law_truth") rfl), F_law_truth.kp, F_law_truth.bindsN fun _ _ _ _ _ _ us hl => match us, hl with | [_, _], _ => rfl, .nil⟩
  have D_law_gives : ∀ base, DO P w K mg base 1 "_law_gives" ["rows"] [] (S1 (φgives03 K)) := fun base => ⟨_, _, [], ok_law_gives F_law_gives T , He.glo_ok X G (c.fact 25 (f := .glo "_law_gives") rfl), F_law_gives.kp, F_law_gives.bindsN fun _ _ _ _ _ _ us hl => match us, hl with | [_], _ => rfl, .nil⟩
  have D_law_unlike_all : ∀ base, DO P w K mg base 8 "_law_unlike_all" ["change", "size", "rows"] [] (S3 (φunlike03 K)) := fun base => ⟨_, _, [], ok_law_unlike_all F_law_unlike_all T (D_law_truth base) (DM_ChangeX_eqX base) (DM_ChangeX_strX base), He.glo_ok X G (c.fact 26 (f := .glo "_law_unlike_all") rfl), F_law_unlike_all.kp, F_law_unlike_all.bindsN fun _ _ _ _ _ _ us hl => match us, hl with | [_, _, _], _ => rfl, .nil⟩
  have D_law_row_bent : ∀ base, DO P w K mg base 5 "_law_row_bent" ["bag", "size", "row"] [] (S3 (φbent03 K)) := fun base => ⟨_, _, [], ok_law_row_bent F_law_row_bent T (D_law_draw base) (D_law_text base), He.glo_ok X G (c.fact 27 (f := .glo "_law_row_bent") rfl), F_law_row_bent.kp, F_law_row_bent.bindsN fun _ _ _ _ _ _ us hl => match us, hl with | [_, _, _], _ => rfl, .nil⟩
  have D_law_split : ∀ base, DO P w K mg base 3 "_law_split" ["bag", "row"] [] (S2 (φsplit03 K)) := fun base => ⟨_, _, [], ok_law_split F_law_split T (D_law_draw base), He.glo_ok X G (c.fact 28 (f := .glo "_law_split") rfl), F_law_split.kp, F_law_split.bindsN fun _ _ _ _ _ _ us hl => match us, hl with | [_, _], _ => rfl, .nil⟩
  have D_law_other : ∀ base, DO P w K mg base 6 "_law_other" ["bag", "size", "rows"] [] (S3 (φother03 K)) := fun base => ⟨_, _, [], ok_law_other F_law_other T (D_law_draw base) (D_law_row_bent base) (D_law_rows base) (D_law_split base), He.glo_ok X G (c.fact 29 (f := .glo "_law_other") rfl), F_law_other.kp, F_law_other.bindsN fun _ _ _ _ _ _ us hl => match us, hl with | [_, _, _], _ => rfl, .nil⟩
  have D_law_pair_right : ∀ base, DO P w K mg base 9 "_law_pair_right" ["one", "other", "due"] [] (S3 (φpair03 K)) := fun base => ⟨_, _, [], ok_law_pair_right F_law_pair_right T (D_law_truth base) (DM_ChangeX_eqX base), He.glo_ok X G (c.fact 30 (f := .glo "_law_pair_right") rfl), F_law_pair_right.kp, F_law_pair_right.bindsN fun _ _ _ _ _ _ us hl => match us, hl with | [_, _, _], _ => rfl, .nil⟩
  have e := hfa.symm.trans (He.glo_ok X G (c.fact 31 (f := .glo "law") rfl))
  cases e
  have b := FunD.bindsA (ps := ["script"]) F_law fun _ _ _ _ _ _ us hl => match us, hl with | [_], _ => rfl
  exact ⟨fd_law, fun s v => b s [v] rfl, fun base _ _ => ok_law F_law T (D_law_alike base) (D_law_bag base) (D_law_draw base) (D_law_gives base) (D_law_other base) (D_law_pair_right base) (D_law_rows base) (D_law_size base) (D_law_truth base) (D_law_unlike_all base) (DM_ChangeX_eqX base) (DM_ChangeX_lenX base) (DN_Change_2 base)⟩
end Z
theorem PySem.Challenge.cw_remadehere_k03_equal_and_long_holds : PySem.Challenge.rw_remadehere_k03_equal_and_long.Holds :=
  Z.close fun _ _ _ _ _ _ X G hfa c ex => Z.facts X G hfa c ex
