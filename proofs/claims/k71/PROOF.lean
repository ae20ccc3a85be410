import PyProof.Rows.All
import Wide.All
import OpenK.AllK
import Wide.FinOn
import KE.KStateDown
import Lean
import HandS.Base
import HandS.Call
import HandS.List
import HandS.Comp
import HandS.Ends
import HandS.Dict
import HandS.Iter
import HandS.Text
import HandS.Words
import HandS.WordsList
import HandS.Defaults
import HandS.IsInst
import HandS.Wide
import HandS.WideBits
import HandS.Conv
import HandS.Flow
import HandS.Style
import HandS.Flt
import HandS.More
import HandS.Set
import HandS.SetFor
import HandS.Strs
import HandS.SortInts
import HandS.MakeKw
import HandS.MakeKwOnly
import HandS.Codes
import HandS.SetKeys
import HandS.FStr
import HandS.Head0
import HandS.Head1
import HandS.Head2
import HandS.HeadEnd
import HandS.HeadHook1
import HandS.HeadHook2
import PyProof.DictMoreH
import PyProof.ListStr
import HandS.OwnEq
import PyProof.StrLawsIn
import PyProof.StrLawsFirst
import PyProof.StrOps2
import HandS.Exc
import HandS.ExcOwn
import HandS.TryOnly
import HandS.WordsExc
import HandS.RevTup
import HandS.Rev
import PyProof.CallStr
import PyProof.FString2
import PyProof.FString3
import OpenK.KOps
import HandS.RevRange
import HandS.TupLe
import HandS.RaiseMore
import PyProof.InstNe
import KE.KIntText
import KE.IntTextLaws
import PySem.Challenge.RW_remadehere_k71_written_and_read
set_option Elab.async false
set_option linter.all false
set_option maxRecDepth 100000
set_option maxHeartbeats 8000000
set_option synthInstance.maxHeartbeats 2000000
set_option synthInstance.maxSize 100000
namespace R
open PySem L2
/-! ### steps as classes: one look finds the rule for a goal -/
class Step (P : Prop) (Q : outParam Prop) : Prop where mk ::
  h : Q → P
class StepO (P : Prop) (Q : outParam Prop) : Prop where mk ::
  h : Q → P
class StepN (P : Prop) (Q : outParam Prop) : Prop where mk ::
  h : Q → P
class SideK (P : Prop) (k : Nat) : Prop where mk ::
/-- rows of steps: the new walk's, the old walk's -/
class GoN (P : Prop) (Q : outParam Prop) : Prop where mk ::
  h : Q → P
class GoO (P : Prop) (Q : outParam Prop) : Prop where mk ::
  h : Q → P
instance (priority := low) goN_end {P : Prop} : GoN P P := ⟨id⟩
instance (priority := low) goO_end {P : Prop} : GoO P P := ⟨id⟩
instance goN_n {P Q R : Prop} [s : StepN P Q] [g : GoN Q R] : GoN P R := ⟨fun r => s.h (g.h r)⟩
instance goO_o {P Q R : Prop} [s : StepO P Q] [g : GoO Q R] : GoO P R := ⟨fun r => s.h (g.h r)⟩
instance goN_s {P Q R : Prop} [s : Step P Q] [g : GoN Q R] : GoN P R := ⟨fun r => s.h (g.h r)⟩
instance goO_s {P Q R : Prop} [s : Step P Q] [g : GoO Q R] : GoO P R := ⟨fun r => s.h (g.h r)⟩
theorem goNS {P Q R : Prop} [s : Step P Q] [g : GoN Q R] (r : R) : P := s.h (g.h r)
theorem goNN {P Q R : Prop} [s : StepN P Q] [g : GoN Q R] (r : R) : P := s.h (g.h r)
theorem goOS {P Q R : Prop} [s : Step P Q] [g : GoO Q R] (r : R) : P := s.h (g.h r)
theorem goOO {P Q R : Prop} [s : StepO P Q] [g : GoO Q R] (r : R) : P := s.h (g.h r)
theorem sideI {P : Prop} (k : Nat) [SideK P k] (q : P) : P := q
/-! ### worlds: F the part that stays, H all that is tracked -/
theorem ne_none {α : Type} {o : Option α} {x : α} (h : o = some x) : o ≠ none := fun e => by rw [h] at e; cases e
theorem Same.new {H : Hp} {p : Addr} {o : HO} (h : H p = none) : Same H (upd H p o) := fun a u e => by
  rw [upd_ne (ne_of_none e h)]
  exact e
theorem rd_same {F H : Hp} {a : Addr} {u : HO} (e : Same F H) (h : Rd F a u) : Rd H a u := by
  rcases h with h | ⟨o, h⟩
  · exact .inl (e _ _ h)
  · exact .inr ⟨o, e _ _ h⟩
theorem sqL_same {K : PySem.W.Frag} {F H : Hp} {a : Addr} {xs : List V} (e : Same F H) (h : SqL K F a xs) : SqL K H a xs := by
  rcases h with h | h
  · exact .inl (rd_same e h)
  · exact .inr h
theorem sqT_same {K : PySem.W.Frag} {F H : Hp} {a : Addr} {xs : List V} (e : Same F H) (h : SqT K F a xs) : SqT K H a xs := by
  rcases h with h | h
  · exact .inl (rd_same e h)
  · exact .inr h
theorem sqL_of {K : PySem.W.Frag} {H : Hp} {a : Addr} {xs : List V} (h : H a = some (.lst xs)) : SqL K H a xs := .inl (.inl h)
theorem sqT_of {K : PySem.W.Frag} {H : Hp} {a : Addr} {xs : List V} (h : H a = some (.tup xs)) : SqT K H a xs := .inl (.inl h)
mutual
theorem dp_same {K : PySem.W.Frag} {F H : Hp} (e : Same F H) : ∀ (d : PyData) (v : V), Dp K F v d → Dp K H v d
  | .none, _, .non => .non
  | .bool _, _, .bl b => .bl b
  | .int _, _, .int i => .int i
  | .str _, _, .str x => .str x
  | .list ds, _, .lst h hs => .lst (sqL_same e h) (dpa_same e ds _ hs)
  | .tuple ds, _, .tup h hs => .tup (sqT_same e h) (dpa_same e ds _ hs)
theorem dpa_same {K : PySem.W.Frag} {F H : Hp} (e : Same F H) : ∀ (ds : List PyData) (vs : List V), DpAll K F vs ds → DpAll K H vs ds
  | [], _, .nil => .nil
  | d :: ds, _, .cons h hs => .cons (dp_same e d _ h) (dpa_same e ds _ hs)
end
/-- what a deed does: F grows to F2, H to H2; of what H has outside of F only the objects at M change -/
structure Gr (M : List Addr) (F H F2 H2 : Hp) : Prop where
  ff : Same F F2
  fh : Same F2 H2
  hh : ∀ a o, a ∉ M → H a = some o → H2 a = some o
  al : ∀ a, H a ≠ none → H2 a ≠ none
  nw : ∀ a, H a ≠ none → F a = none → F2 a = none
theorem Gr.refl {M : List Addr} {F H : Hp} (h : Same F H) : Gr M F H F H := ⟨Same.refl F, h, fun _ _ _ e => e, fun _ e => e, fun _ _ e => e⟩
theorem Gr.trans {M : List Addr} {F H F1 H1 F2 H2 : Hp} (a : Gr M F H F1 H1) (b : Gr M F1 H1 F2 H2) : Gr M F H F2 H2 :=
  ⟨a.ff.trans b.ff, b.fh, fun x o n e => b.hh x o n (a.hh x o n e), fun x e => b.al x (a.al x e), fun x e n => b.nw x (a.al x e) (a.nw x e n)⟩
/-- a new object that stays -/
theorem Gr.im {M : List Addr} {F H : Hp} {p : Addr} {o : HO} (w : Same F H) (h : H p = none) : Gr M F H (upd F p o) (upd H p o) := by
  have hF : F p = none := w.free h
  refine ⟨Same.new hF, fun a u e => ?_, fun a u _ e => ?_, fun a e => ?_, fun a e n => ?_⟩
  · by_cases q : a = p
    · subst q
      rw [upd_same] at e ⊢
      exact e
    · rw [upd_ne q] at e ⊢
      exact w a u e
  · rw [upd_ne (ne_of_none e h)]
    exact e
  · by_cases q : a = p
    · subst q
      rw [upd_same]
      exact fun z => nomatch z
    · rw [upd_ne q]
      exact e
  · have q : a ≠ p := fun z => by subst z; exact e h
    rw [upd_ne q]
    exact n
/-- a new object that may change -/
theorem Gr.new {M : List Addr} {F H : Hp} {p : Addr} {o : HO} (w : Same F H) (h : H p = none) : Gr M F H F (upd H p o) := by
  refine ⟨Same.refl F, w.trans (Same.new h), fun a u _ e => ?_, fun a e => ?_, fun a e n => n⟩
  · rw [upd_ne (ne_of_none e h)]
    exact e
  · by_cases q : a = p
    · subst q
      rw [upd_same]
      exact fun z => nomatch z
    · rw [upd_ne q]
      exact e
/-- a change of an object that may change -/
theorem Gr.wr {M : List Addr} {F H : Hp} {p : Addr} {o : HO} (w : Same F H) (h : F p = none) (hm : p ∈ M) : Gr M F H F (upd H p o) := by
  refine ⟨Same.refl F, fun a u e => ?_, fun a u n e => ?_, fun a e => ?_, fun a e n => n⟩
  · have q : a ≠ p := ne_of_none e h
    rw [upd_ne q]
    exact w a u e
  · have q : a ≠ p := fun z => by subst z; exact n hm
    rw [upd_ne q]
    exact e
  · by_cases q : a = p
    · subst q
      rw [upd_same]
      exact fun z => nomatch z
    · rw [upd_ne q]
      exact e
/-- .. of one that was new behind the start -/
theorem Gr.wrn {M : List Addr} {F0 H0 F H : Hp} {p : Addr} {o : HO} (g : Gr M F0 H0 F H) (h : F p = none) (hn : H0 p = none) : Gr M F0 H0 F (upd H p o) := by
  refine ⟨g.ff, fun a u e => ?_, fun a u n e => ?_, fun a e => ?_, g.nw⟩
  · have q : a ≠ p := ne_of_none e h
    rw [upd_ne q]
    exact g.fh a u e
  · have q : a ≠ p := fun z => by subst z; rw [hn] at e; cases e
    rw [upd_ne q]
    exact g.hh a u n e
  · by_cases q : a = p
    · subst q
      rw [upd_same]
      exact fun z => nomatch z
    · rw [upd_ne q]
      exact g.al a e
/-- an object that may change -/
structure Mu (F H : Hp) (p : Addr) (o : HO) : Prop where
  n : F p = none
  h : H p = some o
theorem Gr.mu {M : List Addr} {F H F2 H2 : Hp} {p : Addr} {o : HO} (g : Gr M F H F2 H2) (m : Mu F H p o) (hp : p ∉ M) : Mu F2 H2 p o := ⟨g.nw p (ne_none m.h) m.n, g.hh p o hp m.h⟩
theorem Gr.mu0 {F H F2 H2 : Hp} {p : Addr} {o : HO} (g : Gr [] F H F2 H2) (m : Mu F H p o) : Mu F2 H2 p o := g.mu m (fun h => nomatch h)
theorem Mu.new {F H : Hp} {p : Addr} {o : HO} (w : Same F H) (h : H p = none) : Mu F (upd H p o) p o := ⟨w.free h, upd_same⟩
theorem Mu.wr {F H : Hp} {p : Addr} {o u : HO} (m : Mu F H p o) : Mu F (upd H p u) p u := ⟨m.n, upd_same⟩
theorem Mu.oth {F H : Hp} {p q : Addr} {o u : HO} (m : Mu F H p o) (h : p ≠ q) : Mu F (upd H q u) p o := ⟨m.n, by rw [upd_ne h]; exact m.h⟩
theorem Mu.sq {K : PySem.W.Frag} {F H : Hp} {p : Addr} {xs : List V} (m : Mu F H p (.lst xs)) : SqL K H p xs := sqL_of m.h
theorem Mu.ne_new {F H : Hp} {p q : Addr} {o : HO} (m : Mu F H p o) (h : H q = none) : p ≠ q := ne_of_none m.h h
/-! ### promises by the number of arguments -/
def S1 (φ : V → Hp → VK → Prop) : Sp := fun vs H Q _ => match vs with
  | [a] => φ a H Q
  | _ => False
def S2 (φ : V → V → Hp → VK → Prop) : Sp := fun vs H Q _ => match vs with
  | [a, b] => φ a b H Q
  | _ => False
def S3 (φ : V → V → V → Hp → VK → Prop) : Sp := fun vs H Q _ => match vs with
  | [a, b, c] => φ a b c H Q
  | _ => False
def S4 (φ : V → V → V → V → Hp → VK → Prop) : Sp := fun vs H Q _ => match vs with
  | [a, b, c, d] => φ a b c d H Q
  | _ => False
def S5 (φ : V → V → V → V → V → Hp → VK → Prop) : Sp := fun vs H Q _ => match vs with
  | [a, b, c, d, e] => φ a b c d e H Q
  | _ => False
def S6 (φ : V → V → V → V → V → V → Hp → VK → Prop) : Sp := fun vs H Q _ => match vs with
  | [a, b, c, d, e, f] => φ a b c d e f H Q
  | _ => False
def S7 (φ : V → V → V → V → V → V → V → Hp → VK → Prop) : Sp := fun vs H Q _ => match vs with
  | [a, b, c, d, e, f, g] => φ a b c d e f g H Q
  | _ => False
def S0 (φ : Hp → VK → Prop) : Sp := fun vs H Q _ => match vs with
  | [] => φ H Q
  | _ => False
theorem S0.len {φ : Hp → VK → Prop} {vs : List V} {H : Hp} {Q : VK} {E : XK} (h : S0 φ vs H Q E) : vs.length = 0 := by
  match vs, h with
  | [], _ => rfl
theorem S1.len {φ : V → Hp → VK → Prop} {vs : List V} {H : Hp} {Q : VK} {E : XK} (h : S1 φ vs H Q E) : vs.length = 1 := by
  match vs, h with
  | [_], _ => rfl
theorem S2.len {φ : V → V → Hp → VK → Prop} {vs : List V} {H : Hp} {Q : VK} {E : XK} (h : S2 φ vs H Q E) : vs.length = 2 := by
  match vs, h with
  | [_, _], _ => rfl
theorem S3.len {φ : V → V → V → Hp → VK → Prop} {vs : List V} {H : Hp} {Q : VK} {E : XK} (h : S3 φ vs H Q E) : vs.length = 3 := by
  match vs, h with
  | [_, _, _], _ => rfl
theorem S4.len {φ : V → V → V → V → Hp → VK → Prop} {vs : List V} {H : Hp} {Q : VK} {E : XK} (h : S4 φ vs H Q E) : vs.length = 4 := by
  match vs, h with
  | [_, _, _, _], _ => rfl
theorem S5.len {φ : V → V → V → V → V → Hp → VK → Prop} {vs : List V} {H : Hp} {Q : VK} {E : XK} (h : S5 φ vs H Q E) : vs.length = 5 := by
  match vs, h with
  | [_, _, _, _, _], _ => rfl
theorem S6.len {φ : V → V → V → V → V → V → Hp → VK → Prop} {vs : List V} {H : Hp} {Q : VK} {E : XK} (h : S6 φ vs H Q E) : vs.length = 6 := by
  match vs, h with
  | [_, _, _, _, _, _], _ => rfl
theorem S7.len {φ : V → V → V → V → V → V → V → Hp → VK → Prop} {vs : List V} {H : Hp} {Q : VK} {E : XK} (h : S7 φ vs H Q E) : vs.length = 7 := by
  match vs, h with
  | [_, _, _, _, _, _, _], _ => rfl
/-! ### a def as it stands, with its promise -/
structure DO (P : Program) (w : World) (K : PySem.W.Frag) (mg : Str → Option Value) (base : Heap) (k : Nat) (x : Str) (ps : List Str) (dvs : List V) (sp : Sp) : Prop where
  ex : ∃ (f : Addr) (fd : FuncData) (ds : List Value), FnOk P w K mg base CX0 k f fd ps sp ∧ mg x = some (.ref f) ∧ PySem.W.keepIn K (.ref f) = true ∧ Binds K fd ps ds ∧ Vals dvs ds
section
variable {X : Cx} {k j : Nat} {ps : List Str} {sp : Sp} {dvs : List V} {x : Str} {p pos : Pos} {e : Expr} {es : List Expr} {t : TA}
theorem pcall (D : DO X.prog X.w X.K X.mg X.base k x ps dvs sp) (hr : Room j X.A) (ha : PA X (e :: es) t) (hj : k ≤ j := by first | decide | exact Nat.le_refl _ | omega) (hg : Gl X x := by rfl) (hdb : (x == ("__debug__" : Str)) = false := by decide)
    (he : starEach (e :: es) X.env = (false, eval e X.env) :: starEach es X.env := by rfl) (hpl : (backTo pos (starEach es X.env)).any (·.1) = false := by rfl) :
    PE X (.Call (.Name x p) (e :: es) [] pos) (tCall sp dvs E0 t) := by
  obtain ⟨f, fd, ds, F, hm, hk, hb, hd⟩ := D.ex
  exact pe_call F (hr.mono hj) hg hm hk hb hd pass0 ha hdb he hpl
theorem pcall0 (D : DO X.prog X.w X.K X.mg X.base k x ps dvs sp) (hr : Room j X.A) (hj : k ≤ j := by first | decide | exact Nat.le_refl _ | omega) (hg : Gl X x := by rfl) (hdb : (x == ("__debug__" : Str)) = false := by decide) :
    PE X (.Call (.Name x p) [] [] pos) (tCall sp dvs E0 tNil) := by
  obtain ⟨f, fd, ds, F, hm, hk, hb, hd⟩ := D.ex
  exact pe_call0 F (hr.mono hj) hg hm hk hb hd pass0 hdb
end
theorem recDO {P : Program} {w : World} {K : PySem.W.Frag} {mg : Str → Option Value} {base : Heap} {x : Str} {f : Addr} {fd : FuncData} {ps : List Str} {φ : Nat → Sp} (h0 : ∀ vs H Q E, φ 0 vs H Q E → False) (hm : mg x = some (.ref f)) (hk : PySem.W.keepIn K (.ref f) = true) (hb : Binds K fd ps [])
    (hs : ∀ n, DO P w K mg base n x ps [] (φ n) → FnOk P w K mg base CX0 (n + 1) f fd ps (φ (n + 1))) : ∀ n, DO P w K mg base n x ps [] (φ n)
  | 0 => ⟨f, fd, [], ⟨fun vs H Q E h => (h0 vs H Q E h).elim, fun A outer s H args us vs Q E _ _ _ _ h => (h0 vs H Q E h).elim⟩, hm, hk, hb, .nil⟩
  | n + 1 => ⟨f, fd, [], hs n (recDO h0 hm hk hb hs n), hm, hk, hb, .nil⟩
/-! ### calls with keywords -/
/-- the parameters' values: by place (0), by a keyword's place (1), by a default's place (2) -/
def pick {α : Type} (d : α) (tp : List (Nat × Nat)) (vs zs ds : List α) : List α := tp.map fun p => if p.1 = 0 then vs.getD p.2 d else if p.1 = 1 then zs.getD p.2 d else ds.getD p.2 d
theorem vals_getD : ∀ {vs : List V} {us : List Value} (i : Nat), Vals vs us → RelV (vs.getD i .non) (us.getD i .none)
  | _, _, _, .nil => rfl
  | _, _, 0, .cons r _ => r
  | _, _, i + 1, .cons _ t => by
    show RelV ((_ :: _ : List V).getD (i + 1) .non) ((_ :: _ : List Value).getD (i + 1) .none)
    rw [List.getD_cons_succ, List.getD_cons_succ]
    exact vals_getD i t
theorem pick_rel {vs zs ds : List V} {us ws es : List Value} (r1 : Vals vs us) (r2 : Vals zs ws) (r3 : Vals ds es) : ∀ tp : List (Nat × Nat), Vals (pick .non tp vs zs ds) (pick .none tp us ws es)
  | [] => .nil
  | p :: tp => .cons (by
      show RelV (if p.1 = 0 then vs.getD p.2 .non else if p.1 = 1 then zs.getD p.2 .non else ds.getD p.2 .non) (if p.1 = 0 then us.getD p.2 .none else if p.1 = 1 then ws.getD p.2 .none else es.getD p.2 .none)
      by_cases h0 : p.1 = 0
      · rw [if_pos h0, if_pos h0]
        exact vals_getD _ r1
      · rw [if_neg h0, if_neg h0]
        by_cases h1 : p.1 = 1
        · rw [if_pos h1, if_pos h1]
          exact vals_getD _ r2
        · rw [if_neg h1, if_neg h1]
          exact vals_getD _ r3) (pick_rel r1 r2 r3 tp)
structure DK (P : Program) (w : World) (K : PySem.W.Frag) (mg : Str → Option Value) (base : Heap) (k : Nat) (x : Str) (ps : List Str) (n : Nat) (ks : List Str) (tp : List (Nat × Nat)) (dvs : List V) (sp : Sp) : Prop where
  ex : ∃ (f : Addr) (fd : FuncData) (ds : List Value), FnOk P w K mg base CX0 k f fd ps sp ∧ mg x = some (.ref f) ∧ PySem.W.keepIn K (.ref f) = true ∧ KBn K fd ps n ks (fun us ws => pick .none tp us ws ds) (fun vs zs => pick .non tp vs zs dvs)
theorem kbN {K : PySem.W.Frag} {x qual : Str} {params : Arguments} {body : List Stmt} {scope : Scope} {f : Addr} {fd : FuncData} {ps ks : List Str} {n : Nat} {tp : List (Nat × Nat)} (F : FunD K x qual params body scope [] [] f fd)
    (h : ∀ (kV doc pm : Value) (an : Option Addr) (cdv ct : Value) (us ws : List Value), us.length = n → ws.length = ks.length → bindArgs (PySem.W.fnOf x qual params body scope .none kV doc pm an cdv ct) ⟨us, ks.zip ws⟩ = pure (ps.zip (pick .none tp us ws []))) :
    KBn K fd ps n ks (fun us ws => pick .none tp us ws []) (fun vs zs => pick .non tp vs zs []) := by
  obtain ⟨oc, od, dV, kV, doc, pm, an, cdv, ct, osl, rfl, lk, hcd, hD, hK⟩ := F.ex
  rcases hD with ⟨_, rfl⟩ | ⟨e, _⟩
  · exact ⟨fun s us ws _ l1 l2 => .of_eq (h kV doc pm an cdv ct us ws l1 l2), fun r1 r2 => pick_rel r1 r2 .nil tp⟩
  · exact absurd rfl e
section
variable {X : Cx} {k j n : Nat} {ps ks : List Str} {sp : Sp} {dvs : List V} {x : Str} {p pos : Pos} {e : Expr} {es : List Expr} {kws : List Keyword} {t tk : TA} {tp : List (Nat × Nat)}
theorem pcallK0 (D : DK X.prog X.w X.K X.mg X.base k x ps 0 ks tp dvs sp) (hr : Room j X.A) (hkw : PK X kws tk) (hj : k ≤ j := by first | decide | exact Nat.le_refl _ | omega) (hg : Gl X x := by rfl)
    (hall : (backToKw pos (keywordEach kws X.env)).all (·.1.isSome) = true := by rfl) (hks : (backToKw pos (keywordEach kws X.env)).filterMap (·.1) = ks := by rfl)
    (hdb : (x == ("__debug__" : Str)) = false := by decide)
    (hpl : ((backTo pos (starEach [] X.env)).any (·.1) || (backToKw pos (keywordEach kws X.env)).any (·.1.isNone)) = false := by rfl) :
    PE X (.Call (.Name x p) [] kws pos) (tCallN 0 ks.length sp (fun vs zs => pick .non tp vs zs dvs) E0 tNil tk) := by
  obtain ⟨f, fd, ds, F, hm, hk, hb⟩ := D.ex
  refine ⟨fun pins s σ H Q I h => ?_⟩
  refine wpAny_Call_Name_kw (ld_glob I hg hm ?_ hdb)
  refine PySem.W.callWith_KW0 (h₀ := X.base) I.ok.mod.kin hk hall ?_ hpl
  refine thn (hkw.run pos pins s σ H _ I h) fun ws s2 ⟨zs, H2, I2, rz, l1, l2, q2⟩ => ⟨I2.kIn, ?_⟩
  rw [hks]
  exact run_fnN (us := []) (vs := []) F (hr.mono hj) hb pass0 I2 .nil rz l1 l2 q2
end
theorem pe_gint {X : Cx} {x : Str} {i : Int} {pos : Pos} (hg : Gl X x) (hm : ∃ t, X.mg x = some (.int i t)) (hd : (x == ("__debug__" : Str)) = false := by decide) : PE X (.Name x pos) (tC (.int i)) := by
  obtain ⟨t, h⟩ := hm
  exact pe_glob hg h ⟨_, rfl⟩ hd
/-! ### rules with the written part by its own name -/
section
variable {X : Cx} {K : PySem.W.Frag}
theorem ixL (h : X.K = K := by rfl) : IxR X (rIxL K) := by subst h; exact ix_list
theorem ixT (h : X.K = K := by rfl) : IxR X (rIxT K) := by subst h; exact ix_tup
theorem ixQ (h : X.K = K := by rfl) : IxR X (rIx K) := by subst h; exact ix_seq
theorem slL (h : X.K = K := by rfl) : SlR X (rSlL K) := by subst h; exact sl_list
theorem slT (h : X.K = K := by rfl) : SlR X (rSlT K) := by subst h; exact sl_tup
theorem opEqD (A : X.A.units + 64 < cLine) (h : X.K = K := by rfl) : OpR X (compareOp .Eq) (rEqD K) := by subst h; exact op_eqD A
theorem opNeD (A : X.A.units + 64 < cLine) (h : X.K = K := by rfl) : OpR X (compareOp .NotEq) (rNeD K) := by subst h; exact op_neD A
theorem opIn (h : X.K = K := by rfl) : OpR X (compareOp .In) (rIn K false) := by subst h; exact op_in_seq
def rLenQ (K : PySem.W.Frag) : List V → Hp → VK → Prop := fun xs H Q => ∃ p ys, xs = [.ref p] ∧ (SqL K H p ys ∨ SqT K H p ys) ∧ Q (.int ys.length) H
def rListOf (K : PySem.W.Frag) : List V → Hp → VK → Prop := fun xs H Q => ∃ p ys, xs = [.ref p] ∧ (SqL K H p ys ∨ SqT K H p ys) ∧ ∀ l, H l = none → Q (.ref l) (upd H l (.lst ys))
def rLenS : List V → Hp → VK → Prop := fun xs H Q => ∃ z, xs = [.str z] ∧ z.length ≤ sizeLine ∧ Q (.int z.length) H
def rInt1 : List V → Hp → VK → Prop := fun xs H Q => (∃ i, xs = [.int i] ∧ Q (.int i) H) ∨ ∃ k, xs = [.bl k] ∧ Q (.int (if k then 1 else 0)) H
def rAbs : List V → Hp → VK → Prop := fun xs H Q => ∃ i, xs = [.int i] ∧ Q (.int (if i < 0 then -i else i)) H
def rMin2 : List V → Hp → VK → Prop := fun xs H Q => ∃ i j, xs = [.int i, .int j] ∧ Q (.int (if j < i then j else i)) H
def rMax2 : List V → Hp → VK → Prop := fun xs H Q => ∃ i j, xs = [.int i, .int j] ∧ Q (.int (if j > i then j else i)) H
theorem clLenQ (h : X.K = K := by rfl) : CallR X (.builtin "len") (rLenQ K) := by subst h; exact call_len_seq
theorem clLenS : CallR X (.builtin "len") rLenS := call_len_str
theorem clListOf (h : X.K = K := by rfl) : CallR X (.type "list") (rListOf K) := by subst h; exact call_list_of
theorem clInt1 : CallR X (.type "int") rInt1 := call_int1
theorem clAbs : CallR X (.builtin "abs") rAbs := call_abs
theorem clMin2 (hc : X.calm = true := by rfl) : CallR X (.builtin "min") rMin2 := call_min2 hc
theorem clMax2 (hc : X.calm = true := by rfl) : CallR X (.builtin "max") rMax2 := call_max2 hc
theorem clAll (hc : X.calm = true := by rfl) (h : X.K = K := by rfl) : CallR X (.builtin "all") (rAll K) := by subst h; exact cr_all hc
theorem clIsi (h : X.K = K := by rfl) : CallR X (.builtin "isinstance") (rIsi K) := by subst h; exact call_isi
theorem clIsiT (h : X.K = K := by rfl) : CallR X (.builtin "isinstance") (rIsiT K) := by subst h; exact call_isiT
def tTruth (K : PySem.W.Frag) (ta : TE) : TT := fun σ H Q => ta σ H fun x H' => ∃ k, TruV K x H' k ∧ Q k H'
variable {o e : Expr} {es : List Expr} {to te : TE} {t : TA} {name : Str} {apos cpos : Pos} {T id : String} {r : V → List V → Hp → VK → Prop}
theorem peBM (pa : PlainAttrs T) (slot : Slot T name id) (hty : typeOf (.builtin id) = pure (.type "method_descriptor")) (hm : MtR X id r) (ho : PE X o to) (ha : PA X (e :: es) t) (h : X.K = K := by rfl)
    (hbase : attributeBase o name X.env (eval o X.env) = eval o X.env := by rfl)
    (hfew : ((backTo cpos (starEach (e :: es) X.env)).all (fun x => !x.1) && (backToKw cpos (keywordEach [] X.env)).all (fun x => x.1.isSome)
      && decide ((e :: es).length + ([] : List Keyword).length + (if ([] : List Keyword).isEmpty then 0 else 1) < 30)) = true := by rfl)
    (hline : (apos.endLine == cpos.line) = true := by rfl) (hs : starEach (e :: es) X.env = (false, eval e X.env) :: starEach es X.env := by rfl) (hplain : (backTo cpos (starEach es X.env)).any (·.1) = false := by rfl) :
    PE X (.Call (.Attribute o name apos) (e :: es) [] cpos) (tBM K T r to t) := by
  subst h
  exact pe_bm pa slot hty hm ho ha hbase hfew hline hs hplain
def rJoin (K : PySem.W.Frag) : V → List V → Hp → VK → Prop := fun x xs H Q => ∃ a p, ∃ ys : List Str, x = .str a ∧ xs = [.ref p] ∧ (SqL K H p (ys.map V.str) ∨ SqT K H p (ys.map V.str)) ∧
      (ys.map (·.length)).sum + ys.length * a.length ≤ 16777216 ∧ Q (.str (Txt.join a ys)) H
theorem peJoin (ho : PE X o to) (he : PE X e te) (h : X.K = K := by rfl) (hs : starEach [e] X.env = [(false, eval e X.env)] := by rfl) (hbase : attributeBase o "join" X.env (eval o X.env) = eval o X.env := by rfl) (hline : (apos.endLine == cpos.line) = true := by rfl) :
    PE X (.Call (.Attribute o "join" apos) [e] [] cpos) (tM1 (rJoin K) to te) := by
  subst h
  exact pe_join ho he hs hbase hline
theorem peFld {f : Str} {pos : Pos} (he : PE X o to) (h : X.K = K := by rfl) (hb : attributeBase o f X.env (eval o X.env) = eval o X.env := by rfl) : PE X (.Attribute o f pos) (tFld K to f) := by
  subst h
  exact pe_fld he hb
end
/-! ### steps of a reading -/
section
variable {K : PySem.W.Frag} {σ : L2.St} {H : Hp} {Q : VK} {ta tb te : TE} {x y v : V} {nx bk ct : L2.St → Hp → Prop} {rt : VK}
-- slots
section
variable {a0 a1 a2 a3 a4 a5 a6 a7 a8 a9 a10 a11 a12 a13 : Option V} {r : L2.St}
theorem w_v0 (q : Q v H) : tVar 0 (some v :: r) H Q := ⟨v, rfl, q⟩
instance : Step (tVar 0 (some v :: r) H Q) (Q v H) := ⟨w_v0⟩ -- st
theorem w_v1 (q : Q v H) : tVar 1 (a0 :: some v :: r) H Q := ⟨v, rfl, q⟩
instance : Step (tVar 1 (a0 :: some v :: r) H Q) (Q v H) := ⟨w_v1⟩ -- st
theorem w_v2 (q : Q v H) : tVar 2 (a0 :: a1 :: some v :: r) H Q := ⟨v, rfl, q⟩
instance : Step (tVar 2 (a0 :: a1 :: some v :: r) H Q) (Q v H) := ⟨w_v2⟩ -- st
theorem w_v3 (q : Q v H) : tVar 3 (a0 :: a1 :: a2 :: some v :: r) H Q := ⟨v, rfl, q⟩
instance : Step (tVar 3 (a0 :: a1 :: a2 :: some v :: r) H Q) (Q v H) := ⟨w_v3⟩ -- st
theorem w_v4 (q : Q v H) : tVar 4 (a0 :: a1 :: a2 :: a3 :: some v :: r) H Q := ⟨v, rfl, q⟩
instance : Step (tVar 4 (a0 :: a1 :: a2 :: a3 :: some v :: r) H Q) (Q v H) := ⟨w_v4⟩ -- st
theorem w_v5 (q : Q v H) : tVar 5 (a0 :: a1 :: a2 :: a3 :: a4 :: some v :: r) H Q := ⟨v, rfl, q⟩
instance : Step (tVar 5 (a0 :: a1 :: a2 :: a3 :: a4 :: some v :: r) H Q) (Q v H) := ⟨w_v5⟩ -- st
theorem w_v6 (q : Q v H) : tVar 6 (a0 :: a1 :: a2 :: a3 :: a4 :: a5 :: some v :: r) H Q := ⟨v, rfl, q⟩
instance : Step (tVar 6 (a0 :: a1 :: a2 :: a3 :: a4 :: a5 :: some v :: r) H Q) (Q v H) := ⟨w_v6⟩ -- st
theorem w_v7 (q : Q v H) : tVar 7 (a0 :: a1 :: a2 :: a3 :: a4 :: a5 :: a6 :: some v :: r) H Q := ⟨v, rfl, q⟩
instance : Step (tVar 7 (a0 :: a1 :: a2 :: a3 :: a4 :: a5 :: a6 :: some v :: r) H Q) (Q v H) := ⟨w_v7⟩ -- st
theorem w_v8 (q : Q v H) : tVar 8 (a0 :: a1 :: a2 :: a3 :: a4 :: a5 :: a6 :: a7 :: some v :: r) H Q := ⟨v, rfl, q⟩
instance : Step (tVar 8 (a0 :: a1 :: a2 :: a3 :: a4 :: a5 :: a6 :: a7 :: some v :: r) H Q) (Q v H) := ⟨w_v8⟩ -- st
theorem w_v9 (q : Q v H) : tVar 9 (a0 :: a1 :: a2 :: a3 :: a4 :: a5 :: a6 :: a7 :: a8 :: some v :: r) H Q := ⟨v, rfl, q⟩
instance : Step (tVar 9 (a0 :: a1 :: a2 :: a3 :: a4 :: a5 :: a6 :: a7 :: a8 :: some v :: r) H Q) (Q v H) := ⟨w_v9⟩ -- st
theorem w_v10 (q : Q v H) : tVar 10 (a0 :: a1 :: a2 :: a3 :: a4 :: a5 :: a6 :: a7 :: a8 :: a9 :: some v :: r) H Q := ⟨v, rfl, q⟩
instance : Step (tVar 10 (a0 :: a1 :: a2 :: a3 :: a4 :: a5 :: a6 :: a7 :: a8 :: a9 :: some v :: r) H Q) (Q v H) := ⟨w_v10⟩ -- st
theorem w_v11 (q : Q v H) : tVar 11 (a0 :: a1 :: a2 :: a3 :: a4 :: a5 :: a6 :: a7 :: a8 :: a9 :: a10 :: some v :: r) H Q := ⟨v, rfl, q⟩
instance : Step (tVar 11 (a0 :: a1 :: a2 :: a3 :: a4 :: a5 :: a6 :: a7 :: a8 :: a9 :: a10 :: some v :: r) H Q) (Q v H) := ⟨w_v11⟩ -- st
theorem w_v12 (q : Q v H) : tVar 12 (a0 :: a1 :: a2 :: a3 :: a4 :: a5 :: a6 :: a7 :: a8 :: a9 :: a10 :: a11 :: some v :: r) H Q := ⟨v, rfl, q⟩
instance : Step (tVar 12 (a0 :: a1 :: a2 :: a3 :: a4 :: a5 :: a6 :: a7 :: a8 :: a9 :: a10 :: a11 :: some v :: r) H Q) (Q v H) := ⟨w_v12⟩ -- st
theorem w_v13 (q : Q v H) : tVar 13 (a0 :: a1 :: a2 :: a3 :: a4 :: a5 :: a6 :: a7 :: a8 :: a9 :: a10 :: a11 :: a12 :: some v :: r) H Q := ⟨v, rfl, q⟩
instance : Step (tVar 13 (a0 :: a1 :: a2 :: a3 :: a4 :: a5 :: a6 :: a7 :: a8 :: a9 :: a10 :: a11 :: a12 :: some v :: r) H Q) (Q v H) := ⟨w_v13⟩ -- st
variable {N : L2.St → Hp → Prop}
theorem w_n0 (q : N (some v :: r) H) : gName 0 v (a0 :: r) H N := q
instance : Step (gName 0 v (a0 :: r) H N) (N (some v :: r) H) := ⟨w_n0⟩ -- st
theorem w_n1 (q : N (a0 :: some v :: r) H) : gName 1 v (a0 :: a1 :: r) H N := q
instance : Step (gName 1 v (a0 :: a1 :: r) H N) (N (a0 :: some v :: r) H) := ⟨w_n1⟩ -- st
theorem w_n2 (q : N (a0 :: a1 :: some v :: r) H) : gName 2 v (a0 :: a1 :: a2 :: r) H N := q
instance : Step (gName 2 v (a0 :: a1 :: a2 :: r) H N) (N (a0 :: a1 :: some v :: r) H) := ⟨w_n2⟩ -- st
theorem w_n3 (q : N (a0 :: a1 :: a2 :: some v :: r) H) : gName 3 v (a0 :: a1 :: a2 :: a3 :: r) H N := q
instance : Step (gName 3 v (a0 :: a1 :: a2 :: a3 :: r) H N) (N (a0 :: a1 :: a2 :: some v :: r) H) := ⟨w_n3⟩ -- st
theorem w_n4 (q : N (a0 :: a1 :: a2 :: a3 :: some v :: r) H) : gName 4 v (a0 :: a1 :: a2 :: a3 :: a4 :: r) H N := q
instance : Step (gName 4 v (a0 :: a1 :: a2 :: a3 :: a4 :: r) H N) (N (a0 :: a1 :: a2 :: a3 :: some v :: r) H) := ⟨w_n4⟩ -- st
theorem w_n5 (q : N (a0 :: a1 :: a2 :: a3 :: a4 :: some v :: r) H) : gName 5 v (a0 :: a1 :: a2 :: a3 :: a4 :: a5 :: r) H N := q
instance : Step (gName 5 v (a0 :: a1 :: a2 :: a3 :: a4 :: a5 :: r) H N) (N (a0 :: a1 :: a2 :: a3 :: a4 :: some v :: r) H) := ⟨w_n5⟩ -- st
theorem w_n6 (q : N (a0 :: a1 :: a2 :: a3 :: a4 :: a5 :: some v :: r) H) : gName 6 v (a0 :: a1 :: a2 :: a3 :: a4 :: a5 :: a6 :: r) H N := q
instance : Step (gName 6 v (a0 :: a1 :: a2 :: a3 :: a4 :: a5 :: a6 :: r) H N) (N (a0 :: a1 :: a2 :: a3 :: a4 :: a5 :: some v :: r) H) := ⟨w_n6⟩ -- st
theorem w_n7 (q : N (a0 :: a1 :: a2 :: a3 :: a4 :: a5 :: a6 :: some v :: r) H) : gName 7 v (a0 :: a1 :: a2 :: a3 :: a4 :: a5 :: a6 :: a7 :: r) H N := q
instance : Step (gName 7 v (a0 :: a1 :: a2 :: a3 :: a4 :: a5 :: a6 :: a7 :: r) H N) (N (a0 :: a1 :: a2 :: a3 :: a4 :: a5 :: a6 :: some v :: r) H) := ⟨w_n7⟩ -- st
theorem w_n8 (q : N (a0 :: a1 :: a2 :: a3 :: a4 :: a5 :: a6 :: a7 :: some v :: r) H) : gName 8 v (a0 :: a1 :: a2 :: a3 :: a4 :: a5 :: a6 :: a7 :: a8 :: r) H N := q
instance : Step (gName 8 v (a0 :: a1 :: a2 :: a3 :: a4 :: a5 :: a6 :: a7 :: a8 :: r) H N) (N (a0 :: a1 :: a2 :: a3 :: a4 :: a5 :: a6 :: a7 :: some v :: r) H) := ⟨w_n8⟩ -- st
theorem w_n9 (q : N (a0 :: a1 :: a2 :: a3 :: a4 :: a5 :: a6 :: a7 :: a8 :: some v :: r) H) : gName 9 v (a0 :: a1 :: a2 :: a3 :: a4 :: a5 :: a6 :: a7 :: a8 :: a9 :: r) H N := q
instance : Step (gName 9 v (a0 :: a1 :: a2 :: a3 :: a4 :: a5 :: a6 :: a7 :: a8 :: a9 :: r) H N) (N (a0 :: a1 :: a2 :: a3 :: a4 :: a5 :: a6 :: a7 :: a8 :: some v :: r) H) := ⟨w_n9⟩ -- st
theorem w_n10 (q : N (a0 :: a1 :: a2 :: a3 :: a4 :: a5 :: a6 :: a7 :: a8 :: a9 :: some v :: r) H) : gName 10 v (a0 :: a1 :: a2 :: a3 :: a4 :: a5 :: a6 :: a7 :: a8 :: a9 :: a10 :: r) H N := q
instance : Step (gName 10 v (a0 :: a1 :: a2 :: a3 :: a4 :: a5 :: a6 :: a7 :: a8 :: a9 :: a10 :: r) H N) (N (a0 :: a1 :: a2 :: a3 :: a4 :: a5 :: a6 :: a7 :: a8 :: a9 :: some v :: r) H) := ⟨w_n10⟩ -- st
theorem w_n11 (q : N (a0 :: a1 :: a2 :: a3 :: a4 :: a5 :: a6 :: a7 :: a8 :: a9 :: a10 :: some v :: r) H) : gName 11 v (a0 :: a1 :: a2 :: a3 :: a4 :: a5 :: a6 :: a7 :: a8 :: a9 :: a10 :: a11 :: r) H N := q
instance : Step (gName 11 v (a0 :: a1 :: a2 :: a3 :: a4 :: a5 :: a6 :: a7 :: a8 :: a9 :: a10 :: a11 :: r) H N) (N (a0 :: a1 :: a2 :: a3 :: a4 :: a5 :: a6 :: a7 :: a8 :: a9 :: a10 :: some v :: r) H) := ⟨w_n11⟩ -- st
theorem w_n12 (q : N (a0 :: a1 :: a2 :: a3 :: a4 :: a5 :: a6 :: a7 :: a8 :: a9 :: a10 :: a11 :: some v :: r) H) : gName 12 v (a0 :: a1 :: a2 :: a3 :: a4 :: a5 :: a6 :: a7 :: a8 :: a9 :: a10 :: a11 :: a12 :: r) H N := q
instance : Step (gName 12 v (a0 :: a1 :: a2 :: a3 :: a4 :: a5 :: a6 :: a7 :: a8 :: a9 :: a10 :: a11 :: a12 :: r) H N) (N (a0 :: a1 :: a2 :: a3 :: a4 :: a5 :: a6 :: a7 :: a8 :: a9 :: a10 :: a11 :: some v :: r) H) := ⟨w_n12⟩ -- st
theorem w_n13 (q : N (a0 :: a1 :: a2 :: a3 :: a4 :: a5 :: a6 :: a7 :: a8 :: a9 :: a10 :: a11 :: a12 :: some v :: r) H) : gName 13 v (a0 :: a1 :: a2 :: a3 :: a4 :: a5 :: a6 :: a7 :: a8 :: a9 :: a10 :: a11 :: a12 :: a13 :: r) H N := q
instance : Step (gName 13 v (a0 :: a1 :: a2 :: a3 :: a4 :: a5 :: a6 :: a7 :: a8 :: a9 :: a10 :: a11 :: a12 :: a13 :: r) H N) (N (a0 :: a1 :: a2 :: a3 :: a4 :: a5 :: a6 :: a7 :: a8 :: a9 :: a10 :: a11 :: a12 :: some v :: r) H) := ⟨w_n13⟩ -- st
end
-- expressions
theorem w_c (q : Q v H) : tC v σ H Q := q
instance : Step (tC v σ H Q) (Q v H) := ⟨w_c⟩ -- st
theorem w_op {r : R2} (q : ta σ H fun x H1 => tb σ H1 fun y H2 => r x y H2 Q) : tOp r ta tb σ H Q := q
instance {r : R2} : Step (tOp r ta tb σ H Q) (ta σ H fun x H1 => tb σ H1 fun y H2 => r x y H2 Q) := ⟨w_op⟩ -- st
theorem w_un {r : V → Hp → VK → Prop} (q : ta σ H fun x H1 => r x H1 Q) : tUn r ta σ H Q := q
instance {r : V → Hp → VK → Prop} : Step (tUn r ta σ H Q) (ta σ H fun x H1 => r x H1 Q) := ⟨w_un⟩ -- st
theorem w_add {i j : Int} (q : Q (.int (i + j)) H) : rI0 (fun i j => V.int (i + j)) (.int i) (.int j) H Q := ⟨i, j, rfl, rfl, q⟩
instance {i j : Int} : Step (rI0 (fun i j => V.int (i + j)) (.int i) (.int j) H Q) (Q (.int (i + j)) H) := ⟨w_add⟩ -- st
theorem w_subt {i j : Int} (q : Q (.int (i - j)) H) : rI0 (fun i j => V.int (i - j)) (.int i) (.int j) H Q := ⟨i, j, rfl, rfl, q⟩
instance {i j : Int} : Step (rI0 (fun i j => V.int (i - j)) (.int i) (.int j) H Q) (Q (.int (i - j)) H) := ⟨w_subt⟩ -- st
theorem w_lt {i j : Int} (q : Q (.bl (decide (i < j))) H) : rI0 (fun i j => V.bl (decide (i < j))) (.int i) (.int j) H Q := ⟨i, j, rfl, rfl, q⟩
instance {i j : Int} : Step (rI0 (fun i j => V.bl (decide (i < j))) (.int i) (.int j) H Q) (Q (.bl (decide (i < j))) H) := ⟨w_lt⟩ -- st
theorem w_le {i j : Int} (q : Q (.bl (decide (i ≤ j))) H) : rI0 (fun i j => V.bl (decide (i ≤ j))) (.int i) (.int j) H Q := ⟨i, j, rfl, rfl, q⟩
instance {i j : Int} : Step (rI0 (fun i j => V.bl (decide (i ≤ j))) (.int i) (.int j) H Q) (Q (.bl (decide (i ≤ j))) H) := ⟨w_le⟩ -- st
theorem w_gt {i j : Int} (q : Q (.bl (decide (j < i))) H) : rI0 (fun i j => V.bl (decide (j < i))) (.int i) (.int j) H Q := ⟨i, j, rfl, rfl, q⟩
instance {i j : Int} : Step (rI0 (fun i j => V.bl (decide (j < i))) (.int i) (.int j) H Q) (Q (.bl (decide (j < i))) H) := ⟨w_gt⟩ -- st
theorem w_ge {i j : Int} (q : Q (.bl (decide (j ≤ i))) H) : rI0 (fun i j => V.bl (decide (j ≤ i))) (.int i) (.int j) H Q := ⟨i, j, rfl, rfl, q⟩
instance {i j : Int} : Step (rI0 (fun i j => V.bl (decide (j ≤ i))) (.int i) (.int j) H Q) (Q (.bl (decide (j ≤ i))) H) := ⟨w_ge⟩ -- st
theorem w_mul {i j : Int} (c : CMul i j) (q : Q (.int (i * j)) H) : rI CMul (fun i j => V.int (i * j)) (.int i) (.int j) H Q := ⟨i, j, rfl, rfl, c, q⟩
instance {i j : Int} : SideK (rI CMul (fun i j => V.int (i * j)) (.int i) (.int j) H Q) 1 := ⟨⟩ -- st
theorem w_mod {i j : Int} (c : 0 < j) (q : Q (.int (i % j)) H) : rI (fun _ j => 0 < j) (fun i j => V.int (i % j)) (.int i) (.int j) H Q := ⟨i, j, rfl, rfl, c, q⟩
instance {i j : Int} : SideK (rI (fun _ j => 0 < j) (fun i j => V.int (i % j)) (.int i) (.int j) H Q) 1 := ⟨⟩ -- st
theorem w_fdiv {i j : Int} (c : CDivW i j) (q : Q (.int (i / j)) H) : rI CDivW (fun i j => V.int (i / j)) (.int i) (.int j) H Q := ⟨i, j, rfl, rfl, c, q⟩
instance {i j : Int} : SideK (rI CDivW (fun i j => V.int (i / j)) (.int i) (.int j) H Q) 1 := ⟨⟩ -- st
theorem w_pow {i j : Int} (c : CPow i j) (q : Q (.int (i ^ j.toNat)) H) : rI CPow (fun i j => V.int (i ^ j.toNat)) (.int i) (.int j) H Q := ⟨i, j, rfl, rfl, c, q⟩
instance {i j : Int} : SideK (rI CPow (fun i j => V.int (i ^ j.toNat)) (.int i) (.int j) H Q) 1 := ⟨⟩ -- st
theorem w_neg {i : Int} (q : Q (.int (-i)) H) : rU (fun i => V.int (-i)) (.int i) H Q := ⟨i, rfl, q⟩
instance {i : Int} : Step (rU (fun i => V.int (-i)) (.int i) H Q) (Q (.int (-i)) H) := ⟨w_neg⟩ -- st
def asInt (x : V) (H : Hp) (Z : Int → Hp → Prop) : Prop := ∃ i, x = .int i ∧ Z i H
def asBl (x : V) (H : Hp) (T : Bool → Hp → Prop) : Prop := ∃ k, x = .bl k ∧ T k H
theorem w_asInt {i : Int} {Z : Int → Hp → Prop} (q : Z i H) : asInt (.int i) H Z := ⟨i, rfl, q⟩
instance {i : Int} {Z : Int → Hp → Prop} : Step (asInt (.int i) H Z) (Z i H) := ⟨w_asInt⟩ -- st
theorem w_asBl {b : Bool} {T : Bool → Hp → Prop} (q : T b H) : asBl (.bl b) H T := ⟨b, rfl, q⟩
instance {b : Bool} {T : Bool → Hp → Prop} : Step (asBl (.bl b) H T) (T b H) := ⟨w_asBl⟩ -- st
theorem w_bits {to : TE} (q : to σ H fun x H1 => asInt x H1 fun i H2 => Q (.int (Builtin.Int.intBits i : Nat)) H2) : tBits to σ H Q := q
instance {to : TE} : Step (tBits to σ H Q) (to σ H fun x H1 => asInt x H1 fun i H2 => Q (.int (Builtin.Int.intBits i : Nat)) H2) := ⟨w_bits⟩ -- st
theorem w_eqI {i j : Int} (q : Q (.bl (decide (i = j))) H) : rEq (.int i) (.int j) H Q := ⟨rfl, by
  have e : decide (V.int i = V.int j) = decide (i = j) := by
    by_cases h : i = j
    · subst h; simp
    · rw [decide_eq_false h, decide_eq_false fun z => h (V.int.inj z)]
  rw [e]
  exact q⟩
instance {i j : Int} : Step (rEq (.int i) (.int j) H Q) (Q (.bl (decide (i = j))) H) := ⟨w_eqI⟩ -- st
theorem w_neI {i j : Int} (q : Q (.bl (!decide (i = j))) H) : rNe (.int i) (.int j) H Q := ⟨rfl, by
  have e : decide (V.int i = V.int j) = decide (i = j) := by
    by_cases h : i = j
    · subst h; simp
    · rw [decide_eq_false h, decide_eq_false fun z => h (V.int.inj z)]
  rw [e]
  exact q⟩
instance {i j : Int} : Step (rNe (.int i) (.int j) H Q) (Q (.bl (!decide (i = j))) H) := ⟨w_neI⟩ -- st
theorem w_eqS {a b : Str} (q : Q (.bl (decide (a = b))) H) : rEq (.str a) (.str b) H Q := ⟨rfl, by
  have e : decide (V.str a = V.str b) = decide (a = b) := by
    by_cases h : a = b
    · subst h; simp
    · rw [decide_eq_false h, decide_eq_false fun z => h (V.str.inj z)]
  rw [e]
  exact q⟩
instance {a b : Str} : Step (rEq (.str a) (.str b) H Q) (Q (.bl (decide (a = b))) H) := ⟨w_eqS⟩ -- st
theorem w_neS {a b : Str} (q : Q (.bl (!decide (a = b))) H) : rNe (.str a) (.str b) H Q := ⟨rfl, by
  have e : decide (V.str a = V.str b) = decide (a = b) := by
    by_cases h : a = b
    · subst h; simp
    · rw [decide_eq_false h, decide_eq_false fun z => h (V.str.inj z)]
  rw [e]
  exact q⟩
instance {a b : Str} : Step (rNe (.str a) (.str b) H Q) (Q (.bl (!decide (a = b))) H) := ⟨w_neS⟩ -- st
theorem w_eqB {a b : Bool} (q : Q (.bl (decide (a = b))) H) : rEq (.bl a) (.bl b) H Q := ⟨rfl, by
  have e : decide (V.bl a = V.bl b) = decide (a = b) := by
    by_cases h : a = b
    · subst h; simp
    · rw [decide_eq_false h, decide_eq_false fun z => h (V.bl.inj z)]
  rw [e]
  exact q⟩
instance {a b : Bool} : Step (rEq (.bl a) (.bl b) H Q) (Q (.bl (decide (a = b))) H) := ⟨w_eqB⟩ -- st
theorem w_neB {a b : Bool} (q : Q (.bl (!decide (a = b))) H) : rNe (.bl a) (.bl b) H Q := ⟨rfl, by
  have e : decide (V.bl a = V.bl b) = decide (a = b) := by
    by_cases h : a = b
    · subst h; simp
    · rw [decide_eq_false h, decide_eq_false fun z => h (V.bl.inj z)]
  rw [e]
  exact q⟩
instance {a b : Bool} : Step (rNe (.bl a) (.bl b) H Q) (Q (.bl (!decide (a = b))) H) := ⟨w_neB⟩ -- st
theorem w_isN (q : ta σ H fun x H1 => Q (.bl (decide (x = .non))) H1) : tIsN ta σ H Q := q
instance : Step (tIsN ta σ H Q) (ta σ H fun x H1 => Q (.bl (decide (x = .non))) H1) := ⟨w_isN⟩ -- st
theorem w_notN (q : ta σ H fun x H1 => Q (.bl (!decide (x = .non))) H1) : tNotN ta σ H Q := q
instance : Step (tNotN ta σ H Q) (ta σ H fun x H1 => Q (.bl (!decide (x = .non))) H1) := ⟨w_notN⟩ -- st
-- tests
section
variable {T : Bool → Hp → Prop} {t u : TT}
theorem w_test (q : te σ H fun x H1 => asBl x H1 T) : tTest te σ H T := q
instance : Step (tTest te σ H T) (te σ H fun x H1 => asBl x H1 T) := ⟨w_test⟩ -- st
theorem w_tB (q : te σ H fun x H1 => asBl x H1 T) : tB te σ H T := q
instance : Step (tB te σ H T) (te σ H fun x H1 => asBl x H1 T) := ⟨w_tB⟩ -- st
theorem w_and (q : t σ H fun c H1 => if c = true then u σ H1 T else T false H1) : tAnd t u σ H T := q
instance : Step (tAnd t u σ H T) (t σ H fun c H1 => if c = true then u σ H1 T else T false H1) := ⟨w_and⟩ -- st
theorem w_or (q : t σ H fun c H1 => if c = true then T true H1 else u σ H1 T) : tOr t u σ H T := q
instance : Step (tOr t u σ H T) (t σ H fun c H1 => if c = true then T true H1 else u σ H1 T) := ⟨w_or⟩ -- st
theorem w_not (q : t σ H fun c H1 => T (!c) H1) : tNot t σ H T := q
instance : Step (tNot t σ H T) (t σ H fun c H1 => T (!c) H1) := ⟨w_not⟩ -- st
theorem w_yes (q : T true H) : tYes σ H T := q
instance : Step (tYes σ H T) (T true H) := ⟨w_yes⟩ -- st
theorem w_if (q : t σ H fun c H1 => if c = true then ta σ H1 Q else tb σ H1 Q) : tIf t ta tb σ H Q := q
instance : Step (tIf t ta tb σ H Q) (t σ H fun c H1 => if c = true then ta σ H1 Q else tb σ H1 Q) := ⟨w_if⟩ -- st
theorem w_truth (q : ta σ H fun x H' => ∃ k, TruV K x H' k ∧ T k H') : tTruth K ta σ H T := q
instance : Step (tTruth K ta σ H T) (ta σ H fun x H' => ∃ k, TruV K x H' k ∧ T k H') := ⟨w_truth⟩ -- st
end
theorem w_andV (q : ta σ H fun x H1 => asBl x H1 fun c H2 => if c = true then tb σ H2 Q else Q (.bl false) H2) : tAndV ta tb σ H Q := q
instance : Step (tAndV ta tb σ H Q) (ta σ H fun x H1 => asBl x H1 fun c H2 => if c = true then tb σ H2 Q else Q (.bl false) H2) := ⟨w_andV⟩ -- st
theorem w_orV (q : ta σ H fun x H1 => asBl x H1 fun c H2 => if c = true then Q (.bl true) H2 else tb σ H2 Q) : tOrV ta tb σ H Q := q
instance : Step (tOrV ta tb σ H Q) (ta σ H fun x H1 => asBl x H1 fun c H2 => if c = true then Q (.bl true) H2 else tb σ H2 Q) := ⟨w_orV⟩ -- st
theorem w_notV (q : ta σ H fun x H1 => asBl x H1 fun c H2 => Q (.bl (!c)) H2) : tNotV ta σ H Q := q
instance : Step (tNotV ta σ H Q) (ta σ H fun x H1 => asBl x H1 fun c H2 => Q (.bl (!c)) H2) := ⟨w_notV⟩ -- st
-- arguments
theorem w_nil {L : List V → Hp → Prop} (q : L [] H) : tNil σ H L := q
instance {L : List V → Hp → Prop} : Step (tNil σ H L) (L [] H) := ⟨w_nil⟩ -- st
theorem w_cons {tr : TA} {L : List V → Hp → Prop} (q : ta σ H fun x H1 => tr σ H1 fun xs H2 => L (x :: xs) H2) : tCons ta tr σ H L := q
instance {tr : TA} {L : List V → Hp → Prop} : Step (tCons ta tr σ H L) (ta σ H fun x H1 => tr σ H1 fun xs H2 => L (x :: xs) H2) := ⟨w_cons⟩ -- st
theorem w_call {sp : Sp} {dvs : List V} {E : XK} {t : TA} (q : t σ H fun vs H1 => sp (vs ++ dvs) H1 Q E) : tCall sp dvs E t σ H Q := q
instance {sp : Sp} {dvs : List V} {E : XK} {t : TA} : Step (tCall sp dvs E t σ H Q) (t σ H fun vs H1 => sp (vs ++ dvs) H1 Q E) := ⟨w_call⟩ -- st
theorem w_callN {n m : Nat} {sp : Sp} {gV : List V → List V → List V} {E : XK} {t tk : TA} (q : t σ H fun vs H1 => tk σ H1 fun zs H2 => vs.length = n ∧ zs.length = m ∧ sp (gV vs zs) H2 Q E) : tCallN n m sp gV E t tk σ H Q := q
instance {n m : Nat} {sp : Sp} {gV : List V → List V → List V} {E : XK} {t tk : TA} : Step (tCallN n m sp gV E t tk σ H Q) (t σ H fun vs H1 => tk σ H1 fun zs H2 => vs.length = n ∧ zs.length = m ∧ sp (gV vs zs) H2 Q E) := ⟨w_callN⟩ -- st
theorem w_CB {r : List V → Hp → VK → Prop} {t : TA} (q : t σ H fun vs H1 => r vs H1 Q) : tCB r t σ H Q := q
instance {r : List V → Hp → VK → Prop} {t : TA} : Step (tCB r t σ H Q) (t σ H fun vs H1 => r vs H1 Q) := ⟨w_CB⟩ -- st
theorem w_tup {t : TA} (q : t σ H fun xs H1 => xs.length ≤ sizeLine ∧ ∀ p, H1 p = none → Q (.ref p) (upd H1 p (.tup xs))) : tTup t σ H Q := q
instance {t : TA} : StepO (tTup t σ H Q) (t σ H fun xs H1 => xs.length ≤ sizeLine ∧ ∀ p, H1 p = none → Q (.ref p) (upd H1 p (.tup xs))) := ⟨w_tup⟩ -- st
theorem w_lst {t : TA} (q : t σ H fun xs H1 => xs.length ≤ sizeLine ∧ ∀ p, H1 p = none → Q (.ref p) (upd H1 p (.lst xs))) : tLst t σ H Q := q
instance {t : TA} : StepO (tLst t σ H Q) (t σ H fun xs H1 => xs.length ≤ sizeLine ∧ ∀ p, H1 p = none → Q (.ref p) (upd H1 p (.lst xs))) := ⟨w_lst⟩ -- st
theorem w_sl {r : V → Option Int → Option Int → Hp → VK → Prop} {tl th : TO} (q : te σ H fun x H1 => tl σ H1 fun l H2 => th σ H2 fun u H3 => r x l u H3 Q) : tSl r te tl th σ H Q := q
instance {r : V → Option Int → Option Int → Hp → VK → Prop} {tl th : TO} : Step (tSl r te tl th σ H Q) (te σ H fun x H1 => tl σ H1 fun l H2 => th σ H2 fun u H3 => r x l u H3 Q) := ⟨w_sl⟩ -- st
theorem w_nop {Z : Option Int → Hp → Prop} (q : Z none H) : tNoPart σ H Z := q
instance {Z : Option Int → Hp → Prop} : Step (tNoPart σ H Z) (Z none H) := ⟨w_nop⟩ -- st
theorem w_part {Z : Option Int → Hp → Prop} (q : te σ H fun x H1 => asInt x H1 fun i H2 => Z (some i) H2) : tPart te σ H Z := q
instance {Z : Option Int → Hp → Prop} : Step (tPart te σ H Z) (te σ H fun x H1 => asInt x H1 fun i H2 => Z (some i) H2) := ⟨w_part⟩ -- st
theorem w_BM0 {T : String} {r : V → List V → Hp → VK → Prop} (q : ta σ H fun x H1 => tyV K T x H1 ∧ r x [] H1 Q) : tBM0 K T r ta σ H Q := q
instance {T : String} {r : V → List V → Hp → VK → Prop} : Step (tBM0 K T r ta σ H Q) (ta σ H fun x H1 => tyV K T x H1 ∧ r x [] H1 Q) := ⟨w_BM0⟩ -- st
theorem w_BM {T : String} {r : V → List V → Hp → VK → Prop} {t : TA} (q : ta σ H fun x H1 => tyV K T x H1 ∧ t σ H1 fun xs H2 => r x xs H2 Q) : tBM K T r ta t σ H Q := q
instance {T : String} {r : V → List V → Hp → VK → Prop} {t : TA} : Step (tBM K T r ta t σ H Q) (ta σ H fun x H1 => tyV K T x H1 ∧ t σ H1 fun xs H2 => r x xs H2 Q) := ⟨w_BM⟩ -- st
def asStr (x : V) (P : Prop) : Prop := (∃ a, x = .str a) ∧ P
theorem w_M0 {r : V → List V → Hp → VK → Prop} (q : ta σ H fun x H1 => asStr x (r x [] H1 Q)) : tM0 r ta σ H Q := q
instance {r : V → List V → Hp → VK → Prop} : Step (tM0 r ta σ H Q) (ta σ H fun x H1 => asStr x (r x [] H1 Q)) := ⟨w_M0⟩ -- st
theorem w_M1 {r : V → List V → Hp → VK → Prop} (q : ta σ H fun x H1 => asStr x (te σ H1 fun y H2 => r x [y] H2 Q)) : tM1 r ta te σ H Q := q
instance {r : V → List V → Hp → VK → Prop} : Step (tM1 r ta te σ H Q) (ta σ H fun x H1 => asStr x (te σ H1 fun y H2 => r x [y] H2 Q)) := ⟨w_M1⟩ -- st
theorem w_asStr {a : Str} {P : Prop} (q : P) : asStr (.str a) P := ⟨⟨a, rfl⟩, q⟩
instance {a : Str} {P : Prop} : Step (asStr (.str a) P) (P) := ⟨w_asStr⟩ -- st
theorem w_sub {to ti : TE} {t : TSet} {Z : L2.St → Hp → Prop} (q : to σ H fun o H1 => ti σ H1 fun i H2 => t o i v H2 fun H3 => Z σ H3) : gSub to ti t v σ H Z := q
instance {to ti : TE} {t : TSet} {Z : L2.St → Hp → Prop} : Step (gSub to ti t v σ H Z) (to σ H fun o H1 => ti σ H1 fun i H2 => t o i v H2 fun H3 => Z σ H3) := ⟨w_sub⟩ -- st
-- statements
section
variable {t u tbody : TS} {c : TT} {g : TG}
theorem w_seq (q : t ⟨u ⟨nx, rt, bk, ct⟩, rt, bk, ct⟩ σ H) : tSeq t u ⟨nx, rt, bk, ct⟩ σ H := q
instance : Step (tSeq t u ⟨nx, rt, bk, ct⟩ σ H) (t ⟨u ⟨nx, rt, bk, ct⟩, rt, bk, ct⟩ σ H) := ⟨w_seq⟩ -- st
theorem w_cut (Mid : L2.St → Hp → Prop) (h1 : t ⟨Mid, rt, bk, ct⟩ σ H) (h2 : ∀ σ' H', Mid σ' H' → u ⟨nx, rt, bk, ct⟩ σ' H') : C8.tCut t u ⟨nx, rt, bk, ct⟩ σ H := ⟨Mid, h1, h2⟩
theorem w_asg (q : te σ H fun x H1 => g x σ H1 nx) : tAsg te g ⟨nx, rt, bk, ct⟩ σ H := q
instance : Step (tAsg te g ⟨nx, rt, bk, ct⟩ σ H) (te σ H fun x H1 => g x σ H1 nx) := ⟨w_asg⟩ -- st
theorem w_ret (q : te σ H rt) : tRet te ⟨nx, rt, bk, ct⟩ σ H := q
instance : Step (tRet te ⟨nx, rt, bk, ct⟩ σ H) (te σ H rt) := ⟨w_ret⟩ -- st
theorem w_retN (q : rt .non H) : tRetN ⟨nx, rt, bk, ct⟩ σ H := q
instance : Step (tRetN ⟨nx, rt, bk, ct⟩ σ H) (rt .non H) := ⟨w_retN⟩ -- st
theorem w_drop (q : te σ H fun _ H1 => nx σ H1) : tDrop te ⟨nx, rt, bk, ct⟩ σ H := q
instance : Step (tDrop te ⟨nx, rt, bk, ct⟩ σ H) (te σ H fun _ H1 => nx σ H1) := ⟨w_drop⟩ -- st
theorem w_ifS (q : c σ H fun b H1 => if b = true then t ⟨nx, rt, bk, ct⟩ σ H1 else u ⟨nx, rt, bk, ct⟩ σ H1) : tIfS c t u ⟨nx, rt, bk, ct⟩ σ H := q
instance : Step (tIfS c t u ⟨nx, rt, bk, ct⟩ σ H) (c σ H fun b H1 => if b = true then t ⟨nx, rt, bk, ct⟩ σ H1 else u ⟨nx, rt, bk, ct⟩ σ H1) := ⟨w_ifS⟩ -- st
theorem w_nx (q : nx σ H) : tNext ⟨nx, rt, bk, ct⟩ σ H := q
instance : Step (tNext ⟨nx, rt, bk, ct⟩ σ H) (nx σ H) := ⟨w_nx⟩ -- st
theorem w_cont (q : ct σ H) : tCont ⟨nx, rt, bk, ct⟩ σ H := q
instance : Step (tCont ⟨nx, rt, bk, ct⟩ σ H) (ct σ H) := ⟨w_cont⟩ -- st
theorem w_brk (q : bk σ H) : tBreak ⟨nx, rt, bk, ct⟩ σ H := q
instance : Step (tBreak ⟨nx, rt, bk, ct⟩ σ H) (bk σ H) := ⟨w_brk⟩ -- st
theorem w_tgt {n : Nat} {ts : TGs} {Z : L2.St → Hp → Prop} {a : Addr} (xs : List V) (h : SqT K H a xs) (hn : xs.length = n) (q : ts xs σ H Z) : gTup K n ts (.ref a) σ H Z := ⟨a, xs, rfl, h, hn, q⟩
instance {n : Nat} {ts : TGs} {Z : L2.St → Hp → Prop} {a : Addr} : SideK (gTup K n ts (.ref a) σ H Z) 5 := ⟨⟩ -- st
theorem w_gc {ts : TGs} {xs : List V} {Z : L2.St → Hp → Prop} (q : g v σ H fun σ' H' => ts xs σ' H' Z) : gCons g ts (v :: xs) σ H Z := ⟨v, xs, rfl, q⟩
instance {ts : TGs} {xs : List V} {Z : L2.St → Hp → Prop} : Step (gCons g ts (v :: xs) σ H Z) (g v σ H fun σ' H' => ts xs σ' H' Z) := ⟨w_gc⟩ -- st
theorem w_gn {Z : L2.St → Hp → Prop} (q : Z σ H) : gNil [] σ H Z := ⟨rfl, q⟩
instance {Z : L2.St → Hp → Prop} : Step (gNil [] σ H Z) (Z σ H) := ⟨w_gn⟩ -- st
/-- a while, by what holds and a number that falls -/
theorem w_while (W : Nat → L2.St → Hp → Prop) {m0 : Nat} (h0 : W m0 σ H)
    (hs : ∀ m σ H, W m σ H → c σ H fun b H1 => if b = true then ∃ N : L2.St → Hp → Prop, (∀ σ' H', N σ' H' → ∃ m', m' < m ∧ W m' σ' H') ∧ tbody ⟨N, rt, nx, N⟩ σ H1 else nx σ H1) : tWhile c tbody ⟨nx, rt, bk, ct⟩ σ H := ⟨W, ⟨m0, h0⟩, hs⟩
/-- for k in range(n), range(a, b) -/
theorem w_for {wi : TI} (q : wi σ H fun J H1 => ∃ W : Nat → Nat → L2.St → Hp → Prop, (∃ m, W 0 m σ H1) ∧ ∀ i m σ H, W i m σ H →
      (J.stop i H ∧ nx σ H) ∨ (J.go i H ∧ ∃ N : L2.St → Hp → Prop, (∀ σ' H', N σ' H' → ∃ m', m' < m ∧ W (i + 1) m' σ' H') ∧ ∀ x H', J.yld i H x H' → g x σ H' fun σ2 H2 => tbody ⟨N, rt, nx, N⟩ σ2 H2)) : tFor wi g tbody ⟨nx, rt, bk, ct⟩ σ H := q
instance {wi : TI} : StepO (tFor wi g tbody ⟨nx, rt, bk, ct⟩ σ H) (wi σ H fun J H1 => ∃ W : Nat → Nat → L2.St → Hp → Prop, (∃ m, W 0 m σ H1) ∧ ∀ i m σ H, W i m σ H → (J.stop i H ∧ nx σ H) ∨ (J.go i H ∧ ∃ N : L2.St → Hp → Prop, (∀ σ' H', N σ' H' → ∃ m', m' < m ∧ W (i + 1) m' σ' H') ∧ ∀ x H', J.yld i H x H' → g x σ H' fun σ2 H2 => tbody ⟨N, rt, nx, N⟩ σ2 H2)) := ⟨w_for⟩ -- st
end
theorem w_rng1 {t : TA} {R : It → Hp → Prop} (q : t σ H fun vs H1 => ∃ j : Int, vs = [.int j] ∧ -(2 ^ 62) ≤ j ∧ j < 2 ^ 62 ∧ R (Itr 0 j.toNat) H1) : iRng1 t σ H R := q
instance {t : TA} {R : It → Hp → Prop} : StepO (iRng1 t σ H R) (t σ H fun vs H1 => ∃ j : Int, vs = [.int j] ∧ -(2 ^ 62) ≤ j ∧ j < 2 ^ 62 ∧ R (Itr 0 j.toNat) H1) := ⟨w_rng1⟩ -- st
theorem w_rng2 {t : TA} {R : It → Hp → Prop} (q : t σ H fun vs H1 => ∃ i j : Int, vs = [.int i, .int j] ∧ (-(2 ^ 62) ≤ i ∧ i < 2 ^ 62 ∧ -(2 ^ 62) ≤ j ∧ j < 2 ^ 62) ∧ R (Itr i (j - i).toNat) H1) : iRng2 t σ H R := q
instance {t : TA} {R : It → Hp → Prop} : StepO (iRng2 t σ H R) (t σ H fun vs H1 => ∃ i j : Int, vs = [.int i, .int j] ∧ (-(2 ^ 62) ≤ i ∧ i < 2 ^ 62 ∧ -(2 ^ 62) ≤ j ∧ j < 2 ^ 62) ∧ R (Itr i (j - i).toNat) H1) := ⟨w_rng2⟩ -- st
theorem w_ilist {R : It → Hp → Prop} (q : te σ H fun x H1 => ∃ a, x = .ref a ∧ (∃ xs, SqL K H1 a xs) ∧ R (Itl K a) H1) : iList K te σ H R := q
instance {R : It → Hp → Prop} : StepO (iList K te σ H R) (te σ H fun x H1 => ∃ a, x = .ref a ∧ (∃ xs, SqL K H1 a xs) ∧ R (Itl K a) H1) := ⟨w_ilist⟩ -- st
theorem w_itup {R : It → Hp → Prop} (q : te σ H fun x H1 => ∃ a, x = .ref a ∧ (∃ xs, SqT K H1 a xs) ∧ R (Itt K a) H1) : iTup K te σ H R := q
instance {R : It → Hp → Prop} : StepO (iTup K te σ H R) (te σ H fun x H1 => ∃ a, x = .ref a ∧ (∃ xs, SqT K H1 a xs) ∧ R (Itt K a) H1) := ⟨w_itup⟩ -- st
theorem w_istr {R : It → Hp → Prop} (q : te σ H fun v H1 => ∃ x, v = .str x ∧ R (Its x) H1) : iStr te σ H R := q
instance {R : It → Hp → Prop} : StepO (iStr te σ H R) (te σ H fun v H1 => ∃ x, v = .str x ∧ R (Its x) H1) := ⟨w_istr⟩ -- st
theorem w_lc {wi : TI} {g : TG} {tt : TT} {vs : List Nat} (q : wi σ H fun J H1 => ∀ D, H1 D = none → ∃ W : Nat → Nat → Hp → Prop, (∃ m, W 0 m (upd H1 D (.lst []))) ∧ ∀ i m H, W i m H →
    (J.stop i H ∧ Q (.ref D) H) ∨ (J.go i H ∧ ∃ Nx : Hp → Prop, (∀ H', Nx H' → ∃ m', m' < m ∧ W (i + 1) m' H') ∧ ∀ x H', J.yld i H x H' → g x (wipe σ vs) H' fun σ2 H2 => wipe σ2 vs = wipe σ vs ∧ tt σ2 H2 fun b H3 =>
      if b = true then te σ2 H3 fun y H4 => ∃ acc, H4 D = some (.lst acc) ∧ acc.length < sizeLine ∧ Nx (upd H4 D (.lst (acc ++ [y]))) else Nx H3)) : tLc wi g tt te vs σ H Q := q
instance {wi : TI} {g : TG} {tt : TT} {vs : List Nat} : StepO (tLc wi g tt te vs σ H Q) (wi σ H fun J H1 => ∀ D, H1 D = none → ∃ W : Nat → Nat → Hp → Prop, (∃ m, W 0 m (upd H1 D (.lst []))) ∧ ∀ i m H, W i m H → (J.stop i H ∧ Q (.ref D) H) ∨ (J.go i H ∧ ∃ Nx : Hp → Prop, (∀ H', Nx H' → ∃ m', m' < m ∧ W (i + 1) m' H') ∧ ∀ x H', J.yld i H x H' → g x (wipe σ vs) H' fun σ2 H2 => wipe σ2 vs = wipe σ vs ∧ tt σ2 H2 fun b H3 => if b = true then te σ2 H3 fun y H4 => ∃ acc, H4 D = some (.lst acc) ∧ acc.length < sizeLine ∧ Nx (upd H4 D (.lst (acc ++ [y]))) else Nx H3)) := ⟨w_lc⟩ -- st
/-- a test that is open -/
theorem w_ite {p : Prop} [Decidable p] {A B : Prop} (h1 : p → A) (h2 : ¬ p → B) : if decide p = true then A else B := by
  by_cases h : p
  · rw [if_pos (decide_eq_true h)]
    exact h1 h
  · rw [if_neg (by simpa using h)]
    exact h2 h
theorem w_iteT {p : Prop} [Decidable p] {A B : Prop} (hp : p) (h1 : A) : if decide p = true then A else B := by
  rw [if_pos (decide_eq_true hp)]
  exact h1
instance {p : Prop} [Decidable p] {A B : Prop} : SideK (if decide p = true then A else B) 6 := ⟨⟩ -- st
theorem w_iteF {p : Prop} [Decidable p] {A B : Prop} (hp : ¬ p) (h2 : B) : if decide p = true then A else B := by
  rw [if_neg (by simpa using hp)]
  exact h2
theorem w_tt {A B : Prop} (h : A) : if true = true then A else B := by rw [if_pos rfl]; exact h
instance {A B : Prop} : Step (if true = true then A else B) (A) := ⟨w_tt⟩ -- st
theorem w_ff {A B : Prop} (h : B) : if false = true then A else B := by rw [if_neg Bool.false_ne_true]; exact h
instance {A B : Prop} : Step (if false = true then A else B) (B) := ⟨w_ff⟩ -- st
theorem w_ntt {A B : Prop} (h : B) : if (!true) = true then A else B := by rw [if_neg (by decide)]; exact h
instance {A B : Prop} : Step (if (!true) = true then A else B) (B) := ⟨w_ntt⟩ -- st
theorem w_nff {A B : Prop} (h : A) : if (!false) = true then A else B := by rw [if_pos (by rfl)]; exact h
instance {A B : Prop} : Step (if (!false) = true then A else B) (A) := ⟨w_nff⟩ -- st
/-- subscripts -/
theorem w_ixL {p : Addr} {i : Int} (xs : List V) (v : V) (h : SqL K H p xs) (a : atI xs i = some v) (q : Q v H) : rIxL K (.ref p) (.int i) H Q := ⟨p, xs, i, v, rfl, rfl, h, a, q⟩
instance {p : Addr} {i : Int} : SideK (rIxL K (.ref p) (.int i) H Q) 2 := ⟨⟩ -- st
theorem w_ixT {p : Addr} {i : Int} (xs : List V) (v : V) (h : SqT K H p xs) (a : atI xs i = some v) (q : Q v H) : rIxT K (.ref p) (.int i) H Q := ⟨p, xs, i, v, rfl, rfl, h, a, q⟩
instance {p : Addr} {i : Int} : SideK (rIxT K (.ref p) (.int i) H Q) 2 := ⟨⟩ -- st
theorem w_ixS {z : Str} {i : Int} {c : Nat} (h : z.length ≤ sizeLine) (a : atI z.cps.toList i = some c) (q : Q (.str ⟨#[c]⟩) H) : rIxS (.str z) (.int i) H Q := ⟨z, i, c, rfl, rfl, h, a, q⟩
theorem w_setL {p : Addr} {k : Int} {Z : Hp → Prop} (xs : List V) (j : Nat) (h : H p = some (.lst xs)) (a : ixN xs.length k = some j) (q : Z (upd H p (.lst (xs.set j v)))) : rSetL (.ref p) (.int k) v H Z := ⟨p, xs, k, j, rfl, rfl, h, a, q⟩
instance {p : Addr} {k : Int} {Z : Hp → Prop} : SideK (rSetL (.ref p) (.int k) v H Z) 3 := ⟨⟩ -- st
theorem w_b1 {p : Addr} (a0 a1 a2 a3 a4 : V) {Z : Hp → Prop} (h : H p = some (.lst [a0, a1, a2, a3, a4])) (q : Z (upd H p (.lst [a0, v, a2, a3, a4]))) : rSetL (.ref p) (.int 1) v H Z := ⟨p, _, 1, 1, rfl, rfl, h, rfl, q⟩
instance {p : Addr} {Z : Hp → Prop} : SideK (rSetL (.ref p) (.int 1) v H Z) 3 := ⟨⟩ -- st
theorem w_b2 {p : Addr} (a0 a1 a2 a3 a4 : V) {Z : Hp → Prop} (h : H p = some (.lst [a0, a1, a2, a3, a4])) (q : Z (upd H p (.lst [a0, a1, v, a3, a4]))) : rSetL (.ref p) (.int 2) v H Z := ⟨p, _, 2, 2, rfl, rfl, h, rfl, q⟩
theorem w_b3 {p : Addr} (a0 a1 a2 a3 a4 : V) {Z : Hp → Prop} (h : H p = some (.lst [a0, a1, a2, a3, a4])) (q : Z (upd H p (.lst [a0, a1, a2, v, a4]))) : rSetL (.ref p) (.int 3) v H Z := ⟨p, _, 3, 3, rfl, rfl, h, rfl, q⟩
theorem w_b4 {p : Addr} (a0 a1 a2 a3 a4 : V) {Z : Hp → Prop} (h : H p = some (.lst [a0, a1, a2, a3, a4])) (q : Z (upd H p (.lst [a0, a1, a2, a3, v]))) : rSetL (.ref p) (.int 4) v H Z := ⟨p, _, 4, 4, rfl, rfl, h, rfl, q⟩
theorem w_app {l : Addr} (xs : List V) (h : H l = some (.lst xs)) (hn : xs.length < sizeLine) (q : Q .non (upd H l (.lst (xs ++ [y])))) : rAppend (.ref l) [y] H Q := ⟨l, xs, y, rfl, rfl, h, hn, q⟩
instance {l : Addr} : SideK (rAppend (.ref l) [y] H Q) 3 := ⟨⟩ -- st
theorem w_tyL {l : Addr} {P : Prop} (xs : List V) (h : SqL K H l xs) (q : P) : tyV K "list" (.ref l) H ∧ P := ⟨.inl ⟨rfl, _, h⟩, q⟩
instance {l : Addr} {P : Prop} : SideK (tyV K "list" (.ref l) H ∧ P) 2 := ⟨⟩ -- st
theorem w_lenQ {p : Addr} (xs : List V) (h : SqL K H p xs) (q : Q (.int xs.length) H) : rLenQ K [.ref p] H Q := ⟨p, xs, rfl, .inl h, q⟩
instance {p : Addr} : SideK (rLenQ K [.ref p] H Q) 2 := ⟨⟩ -- st
theorem w_lenQT {p : Addr} (xs : List V) (h : SqT K H p xs) (q : Q (.int xs.length) H) : rLenQ K [.ref p] H Q := ⟨p, xs, rfl, .inr h, q⟩
theorem w_lenS {z : Str} (h : z.length ≤ sizeLine) (q : Q (.int z.length) H) : rLenS [.str z] H Q := ⟨z, rfl, h, q⟩
instance {z : Str} : SideK (rLenS [.str z] H Q) 2 := ⟨⟩ -- st
theorem w_listOf {p : Addr} (xs : List V) (h : SqL K H p xs) (q : ∀ l, H l = none → Q (.ref l) (upd H l (.lst xs))) : rListOf K [.ref p] H Q := ⟨p, xs, rfl, .inl h, q⟩
instance {p : Addr} : SideK (rListOf K [.ref p] H Q) 3 := ⟨⟩ -- st
theorem w_int1 {i : Int} (q : Q (.int i) H) : rInt1 [.int i] H Q := .inl ⟨i, rfl, q⟩
instance {i : Int} : Step (rInt1 [.int i] H Q) (Q (.int i) H) := ⟨w_int1⟩ -- st
theorem w_int1b {b : Bool} (q : Q (.int (if b then 1 else 0)) H) : rInt1 [.bl b] H Q := .inr ⟨b, rfl, q⟩
instance {b : Bool} : Step (rInt1 [.bl b] H Q) (Q (.int (if b then 1 else 0)) H) := ⟨w_int1b⟩ -- st
theorem w_abs {i : Int} (q : Q (.int (if i < 0 then -i else i)) H) : rAbs [.int i] H Q := ⟨i, rfl, q⟩
instance {i : Int} : Step (rAbs [.int i] H Q) (Q (.int (if i < 0 then -i else i)) H) := ⟨w_abs⟩ -- st
theorem w_min2 {i j : Int} (q : Q (.int (if j < i then j else i)) H) : rMin2 [.int i, .int j] H Q := ⟨i, j, rfl, q⟩
instance {i j : Int} : Step (rMin2 [.int i, .int j] H Q) (Q (.int (if j < i then j else i)) H) := ⟨w_min2⟩ -- st
theorem w_max2 {i j : Int} (q : Q (.int (if j > i then j else i)) H) : rMax2 [.int i, .int j] H Q := ⟨i, j, rfl, q⟩
instance {i j : Int} : Step (rMax2 [.int i, .int j] H Q) (Q (.int (if j > i then j else i)) H) := ⟨w_max2⟩ -- st
theorem w_min3 {i j k : Int} (q : Q (.int (min (min i j) k)) H) : rNuC3 nuMin3 [.int i, .int j, .int k] H Q := by
  refine ⟨.int i, .int j, .int k, .int (min (min i j) k), rfl, ?_, q⟩
  have e1 : nuMin2 (.int i) (.int j) = some (.int (min i j)) := by
    show some (if decide (j < i) = true then V.int j else V.int i) = _
    by_cases h : j < i
    · rw [if_pos (decide_eq_true h)]
      congr 2
      omega
    · rw [if_neg (by simpa using h)]
      congr 2
      omega
  have e2 : nuMin2 (.int (min i j)) (.int k) = some (.int (min (min i j) k)) := by
    show some (if decide (k < min i j) = true then V.int k else V.int (min i j)) = _
    by_cases h : k < min i j
    · rw [if_pos (decide_eq_true h)]
      congr 2
      omega
    · rw [if_neg (by simpa using h)]
      congr 2
      omega
  show (nuMin2 (.int i) (.int j)).bind (fun m => nuMin2 m (.int k)) = _
  rw [e1]
  exact e2
instance {i j k : Int} : Step (rNuC3 nuMin3 [.int i, .int j, .int k] H Q) (Q (.int (min (min i j) k)) H) := ⟨w_min3⟩ -- st
theorem w_slL {p : Addr} {lo hi : Option Int} (xs : List V) (h : SqL K H p xs) (q : ∀ l, H l = none → Q (.ref l) (upd H l (.lst (cutV xs lo hi)))) : rSlL K (.ref p) lo hi H Q := ⟨p, xs, rfl, h, q⟩
instance {p : Addr} {lo hi : Option Int} : SideK (rSlL K (.ref p) lo hi H Q) 3 := ⟨⟩ -- st
theorem w_slS {z : Str} {lo hi : Option Int} (h : z.length ≤ sizeLine) (q : Q (.str (cutS z lo hi)) H) : rSlS (.str z) lo hi H Q := ⟨z, rfl, h, q⟩
end
end R
namespace R
open PySem L2
/-! ### the bag of a law: its cells (never changed), a place, what is left, the stirred number, a count -/
structure Bag (K : PySem.W.Frag) (F H : Hp) (b : Addr) : Prop where
  ex : ∃ (c : Addr) (cells : List Int) (i cur st n : Int), F b = none ∧ H b = some (.lst [.ref c, .int i, .int cur, .int st, .int n]) ∧ SqL K F c (cells.map V.int) ∧ cells.length ≤ 63 ∧
    (∀ x ∈ cells, 0 ≤ x ∧ x < 10 ^ 60) ∧ 0 ≤ i ∧ 0 ≤ cur ∧ cur < 10 ^ 60 ∧ 0 ≤ st ∧ st < 2147483647
theorem Bag.keep {K : PySem.W.Frag} {M : List Addr} {F H F2 H2 : Hp} {b : Addr} (g : Gr M F H F2 H2) (h : Bag K F H b) (hb : b ∉ M) : Bag K F2 H2 b := by
  obtain ⟨c, cells, i, cur, st, n, h1, h2, h3, h4⟩ := h.ex
  exact ⟨c, cells, i, cur, st, n, g.nw b (ne_none h2) h1, g.hh b _ hb h2, sqL_same g.ff h3, h4⟩
theorem Bag.ne_new {K : PySem.W.Frag} {F H : Hp} {b q : Addr} (h : Bag K F H b) (hq : H q = none) : b ≠ q := by
  obtain ⟨c, cells, i, cur, st, n, h1, h2, _⟩ := h.ex
  exact ne_of_none h2 hq
/-- a draw: a number from 0 on below n -/
def φdraw (K : PySem.W.Frag) : V → V → Hp → VK → Prop := fun x y H Q => ∃ (b : Addr) (m : Int) (F : Hp), x = .ref b ∧ y = .int m ∧ Same F H ∧ Bag K F H b ∧ 0 < m ∧ m < 2 ^ 200 ∧
  ∀ (r : Int) (F2 H2 : Hp), Gr [b] F H F2 H2 → Bag K F2 H2 b → 0 ≤ r → r < m → Q (.int r) H2
theorem u_draw {K : PySem.W.Frag} {b : Addr} {m : Int} {F H : Hp} {Q : VK} {E : XK} (w : Same F H) (hb : Bag K F H b) (h0 : 0 < m) (h1 : m < 2 ^ 200) (q : ∀ (r : Int) (F2 H2 : Hp), Gr [b] F H F2 H2 → Bag K F2 H2 b → 0 ≤ r → r < m → Q (.int r) H2) :
    S2 (φdraw K) ([.ref b, .int m] ++ []) H Q E := ⟨b, m, F, rfl, rfl, w, hb, h0, h1, q⟩
def φbag (K : PySem.W.Frag) : V → Hp → VK → Prop := fun x H Q => ∃ (a : Addr) (ns : List Int), x = .ref a ∧ SqL K H a (ns.map V.int) ∧ ns.length ≤ 63 ∧
  ∀ (b : Addr) (F2 H2 : Hp), Gr [] H H F2 H2 → Bag K F2 H2 b → Q (.ref b) H2
theorem bits_le {m : Int} (h0 : 0 < m) (h1 : m < 2 ^ 200) : (Builtin.Int.intBits m : Int) ≤ 200 := by
  have h : m.natAbs < 2 ^ 200 := by omega
  have e := PyProof.Rows.intBits_le h
  omega
theorem mod_nn {a b : Int} (h : 0 < b) : 0 ≤ a % b := Int.emod_nonneg a (by omega)
theorem mod_lt {a b : Int} (h : 0 < b) : a % b < b := Int.emod_lt_of_pos a h
theorem div_nn {a b : Int} (ha : 0 ≤ a) (hb : 0 < b) : 0 ≤ a / b := Int.ediv_nonneg ha (by omega)
theorem div_le' {a b : Int} (ha : 0 ≤ a) (hb : 0 < b) : a / b ≤ a := Int.ediv_le_self b ha
theorem log2_lt {j : Int} (h : j.natAbs < 2 ^ 8999) (h0 : 0 < j) : CDivW 0 j := by
  refine ⟨h0, ?_⟩
  have hp : j.natAbs ≠ 0 := by omega
  have := (Nat.log2_lt hp).mpr h
  omega
theorem divw_ok {i j : Int} (h0 : 0 < j) (h1 : j < 2 ^ 200) : CDivW i j := by
  refine ⟨h0, ?_⟩
  have hp : j.natAbs ≠ 0 := by omega
  have h : j.natAbs < 2 ^ 200 := by omega
  have := (Nat.log2_lt hp).mpr h
  omega
/-! ### loops by what holds at each turn -/
section
variable {K : PySem.W.Frag} {σ : L2.St} {H : Hp} {Q : VK} {nx bk ct : L2.St → Hp → Prop} {rt : VK} {g : TG} {tb : TS}
/-- what tFor asks of a range, by what holds ahead of turn i -/
theorem f_range {lo : Int} {n : Nat} (Pv : Nat → L2.St → Hp → Prop) (h0 : Pv 0 σ H) (hs : ∀ i σ H, i < n → Pv i σ H → g (.int (lo + i)) σ H fun σ2 H2 => tb ⟨Pv (i + 1), rt, nx, Pv (i + 1)⟩ σ2 H2) (hd : ∀ σ H, Pv n σ H → nx σ H) :
    ∃ W : Nat → Nat → L2.St → Hp → Prop, (∃ m, W 0 m σ H) ∧ ∀ i m σ H, W i m σ H →
      ((Itr lo n).stop i H ∧ nx σ H) ∨ ((Itr lo n).go i H ∧ ∃ N : L2.St → Hp → Prop, (∀ σ' H', N σ' H' → ∃ m', m' < m ∧ W (i + 1) m' σ' H') ∧ ∀ x H', (Itr lo n).yld i H x H' → g x σ H' fun σ2 H2 => tb ⟨N, rt, nx, N⟩ σ2 H2) := by
  refine ⟨fun i m σ H => m = n - i ∧ i ≤ n ∧ Pv i σ H, ⟨n, by simp, Nat.zero_le _, h0⟩, ?_⟩
  rintro i m σ H ⟨rfl, hi, p⟩
  by_cases hlt : i < n
  · refine .inr ⟨hlt, Pv (i + 1), fun σ' H' p' => ⟨n - (i + 1), by omega, rfl, hlt, p'⟩, fun x H' y => ?_⟩
    obtain ⟨e, y⟩ := y
    subst e y
    exact hs i σ _ hlt p
  · have e : i = n := by omega
    subst e
    exact .inl ⟨Nat.le_refl _, hd σ H p⟩
theorem f_range0 {n : Nat} (Pv : Nat → L2.St → Hp → Prop) (h0 : Pv 0 σ H) (hs : ∀ i σ H, i < n → Pv i σ H → g (.int (i : Int)) σ H fun σ2 H2 => tb ⟨Pv (i + 1), rt, nx, Pv (i + 1)⟩ σ2 H2) (hd : ∀ σ H, Pv n σ H → nx σ H) :
    ∃ W : Nat → Nat → L2.St → Hp → Prop, (∃ m, W 0 m σ H) ∧ ∀ i m σ H, W i m σ H →
      ((Itr 0 n).stop i H ∧ nx σ H) ∨ ((Itr 0 n).go i H ∧ ∃ N : L2.St → Hp → Prop, (∀ σ' H', N σ' H' → ∃ m', m' < m ∧ W (i + 1) m' σ' H') ∧ ∀ x H', (Itr 0 n).yld i H x H' → g x σ H' fun σ2 H2 => tb ⟨N, rt, nx, N⟩ σ2 H2) :=
  f_range Pv h0 (fun i σ H hi hp => by rw [Int.zero_add]; exact hs i σ H hi hp) hd
theorem f_list {a : Addr} {xs : List V} (Pv : Nat → L2.St → Hp → Prop) (h0 : Pv 0 σ H) (hl : ∀ i σ H, i ≤ xs.length → Pv i σ H → SqL K H a xs)
    (hs : ∀ i x σ H, xs[i]? = some x → Pv i σ H → g x σ H fun σ2 H2 => tb ⟨Pv (i + 1), rt, nx, Pv (i + 1)⟩ σ2 H2) (hd : ∀ σ H, Pv xs.length σ H → nx σ H) :
    ∃ W : Nat → Nat → L2.St → Hp → Prop, (∃ m, W 0 m σ H) ∧ ∀ i m σ H, W i m σ H →
      ((Itl K a).stop i H ∧ nx σ H) ∨ ((Itl K a).go i H ∧ ∃ N : L2.St → Hp → Prop, (∀ σ' H', N σ' H' → ∃ m', m' < m ∧ W (i + 1) m' σ' H') ∧ ∀ x H', (Itl K a).yld i H x H' → g x σ H' fun σ2 H2 => tb ⟨N, rt, nx, N⟩ σ2 H2) := by
  refine ⟨fun i m σ H => m = xs.length - i ∧ i ≤ xs.length ∧ Pv i σ H, ⟨xs.length, by simp, Nat.zero_le _, h0⟩, ?_⟩
  rintro i m σ H ⟨rfl, hi, p⟩
  have q := hl i σ H hi p
  by_cases hlt : i < xs.length
  · refine .inr ⟨⟨xs, xs[i], q, by simp [hlt]⟩, Pv (i + 1), fun σ' H' p' => ⟨xs.length - (i + 1), by omega, rfl, hlt, p'⟩, fun x H' y => ?_⟩
    obtain ⟨e, y⟩ := y
    subst e
    exact hs i x σ _ (y xs q) p
  · have e : i = xs.length := by omega
    subst e
    exact .inl ⟨⟨xs, q, Nat.le_refl _⟩, hd σ H p⟩
variable {tt : TT} {te : TE} {vs : List Nat} {D : Addr} {Qd : Hp → Prop}
theorem lc_rng {n : Nat} (Pv : Nat → Hp → Prop) (h0 : Pv 0 (upd H D (.lst []))) (hs : ∀ i H, i < n → Pv i H → g (.int (i : Int)) (wipe σ vs) H fun σ2 H2 => wipe σ2 vs = wipe σ vs ∧ tt σ2 H2 fun b H3 =>
      if b = true then te σ2 H3 fun y H4 => ∃ acc, H4 D = some (.lst acc) ∧ acc.length < sizeLine ∧ Pv (i + 1) (upd H4 D (.lst (acc ++ [y]))) else Pv (i + 1) H3) (hd : ∀ H, Pv n H → Qd H) :
    ∃ W : Nat → Nat → Hp → Prop, (∃ m, W 0 m (upd H D (.lst []))) ∧ ∀ i m H, W i m H →
      ((Itr 0 n).stop i H ∧ Qd H) ∨ ((Itr 0 n).go i H ∧ ∃ Nx : Hp → Prop, (∀ H', Nx H' → ∃ m', m' < m ∧ W (i + 1) m' H') ∧ ∀ x H', (Itr 0 n).yld i H x H' → g x (wipe σ vs) H' fun σ2 H2 => wipe σ2 vs = wipe σ vs ∧ tt σ2 H2 fun b H3 =>
        if b = true then te σ2 H3 fun y H4 => ∃ acc, H4 D = some (.lst acc) ∧ acc.length < sizeLine ∧ Nx (upd H4 D (.lst (acc ++ [y]))) else Nx H3) :=
  lc_range (lo := 0) Pv h0 (fun i H hi hp => by rw [Int.zero_add]; exact hs i H hi hp) hd
end
end R
namespace R
open PySem L2
theorem Gr.put {M : List Addr} {F0 H0 F H : Hp} {p : Addr} {o : HO} (g : Gr M F0 H0 F H) (h : F p = none) (hm : p ∈ M) : Gr M F0 H0 F (upd H p o) := g.trans (.wr g.fh h hm)
theorem Gr.add {M : List Addr} {F0 H0 F H : Hp} {p : Addr} {o : HO} (g : Gr M F0 H0 F H) (h : H p = none) : Gr M F0 H0 (upd F p o) (upd H p o) := g.trans (.im g.fh h)
theorem Gr.addm {M : List Addr} {F0 H0 F H : Hp} {p : Addr} {o : HO} (g : Gr M F0 H0 F H) (h : H p = none) : Gr M F0 H0 F (upd H p o) := g.trans (.new g.fh h)
theorem Gr.ws {M : List Addr} {F H F2 H2 : Hp} (g : Gr M F H F2 H2) : Same F H2 := g.ff.trans g.fh
theorem Gr.transN {M N : List Addr} {F H F1 H1 F2 H2 : Hp} (a : Gr M F H F1 H1) (b : Gr N F1 H1 F2 H2) (h : ∀ x ∈ N, x ∈ M ∨ H x = none) : Gr M F H F2 H2 :=
  ⟨a.ff.trans b.ff, b.fh, fun x o n e => b.hh x o (fun m => (h x m).elim n fun z => by rw [z] at e; cases e) (a.hh x o n e), fun x e => b.al x (a.al x e), fun x e n => b.nw x (a.al x e) (a.nw x e n)⟩
/-- back to a smaller part that stays -/
theorem Gr.back {M : List Addr} {F F' H F2 H2 : Hp} (g : Gr M F' H F2 H2) (s : Same F F') : Gr M F H F H2 := ⟨Same.refl F, (s.trans g.ff).trans g.fh, g.hh, g.al, fun _ _ n => n⟩
theorem Gr.fresh {M : List Addr} {F0 H0 F H : Hp} {p : Addr} (g : Gr M F0 H0 F H) (h : H p = none) : H0 p = none := by
  cases e : H0 p with
  | none => rfl
  | some o => exact absurd h (g.al p (ne_none e))
/-- an object that was new behind the start, and changes no more -/
theorem Gr.frz {M : List Addr} {F0 H0 F H : Hp} {p : Addr} {o : HO} (g : Gr M F0 H0 F H) (hn : H0 p = none) (m : Mu F H p o) : Gr M F0 H0 (upd F p o) H := by
  refine ⟨g.ff.trans (Same.new m.n), fun a u e => ?_, g.hh, g.al, fun a e n => ?_⟩
  · by_cases q : a = p
    · subst q
      rw [upd_same] at e
      exact m.h.trans e
    · rw [upd_ne q] at e
      exact g.fh a u e
  · have q : a ≠ p := fun z => by subst z; exact e hn
    rw [upd_ne q]
    exact g.nw a e n
theorem Mu.same {F H : Hp} {p : Addr} {o : HO} (m : Mu F H p o) (w : Same F H) : Same (upd F p o) H := fun a u e => by
  by_cases q : a = p
  · subst q
    rw [upd_same] at e
    exact m.h.trans e
  · rw [upd_ne q] at e
    exact w a u e
theorem Mu.frz {F H : Hp} {p q : Addr} {o u : HO} (m : Mu F H p o) (h : p ≠ q) : Mu (upd F q u) H p o := ⟨by rw [upd_ne h]; exact m.n, m.h⟩
theorem Bag.frz {K : PySem.W.Frag} {F H : Hp} {b q : Addr} {u : HO} (h : Bag K F H b) (hn : F q = none) (hq : b ≠ q) : Bag K (upd F q u) H b := by
  obtain ⟨c, cells, i, cur, st, n, h1, h2, h3, h4⟩ := h.ex
  exact ⟨c, cells, i, cur, st, n, by rw [upd_ne hq]; exact h1, h2, sqL_same (Same.new hn) h3, h4⟩
theorem Bag.put {K : PySem.W.Frag} {F H : Hp} {b q : Addr} {u : HO} (h : Bag K F H b) (hq : b ≠ q) : Bag K F (upd H q u) b := by
  obtain ⟨c, cells, i, cur, st, n, h1, h2, h3, h4⟩ := h.ex
  exact ⟨c, cells, i, cur, st, n, h1, by rw [upd_ne hq]; exact h2, h3, h4⟩
theorem Bag.addm {K : PySem.W.Frag} {F H : Hp} {b q : Addr} {u : HO} (h : Bag K F H b) (hq : H q = none) : Bag K F (upd H q u) b := h.put (h.ne_new hq)
theorem Bag.add {K : PySem.W.Frag} {F H : Hp} {b q : Addr} {u : HO} (w : Same F H) (h : Bag K F H b) (hq : H q = none) : Bag K (upd F q u) (upd H q u) b := (h.addm hq).frz (w.free hq) (h.ne_new hq)
theorem Mu.addm {F H : Hp} {p q : Addr} {o u : HO} (m : Mu F H p o) (hq : H q = none) : Mu F (upd H q u) p o := m.oth (m.ne_new hq)
theorem Mu.add {F H : Hp} {p q : Addr} {o u : HO} (m : Mu F H p o) (hq : H q = none) : Mu (upd F q u) (upd H q u) p o := (m.addm hq).frz (m.ne_new hq)
/-! ### data -/
theorem dpa_len {K : PySem.W.Frag} {F : Hp} : ∀ {vs : List V} {ds : List PyData}, DpAll K F vs ds → vs.length = ds.length
  | _, _, .nil => rfl
  | _, _, .cons _ t => congrArg (· + 1) (dpa_len t)
theorem dpa_get {K : PySem.W.Frag} {F : Hp} : ∀ {vs : List V} {ds : List PyData} {i : Nat} {d : PyData}, DpAll K F vs ds → ds[i]? = some d → ∃ v, vs[i]? = some v ∧ Dp K F v d
  | _, _, _, _, .nil, e => by simp at e
  | _, _, 0, _, .cons h _, e => by
    have e' := Option.some.inj e
    subst e'
    exact ⟨_, rfl, h⟩
  | _, _, i + 1, _, .cons _ t, e => dpa_get (i := i) t e
theorem dpa_app {K : PySem.W.Frag} {F : Hp} : ∀ {vs us : List V} {ds es : List PyData}, DpAll K F vs ds → DpAll K F us es → DpAll K F (vs ++ us) (ds ++ es)
  | _, _, _, _, .nil, h => h
  | _, _, _, _, .cons h t, u => .cons h (dpa_app t u)
theorem dpa_snoc {K : PySem.W.Frag} {F : Hp} {vs : List V} {ds : List PyData} {v : V} {d : PyData} (h : DpAll K F vs ds) (hd : Dp K F v d) : DpAll K F (vs ++ [v]) (ds ++ [d]) := dpa_app h (.cons hd .nil)
def tyD : PyData → String
  | .none => "NoneType" | .bool _ => "bool" | .int _ => "int" | .str _ => "str" | .list _ => "list" | .tuple _ => "tuple" | .dict _ => "dict"
theorem tyx_of {K : PySem.W.Frag} {F H : Hp} {x : V} {d : PyData} (h : Dp K F x d) (w : Same F H) : TyX K H x (.type (tyD d)) := by
  cases h with
  | non => exact .base .non
  | bl b => exact .base (.bl b)
  | int i => exact .base (.int i)
  | str s => exact .base (.str s)
  | lst hs _ =>
    rcases hs with (h | ⟨o, h⟩) | ⟨o, its, n, e1, e2, _⟩
    · exact .base (.lst (w _ _ h))
    · exact .base (.frz (w _ _ h))
    · exact .kList e1 e2
  | tup hs _ =>
    rcases hs with (h | ⟨o, h⟩) | ⟨o, its, n, e1, e2, _⟩
    · exact .base (.tup (w _ _ h))
    · exact .fTuple (w _ _ h)
    · exact .kTuple e1 e2
section
variable {K : PySem.W.Frag} {F H : Hp} {x y : V} {d : PyData} {Q : VK} {n m : String} {p : Addr}
theorem u_isi {b : Bool} (h : Dp K F x d) (w : Same F H) (e : kitB (tyD d) n = some b) (q : Q (.bl b) H) : rIsi K [x, .ty n] H Q :=
  ⟨x, .ty n, _, _, b, rfl, .ty n, tyx_of h w, kit_ty e, q⟩
theorem u_isiT {b c : Bool} (h : Dp K F x d) (w : Same F H) (hp : H p = some (.tup [.ty n, .ty m])) (e1 : kitB (tyD d) n = some b) (e2 : kitB (tyD d) m = some c) (q : Q (.bl (b || c)) H) : rIsiT K [x, .ref p] H Q := by
  refine ⟨x, p, _, _, _, b || c, rfl, hp, .cons (.ty n) (.cons (.ty m) .nil), tyx_of h w, ?_, q⟩
  refine kitAny_cons (kit_ty e1) (fun hb => ?_) (fun hb => by rw [hb]; rfl)
  refine kitAny_cons (kit_ty e2) (fun hc => ?_) (fun hc => by rw [hc]; simp)
  rw [hb, hc]
  exact kitAny_nil
end
/-- the answers of isinstance for data -/
def isSeq : PyData → Bool
  | .list _ | .tuple _ => true
  | _ => false
def isLst : PyData → Bool
  | .list _ => true
  | _ => false
def isTup : PyData → Bool
  | .tuple _ => true
  | _ => false
def isBol : PyData → Bool
  | .bool _ => true
  | _ => false
def isInt : PyData → Bool
  | .bool _ | .int _ => true
  | _ => false
def isStr : PyData → Bool
  | .str _ => true
  | _ => false
theorem k_list : ∀ d : PyData, kitB (tyD d) "list" = some (isLst d) := by intro d; cases d <;> simp only [tyD, isLst, isTup, isBol, isInt, isStr] <;> decide +kernel
theorem k_tuple : ∀ d : PyData, kitB (tyD d) "tuple" = some (isTup d) := by intro d; cases d <;> simp only [tyD, isLst, isTup, isBol, isInt, isStr] <;> decide +kernel
theorem k_bool : ∀ d : PyData, kitB (tyD d) "bool" = some (isBol d) := by intro d; cases d <;> simp only [tyD, isLst, isTup, isBol, isInt, isStr] <;> decide +kernel
theorem k_int : ∀ d : PyData, kitB (tyD d) "int" = some (isInt d) := by intro d; cases d <;> simp only [tyD, isLst, isTup, isBol, isInt, isStr] <;> decide +kernel
theorem k_str : ∀ d : PyData, kitB (tyD d) "str" = some (isStr d) := by intro d; cases d <;> simp only [tyD, isLst, isTup, isBol, isInt, isStr] <;> decide +kernel
def itemsD : PyData → List PyData
  | .list ds | .tuple ds => ds
  | _ => []
theorem seq_of {K : PySem.W.Frag} {F : Hp} {x : V} {d : PyData} (h : Dp K F x d) (s : isSeq d = true) : ∃ (a : Addr) (vs : List V), x = .ref a ∧ (SqL K F a vs ∨ SqT K F a vs) ∧ DpAll K F vs (itemsD d) := by
  cases h with
  | lst hs ha => exact ⟨_, _, rfl, .inl hs, ha⟩
  | tup hs ha => exact ⟨_, _, rfl, .inr hs, ha⟩
  | _ => cases s
theorem sca_of {K : PySem.W.Frag} {F : Hp} {x y : V} {d : PyData} (h : Dp K F x d) (h' : Dp K F y d) (s : isSeq d = false) : y = x ∧ scal x x = true := by
  cases h with
  | lst hs ha => cases s
  | tup hs ha => cases s
  | non => cases h'; exact ⟨rfl, rfl⟩
  | bl => cases h'; exact ⟨rfl, rfl⟩
  | int => cases h'; exact ⟨rfl, rfl⟩
  | str => cases h'; exact ⟨rfl, rfl⟩
theorem depth_item : ∀ {d e : PyData} {i : Nat}, isSeq d = true → (itemsD d)[i]? = some e → e.depth < d.depth := by
  have key : ∀ (ds : List PyData) (i : Nat) (e : PyData), ds[i]? = some e → e.depth ≤ PyData.depthAll ds := by
    intro ds
    induction ds with
    | nil => intro i e h; simp at h
    | cons d ds ih =>
      intro i e h
      cases i with
      | zero =>
        have e' := Option.some.inj h
        subst e'
        rw [PyData.depthAll]
        exact Nat.le_max_left _ _
      | succ i =>
        have := ih i e h
        rw [PyData.depthAll]
        exact Nat.le_trans this (Nat.le_max_right _ _)
  intro d e i s h
  cases d with
  | list ds => rw [PyData.depth]; exact Nat.lt_succ_of_le (key ds i e h)
  | tuple ds => rw [PyData.depth]; exact Nat.lt_succ_of_le (key ds i e h)
  | _ => cases s
section
variable {K : PySem.W.Frag} {H : Hp} {Q : VK} {v : V} {A B : Prop}
theorem w_ixQ {a : Addr} {i : Int} (vs : List V) (v : V) (h : SqL K H a vs ∨ SqT K H a vs) (e : atI vs i = some v) (q : Q v H) : rIx K (.ref a) (.int i) H Q := by
  rcases h with h | h
  · exact .inl ⟨a, vs, i, v, rfl, rfl, h, e, q⟩
  · exact .inr (.inl ⟨a, vs, i, v, rfl, rfl, h, e, q⟩)
theorem sq_same {F : Hp} {a : Addr} {vs : List V} (w : Same F H) (h : SqL K F a vs ∨ SqT K F a vs) : SqL K H a vs ∨ SqT K H a vs := h.elim (fun h => .inl (sqL_same w h)) fun h => .inr (sqT_same w h)
theorem w_nself {α : Type} [DecidableEq α] {a : α} (h : B) : if (!decide (a = a)) = true then A else B := by
  rw [if_neg (by simp)]
  exact h
instance {α : Type} [DecidableEq α] {a : α} : Step (if (!decide (a = a)) = true then A else B) (B) := ⟨w_nself⟩ -- st
theorem w_self {α : Type} [DecidableEq α] {a : α} (h : A) : if decide (a = a) = true then A else B := by
  rw [if_pos (by simp)]
  exact h
instance {α : Type} [DecidableEq α] {a : α} : Step (if decide (a = a) = true then A else B) (A) := ⟨w_self⟩ -- st
theorem w_is {b c : Bool} (e : b = c) (h : if c = true then A else B) : if b = true then A else B := by rw [e]; exact h
end
theorem le1000 {n : Nat} (h : n ≤ 1000) : n ≤ sizeLine := Nat.le_of_lt (small1000 h)
theorem small_lt {n : Nat} (h : n ≤ 1000000) : n < sizeLine := by rw [sizeLine_eq]; omega
theorem all_rep (n : Nat) : (List.replicate n true).all id = true := by
  induction n with
  | zero => rfl
  | succ n ih => rw [List.replicate_succ, List.all_cons, ih]; rfl
theorem szle {n : Nat} (h : n ≤ 1000000) : n ≤ sizeLine := Nat.le_of_lt (by rw [sizeLine_eq]; omega)
section
variable {K : PySem.W.Frag} {σ : L2.St} {H : Hp} {Q : VK} {ta : TE}
theorem w_lstRg {te : L2.St → Hp → (Int → Int → Hp → Prop) → Prop} (q : te σ H fun a b H1 => RgOk a b ∧ ∀ q, H1 q = none → Q (.ref q) (upd H1 q (.lst (rgV a b)))) : tLstRg te σ H Q := q
instance {te : L2.St → Hp → (Int → Int → Hp → Prop) → Prop} : StepO (tLstRg te σ H Q) (te σ H fun a b H1 => RgOk a b ∧ ∀ q, H1 q = none → Q (.ref q) (upd H1 q (.lst (rgV a b)))) := ⟨w_lstRg⟩ -- st
theorem w_rg1 {R : Int → Int → Hp → Prop} (q : ta σ H fun x H1 => asInt x H1 fun n H2 => R 0 n H2) : tRg1 ta σ H R := q
instance {R : Int → Int → Hp → Prop} : Step (tRg1 ta σ H R) (ta σ H fun x H1 => asInt x H1 fun n H2 => R 0 n H2) := ⟨w_rg1⟩ -- st
theorem w_revL (q : ta σ H fun x H1 => ∃ a xs, x = .ref a ∧ SqL K H1 a xs ∧ ∀ p, H1 p = none → Q (.ref p) (upd H1 p (.lst xs.reverse))) : tRevL K ta σ H Q := q
instance : StepO (tRevL K ta σ H Q) (ta σ H fun x H1 => ∃ a xs, x = .ref a ∧ SqL K H1 a xs ∧ ∀ p, H1 p = none → Q (.ref p) (upd H1 p (.lst xs.reverse))) := ⟨w_revL⟩ -- st
end
def nV (l : List Nat) : List V := l.map fun k => V.int (k : Nat)
theorem pick_ix {ns : List Int} {i lo hi : Int} (h0 : 0 ≤ i) (h1 : i < (ns.length : Int)) (hb : ∀ x ∈ ns, lo ≤ x ∧ x ≤ hi) : ∃ m, atI (ns.map V.int) i = some (.int m) ∧ lo ≤ m ∧ m ≤ hi := by
  have hi : i.toNat < ns.length := by omega
  refine ⟨ns[i.toNat], ?_, hb _ (List.getElem_mem hi)⟩
  refine at_of (j := i.toNat) (by omega) ?_
  rw [List.getElem?_map, List.getElem?_eq_getElem hi]
  rfl
theorem cell_at {cells : List Int} {i : Int} (h0 : 0 ≤ i) (h1 : i < ((cells.map V.int).length : Nat)) : ∃ x, x ∈ cells ∧ atI (cells.map V.int) i = some (.int x) := by
  rw [List.length_map] at h1
  have hi : i.toNat < cells.length := by omega
  refine ⟨cells[i.toNat], List.getElem_mem hi, ?_⟩
  refine at_of (j := i.toNat) (by omega) ?_
  rw [List.getElem?_map, List.getElem?_eq_getElem hi]
  rfl
theorem cut63 {ns : List Int} (h : ns.length ≤ 63) : cutV (ns.map V.int) none (some 63) = ns.map V.int := by
  unfold cutV
  rw [HT.sIx_none, show HT.sIx (ns.map V.int).length (ns.map V.int).length (some 63) = min 63 (ns.map V.int).length from HT.sIx_nat _ _ 63, List.drop_zero, List.length_map]
  refine List.take_of_length_le ?_
  rw [List.length_map]
  omega
theorem map_get {ns : List Int} {i : Nat} {x : V} (h : (ns.map V.int)[i]? = some x) : ∃ c, x = .int c := by
  rw [List.getElem?_map] at h
  cases e : ns[i]? with
  | none => rw [e] at h; cases h
  | some c =>
    rw [e] at h
    exact ⟨c, (Option.some.inj h).symm⟩
/-! data of modest size, no dicts, plain signs -/
mutual
def good : PyData → Bool
  | .none | .bool _ | .int _ => true
  | .str x => PyData.strOk x && decide (x.length ≤ 100000)
  | .list ds | .tuple ds => decide (ds.length ≤ 100000) && goodAll ds
  | .dict _ => false
def goodAll : List PyData → Bool
  | [] => true
  | d :: ds => good d && goodAll ds
end
theorem goodAll_iff : ∀ {ds : List PyData}, goodAll ds = true ↔ ∀ d ∈ ds, good d = true
  | [] => by simp [goodAll]
  | d :: ds => by simp [goodAll, goodAll_iff (ds := ds)]
mutual
theorem lay_good : ∀ d : PyData, good d = true → d.canLay0 = true
  | .none, _ => rfl
  | .bool _, _ => rfl
  | .int _, _ => rfl
  | .str x, h => by
    rw [good, Bool.and_eq_true] at h
    exact h.1
  | .list ds, h => by
    rw [good, Bool.and_eq_true] at h
    exact lay_goodAll ds h.2
  | .tuple ds, h => by
    rw [good, Bool.and_eq_true] at h
    exact lay_goodAll ds h.2
  | .dict _, h => by cases h
theorem lay_goodAll : ∀ ds : List PyData, goodAll ds = true → PyData.canLayAll0 ds = true
  | [], _ => rfl
  | d :: ds, h => by
    rw [goodAll, Bool.and_eq_true] at h
    rw [PyData.canLayAll0, lay_good d h.1, lay_goodAll ds h.2]
    rfl
end
theorem good_item {d e : PyData} {i : Nat} (h : good d = true) (he : (itemsD d)[i]? = some e) : good e = true := by
  cases d with
  | list ds =>
    rw [good, Bool.and_eq_true] at h
    exact goodAll_iff.mp h.2 e (List.mem_of_getElem? he)
  | tuple ds =>
    rw [good, Bool.and_eq_true] at h
    exact goodAll_iff.mp h.2 e (List.mem_of_getElem? he)
  | _ => simp [itemsD] at he
theorem good_len {d : PyData} (h : good d = true) : (itemsD d).length ≤ 100000 := by
  cases d with
  | list ds =>
    rw [good, Bool.and_eq_true] at h
    exact of_decide_eq_true h.1
  | tuple ds =>
    rw [good, Bool.and_eq_true] at h
    exact of_decide_eq_true h.1
  | _ => exact Nat.zero_le _
theorem good_shaped {d : PyData} (h : good d = true) (hd : d.depth ≤ 64) : SeqAt.shaped d = true := by
  unfold SeqAt.shaped
  rw [lay_good d h, decide_eq_true hd]
  rfl
theorem good_refl {d : PyData} (h : good d = true) : PyData.eqv d d = true := SeqAt.eqv_refl d (lay_good d h)
theorem good_list {ds : List PyData} (hl : ds.length ≤ 100000) (h : ∀ d ∈ ds, good d = true) : good (.list ds) = true := by
  rw [good, Bool.and_eq_true]
  exact ⟨decide_eq_true hl, goodAll_iff.mpr h⟩
theorem good_tuple {ds : List PyData} (hl : ds.length ≤ 100000) (h : ∀ d ∈ ds, good d = true) : good (.tuple ds) = true := by
  rw [good, Bool.and_eq_true]
  exact ⟨decide_eq_true hl, goodAll_iff.mpr h⟩
theorem depth_list {ds : List PyData} {n : Nat} (h : ∀ d ∈ ds, d.depth ≤ n) : (PyData.list ds).depth ≤ n + 1 := by
  have key : ∀ ds : List PyData, (∀ d ∈ ds, d.depth ≤ n) → PyData.depthAll ds ≤ n := by
    intro ds
    induction ds with
    | nil => intro _; exact Nat.zero_le _
    | cons d ds ih =>
      intro h
      rw [PyData.depthAll]
      exact Nat.max_le.mpr ⟨h d (List.mem_cons_self ..), ih fun e he => h e (List.mem_cons_of_mem _ he)⟩
  rw [PyData.depth]
  exact Nat.succ_le_succ (key ds h)
theorem depth_tuple {ds : List PyData} {n : Nat} (h : ∀ d ∈ ds, d.depth ≤ n) : (PyData.tuple ds).depth ≤ n + 1 := depth_list (ds := ds) h
/-! == and != of equal data -/
section
variable {K : PySem.W.Frag} {F H : Hp} {x y : V} {d : PyData} {Q : VK}
theorem u_eqD (w : Same F H) (hx : Dp K F x d) (hy : Dp K F y d) (hg : good d = true) (hd : d.depth ≤ 64) (q : Q (.bl true) H) : rEqD K x y H Q :=
  ⟨d, d, dp_same w _ _ hx, dp_same w _ _ hy, good_shaped hg hd, good_shaped hg hd, by rw [good_refl hg]; exact q⟩
theorem u_neD (w : Same F H) (hx : Dp K F x d) (hy : Dp K F y d) (hg : good d = true) (hd : d.depth ≤ 64) (q : Q (.bl false) H) : rNeD K x y H Q :=
  ⟨d, d, dp_same w _ _ hx, dp_same w _ _ hy, good_shaped hg hd, good_shaped hg hd, by rw [good_refl hg]; exact q⟩
end
/-- two things of the same data -/
def φalike (K : PySem.W.Frag) (n : Nat) : V → V → Hp → VK → Prop := fun x y H Q => ∃ (F : Hp) (d : PyData), Same F H ∧ Dp K F x d ∧ Dp K F y d ∧ d.depth < n ∧ good d = true ∧
  ∀ F2 H2 : Hp, Gr [] F H F2 H2 → Q (.bl true) H2
theorem alike0 {K : PySem.W.Frag} {vs : List V} {H : Hp} {Q : VK} {E : XK} (h : S2 (φalike K 0) vs H Q E) : False := by
  match vs, h with
  | [_, _], h =>
    obtain ⟨F, d, _, _, _, hn, _⟩ := h
    exact absurd hn (Nat.not_lt_zero _)
end R
namespace R
open PySem L2
/-! ### data taken apart -/
section
variable {K : PySem.W.Frag} {F : Hp} {x v : V}
theorem dp_int {i : Int} (h : Dp K F x (.int i)) : x = .int i := by cases h; rfl
theorem dp_str {s : Str} (h : Dp K F x (.str s)) : x = .str s := by cases h; rfl
theorem dp_tup {ds : List PyData} (h : Dp K F x (.tuple ds)) : ∃ (a : Addr) (vs : List V), x = .ref a ∧ SqT K F a vs ∧ DpAll K F vs ds := by
  cases h with
  | tup hs ha => exact ⟨_, _, rfl, hs, ha⟩
theorem dpa_cons {vs : List V} {d : PyData} {ds : List PyData} (h : DpAll K F vs (d :: ds)) : ∃ v us, vs = v :: us ∧ Dp K F v d ∧ DpAll K F us ds := by
  cases h with
  | cons h t => exact ⟨_, _, rfl, h, t⟩
theorem dpa_nil {vs : List V} (h : DpAll K F vs []) : vs = [] := by cases h; rfl
theorem dp_tup3 {d1 d2 d3 : PyData} (h : Dp K F x (.tuple [d1, d2, d3])) : ∃ (a : Addr) (v1 v2 v3 : V), x = .ref a ∧ SqT K F a [v1, v2, v3] ∧ Dp K F v1 d1 ∧ Dp K F v2 d2 ∧ Dp K F v3 d3 := by
  obtain ⟨a, vs, rfl, hs, h0⟩ := dp_tup h
  obtain ⟨v1, us, rfl, h1, h0⟩ := dpa_cons h0
  obtain ⟨v2, us, rfl, h2, h0⟩ := dpa_cons h0
  obtain ⟨v3, us, rfl, h3, h0⟩ := dpa_cons h0
  cases dpa_nil h0
  exact ⟨a, v1, v2, v3, rfl, hs, h1, h2, h3⟩
end
/-! ### texts -/
/-- a text of plain signs -/
def okS (z : Str) : Prop := PyData.strOk z = true
instance (z : Str) : Decidable (okS z) := inferInstanceAs (Decidable (PyData.strOk z = true))
theorem joined (ys : List Str) (h : ∀ y ∈ ys, y.length = 1 ∧ okS y) : (Txt.join ⟨#[]⟩ ys).length = ys.length ∧ okS (Txt.join ⟨#[]⟩ ys) := by
  have e : TL.tl (Txt.join ⟨#[]⟩ ys) = (ys.map TL.tl).flatten := by
    rw [TL.join_eq, TL.tl_join]
    have key : ∀ l : List (List Nat), TL.joinL [] l = l.flatten := by
      intro l
      induction l with
      | nil => rfl
      | cons p r ih =>
        cases r with
        | nil => simp [TL.joinL]
        | cons q r =>
          show p ++ ([] ++ TL.joinL [] (q :: r)) = _
          rw [ih, List.nil_append]
          rfl
    exact key _
  have hl : ∀ z : Str, z.length = (TL.tl z).length := fun z => by simp [TL.tl, Str.length]
  constructor
  · rw [hl, e]
    clear e
    induction ys with
    | nil => rfl
    | cons y r ih =>
      rw [List.map_cons, List.flatten_cons, List.length_append, ih fun z hz => h z (List.mem_cons_of_mem _ hz), ← hl, (h y (List.mem_cons_self ..)).1, List.length_cons]
      omega
  · show (Txt.join ⟨#[]⟩ ys).cps.all (· < 0x110000) = true
    rw [← Array.all_toList]
    show (TL.tl (Txt.join ⟨#[]⟩ ys)).all _ = true
    rw [e, List.all_eq_true]
    intro c hc
    obtain ⟨l, hl1, hc⟩ := List.mem_flatten.mp hc
    obtain ⟨y, hy, rfl⟩ := List.mem_map.mp hl1
    have h2 : y.cps.all (· < 0x110000) = true := (h y hy).2
    rw [← Array.all_toList, List.all_eq_true] at h2
    exact h2 c hc
theorem sum_ones : ∀ (ys : List Str), (∀ y ∈ ys, y.length = 1 ∧ okS y) → (ys.map (·.length)).sum = ys.length
  | [], _ => rfl
  | y :: r, h => by
    rw [List.map_cons, List.sum_cons, sum_ones r fun z hz => h z (List.mem_cons_of_mem _ hz), (h y (List.mem_cons_self ..)).1, List.length_cons]
    omega
theorem at_of' {α : Type} {xs : List α} {z : Int} {j : Nat} {v : α} (e : z = (j : Int)) (h : xs[j]? = some v) : atI xs z = some v := by
  rw [e]
  exact atI_nat h
theorem sign_at {z : Str} {r : Int} (ok : okS z) (h0 : 0 ≤ r) (h1 : r < (z.length : Nat)) : ∃ c : Nat, atI z.cps.toList r = some c ∧ okS ⟨#[c]⟩ := by
  have hi : r.toNat < z.cps.toList.length := by
    have : z.cps.toList.length = z.length := by simp [Str.length]
    omega
  refine ⟨z.cps.toList[r.toNat], at_of' (by omega) (List.getElem?_eq_getElem hi), ?_⟩
  have h2 : z.cps.all (· < 0x110000) = true := ok
  rw [← Array.all_toList, List.all_eq_true] at h2
  have h3 := h2 _ (List.getElem_mem hi)
  show (#[z.cps.toList[r.toNat]] : Array Nat).all (· < 0x110000) = true
  simpa using h3
theorem sign_get {z : Str} {k : Nat} (h1 : k < z.length) : atI z.cps.toList (k : Int) = some (z.cps.toList.getD k 0) := by
  have hi : k < z.cps.toList.length := by
    have : z.cps.toList.length = z.length := by simp [Str.length]
    omega
  refine atI_nat ?_
  rw [List.getD_eq_getElem?_getD, List.getElem?_eq_getElem hi]
  rfl
theorem ok_sign {z : Str} {k : Nat} (ok : okS z) (h1 : k < z.length) : okS ⟨#[z.cps.toList.getD k 0]⟩ := by
  have hi : k < z.cps.toList.length := by
    have : z.cps.toList.length = z.length := by simp [Str.length]
    omega
  have h2 : z.cps.all (· < 0x110000) = true := ok
  rw [← Array.all_toList, List.all_eq_true] at h2
  have h3 := h2 _ (List.getElem_mem hi)
  rw [List.getD_eq_getElem?_getD, List.getElem?_eq_getElem hi]
  show (#[z.cps.toList[k]] : Array Nat).all (· < 0x110000) = true
  simpa using h3
/-! ### rows of a plan -/
inductive Wd where | copy | keep | lay
  deriving DecidableEq
def Wd.s : Wd → Str
  | .copy => "copy" | .keep => "keep" | .lay => "lay"
inductive PRow where
  | put (to : Int) (s : Str)
  | mv (w : Wd) (to at_ n : Int)
def PRow.d : PRow → PyData
  | .put to s => .tuple [.str "put", .int to, .str s]
  | .mv w to a n => .tuple [.str w.s, .int to, .int a, .int n]
def PRow.size : PRow → Nat
  | .put _ s => s.length
  | .mv _ _ _ n => n.toNat
def PRow.ok : PRow → Prop
  | .put _ s => okS s ∧ s.length ≤ 5000
  | .mv _ _ _ n => 0 ≤ n ∧ n ≤ 5000
def wr (a : Str) (i : Int) (b : Str) (x : PyData) : PyData := .tuple [.str a, .int i, .str b, x]
/-! ### the law's makers -/
/-- a list of truths of this length, that may change -/
def Hs (F H : Hp) (t : Addr) (n : Nat) : Prop := ∃ bs : List Bool, bs.length = n ∧ Mu F H t (.lst (bs.map V.bl))
theorem Hs.keep {M : List Addr} {F H F2 H2 : Hp} {t : Addr} {n : Nat} (g : Gr M F H F2 H2) (h : Hs F H t n) (ht : t ∉ M) : Hs F2 H2 t n := by
  obtain ⟨bs, l, m⟩ := h
  exact ⟨bs, l, g.mu m ht⟩
theorem Hs.addm {F H : Hp} {t p : Addr} {n : Nat} {u : HO} (h : Hs F H t n) (hp : H p = none) : Hs F (upd H p u) t n := by
  obtain ⟨bs, l, m⟩ := h
  exact ⟨bs, l, m.addm hp⟩
theorem Hs.add {F H : Hp} {t p : Addr} {n : Nat} {u : HO} (h : Hs F H t n) (hp : H p = none) : Hs (upd F p u) (upd H p u) t n := by
  obtain ⟨bs, l, m⟩ := h
  exact ⟨bs, l, m.add hp⟩
theorem Hs.ne_new {F H : Hp} {t q : Addr} {n : Nat} (h : Hs F H t n) (hq : H q = none) : t ≠ q := by
  obtain ⟨_, _, m⟩ := h
  exact m.ne_new hq
theorem Hs.put {F H : Hp} {t q : Addr} {n : Nat} {u : HO} (h : Hs F H t n) (hq : t ≠ q) : Hs F (upd H q u) t n := by
  obtain ⟨bs, l, m⟩ := h
  exact ⟨bs, l, m.oth hq⟩
theorem Hs.set {F H : Hp} {t p : Addr} {n : Nat} {cs : List Bool} (h : Hs F H t n) (hp : t = p → cs.length = n) (m : Mu F H p (.lst (cs.map V.bl))) {j : Nat} : Hs F (upd H p (.lst ((cs.map V.bl).set j (V.bl true)))) t n := by
  by_cases e : t = p
  · subst e
    refine ⟨cs.set j true, by rw [List.length_set]; exact hp rfl, ?_⟩
    rw [List.map_set]
    exact m.wr
  · obtain ⟨bs, l, m'⟩ := h
    exact ⟨bs, l, m'.oth e⟩
theorem str_good {z : Str} (h : okS z) (hl : z.length ≤ 100000) : good (.str z) = true := by
  rw [good, h, decide_eq_true hl]
  rfl
def φlaw (K : PySem.W.Frag) : V → Hp → VK → Prop := fun x H Q => ∃ (a : Addr) (ns : List Int), x = .ref a ∧ SqL K H a (ns.map V.int) ∧ ns.length ≤ 63 ∧ ∀ H', Q (.bl true) H'
theorem law_start {K : PySem.W.Frag} {H : Hp} (a : Addr) (ns : List Int) (hl : ns.length ≤ 63) (hO : Only H) (hS : SqL K H a (ns.map V.int)) : (S1 (φlaw K)) [.ref a] H (fun v _ => v = .bl true) fun _ _ _ => False := ⟨a, ns, rfl, hS, hl, fun _ => rfl⟩
end R
namespace R
open PySem PySem.Spec PyProof.Rows L2
/-- d.setdefault(t, z), t a tuple -/
def tDSetT (td ty tx : TE) : TE := fun σ H Q => td σ H fun x H1 => ∃ a, x = .ref a ∧ IsD H1 a ∧ ty σ H1 fun y H2 => tx σ H2 fun z H3 => ∃ (b : Addr) (kvs : List (List Key × V)) (k : List Key), H3 a = some (.dT kvs) ∧ y = .ref b ∧ H3 b = some (.tup (k.map kV)) ∧ kvs.length < sizeLine ∧
  (∀ v, valV kvs k = some v → Q v H3) ∧ (valV kvs k = none → Q z (upd H3 a (.dT (putK kvs k z))))
end R
namespace R
open PySem L2
/-! ### dicts in a reading -/
def gDGet (x y : V) (H : Hp) (Q : VK) : Prop := ∃ a v, x = .ref a ∧ DGet H a y (some v) ∧ Q v H
def gDIn (x y : V) (H : Hp) (Q : VK) : Prop := ∃ a o, x = .ref a ∧ DGet H a y o ∧ Q (.bl o.isSome) H
def gDNotIn (x y : V) (H : Hp) (Q : VK) : Prop := ∃ a o, x = .ref a ∧ DGet H a y o ∧ Q (.bl (!o.isSome)) H
def gDPut (x y v : V) (H : Hp) (Z : Hp → Prop) : Prop := ∃ a H4, x = .ref a ∧ DPut H a y v H4 ∧ Z H4
section
variable {K : PySem.W.Frag} {σ : L2.St} {H : Hp} {Q : VK} {td ty tv tx te : TE} {x y v : V} {nx bk ct : L2.St → Hp → Prop} {rt : VK} {D p : Addr} {kvs : List (List Key × V)} {ks : List Key}
theorem w_dnewT (q : ∀ p, H p = none → Q (.ref p) (upd H p (.dT []))) : tDNewT σ H Q := q
instance : Step (tDNewT σ H Q) (∀ p, H p = none → Q (.ref p) (upd H p (.dT []))) := ⟨w_dnewT⟩ -- st
theorem w_dnewK (q : ∀ p, H p = none → Q (.ref p) (upd H p (.dK []))) : tDNewK σ H Q := q
instance : Step (tDNewK σ H Q) (∀ p, H p = none → Q (.ref p) (upd H p (.dK []))) := ⟨w_dnewK⟩ -- st
theorem w_dget (q : td σ H fun x H1 => ty σ H1 fun y H2 => gDGet x y H2 Q) : tDGet td ty σ H Q := q
instance : Step (tDGet td ty σ H Q) (td σ H fun x H1 => ty σ H1 fun y H2 => gDGet x y H2 Q) := ⟨w_dget⟩ -- st
theorem w_din (q : ty σ H fun y H1 => td σ H1 fun x H2 => gDIn x y H2 Q) : tDIn ty td σ H Q := q
instance : Step (tDIn ty td σ H Q) (ty σ H fun y H1 => td σ H1 fun x H2 => gDIn x y H2 Q) := ⟨w_din⟩ -- st
theorem w_dnotin (q : ty σ H fun y H1 => td σ H1 fun x H2 => gDNotIn x y H2 Q) : tDNotIn ty td σ H Q := q
instance : Step (tDNotIn ty td σ H Q) (ty σ H fun y H1 => td σ H1 fun x H2 => gDNotIn x y H2 Q) := ⟨w_dnotin⟩ -- st
theorem w_dput (q : tv σ H fun v H1 => td σ H1 fun x H2 => ty σ H2 fun y H3 => gDPut x y v H3 fun H4 => nx σ H4) : sDPut td ty tv ⟨nx, rt, bk, ct⟩ σ H := q
instance : Step (sDPut td ty tv ⟨nx, rt, bk, ct⟩ σ H) (tv σ H fun v H1 => td σ H1 fun x H2 => ty σ H2 fun y H3 => gDPut x y v H3 fun H4 => nx σ H4) := ⟨w_dput⟩ -- st
theorem w_dsetT (q : td σ H fun x H1 => ∃ a, x = .ref a ∧ IsD H1 a ∧ ty σ H1 fun y H2 => tx σ H2 fun z H3 => ∃ (b : Addr) (kvs : List (List Key × V)) (k : List Key), H3 a = some (.dT kvs) ∧ y = .ref b ∧ H3 b = some (.tup (k.map kV)) ∧ kvs.length < sizeLine ∧
  (∀ v, valV kvs k = some v → Q v H3) ∧ (valV kvs k = none → Q z (upd H3 a (.dT (putK kvs k z))))) : tDSetT td ty tx σ H Q := q
instance : Step (tDSetT td ty tx σ H Q) (td σ H fun x H1 => ∃ a, x = .ref a ∧ IsD H1 a ∧ ty σ H1 fun y H2 => tx σ H2 fun z H3 => ∃ (b : Addr) (kvs : List (List Key × V)) (k : List Key), H3 a = some (.dT kvs) ∧ y = .ref b ∧ H3 b = some (.tup (k.map kV)) ∧ kvs.length < sizeLine ∧ (∀ v, valV kvs k = some v → Q v H3) ∧ (valV kvs k = none → Q z (upd H3 a (.dT (putK kvs k z))))) := ⟨w_dsetT⟩ -- st
end
theorem w_rg2 {σ : L2.St} {H : Hp} {ta tb : TE} {R : Int → Int → Hp → Prop} (q : ta σ H fun x H1 => tb σ H1 fun y H2 => ∃ i j, x = .int i ∧ y = .int j ∧ R i j H2) : tRg2 ta tb σ H R := q
instance {σ : L2.St} {H : Hp} {ta tb : TE} {R : Int → Int → Hp → Prop} : Step (tRg2 ta tb σ H R) (ta σ H fun x H1 => tb σ H1 fun y H2 => ∃ i j, x = .int i ∧ y = .int j ∧ R i j H2) := ⟨w_rg2⟩ -- st
/-! ### writes as acts -/
structure WAct where
  w : Str
  n : Int
  s : Str
  x : Key
def keyD : Key → PyData
  | .inl i => .int i
  | .inr z => .str z
def WAct.d (t : WAct) : PyData := .tuple [.str t.w, .int t.n, .str t.s, keyD t.x]
def keyOk : Key → Prop
  | .inl _ => True
  | .inr z => okS z ∧ z.length ≤ 100
def WAct.ok (t : WAct) : Prop := (okS t.w ∧ t.w.length ≤ 100) ∧ (okS t.s ∧ t.s.length ≤ 100) ∧ keyOk t.x
/-! ### the fault of a row of acts -/
/-- a fault as a value -/
def ResV (F : Hp) (v : V) : Option (Nat × Nat) → Prop
  | none => v = .non
  | some (i, j) => ∃ p, v = .ref p ∧ F p = some (.tup [.int (i : Nat), .int (j : Nat)])
theorem ResV.same {F F2 : Hp} {v : V} {o : Option (Nat × Nat)} (h : ResV F v o) (w : Same F F2) : ResV F2 v o := by
  cases o with
  | none => exact h
  | some p =>
    obtain ⟨a, e1, e2⟩ := h
    exact ⟨a, e1, w _ _ e2⟩
/-! ### the law's makers -/
/-- marks that stay -/
structure Mks (F : Hp) (p : Addr) (n : Nat) (ms : List Nat) : Prop where
  at_ : F p = some (.lst (nV ms))
  ok : ∀ k ∈ ms, 1 ≤ k ∧ k < n
  len : ms.length ≤ 20000
theorem Mks.same {F F2 : Hp} {p : Addr} {n : Nat} {ms : List Nat} (h : Mks F p n ms) (w : Same F F2) : Mks F2 p n ms := ⟨w _ _ h.at_, h.ok, h.len⟩
/-- a list of lists of marks -/
def PL (F : Hp) (n : Nat) (v : V) : Prop := ∃ p ms, v = .ref p ∧ Mks F p n ms
theorem PL.same {F F2 : Hp} {n : Nat} {v : V} (h : PL F n v) (w : Same F F2) : PL F2 n v := by
  obtain ⟨p, ms, e, m⟩ := h
  exact ⟨p, ms, e, m.same w⟩
end R
namespace R
open PySem L2
/-! ### parts of the heap, one beside the other -/
structure Own where
  as : List Addr
  φ : Hp → Hp → Prop
  st : ∀ {F H F2 H2 : Hp}, Same F F2 → (∀ a ∈ as, ∀ o, H a = some o → H2 a = some o) → (∀ a ∈ as, F a = none → F2 a = none) → φ F H → φ F2 H2
  al : ∀ {F H : Hp}, φ F H → ∀ a ∈ as, H a ≠ none
theorem Own.gr (o : Own) {M : List Addr} {F H F2 H2 : Hp} (g : Gr M F H F2 H2) (h : ∀ a ∈ o.as, a ∉ M) (x : o.φ F H) : o.φ F2 H2 :=
  o.st g.ff (fun a m u e => g.hh a u (h a m) e) (fun a m e => g.nw a (o.al x a m) e) x
def mu (p : Addr) (o : HO) : Own := ⟨[p], fun F H => Mu F H p o, fun s h n m => ⟨n p (List.mem_singleton.mpr rfl) m.n, h p (List.mem_singleton.mpr rfl) o m.h⟩, fun m a h => by
  rw [List.mem_singleton.mp h]
  exact ne_none m.h⟩
def bag (K : PySem.W.Frag) (b : Addr) : Own := ⟨[b], fun F H => Bag K F H b, fun s h n m => by
  obtain ⟨c, cells, i, cur, st, k, h1, h2, h3, h4⟩ := m.ex
  exact ⟨c, cells, i, cur, st, k, n b (List.mem_singleton.mpr rfl) h1, h b (List.mem_singleton.mpr rfl) _ h2, sqL_same s h3, h4⟩, fun m a h => by
  rw [List.mem_singleton.mp h]
  obtain ⟨c, cells, i, cur, st, k, h1, h2, h3, h4⟩ := m.ex
  exact ne_none h2⟩
def pur (φ : Hp → Prop) (h : ∀ {F F2 : Hp}, Same F F2 → φ F → φ F2) : Own := ⟨[], fun F _ => φ F, fun s _ _ x => h s x, fun _ a h => nomatch h⟩
def dat (K : PySem.W.Frag) (v : V) (d : PyData) : Own := pur (fun F => Dp K F v d) fun s x => dp_same s _ _ x
def dpa (K : PySem.W.Frag) (vs : List V) (ds : List PyData) : Own := pur (fun F => DpAll K F vs ds) fun s x => dpa_same s _ _ x
def imL (K : PySem.W.Frag) (a : Addr) (xs : List V) : Own := pur (fun F => SqL K F a xs) fun s x => sqL_same s x
def imT (K : PySem.W.Frag) (a : Addr) (xs : List V) : Own := pur (fun F => SqT K F a xs) fun s x => sqT_same s x
/-- an object that stays -/
def fx (p : Addr) (o : HO) : Own := pur (fun F => F p = some o) fun s x => s _ _ x
abbrev ads (L : List Own) : List Addr := L.flatMap Own.as
structure St (F H : Hp) (L : List Own) : Prop where
  s : Same F H
  i : ∀ o ∈ L, o.φ F H
  d : (ads L).Nodup
structure W (M : List Addr) (F0 H0 F H : Hp) (L : List Own) : Prop where
  g : Gr M F0 H0 F H
  i : ∀ o ∈ L, o.φ F H
  d : (ads L).Nodup
  o : ∀ a ∈ ads L, a ∈ M ∨ H0 a = none
/-- D taken out of L leaves Rs -/
inductive Rm (x : Own) : List Own → List Own → Prop
  | here {L : List Own} : Rm x (x :: L) L
  | there {y : Own} {L Rs : List Own} : Rm x L Rs → Rm x (y :: L) (y :: Rs)
inductive Pick : List Own → List Own → List Own → Prop
  | nil {L : List Own} : Pick L [] L
  | cons {o : Own} {L L1 D Rs : List Own} : Rm o L L1 → Pick L1 D Rs → Pick L (o :: D) Rs
theorem Rm.perm {x : Own} {L Rs : List Own} (h : Rm x L Rs) : L.Perm (x :: Rs) := by
  induction h with
  | here => exact .refl _
  | there _ ih => exact (ih.cons _).trans (.swap _ _ _)
theorem Pick.perm {L D Rs : List Own} (h : Pick L D Rs) : L.Perm (D ++ Rs) := by
  induction h with
  | nil => exact .refl _
  | cons h _ ih => exact h.perm.trans (ih.cons _)
theorem ads_perm {L L' : List Own} (h : L.Perm L') : (ads L).Perm (ads L') := h.flatMap_right Own.as
theorem ads_app (L L' : List Own) : ads (L ++ L') = ads L ++ ads L' := by simp [ads]
section
variable {K : PySem.W.Frag} {M N : List Addr} {F0 H0 F H F1 H1 F2 H2 : Hp} {L L2 D Rs : List Own} {p a : Addr} {u o2 : HO}
theorem W.perm (w : W M F0 H0 F H L) (h : L.Perm L2) : W M F0 H0 F H L2 :=
  ⟨w.g, fun o m => w.i o (h.mem_iff.mpr m), (ads_perm h).nodup_iff.mp w.d, fun a m => w.o a ((ads_perm h).mem_iff.mpr m)⟩
theorem W.to (w : W M F0 H0 F H L) (k : Pick L D Rs) : W M F0 H0 F H D := by
  have w := w.perm k.perm
  refine ⟨w.g, fun o m => w.i o (List.mem_append_left _ m), ?_, fun a m => w.o a (by rw [ads_app]; exact List.mem_append_left _ m)⟩
  have h := w.d
  rw [ads_app] at h
  exact (List.nodup_append.mp h).1
def Pk (L D : List Own) : Prop := ∃ Rs, Pick L D Rs
theorem W.pk (w : W M F0 H0 F H L) (k : Pk L D) : W M F0 H0 F H D := k.elim fun _ k => w.to k
theorem W.st (w : W M F0 H0 F H L) (k : Pick L D Rs) : St F H D := ⟨w.g.fh, (w.to k).i, (w.to k).d⟩
theorem St.w (s : St F H L) (h : M = ads L := by rfl) : W M F H F H L := ⟨.refl s.s, s.i, s.d, fun a m => .inl (by rw [h]; exact m)⟩
theorem W.start (s : Same F H) : W M F H F H [] := ⟨.refl s, (fun _ h => nomatch h), .nil, (fun _ h => nomatch h)⟩
theorem W.call (w : W M F0 H0 F H L) (k : Pick L D Rs) (w2 : W N F H F2 H2 L2) (hN : N = ads D := by rfl) : W M F0 H0 F2 H2 (L2 ++ Rs) := by
  subst hN
  have w := w.perm k.perm
  have hd := w.d
  have ho := w.o
  rw [ads_app] at hd ho
  obtain ⟨d1, d2, d3⟩ := List.nodup_append.mp hd
  have hR : ∀ a ∈ ads Rs, H a ≠ none := fun a m => by
    obtain ⟨o, mo, ma⟩ := List.mem_flatMap.mp m
    exact o.al (w.i o (List.mem_append_right _ mo)) a ma
  refine ⟨w.g.transN w2.g fun x m => ho x (List.mem_append_left _ m), fun o m => ?_, ?_, fun a m => ?_⟩
  · rcases List.mem_append.mp m with m | m
    · exact w2.i o m
    · refine o.gr w2.g (fun a ha hb => d3 a hb a (List.mem_flatMap.mpr ⟨o, m, ha⟩) rfl) (w.i o (List.mem_append_right _ m))
  · rw [ads_app]
    refine List.nodup_append.mpr ⟨w2.d, d2, fun a ha b hb e => ?_⟩
    subst e
    rcases w2.o a ha with h | h
    · exact d3 a h a hb rfl
    · exact hR a hb h
  · rw [ads_app] at m
    rcases List.mem_append.mp m with m | m
    · rcases w2.o a m with h | h
      · exact ho a (List.mem_append_left _ h)
      · exact .inr (w.g.fresh h)
    · exact ho a (List.mem_append_right _ m)
theorem W.ws (w : W M F0 H0 F H L) : Same F0 H := w.g.ws
theorem W.fh (w : W M F0 H0 F H L) : Same F H := w.g.fh
theorem W.ff (w : W M F0 H0 F H L) : Same F0 F := w.g.ff
theorem W.push (w : W M F0 H0 F H L) (o : Own) (h : o.φ F H) (e : o.as = [] := by rfl) : W M F0 H0 F H (o :: L) := by
  refine ⟨w.g, fun q m => ?_, ?_, fun a m => ?_⟩
  · rcases List.mem_cons.mp m with rfl | m
    · exact h
    · exact w.i q m
  · show ((o :: L).flatMap Own.as).Nodup
    rw [List.flatMap_cons, e]
    exact w.d
  · have m' : a ∈ (o :: L).flatMap Own.as := m
    rw [List.flatMap_cons, e] at m'
    exact w.o a m'
/-- a new object that stays -/
theorem W.im (w : W M F0 H0 F H L) (h : H p = none) : W M F0 H0 (upd F p u) (upd H p u) L := by
  have w2 : W [] F H (upd F p u) (upd H p u) [] := ⟨.im w.g.fh h, (fun _ h => nomatch h), .nil, (fun _ h => nomatch h)⟩
  exact w.call .nil w2
/-- a new object that may change -/
theorem W.nw (w : W M F0 H0 F H L) (h : H p = none) : W M F0 H0 F (upd H p u) (mu p u :: L) := by
  have w2 : W [] F H F (upd H p u) [mu p u] := by
    refine ⟨.new w.g.fh h, fun q m => ?_, ?_, fun a m => ?_⟩
    · rw [List.mem_singleton.mp m]
      exact Mu.new w.g.fh h
    · show ([p] : List Addr).Nodup
      simp
    · have : a = p := List.mem_singleton.mp m
      subst this
      exact .inr h
  exact w.call .nil w2
/-- a change -/
theorem W.wr (w : W M F0 H0 F H L) (k : Pick L [mu p o2] Rs) : W M F0 H0 F (upd H p u) (mu p u :: Rs) := by
  have m : Mu F H p o2 := (w.to k).i _ (List.mem_singleton.mpr rfl)
  have w2 : W [p] F H F (upd H p u) [mu p u] := by
    refine ⟨.wr w.g.fh m.n (List.mem_singleton.mpr rfl), fun q h => ?_, ?_, fun a h => ?_⟩
    · rw [List.mem_singleton.mp h]
      exact m.wr
    · show ([p] : List Addr).Nodup
      simp
    · exact .inl h
  exact w.call k w2 rfl
/-- an object that changes no more -/
theorem W.fz (w : W M F0 H0 F H L) (k : Pick L [mu p u] Rs) (hn : H0 p = none) : W M F0 H0 (upd F p u) H Rs := by
  have w := w.perm k.perm
  have m : Mu F H p u := w.i _ (List.mem_cons_self ..)
  have hd := w.d
  rw [ads_app] at hd
  obtain ⟨d1, d2, d3⟩ := List.nodup_append.mp hd
  refine ⟨w.g.frz hn m, fun o ho => ?_, d2, fun a ha => w.o a (by rw [ads_app]; exact List.mem_append_right _ ha)⟩
  have hp : ∀ a ∈ o.as, a ≠ p := fun a ha e => d3 p (List.mem_singleton.mpr rfl) a (List.mem_flatMap.mpr ⟨o, ho, ha⟩) e.symm
  refine o.st (Same.new m.n) (fun a _ _ e => e) (fun a ha e => ?_) (w.i o (List.mem_append_right _ ho))
  rw [upd_ne (hp a ha)]
  exact e
theorem W.fzL {xs : List V} (w : W M F0 H0 F H L) (k : Pick L [mu p (.lst xs)] Rs) (hn : H0 p = none) : ∃ F2, W M F0 H0 F2 H (fx p (.lst xs) :: Rs) := ⟨_, (w.fz k hn).push (fx p (.lst xs)) upd_same⟩
end
inductive App : List Own → List Own → List Own → Prop
  | nil {Rs : List Own} : App [] Rs Rs
  | cons {o : Own} {L Rs L' : List Own} : App L Rs L' → App (o :: L) Rs (o :: L')
theorem App.eq {L Rs L' : List Own} (h : App L Rs L') : L ++ Rs = L' := by
  induction h with
  | nil => rfl
  | cons _ ih => rw [List.cons_append, ih]
section
variable {K : PySem.W.Frag} {M N : List Addr} {F0 H0 F H F1 H1 F2 H2 : Hp} {L L2 L3 D Rs : List Own} {p a : Addr} {u o2 : HO} {xs ys : List V} {ds : List PyData} {d : PyData} {v : V}
theorem W.cal (w : W M F0 H0 F H L) (k : Pick L D Rs) (w2 : W N F H F2 H2 L2) (e : App L2 Rs L3) (hN : N = ads D := by rfl) : W M F0 H0 F2 H2 L3 := by
  rw [← e.eq]
  exact w.call k w2 hN
/-- .. by what the older promises tell -/
theorem W.gr (w : W M F0 H0 F H L) (k : Pick L D Rs) (g : Gr N F H F2 H2) (i : ∀ o ∈ D, o.φ F2 H2) (e : App D Rs L3) (hN : N = ads D := by rfl) : W M F0 H0 F2 H2 L3 :=
  w.cal k (L2 := D) ⟨g, i, (w.to k).d, fun a m => .inl (by rw [hN]; exact m)⟩ e hN
theorem W.gr0 (w : W M F0 H0 F H L) (g : Gr [] F H F2 H2) : W M F0 H0 F2 H2 L := w.gr (D := []) .nil g (fun _ h => nomatch h) .nil
theorem W.gr1 {o : Own} (w : W M F0 H0 F H L) (k : Pick L [o] Rs) (g : Gr N F H F2 H2) (i : o.φ F2 H2) (hN : N = ads [o] := by rfl) : W M F0 H0 F2 H2 (o :: Rs) :=
  w.gr k g (fun q m => by rw [List.mem_singleton.mp m]; exact i) (.cons .nil) hN
theorem W.mu (w : W M F0 H0 F H L) (m : mu p u ∈ L) : Mu F H p u := w.i _ m
theorem W.bag {b : Addr} (w : W M F0 H0 F H L) (m : bag K b ∈ L) : Bag K F H b := w.i _ m
theorem W.dat (w : W M F0 H0 F H L) (m : dat K v d ∈ L) : Dp K F v d := w.i _ m
theorem W.dpa (w : W M F0 H0 F H L) (m : dpa K xs ds ∈ L) : DpAll K F xs ds := w.i _ m
theorem W.imL (w : W M F0 H0 F H L) (m : imL K p xs ∈ L) : SqL K F p xs := w.i _ m
theorem W.imT (w : W M F0 H0 F H L) (m : imT K p xs ∈ L) : SqT K F p xs := w.i _ m
theorem W.at_ (w : W M F0 H0 F H L) (m : R.mu p u ∈ L) : H p = some u := (w.mu m).h
theorem W.sqM (w : W M F0 H0 F H L) (m : R.mu p (.lst xs) ∈ L) : SqL K H p xs := (w.mu m).sq
theorem W.fx (w : W M F0 H0 F H L) (m : R.fx p u ∈ L) : H p = some u := w.fh _ _ (w.i _ m)
theorem W.sqF (w : W M F0 H0 F H L) (m : R.fx p (.lst xs) ∈ L) : SqL K H p xs := sqL_of (w.fx m)
theorem W.stF (w : W M F0 H0 F H L) (m : R.fx p (.tup xs) ∈ L) : SqT K H p xs := sqT_of (w.fx m)
theorem W.sqI (w : W M F0 H0 F H L) (m : R.imL K p xs ∈ L) : SqL K H p xs := sqL_same w.fh (w.imL m)
theorem W.sq0 (w : W M F0 H0 F H L) (h : SqL K F0 p xs) : SqL K H p xs := sqL_same w.ws h
theorem W.stI (w : W M F0 H0 F H L) (m : R.imT K p xs ∈ L) : SqT K H p xs := sqT_same w.fh (w.imT m)
theorem W.st0 (w : W M F0 H0 F H L) (h : SqT K F0 p xs) : SqT K H p xs := sqT_same w.ws h
theorem W.dp0 (w : W M F0 H0 F H L) (h : Dp K F0 v d) : Dp K F v d := dp_same w.ff _ _ h
theorem W.dpa0 (w : W M F0 H0 F H L) (h : DpAll K F0 xs ds) : DpAll K F xs ds := dpa_same w.ff _ _ h
end
/-! ### steps -/
def mkT (xs : List V) (H : Hp) (Q : VK) : Prop := xs.length ≤ sizeLine ∧ ∀ p, H p = none → Q (.ref p) (upd H p (.tup xs))
def mkL (xs : List V) (H : Hp) (Q : VK) : Prop := xs.length ≤ sizeLine ∧ ∀ p, H p = none → Q (.ref p) (upd H p (.lst xs))
def forG (g : TG) (tb : TS) (D : Ends) (J : It) (σ : L2.St) (H : Hp) : Prop := ∃ W : Nat → Nat → L2.St → Hp → Prop, (∃ m, W 0 m σ H) ∧ ∀ i m σ H, W i m σ H →
  (J.stop i H ∧ D.nx σ H) ∨ (J.go i H ∧ ∃ N : L2.St → Hp → Prop, (∀ σ' H', N σ' H' → ∃ m', m' < m ∧ W (i + 1) m' σ' H') ∧ ∀ x H', J.yld i H x H' → g x σ H' fun σ2 H2 => tb ⟨N, D.rt, D.nx, N⟩ σ2 H2)
def lcG (g : TG) (tt : TT) (te : TE) (vs : List Nat) (J : It) (σ : L2.St) (H : Hp) (Q : VK) : Prop := ∀ D, H D = none → ∃ W : Nat → Nat → Hp → Prop, (∃ m, W 0 m (upd H D (.lst []))) ∧ ∀ i m H, W i m H →
  (J.stop i H ∧ Q (.ref D) H) ∨ (J.go i H ∧ ∃ Nx : Hp → Prop, (∀ H', Nx H' → ∃ m', m' < m ∧ W (i + 1) m' H') ∧ ∀ x H', J.yld i H x H' → g x (wipe σ vs) H' fun σ2 H2 => wipe σ2 vs = wipe σ vs ∧ tt σ2 H2 fun b H3 =>
    if b = true then te σ2 H3 fun y H4 => ∃ acc, H4 D = some (.lst acc) ∧ acc.length < sizeLine ∧ Nx (upd H4 D (.lst (acc ++ [y]))) else Nx H3)
def accG (D : Addr) (Z : Hp → Prop) (y : V) (H : Hp) : Prop := ∃ acc, H D = some (.lst acc) ∧ acc.length < sizeLine ∧ Z (upd H D (.lst (acc ++ [y])))
def Nx (M : List Addr) (F0 H0 : Hp) (Inv : L2.St → List Own → Prop) : L2.St → Hp → Prop := fun σ H => ∃ L F, Inv σ L ∧ W M F0 H0 F H L
def NxM (M : List Addr) (F0 H0 : Hp) (Inv : Nat → L2.St → List Own → Prop) (m : Nat) : L2.St → Hp → Prop := fun σ H => ∃ m', m' < m ∧ ∃ L F, Inv m' σ L ∧ W M F0 H0 F H L
def NxC (M : List Addr) (F0 H0 : Hp) (P : List V → List Own → Prop) (D : Addr) : Hp → Prop := fun H => ∃ ys L F, P ys L ∧ W M F0 H0 F H (mu D (.lst ys) :: L)
section
variable {K : PySem.W.Frag} {M N : List Addr} {F0 H0 F H : Hp} {L Rs T : List Own} {σ : L2.St} {Q : VK} {ta tb te : TE} {x y v : V} {nx bk ct : L2.St → Hp → Prop} {rt : VK} {p q a D : Addr} {xs ys : List V} {u : HO}
variable {t : TA} {wi : TI} {g : TG} {tbody : TS} {c tt : TT} {vs : List Nat} {ts us : TS}
theorem x_tup (h : t σ H fun xs H1 => mkT xs H1 Q) : tTup t σ H Q := h
instance : StepN (tTup t σ H Q) (t σ H fun xs H1 => mkT xs H1 Q) := ⟨x_tup⟩ -- st
theorem x_lst (h : t σ H fun xs H1 => mkL xs H1 Q) : tLst t σ H Q := h
instance : StepN (tLst t σ H Q) (t σ H fun xs H1 => mkL xs H1 Q) := ⟨x_lst⟩ -- st
theorem x_for (h : wi σ H fun J H1 => forG g tbody ⟨nx, rt, bk, ct⟩ J σ H1) : tFor wi g tbody ⟨nx, rt, bk, ct⟩ σ H := h
instance : StepN (tFor wi g tbody ⟨nx, rt, bk, ct⟩ σ H) (wi σ H fun J H1 => forG g tbody ⟨nx, rt, bk, ct⟩ J σ H1) := ⟨x_for⟩ -- st
theorem x_lc (h : wi σ H fun J H1 => lcG g tt te vs J σ H1 Q) : tLc wi g tt te vs σ H Q := h
instance : StepN (tLc wi g tt te vs σ H Q) (wi σ H fun J H1 => lcG g tt te vs J σ H1 Q) := ⟨x_lc⟩ -- st
theorem x_wp {a b : L2.St} {B : Prop} (h : a = b) (q : B) : a = b ∧ B := ⟨h, q⟩
instance {a b : L2.St} {B : Prop} : SideK (a = b ∧ B) 6 := ⟨⟩ -- st
theorem n_tup (w : W M F0 H0 F H L) (hs : xs.length ≤ sizeLine) (h : ∀ p F2 H2, W M F0 H0 F2 H2 (fx p (.tup xs) :: L) → Q (.ref p) H2) : mkT xs H Q :=
  ⟨hs, fun p np => h p _ _ ((w.im (u := .tup xs) np).push (fx p (.tup xs)) upd_same)⟩
theorem n_new (w : W M F0 H0 F H L) (h : ∀ p F2 H2, W M F0 H0 F2 H2 (mu p u :: L) → H0 p = none → Q (.ref p) H2) : ∀ p, H p = none → Q (.ref p) (upd H p u) := fun p np => h p _ _ (w.nw np) (w.g.fresh np)
theorem n_lst (w : W M F0 H0 F H L) (hs : xs.length ≤ sizeLine) (h : ∀ p F2 H2, W M F0 H0 F2 H2 (mu p (.lst xs) :: L) → H0 p = none → Q (.ref p) H2) : mkL xs H Q := ⟨hs, n_new w h⟩
theorem n_slL {lo hi : Option Int} (w : W M F0 H0 F H L) (hs : SqL K H p xs) (h : ∀ p F2 H2, W M F0 H0 F2 H2 (mu p (.lst (cutV xs lo hi)) :: L) → H0 p = none → Q (.ref p) H2) : rSlL K (.ref p) lo hi H Q := w_slL xs hs (n_new w h)
theorem n_listOf (w : W M F0 H0 F H L) (hs : SqL K H p xs) (h : ∀ p F2 H2, W M F0 H0 F2 H2 (mu p (.lst xs) :: L) → H0 p = none → Q (.ref p) H2) : rListOf K [.ref p] H Q := w_listOf xs hs (n_new w h)
def revG (K : PySem.W.Frag) (x : V) (H : Hp) (Q : VK) : Prop := ∃ a xs, x = .ref a ∧ SqL K H a xs ∧ ∀ p, H p = none → Q (.ref p) (upd H p (.lst xs.reverse))
theorem x_revL (h : ta σ H fun x H1 => revG K x H1 Q) : tRevL K ta σ H Q := h
instance : StepN (tRevL K ta σ H Q) (ta σ H fun x H1 => revG K x H1 Q) := ⟨x_revL⟩ -- st
theorem n_revL (w : W M F0 H0 F H L) (hs : SqL K H p xs) (h : ∀ p F2 H2, W M F0 H0 F2 H2 (mu p (.lst xs.reverse) :: L) → H0 p = none → Q (.ref p) H2) : revG K (.ref p) H Q := ⟨p, xs, rfl, hs, n_new w h⟩
def lrgG (a b : Int) (H : Hp) (Q : VK) : Prop := RgOk a b ∧ ∀ q, H q = none → Q (.ref q) (upd H q (.lst (rgV a b)))
theorem x_lstRg {te : L2.St → Hp → (Int → Int → Hp → Prop) → Prop} (h : te σ H fun a b H1 => lrgG a b H1 Q) : tLstRg te σ H Q := h
instance {te : L2.St → Hp → (Int → Int → Hp → Prop) → Prop} : StepN (tLstRg te σ H Q) (te σ H fun a b H1 => lrgG a b H1 Q) := ⟨x_lstRg⟩ -- st
theorem n_lstRg {i j : Int} (w : W M F0 H0 F H L) (hs : RgOk i j) (h : ∀ p F2 H2, W M F0 H0 F2 H2 (mu p (.lst (rgV i j)) :: L) → H0 p = none → Q (.ref p) H2) : lrgG i j H Q := ⟨hs, n_new w h⟩
theorem n_cat (w : W M F0 H0 F H L) (h1 : H p = some (.lst xs)) (h2 : H q = some (.lst ys)) (hs : xs.length + ys.length ≤ sizeLine) (h : ∀ p F2 H2, W M F0 H0 F2 H2 (mu p (.lst (xs ++ ys)) :: L) → H0 p = none → Q (.ref p) H2) : rCat (.ref p) (.ref q) H Q :=
  ⟨p, q, xs, ys, rfl, rfl, h1, h2, hs, n_new w h⟩
theorem n_app (w : W M F0 H0 F H L) (k : Pick L [mu p (.lst xs)] Rs) (hn : xs.length < sizeLine) (h : ∀ H2, W M F0 H0 F H2 (mu p (.lst (xs ++ [y])) :: Rs) → Q .non H2) : rAppend (.ref p) [y] H Q :=
  w_app xs ((w.to k).at_ (List.mem_singleton.mpr rfl)) hn (h _ (w.wr k))
theorem n_setL {k : Int} {Z : Hp → Prop} (w : W M F0 H0 F H L) (kk : Pick L [mu p (.lst xs)] Rs) (j : Nat) (e : ixN xs.length k = some j) (h : ∀ H2, W M F0 H0 F H2 (mu p (.lst (xs.set j v)) :: Rs) → Z H2) : rSetL (.ref p) (.int k) v H Z :=
  w_setL xs j ((w.to kk).at_ (List.mem_singleton.mpr rfl)) e (h _ (w.wr kk))
theorem n_draw {m : Int} {E : XK} {b : Addr} (w : W M F0 H0 F H L) (k : Pick L [bag K b] Rs) (h0 : 0 < m) (h1 : m < 2 ^ 200) (h : ∀ r F2 H2, W M F0 H0 F2 H2 (bag K b :: Rs) → 0 ≤ r → r < m → Q (.int r) H2) : S2 (φdraw K) ([.ref b, .int m] ++ []) H Q E :=
  u_draw w.fh ((w.to k).bag (List.mem_singleton.mpr rfl)) h0 h1 fun r F2 H2 g hb r0 r1 => h r F2 H2 (w.gr1 k g hb) r0 r1
def rg1G (vs : List V) (H : Hp) (Rr : It → Hp → Prop) : Prop := ∃ j : Int, vs = [.int j] ∧ -(2 ^ 62) ≤ j ∧ j < 2 ^ 62 ∧ Rr (Itr 0 j.toNat) H
def rg2G (vs : List V) (H : Hp) (Rr : It → Hp → Prop) : Prop := ∃ i j : Int, vs = [.int i, .int j] ∧ (-(2 ^ 62) ≤ i ∧ i < 2 ^ 62 ∧ -(2 ^ 62) ≤ j ∧ j < 2 ^ 62) ∧ Rr (Itr i (j - i).toNat) H
def ilG (K : PySem.W.Frag) (x : V) (H : Hp) (Rr : It → Hp → Prop) : Prop := ∃ a, x = .ref a ∧ (∃ xs, SqL K H a xs) ∧ Rr (Itl K a) H
def itG (K : PySem.W.Frag) (x : V) (H : Hp) (Rr : It → Hp → Prop) : Prop := ∃ a, x = .ref a ∧ (∃ xs, SqT K H a xs) ∧ Rr (Itt K a) H
def isG (x : V) (H : Hp) (Rr : It → Hp → Prop) : Prop := ∃ z, x = .str z ∧ Rr (Its z) H
theorem x_rng1 {Rr : It → Hp → Prop} (h : t σ H fun vs H1 => rg1G vs H1 Rr) : iRng1 t σ H Rr := h
instance {Rr : It → Hp → Prop} : StepN (iRng1 t σ H Rr) (t σ H fun vs H1 => rg1G vs H1 Rr) := ⟨x_rng1⟩ -- st
theorem x_rng2 {Rr : It → Hp → Prop} (h : t σ H fun vs H1 => rg2G vs H1 Rr) : iRng2 t σ H Rr := h
instance {Rr : It → Hp → Prop} : StepN (iRng2 t σ H Rr) (t σ H fun vs H1 => rg2G vs H1 Rr) := ⟨x_rng2⟩ -- st
theorem x_il {Rr : It → Hp → Prop} (h : te σ H fun x H1 => ilG K x H1 Rr) : iList K te σ H Rr := h
instance {Rr : It → Hp → Prop} : StepN (iList K te σ H Rr) (te σ H fun x H1 => ilG K x H1 Rr) := ⟨x_il⟩ -- st
theorem x_it {Rr : It → Hp → Prop} (h : te σ H fun x H1 => itG K x H1 Rr) : iTup K te σ H Rr := h
instance {Rr : It → Hp → Prop} : StepN (iTup K te σ H Rr) (te σ H fun x H1 => itG K x H1 Rr) := ⟨x_it⟩ -- st
theorem x_is {Rr : It → Hp → Prop} (h : te σ H fun x H1 => isG x H1 Rr) : iStr te σ H Rr := h
instance {Rr : It → Hp → Prop} : StepN (iStr te σ H Rr) (te σ H fun x H1 => isG x H1 Rr) := ⟨x_is⟩ -- st
theorem n_rng1 {j : Int} {Rr : It → Hp → Prop} (h0 : -(2 ^ 62) ≤ j) (h1 : j < 2 ^ 62) (h : Rr (Itr 0 j.toNat) H) : rg1G [.int j] H Rr := ⟨j, rfl, h0, h1, h⟩
instance {j : Int} {Rr : It → Hp → Prop} : SideK (rg1G [.int j] H Rr) 5 := ⟨⟩ -- st
theorem n_rng2 {i j : Int} {Rr : It → Hp → Prop} (h0 : -(2 ^ 62) ≤ i) (h1 : i < 2 ^ 62) (h2 : -(2 ^ 62) ≤ j) (h3 : j < 2 ^ 62) (h : Rr (Itr i (j - i).toNat) H) : rg2G [.int i, .int j] H Rr := ⟨i, j, rfl, ⟨h0, h1, h2, h3⟩, h⟩
instance {i j : Int} {Rr : It → Hp → Prop} : SideK (rg2G [.int i, .int j] H Rr) 5 := ⟨⟩ -- st
theorem n_il {Rr : It → Hp → Prop} (hs : SqL K H a xs) (h : Rr (Itl K a) H) : ilG K (.ref a) H Rr := ⟨a, rfl, ⟨xs, hs⟩, h⟩
instance {Rr : It → Hp → Prop} : SideK (ilG K (.ref a) H Rr) 4 := ⟨⟩ -- st
theorem n_it {Rr : It → Hp → Prop} (hs : SqT K H a xs) (h : Rr (Itt K a) H) : itG K (.ref a) H Rr := ⟨a, rfl, ⟨xs, hs⟩, h⟩
instance {Rr : It → Hp → Prop} : SideK (itG K (.ref a) H Rr) 4 := ⟨⟩ -- st
theorem n_is {z : Str} {Rr : It → Hp → Prop} (h : Rr (Its z) H) : isG (.str z) H Rr := ⟨z, rfl, h⟩
instance {z : Str} {Rr : It → Hp → Prop} : StepN (isG (.str z) H Rr) (Rr (Its z) H) := ⟨n_is⟩ -- st
theorem nx_mk {Inv : L2.St → List Own → Prop} {L2 : List Own} (w : W M F0 H0 F H L) (h : Inv σ L2) (k : Pk L L2) : Nx M F0 H0 Inv σ H := ⟨L2, F, h, w.pk k⟩
theorem nxm_mk {Inv : Nat → L2.St → List Own → Prop} {m m' : Nat} {L2 : List Own} (w : W M F0 H0 F H L) (hm : m' < m) (h : Inv m' σ L2) (k : Pk L L2) : NxM M F0 H0 Inv m σ H := ⟨m', hm, L2, F, h, w.pk k⟩
def addsG : R2 := fun x y H Q => ∃ a b, x = .str a ∧ y = .str b ∧ a.length + b.length ≤ sizeLine ∧ Q (.str (a ++ b)) H
theorem opAddS {X : Cx} : OpR X (binaryOp .Add) addsG := op_add_str
theorem n_adds {a b : Str} (hl : a.length + b.length ≤ sizeLine) (h : Q (.str (a ++ b)) H) : addsG (.str a) (.str b) H Q := ⟨a, b, rfl, rfl, hl, h⟩
instance {a b : Str} : SideK (addsG (.str a) (.str b) H Q) 5 := ⟨⟩ -- st
theorem x_aug {i : Nat} {ti : TIp} {x : V} {H : Hp} (h : σ[i]? = some (some x)) (q : te σ H fun y H1 => ti x y H1 fun z H2 => nx (σ.set i (some z)) H2) : tAug i te ti ⟨nx, rt, bk, ct⟩ σ H := ⟨x, h, q⟩
instance {i : Nat} {ti : TIp} {H : Hp} : SideK (tAug i te ti ⟨nx, rt, bk, ct⟩ σ H) 4 := ⟨⟩ -- st
theorem n_ipI {g : Int → Int → Int} {i j : Int} {Z : VK} (q : Z (.int (g i j)) H) : ipI g (.int i) (.int j) H Z := ⟨i, j, rfl, rfl, q⟩
instance {g : Int → Int → Int} {i j : Int} {Z : VK} : SideK (ipI g (.int i) (.int j) H Z) 5 := ⟨⟩ -- st
/-- loops -/
theorem n_forR {n : Nat} (w : W M F0 H0 F H L) (Inv : Nat → L2.St → List Own → Prop) {L1 : List Own} (h0 : Inv 0 σ L1)
    (hs : ∀ (i : Nat) σ L F H, i < n → Inv i σ L → W M F0 H0 F H L → g (.int (i : Int)) σ H fun σ2 H2 => tbody ⟨Nx M F0 H0 (Inv (i + 1)), rt, nx, Nx M F0 H0 (Inv (i + 1))⟩ σ2 H2)
    (hd : ∀ σ L F H, Inv n σ L → W M F0 H0 F H L → nx σ H) (k : Pk L L1 := by walk_at "pk") : forG g tbody ⟨nx, rt, bk, ct⟩ (Itr 0 n) σ H :=
  f_range0 (fun i σ H => Nx M F0 H0 (Inv i) σ H) ⟨L1, F, h0, w.pk k⟩ (fun i σ H hi ⟨L, F, h, w⟩ => hs i σ L F H hi h w) fun σ H ⟨L, F, h, w⟩ => hd σ L F H h w
theorem n_forRL {lo : Int} {n : Nat} (w : W M F0 H0 F H L) (Inv : Nat → L2.St → List Own → Prop) {L1 : List Own} (h0 : Inv 0 σ L1)
    (hs : ∀ (i : Nat) σ L F H, i < n → Inv i σ L → W M F0 H0 F H L → g (.int (lo + i)) σ H fun σ2 H2 => tbody ⟨Nx M F0 H0 (Inv (i + 1)), rt, nx, Nx M F0 H0 (Inv (i + 1))⟩ σ2 H2)
    (hd : ∀ σ L F H, Inv n σ L → W M F0 H0 F H L → nx σ H) (k : Pk L L1 := by walk_at "pk") : forG g tbody ⟨nx, rt, bk, ct⟩ (Itr lo n) σ H :=
  f_range (fun i σ H => Nx M F0 H0 (Inv i) σ H) ⟨L1, F, h0, w.pk k⟩ (fun i σ H hi ⟨L, F, h, w⟩ => hs i σ L F H hi h w) fun σ H ⟨L, F, h, w⟩ => hd σ L F H h w
theorem n_forL (xs : List V) (w : W M F0 H0 F H L) (Inv : Nat → L2.St → List Own → Prop) {L1 : List Own} (h0 : Inv 0 σ L1) (hl : ∀ i σ L F H, Inv i σ L → W M F0 H0 F H L → SqL K H a xs)
    (hs : ∀ (i : Nat) x σ L F H, xs[i]? = some x → Inv i σ L → W M F0 H0 F H L → g x σ H fun σ2 H2 => tbody ⟨Nx M F0 H0 (Inv (i + 1)), rt, nx, Nx M F0 H0 (Inv (i + 1))⟩ σ2 H2)
    (hd : ∀ σ L F H, Inv xs.length σ L → W M F0 H0 F H L → nx σ H) (k : Pk L L1 := by walk_at "pk") : forG g tbody ⟨nx, rt, bk, ct⟩ (Itl K a) σ H :=
  f_list (xs := xs) (fun i σ H => Nx M F0 H0 (Inv i) σ H) ⟨L1, F, h0, w.pk k⟩ (fun i σ H _ ⟨L, F, h, w⟩ => hl i σ L F H h w) (fun i x σ H hx ⟨L, F, h, w⟩ => hs i x σ L F H hx h w) fun σ H ⟨L, F, h, w⟩ => hd σ L F H h w
def whB (tb : TS) (rt : VK) (nx : L2.St → Hp → Prop) (M : List Addr) (F0 H0 : Hp) (Inv : Nat → L2.St → List Own → Prop) (m : Nat) (σ : L2.St) (H : Hp) : Prop :=
  ∃ N : L2.St → Hp → Prop, (∀ σ' H', N σ' H' → ∃ m', m' < m ∧ ∃ L F, Inv m' σ' L ∧ W M F0 H0 F H' L) ∧ tb ⟨N, rt, nx, N⟩ σ H
theorem n_turn {Inv : Nat → L2.St → List Own → Prop} {m : Nat} (h : tbody ⟨NxM M F0 H0 Inv m, rt, nx, NxM M F0 H0 Inv m⟩ σ H) : whB tbody rt nx M F0 H0 Inv m σ H := ⟨_, fun _ _ h => h, h⟩
theorem n_while (w : W M F0 H0 F H L) (Inv : Nat → L2.St → List Own → Prop) {m0 : Nat} {L1 : List Own} (h0 : Inv m0 σ L1)
    (hs : ∀ (m : Nat) σ L F H, Inv m σ L → W M F0 H0 F H L → c σ H fun b H1 => if b = true then whB tbody rt nx M F0 H0 Inv m σ H1 else nx σ H1) (k : Pk L L1 := by walk_at "pk") : tWhile c tbody ⟨nx, rt, bk, ct⟩ σ H :=
  w_while (fun m σ H => ∃ L F, Inv m σ L ∧ W M F0 H0 F H L) (m0 := m0) ⟨L1, F, h0, w.pk k⟩ fun m σ H ⟨L, F, h, w⟩ => hs m σ L F H h w
theorem n_cut (w : W M F0 H0 F H L) (Mid : L2.St → List Own → Prop) (h1 : ts ⟨Nx M F0 H0 Mid, rt, bk, ct⟩ σ H) (h2 : ∀ σ L F H, Mid σ L → W M F0 H0 F H L → us ⟨nx, rt, bk, ct⟩ σ H) : C8.tCut ts us ⟨nx, rt, bk, ct⟩ σ H :=
  w_cut (Nx M F0 H0 Mid) h1 fun σ' H' ⟨L, F, h, w⟩ => h2 σ' L F H' h w
theorem n_lcR {n : Nat} (w : W M F0 H0 F H L) (P : Nat → List V → List Own → Prop) {L1 : List Own} (h0 : P 0 [] L1)
    (hs : ∀ (i : Nat) ys L F H D, i < n → P i ys L → W M F0 H0 F H (mu D (.lst ys) :: L) → H0 D = none → g (.int (i : Int)) (wipe σ vs) H fun σ2 H2 => wipe σ2 vs = wipe σ vs ∧ tt σ2 H2 fun b H3 =>
      if b = true then te σ2 H3 (accG D (NxC M F0 H0 (P (i + 1)) D)) else NxC M F0 H0 (P (i + 1)) D H3)
    (hd : ∀ D ys L F H, P n ys L → W M F0 H0 F H (mu D (.lst ys) :: L) → H0 D = none → Q (.ref D) H) (k : Pk L L1 := by walk_at "pk") : lcG g tt te vs (Itr 0 n) σ H Q := fun D nD =>
  lc_rng (fun i H => NxC M F0 H0 (P i) D H) ⟨[], L1, F, h0, (w.pk k).nw nD⟩ (fun i H hi ⟨ys, L, F, h, w'⟩ => hs i ys L F H D hi h w' (w.g.fresh nD)) fun H ⟨ys, L, F, h, w'⟩ => hd D ys L F H h w' (w.g.fresh nD)
theorem n_lcL (xs : List V) (w : W M F0 H0 F H L) (P : Nat → List V → List Own → Prop) {L1 : List Own} (h0 : P 0 [] L1) (hl : ∀ i ys L F H D, P i ys L → W M F0 H0 F H (mu D (.lst ys) :: L) → SqL K H a xs)
    (hs : ∀ (i : Nat) x ys L F H D, xs[i]? = some x → P i ys L → W M F0 H0 F H (mu D (.lst ys) :: L) → H0 D = none → g x (wipe σ vs) H fun σ2 H2 => wipe σ2 vs = wipe σ vs ∧ tt σ2 H2 fun b H3 =>
      if b = true then te σ2 H3 (accG D (NxC M F0 H0 (P (i + 1)) D)) else NxC M F0 H0 (P (i + 1)) D H3)
    (hd : ∀ D ys L F H, P xs.length ys L → W M F0 H0 F H (mu D (.lst ys) :: L) → H0 D = none → Q (.ref D) H) (k : Pk L L1 := by walk_at "pk") : lcG g tt te vs (Itl K a) σ H Q := fun D nD =>
  lc_list (xs := xs) (fun i H => NxC M F0 H0 (P i) D H) ⟨[], L1, F, h0, (w.pk k).nw nD⟩ (fun i H _ ⟨ys, L, F, h, w'⟩ => hl i ys L F H D h w') (fun i x H hx ⟨ys, L, F, h, w'⟩ => hs i x ys L F H D hx h w' (w.g.fresh nD)) fun H ⟨ys, L, F, h, w'⟩ => hd D ys L F H h w' (w.g.fresh nD)
theorem n_ext (w : W M F0 H0 F H L) (hb : H q = some (.lst ys)) (kk : Pick L [mu p (.lst xs)] Rs) (hl : xs.length + ys.length ≤ sizeLine) (h : ∀ H2, W M F0 H0 F H2 (mu p (.lst (xs ++ ys)) :: Rs) → Q .non H2) : rExtend (.ref p) [.ref q] H Q :=
  ⟨p, q, xs, ys, rfl, rfl, (w.to kk).at_ (List.mem_singleton.mpr rfl), hb, hl, h _ (w.wr kk)⟩
theorem W.ro0' (w : W M F0 H0 F H L) {F2 H2 : Hp} (g : Gr [] H H F2 H2) : W M F0 H0 F H2 L := w.gr0 (g.back w.fh)
theorem getD_of {l : List V} {j : Nat} (h : j < l.length) : l[j]? = some (l.getD j .non) := by
  rw [List.getD_eq_getElem?_getD, List.getElem?_eq_getElem h]
  rfl
theorem n_forJ (J : It) (n : Nat) (w : W M F0 H0 F H L) (Inv : Nat → L2.St → List Own → Prop) {L1 : List Own} (h0 : Inv 0 σ L1) (hg : ∀ i σ L F H, i < n → Inv i σ L → W M F0 H0 F H L → J.go i H) (ht : ∀ σ L F H, Inv n σ L → W M F0 H0 F H L → J.stop n H)
    (hs : ∀ (i : Nat) x σ L F H H', i < n → Inv i σ L → W M F0 H0 F H L → J.yld i H x H' → g x σ H' fun σ2 H2 => tbody ⟨Nx M F0 H0 (Inv (i + 1)), rt, nx, Nx M F0 H0 (Inv (i + 1))⟩ σ2 H2)
    (hd : ∀ σ L F H, Inv n σ L → W M F0 H0 F H L → nx σ H) (k : Pk L L1 := by walk_at "pk") : forG g tbody ⟨nx, rt, bk, ct⟩ J σ H := by
  refine ⟨fun i m σ H => m = n - i ∧ i ≤ n ∧ Nx M F0 H0 (Inv i) σ H, ⟨n, by simp, Nat.zero_le _, L1, F, h0, w.pk k⟩, ?_⟩
  rintro i m σ H ⟨rfl, hi, L, F, h, w⟩
  by_cases hlt : i < n
  · exact .inr ⟨hg i σ L F H hlt h w, Nx M F0 H0 (Inv (i + 1)), fun σ' H' p' => ⟨n - (i + 1), by omega, rfl, hlt, p'⟩, fun x H' y => hs i x σ L F H H' hlt h w y⟩
  · have e : i = n := by omega
    subst e
    exact .inl ⟨ht σ L F H h w, hd σ L F H h w⟩
theorem n_lcJ (J : It) (n : Nat) (w : W M F0 H0 F H L) (P : Nat → List V → List Own → Prop) {L1 : List Own} (h0 : P 0 [] L1) (hg : ∀ i ys L F H D, i < n → P i ys L → W M F0 H0 F H (mu D (.lst ys) :: L) → J.go i H) (ht : ∀ ys L F H D, P n ys L → W M F0 H0 F H (mu D (.lst ys) :: L) → J.stop n H)
    (hs : ∀ (i : Nat) x ys L F H H' D, i < n → P i ys L → W M F0 H0 F H (mu D (.lst ys) :: L) → J.yld i H x H' → H0 D = none → g x (wipe σ vs) H' fun σ2 H2 => wipe σ2 vs = wipe σ vs ∧ tt σ2 H2 fun b H3 =>
      if b = true then te σ2 H3 (accG D (NxC M F0 H0 (P (i + 1)) D)) else NxC M F0 H0 (P (i + 1)) D H3)
    (hd : ∀ D ys L F H, P n ys L → W M F0 H0 F H (mu D (.lst ys) :: L) → H0 D = none → Q (.ref D) H) (k : Pk L L1 := by walk_at "pk") : lcG g tt te vs J σ H Q := by
  intro D nD
  have hD := w.g.fresh nD
  refine ⟨fun i m H => m = n - i ∧ i ≤ n ∧ NxC M F0 H0 (P i) D H, ⟨n, by simp, Nat.zero_le _, [], L1, F, h0, (w.pk k).nw nD⟩, ?_⟩
  rintro i m H ⟨rfl, hi, ys, L, F, h, w⟩
  by_cases hlt : i < n
  · exact .inr ⟨hg i ys L F H D hlt h w, NxC M F0 H0 (P (i + 1)) D, fun H' p' => ⟨n - (i + 1), by omega, rfl, hlt, p'⟩, fun x H' y => hs i x ys L F H H' D hlt h w y hD⟩
  · have e : i = n := by omega
    subst e
    exact .inl ⟨ht ys L F H D h w, hd D ys L F H h w hD⟩
def sgnV (z : Str) (k : Nat) : V := .str ⟨#[z.cps.toList.getD k 0]⟩
theorem its_yld {z : Str} {i : Nat} {H H' : Hp} {x : V} (h : (Its z).yld i H x H') : H' = H ∧ x = sgnV z i := by
  obtain ⟨e, c, hc, rfl⟩ := h
  refine ⟨e, ?_⟩
  unfold sgnV
  rw [List.getD_eq_getElem?_getD, Array.getElem?_toList, hc]
  rfl
theorem n_lcS (z : Str) (w : W M F0 H0 F H L) (P : Nat → List V → List Own → Prop) {L1 : List Own} (h0 : P 0 [] L1)
    (hs : ∀ (i : Nat) ys L F H D, i < z.length → P i ys L → W M F0 H0 F H (mu D (.lst ys) :: L) → H0 D = none → g (sgnV z i) (wipe σ vs) H fun σ2 H2 => wipe σ2 vs = wipe σ vs ∧ tt σ2 H2 fun b H3 =>
      if b = true then te σ2 H3 (accG D (NxC M F0 H0 (P (i + 1)) D)) else NxC M F0 H0 (P (i + 1)) D H3)
    (hd : ∀ D ys L F H, P z.length ys L → W M F0 H0 F H (mu D (.lst ys) :: L) → H0 D = none → Q (.ref D) H) (k : Pk L L1 := by walk_at "pk") : lcG g tt te vs (Its z) σ H Q :=
  n_lcJ (Its z) z.length w P h0 (fun i _ _ _ _ _ hi _ _ => hi) (fun _ _ _ _ _ _ _ => Nat.le_refl _) (fun i x ys L F H H' D hi h w y hD => by obtain ⟨rfl, rfl⟩ := its_yld y; exact hs i ys L F _ D hi h w hD) hd k
/-- over enumerate(list) -/
def enG (K : PySem.W.Frag) (vs : List V) (H : Hp) (Rr : It → Hp → Prop) : Prop := ∃ a xs, vs = [.ref a] ∧ SqL K H a xs ∧ Rr (Ite K a) H
theorem x_en {Rr : It → Hp → Prop} (h : t σ H fun vs H1 => enG K vs H1 Rr) : iEnum K t σ H Rr := h
instance {Rr : It → Hp → Prop} : Step (iEnum K t σ H Rr) (t σ H fun vs H1 => enG K vs H1 Rr) := ⟨x_en⟩ -- st
/-- over a tuple -/
theorem n_forT (xs : List V) (w : W M F0 H0 F H L) (Inv : Nat → L2.St → List Own → Prop) {L1 : List Own} (h0 : Inv 0 σ L1) (hl : ∀ i σ L F H, Inv i σ L → W M F0 H0 F H L → SqT K H a xs)
    (hs : ∀ (i : Nat) x σ L F H, xs[i]? = some x → Inv i σ L → W M F0 H0 F H L → g x σ H fun σ2 H2 => tbody ⟨Nx M F0 H0 (Inv (i + 1)), rt, nx, Nx M F0 H0 (Inv (i + 1))⟩ σ2 H2)
    (hd : ∀ σ L F H, Inv xs.length σ L → W M F0 H0 F H L → nx σ H) (k : Pk L L1 := by walk_at "pk") : forG g tbody ⟨nx, rt, bk, ct⟩ (Itt K a) σ H := by
  refine n_forJ (Itt K a) xs.length w Inv h0 (fun i σ L F H hi h w => ⟨xs, xs[i], hl i σ L F H h w, List.getElem?_eq_getElem hi⟩) (fun σ L F H h w => ⟨xs, hl _ σ L F H h w, Nat.le_refl _⟩) (fun i x σ L F H H' hi h w y => ?_) hd k
  obtain ⟨rfl, y⟩ := y
  exact hs i x σ L F _ (y xs (hl i σ L F _ h w)) h w
theorem W.calB {b : Addr} {F2 H2 : Hp} {L2 L3 : List Own} (w : W M F0 H0 F H L) (k : Pick L [R.bag K b] Rs) (w2 : W [b] F H F2 H2 L2) (e : App L2 Rs L3) : W M F0 H0 F2 H2 L3 := w.cal k w2 e rfl
theorem W.bag0 {b : Addr} {F2 H2 : Hp} (g : Gr [] H H F2 H2) (h : Bag K F2 H2 b) : W [] H H F2 H2 [R.bag K b] := by
  obtain ⟨c, cells, i, cur, st, k, h1, h2, _⟩ := h.ex
  refine ⟨g, fun o m => ?_, ?_, fun a m => ?_⟩
  · rw [List.mem_singleton.mp m]
    exact h
  · show ([b] : List Addr).Nodup
    simp
  · rw [show a = b from List.mem_singleton.mp m]
    exact .inr (g.ff.free h1)
theorem n_acc (ys : List V) {P : List V → List Own → Prop} (w : W M F0 H0 F H L) (hp : P (ys ++ [y]) Rs) (k : Pk L (mu D (.lst ys) :: Rs)) (hl : ys.length < sizeLine) : accG D (NxC M F0 H0 P D) y H := by
  have w' := w.pk k
  refine ⟨ys, w'.at_ (List.mem_cons_self ..), hl, ys ++ [y], Rs, F, hp, ?_⟩
  exact w'.wr (.cons .here .nil)
end
end R
namespace R
open PySem PySem.Spec PyProof.Rows L2
section
variable {X : Cx} {K : PySem.W.Frag} {w : World}
def rSetL (K : PySem.W.Frag) (w : World) : List V → Hp → VK → Prop := fun xs H Q => ∃ (a : Addr) (ns : List Int), xs = [.ref a] ∧ SqL K H a (ns.map V.int) ∧ ns.length ≤ 4000 ∧ ∀ p c, c ≤ ns.length → H p = none → Q (.ref p) (upd H p (SetO w p (fun j => decide (j ∈ ns)) c))
end
end R
namespace R
open PySem PySem.Spec PyProof.Rows L2
/-! ### list(s) of a text -/
def chars (z : Str) : List V := z.cps.toList.map fun c => V.str ⟨#[c]⟩
theorem chars_len (z : Str) : (chars z).length = z.length := by simp [chars, Str.length]
def rListS : List V → Hp → VK → Prop := fun xs H Q => ∃ z : Str, xs = [.str z] ∧ z.length ≤ sizeLine ∧ ∀ q, H q = none → Q (.ref q) (upd H q (.lst (chars z)))
theorem clListS {X : Cx} (hc : X.calm = true := by rfl) : CallR X (.type "list") rListS := by
  intro pins s σ H xs us Q I r h
  obtain ⟨z, rfl, hz, q⟩ := h
  obtain ⟨u, rfl, rx⟩ := vals1 r
  obtain ⟨t, rfl⟩ := rx
  refine PySem.call_list_str (I.ok.hd hc) z t (fun h' tk acc c' hk e hi => ?_) hz
  refine ⟨.ref s.heap.objs.size, upd H s.heap.objs.size (.lst (chars z)), I.laid hk (Nat.le_refl _) ⟨by rw [chars_len]; exact hz, acc.toList, c', ?_, by rw [Array.toArray_toList]; exact e⟩, rfl, q _ (I.hok.fresh (Nat.le_refl _))⟩
  refine vals_of_idx _ _ (by rw [chars_len, Array.length_toList]; exact hi.1) fun j u hj => ?_
  obtain ⟨c, t', hc, rfl⟩ := hi.2 j u (by rw [← Array.getElem?_toList]; exact hj)
  refine ⟨.str ⟨#[c]⟩, ?_, ⟨_, rfl⟩⟩
  unfold chars
  rw [List.getElem?_map, Array.getElem?_toList, hc]
  rfl
theorem n_listS {M : List Addr} {F0 H0 F H : Hp} {L : List Own} {Q : VK} {z : Str} (w : W M F0 H0 F H L) (hz : z.length ≤ sizeLine) (h : ∀ p F2 H2, W M F0 H0 F2 H2 (mu p (.lst (chars z)) :: L) → H0 p = none → Q (.ref p) H2) : rListS [.str z] H Q := ⟨z, rfl, hz, n_new w h⟩
/-! ### flat values -/
/-! ### slices -/
/-! ### items put one by one from a place on -/
/-! ### moves -/
inductive Mv where
  | put (to : Nat) (s : Str)
  | copy (to a n : Nat)
def Mv.d : Mv → PyData
  | .put to s => .tuple [.str "put", .int to, .str s]
  | .copy to a n => .tuple [.str "copy", .int to, .int a, .int n]
def Mv.to : Mv → Nat
  | .put to _ => to
  | .copy to _ _ => to
def Mv.len : Mv → Nat
  | .put _ s => s.length
  | .copy _ _ n => n
def Mv.hi : Mv → Nat
  | .put _ _ => 0
  | .copy _ a n => a + n
def Mv.sOk : Mv → Prop
  | .put _ s => okS s ∧ s.length ≤ 1000
  | .copy to a _ => to ≠ a
structure MvOk (N : Nat) (m : Mv) : Prop where
  s : m.sOk
  p : 1 ≤ m.len
  t : m.to + m.len ≤ N
  h : m.hi ≤ N
def Mv.some (xs : List V) : Mv → List V
  | .put _ s => chars s
  | .copy _ a n => (xs.drop a).take n
section
variable {K : PySem.W.Frag} {F : Hp} {x : V}
/-- item i of a list of data -/
theorem dpa_at {α : Type} {f : α → PyData} {us : List V} {as : List α} {i : Nat} {y : V} (h : DpAll K F us (as.map f)) (hx : us[i]? = some y) : ∃ r, as[i]? = some r ∧ Dp K F y (f r) := by
  have hl := dpa_len h
  have hi := (List.getElem?_eq_some_iff.mp hx).1
  rw [List.length_map] at hl
  have hr : as[i]? = some as[i] := List.getElem?_eq_getElem (by omega)
  obtain ⟨v, hv, dv⟩ := dpa_get (i := i) (d := f as[i]) h (by rw [List.getElem?_map, hr]; rfl)
  rw [hx] at hv
  rw [Option.some.inj hv]
  exact ⟨_, hr, dv⟩
end
/-- no cell is written twice -/
def Apart (ms : List Mv) : Prop := ms.Pairwise fun m k => m.to + m.len ≤ k.to ∨ k.to + k.len ≤ m.to
theorem Apart.perm {ms ks : List Mv} (h : Apart ms) (p : ms.Perm ks) : Apart ks := (p.pairwise_iff (fun h => h.symm)).mp h
structure MvsOk (N : Nat) (ms : List Mv) : Prop where
  ok : ∀ m ∈ ms, MvOk N m
  ap : Apart ms
theorem MvsOk.perm {N : Nat} {ms ks : List Mv} (h : MvsOk N ms) (p : ms.Perm ks) : MvsOk N ks := ⟨fun m hm => h.ok m (p.mem_iff.mpr hm), h.ap.perm p⟩
theorem nodup_lt : ∀ (N : Nat) (l : List Nat), l.Nodup → (∀ x ∈ l, x < N) → l.length ≤ N
  | 0, [], _, _ => Nat.le_refl _
  | 0, x :: l, _, h => absurd (h x (List.mem_cons_self ..)) (Nat.not_lt_zero _)
  | N + 1, l, hn, h => by
    have ih := nodup_lt N (l.erase N) (hn.erase N) fun x hx => by
      have h1 := h x (List.mem_of_mem_erase hx)
      have h2 : x ≠ N := fun e => by
        subst e
        exact (List.Nodup.mem_erase_iff hn).mp hx |>.1 rfl
      omega
    rw [List.length_erase] at ih
    split at ih <;> omega
/-- fewer than N + 1 of them -/
theorem MvsOk.len {N : Nat} {ms : List Mv} (h : MvsOk N ms) : ms.length ≤ N := by
  have hn : (ms.map Mv.to).Nodup := by
    refine List.pairwise_map.mpr (h.ap.imp_of_mem fun ha hb z => ?_)
    have := (h.ok _ ha).p
    have := (h.ok _ hb).p
    omega
  have hs : ∀ x ∈ ms.map Mv.to, x < N := fun x hx => by
    obtain ⟨m, hm, rfl⟩ := List.mem_map.mp hx
    have := (h.ok m hm).p
    have := (h.ok m hm).t
    omega
  have := nodup_lt N _ hn hs
  rwa [List.length_map] at this
/-! ### cuts and blocks -/
/-! ### promises -/
end R
namespace R
open PySem L2
/-! ### a class of the text: its methods with their promises, its making -/
structure DM (P : Program) (w : World) (K : PySem.W.Frag) (mg : Str → Option Value) (base : Heap) (k : Nat) (C m : Str) (ps : List Str) (dvs : List V) (sp : Sp) : Prop where
  ex : ∃ (fd : FuncData) (ds : List Value), FnOk P w K mg base CX0 k (He.ma K (He.ga K C) m) fd ps sp ∧ Meth K (He.ga K C) m (He.ma K (He.ga K C) m) ∧ Cls K (He.ga K C) ∧ Binds K fd ps ds ∧ Vals dvs ds
structure DN (P : Program) (w : World) (K : PySem.W.Frag) (mg : Str → Option Value) (base : Heap) (k : Nat) (C : Str) (ps : List Str) (dvs : List V) (sp : Sp) : Prop where
  ex : ∃ (fd : FuncData) (ds : List Value), FnOk P w K mg base CX0 k (He.ma K (He.ga K C) "__init__") fd ps sp ∧ Mk K (He.ga K C) (He.ma K (He.ga K C) "__init__") ∧ mg C = some (.ref (He.ga K C)) ∧ Binds K fd ps ds ∧ Vals dvs ds
section
variable {X : Cx} {k j n : Nat} {ps ks : List Str} {sp : Sp} {dvs : List V} {C m x : Str} {p pos apos : Pos} {o e : Expr} {es : List Expr} {kws : List Keyword} {ta : TE} {t tk : TA} {tp : List (Nat × Nat)} {pl : Sem Bool}
theorem pmake (D : DN X.prog X.w X.K X.mg X.base k x ps dvs sp) (hr : Room j X.A) (ha : PA X (e :: es) t) (hj : k + 1 ≤ j := by first | decide | exact Nat.le_refl _ | omega) (hg : Gl X x := by rfl) (hdb : (x == ("__debug__" : Str)) = false := by decide)
    (he : starEach (e :: es) X.env = (false, eval e X.env) :: starEach es X.env := by rfl) (hpl : (backTo pos (starEach es X.env)).any (·.1) = false := by rfl) :
    PE X (.Call (.Name x p) (e :: es) [] pos) (tMake (He.ga X.K x) sp dvs E0 t) := by
  obtain ⟨fd, ds, F, M, hm, hb, hd⟩ := D.ex
  exact pe_make M F (hr.mono hj) hg hm hb hd pass0 ha hdb he hpl
theorem pmeth (D : DM X.prog X.w X.K X.mg X.base k C m ps dvs sp) (hr : Room j X.A) (he : PE X o ta) (ha : PA X (e :: es) t) (hj : k ≤ j := by first | decide | exact Nat.le_refl _ | omega)
    (h1 : starEach (e :: es) X.env = (false, eval e X.env) :: starEach es X.env := by rfl) (h2 : (backTo pos (starEach es X.env)).any (·.1) = false := by rfl)
    (h3 : eval (.Call (.Attribute o m apos) (e :: es) [] pos) X.env = (eval o X.env >>= fun ov => standAt apos.atName >>= fun _ => holding [ov] (getMethod ov m pl) >>= fun q =>
      callWith pos q.1 q.2 (backTo pos (starEach (e :: es) X.env)) (backToKw pos (keywordEach [] X.env))) := by rfl) :
    PE X (.Call (.Attribute o m apos) (e :: es) [] pos) (tMeth (He.ga X.K C) m sp dvs E0 ta t) := by
  obtain ⟨fd, ds, F, M, c, hb, hd⟩ := D.ex
  exact pe_meth he c M F (hr.mono hj) hb hd pass0 ha h1 h2 h3
theorem pmeth0 (D : DM X.prog X.w X.K X.mg X.base k C m ps dvs sp) (hr : Room j X.A) (he : PE X o ta) (hj : k ≤ j := by first | decide | exact Nat.le_refl _ | omega)
    (h3 : eval (.Call (.Attribute o m apos) [] [] pos) X.env = (eval o X.env >>= fun ov => standAt apos.atName >>= fun _ => holding [ov] (getMethod ov m pl) >>= fun q =>
      callWith pos q.1 q.2 (backTo pos (starEach [] X.env)) (backToKw pos (keywordEach [] X.env))) := by rfl) :
    PE X (.Call (.Attribute o m apos) [] [] pos) (tMeth (He.ga X.K C) m sp dvs E0 ta tNil) := by
  obtain ⟨fd, ds, F, M, c, hb, hd⟩ := D.ex
  exact pe_meth0 he c M F (hr.mono hj) hb hd pass0 h3
end
/-! ### rules with the written part by its own name -/
section
variable {X : Cx} {K : PySem.W.Frag} {o value : Expr} {f : Str} {ta tv : TE} {pos p2 : Pos}
theorem psFld (ha : PE X o ta) (hv : PE X value tv) (hs : swapsWith value (some (.Attribute o f p2)) pos.line X.env = pure false) (h : X.K = K := by rfl) : PS X (.Assign [.Attribute o f p2] value pos) (sFld K ta tv f) := by
  subst h
  exact ps_fld ha hv hs
end
/-! ### steps -/
section
variable {K : PySem.W.Frag} {σ : L2.St} {H : Hp} {Q : VK} {ta tv : TE} {x v : V} {nx bk ct : L2.St → Hp → Prop} {rt : VK} {C a dx : Addr} {f m : Str} {fs : List (Str × V)}
/-- what an instance's field asks -/
def gFld (K : PySem.W.Frag) (f : Str) (x : V) (H : Hp) (Q : VK) : Prop := ∃ a C dx fs v, x = .ref a ∧ H a = some (.ins C dx fs) ∧ Cls K C ∧ NoAttr K C f ∧ fs.lookup f = some v ∧ Q v H
theorem w_fldE (q : ta σ H fun x H1 => gFld K f x H1 Q) : tFld K ta f σ H Q := q
instance : Step (tFld K ta f σ H Q) (ta σ H fun x H1 => gFld K f x H1 Q) := ⟨w_fldE⟩ -- st
theorem w_fld (c : Cls K C) (n : NoAttr K C f) (h : H a = some (.ins C dx fs)) (l : fs.lookup f = some v) (q : Q v H) : gFld K f (.ref a) H Q := ⟨a, C, dx, fs, v, rfl, h, c, n, l, q⟩
def gSFld (K : PySem.W.Frag) (f : Str) (x y : V) (H : Hp) (Z : Hp → Prop) : Prop := ∃ a C dx fs, x = .ref a ∧ H a = some (.ins C dx fs) ∧ Cls K C ∧ NoAttr K C f ∧ fs.length < 1000 ∧ Z (upd H a (.ins C dx (putF f y fs)))
theorem w_sfldE (q : tv σ H fun y H1 => ta σ H1 fun x H2 => gSFld K f x y H2 fun H3 => nx σ H3) : sFld K ta tv f ⟨nx, rt, bk, ct⟩ σ H := q
instance : Step (sFld K ta tv f ⟨nx, rt, bk, ct⟩ σ H) (tv σ H fun y H1 => ta σ H1 fun x H2 => gSFld K f x y H2 fun H3 => nx σ H3) := ⟨w_sfldE⟩ -- st
theorem w_sfld {Z : Hp → Prop} (c : Cls K C) (n : NoAttr K C f) (h : H a = some (.ins C dx fs)) (l : fs.length < 1000) (q : Z (upd H a (.ins C dx (putF f v fs)))) : gSFld K f (.ref a) v H Z := ⟨a, C, dx, fs, rfl, h, c, n, l, q⟩
theorem w_meth {sp : Sp} {dvs : List V} {E : XK} {t : TA} (q : ta σ H fun x H1 => ∃ a dx fs, x = .ref a ∧ H1 a = some (.ins C dx fs) ∧ fs.lookup m = none ∧ t σ H1 fun vs H2 => sp (x :: (vs ++ dvs)) H2 Q E) : tMeth C m sp dvs E ta t σ H Q := q
end
end R
namespace R
open PySem PySem.Spec PyProof.Rows L2
/-! ### the head's facts with one more of the written part -/
def obsEG (n : Nat) (fa : List He.Fa) (fn : List He.DefD) (ex : PySem.W.Frag → Bool) (g : Addr → Option Obj) : He.AlD × Bool := (He.obsDG n fa fn g, ex (He.frG g (He.asD g n)))
def hookE (n : Nat) (fa : List He.Fa) (fn : List He.DefD) (ex : PySem.W.Frag → Bool) : PySem.W.Hook where
  α := He.AlD × Bool
  obs := fun s => obsEG n fa fn ex s.heap.get?
  val := fun _ => (He.valD fn, true)
  says := fun _ h => ∃ K : PySem.W.Frag, K.In h ∧ He.SaysD fa fn K ∧ ex K = true
  of := fun _ _ e => ⟨_, He.frG_in, congrArg Prod.fst e, congrArg Prod.snd e⟩
  keeps := fun _ _ _ ⟨K, hK, c⟩ k => ⟨K, PySem.W.Frag.In.keeps hK k, c⟩
theorem obsEG_eq {n : Nat} {fa : List He.Fa} {fn : List He.DefD} {ex : PySem.W.Frag → Bool} {g : Addr → Option Obj} {s : Shared} (h : ∀ a, g a = s.heap.get? a) : obsEG n fa fn ex g = (hookE n fa fn ex).obs s := by
  have e : g = s.heap.get? := funext h
  rw [e] <;> rfl
def eqV2 (a b : Option (Option Value)) : Bool := decide (a = b)
/-- what isinstance asks of an own class -/
def insB (K : PySem.W.Frag) (C : Str) : Bool := eqV2 (PySem.W.findIn K (.ref (He.ga K C)) "__class__") (some (some (.builtin "object.__class__"))) &&
  (eqV2 (PySem.W.specialIn K (.builtin "object.__class__") "__get__") (some (some (.builtin "getset_descriptor.__get__"))) &&
  (decide (PySem.W.takesIn K (.builtin "object.__class__") = some true) && (decide (PySem.W.mroIn K (He.ga K C) (.type "object") = some true) && decide (PySem.W.kitOne K (.ref (He.ga K C)) (.ref (He.ga K C)) = some true))))
theorem insB_ok {K : PySem.W.Frag} {C : Str} (c : Cls K (He.ga K C)) (h : insB K C = true) : C8.InsC K (He.ga K C) := by
  unfold insB at h
  simp only [Bool.and_eq_true, eqV2, decide_eq_true_eq] at h
  obtain ⟨h1, h2, h3, h4, h5⟩ := h
  exact ⟨c, h1, h2, h3, h4, h5⟩
/-- a class's own function for a special name -/
def spcB (K : PySem.W.Frag) (C m : Str) : Bool := eqV2 (PySem.W.findIn K (.ref (He.ga K C)) m) (some (some (.ref (He.ma K (He.ga K C) m)))) && PySem.W.isFn K (.ref (He.ma K (He.ga K C) m))
section
variable {X : Cx} {K : PySem.W.Frag} {k : Nat} {C : Str} {ps : List Str} {sp : Sp}
def rIsC (K : PySem.W.Frag) (C : Str) : List V → Hp → VK → Prop := fun xs H Q => ∃ a dx fs, xs = [.ref a, .ref (He.ga K C)] ∧ H a = some (.ins (He.ga K C) dx fs) ∧ Q (.bl true) H
theorem clIsC (c : C8.InsC X.K (He.ga X.K C)) : CallR X (.builtin "isinstance") (rIsC X.K C) := C8.call_isC c
def aftI (Q : VK) : VK := fun v H2 => ∃ n : Int, v = .int n ∧ (0 ≤ n ∧ n < 2 ^ 63) ∧ Q (.int n) H2
/-- len(x) by an own __len__ -/
def rLenO (C : Addr) (sp : Sp) : List V → Hp → VK → Prop := fun xs H Q => ∃ a dx fs, xs = [.ref a] ∧ H a = some (.ins C dx fs) ∧ sp [.ref a] H (aftI Q) E0
theorem clLenO (D : DM X.prog X.w X.K X.mg X.base k C "__len__" ps [] sp) {j : Nat} (hr : Room j X.A) (hj : k + 1 ≤ j) : CallR X (.builtin "len") (rLenO (He.ga X.K C) sp) := by
  obtain ⟨fd, ds, F, c, _, hb, hv⟩ := D.ex
  cases hv
  intro pins s σ H xs us Q I r h
  obtain ⟨a, dx, fs, rfl, ha, q⟩ := h
  rw [Vals.ref1 r]
  obtain ⟨mA, J, _⟩ := ins_get I.hok ha
  obtain ⟨od, J, _⟩ := J.look
  obtain ⟨m, hF⟩ := I.fr
  refine PySem.W.len_K hF I.ok.mod.kin J c.at_ c.fn ?_
  have e0 : Env0 X.prog X.w X.K X.mg X.base X.A.in1 X.stack s H := by
    have e := I.env0
    exact ⟨e.frames, e.mod, e.bs, e.bsz, e.funs, e.frf, e.hok, e.bare⟩
  have hl := F.len _ _ _ _ q
  refine wpAny_call (codeAny_mono (F.run X.A.in1 X.stack s H ⟨[.ref a], []⟩ [.ref a] [.ref a] _ E0 (hr.mono hj).in1 e0 (by
    have := hb s [.ref a] I.kIn (by simpa using hl)
    simpa using this) (.cons rfl .nil) q) fun r s' hq => ?_)
  cases r with
  | error e => exact pass0 pins σ H s e s' I hq
  | ok fl =>
    cases fl with
    | ret w =>
      obtain ⟨z, H', I', rz, n, ez, hn, q⟩ := I.after hq
      subst ez
      obtain ⟨t, rfl⟩ := rz
      exact ⟨hn, .int n, H', I'.tok _, ⟨_, rfl⟩, q⟩
    | next => exact False.elim hq
    | brk => exact False.elim hq
    | cont => exact False.elim hq
end
section
variable {K : PySem.W.Frag} {H : Hp} {Q : VK} {C : Str} {c : Addr} {a b dx dy : Addr} {fs gs : List (Str × V)} {sp : Sp}
theorem n_isC (h : H a = some (.ins (He.ga K C) dx fs)) (q : Q (.bl true) H) : rIsC K C [.ref a, .ref (He.ga K C)] H Q := ⟨a, dx, fs, rfl, h, q⟩
theorem n_lenO (h : H a = some (.ins c dx fs)) (q : sp [.ref a] H (aftI Q) E0) : rLenO c sp [.ref a] H Q := ⟨a, dx, fs, rfl, h, q⟩
end
end R
namespace R
open PySem L2
/-! ### instances in a reading -/
def mthG (C : Addr) (m : Str) (x : V) (H : Hp) (P : Prop) : Prop := (∃ a dx fs, x = .ref a ∧ H a = some (.ins C dx fs) ∧ fs.lookup m = none) ∧ P
def aftG (Q : VK) (x : Addr) : VK := fun v H2 => v = .non ∧ Q (.ref x) H2
def makG (C : Addr) (sp : Sp) (ws : List V) (E : XK) (H : Hp) (Q : VK) : Prop := ∀ x dx, H x = none → H dx = none → dx ≠ x → sp (.ref x :: ws) (upd (upd H dx (.own x)) x (.ins C dx [])) (aftG Q x) E
section
variable {K : PySem.W.Frag} {M : List Addr} {F0 H0 F H : Hp} {L Rs : List Own} {σ : L2.St} {Q : VK} {ta : TE} {v : V} {nx bk ct : L2.St → Hp → Prop} {rt : VK} {C a dx : Addr} {f m : Str} {fs : List (Str × V)}
theorem n_fld (h : H a = some (.ins C dx fs)) (l : fs.lookup f = some v) (c : Cls K C) (n : NoAttr K C f) (q : Q v H) : gFld K f (.ref a) H Q := w_fld c n h l q
instance : SideK (gFld K f (.ref a) H Q) 4 := ⟨⟩ -- st
theorem n_sfld {Z : Hp → Prop} (w : W M F0 H0 F H L) (k : Pick L [mu a (.ins C dx fs)] Rs) (c : Cls K C) (n : NoAttr K C f) (l : fs.length < 1000) (q : ∀ H2, W M F0 H0 F H2 (mu a (.ins C dx (putF f v fs)) :: Rs) → Z H2) : gSFld K f (.ref a) v H Z :=
  w_sfld c n ((w.to k).at_ (List.mem_singleton.mpr rfl)) l (q _ (w.wr k))
theorem x_meth {sp : Sp} {dvs : List V} {E : XK} {t : TA} (q : ta σ H fun x H1 => mthG C m x H1 (t σ H1 fun vs H2 => sp (x :: (vs ++ dvs)) H2 Q E)) : tMeth C m sp dvs E ta t σ H Q := by
  refine w_meth ?_
  refine cast ?_ q
  congr 1
  funext x H1
  unfold mthG
  refine propext ⟨?_, ?_⟩
  · rintro ⟨⟨a, dx, fs, h1, h2, h3⟩, h4⟩
    exact ⟨a, dx, fs, h1, h2, h3, h4⟩
  · rintro ⟨a, dx, fs, h1, h2, h3, h4⟩
    exact ⟨⟨a, dx, fs, h1, h2, h3⟩, h4⟩
instance {sp : Sp} {dvs : List V} {E : XK} {t : TA} : Step (tMeth C m sp dvs E ta t σ H Q) (ta σ H fun x H1 => mthG C m x H1 (t σ H1 fun vs H2 => sp (x :: (vs ++ dvs)) H2 Q E)) := ⟨x_meth⟩ -- st
theorem n_meth {P : Prop} (h : H a = some (.ins C dx fs)) (l : fs.lookup m = none) (q : P) : mthG C m (.ref a) H P := ⟨⟨a, dx, fs, rfl, h, l⟩, q⟩
instance {P : Prop} : SideK (mthG C m (.ref a) H P) 4 := ⟨⟩ -- st
theorem x_make {sp : Sp} {dvs : List V} {E : XK} {t : TA} (q : t σ H fun vs H1 => makG C sp (vs ++ dvs) E H1 Q) : tMake C sp dvs E t σ H Q := q
instance {sp : Sp} {dvs : List V} {E : XK} {t : TA} : Step (tMake C sp dvs E t σ H Q) (t σ H fun vs H1 => makG C sp (vs ++ dvs) E H1 Q) := ⟨x_make⟩ -- st
theorem n_make {sp : Sp} {ws : List V} {E : XK} (w : W M F0 H0 F H L) (q : ∀ x dx H2, W M F0 H0 F H2 (mu x (.ins C dx []) :: mu dx (.own x) :: L) → H0 x = none → sp (.ref x :: ws) H2 (aftG Q x) E) : makG C sp ws E H Q := by
  intro x dx nx ndx hne
  have w1 := w.nw (u := .own x) ndx
  have nx1 : upd H dx (.own x) x = none := by rw [upd_ne hne.symm]; exact nx
  exact q x dx _ (w1.nw (u := .ins C dx []) nx1) (w.g.fresh nx)
end
/-! ### rows of a change -/
inductive CRow where
  | put (s : Str)
  | copy (a n : Nat)
def CRow.d : CRow → PyData
  | .put s => .tuple [.str "put", .str s]
  | .copy a n => .tuple [.str "copy", .int a, .int n]
def CRow.gives : CRow → Nat
  | .put s => s.length
  | .copy _ n => n
def CRow.hi : CRow → Nat
  | .put _ => 0
  | .copy a n => a + n
def CRow.sOk : CRow → Prop
  | .put s => okS s ∧ s.length ≤ 1000
  | .copy _ _ => True
structure CRowOk (size : Nat) (r : CRow) : Prop where
  s : r.sOk
  p : 1 ≤ r.gives
  h : r.hi ≤ size
abbrev givesL (rows : List CRow) : Nat := (rows.map CRow.gives).sum
structure RowsOk (size : Nat) (rows : List CRow) : Prop where
  ok : ∀ r ∈ rows, CRowOk size r
  sum : givesL rows ≤ 400
theorem rows_len : ∀ {rows : List CRow}, (∀ r ∈ rows, 1 ≤ r.gives) → rows.length ≤ givesL rows
  | [], _ => Nat.le_refl _
  | r :: rows, h => by
    have ih := rows_len (rows := rows) fun q hq => h q (List.mem_cons_of_mem _ hq)
    have h1 := h r (List.mem_cons_self ..)
    show rows.length + 1 ≤ r.gives + givesL rows
    omega
theorem RowsOk.len {size : Nat} {rows : List CRow} (h : RowsOk size rows) : rows.length ≤ 400 := Nat.le_trans (rows_len fun r hr => (h.ok r hr).p) h.sum
section
variable {K : PySem.W.Frag} {F : Hp} {x : V}
theorem dp_cput {s : Str} (h : Dp K F x (CRow.put s).d) : ∃ a, x = .ref a ∧ SqT K F a [.str "put", .str s] := by
  obtain ⟨a, vs, rfl, hs, h0⟩ := dp_tup h
  obtain ⟨v1, us, rfl, h1, h0⟩ := dpa_cons h0
  obtain ⟨v2, us, rfl, h2, h0⟩ := dpa_cons h0
  cases dpa_nil h0
  rw [dp_str h1, dp_str h2] at hs
  exact ⟨a, rfl, hs⟩
theorem dp_ccopy {a n : Nat} (h : Dp K F x (CRow.copy a n).d) : ∃ p, x = .ref p ∧ SqT K F p [.str "copy", .int a, .int n] := by
  obtain ⟨a, v1, v2, v3, rfl, hs, h1, h2, h3⟩ := dp_tup3 h
  rw [dp_str h1, dp_int h2, dp_int h3] at hs
  exact ⟨a, rfl, hs⟩
theorem dp_cput' {p : Addr} {s : Str} (h : SqT K F p [.str "put", .str s]) : Dp K F (.ref p) (CRow.put s).d := .tup h (.cons (.str _) (.cons (.str _) .nil))
theorem dp_ccopy' {p : Addr} {a n : Nat} (h : SqT K F p [.str "copy", .int a, .int n]) : Dp K F (.ref p) (CRow.copy a n).d := .tup h (.cons (.str _) (.cons (.int _) (.cons (.int _) .nil)))
end
theorem crow_good {m : CRow} (h : m.sOk) : good m.d = true ∧ m.d.depth ≤ 1 := by
  cases m with
  | put s =>
    constructor
    · refine good_tuple (by simp) fun d hd => ?_
      simp only [List.mem_cons, List.not_mem_nil, or_false] at hd
      rcases hd with rfl | rfl
      · decide +kernel
      · exact str_good h.1 (Nat.le_trans h.2 (by decide))
    · refine depth_tuple fun d hd => ?_
      simp only [List.mem_cons, List.not_mem_nil, or_false] at hd
      rcases hd with rfl | rfl <;> exact Nat.le_refl _
  | copy a n =>
    constructor
    · refine good_tuple (by simp) fun d hd => ?_
      simp only [List.mem_cons, List.not_mem_nil, or_false] at hd
      rcases hd with rfl | rfl | rfl
      · decide +kernel
      · rfl
      · rfl
    · refine depth_tuple fun d hd => ?_
      simp only [List.mem_cons, List.not_mem_nil, or_false] at hd
      rcases hd with rfl | rfl | rfl <;> exact Nat.le_refl _
theorem crows_good {ms : List CRow} (h : ∀ m ∈ ms, m.sOk) (hl : ms.length ≤ 100000) : good (.list (ms.map CRow.d)) = true ∧ (PyData.list (ms.map CRow.d)).depth ≤ 2 := by
  constructor
  · refine good_list (by rw [List.length_map]; exact hl) fun d hd => ?_
    obtain ⟨r, hr, rfl⟩ := List.mem_map.mp hd
    exact (crow_good (h r hr)).1
  · refine depth_list fun d hd => ?_
    obtain ⟨r, hr, rfl⟩ := List.mem_map.mp hd
    exact (crow_good (h r hr)).2
/-- a change that stays -/
def insC (C dx r : Addr) (n : Nat) : HO := .ins C dx [("size", .int (n : Nat)), ("rows", .ref r)]
def Chg (K : PySem.W.Frag) (F : Hp) (x : V) (n : Nat) (rows : List CRow) : Prop := ∃ c dx r vs, x = .ref c ∧ F c = some (insC (He.ga K "Change") dx r n) ∧ F r = some (.lst vs) ∧ DpAll K F vs (rows.map CRow.d)
theorem Chg.same {K : PySem.W.Frag} {F F2 : Hp} {x : V} {n : Nat} {rows : List CRow} (s : Same F F2) (h : Chg K F x n rows) : Chg K F2 x n rows := by
  obtain ⟨c, dx, r, vs, e, h1, h2, h3⟩ := h
  exact ⟨c, dx, r, vs, e, s _ _ h1, s _ _ h2, dpa_same s _ _ h3⟩
def chg (K : PySem.W.Frag) (x : V) (n : Nat) (rows : List CRow) : Own := pur (fun F => Chg K F x n rows) fun s h => h.same s
/-! ### moves of a change -/
theorem gives_take {rows : List CRow} {i : Nat} {r : CRow} (h : rows[i]? = some r) : givesL (rows.take (i + 1)) = givesL (rows.take i) + r.gives := by
  unfold givesL
  rw [List.take_add_one, h, List.map_append, List.sum_append]
  rfl
theorem gives_le (rows : List CRow) (i : Nat) : givesL (rows.take i) ≤ givesL rows := by
  have := List.sum_append (l₁ := (rows.take i).map CRow.gives) (l₂ := (rows.drop i).map CRow.gives)
  rw [← List.map_append, List.take_append_drop] at this
  show ((rows.take i).map CRow.gives).sum ≤ (rows.map CRow.gives).sum
  omega
/-! ### promises -/
def φgives (K : PySem.W.Frag) : V → V → Hp → VK → Prop := fun x y H Q => ∃ (F : Hp) (r : CRow) (n : Nat), y = .int (n : Nat) ∧ Same F H ∧ Dp K F x r.d ∧ CRowOk n r ∧ ∀ F2 H2, W [] F H F2 H2 [] → Q (.int (r.gives : Nat)) H2
def φinit (K : PySem.W.Frag) : V → V → V → Hp → VK → Prop := fun x y z H Q => ∃ (F : Hp) (c dx a : Addr) (vs : List V) (n : Nat) (rows : List CRow), x = .ref c ∧ y = .int (n : Nat) ∧ z = .ref a ∧ St F H [mu c (.ins (He.ga K "Change") dx [])] ∧ SqL K F a vs ∧ DpAll K F vs (rows.map CRow.d) ∧ n ≤ 400 ∧ RowsOk n rows ∧
  ∀ r F2 H2, H r = none → W [c] F H F2 H2 [mu c (insC (He.ga K "Change") dx r n), mu r (.lst vs)] → Q .non H2
/-- the making of a change -/
theorem c_init {K : PySem.W.Frag} {M : List Addr} {F0 H0 F H : Hp} {L Rs : List Own} {Q : VK} {E : XK} {c dx a : Addr} {vs : List V} {n : Nat} {rows : List CRow} (w : W M F0 H0 F H L) (k : Pick L [mu c (.ins (He.ga K "Change") dx [])] Rs) (hc : H0 c = none) (hs : SqL K F a vs) (hd : DpAll K F vs (rows.map CRow.d)) (hn : n ≤ 400) (ok : RowsOk n rows)
    (q : ∀ F2 H2, W M F0 H0 F2 H2 (chg K (.ref c) n rows :: Rs) → Q (.ref c) H2) : S3 (φinit K) [.ref c, .int (n : Nat), .ref a] H (aftG Q c) E := by
  refine ⟨F, c, dx, a, vs, n, rows, rfl, rfl, rfl, w.st k, hs, hd, hn, ok, fun r F2 H2 hr w2 => ⟨rfl, ?_⟩⟩
  have hr' := w.g.fresh hr
  have hd2 := dpa_same w2.ff _ _ hd
  have w := w.cal k w2 (.cons (.cons .nil)) rfl
  have m1 := w.mu (p := c) (List.mem_cons_self ..)
  have w := w.fz (.cons .here .nil) hc
  have hd2 := dpa_same (Same.new (o := insC (He.ga K "Change") dx r n) m1.n) _ _ hd2
  have m2 := w.mu (p := r) (List.mem_cons_self ..)
  have w := w.fz (.cons .here .nil) hr'
  have hd2 := dpa_same (Same.new (o := .lst vs) m2.n) _ _ hd2
  refine q _ _ (w.push _ ⟨c, dx, r, vs, rfl, ?_, upd_same, hd2⟩)
  have hne : c ≠ r := fun e => by
    subst e
    have := m2.n
    rw [upd_same] at this
    cases this
  rw [upd_ne hne, upd_same]
theorem crows_snoc {n : Nat} {rows : List CRow} {r : CRow} (h : ∀ q ∈ rows, CRowOk n q) (hr : CRowOk n r) : ∀ q ∈ rows ++ [r], CRowOk n q := by
  intro q hq
  rcases List.mem_append.mp hq with hq | hq
  · exact h q hq
  · rw [List.mem_singleton.mp hq]
    exact hr
theorem gives_snoc (rows : List CRow) (r : CRow) : givesL (rows ++ [r]) = givesL rows + r.gives := by
  unfold givesL
  rw [List.map_append, List.sum_append]
  rfl
/-! ### the makers of k01 .. k16 -/
theorem cut_last (xs : List V) : cutV xs (some (-1)) none = xs.drop (xs.length - 1) := by
  unfold cutV
  rw [HT.sIx_none]
  have e : HT.sIx xs.length 0 (some (-1)) = xs.length - 1 := by
    unfold HT.sIx
    simp
    omega
  rw [e]
  exact List.take_of_length_le (by rw [List.length_drop]; exact Nat.le_refl _)
theorem cut_last_snoc (xs : List V) (v : V) : cutV (xs ++ [v]) (some (-1)) none = [v] := by
  rw [cut_last, List.length_append]
  show (xs ++ [v]).drop (xs.length + 1 - 1) = [v]
  rw [Nat.add_sub_cancel, List.drop_left]
def sig93 : Str := "!\"#$&'()*+,-./0123456789:;<=>?@ABCDEFGHIJKLMNOPQRSTUVWXYZ" ++ "[\\]^_`abcdefghijklmnopqrstuvwxyz{|}~"
theorem sig_len : sig93.length = 93 := by decide +kernel
def φsigns : Hp → VK → Prop := fun H Q => Q (.str sig93) H
def φsize1 (K : PySem.W.Frag) : V → Hp → VK → Prop := fun x H Q => ∃ (F : Hp) (b : Addr), x = .ref b ∧ St F H [bag K b] ∧ ∀ (n : Nat) F2 H2, W [b] F H F2 H2 [bag K b] → n ≤ 400 → Q (.int (n : Nat)) H2
/-- len(change) -/
def φclen (K : PySem.W.Frag) : V → Hp → VK → Prop := fun x H Q => ∃ (F : Hp) (n : Nat) (rows : List CRow), Same F H ∧ Chg K F x n rows ∧ rows.length ≤ 100000 ∧ ∀ F2 H2, W [] F H F2 H2 [] → Q (.int (rows.length : Nat)) H2
def CRow.puts : CRow → Nat
  | .put s => s.length
  | .copy _ _ => 0
def φsame (K : PySem.W.Frag) : V → V → V → Hp → VK → Prop := fun x y z H Q => ∃ (F : Hp) (a : Addr) (vs : List V) (n : Nat) (rows : List CRow), y = .int (n : Nat) ∧ z = .ref a ∧ Same F H ∧ SqL K F a vs ∧ DpAll K F vs (rows.map CRow.d) ∧ Chg K F x n rows ∧ RowsOk n rows ∧ ∀ F2 H2, W [] F H F2 H2 [] → Q (.bl true) H2
theorem n_signs {H : Hp} {Q : VK} {E : XK} (q : Q (.str sig93) H) : S0 φsigns ([] ++ []) H Q E := q
end R
namespace R
open PySem PySem.StrLaws Builtin.Str L2
/-! ### stretches of a text, by its signs -/
def segL (N : List Nat) (i j : Nat) : List Nat := (N.drop i).take (j - i)
def inB (O x : List Nat) : Bool := (List.range (O.length + 1)).any fun a => decide (a + x.length ≤ O.length ∧ (O.drop a).take x.length = x)
theorem inB_iff {O x : List Nat} : inB O x = true ↔ ∃ a, a + x.length ≤ O.length ∧ (O.drop a).take x.length = x := by
  unfold inB
  rw [List.any_eq_true]
  constructor
  · rintro ⟨a, _, h⟩
    exact ⟨a, of_decide_eq_true h⟩
  · rintro ⟨a, h1, h2⟩
    exact ⟨a, List.mem_range.mpr (by omega), decide_eq_true ⟨h1, h2⟩⟩
theorem inB_take {O x : List Nat} (n : Nat) (h : inB O x = true) : inB O (x.take n) = true := by
  obtain ⟨a, h1, h2⟩ := inB_iff.mp h
  refine inB_iff.mpr ⟨a, by rw [List.length_take]; omega, ?_⟩
  conv => rhs; rw [← h2]
  rw [List.take_take, List.length_take]
theorem seg_len {N : List Nat} {i j : Nat} (h : j ≤ N.length) : (segL N i j).length = j - i := by
  unfold segL
  rw [List.length_take, List.length_drop]
  omega
theorem in_less {O N : List Nat} {i j : Nat} (h : inB O (segL N i (j + 1)) = true) : inB O (segL N i j) = true := by
  have e : segL N i j = (segL N i (j + 1)).take (j - i) := by
    unfold segL
    rw [List.take_take]
    congr 1
    omega
  rw [e]
  exact inB_take _ h
/-! ### the least cost of each beginning -/
def minTo (f : Nat → Nat) : Nat → Nat
  | 0 => f 0
  | k + 1 => min (minTo f k) (f (k + 1))
theorem minTo_le {f : Nat → Nat} : ∀ {k i : Nat}, i ≤ k → minTo f k ≤ f i
  | 0, i, h => by
    have : i = 0 := by omega
    subst this
    exact Nat.le_refl _
  | k + 1, i, h => by
    rw [minTo]
    by_cases e : i = k + 1
    · subst e
      exact Nat.min_le_right _ _
    · exact Nat.le_trans (Nat.min_le_left _ _) (minTo_le (by omega))
theorem minTo_at {f : Nat → Nat} : ∀ k : Nat, ∃ i, i ≤ k ∧ minTo f k = f i
  | 0 => ⟨0, Nat.le_refl _, rfl⟩
  | k + 1 => by
    obtain ⟨i, hi, e⟩ := minTo_at (f := f) k
    rw [minTo]
    by_cases h : minTo f k ≤ f (k + 1)
    · exact ⟨i, by omega, by rw [Nat.min_eq_left h, e]⟩
    · exact ⟨k + 1, Nat.le_refl _, Nat.min_eq_right (by omega)⟩
theorem minTo_congr {f g : Nat → Nat} : ∀ {k : Nat}, (∀ i, i ≤ k → f i = g i) → minTo f k = minTo g k
  | 0, h => h 0 (Nat.le_refl _)
  | k + 1, h => by rw [minTo, minTo, minTo_congr fun i hi => h i (by omega), h (k + 1) (Nat.le_refl _)]
section
variable (p : Nat) (O N : List Nat)
def stepC (i j : Nat) : Nat := if inB O (segL N i j) = true then 0 else j - i
/-- the least costs of the beginnings up to j -/
def leastL : Nat → List Nat
  | 0 => [0]
  | j + 1 => leastL j ++ [minTo (fun i => (leastL j).getD i 0 + p + stepC O N i (j + 1)) j]
def lea (j : Nat) : Nat := (leastL p O N j).getD j 0
theorem least_len : ∀ j, (leastL p O N j).length = j + 1
  | 0 => rfl
  | j + 1 => by rw [leastL, List.length_append, least_len j]; rfl
theorem least_get : ∀ {j i : Nat}, i ≤ j → (leastL p O N j)[i]? = some (lea p O N i)
  | 0, i, h => by
    have : i = 0 := by omega
    subst this
    rfl
  | j + 1, i, h => by
    by_cases e : i = j + 1
    · subst e
      unfold lea
      rw [List.getD_eq_getElem?_getD]
      have hl := least_len p O N (j + 1)
      rw [List.getElem?_eq_getElem (by omega)]
      rfl
    · rw [leastL, List.getElem?_append_left (by rw [least_len]; omega)]
      exact least_get (by omega)
theorem lea_succ (j : Nat) : lea p O N (j + 1) = minTo (fun i => lea p O N i + p + stepC O N i (j + 1)) j := by
  have e : lea p O N (j + 1) = minTo (fun i => (leastL p O N j).getD i 0 + p + stepC O N i (j + 1)) j := by
    unfold lea
    rw [leastL, List.getD_eq_getElem?_getD, List.getElem?_append_right (by rw [least_len]; omega), least_len]
    simp
  rw [e]
  refine minTo_congr fun i hi => ?_
  rw [List.getD_eq_getElem?_getD, least_get p O N hi]
  rfl
theorem lea_le {i j : Nat} (h : i ≤ j) : lea p O N (j + 1) ≤ lea p O N i + p + stepC O N i (j + 1) := by
  rw [lea_succ]
  exact minTo_le (f := fun i => lea p O N i + p + stepC O N i (j + 1)) h
theorem lea_at (j : Nat) : ∃ i, i ≤ j ∧ lea p O N (j + 1) = lea p O N i + p + stepC O N i (j + 1) := by
  rw [lea_succ]
  exact minTo_at (f := fun i => lea p O N i + p + stepC O N i (j + 1)) j
theorem lea_mono1 (j : Nat) : lea p O N j ≤ lea p O N (j + 1) := by
  obtain ⟨i, hi, e⟩ := lea_at p O N j
  rw [e]
  by_cases hij : i = j
  · subst hij
    omega
  · obtain ⟨k, rfl⟩ : ∃ k, j = k + 1 := ⟨j - 1, by omega⟩
    have h1 := lea_le p O N (i := i) (j := k) (by omega)
    have h2 : stepC O N i (k + 1) ≤ stepC O N i (k + 1 + 1) := by
      unfold stepC
      by_cases h : inB O (segL N i (k + 1 + 1)) = true
      · rw [if_pos h, if_pos (in_less h)]
        exact Nat.le_refl _
      · rw [if_neg h]
        split <;> omega
    omega
theorem lea_mono {i j : Nat} (h : i ≤ j) : lea p O N i ≤ lea p O N j := by
  obtain ⟨d, rfl⟩ := Nat.le.dest h
  clear h
  induction d with
  | zero => exact Nat.le_refl _
  | succ d ih => exact Nat.le_trans ih (lea_mono1 p O N (i + d))
/-- what the table's row tells of the beginning of j signs -/
def TabOk (j : Nat) (t : Int) : Prop := j = 0 ∨ (∃ i : Nat, t = (i : Int) ∧ i < j ∧ inB O (segL N i j) = true ∧ lea p O N j = lea p O N i + p) ∨ ∃ i : Nat, t = -1 - (i : Int) ∧ i < j ∧ lea p O N j = lea p O N i + p + (j - i)
/-- the least put behind j signs -/
structure PutOk (j pc pf : Nat) : Prop where
  lt : pf < j
  at_ : pc = lea p O N pf + p + (j - pf)
  le : ∀ i, i < j → pc ≤ lea p O N i + p + (j - i)
theorem put_new {j pc pf : Nat} (h : PutOk p O N j pc pf) (hc : lea p O N j + p < pc) : PutOk p O N (j + 1) (lea p O N j + p + 1) j := by
  refine ⟨Nat.lt_succ_self j, by omega, fun i hi => ?_⟩
  by_cases e : i = j
  · subst e
    omega
  · have := h.le i (by omega)
    omega
theorem put_first : PutOk p O N 1 (lea p O N 0 + p + 1) 0 := by
  refine ⟨by omega, by omega, fun i hi => ?_⟩
  have : i = 0 := by omega
  subst this
  omega
theorem put_old {j pc pf : Nat} (h : PutOk p O N j pc pf) (hc : ¬ lea p O N j + p < pc) : PutOk p O N (j + 1) (pc + 1) pf := by
  refine ⟨by have := h.lt; omega, by have := h.at_; have := h.lt; omega, fun i hi => ?_⟩
  by_cases e : i = j
  · subst e
    omega
  · have := h.le i (by omega)
    omega
theorem tab_copy {j pc pf cf : Nat} (h : PutOk p O N (j + 1) pc pf) (h1 : cf < j + 1) (h2 : ∀ i, i < cf → inB O (segL N i (j + 1)) = false) (h3 : inB O (segL N cf (j + 1)) = true) (hc : lea p O N cf + p ≤ pc) : lea p O N (j + 1) = lea p O N cf + p := by
  have a := lea_le p O N (i := cf) (j := j) (by omega)
  have e : stepC O N cf (j + 1) = 0 := by unfold stepC; rw [if_pos h3]
  obtain ⟨i, hi, b⟩ := lea_at p O N j
  have c : lea p O N cf + p ≤ lea p O N i + p + stepC O N i (j + 1) := by
    by_cases hl : i < cf
    · have z := h.le i (by omega)
      have e2 : stepC O N i (j + 1) = j + 1 - i := by unfold stepC; rw [if_neg (by rw [h2 i hl]; decide)]
      omega
    · have := lea_mono p O N (i := cf) (j := i) (by omega)
      omega
  omega
theorem tab_put {j pc pf cf : Nat} (h : PutOk p O N (j + 1) pc pf) (h2 : ∀ i, i < cf → inB O (segL N i (j + 1)) = false) (hc : ¬ (cf < j + 1 ∧ lea p O N cf + p ≤ pc)) : lea p O N (j + 1) = pc := by
  obtain ⟨i, hi, b⟩ := lea_at p O N j
  have a := lea_le p O N (i := pf) (j := j) (by have := h.lt; omega)
  have e : stepC O N pf (j + 1) ≤ j + 1 - pf := by unfold stepC; split <;> omega
  have e0 := h.at_
  have c : pc ≤ lea p O N i + p + stepC O N i (j + 1) := by
    by_cases hl : i < cf
    · have z := h.le i (by omega)
      have e2 : stepC O N i (j + 1) = j + 1 - i := by unfold stepC; rw [if_neg (by rw [h2 i hl]; decide)]
      omega
    · have := lea_mono p O N (i := cf) (j := i) (by omega)
      have : ¬ lea p O N cf + p ≤ pc := fun z => hc ⟨by omega, z⟩
      omega
  omega
theorem lea_bound : ∀ j, lea p O N j ≤ j * (p + 1)
  | 0 => by show (0 : Nat) ≤ _; omega
  | j + 1 => by
    have h := lea_le p O N (i := j) (j := j) (Nat.le_refl _)
    have e : stepC O N j (j + 1) ≤ 1 := by unfold stepC; split <;> omega
    have ih := lea_bound j
    rw [Nat.succ_mul]
    omega
/-- any rows that make the new text cost at least so much -/
def CRow.mk (O : List Nat) : CRow → List Nat
  | .put s => s.cps.toList
  | .copy a n => (O.drop a).take n
def CRow.cst (p : Nat) (r : CRow) : Nat := p + r.puts
end
/-! ### texts by their signs -/
abbrev cd (z : Str) : List Nat := z.cps.toList
theorem cd_len (z : Str) : (cd z).length = z.length := by simp [Str.length]
theorem cd_inj {a b : Str} (h : cd a = cd b) : a = b := by
  obtain ⟨x⟩ := a
  obtain ⟨y⟩ := b
  have e : x = y := Array.toList_inj.mp h
  rw [e]
theorem cut_cd (z : Str) (i j : Nat) : cd (cutS z (some (i : Int)) (some (j : Int))) = segL (cd z) i j := by
  unfold cutS segL
  rw [HT.sIx_nat, HT.sIx_nat]
  show ((z.cps.toList.drop _).take _).toArray.toList = _
  rw [List.toList_toArray]
  have hl : z.cps.toList.length = z.length := cd_len z
  have hl2 := cd_len z
  by_cases h : i ≤ z.length
  · rw [Nat.min_eq_left h]
    by_cases h2 : j ≤ z.length
    · rw [Nat.min_eq_left h2]
    · rw [Nat.min_eq_right (by omega), List.take_of_length_le (by rw [List.length_drop]; omega), List.take_of_length_le (by rw [List.length_drop]; omega)]
  · rw [Nat.min_eq_right (show z.length ≤ i by omega), List.drop_eq_nil_of_le (by omega), List.drop_eq_nil_of_le (by omega), List.take_nil, List.take_nil]
theorem subAt_cd {x y : Str} {i : Nat} : subAt x y i = true ↔ ((cd x).drop i).take y.length = cd y := by
  unfold subAt
  rw [beq_iff_eq, ← Array.toList_inj, Array.toList_extract]
  show (x.cps.toList.drop i).take (i + y.length - i) = _ ↔ _
  rw [Nat.add_sub_cancel_left]
theorem found_inB (x y : Str) : (!(occurrences x y 0 x.length 1).isEmpty) = inB (cd x) (cd y) := by
  rw [Bool.eq_iff_iff, found_iff, inB_iff]
  constructor
  · rintro ⟨i, h1, h2⟩
    exact ⟨i, by rw [cd_len, cd_len]; exact h1, by rw [cd_len]; exact subAt_cd.mp h2⟩
  · rintro ⟨i, h1, h2⟩
    rw [cd_len] at h1 h2
    rw [cd_len] at h1
    exact ⟨i, h1, subAt_cd.mpr h2⟩
theorem find_cd {x y : Str} (h : inB (cd x) (cd y) = true) : ∃ a : Nat, Txt.find x y = (a : Int) ∧ a + y.length ≤ x.length ∧ ((cd x).drop a).take y.length = cd y := by
  rcases occ_head x y 1 (Nat.le_refl _) with ⟨h0, _⟩ | ⟨i, r, h0, ⟨h1, h2⟩, _⟩
  · rw [← found_inB, h0] at h
    cases h
  · refine ⟨i, ?_, h1, subAt_cd.mp h2⟩
    unfold Txt.find
    rw [h0]
def notinG : R2 := fun x y H Q => ∃ a b, x = .str a ∧ y = .str b ∧ Q (.bl (!inB (cd b) (cd a))) H
section
variable {X : Cx} {H : Hp} {Q : VK} {a b : Str}
theorem opNotInS : OpR X (compareOp .NotIn) notinG := by
  intro pins s σ H x y v u Q I rx ry h
  obtain ⟨a, b, h1, h2, q⟩ := h
  exact op_notin_str pins s σ H x y v u Q I rx ry ⟨a, b, h1, h2, by rw [found_inB]; exact q⟩
theorem n_notin (q : Q (.bl (!inB (cd b) (cd a))) H) : notinG (.str a) (.str b) H Q := ⟨a, b, rfl, rfl, q⟩
def findG : V → List V → Hp → VK → Prop := fun x xs H Q => ∃ a b, x = .str a ∧ xs = [.str b] ∧ Q (.int (Txt.find a b)) H
theorem mtFind : MtR X "str.find" findG := mt_find
theorem n_find (q : Q (.int (Txt.find a b)) H) : findG (.str a) [.str b] H Q := ⟨a, b, rfl, rfl, q⟩
end
/-! ### the table -/
def prD (c : Nat × Int) : PyData := .tuple [.int (c.1 : Nat), .int c.2]
theorem dp_pr {K : PySem.W.Frag} {F : Hp} {x : V} {p : Nat × Int} (h : Dp K F x (prD p)) : ∃ a, x = .ref a ∧ SqT K F a [.int (p.1 : Nat), .int p.2] := by
  obtain ⟨a, vs, rfl, hs, h0⟩ := dp_tup h
  obtain ⟨v1, us, rfl, h1, h0⟩ := dpa_cons h0
  obtain ⟨v2, us, rfl, h2, h0⟩ := dpa_cons h0
  cases dpa_nil h0
  rw [dp_int h1, dp_int h2] at hs
  exact ⟨a, rfl, hs⟩
def TabAll (p : Nat) (O N : List Nat) (ps : List (Nat × Int)) : Prop := ∀ k c t, ps[k]? = some (c, t) → c = lea p O N k ∧ TabOk p O N k t
def φtable (K : PySem.W.Frag) : V → V → V → Hp → VK → Prop := fun x y z H Q => ∃ (F : Hp) (o nw : Str) (p : Nat), x = .str o ∧ y = .str nw ∧ z = .int (p : Nat) ∧ Same F H ∧ o.length ≤ 1000 ∧ nw.length ≤ 1000 ∧ p ≤ 1000 ∧
  ∀ a ys ps F2 H2, H a = none → W [] F H F2 H2 [mu a (.lst ys), dpa K ys (ps.map prD)] → ps.length = nw.length + 1 → TabAll p (cd o) (cd nw) ps → Q (.ref a) H2
/-- rows that make the new text at the least cost -/
structure Made (p : Nat) (o nw : Str) (rows : List CRow) : Prop where
  ok : RowsOk o.length rows
  mkN : rows.flatMap (CRow.mk (cd o)) = cd nw
  cst : (rows.map (CRow.cst p)).sum = lea p (cd o) (cd nw) nw.length
def φfound (K : PySem.W.Frag) : V → V → V → Hp → VK → Prop := fun x y z H Q => ∃ (F : Hp) (o nw : Str) (p : Nat), x = .str o ∧ y = .str nw ∧ z = .int (p : Nat) ∧ Same F H ∧ o.length ≤ 400 ∧ nw.length ≤ 400 ∧ okS o ∧ okS nw ∧ p ≤ 1000 ∧
  ∀ v rows F2 H2, W [] F H F2 H2 [chg K v o.length rows] → Made p o nw rows → Q v H2
theorem ok_codes {z : Str} : okS z ↔ ∀ c ∈ cd z, c < 0x110000 := by
  show (z.cps.all (· < 0x110000)) = true ↔ _
  rw [← Array.all_toList, List.all_eq_true]
  exact ⟨fun h c hc => of_decide_eq_true (h c hc), fun h c hc => decide_eq_true (h c hc)⟩
theorem ok_cut {z : Str} (h : okS z) (i j : Nat) : okS (cutS z (some (i : Int)) (some (j : Int))) := by
  rw [ok_codes, cut_cd]
  intro c hc
  exact ok_codes.mp h c (List.mem_of_mem_drop (List.mem_of_mem_take hc))
theorem seg_drop {N : List Nat} {i j : Nat} (h : i ≤ j) : segL N i j ++ N.drop j = N.drop i := by
  unfold segL
  have e : N.drop j = (N.drop i).drop (j - i) := by
    rw [List.drop_drop]
    congr 1
    omega
  rw [e, List.take_append_drop]
theorem dpa_rev {K : PySem.W.Frag} {F : Hp} : ∀ {vs : List V} {ds : List PyData}, DpAll K F vs ds → DpAll K F vs.reverse ds.reverse
  | _, _, .nil => .nil
  | _, _, .cons h t => by
    rw [List.reverse_cons, List.reverse_cons]
    exact dpa_app (dpa_rev t) (.cons h .nil)
theorem mk_len {O : List Nat} {n : Nat} (hO : O.length = n) {r : CRow} (ro : CRowOk n r) : (CRow.mk O r).length = r.gives := by
  cases r with
  | put s => simp [CRow.mk, CRow.gives, Str.length]
  | copy a k =>
    have h2 : a + k ≤ n := ro.h
    show ((O.drop a).take k).length = k
    rw [List.length_take, List.length_drop]
    omega
theorem mks_len {O : List Nat} {n : Nat} (hO : O.length = n) : ∀ {rows : List CRow}, (∀ r ∈ rows, CRowOk n r) → (rows.flatMap (CRow.mk O)).length = givesL rows
  | [], _ => rfl
  | r :: rows, h => by
    rw [List.flatMap_cons, List.length_append, mk_len hO (h r (List.mem_cons_self ..)), mks_len hO fun q hq => h q (List.mem_cons_of_mem _ hq)]
    rfl
/-! ### cells -/
def CRow.cellV : CRow → List V
  | .put s => chars s
  | .copy a n => (List.range n).map fun k => V.int ((a + k : Nat) : Int)
abbrev cellsV (rows : List CRow) : List V := rows.flatMap CRow.cellV
theorem cellV_len (r : CRow) : r.cellV.length = r.gives := by
  cases r with
  | put s => exact chars_len s
  | copy a n => simp [CRow.cellV, CRow.gives]
theorem cells_len : ∀ rows : List CRow, (cellsV rows).length = givesL rows
  | [] => rfl
  | r :: rows => by
    show (r.cellV ++ cellsV rows).length = r.gives + givesL rows
    rw [List.length_append, cellV_len, cells_len rows]
/-- a cell of a change of this size: a place or a sign -/
def CellOk (n : Nat) (v : V) : Prop := (∃ i : Nat, v = .int (i : Nat) ∧ i < n) ∨ ∃ c : Nat, v = .str ⟨#[c]⟩ ∧ c < 0x110000
theorem chars_get' {z : Str} {v : V} (h : v ∈ chars z) : ∃ c ∈ cd z, v = .str ⟨#[c]⟩ := by
  unfold chars at h
  obtain ⟨c, hc, rfl⟩ := List.mem_map.mp h
  exact ⟨c, hc, rfl⟩
theorem cells_ok {n : Nat} {rows : List CRow} (h : ∀ r ∈ rows, CRowOk n r) : ∀ v ∈ cellsV rows, CellOk n v := by
  intro v hv
  obtain ⟨r, hr, hv⟩ := List.mem_flatMap.mp hv
  have ro := h r hr
  cases r with
  | put s =>
    obtain ⟨c, hc, rfl⟩ := chars_get' hv
    exact .inr ⟨c, rfl, ok_codes.mp ro.s.1 c hc⟩
  | copy a k =>
    obtain ⟨j, hj, rfl⟩ := List.mem_map.mp hv
    have := List.mem_range.mp hj
    have hh : a + k ≤ n := ro.h
    exact .inl ⟨a + j, rfl, by omega⟩
/-- the sign that a cell gives of an old text -/
def outS (o : Str) : V → Str
  | .int i => ⟨#[(cd o).getD i.toNat 0]⟩
  | .str z => z
  | _ => ⟨#[]⟩
theorem outs_chars (o : Str) (l : List Nat) : ((l.map fun c => V.str ⟨#[c]⟩).map (outS o)).flatMap cd = l := by
  induction l with
  | nil => rfl
  | cons c l ih =>
    rw [List.map_cons, List.map_cons, List.flatMap_cons, ih]
    rfl
theorem outs_range (o : Str) (a : Nat) : ∀ n, a + n ≤ (cd o).length → (((List.range n).map fun k => V.int ((a + k : Nat) : Int)).map (outS o)).flatMap cd = ((cd o).drop a).take n
  | 0, _ => by simp
  | n + 1, h => by
    rw [List.range_succ, List.map_append, List.map_append, List.flatMap_append, outs_range o a n (by omega)]
    have e : ((cd o).drop a)[n]? = some ((cd o).getD (a + n) 0) := by
      rw [List.getElem?_drop, List.getD_eq_getElem?_getD, List.getElem?_eq_getElem (by omega)]
      rfl
    rw [List.take_add_one, e]
    rfl
theorem outs_rows (o : Str) {rows : List CRow} (h : ∀ r ∈ rows, CRowOk o.length r) : ((cellsV rows).map (outS o)).flatMap cd = rows.flatMap (CRow.mk (cd o)) := by
  induction rows with
  | nil => rfl
  | cons r rows ih =>
    show ((r.cellV ++ cellsV rows).map (outS o)).flatMap cd = CRow.mk (cd o) r ++ _
    rw [List.map_append, List.flatMap_append, ih fun q hq => h q (List.mem_cons_of_mem _ hq)]
    congr 1
    cases r with
    | put s => exact outs_chars o _
    | copy a n =>
      have hh : a + n ≤ o.length := (h _ (List.mem_cons_self ..)).h
      exact outs_range o a n (by rw [cd_len]; exact hh)
theorem join_cd (ys : List Str) : cd (Txt.join ⟨#[]⟩ ys) = ys.flatMap cd := by
  have e : TL.tl (Txt.join ⟨#[]⟩ ys) = (ys.map TL.tl).flatten := by
    rw [TL.join_eq, TL.tl_join]
    have key : ∀ l : List (List Nat), TL.joinL [] l = l.flatten := by
      intro l
      induction l with
      | nil => rfl
      | cons a l ih =>
        cases l with
        | nil => simp [TL.joinL]
        | cons b l =>
          rw [TL.joinL, ih]
          simp
    exact key _
  exact e.trans (by rw [List.flatMap_def])
theorem outS_ok {o : Str} {n : Nat} {v : V} (hn : o.length = n) (ok : okS o) (h : CellOk n v) : (outS o v).length = 1 ∧ okS (outS o v) := by
  rcases h with ⟨i, rfl, hi⟩ | ⟨c, rfl, hc⟩
  · refine ⟨rfl, ?_⟩
    show okS ⟨#[(cd o).getD i 0]⟩
    exact ok_sign ok (by omega)
  · exact ⟨rfl, ok_codes.mpr fun d hd => by
      have hd' : d ∈ [c] := hd
      rw [List.mem_singleton.mp hd']
      exact hc⟩
/-! ### promises -/
def φcells (K : PySem.W.Frag) : V → Hp → VK → Prop := fun x H Q => ∃ (F : Hp) (n : Nat) (rows : List CRow), Same F H ∧ Chg K F x n rows ∧ RowsOk n rows ∧ n ≤ 1000 ∧ ∀ p F2 H2, H p = none → W [] F H F2 H2 [mu p (.lst (cellsV rows))] → Q (.ref p) H2
def φlcells (K : PySem.W.Frag) : V → Hp → VK → Prop := fun x H Q => ∃ (F : Hp) (a : Addr) (vs : List V) (n : Nat) (rows : List CRow), x = .ref a ∧ Same F H ∧ SqL K F a vs ∧ DpAll K F vs (rows.map CRow.d) ∧ RowsOk n rows ∧ ∀ p F2 H2, H p = none → W [] F H F2 H2 [mu p (.lst (cellsV rows))] → Q (.ref p) H2
def φdoneC (K : PySem.W.Frag) : V → V → Hp → VK → Prop := fun x y H Q => ∃ (F : Hp) (o : Str) (rows : List CRow), y = .str o ∧ Same F H ∧ Chg K F x o.length rows ∧ RowsOk o.length rows ∧ okS o ∧ o.length ≤ 1000 ∧ ∀ s F2 H2, W [] F H F2 H2 [] → cd s = rows.flatMap (CRow.mk (cd o)) → okS s → Q (.str s) H2
def φldone (K : PySem.W.Frag) : V → V → Hp → VK → Prop := fun x y H Q => ∃ (F : Hp) (a : Addr) (cs : List V) (o : Str), x = .ref a ∧ y = .str o ∧ Same F H ∧ SqL K F a cs ∧ (∀ v ∈ cs, CellOk o.length v) ∧ cs.length ≤ 1000 ∧ okS o ∧ o.length ≤ 1000 ∧ ∀ s F2 H2, W [] F H F2 H2 [] → cd s = (cs.map (outS o)).flatMap cd → okS s → Q (.str s) H2
theorem cut_cd_to (z : Str) (j : Nat) : cd (cutS z none (some (j : Int))) = (cd z).take j := by
  have hl : z.cps.toList.length = z.length := cd_len z
  unfold cutS
  rw [HT.sIx_none, HT.sIx_nat]
  show ((z.cps.toList.drop 0).take _).toArray.toList = z.cps.toList.take j
  rw [List.toList_toArray, List.drop_zero, Nat.sub_zero]
  by_cases h : j ≤ z.length
  · rw [Nat.min_eq_left h]
  · rw [Nat.min_eq_right (by omega), List.take_of_length_le (by omega), List.take_of_length_le (by omega)]
theorem cut_cd_from (z : Str) (i : Nat) : cd (cutS z (some (i : Int)) none) = (cd z).drop i := by
  have hl : z.cps.toList.length = z.length := cd_len z
  unfold cutS
  rw [HT.sIx_none, HT.sIx_nat]
  show ((z.cps.toList.drop _).take _).toArray.toList = z.cps.toList.drop i
  rw [List.toList_toArray]
  by_cases h : i ≤ z.length
  · rw [Nat.min_eq_left h]
    exact List.take_of_length_le (by rw [List.length_drop]; omega)
  · rw [Nat.min_eq_right (by omega), Nat.sub_self, List.take_zero, List.drop_eq_nil_of_le (by omega)]
theorem len_app (a b : Str) : (a ++ b).length = a.length + b.length := by
  rw [← cd_len, ← cd_len, ← cd_len, ← List.length_append]
  congr 1
  exact TL.tl_append a b
/-! ### plain finds -/
end R
namespace R
open PySem PySem.StrLaws Builtin.Str L2
/-! ### cells of a change, and the fewest rows that give them -/
inductive Cel where
  | pl (i : Nat)
  | sg (c : Nat)
  deriving DecidableEq
def Cel.v : Cel → V
  | .pl i => .int (i : Nat)
  | .sg c => .str ⟨#[c]⟩
def Cel.ok (n : Nat) : Cel → Prop
  | .pl i => i < n
  | .sg c => c < 0x110000
def Cel.out (O : List Nat) : Cel → Nat
  | .pl i => O.getD i 0
  | .sg c => c
def Cel.w : Cel → Nat
  | .pl _ => 0
  | .sg _ => 1
def CRow.cels : CRow → List Cel
  | .put s => (cd s).map Cel.sg
  | .copy a n => (List.range n).map fun k => .pl (a + k)
abbrev celsL (rows : List CRow) : List Cel := rows.flatMap CRow.cels
theorem cels_v : ∀ rows : List CRow, cellsV rows = (celsL rows).map Cel.v
  | [] => rfl
  | r :: rows => by
    show r.cellV ++ cellsV rows = (r.cels ++ celsL rows).map Cel.v
    rw [List.map_append, ← cels_v rows]
    congr 1
    cases r with
    | put s =>
      show chars s = ((cd s).map Cel.sg).map Cel.v
      rw [List.map_map]
      rfl
    | copy a n =>
      show (List.range n).map _ = ((List.range n).map _).map Cel.v
      rw [List.map_map]
      rfl
theorem celsL_app (a b : List CRow) : celsL (a ++ b) = celsL a ++ celsL b := List.flatMap_append
theorem celsL_one (r : CRow) : celsL [r] = r.cels := List.append_nil _
theorem cels_len (rows : List CRow) : (celsL rows).length = givesL rows := by
  have h := cells_len rows
  rw [cels_v, List.length_map] at h
  exact h
theorem cel_cellok {n : Nat} {c : Cel} (h : c.ok n) : CellOk n c.v := by
  cases c with
  | pl i => exact .inl ⟨i, rfl, h⟩
  | sg c => exact .inr ⟨c, rfl, h⟩
theorem cels_ok {n : Nat} {rows : List CRow} (h : ∀ r ∈ rows, CRowOk n r) : ∀ c ∈ celsL rows, c.ok n := by
  intro c hc
  obtain ⟨r, hr, hc⟩ := List.mem_flatMap.mp hc
  have ro := h r hr
  cases r with
  | put s =>
    obtain ⟨d, hd, rfl⟩ := List.mem_map.mp hc
    exact ok_codes.mp ro.s.1 d hd
  | copy a k =>
    obtain ⟨j, hj, rfl⟩ := List.mem_map.mp hc
    have := List.mem_range.mp hj
    have hh : a + k ≤ n := ro.h
    show a + j < n
    omega
theorem out_cel (o : Str) (c : Cel) : outS o c.v = ⟨#[c.out (cd o)]⟩ := by
  cases c with
  | pl i => rfl
  | sg c => rfl
theorem outs_cels (o : Str) : ∀ cs : List Cel, ((cs.map Cel.v).map (outS o)).flatMap cd = cs.map (Cel.out (cd o))
  | [] => rfl
  | c :: cs => by
    rw [List.map_cons, List.map_cons, List.flatMap_cons, outs_cels o cs, out_cel]
    rfl
theorem mk_cels {o : Str} {rows : List CRow} (h : ∀ r ∈ rows, CRowOk o.length r) : rows.flatMap (CRow.mk (cd o)) = (celsL rows).map (Cel.out (cd o)) := by
  rw [← outs_rows o h, cels_v, outs_cels]
theorem cd_app (a b : Str) : cd (a ++ b) = cd a ++ cd b := TL.tl_append a b
def CRow.add : CRow → Cel → Option CRow
  | .copy a n, .pl i => if a + n = i then some (.copy a (n + 1)) else none
  | .put s, .sg c => some (.put (s ++ ⟨#[c]⟩))
  | _, _ => none
def CRow.one : Cel → CRow
  | .pl i => .copy i 1
  | .sg c => .put ⟨#[c]⟩
/-- one cell more, the last row ahead -/
def addC (rs : List CRow) (c : Cel) : List CRow :=
  match rs with
  | [] => [CRow.one c]
  | r :: t => match r.add c with
    | some q => q :: t
    | none => CRow.one c :: r :: t
def plainR (cs : List Cel) : List CRow := cs.foldl addC []
def plainL (cs : List Cel) : List CRow := (plainR cs).reverse
theorem plainR_snoc (cs : List Cel) (c : Cel) : plainR (cs ++ [c]) = addC (plainR cs) c := by
  unfold plainR
  rw [List.foldl_append]
  rfl
theorem plainR_take {cs : List Cel} {i : Nat} {c : Cel} (h : cs[i]? = some c) : plainR (cs.take (i + 1)) = addC (plainR (cs.take i)) c := by
  rw [List.take_add_one, h]
  exact plainR_snoc _ _
theorem one_cels (c : Cel) : (CRow.one c).cels = [c] := by
  cases c <;> rfl
theorem add_cels {r q : CRow} {c : Cel} (h : r.add c = some q) : q.cels = r.cels ++ [c] := by
  cases r with
  | put s =>
    cases c with
    | pl i => cases h
    | sg c =>
      have e := Option.some.inj h
      subst e
      show (cd (s ++ ⟨#[c]⟩)).map Cel.sg = _
      rw [cd_app, List.map_append]
      rfl
  | copy a n =>
    cases c with
    | sg c => cases h
    | pl i =>
      unfold CRow.add at h
      by_cases e : a + n = i
      · simp only [if_pos e] at h
        have e2 := Option.some.inj h
        subst e2
        subst e
        show (List.range (n + 1)).map _ = _
        rw [List.range_succ, List.map_append]
        rfl
      · simp only [if_neg e] at h
        cases h
theorem add_gives {r q : CRow} {c : Cel} (h : r.add c = some q) : 1 ≤ q.gives := by
  have e := congrArg List.length (add_cels h)
  have e2 := cels_len [q]
  rw [celsL_one] at e2
  have e3 : givesL [q] = q.gives + 0 := rfl
  rw [List.length_append] at e
  have e4 : [c].length = 1 := rfl
  omega
theorem addC_cels (rs : List CRow) (c : Cel) : celsL (addC rs c).reverse = celsL rs.reverse ++ [c] := by
  cases rs with
  | nil =>
    show (CRow.one c).cels ++ [] = [] ++ [c]
    rw [one_cels]
    rfl
  | cons r t =>
    show celsL (match r.add c with | some q => q :: t | none => CRow.one c :: r :: t).reverse = _
    cases h : r.add c with
    | some q =>
      show celsL (q :: t).reverse = _
      rw [List.reverse_cons, List.reverse_cons, celsL_app, celsL_app, List.append_assoc, celsL_one, celsL_one, add_cels h]
    | none =>
      show celsL (CRow.one c :: r :: t).reverse = _
      rw [List.reverse_cons, celsL_app, celsL_one, one_cels]
theorem addC_gives {rs : List CRow} (c : Cel) (h : ∀ r ∈ rs, 1 ≤ r.gives) : ∀ r ∈ addC rs c, 1 ≤ r.gives := by
  have h1 : 1 ≤ (CRow.one c).gives := by
    cases c <;> exact Nat.le_refl _
  cases rs with
  | nil =>
    intro r hr
    rw [List.mem_singleton.mp (show r ∈ [CRow.one c] from hr)]
    exact h1
  | cons r t =>
    intro x hx
    have hx : x ∈ (match r.add c with | some q => q :: t | none => CRow.one c :: r :: t) := hx
    cases e : r.add c with
    | some q =>
      rw [e] at hx
      rcases List.mem_cons.mp hx with rfl | hx
      · exact add_gives e
      · exact h x (List.mem_cons_of_mem _ hx)
    | none =>
      rw [e] at hx
      rcases List.mem_cons.mp hx with rfl | hx
      · exact h1
      · exact h x hx
theorem foldC : ∀ (cs : List Cel) (rs : List CRow), (∀ r ∈ rs, 1 ≤ r.gives) → celsL (cs.foldl addC rs).reverse = celsL rs.reverse ++ cs ∧ ∀ r ∈ cs.foldl addC rs, 1 ≤ r.gives
  | [], rs, h => ⟨(List.append_nil _).symm, h⟩
  | c :: cs, rs, h => by
    obtain ⟨h1, h2⟩ := foldC cs (addC rs c) (addC_gives c h)
    refine ⟨?_, h2⟩
    show celsL (cs.foldl addC (addC rs c)).reverse = _
    rw [h1, addC_cels, List.append_assoc]
    rfl
/-- the same cells -/
theorem plain_cels (cs : List Cel) : celsL (plainL cs) = cs := (foldC cs [] (fun _ h => nomatch h)).1
theorem plain_gives (cs : List Cel) : ∀ r ∈ plainL cs, 1 ≤ r.gives := fun r hr => (foldC cs [] (fun _ h => nomatch h)).2 r (List.mem_reverse.mp hr)
theorem row_le {rows : List CRow} {r : CRow} (h : r ∈ rows) : r.gives ≤ givesL rows := by
  induction rows with
  | nil => cases h
  | cons q rows ih =>
    show r.gives ≤ q.gives + givesL rows
    rcases List.mem_cons.mp h with rfl | h
    · omega
    · have := ih h
      omega
theorem rowsOk_of {n : Nat} {rows : List CRow} (h1 : ∀ r ∈ rows, 1 ≤ r.gives) (h2 : ∀ c ∈ celsL rows, c.ok n) (h3 : (celsL rows).length ≤ 400) : RowsOk n rows := by
  rw [cels_len] at h3
  refine ⟨fun r hr => ?_, h3⟩
  have g1 := h1 r hr
  have g2 := row_le hr
  have hc : ∀ c ∈ r.cels, c.ok n := fun c hc => h2 c (List.mem_flatMap.mpr ⟨r, hr, hc⟩)
  cases r with
  | put s =>
    refine ⟨⟨ok_codes.mpr fun c hd => hc (.sg c) (List.mem_map.mpr ⟨c, hd, rfl⟩), ?_⟩, g1, Nat.zero_le _⟩
    have : (CRow.put s).gives = s.length := rfl
    omega
  | copy a k =>
    refine ⟨trivial, g1, ?_⟩
    have g3 : 1 ≤ k := g1
    have := hc (.pl (a + (k - 1))) (List.mem_map.mpr ⟨k - 1, List.mem_range.mpr (by omega), rfl⟩)
    have h4 : a + (k - 1) < n := this
    show a + k ≤ n
    omega
theorem plain_ok {n : Nat} {cs : List Cel} (h : ∀ c ∈ cs, c.ok n) (hl : cs.length ≤ 400) : RowsOk n (plainL cs) := rowsOk_of (plain_gives cs) (by rw [plain_cels]; exact h) (by rw [plain_cels]; exact hl)
theorem plain_mk {o : Str} {cs : List Cel} (h : ∀ c ∈ cs, c.ok o.length) (hl : cs.length ≤ 400) : (plainL cs).flatMap (CRow.mk (cd o)) = cs.map (Cel.out (cd o)) := by
  rw [mk_cels (plain_ok h hl).ok, plain_cels]
/-! ### back, and one behind the other -/
def firstTo (cs : List Cel) : Nat → Nat → Option Nat
  | 0, _ => none
  | k + 1, i => match firstTo cs k i with
    | some j => some j
    | none => if cs[k]? = some (.pl i) then some k else none
theorem first_at {cs : List Cel} : ∀ {k i j : Nat}, firstTo cs k i = some j → j < k ∧ cs[j]? = some (.pl i)
  | 0, _, _, h => nomatch h
  | k + 1, i, j, h => by
    unfold firstTo at h
    cases e : firstTo cs k i with
    | some m =>
      rw [e] at h
      cases h
      obtain ⟨h1, h2⟩ := first_at e
      exact ⟨by omega, h2⟩
    | none =>
      rw [e] at h
      have h : (if cs[k]? = some (.pl i) then some k else none) = some j := h
      by_cases e2 : cs[k]? = some (.pl i)
      · rw [if_pos e2] at h
        cases h
        exact ⟨by omega, e2⟩
      · rw [if_neg e2] at h
        cases h
theorem first_sg {cs : List Cel} {k c m : Nat} (h : cs[k]? = some (.sg c)) : firstTo cs (k + 1) m = firstTo cs k m := by
  show (match firstTo cs k m with | some j => some j | none => if cs[k]? = some (Cel.pl m) then some k else none) = _
  cases e : firstTo cs k m with
  | some j => rfl
  | none =>
    show (if cs[k]? = some (Cel.pl m) then some k else none) = none
    rw [h, if_neg (fun z => by cases z)]
theorem first_old {cs : List Cel} {k j m : Nat} (h : cs[k]? = some (.pl j)) (hs : firstTo cs k j ≠ none) : firstTo cs (k + 1) m = firstTo cs k m := by
  show (match firstTo cs k m with | some j => some j | none => if cs[k]? = some (Cel.pl m) then some k else none) = _
  cases e : firstTo cs k m with
  | some j => rfl
  | none =>
    show (if cs[k]? = some (Cel.pl m) then some k else none) = none
    rw [h, if_neg]
    intro z
    cases z
    exact hs e
theorem first_new {cs : List Cel} {k j m : Nat} (h : cs[k]? = some (.pl j)) (hn : firstTo cs k j = none) : firstTo cs (k + 1) m = if m = j then some k else firstTo cs k m := by
  show (match firstTo cs k m with | some j => some j | none => if cs[k]? = some (Cel.pl m) then some k else none) = _
  by_cases e : m = j
  · subst e
    rw [hn, if_pos rfl]
    show (if cs[k]? = some (Cel.pl m) then some k else none) = some k
    rw [if_pos h]
  · rw [if_neg e]
    cases e2 : firstTo cs k m with
    | some q => rfl
    | none =>
      show (if cs[k]? = some (Cel.pl m) then some k else none) = none
      rw [h, if_neg]
      intro z
      cases z
      exact e rfl
def backC (cs : List Cel) (O : List Nat) (i : Nat) : Cel := match firstTo cs cs.length i with
  | some j => .pl j
  | none => .sg (O.getD i 0)
def backs (cs : List Cel) (O : List Nat) : List Cel := (List.range O.length).map (backC cs O)
theorem back_v (cs : List Cel) (O : List Nat) (i : Nat) : ((firstTo cs cs.length i).map fun m => V.int (m : Nat)).getD (.str ⟨#[O.getD i 0]⟩) = (backC cs O i).v := by
  unfold backC
  cases firstTo cs cs.length i <;> rfl
theorem back_ok {cs : List Cel} {o : Str} (ok : okS o) : ∀ c ∈ backs cs (cd o), c.ok cs.length := by
  intro c hc
  obtain ⟨i, hi, rfl⟩ := List.mem_map.mp hc
  have hi := List.mem_range.mp hi
  unfold backC
  cases e : firstTo cs cs.length i with
  | some j => exact (first_at e).1
  | none =>
    show (cd o).getD i 0 < _
    rw [List.getD_eq_getElem?_getD, List.getElem?_eq_getElem hi]
    exact ok_codes.mp ok _ (List.getElem_mem _)
theorem backs_len (cs : List Cel) (O : List Nat) : (backs cs O).length = O.length := by
  unfold backs
  rw [List.length_map, List.length_range]
theorem back_out (cs : List Cel) (O : List Nat) : (backs cs O).map (Cel.out (cs.map (Cel.out O))) = O := by
  refine List.ext_getElem? fun i => ?_
  unfold backs
  rw [List.map_map, List.getElem?_map]
  by_cases hi : i < O.length
  · rw [List.getElem?_range hi, List.getElem?_eq_getElem hi]
    show some ((backC cs O i).out _) = some O[i]
    congr 1
    have e0 : O.getD i 0 = O[i] := by
      rw [List.getD_eq_getElem?_getD, List.getElem?_eq_getElem hi]
      rfl
    unfold backC
    cases e : firstTo cs cs.length i with
    | some j =>
      obtain ⟨h1, h2⟩ := first_at e
      show (cs.map (Cel.out O)).getD j 0 = _
      rw [List.getD_eq_getElem?_getD, List.getElem?_map, h2]
      exact e0
    | none => exact e0
  · rw [List.getElem?_eq_none (by rw [List.length_range]; omega), List.getElem?_eq_none (by omega)]
    rfl
theorem back_rows {o l : Str} {rows : List CRow} (ok : RowsOk o.length rows) (oko : okS o) (ho : o.length ≤ 400) (hl : rows.flatMap (CRow.mk (cd o)) = cd l) : RowsOk l.length (plainL (backs (celsL rows) (cd o))) ∧ (plainL (backs (celsL rows) (cd o))).flatMap (CRow.mk (cd l)) = cd o := by
  have e1 : (celsL rows).map (Cel.out (cd o)) = cd l := by rw [← mk_cels ok.ok, hl]
  have e2 : (celsL rows).length = l.length := by rw [← cd_len l, ← e1, List.length_map]
  have h1 : ∀ c ∈ backs (celsL rows) (cd o), c.ok l.length := by rw [← e2]; exact back_ok oko
  have h2 : (backs (celsL rows) (cd o)).length ≤ 400 := by rw [backs_len, cd_len]; exact ho
  refine ⟨plain_ok h1 h2, ?_⟩
  rw [plain_mk h1 h2, ← e1, back_out]
def midC (cs : List Cel) : Cel → Cel
  | .pl k => cs.getD k (.sg 0)
  | .sg c => .sg c
theorem mid_ok {cs ds : List Cel} {n : Nat} (h : ∀ c ∈ cs, c.ok n) (h2 : ∀ d ∈ ds, d.ok cs.length) : ∀ c ∈ ds.map (midC cs), c.ok n := by
  intro c hc
  obtain ⟨d, hd, rfl⟩ := List.mem_map.mp hc
  have := h2 d hd
  cases d with
  | pl k =>
    have hk : k < cs.length := this
    show (cs.getD k (.sg 0)).ok n
    rw [List.getD_eq_getElem?_getD, List.getElem?_eq_getElem hk]
    exact h _ (List.getElem_mem _)
  | sg c => exact this
theorem mid_out {cs ds : List Cel} {O : List Nat} (h2 : ∀ d ∈ ds, d.ok cs.length) : (ds.map (midC cs)).map (Cel.out O) = ds.map (Cel.out (cs.map (Cel.out O))) := by
  rw [List.map_map]
  refine List.map_congr_left fun d hd => ?_
  have := h2 d hd
  cases d with
  | pl k =>
    have hk : k < cs.length := this
    show (cs.getD k (.sg 0)).out O = (cs.map (Cel.out O)).getD k 0
    rw [List.getD_eq_getElem?_getD, List.getD_eq_getElem?_getD, List.getElem?_map, List.getElem?_eq_getElem hk]
    rfl
  | sg c => rfl
theorem addC_some {r q : CRow} {t : List CRow} {c : Cel} (h : r.add c = some q) : addC (r :: t) c = q :: t := by
  show (match r.add c with | some q => q :: t | none => CRow.one c :: r :: t) = _
  rw [h]
theorem addC_none {r : CRow} {t : List CRow} {c : Cel} (h : r.add c = none) : addC (r :: t) c = CRow.one c :: r :: t := by
  show (match r.add c with | some q => q :: t | none => CRow.one c :: r :: t) = _
  rw [h]
theorem dpa_init {K : PySem.W.Frag} {F : Hp} {v : V} {d : PyData} : ∀ {us : List V} {ds : List PyData}, DpAll K F (us ++ [v]) (ds ++ [d]) → DpAll K F us ds
  | [], [], _ => .nil
  | [], d2 :: ds, h => by
    have := dpa_len h
    simp at this
  | u :: us, [], h => by
    have := dpa_len h
    simp at this
  | u :: us, d2 :: ds, h => by
    cases h with
    | cons h1 h2 => exact .cons h1 (dpa_init h2)
theorem mid_rows {o l t : Str} {rows1 rows2 : List CRow} (ok1 : RowsOk o.length rows1) (ok2 : RowsOk l.length rows2) (h1 : rows1.flatMap (CRow.mk (cd o)) = cd l) (h2 : rows2.flatMap (CRow.mk (cd l)) = cd t) : RowsOk o.length (plainL ((celsL rows2).map (midC (celsL rows1)))) ∧ (plainL ((celsL rows2).map (midC (celsL rows1)))).flatMap (CRow.mk (cd o)) = cd t := by
  have e1 : (celsL rows1).map (Cel.out (cd o)) = cd l := by rw [← mk_cels ok1.ok, h1]
  have e2 : (celsL rows1).length = l.length := by rw [← cd_len l, ← e1, List.length_map]
  have g2 : ∀ c ∈ celsL rows2, c.ok (celsL rows1).length := by rw [e2]; exact cels_ok ok2.ok
  have g3 := mid_ok (cels_ok ok1.ok) g2
  have g4 : ((celsL rows2).map (midC (celsL rows1))).length ≤ 400 := by rw [List.length_map, cels_len]; exact ok2.sum
  refine ⟨plain_ok g3 g4, ?_⟩
  rw [plain_mk g3 g4, mid_out g2, e1, ← mk_cels ok2.ok, h2]
theorem ix_last (us : List V) (x : V) : ixN (us ++ [x]).length (-1) = some us.length := by
  rw [List.length_append]
  show ixN (us.length + 1) (-1) = _
  unfold ixN
  simp
  try omega
theorem set_last (us : List V) (x y : V) : (us ++ [x]).set us.length y = us ++ [y] := by
  rw [List.set_append_right _ _ (Nat.le_refl _), Nat.sub_self]
  rfl
theorem cut_from_V (xs : List V) (k : Nat) : cutV xs (some (k : Int)) none = xs.drop k := by
  unfold cutV
  rw [HT.sIx_none, HT.sIx_nat]
  by_cases h : k ≤ xs.length
  · rw [Nat.min_eq_left h]
    exact List.take_of_length_le (by rw [List.length_drop]; exact Nat.le_refl _)
  · rw [Nat.min_eq_right (by omega), Nat.sub_self, List.take_zero, List.drop_eq_nil_of_le (by omega)]
theorem dpa_dropN {K : PySem.W.Frag} {F : Hp} : ∀ {vs : List V} {ds : List PyData} (n : Nat), DpAll K F vs ds → DpAll K F (vs.drop n) (ds.drop n)
  | _, _, 0, h => h
  | _, _, n + 1, .nil => by rw [List.drop_nil, List.drop_nil]; exact .nil
  | _, _, n + 1, .cons h t => dpa_dropN n t
def Cel.d : Cel → PyData
  | .pl i => .int (i : Nat)
  | .sg c => .str ⟨#[c]⟩
theorem dpa_cels {K : PySem.W.Frag} {F : Hp} : ∀ cs : List Cel, DpAll K F (cs.map Cel.v) (cs.map Cel.d)
  | [] => .nil
  | .pl i :: cs => .cons (.int _) (dpa_cels cs)
  | .sg c :: cs => .cons (.str _) (dpa_cels cs)
theorem cels_good {cs : List Cel} {n : Nat} (h : ∀ c ∈ cs, c.ok n) (hl : cs.length ≤ 100000) : good (.list (cs.map Cel.d)) = true ∧ (PyData.list (cs.map Cel.d)).depth ≤ 1 := by
  constructor
  · refine good_list (by rw [List.length_map]; exact hl) fun d hd => ?_
    obtain ⟨c, hc, rfl⟩ := List.mem_map.mp hd
    cases c with
    | pl i => rfl
    | sg c =>
      refine str_good (ok_codes.mpr fun e he => ?_) (by show 1 ≤ _; decide)
      have he' : e ∈ [c] := he
      rw [List.mem_singleton.mp he']
      exact h _ hc
  · refine depth_list fun d hd => ?_
    obtain ⟨c, hc, rfl⟩ := List.mem_map.mp hd
    cases c <;> exact Nat.le_refl _
/-! ### promises -/
def CRow.vals : CRow → List V
  | .put s => [.str "put", .str s]
  | .copy a n => [.str "copy", .int (a : Nat), .int (n : Nat)]
/-- the last row in hand: the one at the end, or a sham one -/
def LastIs (rs : List CRow) (us : List V) (la : Addr) (lv : List V) : Prop := (rs = [] ∧ us = [] ∧ lv = [.str "", .int 0, .int 0]) ∨ ∃ r t us', rs = r :: t ∧ us = us' ++ [.ref la] ∧ lv = r.vals
def φrows_of (K : PySem.W.Frag) : V → Hp → VK → Prop := fun x H Q => ∃ (F : Hp) (a : Addr) (cs : List Cel) (n : Nat), x = .ref a ∧ Same F H ∧ SqL K F a (cs.map Cel.v) ∧ (∀ c ∈ cs, c.ok n) ∧ n ≤ 1000 ∧ cs.length ≤ 400 ∧ ∀ p ys F2 H2, H p = none → W [] F H F2 H2 [mu p (.lst ys), dpa K ys ((plainL cs).map CRow.d)] → Q (.ref p) H2
def φplainest (K : PySem.W.Frag) : V → Hp → VK → Prop := fun x H Q => ∃ (F : Hp) (n : Nat) (rows : List CRow), Same F H ∧ Chg K F x n rows ∧ RowsOk n rows ∧ n ≤ 400 ∧ ∀ v F2 H2, W [] F H F2 H2 [chg K v n (plainL (celsL rows))] → Q v H2
def φundone (K : PySem.W.Frag) : V → V → Hp → VK → Prop := fun x y H Q => ∃ (F : Hp) (o : Str) (rows : List CRow), y = .str o ∧ Same F H ∧ Chg K F x o.length rows ∧ RowsOk o.length rows ∧ okS o ∧ o.length ≤ 400 ∧ ∀ v F2 H2, W [] F H F2 H2 [chg K v (givesL rows) (plainL (backs (celsL rows) (cd o)))] → Q v H2
def φbehind (K : PySem.W.Frag) : V → V → Hp → VK → Prop := fun x y H Q => ∃ (F : Hp) (n : Nat) (rows1 rows2 : List CRow), Same F H ∧ Chg K F x n rows1 ∧ Chg K F y (givesL rows1) rows2 ∧ RowsOk n rows1 ∧ RowsOk (givesL rows1) rows2 ∧ n ≤ 400 ∧ ∀ v F2 H2, W [] F H F2 H2 [chg K v n (plainL ((celsL rows2).map (midC (celsL rows1))))] → Q v H2
/-! d.setdefault(k, x), d.get(k, x) with keys that are numbers -/
section
variable {td ty tx : TE} {σ : L2.St} {H : Hp} {Q : VK}
theorem w_dsetK (q : td σ H fun x H1 => ∃ a, x = .ref a ∧ IsD H1 a ∧ ty σ H1 fun y H2 => tx σ H2 fun z H3 => ∃ (kvs : List (Key × V)) (k : Key), H3 a = some (.dK kvs) ∧ y = kV k ∧ kvs.length < sizeLine ∧
  (∀ v, valV kvs k = some v → Q v H3) ∧ (valV kvs k = none → Q z (upd H3 a (.dK (putK kvs k z))))) : tDSetd td ty tx σ H Q := q
theorem w_dget2 (q : td σ H fun x H1 => ∃ a, x = .ref a ∧ IsD H1 a ∧ ty σ H1 fun y H2 => tx σ H2 fun z H3 => ∃ o, DGet H3 a y o ∧ Q (o.getD z) H3) : tDGet2 td ty tx σ H Q := q
end
def φceq (K : PySem.W.Frag) : V → V → Hp → VK → Prop := fun x y H Q => ∃ (F : Hp) (n : Nat) (rows : List CRow), Same F H ∧ Chg K F x n rows ∧ Chg K F y n rows ∧ RowsOk n rows ∧ ∀ F2 H2, W [] F H F2 H2 [] → Q (.bl true) H2
end R
namespace R
open PySem PySem.StrLaws Builtin.Str L2
/-! ### a sign so many times -/
/-! ### == of cells -/
/-! ### promises -/
end R
namespace R
open PySem PySem.Spec PyProof.Rows L2
/-! ### defs that raise an own exception, caught by except of its class -/
def SX1 (φ : V → Hp → VK → XK → Prop) : Sp := fun vs H Q E => match vs with | [x] => φ x H Q E | _ => False
def SX2 (φ : V → V → Hp → VK → XK → Prop) : Sp := fun vs H Q E => match vs with | [x, y] => φ x y H Q E | _ => False
def SX3 (φ : V → V → V → Hp → VK → XK → Prop) : Sp := fun vs H Q E => match vs with | [x, y, z] => φ x y z H Q E | _ => False
theorem SX1.len {φ : V → Hp → VK → XK → Prop} {vs : List V} {H : Hp} {Q : VK} {E : XK} (h : SX1 φ vs H Q E) : vs.length = 1 := by
  match vs, h with
  | [_], _ => rfl
theorem SX2.len {φ : V → V → Hp → VK → XK → Prop} {vs : List V} {H : Hp} {Q : VK} {E : XK} (h : SX2 φ vs H Q E) : vs.length = 2 := by
  match vs, h with
  | [_, _], _ => rfl
theorem SX3.len {φ : V → V → V → Hp → VK → XK → Prop} {vs : List V} {H : Hp} {Q : VK} {E : XK} (h : SX3 φ vs H Q E) : vs.length = 3 := by
  match vs, h with
  | [_, _, _], _ => rfl
theorem PS.nox {X : Cx} {st : Stmt} {t : TS} (h : PS X.nox st t) : PS X st t := ⟨fun pins s σ H D I hw =>
  wpAny_mono (h.run pins s σ H D (I.wish _) hw) (fun _ _ q => q.unwish) fun _ _ z => False.elim z⟩
section
variable {X : Cx} {CX : CXT} {k j : Nat} {f C : Addr} {fd : FuncData} {ps : List Str} {sp : Sp} {E : L2.St → XK} {x m : Str} {p pos apos : Pos} {e o : Expr} {es : List Expr} {ta : TE} {t : TA} {W : WX} {pl : Sem Bool}
def tMethS (C : Addr) (m : Str) (sp : Sp) (E : L2.St → XK) (ta : TE) (t : TA) : TE := fun σ H Q => ta σ H fun x H1 => ∃ a dx fs, x = .ref a ∧ H1 a = some (.ins C dx fs) ∧ fs.lookup m = none ∧ t σ H1 fun vs H2 => sp (x :: vs) H2 Q (E σ)
/-- raise C('..') -/
def tRaiseO (K : PySem.W.Frag) (C : Str) (W : WX) : TS := fun _ σ H => W (.ref (He.ga K C)) none σ H
/-- try: .. except C: .. -/
def wTry (K : PySem.W.Frag) (C : Addr) (ts : TS) (D : Ends) : WX := wOnly K (.ref C) (fun _ _ _ => ts) (fun _ _ _ _ => False) D
def tTry (K : PySem.W.Frag) (C : Addr) (tb : WX → TS) (ts : TS) : TS := fun D σ H => tb (wTry K C ts D) D σ H
end
section
variable {K : PySem.W.Frag} {mg : Str → Option Value} {σ : L2.St} {H : Hp} {Q : VK} {E : XK} {C : Str} {D : Ends} {W : WX} {tb : WX → TS} {ts : TS} {sp : Sp} {m : Str} {ta : TE} {t : TA} {Cc : Addr} {EE : L2.St → XK}
theorem x_try (q : tb (wTry K Cc ts D) D σ H) : tTry K Cc tb ts D σ H := q
instance : Step (tTry K Cc tb ts D σ H) (tb (wTry K Cc ts D) D σ H) := ⟨x_try⟩ -- st
theorem x_callS (q : t σ H fun vs H1 => sp vs H1 Q (EE σ)) : tCallS sp EE t σ H Q := q
instance : Step (tCallS sp EE t σ H Q) (t σ H fun vs H1 => sp vs H1 Q (EE σ)) := ⟨x_callS⟩ -- st
theorem x_methS (q : ta σ H fun x H1 => mthG Cc m x H1 (t σ H1 fun vs H2 => sp (x :: vs) H2 Q (EE σ))) : tMethS Cc m sp EE ta t σ H Q := by
  unfold tMethS
  refine cast ?_ q
  congr 1
  funext x H1
  unfold mthG
  refine propext ⟨?_, ?_⟩
  · rintro ⟨⟨a, dx, fs, h1, h2, h3⟩, h4⟩
    exact ⟨a, dx, fs, h1, h2, h3, h4⟩
  · rintro ⟨a, dx, fs, h1, h2, h3, h4⟩
    exact ⟨⟨a, dx, fs, h1, h2, h3⟩, h4⟩
instance : Step (tMethS Cc m sp EE ta t σ H Q) (ta σ H fun x H1 => mthG Cc m x H1 (t σ H1 fun vs H2 => sp (x :: vs) H2 Q (EE σ))) := ⟨x_methS⟩ -- st
theorem x_raise (q : W (.ref (He.ga K C)) none σ H) : tRaiseO K C W D σ H := q
instance : Step (tRaiseO K C W D σ H) (W (.ref (He.ga K C)) none σ H) := ⟨x_raise⟩ -- st
end
/-! ### promises -/
end R
namespace R
open PySem L2
/-! ### the first place of a cell -/
/-! ### promises of the laws that catch BadSize -/
end R
namespace R
open PySem L2
/-! ### told lists of cells, each beside what was due -/
/-! ### promises of k02 -/
end R
namespace R
open PySem PySem.Spec PyProof.Rows L2 PySem.W
/-! ### str(x) by an own __str__ -/
section
variable {prog : Program} {w : World} {A : Around} {E : Value → Shared → Prop} {s : Shared} {K : PySem.W.Frag} {x C f : Addr} {ox : Obj} {od : Option Obj}
theorem plain_str_new : plainId "str.__new__" = true := by decide +kernel
theorem strOf_K {Q : Value → Shared → Prop} (hu : A.units < cLine) (X : K.In s.heap) (I : InstAt s.heap x ox C od) (hs : findIn K (.ref C) "__str__" = some (some (.ref f))) (hf : isFn K (.ref f) = true)
    (h : wpAny (model prog w) A (call (.ref f) [.ref x]) (StrBack Q) E s) : wpAny (model prog w) A (Builtin.Str.strOf (.ref x)) Q E s := by
  unfold Builtin.Str.strOf
  rw [show Builtin.Str.isExactStr (.ref x) = false from rfl]
  show wpAny _ _ (cRoomFor "str" [.ref x] >>= _) _ _ _
  refine wpAny_bind (wpAny_cRoomFor hu ?_)
  refine wpAny_bind (m := callSpecial? (.ref x) (Str.ofString "__str__")) (special_fn X I hs (beq_iff_eq.mp hf) (wpAny_mono h (fun r s' hr => ?_) fun _ _ y => y))
  cases r <;> first | exact hr.elim | skip
  exact wpAny_pure hr
theorem code_str_new {Q₁ : Value → Shared → Prop} (hu : A.units + 1 < cLine) (X : K.In s.heap) (I : InstAt s.heap x ox C od) (hs : findIn K (.ref C) "__str__" = some (some (.ref f))) (hf : isFn K (.ref f) = true)
    (h : wpAny (model prog w) A.in1 (call (.ref f) [.ref x]) (StrBack Q₁) E s) : codeAny (model prog w) A (.call (.builtin "str.__new__") ⟨[.type "str", .ref x], []⟩) (wants Q₁ E) s := by
  refine codeAny_of_tree ?_
  show wpAny _ A.in1 (do checkBuiltinCall "str.__new__" ⟨[.type "str", .ref x], []⟩; again (.builtin "str.__new__" ⟨[.type "str", .ref x], []⟩)) _ _ s
  refine wpAny_bind (wpAny_of_eq (F.newCall_str_1 _) (wpAny_pure ⟨plainId_quiet plain_str_new _, codeAny_builtin F.entry_str_new ?_⟩))
  rw [Around.under_plainId plain_str_new _]
  rw [str_new_tree]
  refine wpAny_bind (wpAny_pure ?_)
  refine wpAny_bind (wpAny_of_eq isSubtype_str_str ?_)
  refine wpAny_bind (wpAny_mono (strOf_K (A := A.in1) hu X I hs hf h) (fun r s' h' => wpAny_pure ?_) fun _ _ e => e)
  exact h'
theorem str_own {Q : Value → Shared → Prop} (hu : A.units + 2 < cLine) (X : K.In s.heap) (I : InstAt s.heap x ox C od) (hs : findIn K (.ref C) "__str__" = some (some (.ref f))) (hf : isFn K (.ref f) = true)
    (h : wpAny (model prog w) A.in1.in1 (call (.ref f) [.ref x]) (StrBack Q) E s) : wpAny (model prog w) A (call (.type "str") [.ref x]) Q E s := by
  refine callType_codes (Q₁ := fun obj s₁ => s₁.TypeIs obj "str" ∧ Q obj s₁) F.called_str (F.typeCall_str_1 _) F.entry_object_init
    (code_str_new (A := A.in1) hu X I hs hf (wpAny_mono h (fun r s' hr => ?_) fun _ _ e => e)) fun obj s₁ h₁ => ?_
  · cases r <;> first | exact hr.elim | skip
    exact ⟨typeIs_str _ _ _, hr⟩
  · exact ⟨h₁.1, F.args_object_init_2 obj _, object_init_meets F.called_str.init.lookup F.called_str.made (by decide) prog w A.in1 _ s₁ ⟨h₁.1, rfl, h₁.2⟩⟩
end
/-- what str(x), f'{x}' ask of an own class -/
def strB (K : PySem.W.Frag) (C : Str) : Bool := spcB K C "__str__" && (eqV2 (PySem.W.findIn K (.ref (He.ga K C)) "__format__") (some (some (.builtin "object.__format__"))) && decide (PySem.W.mroIn K (He.ga K C) (.type "object") = some true))
structure StrC (K : PySem.W.Frag) (C : Str) : Prop where
  f : PySem.W.findIn K (.ref (He.ga K C)) "__format__" = some (some (.builtin "object.__format__"))
  o : PySem.W.mroIn K (He.ga K C) (.type "object") = some true
theorem strB_ok {K : PySem.W.Frag} {C : Str} (h : strB K C = true) : StrC K C := by
  unfold strB at h
  simp only [Bool.and_eq_true, eqV2, decide_eq_true_eq] at h
  exact ⟨h.2.1, h.2.2⟩
section
variable {X : Cx} {K : PySem.W.Frag} {k : Nat} {C : Str} {ps : List Str} {sp : Sp}
def aftS (Q : VK) : VK := fun v H2 => ∃ z : Str, v = .str z ∧ Q (.str z) H2
/-- str(x) by an own __str__ -/
def rStrO (C : Addr) (sp : Sp) : List V → Hp → VK → Prop := fun xs H Q => ∃ a dx fs, xs = [.ref a] ∧ H a = some (.ins C dx fs) ∧ sp [.ref a] H (aftS Q) E0
theorem clStrO (D : DM X.prog X.w X.K X.mg X.base k C "__str__" ps [] sp) {j : Nat} (hr : Room j X.A) (hj : k + 2 ≤ j) : CallR X (.type "str") (rStrO (He.ga X.K C) sp) := by
  obtain ⟨fd, ds, F, c, _, hb, hv⟩ := D.ex
  cases hv
  intro pins s σ H xs us Q I r h
  obtain ⟨a, dx, fs, rfl, ha, q⟩ := h
  rw [Vals.ref1 r]
  obtain ⟨mA, J, _⟩ := ins_get I.hok ha
  obtain ⟨od, J, _⟩ := J.look
  have e0 : Env0 X.prog X.w X.K X.mg X.base X.A.in1.in1 X.stack s H := by
    have e := I.env0
    exact ⟨e.frames, e.mod, e.bs, e.bsz, e.funs, e.frf, e.hok, e.bare⟩
  have hl := F.len _ _ _ _ q
  refine str_own (by have := hr.un; omega) I.kIn J c.at_ c.fn ?_
  refine wpAny_call (codeAny_mono (F.run X.A.in1.in1 X.stack s H ⟨[.ref a], []⟩ [.ref a] [.ref a] _ E0 (hr.mono hj).in1.in1 e0 (by
    have := hb s [.ref a] I.kIn (by simpa using hl)
    simpa using this) (.cons rfl .nil) q) fun r s' hq => ?_)
  cases r with
  | error e => exact pass0 pins σ H s e s' I hq
  | ok fl =>
    cases fl with
    | ret w =>
      obtain ⟨z, H', I', rz, n, ez, q⟩ := I.after hq
      subst ez
      obtain ⟨t, rfl⟩ := rz
      exact ⟨.str n, H', I', ⟨_, rfl⟩, q⟩
    | next => exact False.elim hq
    | brk => exact False.elim hq
    | cont => exact False.elim hq
/-- {x} of an own instance -/
def tFmtO (C : Addr) (sp : Sp) (te : TE) : TE := fun σ H Q => te σ H fun x H1 => ∃ a dx fs, x = .ref a ∧ H1 a = some (.ins C dx fs) ∧ sp [.ref a] H1 (aftS Q) E0
end
section
variable {σ : L2.St} {H : Hp} {Q : VK} {te : TE} {C : Addr} {m : Nat} {sp : Sp} {gV : List V → List V → List V} {E : XK} {tk : TA} {ts : List TE} {acc y : Str} {x : V} {R : Str → Hp → Prop} {i : Int}
def fmtG (x : V) (H1 : Hp) (Q : VK) : Prop := (∃ y : Str, x = .str y ∧ y.length ≤ sizeLine ∧ Q (.str y) H1) ∨ ∃ i : Int, x = .int i ∧ i.natAbs.log2 < 1920 ∧ Q (.str (toString i)) H1
theorem x_fmt (q : te σ H fun x H1 => fmtG x H1 Q) : tFmt te σ H Q := q
instance : Step (tFmt te σ H Q) (te σ H fun x H1 => fmtG x H1 Q) := ⟨x_fmt⟩ -- st
theorem n_fmtI (h : i.natAbs.log2 < 1920) (q : Q (.str (toString i)) H) : fmtG (.int i) H Q := .inr ⟨i, rfl, h, q⟩
def fmtGO (C : Addr) (sp : Sp) (x : V) (H1 : Hp) (Q : VK) : Prop := ∃ a dx fs, x = .ref a ∧ H1 a = some (.ins C dx fs) ∧ sp [.ref a] H1 (aftS Q) E0
theorem x_fmtO (q : te σ H fun x H1 => fmtGO C sp x H1 Q) : tFmtO C sp te σ H Q := q
instance : Step (tFmtO C sp te σ H Q) (te σ H fun x H1 => fmtGO C sp x H1 Q) := ⟨x_fmtO⟩ -- st
theorem n_strO {a dx : Addr} {fs : List (Str × V)} (h : H a = some (.ins C dx fs)) (q : sp [.ref a] H (aftS Q) E0) : rStrO C sp [.ref a] H Q := ⟨a, dx, fs, rfl, h, q⟩
def jsG (ts : List TE) (acc : Str) (σ : L2.St) (x : V) (H1 : Hp) (R : Str → Hp → Prop) : Prop := ∃ y : Str, x = .str y ∧ (acc ++ y).length ≤ sizeLine ∧ tJs ts (acc ++ y) σ H1 R
theorem x_js (q : te σ H fun x H1 => jsG ts acc σ x H1 R) : tJs (te :: ts) acc σ H R := q
instance : Step (tJs (te :: ts) acc σ H R) (te σ H fun x H1 => jsG ts acc σ x H1 R) := ⟨x_js⟩ -- st
theorem x_js0 (q : R acc H) : tJs [] acc σ H R := q
instance : Step (tJs [] acc σ H R) (R acc H) := ⟨x_js0⟩ -- st
theorem n_js (h : (acc ++ y).length ≤ sizeLine) (q : tJs ts (acc ++ y) σ H R) : jsG ts acc σ (.str y) H R := ⟨y, rfl, h, q⟩
/-- an instance made by keywords alone -/
def makKG (C : Addr) (sp : Sp) (gV : List V → List V → List V) (zs : List V) (E : XK) (H : Hp) (Q : VK) : Prop := ∀ x dx, H x = none → H dx = none → dx ≠ x → sp (gV [.ref x] zs) (upd (upd H dx (.own x)) x (.ins C dx [])) (aftG Q x) E
theorem x_makeK0 (q : tk σ H fun zs H2 => zs.length = m ∧ makKG C sp gV zs E H2 Q) : tMakeK C 0 m sp gV E tNil tk σ H Q := by
  show tk σ H _
  refine cast ?_ q
  congr 1
  funext zs H2
  refine propext ⟨?_, ?_⟩
  · rintro ⟨h1, h3⟩
    exact ⟨rfl, h1, fun x dx a b c => h3 x dx a b c⟩
  · rintro ⟨_, h1, h3⟩
    exact ⟨h1, fun x dx a b c => h3 x dx a b c⟩
instance : Step (tMakeK C 0 m sp gV E tNil tk σ H Q) (tk σ H fun zs H2 => zs.length = m ∧ makKG C sp gV zs E H2 Q) := ⟨x_makeK0⟩ -- st
end
end R
namespace R
open PySem L2
/-! ### the writing of a change -/
def numS (n : Nat) : Str := Str.ofString (toString ((n : Nat) : Int))
def smallNum (n : Nat) : Bool := (numS n).cps.all (· < 0x110000) && decide ((numS n).length ≤ 3)
theorem nums_small : ∀ n, n < 401 → smallNum n = true := by decide +kernel
theorem num_ok {n : Nat} (h : n ≤ 400) : okS (numS n) ∧ (numS n).length ≤ 3 := by
  have := nums_small n (by omega)
  unfold smallNum at this
  rw [Bool.and_eq_true, decide_eq_true_eq] at this
  exact this
theorem num_log {n : Nat} (h : n ≤ 400) : ((n : Nat) : Int).natAbs.log2 < 1920 := by
  have : ((n : Nat) : Int).natAbs = n := by simp
  rw [this]
  by_cases h0 : n = 0
  · rw [h0]
    decide
  · exact (Nat.log2_lt h0).mpr (Nat.lt_of_le_of_lt h (by decide +kernel : 400 < 2 ^ 1920))
def rowW : CRow → List Nat
  | .put s => cd (Str.ofString "put ") ++ cd s
  | .copy a n => cd (Str.ofString "copy ") ++ cd (numS a) ++ cd (Str.ofString " ") ++ cd (numS n)
def rowsW (rows : List CRow) : List Nat := rows.flatMap fun r => 10 :: rowW r
def writL (n : Nat) (rows : List CRow) : List Nat := (cd (Str.ofString "size ") ++ cd (numS n)) ++ rowsW rows
theorem len_put : (cd (Str.ofString "put ")).length = 4 := by decide +kernel
theorem len_copy : (cd (Str.ofString "copy ")).length = 5 := by decide +kernel
theorem len_size : (cd (Str.ofString "size ")).length = 5 := by decide +kernel
theorem len_sp : (cd (Str.ofString " ")).length = 1 := by decide +kernel
theorem nl_cd : cd (Str.ofString "\n") = [10] := by decide +kernel
theorem row_len {r : CRow} {n : Nat} (h : CRowOk n r) (hn : n ≤ 400) : (rowW r).length ≤ 12 + r.gives := by
  cases r with
  | put s =>
    show (cd (Str.ofString "put ") ++ cd s).length ≤ 12 + s.length
    rw [List.length_append, len_put, cd_len]
    omega
  | copy a m =>
    have h1 : a + m ≤ n := h.h
    have h2 := (num_ok (n := a) (by omega)).2
    have h3 := (num_ok (n := m) (by omega)).2
    show (cd (Str.ofString "copy ") ++ cd (numS a) ++ cd (Str.ofString " ") ++ cd (numS m)).length ≤ _
    rw [List.length_append, List.length_append, List.length_append, len_copy, len_sp, cd_len, cd_len]
    omega
theorem okc {z : Str} (h : okS z) : ∀ c ∈ cd z, c < 0x110000 := ok_codes.mp h
theorem ok_lit1 : ∀ c ∈ cd (Str.ofString "put "), c < 0x110000 := by decide +kernel
theorem ok_lit2 : ∀ c ∈ cd (Str.ofString "copy "), c < 0x110000 := by decide +kernel
theorem ok_lit3 : ∀ c ∈ cd (Str.ofString "size "), c < 0x110000 := by decide +kernel
theorem ok_lit4 : ∀ c ∈ cd (Str.ofString " "), c < 0x110000 := by decide +kernel
theorem row_okc {r : CRow} {n : Nat} (h : CRowOk n r) (hn : n ≤ 400) : ∀ c ∈ rowW r, c < 0x110000 := by
  intro c hc
  cases r with
  | put s =>
    rcases List.mem_append.mp hc with hc | hc
    · exact ok_lit1 c hc
    · exact okc h.s.1 c hc
  | copy a m =>
    have h1 : a + m ≤ n := h.h
    rcases List.mem_append.mp hc with hc | hc
    · rcases List.mem_append.mp hc with hc | hc
      · rcases List.mem_append.mp hc with hc | hc
        · exact ok_lit2 c hc
        · exact okc (num_ok (n := a) (by omega)).1 c hc
      · exact ok_lit4 c hc
    · exact okc (num_ok (n := m) (by omega)).1 c hc
theorem wrows_len {n : Nat} (hn : n ≤ 400) : ∀ {rows : List CRow}, (∀ r ∈ rows, CRowOk n r) → (rowsW rows).length ≤ 13 * rows.length + givesL rows
  | [], _ => Nat.le_refl _
  | r :: rows, h => by
    have h1 := row_len (h r (List.mem_cons_self ..)) hn
    have h2 := wrows_len hn (rows := rows) fun q hq => h q (List.mem_cons_of_mem _ hq)
    show ((10 :: rowW r) ++ rowsW rows).length ≤ 13 * (rows.length + 1) + givesL (r :: rows)
    have h3 : givesL (r :: rows) = r.gives + givesL rows := rfl
    rw [List.length_append, List.length_cons, h3]
    omega
theorem wrows_okc {n : Nat} {rows : List CRow} (hn : n ≤ 400) (h : ∀ r ∈ rows, CRowOk n r) : ∀ c ∈ rowsW rows, c < 0x110000 := by
  intro c hc
  obtain ⟨r, hr, hc⟩ := List.mem_flatMap.mp hc
  rcases List.mem_cons.mp hc with rfl | hc
  · decide
  · exact row_okc (h r hr) hn c hc
theorem writ_len {n : Nat} {rows : List CRow} (hn : n ≤ 400) (ok : RowsOk n rows) : (writL n rows).length ≤ 6000 := by
  have h1 := wrows_len hn ok.ok
  have h2 := ok.len
  have h3 := ok.sum
  have h4 := (num_ok hn).2
  unfold writL
  rw [List.length_append, List.length_append, len_size, cd_len]
  omega
theorem writ_ok {n : Nat} {rows : List CRow} {s : Str} (hn : n ≤ 400) (ok : RowsOk n rows) (h : cd s = writL n rows) : okS s ∧ s.length ≤ 6000 := by
  refine ⟨ok_codes.mpr fun c hc => ?_, by rw [← cd_len, h]; exact writ_len hn ok⟩
  rw [h] at hc
  rcases List.mem_append.mp hc with hc | hc
  · rcases List.mem_append.mp hc with hc | hc
    · exact ok_lit3 c hc
    · exact okc (num_ok hn).1 c hc
  · exact wrows_okc hn ok.ok c hc
theorem rowsW_take {rows : List CRow} {i : Nat} {r : CRow} (h : rows[i]? = some r) : rowsW (rows.take (i + 1)) = rowsW (rows.take i) ++ (10 :: rowW r) := by
  unfold rowsW
  rw [List.take_add_one, h, List.flatMap_append]
  show _ ++ ((10 :: rowW r) ++ []) = _
  rw [List.append_nil]
theorem rowsW_le {n : Nat} {rows : List CRow} (hn : n ≤ 400) (ok : RowsOk n rows) (i : Nat) : (rowsW (rows.take i)).length ≤ 6000 := by
  have h1 := wrows_len hn (rows := rows.take i) fun r hr => ok.ok r (List.mem_of_mem_take hr)
  have h2 := ok.len
  have h3 := ok.sum
  have h4 := gives_le rows i
  have h5 : (rows.take i).length ≤ rows.length := by rw [List.length_take]; omega
  omega
theorem joinL_nl (a : List Nat) : ∀ l : List (List Nat), TL.joinL [10] (a :: l) = a ++ l.flatMap fun t => 10 :: t := by
  intro l
  induction l generalizing a with
  | nil => simp [TL.joinL]
  | cons b l ih =>
    rw [TL.joinL, ih]
    simp
theorem join_nl (t : Str) (ts : List Str) : cd (Txt.join (Str.ofString "\n") (t :: ts)) = cd t ++ (ts.map cd).flatMap fun c => 10 :: c := by
  have e : TL.tl (Txt.join (Str.ofString "\n") (t :: ts)) = TL.joinL [10] ((t :: ts).map TL.tl) := by
    rw [TL.join_eq, TL.tl_join]
    first | rfl | (congr 1; done) | (congr 1; exact nl_cd)
  refine e.trans ?_
  rw [List.map_cons, joinL_nl]
  try rfl
theorem sum_le {l : List Str} {m : Nat} (h : ∀ t ∈ l, t.length ≤ m) : (l.map (·.length)).sum ≤ l.length * m := by
  induction l with
  | nil => exact Nat.zero_le _
  | cons a l ih =>
    have h1 := h a (List.mem_cons_self ..)
    have h2 := ih fun t ht => h t (List.mem_cons_of_mem _ ht)
    rw [List.map_cons, List.sum_cons, List.length_cons, Nat.succ_mul]
    omega
theorem slen_copy : (Str.ofString "copy ").length = 5 := by decide +kernel
theorem slen_size : (Str.ofString "size ").length = 5 := by decide +kernel
theorem slen_sp : (Str.ofString " ").length = 1 := by decide +kernel
theorem slen_nl : (Str.ofString "\n").length = 1 := by decide +kernel
theorem slen_e : Str.empty.length = 0 := rfl
theorem cd_e : cd Str.empty = [] := rfl
/-! ### promises -/
def φrowtext (K : PySem.W.Frag) : V → Hp → VK → Prop := fun x H Q => ∃ (F : Hp) (r : CRow) (n : Nat), Same F H ∧ Dp K F x r.d ∧ CRowOk n r ∧ n ≤ 400 ∧ ∀ s F2 H2, W [] F H F2 H2 [] → cd s = rowW r → Q (.str s) H2
def φstr (K : PySem.W.Frag) : V → Hp → VK → Prop := fun x H Q => ∃ (F : Hp) (n : Nat) (rows : List CRow), Same F H ∧ Chg K F x n rows ∧ RowsOk n rows ∧ n ≤ 400 ∧ ∀ s F2 H2, W [] F H F2 H2 [] → cd s = writL n rows → Q (.str s) H2
end R
namespace R
open PySem PySem.Spec PyProof.Rows L2
/-! ### list(reversed(a list)) -/
section
variable {X : Cx} {K : PySem.W.Frag}
def tListRev (K : PySem.W.Frag) (te : TE) : TE := fun σ H Q => te σ H fun v H1 => ∃ (a : Addr) (xs : List V), v = .ref a ∧ SqL K H1 a xs ∧ ∀ q, H1 q = none → Q (.ref q) (upd H1 q (.lst xs.reverse))
end
section
variable {K : PySem.W.Frag} {M : List Addr} {F0 H0 F H : Hp} {L : List Own} {σ : L2.St} {Q : VK} {te : TE} {a : Addr} {xs : List V}
def lrvG (K : PySem.W.Frag) (v : V) (H1 : Hp) (Q : VK) : Prop := ∃ (a : Addr) (xs : List V), v = .ref a ∧ SqL K H1 a xs ∧ ∀ q, H1 q = none → Q (.ref q) (upd H1 q (.lst xs.reverse))
theorem x_lrv (q : te σ H fun v H1 => lrvG K v H1 Q) : tListRev K te σ H Q := q
instance : Step (tListRev K te σ H Q) (te σ H fun v H1 => lrvG K v H1 Q) := ⟨x_lrv⟩ -- st
end
end R
namespace R
open PySem L2
/-! ### changes one behind the other -/
/-! ### a list of changes -/
def ChgAll (K : PySem.W.Frag) (F : Hp) (vs : List V) (txs : List Str) (rss : List (List CRow)) : Prop := vs.length = rss.length ∧ ∀ (i : Nat) (v : V) (t : Str) (rs : List CRow), vs[i]? = some v → txs[i]? = some t → rss[i]? = some rs → Chg K F v t.length rs
theorem ChgAll.same {K : PySem.W.Frag} {F F2 : Hp} {vs : List V} {txs : List Str} {rss : List (List CRow)} (s : Same F F2) (h : ChgAll K F vs txs rss) : ChgAll K F2 vs txs rss := ⟨h.1, fun i v t rs h1 h2 h3 => (h.2 i v t rs h1 h2 h3).same s⟩
/-! ### loops over reversed(range(n)), is of bools -/
section
variable {K : PySem.W.Frag} {M : List Addr} {F0 H0 F H : Hp} {L L1 : List Own} {σ : L2.St} {g : TG} {tbody : TS} {nx bk ct : L2.St → Hp → Prop} {rt Q : VK}
def rvG (a b : Int) (H1 : Hp) (R : It → Hp → Prop) : Prop := -(2 ^ 62) ≤ a ∧ a < 2 ^ 62 ∧ -(2 ^ 62) ≤ b ∧ b < 2 ^ 62 ∧ R (Itc (a + (((b - a).toNat : Nat) : Int) - 1) (-1) (b - a).toNat) H1
theorem x_revR {ta : TE} {R : It → Hp → Prop} (q : ta σ H fun x H1 => ∃ n, x = .int n ∧ rvG 0 n H1 R) : iRevR (tRg1 ta) σ H R := q
instance {ta : TE} {R : It → Hp → Prop} : Step (iRevR (tRg1 ta) σ H R) (ta σ H fun x H1 => ∃ n, x = .int n ∧ rvG 0 n H1 R) := ⟨x_revR⟩ -- st
theorem n_isB {a b : Bool} (q : Q (.bl (decide (a = b))) H) : rIsB (.bl a) (.bl b) H Q := ⟨a, b, rfl, rfl, q⟩
instance {a b : Bool} : Step (rIsB (.bl a) (.bl b) H Q) (Q (.bl (decide (a = b))) H) := ⟨n_isB⟩ -- st
theorem n_notB {a b : Bool} (q : Q (.bl (!decide (a = b))) H) : rNotB (.bl a) (.bl b) H Q := ⟨a, b, rfl, rfl, q⟩
instance {a b : Bool} : Step (rNotB (.bl a) (.bl b) H Q) (Q (.bl (!decide (a = b))) H) := ⟨n_notB⟩ -- st
end
/-! ### promises of k09 -/
end R
namespace R
open PySem PySem.Spec PyProof.Rows L2
/-! ### xs.insert(i, y) -/
end R
namespace R
open PySem PySem.Spec PyProof.Rows L2
/-! ### an instance made within a comprehension -/
/-! ### a change made of a list that may change -/
/-! ### xs.insert(i, y), str(x) of a text or a number, over a tuple -/
section
variable {X : Cx}
def rStrQ : List V → Hp → VK → Prop := fun xs H Q => (∃ a : Str, xs = [.str a] ∧ Q (.str a) H) ∨ ∃ i : Int, xs = [.int i] ∧ i.natAbs.log2 < 1920 ∧ Q (.str (toString i)) H
theorem clStrQ : CallR X (.type "str") rStrQ := by
  intro pins s σ H xs us Q I r h
  rcases h with ⟨a, e, q⟩ | ⟨i, e, hl, q⟩
  · exact SkE.call_str_str pins s σ H xs us Q I r ⟨a, e, q⟩
  · exact call_str_int pins s σ H xs us Q I r ⟨i, e, hl, q⟩
end
section
variable {K : PySem.W.Frag} {M : List Addr} {F0 H0 F H : Hp} {L L1 Rs : List Own} {σ : L2.St} {Q : VK} {g : TG} {tt : TT} {te : TE} {vs : List Nat} {a p : Addr} {xs : List V} {i : Int} {y : V}
theorem n_lcT (xs : List V) (w : W M F0 H0 F H L) (P : Nat → List V → List Own → Prop) (h0 : P 0 [] L1) (hl : ∀ i ys L F H D, P i ys L → W M F0 H0 F H (mu D (.lst ys) :: L) → SqT K H a xs)
    (hs : ∀ (i : Nat) x ys L F H D, xs[i]? = some x → P i ys L → W M F0 H0 F H (mu D (.lst ys) :: L) → H0 D = none → g x (wipe σ vs) H fun σ2 H2 => wipe σ2 vs = wipe σ vs ∧ tt σ2 H2 fun b H3 =>
      if b = true then te σ2 H3 (accG D (NxC M F0 H0 (P (i + 1)) D)) else NxC M F0 H0 (P (i + 1)) D H3)
    (hd : ∀ D ys L F H, P xs.length ys L → W M F0 H0 F H (mu D (.lst ys) :: L) → H0 D = none → Q (.ref D) H) (k : Pk L L1 := by walk_at "pk") : lcG g tt te vs (Itt K a) σ H Q := by
  refine n_lcJ (Itt K a) xs.length w P h0 (fun i ys L F H D hi h w => ⟨xs, xs[i], hl i ys L F H D h w, List.getElem?_eq_getElem hi⟩) (fun ys L F H D h w => ⟨xs, hl _ ys L F H D h w, Nat.le_refl _⟩) (fun i x ys L F H H' D hi h w y hD => ?_) hd k
  obtain ⟨rfl, y⟩ := y
  exact hs i x ys L F _ D (y xs (hl i ys L F _ D h w)) h w hD
end
/-! ### a row's words -/
theorem sp_cd : cd (Str.ofString " ") = [32] := by decide +kernel
/-! ### two changes of one size, and their rows -/
structure Pr (K : PySem.W.Frag) (F : Hp) (n : Nat) (x y : V) (cv : Nat → V) (rw : Nat → List CRow) (pv : Nat → Addr) (pvs : Nat → List V) : Prop where
  cl : ∃ ca, x = .ref ca ∧ SqL K F ca [cv 0, cv 1]
  rl : ∃ ra, y = .ref ra ∧ SqL K F ra [.ref (pv 0), .ref (pv 1)]
  it : ∀ i, i < 2 → SqL K F (pv i) (pvs i) ∧ DpAll K F (pvs i) ((rw i).map CRow.d) ∧ Chg K F (cv i) n (rw i) ∧ RowsOk n (rw i)
theorem Pr.same {K : PySem.W.Frag} {F F2 : Hp} {n : Nat} {x y : V} {cv : Nat → V} {rw : Nat → List CRow} {pv : Nat → Addr} {pvs : Nat → List V} (s : Same F F2) (h : Pr K F n x y cv rw pv pvs) : Pr K F2 n x y cv rw pv pvs := by
  obtain ⟨⟨ca, e, h1⟩, ⟨ra, e2, h2⟩, h3⟩ := h
  refine ⟨⟨ca, e, sqL_same s h1⟩, ⟨ra, e2, sqL_same s h2⟩, fun i hi => ?_⟩
  obtain ⟨a, b, c, d⟩ := h3 i hi
  exact ⟨sqL_same s a, dpa_same s _ _ b, c.same s, d⟩
def two {α : Type} (x y : α) (i : Nat) : α := if i = 0 then x else y
/-! ### promises of k10 -/
end R
namespace R
open PySem PySem.Spec PyProof.Rows L2
/-! ### x != y by an own __eq__, no own __ne__ -/
theorem ne_bind (self : Value) : bindSpecial (.builtin "object.__ne__") self = pure (.builtin "object.__ne__", [self]) := F.cmp_object.ne.bind self
section
variable {prog : Program} {w : World} {A : Around} {E : Value → Shared → Prop} {s : Shared} {K : PySem.W.Frag} {x C f : Addr} {h₀ : Heap} {L : Addr} {m : Str → Option Value} {ox : Obj} {od : Option Obj} {name : Str} {b tb : Value}
theorem ifBound_B {M : Model} {args : List Value} {Q : Option Value → Shared → Prop} {id : String} (X : K.In s.heap) (I : PySem.W.InstAt s.heap x ox C od) (hs : PySem.W.findIn K (.ref C) name = some (some (.builtin id))) (hb : ∀ self, bindSpecial (.builtin id) self = pure (.builtin id, [self]))
    (h : wpAny M A (call (.builtin id) (.ref x :: args)) (fun v => Q (some v)) E s) : wpAny M A (callSpecialIfBound? (.ref x) name args) Q E s := by
  simp only [callSpecialIfBound?, bindSpecialIfBound?]
  refine wpAny_holding (wpAny_bind (wpAny_bind (wpAny_bind (I.type.here ((PySem.W.looks_findIn X hs).here ?_)))))
  refine wpAny_bind (wpAny_askSetting (wpAny_ite ?_))
  have fin : wpAny M A (call (.builtin id) ([.ref x] ++ args) >>= fun v => pure (some v)) Q E s := wpAny_bind (wpAny_mono h (fun v s' h' => wpAny_pure h') fun _ _ h' => h')
  rw [hb]
  split
  · exact wpAny_bind (wpAny_pure (wpAny_pure (by exact fin)))
  · exact wpAny_tryCatch (wpAny_bind (wpAny_pure (wpAny_pure (by exact fin))))
theorem objNe_K {Q : Fin → Shared → Prop} (hu : A.units < cLine) (X : K.In s.heap) (I : PySem.W.InstAt s.heap x ox C od) (hs : PySem.W.findIn K (.ref C) "__eq__" = some (some (.ref f))) (hf : PySem.W.isFn K (.ref f) = true)
    (hcall : wpAny (model prog w) A (call (.ref f) [.ref x, b]) (fun v s' => ∃ k, v = .bool k ∧ Q (.done (.ret (.bool (!k)))) s') E s) :
    wpAny (model prog w) A (Builtin.«object.__ne__» ⟨[.ref x, b], []⟩) Q E s := by
  unfold Builtin.«object.__ne__»
  repeat (first
    | with_reducible refine wpAny_cRoomFor hu ?_
    | (refine wpAny_bind (m := callSpecialIfBound? (.ref x) (Str.ofString "__eq__") [b])
        (PySem.W.ifBound_K X I hs hf (wpAny_mono hcall (fun r s' hr => by
          obtain ⟨k, rfl, hq⟩ := hr
          repeat (first | exact hq | exact wpAny_pure hq | exact wpAny_truthy_bool hq | (refine wpAny_bind (m := truthy (.bool _)) (wpAny_truthy_bool ?_)) | wp_step)) fun _ _ e => e)))
    | wp_step)
theorem ne_K {Q : Value → Shared → Prop} (hu : A.units + 1 < cLine) (F : PyProof.Rows.Fr h₀ L s.heap m) (X₀ : K.In h₀) (I : PySem.W.InstAt s.heap x ox C od) (hb : PySem.W.Looks (model prog w) s.heap (typeOf b) tb) (hn : PySem.W.notFirst K C tb = true)
    (hne : PySem.W.findIn K (.ref C) "__ne__" = some (some (.builtin "object.__ne__"))) (hob : PySem.W.mroIn K C (.type "object") = some true)
    (hs : PySem.W.findIn K (.ref C) "__eq__" = some (some (.ref f))) (hf : PySem.W.isFn K (.ref f) = true)
    (h : wpAny (model prog w) A.in1 (call (.ref f) [.ref x, b]) (fun v s' => ∃ k, v = .bool k ∧ Q (.bool (!k)) s') E s) : wpAny (model prog w) A (richCompare .NotEq (.ref x) b) Q E s := by
  have X := X₀.keeps F.keep
  have one : wpAny (model prog w) A (tryCompare (.ref x) (cmpInfo .NotEq).2.1 b) (fun r s' => ∃ v, r = some v ∧ Q v s') E s := by
    unfold tryCompare
    refine wpAny_bind (ifBound_B (name := (cmpInfo .NotEq).2.1) X I hne ne_bind (wpAny_call (codeAny_call_builtin PySem.F.cmp_object.ne.plain PySem.F.cmpEntry_ne
      (PySem.W.check_slot PySem.F.cmpKind_ne PySem.F.cmpSplit_ne (I.type.andThen (PySem.W.looks_mroIn X hob)) (PySem.F.cmpArgs_ne _ _)
        (objNe_K (A := A.in1) hu X I hs hf (wpAny_mono h (fun v s' hv => ?_) fun _ _ e => e))))))
    obtain ⟨k, rfl, hq⟩ := hv
    first | exact ⟨k, rfl, wpAny_pure ⟨_, rfl, hq⟩⟩ | exact ⟨k, rfl, wpAny_pure (wpAny_pure ⟨_, rfl, hq⟩)⟩
  unfold richCompare
  simp only [oneThing_ref]
  refine wpAny_holding (wpAny_bind (wpAny_cRoomFor (Nat.lt_of_succ_lt hu) ?_))
  refine wpAny_bind (I.type.here (wpAny_bind (hb.here ?_)))
  split
  · rename_i q
    have e : PySem.W.subIn K tb (.ref C) = some false := by
      rcases Bool.or_eq_true_iff.mp hn with e | e
      · rw [beq_iff_eq.mp e] at q; simp at q
      · exact beq_iff_eq.mp e
    refine wpAny_bind ((PySem.W.looks_subIn X e).here ?_)
    simp only [Bool.false_eq_true, if_false]
    refine wpAny_bind (wpAny_mono one (fun r s' z => ?_) fun _ _ e => e)
    obtain ⟨v, rfl, hq⟩ := z
    exact wpAny_pure hq
  · refine wpAny_bind (wpAny_pure ?_)
    simp only [Bool.false_eq_true, if_false]
    refine wpAny_bind (wpAny_mono one (fun r s' z => ?_) fun _ _ e => e)
    obtain ⟨v, rfl, hq⟩ := z
    exact wpAny_pure hq
end
/-- what != asks of an own class -/
def neB (K : PySem.W.Frag) (C : Str) : Bool := eqV2 (PySem.W.findIn K (.ref (He.ga K C)) "__ne__") (some (some (.builtin "object.__ne__"))) && decide (PySem.W.mroIn K (He.ga K C) (.type "object") = some true)
structure Ne0 (K : PySem.W.Frag) (C : Str) : Prop where
  n : PySem.W.findIn K (.ref (He.ga K C)) "__ne__" = some (some (.builtin "object.__ne__"))
  o : PySem.W.mroIn K (He.ga K C) (.type "object") = some true
theorem neB_ok {K : PySem.W.Frag} {C : Str} (h : neB K C = true) : Ne0 K C := by
  unfold neB at h
  simp only [Bool.and_eq_true, eqV2, decide_eq_true_eq] at h
  exact ⟨h.1, h.2⟩
section
variable {X : Cx} {K : PySem.W.Frag} {k : Nat} {C : Str} {ps : List Str} {sp : Sp}
def aftN (Q : VK) : VK := fun v H2 => ∃ k : Bool, v = .bl k ∧ Q (.bl (!k)) H2
def rNeO (C : Addr) (sp : Sp) : R2 := fun x y H Q => ∃ a b dx dy fs gs, x = .ref a ∧ y = .ref b ∧ H a = some (.ins C dx fs) ∧ H b = some (.ins C dy gs) ∧ sp [.ref a, .ref b] H (aftN Q) E0
theorem opNeO (D : DM X.prog X.w X.K X.mg X.base k C "__eq__" ps [] sp) (n0 : Ne0 X.K C) {j : Nat} (hr : Room j X.A) (hj : k + 1 ≤ j) : OpR X (compareOp .NotEq) (rNeO (He.ga X.K C) sp) := by
  obtain ⟨fd, ds, F, c, _, hb, hv⟩ := D.ex
  cases hv
  intro pins s σ H x y u v Q I rx ry h
  obtain ⟨a, b, dx, dy, fs, gs, rfl, rfl, ha, hb', q⟩ := h
  cases rx
  cases ry
  obtain ⟨mA, J, _⟩ := ins_get I.hok ha
  obtain ⟨mB, J', _⟩ := ins_get I.hok hb'
  obtain ⟨od, J, _⟩ := J.look
  obtain ⟨od', J', _⟩ := J'.look
  obtain ⟨m, hF⟩ := I.fr
  show wpAny (model X.prog X.w) X.A (richCompare .NotEq (.ref a) (.ref b)) (EP X pins σ Q) X.xe s
  refine ne_K (b := .ref b) (tb := .ref (He.ga X.K C)) (hu_of hr) hF I.ok.mod.kin J J'.type (by simp [PySem.W.notFirst]) n0.n n0.o c.at_ c.fn ?_
  have e0 : Env0 X.prog X.w X.K X.mg X.base X.A.in1 X.stack s H := by
    have e := I.env0
    exact ⟨e.frames, e.mod, e.bs, e.bsz, e.funs, e.frf, e.hok, e.bare⟩
  have hl := F.len _ _ _ _ q
  refine wpAny_call (codeAny_mono (F.run X.A.in1 X.stack s H ⟨[.ref a, .ref b], []⟩ [.ref a, .ref b] [.ref a, .ref b] _ E0 (hr.mono hj).in1 e0 (by
    have := hb s [.ref a, .ref b] I.kIn (by simpa using hl)
    simpa using this) (.cons rfl (.cons rfl .nil)) q) fun r s' hq => ?_)
  cases r with
  | error e => exact pass0 pins σ H s e s' I hq
  | ok fl =>
    cases fl with
    | ret w =>
      obtain ⟨z, H', I', rz, n, ez, q⟩ := I.after hq
      subst ez
      cases rz
      exact ⟨n, rfl, .bl (!n), H', I', rfl, q⟩
    | next => exact False.elim hq
    | brk => exact False.elim hq
    | cont => exact False.elim hq
end
section
variable {K : PySem.W.Frag} {H : Hp} {Q : VK} {c : Addr} {a b dx dy : Addr} {fs gs : List (Str × V)} {sp : Sp}
theorem n_neO (h : H a = some (.ins c dx fs)) (h' : H b = some (.ins c dy gs)) (q : sp [.ref a, .ref b] H (aftN Q) E0) : rNeO c sp (.ref a) (.ref b) H Q := ⟨a, b, dx, dy, fs, gs, rfl, rfl, h, h', q⟩
end
end R
namespace R
open PySem L2
/-! ### slots behind the fourteenth -/
section
variable {a0 a1 a2 a3 a4 a5 a6 a7 a8 a9 a10 a11 a12 a13 a14 a15 a16 a17 a18 a19 a20 a21 a22 a23 : Option V} {r : L2.St} {H : Hp} {Q : VK} {N : L2.St → Hp → Prop} {x : V}
theorem w_v14 (q : Q x H) : tVar 14 (a0 :: a1 :: a2 :: a3 :: a4 :: a5 :: a6 :: a7 :: a8 :: a9 :: a10 :: a11 :: a12 :: a13 :: some x :: r) H Q := ⟨x, rfl, q⟩
instance : Step (tVar 14 (a0 :: a1 :: a2 :: a3 :: a4 :: a5 :: a6 :: a7 :: a8 :: a9 :: a10 :: a11 :: a12 :: a13 :: some x :: r) H Q) (Q x H) := ⟨w_v14⟩ -- st
theorem w_n14 (q : N (a0 :: a1 :: a2 :: a3 :: a4 :: a5 :: a6 :: a7 :: a8 :: a9 :: a10 :: a11 :: a12 :: a13 :: some x :: r) H) : gName 14 x (a0 :: a1 :: a2 :: a3 :: a4 :: a5 :: a6 :: a7 :: a8 :: a9 :: a10 :: a11 :: a12 :: a13 :: a14 :: r) H N := q
instance : Step (gName 14 x (a0 :: a1 :: a2 :: a3 :: a4 :: a5 :: a6 :: a7 :: a8 :: a9 :: a10 :: a11 :: a12 :: a13 :: a14 :: r) H N) (N (a0 :: a1 :: a2 :: a3 :: a4 :: a5 :: a6 :: a7 :: a8 :: a9 :: a10 :: a11 :: a12 :: a13 :: some x :: r) H) := ⟨w_n14⟩ -- st
theorem w_v15 (q : Q x H) : tVar 15 (a0 :: a1 :: a2 :: a3 :: a4 :: a5 :: a6 :: a7 :: a8 :: a9 :: a10 :: a11 :: a12 :: a13 :: a14 :: some x :: r) H Q := ⟨x, rfl, q⟩
instance : Step (tVar 15 (a0 :: a1 :: a2 :: a3 :: a4 :: a5 :: a6 :: a7 :: a8 :: a9 :: a10 :: a11 :: a12 :: a13 :: a14 :: some x :: r) H Q) (Q x H) := ⟨w_v15⟩ -- st
theorem w_n15 (q : N (a0 :: a1 :: a2 :: a3 :: a4 :: a5 :: a6 :: a7 :: a8 :: a9 :: a10 :: a11 :: a12 :: a13 :: a14 :: some x :: r) H) : gName 15 x (a0 :: a1 :: a2 :: a3 :: a4 :: a5 :: a6 :: a7 :: a8 :: a9 :: a10 :: a11 :: a12 :: a13 :: a14 :: a15 :: r) H N := q
instance : Step (gName 15 x (a0 :: a1 :: a2 :: a3 :: a4 :: a5 :: a6 :: a7 :: a8 :: a9 :: a10 :: a11 :: a12 :: a13 :: a14 :: a15 :: r) H N) (N (a0 :: a1 :: a2 :: a3 :: a4 :: a5 :: a6 :: a7 :: a8 :: a9 :: a10 :: a11 :: a12 :: a13 :: a14 :: some x :: r) H) := ⟨w_n15⟩ -- st
theorem w_v16 (q : Q x H) : tVar 16 (a0 :: a1 :: a2 :: a3 :: a4 :: a5 :: a6 :: a7 :: a8 :: a9 :: a10 :: a11 :: a12 :: a13 :: a14 :: a15 :: some x :: r) H Q := ⟨x, rfl, q⟩
instance : Step (tVar 16 (a0 :: a1 :: a2 :: a3 :: a4 :: a5 :: a6 :: a7 :: a8 :: a9 :: a10 :: a11 :: a12 :: a13 :: a14 :: a15 :: some x :: r) H Q) (Q x H) := ⟨w_v16⟩ -- st
theorem w_n16 (q : N (a0 :: a1 :: a2 :: a3 :: a4 :: a5 :: a6 :: a7 :: a8 :: a9 :: a10 :: a11 :: a12 :: a13 :: a14 :: a15 :: some x :: r) H) : gName 16 x (a0 :: a1 :: a2 :: a3 :: a4 :: a5 :: a6 :: a7 :: a8 :: a9 :: a10 :: a11 :: a12 :: a13 :: a14 :: a15 :: a16 :: r) H N := q
instance : Step (gName 16 x (a0 :: a1 :: a2 :: a3 :: a4 :: a5 :: a6 :: a7 :: a8 :: a9 :: a10 :: a11 :: a12 :: a13 :: a14 :: a15 :: a16 :: r) H N) (N (a0 :: a1 :: a2 :: a3 :: a4 :: a5 :: a6 :: a7 :: a8 :: a9 :: a10 :: a11 :: a12 :: a13 :: a14 :: a15 :: some x :: r) H) := ⟨w_n16⟩ -- st
theorem w_v17 (q : Q x H) : tVar 17 (a0 :: a1 :: a2 :: a3 :: a4 :: a5 :: a6 :: a7 :: a8 :: a9 :: a10 :: a11 :: a12 :: a13 :: a14 :: a15 :: a16 :: some x :: r) H Q := ⟨x, rfl, q⟩
instance : Step (tVar 17 (a0 :: a1 :: a2 :: a3 :: a4 :: a5 :: a6 :: a7 :: a8 :: a9 :: a10 :: a11 :: a12 :: a13 :: a14 :: a15 :: a16 :: some x :: r) H Q) (Q x H) := ⟨w_v17⟩ -- st
theorem w_n17 (q : N (a0 :: a1 :: a2 :: a3 :: a4 :: a5 :: a6 :: a7 :: a8 :: a9 :: a10 :: a11 :: a12 :: a13 :: a14 :: a15 :: a16 :: some x :: r) H) : gName 17 x (a0 :: a1 :: a2 :: a3 :: a4 :: a5 :: a6 :: a7 :: a8 :: a9 :: a10 :: a11 :: a12 :: a13 :: a14 :: a15 :: a16 :: a17 :: r) H N := q
instance : Step (gName 17 x (a0 :: a1 :: a2 :: a3 :: a4 :: a5 :: a6 :: a7 :: a8 :: a9 :: a10 :: a11 :: a12 :: a13 :: a14 :: a15 :: a16 :: a17 :: r) H N) (N (a0 :: a1 :: a2 :: a3 :: a4 :: a5 :: a6 :: a7 :: a8 :: a9 :: a10 :: a11 :: a12 :: a13 :: a14 :: a15 :: a16 :: some x :: r) H) := ⟨w_n17⟩ -- st
theorem w_v18 (q : Q x H) : tVar 18 (a0 :: a1 :: a2 :: a3 :: a4 :: a5 :: a6 :: a7 :: a8 :: a9 :: a10 :: a11 :: a12 :: a13 :: a14 :: a15 :: a16 :: a17 :: some x :: r) H Q := ⟨x, rfl, q⟩
instance : Step (tVar 18 (a0 :: a1 :: a2 :: a3 :: a4 :: a5 :: a6 :: a7 :: a8 :: a9 :: a10 :: a11 :: a12 :: a13 :: a14 :: a15 :: a16 :: a17 :: some x :: r) H Q) (Q x H) := ⟨w_v18⟩ -- st
theorem w_n18 (q : N (a0 :: a1 :: a2 :: a3 :: a4 :: a5 :: a6 :: a7 :: a8 :: a9 :: a10 :: a11 :: a12 :: a13 :: a14 :: a15 :: a16 :: a17 :: some x :: r) H) : gName 18 x (a0 :: a1 :: a2 :: a3 :: a4 :: a5 :: a6 :: a7 :: a8 :: a9 :: a10 :: a11 :: a12 :: a13 :: a14 :: a15 :: a16 :: a17 :: a18 :: r) H N := q
instance : Step (gName 18 x (a0 :: a1 :: a2 :: a3 :: a4 :: a5 :: a6 :: a7 :: a8 :: a9 :: a10 :: a11 :: a12 :: a13 :: a14 :: a15 :: a16 :: a17 :: a18 :: r) H N) (N (a0 :: a1 :: a2 :: a3 :: a4 :: a5 :: a6 :: a7 :: a8 :: a9 :: a10 :: a11 :: a12 :: a13 :: a14 :: a15 :: a16 :: a17 :: some x :: r) H) := ⟨w_n18⟩ -- st
theorem w_v19 (q : Q x H) : tVar 19 (a0 :: a1 :: a2 :: a3 :: a4 :: a5 :: a6 :: a7 :: a8 :: a9 :: a10 :: a11 :: a12 :: a13 :: a14 :: a15 :: a16 :: a17 :: a18 :: some x :: r) H Q := ⟨x, rfl, q⟩
instance : Step (tVar 19 (a0 :: a1 :: a2 :: a3 :: a4 :: a5 :: a6 :: a7 :: a8 :: a9 :: a10 :: a11 :: a12 :: a13 :: a14 :: a15 :: a16 :: a17 :: a18 :: some x :: r) H Q) (Q x H) := ⟨w_v19⟩ -- st
theorem w_n19 (q : N (a0 :: a1 :: a2 :: a3 :: a4 :: a5 :: a6 :: a7 :: a8 :: a9 :: a10 :: a11 :: a12 :: a13 :: a14 :: a15 :: a16 :: a17 :: a18 :: some x :: r) H) : gName 19 x (a0 :: a1 :: a2 :: a3 :: a4 :: a5 :: a6 :: a7 :: a8 :: a9 :: a10 :: a11 :: a12 :: a13 :: a14 :: a15 :: a16 :: a17 :: a18 :: a19 :: r) H N := q
instance : Step (gName 19 x (a0 :: a1 :: a2 :: a3 :: a4 :: a5 :: a6 :: a7 :: a8 :: a9 :: a10 :: a11 :: a12 :: a13 :: a14 :: a15 :: a16 :: a17 :: a18 :: a19 :: r) H N) (N (a0 :: a1 :: a2 :: a3 :: a4 :: a5 :: a6 :: a7 :: a8 :: a9 :: a10 :: a11 :: a12 :: a13 :: a14 :: a15 :: a16 :: a17 :: a18 :: some x :: r) H) := ⟨w_n19⟩ -- st
theorem w_v20 (q : Q x H) : tVar 20 (a0 :: a1 :: a2 :: a3 :: a4 :: a5 :: a6 :: a7 :: a8 :: a9 :: a10 :: a11 :: a12 :: a13 :: a14 :: a15 :: a16 :: a17 :: a18 :: a19 :: some x :: r) H Q := ⟨x, rfl, q⟩
instance : Step (tVar 20 (a0 :: a1 :: a2 :: a3 :: a4 :: a5 :: a6 :: a7 :: a8 :: a9 :: a10 :: a11 :: a12 :: a13 :: a14 :: a15 :: a16 :: a17 :: a18 :: a19 :: some x :: r) H Q) (Q x H) := ⟨w_v20⟩ -- st
theorem w_n20 (q : N (a0 :: a1 :: a2 :: a3 :: a4 :: a5 :: a6 :: a7 :: a8 :: a9 :: a10 :: a11 :: a12 :: a13 :: a14 :: a15 :: a16 :: a17 :: a18 :: a19 :: some x :: r) H) : gName 20 x (a0 :: a1 :: a2 :: a3 :: a4 :: a5 :: a6 :: a7 :: a8 :: a9 :: a10 :: a11 :: a12 :: a13 :: a14 :: a15 :: a16 :: a17 :: a18 :: a19 :: a20 :: r) H N := q
instance : Step (gName 20 x (a0 :: a1 :: a2 :: a3 :: a4 :: a5 :: a6 :: a7 :: a8 :: a9 :: a10 :: a11 :: a12 :: a13 :: a14 :: a15 :: a16 :: a17 :: a18 :: a19 :: a20 :: r) H N) (N (a0 :: a1 :: a2 :: a3 :: a4 :: a5 :: a6 :: a7 :: a8 :: a9 :: a10 :: a11 :: a12 :: a13 :: a14 :: a15 :: a16 :: a17 :: a18 :: a19 :: some x :: r) H) := ⟨w_n20⟩ -- st
theorem w_v21 (q : Q x H) : tVar 21 (a0 :: a1 :: a2 :: a3 :: a4 :: a5 :: a6 :: a7 :: a8 :: a9 :: a10 :: a11 :: a12 :: a13 :: a14 :: a15 :: a16 :: a17 :: a18 :: a19 :: a20 :: some x :: r) H Q := ⟨x, rfl, q⟩
instance : Step (tVar 21 (a0 :: a1 :: a2 :: a3 :: a4 :: a5 :: a6 :: a7 :: a8 :: a9 :: a10 :: a11 :: a12 :: a13 :: a14 :: a15 :: a16 :: a17 :: a18 :: a19 :: a20 :: some x :: r) H Q) (Q x H) := ⟨w_v21⟩ -- st
theorem w_n21 (q : N (a0 :: a1 :: a2 :: a3 :: a4 :: a5 :: a6 :: a7 :: a8 :: a9 :: a10 :: a11 :: a12 :: a13 :: a14 :: a15 :: a16 :: a17 :: a18 :: a19 :: a20 :: some x :: r) H) : gName 21 x (a0 :: a1 :: a2 :: a3 :: a4 :: a5 :: a6 :: a7 :: a8 :: a9 :: a10 :: a11 :: a12 :: a13 :: a14 :: a15 :: a16 :: a17 :: a18 :: a19 :: a20 :: a21 :: r) H N := q
instance : Step (gName 21 x (a0 :: a1 :: a2 :: a3 :: a4 :: a5 :: a6 :: a7 :: a8 :: a9 :: a10 :: a11 :: a12 :: a13 :: a14 :: a15 :: a16 :: a17 :: a18 :: a19 :: a20 :: a21 :: r) H N) (N (a0 :: a1 :: a2 :: a3 :: a4 :: a5 :: a6 :: a7 :: a8 :: a9 :: a10 :: a11 :: a12 :: a13 :: a14 :: a15 :: a16 :: a17 :: a18 :: a19 :: a20 :: some x :: r) H) := ⟨w_n21⟩ -- st
theorem w_v22 (q : Q x H) : tVar 22 (a0 :: a1 :: a2 :: a3 :: a4 :: a5 :: a6 :: a7 :: a8 :: a9 :: a10 :: a11 :: a12 :: a13 :: a14 :: a15 :: a16 :: a17 :: a18 :: a19 :: a20 :: a21 :: some x :: r) H Q := ⟨x, rfl, q⟩
instance : Step (tVar 22 (a0 :: a1 :: a2 :: a3 :: a4 :: a5 :: a6 :: a7 :: a8 :: a9 :: a10 :: a11 :: a12 :: a13 :: a14 :: a15 :: a16 :: a17 :: a18 :: a19 :: a20 :: a21 :: some x :: r) H Q) (Q x H) := ⟨w_v22⟩ -- st
theorem w_n22 (q : N (a0 :: a1 :: a2 :: a3 :: a4 :: a5 :: a6 :: a7 :: a8 :: a9 :: a10 :: a11 :: a12 :: a13 :: a14 :: a15 :: a16 :: a17 :: a18 :: a19 :: a20 :: a21 :: some x :: r) H) : gName 22 x (a0 :: a1 :: a2 :: a3 :: a4 :: a5 :: a6 :: a7 :: a8 :: a9 :: a10 :: a11 :: a12 :: a13 :: a14 :: a15 :: a16 :: a17 :: a18 :: a19 :: a20 :: a21 :: a22 :: r) H N := q
instance : Step (gName 22 x (a0 :: a1 :: a2 :: a3 :: a4 :: a5 :: a6 :: a7 :: a8 :: a9 :: a10 :: a11 :: a12 :: a13 :: a14 :: a15 :: a16 :: a17 :: a18 :: a19 :: a20 :: a21 :: a22 :: r) H N) (N (a0 :: a1 :: a2 :: a3 :: a4 :: a5 :: a6 :: a7 :: a8 :: a9 :: a10 :: a11 :: a12 :: a13 :: a14 :: a15 :: a16 :: a17 :: a18 :: a19 :: a20 :: a21 :: some x :: r) H) := ⟨w_n22⟩ -- st
theorem w_v23 (q : Q x H) : tVar 23 (a0 :: a1 :: a2 :: a3 :: a4 :: a5 :: a6 :: a7 :: a8 :: a9 :: a10 :: a11 :: a12 :: a13 :: a14 :: a15 :: a16 :: a17 :: a18 :: a19 :: a20 :: a21 :: a22 :: some x :: r) H Q := ⟨x, rfl, q⟩
instance : Step (tVar 23 (a0 :: a1 :: a2 :: a3 :: a4 :: a5 :: a6 :: a7 :: a8 :: a9 :: a10 :: a11 :: a12 :: a13 :: a14 :: a15 :: a16 :: a17 :: a18 :: a19 :: a20 :: a21 :: a22 :: some x :: r) H Q) (Q x H) := ⟨w_v23⟩ -- st
theorem w_n23 (q : N (a0 :: a1 :: a2 :: a3 :: a4 :: a5 :: a6 :: a7 :: a8 :: a9 :: a10 :: a11 :: a12 :: a13 :: a14 :: a15 :: a16 :: a17 :: a18 :: a19 :: a20 :: a21 :: a22 :: some x :: r) H) : gName 23 x (a0 :: a1 :: a2 :: a3 :: a4 :: a5 :: a6 :: a7 :: a8 :: a9 :: a10 :: a11 :: a12 :: a13 :: a14 :: a15 :: a16 :: a17 :: a18 :: a19 :: a20 :: a21 :: a22 :: a23 :: r) H N := q
instance : Step (gName 23 x (a0 :: a1 :: a2 :: a3 :: a4 :: a5 :: a6 :: a7 :: a8 :: a9 :: a10 :: a11 :: a12 :: a13 :: a14 :: a15 :: a16 :: a17 :: a18 :: a19 :: a20 :: a21 :: a22 :: a23 :: r) H N) (N (a0 :: a1 :: a2 :: a3 :: a4 :: a5 :: a6 :: a7 :: a8 :: a9 :: a10 :: a11 :: a12 :: a13 :: a14 :: a15 :: a16 :: a17 :: a18 :: a19 :: a20 :: a21 :: a22 :: some x :: r) H) := ⟨w_n23⟩ -- st
end
end R
namespace R
open PySem PySem.Spec PyProof.Rows L2
/-! ### texts split, numbers read -/
def splitG : V → List V → Hp → VK → Prop := fun x xs H Q => ∃ a b, x = .str a ∧ xs = [.str b] ∧ (b.length == 0) = false ∧ a.length + 2 ≤ sizeLine ∧ rNewStrs (Txt.split a b) H Q
section
variable {X : Cx} {o e : Expr} {to te : TE} {apos pos : Pos}
theorem pe_splitG (ho : PE X o to) (he : PE X e te) (hs : starEach [e] X.env = [(false, eval e X.env)] := by rfl) (hbase : attributeBase o "split" X.env (eval o X.env) = eval o X.env := by rfl) (hline : (apos.endLine == pos.line) = true := by rfl) :
    PE X (.Call (.Attribute o "split" apos) [e] [] pos) (tM1 splitG to te) := pe_split ho he hs hbase hline
def rIntS : List V → Hp → VK → Prop := fun xs H Q => ∃ a n, xs = [.str a] ∧ PySem.intText? a = some n ∧ a.length ≤ 640 ∧ Q (.int n) H
theorem clIntS : CallR X (.type "int") rIntS := call_int_str
end
section
variable {K : PySem.W.Frag} {M : List Addr} {F0 H0 F H : Hp} {L : List Own} {Q : VK} {a b : Str} {n : Int}
theorem n_split (w : W M F0 H0 F H L) (hl : a.length ≤ 1000000) (hb : b.length ≠ 0) (q : ∀ p H1, W M F0 H0 F H1 (mu p (.lst ((Txt.split a b).map V.str)) :: L) → H0 p = none → Q (.ref p) H1) : splitG (.str a) [.str b] H Q :=
  ⟨a, b, rfl, rfl, beq_eq_false_iff_ne.mpr hb, by rw [sizeLine_eq]; omega, fun p hp => q p _ (w.nw (u := .lst ((Txt.split a b).map V.str)) hp) (w.g.fresh hp)⟩
theorem n_intS (h : intText? a = some n) (hl : a.length ≤ 640) (q : Q (.int n) H) : rIntS [.str a] H Q := ⟨a, n, rfl, h, hl, q⟩
end
/-! ### a whole text of the globals -/
theorem pe_gstr {X : Cx} {x z : Str} {pos : Pos} (hg : Gl X x) (hm : ∃ t, X.mg x = some (.str z t)) (hd : (x == ("__debug__" : Str)) = false := by decide) : PE X (.Name x pos) (tC (.str z)) := by
  obtain ⟨t, h⟩ := hm
  exact pe_glob hg h ⟨_, rfl⟩ hd
/-! ### signs without blanks -/
def clean (s : Str) : Prop := ∀ c ∈ cd s, 33 ≤ c ∧ c ≤ 126
theorem clean_ok {s : Str} (h : clean s) : okS s := ok_codes.mpr fun c hc => by
  have := (h c hc).2
  omega
def CRow.cl : CRow → Prop
  | .put s => clean s
  | .copy _ _ => True
/-! ### numbers as they are written -/
def numI (i : Int) : Str := Str.ofString (toString i)
theorem cd_of (s : String) : cd (Str.ofString s) = s.toList.map Char.toNat := PyProof.Rows.signs_ofString s
theorem num_nn (n : Nat) : cd (numI (n : Nat)) = TL.numL n := TL.tl_num n
theorem num_neg (n : Nat) : cd (numI (Int.negSucc n)) = 45 :: TL.numL (n + 1) := by
  have e : toString (Int.negSucc n) = "-" ++ toString ((n + 1 : Nat) : Int) := rfl
  unfold numI
  rw [e, cd_of, String.toList_append, List.map_append, ← cd_of (toString ((n + 1 : Nat) : Int))]
  exact congrArg (fun l => 45 :: l) (num_nn (n + 1))
def numA (i : Int) : List Nat := if i < 0 then 45 :: TL.numL i.natAbs else TL.numL i.natAbs
theorem num_cd (i : Int) : cd (numI i) = numA i := by
  unfold numA
  cases i with
  | ofNat n =>
    rw [if_neg (by simp)]
    exact num_nn n
  | negSucc n =>
    rw [if_pos (Int.negSucc_lt_zero n)]
    exact num_neg n
theorem num_clean (i : Int) : clean (numI i) := fun c hc => by
  rw [num_cd] at hc
  unfold numA at hc
  have hd := TL.numL_digits i.natAbs
  split at hc
  · rcases List.mem_cons.mp hc with rfl | hc
    · exact ⟨by decide, by decide⟩
    · have := hd c hc
      omega
  · have := hd c hc
    omega
theorem num_len {i : Int} {k : Nat} (hk : 0 < k) (h : i.natAbs < 10 ^ k) : (numI i).length ≤ k + 1 := by
  rw [← cd_len, num_cd]
  unfold numA
  have := TL.numL_len hk h
  split
  · rw [List.length_cons]; omega
  · omega
theorem num_len_nn {n : Nat} {k : Nat} (hk : 0 < k) (h : n < 10 ^ k) : (numI (n : Nat)).length ≤ k := by
  rw [← cd_len, num_nn]
  exact TL.numL_len hk h
theorem numL_head {n : Nat} (h : 0 < n) : ∃ c r, TL.numL n = c :: r ∧ c ≠ 48 := by
  induction n using Nat.strongRecOn with
  | _ n ih =>
    by_cases h1 : n < 10
    · exact ⟨48 + n, [], TL.numL_lt h1, by omega⟩
    · obtain ⟨c, r, e, hc⟩ := ih (n / 10) (by omega) (by omega)
      exact ⟨c, r ++ [48 + n % 10], by rw [TL.numL_step (by omega), e]; rfl, hc⟩
/-! ### whether some signs write a whole number -/
def dg (c : Nat) : Bool := decide (48 ≤ c ∧ c ≤ 57)
def figs (cs : List Nat) : List Nat := if cs.take 1 = [45] then cs.drop 1 else cs
def isNumB (cs : List Nat) : Bool := !(decide (figs cs = []) || decide (60 < (figs cs).length) || !decide ((figs cs).filter (fun c => !dg c) = [])) && (decide (cs = [48]) || !decide ((figs cs).take 1 = [48]))
def numVal (cs : List Nat) : Int := if cs.take 1 = [45] then -((NumText.digitsVal (figs cs) : Nat) : Int) else ((NumText.digitsVal (figs cs) : Nat) : Int)
theorem all_dg {cs : List Nat} (h : NumText.AllDigits cs) : cs.filter (fun c => !dg c) = [] := by
  refine List.filter_eq_nil_iff.mpr fun c hc => ?_
  have := h c hc
  unfold dg
  rw [decide_eq_true (show 48 ≤ c ∧ c ≤ 57 from this)]
  decide
theorem dg_all {cs : List Nat} (h : cs.filter (fun c => !dg c) = []) : NumText.AllDigits cs := fun c hc => by
  have := List.filter_eq_nil_iff.mp h c hc
  unfold dg at this
  by_cases e : 48 ≤ c ∧ c ≤ 57
  · exact e
  · rw [decide_eq_false e] at this
    exact absurd rfl this
theorem figs_num (i : Int) : figs (numA i) = TL.numL i.natAbs := by
  unfold figs numA
  by_cases h : i < 0
  · rw [if_pos h]
    rfl
  · rw [if_neg h, if_neg]
    intro e
    have hm : 45 ∈ TL.numL i.natAbs := List.mem_of_mem_take (i := 1) (by rw [e]; exact List.mem_singleton.mpr rfl)
    have := TL.numL_digits _ 45 hm
    omega
theorem take_num (i : Int) : (numA i).take 1 = [45] ↔ i < 0 := by
  unfold numA
  by_cases h : i < 0
  · rw [if_pos h]
    exact ⟨fun _ => h, fun _ => rfl⟩
  · rw [if_neg h]
    refine ⟨fun e => ?_, fun z => absurd z h⟩
    have hm : 45 ∈ TL.numL i.natAbs := List.mem_of_mem_take (i := 1) (by rw [e]; exact List.mem_singleton.mpr rfl)
    have := TL.numL_digits _ 45 hm
    omega
theorem num_is {i : Int} (h : i.natAbs < 10 ^ 60) : isNumB (cd (numI i)) = true := by
  rw [num_cd]
  unfold isNumB
  have h1 := TL.numL_ne i.natAbs
  have h2 := TL.numL_len (k := 60) (by decide) h
  rw [figs_num, decide_eq_false h1, decide_eq_false (by omega), all_dg (TL.numL_digits _), decide_eq_true rfl]
  by_cases h0 : i = 0
  · subst h0
    rfl
  · obtain ⟨c, r, e, hc⟩ := numL_head (n := i.natAbs) (by omega)
    have h9 : ¬ [c] = [48] := fun z => by injection z with z1 z2; exact hc z1
    rw [e]
    show (!(false || false || !true) && (decide (numA i = [48]) || !decide ([c] = [48]))) = true
    rw [decide_eq_false h9]
    simp
theorem num_val (i : Int) : numVal (cd (numI i)) = i := by
  rw [num_cd]
  unfold numVal
  rw [figs_num, TL.numL_val]
  by_cases h : i < 0
  · rw [if_pos ((take_num i).mpr h)]
    omega
  · rw [if_neg (fun z => h ((take_num i).mp z))]
    omega
/-- what int(word) reads -/
theorem num_reads {s : Str} (h : isNumB (cd s) = true) : intText? s = some (numVal (cd s)) ∧ s.length ≤ 640 := by
  unfold isNumB at h
  rw [Bool.and_eq_true, Bool.not_eq_true', Bool.or_eq_false_iff, Bool.or_eq_false_iff, Bool.not_eq_false', decide_eq_false_iff_not, decide_eq_false_iff_not, decide_eq_true_eq] at h
  obtain ⟨⟨⟨h1, h2⟩, h3⟩, _⟩ := h
  have hd := dg_all h3
  have hl : s.length = (cd s).length := (cd_len s).symm
  unfold numVal
  by_cases e : (cd s).take 1 = [45]
  · have ef : figs (cd s) = (cd s).drop 1 := if_pos e
    rw [ef] at h1 h2 hd
    have ec : cd s = 45 :: (cd s).drop 1 := by
      conv => lhs; rw [← List.take_append_drop 1 (cd s), e]
      rfl
    have el : (cd s).length ≤ 61 := by
      have := congrArg List.length ec
      rw [List.length_cons] at this
      omega
    rw [if_pos e, ef]
    exact ⟨PySem.intText_neg (x := s) ec hd h1 (by omega), by omega⟩
  · have ef : figs (cd s) = cd s := if_neg e
    rw [ef] at h1 h2 hd
    rw [if_neg e, ef]
    exact ⟨PySem.intText_digits (x := s) hd h1 (by omega), by omega⟩
/-- figures, by the text of them -/
theorem fig_in (c : Nat) : inB (cd (Str.ofString "0123456789")) [c] = dg c := by
  rw [Bool.eq_iff_iff, inB_iff]
  have e : cd (Str.ofString "0123456789") = [48, 49, 50, 51, 52, 53, 54, 55, 56, 57] := by decide +kernel
  rw [e]
  unfold dg
  rw [decide_eq_true_eq]
  constructor
  · rintro ⟨a, h1, h2⟩
    have h1 : a + 1 ≤ 10 := h1
    have h2 : ([48, 49, 50, 51, 52, 53, 54, 55, 56, 57].drop a).take 1 = [c] := h2
    rcases (show a = 0 ∨ a = 1 ∨ a = 2 ∨ a = 3 ∨ a = 4 ∨ a = 5 ∨ a = 6 ∨ a = 7 ∨ a = 8 ∨ a = 9 by omega) with rfl | rfl | rfl | rfl | rfl | rfl | rfl | rfl | rfl | rfl <;>
    · injection h2 with h3 _
      omega
  · rintro ⟨h1, h2⟩
    refine ⟨c - 48, by show c - 48 + 1 ≤ 10; omega, ?_⟩
    rcases (show c = 48 ∨ c = 49 ∨ c = 50 ∨ c = 51 ∨ c = 52 ∨ c = 53 ∨ c = 54 ∨ c = 55 ∨ c = 56 ∨ c = 57 by omega) with rfl | rfl | rfl | rfl | rfl | rfl | rfl | rfl | rfl | rfl <;> rfl
/-! ### words and rows of a text -/
def joinW (ws : List Str) : Str := Txt.join (Str.ofString " ") ws
def joinN (ls : List Str) : Str := Txt.join (Str.ofString "\n") ls
theorem sp_cdT : cd (Str.ofString " ") = [32] := by decide +kernel
theorem joinW_cd (ws : List Str) : cd (joinW ws) = TL.joinL [32] (ws.map cd) := by
  have e : TL.tl (Txt.join (Str.ofString " ") ws) = TL.joinL (TL.tl (Str.ofString " ")) (ws.map TL.tl) := by
    rw [TL.join_eq, TL.tl_join]
  exact e.trans (by rw [show TL.tl (Str.ofString " ") = [32] from sp_cdT])
theorem joinN_cd (ls : List Str) : cd (joinN ls) = TL.joinL [10] (ls.map cd) := by
  have e : TL.tl (Txt.join (Str.ofString "\n") ls) = TL.joinL (TL.tl (Str.ofString "\n")) (ls.map TL.tl) := by
    rw [TL.join_eq, TL.tl_join]
  exact e.trans (by rw [show TL.tl (Str.ofString "\n") = [10] from nl_cd])
theorem mem_joinL {S : List Nat} {c : Nat} : ∀ {l : List (List Nat)}, c ∈ TL.joinL S l → c ∈ S ∨ ∃ p ∈ l, c ∈ p
  | [], h => by cases h
  | [p], h => .inr ⟨p, List.mem_singleton.mpr rfl, h⟩
  | p :: q :: r, h => by
    have h : c ∈ p ++ (S ++ TL.joinL S (q :: r)) := h
    rcases List.mem_append.mp h with h | h
    · exact .inr ⟨p, List.mem_cons_self .., h⟩
    · rcases List.mem_append.mp h with h | h
      · exact .inl h
      · rcases mem_joinL h with h | ⟨t, ht, h⟩
        · exact .inl h
        · exact .inr ⟨t, List.mem_cons_of_mem _ ht, h⟩
theorem split_w {ws : List Str} (h : ws ≠ []) (hc : ∀ w ∈ ws, clean w) : Txt.split (joinW ws) (Str.ofString " ") = ws :=
  TL.split_join (y := Str.ofString " ") (s := 32) (S := []) sp_cdT (by decide +kernel) h fun p hp hm => by
    have := (hc p hp 32 hm).1
    omega
theorem split_n {ls : List Str} (h : ls ≠ []) (hc : ∀ l ∈ ls, 10 ∉ cd l) : Txt.split (joinN ls) (Str.ofString "\n") = ls :=
  TL.split_join (y := Str.ofString "\n") (s := 10) (S := []) nl_cd (by decide +kernel) h fun p hp hm => hc p hp hm
theorem joinW_no10 {ws : List Str} (hc : ∀ w ∈ ws, clean w) : 10 ∉ cd (joinW ws) := fun hm => by
  rw [joinW_cd] at hm
  rcases mem_joinL hm with hm | ⟨p, hp, hm⟩
  · exact absurd (List.mem_singleton.mp hm) (by decide)
  · obtain ⟨w, hw, rfl⟩ := List.mem_map.mp hp
    have := (hc w hw 10 hm).1
    omega
theorem joinL_len (S : List Nat) : ∀ l : List (List Nat), (TL.joinL S l).length ≤ (l.map List.length).sum + l.length * S.length
  | [] => Nat.zero_le _
  | [p] => by
    show p.length ≤ p.length + 0 + _
    omega
  | p :: q :: r => by
    have ih := joinL_len S (q :: r)
    show (p ++ (S ++ TL.joinL S (q :: r))).length ≤ p.length + ((q :: r).map List.length).sum + ((q :: r).length + 1) * S.length
    rw [List.length_append, List.length_append, Nat.succ_mul]
    omega
theorem cdl_sum (ws : List Str) : ((ws.map cd).map List.length).sum = (ws.map (·.length)).sum := by
  rw [List.map_map]
  exact congrArg List.sum (List.map_congr_left fun w _ => cd_len w)
theorem joinW_len (ws : List Str) : (joinW ws).length ≤ (ws.map (·.length)).sum + ws.length := by
  rw [← cd_len, joinW_cd]
  have := joinL_len [32] (ws.map cd)
  rw [cdl_sum, List.length_map] at this
  have e : ws.length * ([32] : List Nat).length = ws.length := Nat.mul_one _
  omega
theorem joinN_len (ls : List Str) : (joinN ls).length ≤ (ls.map (·.length)).sum + ls.length := by
  rw [← cd_len, joinN_cd]
  have := joinL_len [10] (ls.map cd)
  rw [cdl_sum, List.length_map] at this
  have e : ls.length * ([10] : List Nat).length = ls.length := Nat.mul_one _
  omega
theorem join_ok {S : List Nat} {ws : List Str} (hS : ∀ c ∈ S, c < 0x110000) (h : ∀ w ∈ ws, okS w) : ∀ c ∈ TL.joinL S (ws.map cd), c < 0x110000 := fun c hc => by
  rcases mem_joinL hc with hc | ⟨p, hp, hc⟩
  · exact hS c hc
  · obtain ⟨w, hw, rfl⟩ := List.mem_map.mp hp
    exact ok_codes.mp (h w hw) c hc
theorem joinW_ok {ws : List Str} (h : ∀ w ∈ ws, okS w) : okS (joinW ws) := ok_codes.mpr (by rw [joinW_cd]; exact join_ok (by decide) h)
theorem joinN_ok {ws : List Str} (h : ∀ w ∈ ws, okS w) : okS (joinN ws) := ok_codes.mpr (by rw [joinN_cd]; exact join_ok (by decide) h)
/-! ### rows of words and numbers -/
inductive GP where
  | i (n : Int)
  | s (z : Str)
def GP.d : GP → PyData
  | .i n => .int n
  | .s z => .str z
def GP.v : GP → V
  | .i n => .int n
  | .s z => .str z
def GP.z : GP → Str
  | .i n => numI n
  | .s z => z
def GP.ok : GP → Prop
  | .i n => n.natAbs < 10 ^ 60
  | .s z => okS z ∧ z.length ≤ 400
def GP.cl : GP → Prop
  | .i _ => True
  | .s z => clean z
structure GRow where
  w : Str
  ps : List GP
def GRow.d (r : GRow) : PyData := .tuple (.str r.w :: r.ps.map GP.d)
def GRow.vals (r : GRow) : List V := .str r.w :: r.ps.map GP.v
def GRow.ws (r : GRow) : List Str := r.w :: r.ps.map GP.z
structure GRow.ok (r : GRow) : Prop where
  w : okS r.w
  wl : r.w.length ≤ 4
  p : ∀ q ∈ r.ps, q.ok
  l : r.ps.length ≤ 3
def GRow.cln (r : GRow) : Prop := clean r.w ∧ ∀ q ∈ r.ps, q.cl
def GRow.t (r : GRow) : Str := joinW r.ws
theorem gp_clean {q : GP} (h : q.ok) : okS q.z ∧ q.z.length ≤ 400 := by
  cases q with
  | i n =>
    have := num_len (i := n) (k := 60) (by decide) h
    exact ⟨clean_ok (num_clean n), by show (numI n).length ≤ 400; omega⟩
  | s z => exact h
theorem GRow.oks {r : GRow} (h : r.ok) : ∀ w ∈ r.ws, okS w := fun w hw => by
  rcases List.mem_cons.mp hw with rfl | hw
  · exact h.w
  · obtain ⟨q, hq, rfl⟩ := List.mem_map.mp hw
    exact (gp_clean (h.p q hq)).1
theorem GRow.cl {r : GRow} (h : r.cln) : ∀ w ∈ r.ws, clean w := fun w hw => by
  rcases List.mem_cons.mp hw with rfl | hw
  · exact h.1
  · obtain ⟨q, hq, rfl⟩ := List.mem_map.mp hw
    have := h.2 q hq
    cases q with
    | i n => exact num_clean n
    | s z => exact this
theorem GRow.wne (r : GRow) : r.ws ≠ [] := fun z => nomatch z
theorem GRow.sum {r : GRow} (h : r.ok) : (r.ws.map (·.length)).sum ≤ 1204 := by
  have e : ∀ ps : List GP, (∀ q ∈ ps, q.ok) → ((ps.map GP.z).map (·.length)).sum ≤ ps.length * 400 := by
    intro ps
    induction ps with
    | nil => intro _; exact Nat.zero_le _
    | cons q ps ih =>
      intro hq
      have h1 := (gp_clean (hq q (List.mem_cons_self ..))).2
      have h2 := ih fun x hx => hq x (List.mem_cons_of_mem _ hx)
      rw [List.map_cons, List.map_cons, List.sum_cons, List.length_cons, Nat.succ_mul]
      omega
  have h1 := e r.ps h.p
  have h2 := h.wl
  have h3 := h.l
  show r.w.length + ((r.ps.map GP.z).map (·.length)).sum ≤ 1204
  omega
theorem GRow.tl {r : GRow} (h : r.ok) : r.t.length ≤ 1208 := by
  have h1 := joinW_len r.ws
  have h2 := r.sum h
  have h3 := h.l
  have e : r.ws.length = r.ps.length + 1 := by show ((r.ps.map GP.z).length + 1) = _; rw [List.length_map]
  show (joinW r.ws).length ≤ 1208
  omega
theorem GRow.tok {r : GRow} (h : r.ok) : okS r.t := joinW_ok (r.oks h)
theorem GRow.no10 {r : GRow} (h : r.cln) : 10 ∉ cd r.t := joinW_no10 (r.cl h)
theorem dp_grow {K : PySem.W.Frag} {F : Hp} : ∀ {ps : List GP} {xs : List V}, DpAll K F xs (ps.map GP.d) → xs = ps.map GP.v
  | [], _, h => dpa_nil h
  | q :: ps, _, h => by
    obtain ⟨v, us, rfl, h1, h2⟩ := dpa_cons h
    rw [dp_grow h2]
    cases q with
    | i n => rw [dp_int h1]; rfl
    | s z => rw [dp_str h1]; rfl
theorem dp_g {K : PySem.W.Frag} {F : Hp} {x : V} {r : GRow} (h : Dp K F x r.d) : ∃ a, x = .ref a ∧ SqT K F a r.vals := by
  obtain ⟨a, vs, rfl, hs, h0⟩ := dp_tup h
  obtain ⟨v1, us, rfl, h1, h2⟩ := dpa_cons h0
  rw [dp_str h1, dp_grow h2] at hs
  exact ⟨a, rfl, hs⟩
def gpT (ls : List GRow) : Str := joinN (ls.map GRow.t)
/-- a text of rows, split -/
theorem g_split {ls : List GRow} (h : ls ≠ []) (ho : ∀ r ∈ ls, r.cln) : Txt.split (gpT ls) (Str.ofString "\n") = ls.map GRow.t := split_n (fun z => h (List.map_eq_nil_iff.mp z)) fun l hl => by
  obtain ⟨r, hr, rfl⟩ := List.mem_map.mp hl
  exact (r.no10 (ho r hr))
theorem g_words {r : GRow} (h : r.cln) : Txt.split r.t (Str.ofString " ") = r.ws := split_w r.wne (r.cl h)
/-! ### a change's rows, a plan's rows -/
def CRow.g : CRow → GRow
  | .put s => ⟨Str.ofString "put", [.s s]⟩
  | .copy a n => ⟨Str.ofString "copy", [.i (a : Nat), .i (n : Nat)]⟩
theorem crow_gd (r : CRow) : r.g.d = r.d := by cases r <;> rfl
theorem lit_clean : clean (Str.ofString "put") ∧ clean (Str.ofString "copy") ∧ clean (Str.ofString "keep") ∧ clean (Str.ofString "lay") ∧ clean (Str.ofString "size") := by
  refine ⟨?_, ?_, ?_, ?_, ?_⟩ <;> · show ∀ c ∈ cd _, 33 ≤ c ∧ c ≤ 126; decide +kernel
theorem lit_len : (Str.ofString "put").length ≤ 4 ∧ (Str.ofString "copy").length ≤ 4 ∧ (Str.ofString "keep").length ≤ 4 ∧ (Str.ofString "lay").length ≤ 4 ∧ (Str.ofString "size").length ≤ 4 := by decide +kernel
theorem small_nat {a : Nat} (h : a ≤ 400) : ((a : Nat) : Int).natAbs < 10 ^ 60 := by
  rw [Int.natAbs_natCast]
  exact Nat.lt_of_le_of_lt h (by decide +kernel)
theorem crow_cln {r : CRow} (hc : r.cl) : r.g.cln := by
  cases r with
  | put s => exact ⟨lit_clean.1, fun q hq => by rw [List.mem_singleton.mp hq]; exact hc⟩
  | copy a m =>
    refine ⟨lit_clean.2.1, fun q hq => ?_⟩
    rcases List.mem_cons.mp hq with rfl | hq
    · exact trivial
    · rw [List.mem_singleton.mp hq]; exact trivial
theorem crow_gok {n : Nat} {r : CRow} (h : CRowOk n r) (hn : n ≤ 400) (hg : r.gives ≤ 400) : r.g.ok := by
  cases r with
  | put s => exact ⟨clean_ok lit_clean.1, lit_len.1, fun q hq => by rw [List.mem_singleton.mp hq]; exact ⟨h.s.1, hg⟩, by show 1 ≤ 3; decide⟩
  | copy a m =>
    have h1 : a + m ≤ n := h.h
    refine ⟨clean_ok lit_clean.2.1, lit_len.2.1, fun q hq => ?_, by show 2 ≤ 3; decide⟩
    rcases List.mem_cons.mp hq with rfl | hq
    · exact small_nat (by omega)
    · rw [List.mem_singleton.mp hq]; exact small_nat (by omega)
def sizeG (n : Nat) : GRow := ⟨Str.ofString "size", [.i (n : Nat)]⟩
theorem size_cln (n : Nat) : (sizeG n).cln := ⟨lit_clean.2.2.2.2, fun q hq => by rw [List.mem_singleton.mp hq]; exact trivial⟩
theorem size_gok {n : Nat} (h : n ≤ 400) : (sizeG n).ok := ⟨clean_ok lit_clean.2.2.2.2, lit_len.2.2.2.2, fun q hq => by rw [List.mem_singleton.mp hq]; exact small_nat h, by show 1 ≤ 3; decide⟩
theorem crow_gt (r : CRow) : cd r.g.t = rowW r := by
  show cd (joinW r.g.ws) = _
  rw [joinW_cd]
  cases r with
  | put s =>
    show cd (Str.ofString "put") ++ ([32] ++ cd s) = cd (Str.ofString "put ") ++ cd s
    rw [← List.append_assoc, show cd (Str.ofString "put") ++ [32] = cd (Str.ofString "put ") by decide +kernel]
  | copy a n =>
    show cd (Str.ofString "copy") ++ ([32] ++ (cd (numI (a : Nat)) ++ ([32] ++ cd (numI (n : Nat))))) = cd (Str.ofString "copy ") ++ cd (numS a) ++ cd (Str.ofString " ") ++ cd (numS n)
    rw [sp_cd, show cd (Str.ofString "copy ") = cd (Str.ofString "copy") ++ [32] by decide +kernel]
    simp only [List.append_assoc]
    rfl
theorem writ_g {n : Nat} {rows : List CRow} {s : Str} (h : cd s = writL n rows) : s = gpT (sizeG n :: rows.map CRow.g) := by
  refine cd_inj (h.trans ?_)
  unfold gpT
  rw [joinN_cd, List.map_cons, List.map_cons, joinL_nl]
  have e1 : cd (sizeG n).t = cd (Str.ofString "size ") ++ cd (numS n) := by
    show cd (joinW _) = _
    rw [joinW_cd]
    show cd (Str.ofString "size") ++ ([32] ++ cd (numI (n : Nat))) = _
    rw [← List.append_assoc, show cd (Str.ofString "size") ++ [32] = cd (Str.ofString "size ") by decide +kernel]
    rfl
  rw [e1]
  unfold writL rowsW
  congr 1
  rw [List.map_map, List.map_map, List.flatMap_map]
  refine congrArg (fun f => rows.flatMap f) (funext fun r => ?_)
  show 10 :: rowW r = 10 :: cd r.g.t
  rw [crow_gt]
end R
namespace R
open PySem PySem.Spec PyProof.Rows L2
/-! ### written and read: promises -/
def tot (ls : List GRow) : Nat := (ls.map fun r => r.t.length + 1).sum
theorem tot_snoc (ls : List GRow) (r : GRow) : tot (ls ++ [r]) = tot ls + (r.t.length + 1) := by
  unfold tot
  rw [List.map_append, List.sum_append]
  rfl
theorem tot_sum : ∀ ls : List GRow, ((ls.map GRow.t).map (·.length)).sum + ls.length = tot ls
  | [] => rfl
  | r :: ls => by
    have ih := tot_sum ls
    unfold tot at ih ⊢
    rw [List.map_cons, List.map_cons, List.map_cons, List.sum_cons, List.sum_cons, List.length_cons]
    show r.t.length + _ + (ls.length + 1) = (r.t.length + 1) + _
    omega
theorem gpT_len (ls : List GRow) : (gpT ls).length ≤ tot ls := by
  have h := joinN_len (ls.map GRow.t)
  have h2 := tot_sum ls
  rw [List.length_map] at h
  show (joinN _).length ≤ _
  omega
theorem gpT_ok {ls : List GRow} (h : ∀ r ∈ ls, r.ok) : okS (gpT ls) := joinN_ok fun w hw => by
  obtain ⟨r, hr, rfl⟩ := List.mem_map.mp hw
  exact r.tok (h r hr)
theorem GRow.ws_len (r : GRow) : r.ws.length = r.ps.length + 1 := by show (r.ps.map GP.z).length + 1 = _; rw [List.length_map]
theorem grow_good {r : GRow} (h : r.ok) : good r.d = true ∧ r.d.depth ≤ 1 := by
  have hd : ∀ d ∈ (PyData.str r.w :: r.ps.map GP.d), good d = true ∧ d.depth ≤ 0 := fun d hd => by
    rcases List.mem_cons.mp hd with rfl | hd
    · exact ⟨str_good h.w (Nat.le_trans h.wl (by decide)), Nat.le_refl _⟩
    · obtain ⟨q, hq, rfl⟩ := List.mem_map.mp hd
      cases q with
      | i n => exact ⟨rfl, Nat.le_refl _⟩
      | s z =>
        have := h.p (.s z) hq
        exact ⟨str_good this.1 (Nat.le_trans this.2 (by decide)), Nat.le_refl _⟩
  constructor
  · refine good_tuple (by rw [List.length_cons, List.length_map]; have := h.l; omega) fun d hx => (hd d hx).1
  · exact depth_tuple fun d hx => (hd d hx).2
theorem grows_good {ls : List GRow} (h : ∀ r ∈ ls, r.ok) (hl : ls.length ≤ 100000) : good (.list (ls.map GRow.d)) = true ∧ (PyData.list (ls.map GRow.d)).depth ≤ 2 := by
  constructor
  · refine good_list (by rw [List.length_map]; exact hl) fun d hd => ?_
    obtain ⟨r, hr, rfl⟩ := List.mem_map.mp hd
    exact (grow_good (h r hr)).1
  · refine depth_list fun d hd => ?_
    obtain ⟨r, hr, rfl⟩ := List.mem_map.mp hd
    exact (grow_good (h r hr)).2
theorem n_slT7 {K : PySem.W.Frag} {M : List Addr} {F0 H0 F H : Hp} {L : List Own} {Q : VK} {p : Addr} {xs : List V} {lo hi : Option Int} (w : W M F0 H0 F H L) (hs : SqT K H p xs) (e : ¬ (HT.sIx xs.length 0 lo = 0 ∧ HT.sIx xs.length xs.length hi = xs.length)) (h : ∀ t F2 H2, W M F0 H0 F2 H2 (fx t (.tup (cutV xs lo hi)) :: L) → Q (.ref t) H2) : rSlT K (.ref p) lo hi H Q :=
  ⟨p, xs, rfl, hs, e, fun l hl => h l _ _ ((w.im (u := .tup (cutV xs lo hi)) hl).push (fx l (.tup (cutV xs lo hi))) upd_same)⟩
theorem sIx_one (k : Nat) : HT.sIx (k + 1) 0 (some 1) ≠ 0 := by
  unfold HT.sIx
  simp
theorem log_of {i : Int} (h : i.natAbs < 10 ^ 60) : i.natAbs.log2 < 1920 := by
  by_cases h0 : i.natAbs = 0
  · rw [h0]
    decide
  · exact (Nat.log2_lt h0).mpr (Nat.lt_trans h (by decide +kernel))
theorem slen_sp7 : (Str.ofString " ").length = 1 := by decide +kernel
theorem slen_nl7 : (Str.ofString "\n").length = 1 := by decide +kernel
theorem GRow.jsum {r : GRow} (h : r.ok) : (r.ws.map (·.length)).sum + r.ws.length * (Str.ofString " ").length ≤ 16777216 := by
  have h1 := r.sum h
  have h2 := r.ws_len
  have h3 := h.l
  rw [slen_sp7]
  omega
/-- signs that are no figures, told as texts -/
def badS (cs : List Nat) : List Nat := cs.filter fun c => !dg c
theorem n_neS {K : PySem.W.Frag} {H : Hp} {Q : VK} {p r : Addr} {cs : List Nat} (h1 : SqL K H p (cs.map fun c => V.str ⟨#[c]⟩)) (h2 : SqL K H r []) (l1 : cs.length ≤ 100000) (ho : ∀ c ∈ cs, c < 0x110000) (q : Q (.bl (!decide (cs = []))) H) : rNeD K (.ref p) (.ref r) H Q := by
  have hd : ∀ (F : Hp) (cs : List Nat), DpAll K F (cs.map fun c => V.str ⟨#[c]⟩) (cs.map fun c => PyData.str ⟨#[c]⟩) := fun F cs => by
    induction cs with
    | nil => exact .nil
    | cons c cs ih => exact .cons (.str _) ih
  have g1 : good (.list (cs.map fun c => PyData.str ⟨#[c]⟩)) = true := good_list (by rw [List.length_map]; exact l1) fun d hd => by
    obtain ⟨k, hk, rfl⟩ := List.mem_map.mp hd
    exact str_good (ok_codes.mpr fun e he => by rw [List.mem_singleton.mp he]; exact ho k hk) (by show 1 ≤ 100000; decide)
  have g2 : (PyData.list (cs.map fun c => PyData.str ⟨#[c]⟩)).depth ≤ 1 := depth_list fun d hd => by
    obtain ⟨k, _, rfl⟩ := List.mem_map.mp hd
    exact Nat.le_refl _
  refine ⟨_, _, .lst h1 (hd _ _), .lst h2 .nil, good_shaped g1 (Nat.le_trans g2 (by decide)), good_shaped rfl (by decide), ?_⟩
  cases cs <;> exact q
theorem str_is {s z : Str} : s = z ↔ cd s = cd z := ⟨fun e => by rw [e], cd_inj⟩
theorem cd_minus : cd (Str.ofString "-") = [45] := by decide +kernel
theorem cd_nought : cd (Str.ofString "0") = [48] := by decide +kernel
theorem cd_none : cd (Str.ofString "") = [] := by decide +kernel
theorem isn1 {cs : List Nat} (h : figs cs = []) : isNumB cs = false := by
  unfold isNumB
  rw [decide_eq_true h]
  rfl
theorem isn2 {cs : List Nat} (h : 60 < (figs cs).length) : isNumB cs = false := by
  unfold isNumB
  rw [decide_eq_true h]
  simp
theorem isn3 {cs : List Nat} (h : badS (figs cs) ≠ []) : isNumB cs = false := by
  unfold isNumB
  rw [decide_eq_false (show ¬ (figs cs).filter (fun c => !dg c) = [] from h)]
  simp
theorem isn4 {cs : List Nat} (h1 : figs cs ≠ []) (h2 : ¬ 60 < (figs cs).length) (h3 : badS (figs cs) = []) : isNumB cs = (decide (cs = [48]) || !decide ((figs cs).take 1 = [48])) := by
  unfold isNumB
  rw [decide_eq_false h1, decide_eq_false h2, decide_eq_true (show (figs cs).filter (fun c => !dg c) = [] from h3)]
  rfl
/-- rows of a plan that can be read -/
inductive PR : GRow → Prop where
  | put (to : Int) (s : Str) : to.natAbs < 10 ^ 60 → clean s → 1 ≤ s.length → s.length ≤ 400 → PR ⟨Str.ofString "put", [.i to, .s s]⟩
  | three (w : Str) (to f m : Int) : (w = Str.ofString "keep" ∨ w = Str.ofString "copy" ∨ w = Str.ofString "lay") → to.natAbs < 10 ^ 60 → f.natAbs < 10 ^ 60 → m.natAbs < 10 ^ 60 → PR ⟨w, [.i to, .i f, .i m]⟩
theorem PR.ok {r : GRow} (h : PR r) : r.ok ∧ r.cln := by
  cases h with
  | put to s h1 h2 h3 h4 =>
    refine ⟨⟨clean_ok lit_clean.1, lit_len.1, fun q hq => ?_, by show 2 ≤ 3; decide⟩, lit_clean.1, fun q hq => ?_⟩
    · rcases List.mem_cons.mp hq with rfl | hq
      · exact h1
      · rw [List.mem_singleton.mp hq]; exact ⟨clean_ok h2, h4⟩
    · rcases List.mem_cons.mp hq with rfl | hq
      · exact trivial
      · rw [List.mem_singleton.mp hq]; exact h2
  | three w to f m hw h1 h2 h3 =>
    have hc : clean w ∧ w.length ≤ 4 := by
      rcases hw with rfl | rfl | rfl
      · exact ⟨lit_clean.2.2.1, lit_len.2.2.1⟩
      · exact ⟨lit_clean.2.1, lit_len.2.1⟩
      · exact ⟨lit_clean.2.2.2.1, lit_len.2.2.2.1⟩
    refine ⟨⟨clean_ok hc.1, hc.2, fun q hq => ?_, by show 3 ≤ 3; decide⟩, hc.1, fun q hq => ?_⟩
    · simp only [List.mem_cons, List.not_mem_nil, or_false] at hq
      rcases hq with rfl | rfl | rfl
      · exact h1
      · exact h2
      · exact h3
    · simp only [List.mem_cons, List.not_mem_nil, or_false] at hq
      rcases hq with rfl | rfl | rfl <;> exact trivial
def wsD (r : GRow) : PyData := .list (r.ws.map .str)
theorem dpa_strs {K : PySem.W.Frag} {F : Hp} : ∀ ws : List Str, DpAll K F (ws.map V.str) (ws.map .str)
  | [] => .nil
  | _ :: ws => .cons (.str _) (dpa_strs ws)
theorem strs_dpa {K : PySem.W.Frag} {F : Hp} : ∀ {ws : List Str} {xs : List V}, DpAll K F xs (ws.map PyData.str) → xs = ws.map V.str
  | [], _, h => dpa_nil h
  | w :: ws, _, h => by
    obtain ⟨v, us, rfl, h1, h2⟩ := dpa_cons h
    rw [strs_dpa h2, dp_str h1]
    rfl
theorem dp_wsL {K : PySem.W.Frag} {F : Hp} {x : V} {r : GRow} (h : Dp K F x (wsD r)) : ∃ p, x = .ref p ∧ SqL K F p (r.ws.map V.str) := by
  unfold wsD at h
  generalize e : r.ws.map PyData.str = ds at h
  cases h with
  | lst hs hd =>
    subst e
    rw [strs_dpa hd] at hs
    exact ⟨_, rfl, hs⟩
theorem split_e : Txt.split (Str.ofString "") (Str.ofString "\n") = [Str.ofString ""] ∧ Txt.split (Str.ofString "") (Str.ofString " ") = [Str.ofString ""] := by decide +kernel
theorem PR.two {r : GRow} (h : PR r) : 2 ≤ r.ps.length := by
  cases h <;> first | exact Nat.le_refl 2 | exact (by decide : 2 ≤ 3) | exact (by decide : 2 ≤ 4)
theorem gpT_ne {ls : List GRow} (h : ls ≠ []) (hp : ∀ r ∈ ls, PR r) : gpT ls ≠ Str.ofString "" := fun e => by
  have h1 := g_split h fun r hr => (hp r hr).ok.2
  rw [e, split_e.1] at h1
  cases ls with
  | nil => exact h rfl
  | cons r ls =>
    have h2 : Str.ofString "" = r.t := (List.cons.inj h1).1
    have h3 := g_words (hp r (List.mem_cons_self ..)).ok.2
    rw [← h2, split_e.2] at h3
    have h4 := congrArg List.length h3
    have h5 := (hp r (List.mem_cons_self ..)).two
    rw [r.ws_len] at h4
    have h4 : 1 = r.ps.length + 1 := h4
    omega
theorem mapS_at {α : Type} {f : α → V} {l : List α} {i : Nat} {x : V} (h : (l.map f)[i]? = some x) : ∃ y, l[i]? = some y ∧ x = f y := by
  rw [List.getElem?_map] at h
  cases e : l[i]? with
  | none => rw [e] at h; cases h
  | some y => rw [e] at h; exact ⟨y, rfl, (Option.some.inj h).symm⟩
theorem gpT_one (r : GRow) : gpT [r] = r.t := cd_inj (by
  show cd (joinN [r.t]) = _
  rw [joinN_cd]
  rfl)
theorem tot_one (r : GRow) : tot [r] = r.t.length + 1 := rfl
/-- a row's text is no longer than its words and their blanks -/
theorem GRow.t_len (r : GRow) : r.t.length ≤ r.w.length + (r.ps.map fun q => q.z.length + 1).sum + 1 := by
  have h := joinW_len r.ws
  have e : (r.ws.map (·.length)).sum + r.ws.length = r.w.length + (r.ps.map fun q => q.z.length + 1).sum + 1 := by
    have e2 : ∀ ps : List GP, ((ps.map GP.z).map (·.length)).sum + ps.length = (ps.map fun q => q.z.length + 1).sum := fun ps => by
      induction ps with
      | nil => rfl
      | cons q ps ih =>
        simp only [List.map_cons, List.sum_cons, List.length_cons] at ih ⊢
        omega
    have e3 := e2 r.ps
    show r.w.length + ((r.ps.map GP.z).map (·.length)).sum + ((r.ps.map GP.z).length + 1) = _
    rw [List.length_map]
    omega
  exact Nat.le_trans h (Nat.le_of_eq e)
theorem pick16 {z : Int} (h0 : 0 ≤ z) (h1 : z < 16) : ∃ m, atI (([7, 7, 7, 7, 7, 7, 7, 7, 7, 7, 7, 7, 7, 251, 251, 1001] : List Int).map V.int) z = some (.int m) ∧ 7 ≤ m ∧ m ≤ 1001 ∧ (z ≠ 15 → m ≤ 251) := by
  have h : z = 0 ∨ z = 1 ∨ z = 2 ∨ z = 3 ∨ z = 4 ∨ z = 5 ∨ z = 6 ∨ z = 7 ∨ z = 8 ∨ z = 9 ∨ z = 10 ∨ z = 11 ∨ z = 12 ∨ z = 13 ∨ z = 14 ∨ z = 15 := by omega
  rcases h with rfl | rfl | rfl | rfl | rfl | rfl | rfl | rfl | rfl | rfl | rfl | rfl | rfl | rfl | rfl | rfl <;> exact ⟨_, rfl, by decide, by decide, by decide⟩
theorem dp_three {K : PySem.W.Frag} {F : Hp} {t : Addr} {w : Str} {x y z : Int} (h : F t = some (.tup [.str w, .int x, .int y, .int z])) : Dp K F (.ref t) (GRow.mk w [.i x, .i y, .i z]).d := .tup (sqT_of h) (.cons (.str _) (.cons (.int _) (.cons (.int _) (.cons (.int _) .nil))))
theorem dp_put7 {K : PySem.W.Frag} {F : Hp} {t : Addr} {x : Int} {s : Str} (h : F t = some (.tup [.str (Str.ofString "put"), .int x, .str s])) : Dp K F (.ref t) (GRow.mk (Str.ofString "put") [.i x, .s s]).d := .tup (sqT_of h) (.cons (.str _) (.cons (.int _) (.cons (.str _) .nil)))
theorem pr_snoc {ls : List GRow} {r : GRow} (h : ∀ q ∈ ls, PR q) (hr : PR r) : ∀ q ∈ ls ++ [r], PR q := fun q hq => by
  rcases List.mem_append.mp hq with hq | hq
  · exact h q hq
  · rw [List.mem_singleton.mp hq]; exact hr
theorem gpT_nil : gpT [] = Str.ofString "" := by decide +kernel
def φcwrit71 (K : PySem.W.Frag) : V → V → Hp → VK → Prop := fun x y H Q => ∃ (F : Hp) (a : Addr) (vs : List V) (n : Nat) (rows : List CRow), x = .int (n : Nat) ∧ y = .ref a ∧ Same F H ∧ SqL K F a vs ∧ DpAll K F vs (rows.map CRow.d) ∧ RowsOk n rows ∧ n ≤ 400 ∧ ∀ s F2 H2, W [] F H F2 H2 [] → cd s = writL n rows → Q (.str s) H2
def φtextC (K : PySem.W.Frag) : V → V → Hp → VK → Prop := fun x y H Q => ∃ (F : Hp) (b : Addr) (n : Int), x = .ref b ∧ y = .int n ∧ St F H [bag K b] ∧ 0 ≤ n ∧ n ≤ 1000 ∧
  ∀ (s : Str) F2 H2, W [b] F H F2 H2 [bag K b] → (s.length : Int) = n → clean s → Q (.str s) H2
def φrowC (K : PySem.W.Frag) : V → V → V → V → Hp → VK → Prop := fun x1 x2 x3 x4 H Q => ∃ (F : Hp) (b l : Addr) (n : Nat) (left : Int) (zs : List V), x1 = .ref b ∧ x2 = .int (n : Nat) ∧ x3 = .int left ∧ x4 = .ref l ∧ St F H [bag K b] ∧ SqL K F l zs ∧ (zs = [] ∨ ∃ v r, zs = [v] ∧ Dp K F v (CRow.d r) ∧ CRowOk n r) ∧ n ≤ 400 ∧ 1 ≤ left ∧ left ≤ 400 ∧
  ∀ v r F2 H2, W [b] F H F2 H2 [dat K v (CRow.d r), bag K b] → CRowOk n r → (r.gives : Int) ≤ left → r.cl → Q v H2
def φrowsC (K : PySem.W.Frag) : V → V → V → V → Hp → VK → Prop := fun x1 x2 x3 x4 H Q => ∃ (F : Hp) (b : Addr) (n : Nat) (many most : Int), x1 = .ref b ∧ x2 = .int (n : Nat) ∧ x3 = .int many ∧ x4 = .int most ∧ St F H [bag K b] ∧ n ≤ 400 ∧ 0 ≤ many ∧ many ≤ 1000 ∧ 0 ≤ most ∧ most ≤ 400 ∧
  ∀ p ys rows F2 H2, H p = none → W [b] F H F2 H2 [mu p (.lst ys), dpa K ys (rows.map CRow.d), bag K b] → RowsOk n rows → (givesL rows : Int) ≤ most → (∀ r ∈ rows, r.cl) → Q (.ref p) H2
theorem crowc_snoc {rows : List CRow} {r : CRow} (h : ∀ q ∈ rows, q.cl) (hr : r.cl) : ∀ q ∈ rows ++ [r], q.cl := fun q hq => by
  rcases List.mem_append.mp hq with hq | hq
  · exact h q hq
  · rw [List.mem_singleton.mp hq]; exact hr
theorem sig_clean : ∀ c ∈ cd sig93, 33 ≤ c ∧ c ≤ 126 := by decide +kernel
theorem atI_memT {α : Type} {xs : List α} {i : Int} {x : α} (h : atI xs i = some x) : x ∈ xs := by
  unfold atI at h
  obtain ⟨k, _, e⟩ := Option.bind_eq_some_iff.mp h
  exact List.mem_of_getElem? e
theorem w_ixLC {z : Str} {r : Int} {n : Int} {H : Hp} {Q : VK} (ok : clean z) (hn : (z.length : Int) = n) (hs : z.length ≤ 1000) (r0 : 0 ≤ r) (r1 : r < n) (q : ∀ s : Str, s.length = 1 → clean s → Q (.str s) H) : rIxS (.str z) (.int r) H Q := by
  obtain ⟨c, ec, _⟩ := sign_at (z := z) (clean_ok ok) r0 (by rw [hn]; exact r1)
  refine w_ixS (le1000 hs) ec (q _ rfl fun d hd => ?_)
  have : d = c := List.mem_singleton.mp hd
  subst this
  exact ok d (atI_memT ec)
theorem joinedC (ys : List Str) (h : ∀ y ∈ ys, y.length = 1 ∧ clean y) : (Txt.join ⟨#[]⟩ ys).length = ys.length ∧ clean (Txt.join ⟨#[]⟩ ys) := by
  refine ⟨(joined ys fun y hy => ⟨(h y hy).1, clean_ok (h y hy).2⟩).1, fun c hc => ?_⟩
  rw [join_cd ys] at hc
  obtain ⟨y, hy, hc⟩ := List.mem_flatMap.mp hc
  exact (h y hy).2 c hc
def φisnum71 (K : PySem.W.Frag) : V → Hp → VK → Prop := fun x H Q => ∃ (F : Hp) (s : Str), x = .str s ∧ Same F H ∧ okS s ∧ s.length ≤ 100000 ∧ ∀ F2 H2, W [] F H F2 H2 [] → Q (.bl (isNumB (cd s))) H2
def φnumof71 (K : PySem.W.Frag) : V → Hp → VK → Prop := fun x H Q => ∃ (F : Hp) (i : Int), x = .str (numI i) ∧ Same F H ∧ i.natAbs < 10 ^ 60 ∧ ∀ F2 H2, W [] F H F2 H2 [] → Q (.int i) H2
def φtextof71 (K : PySem.W.Frag) : V → Hp → VK → Prop := fun x H Q => ∃ (F : Hp) (s : Str), x = .str s ∧ Same F H ∧ 1 ≤ s.length ∧ s.length ≤ 400 ∧ ∀ F2 H2, W [] F H F2 H2 [] → Q (.str s) H2
def φprt71 (K : PySem.W.Frag) : V → Hp → VK → Prop := fun x H Q => ∃ (F : Hp) (r : GRow), Same F H ∧ Dp K F x r.d ∧ r.ok ∧ ∀ F2 H2, W [] F H F2 H2 [] → Q (.str r.t) H2
def φptext71 (K : PySem.W.Frag) : V → Hp → VK → Prop := fun x H Q => ∃ (F : Hp) (a : Addr) (vs : List V) (ls : List GRow), x = .ref a ∧ Same F H ∧ SqL K F a vs ∧ DpAll K F vs (ls.map GRow.d) ∧ (∀ r ∈ ls, r.ok) ∧ ls.length ≤ 1000 ∧ tot ls ≤ 100000 ∧
  ∀ F2 H2, W [] F H F2 H2 [] → Q (.str (gpT ls)) H2
def φcrow71 (K : PySem.W.Frag) : V → Hp → VK → Prop := fun x H Q => ∃ (F : Hp) (a : Addr) (n : Nat) (r : CRow), x = .ref a ∧ Same F H ∧ SqL K F a (r.g.ws.map V.str) ∧ CRowOk n r ∧ n ≤ 400 ∧ r.gives ≤ 400 ∧
  ∀ t F2 H2, W [] F H F2 H2 [dat K (.ref t) r.d] → Q (.ref t) H2
def φprow71 (K : PySem.W.Frag) : V → Hp → VK → Prop := fun x H Q => ∃ (F : Hp) (a : Addr) (r : GRow), x = .ref a ∧ Same F H ∧ SqL K F a (r.ws.map V.str) ∧ PR r ∧
  ∀ t F2 H2, W [] F H F2 H2 [dat K (.ref t) r.d] → Q (.ref t) H2
def φrchange71 (K : PySem.W.Frag) : V → Hp → VK → Prop := fun x H Q => ∃ (F : Hp) (s : Str) (n : Nat) (rows : List CRow), x = .str s ∧ Same F H ∧ cd s = writL n rows ∧ RowsOk n rows ∧ n ≤ 400 ∧ (∀ r ∈ rows, r.cl) ∧
  ∀ v F2 H2, W [] F H F2 H2 [chg K v n rows] → Q v H2
def φrplan71 (K : PySem.W.Frag) : V → Hp → VK → Prop := fun x H Q => ∃ (F : Hp) (ls : List GRow), x = .str (gpT ls) ∧ Same F H ∧ (∀ r ∈ ls, PR r) ∧ ls.length ≤ 1000 ∧ tot ls ≤ 100000 ∧
  ∀ p vs F2 H2, H p = none → W [] F H F2 H2 [mu p (.lst vs), dpa K vs (ls.map GRow.d)] → Q (.ref p) H2
def φanynum71 (K : PySem.W.Frag) : V → Hp → VK → Prop := fun x H Q => ∃ (F : Hp) (b : Addr), x = .ref b ∧ St F H [bag K b] ∧ ∀ (i : Int) F2 H2, W [b] F H F2 H2 [bag K b] → i.natAbs < 10 ^ 60 → Q (.int i) H2
def φplan71 (K : PySem.W.Frag) : V → Hp → VK → Prop := fun x H Q => ∃ (F : Hp) (b : Addr), x = .ref b ∧ St F H [bag K b] ∧
  ∀ p vs (ls : List GRow) F2 H2, H p = none → W [b] F H F2 H2 [mu p (.lst vs), dpa K vs (ls.map GRow.d), bag K b] → (∀ r ∈ ls, PR r) → ls.length ≤ 1000 → tot ls ≤ 90000 → Q (.ref p) H2
def φpright71 (K : PySem.W.Frag) : V → Hp → VK → Prop := fun x H Q => ∃ (F : Hp) (a : Addr) (vs : List V) (ls : List GRow), x = .ref a ∧ Same F H ∧ SqL K F a vs ∧ DpAll K F vs (ls.map GRow.d) ∧ (∀ r ∈ ls, PR r) ∧ ls.length ≤ 1000 ∧ tot ls ≤ 90000 ∧
  ∀ F2 H2, W [] F H F2 H2 [] → Q (.bl true) H2
def φcright71 (K : PySem.W.Frag) : V → V → V → Hp → VK → Prop := fun x y z H Q => ∃ (F : Hp) (a : Addr) (vs : List V) (o : Str) (rows : List CRow), x = .int (o.length : Nat) ∧ y = .ref a ∧ z = .str o ∧ Same F H ∧ SqL K F a vs ∧ DpAll K F vs (rows.map CRow.d) ∧ RowsOk o.length rows ∧ o.length ≤ 400 ∧ (∀ r ∈ rows, r.cl) ∧ okS o ∧
  ∀ F2 H2, W [] F H F2 H2 [] → Q (.bl true) H2
end R
namespace Z
open PySem PySem.Spec PyProof.Rows L2 R
def topS (i : Nat) : Stmt := PySem.Challenge.pw_remadehere_k71_written_and_read.main.body.getD i (.Pass ⟨0, 0, 0, 0⟩)
abbrev s_gives : Stmt := topS 7
theorem sc_gives : FnScope ["row", "size"] ["row", "size"] (defScope s_gives) := ⟨rfl, rfl, rfl, by decide +kernel, rfl, by decide +kernel, by decide +kernel⟩
abbrev s_row_text : Stmt := topS 8
theorem sc_row_text : FnScope ["row"] ["row"] (defScope s_row_text) := ⟨rfl, rfl, rfl, by decide +kernel, rfl, by decide +kernel, by decide +kernel⟩
abbrev s_ChangeX_initX : Stmt := inClass (topS 9) 0
theorem sc_ChangeX_initX : FnScope ["self", "size", "rows", "many", "k", "more"] ["self", "size", "rows"] (defScope s_ChangeX_initX) := ⟨rfl, rfl, rfl, by decide +kernel, rfl, by decide +kernel, by decide +kernel⟩
abbrev s_ChangeX_eqX : Stmt := inClass (topS 9) 1
theorem sc_ChangeX_eqX : FnScope ["self", "other"] ["self", "other"] (defScope s_ChangeX_eqX) := ⟨rfl, rfl, rfl, by decide +kernel, rfl, by decide +kernel, by decide +kernel⟩
abbrev s_ChangeX_lenX : Stmt := inClass (topS 9) 2
theorem sc_ChangeX_lenX : FnScope ["self"] ["self"] (defScope s_ChangeX_lenX) := ⟨rfl, rfl, rfl, by decide +kernel, rfl, by decide +kernel, by decide +kernel⟩
abbrev s_ChangeX_strX : Stmt := inClass (topS 9) 3
theorem sc_ChangeX_strX : FnScope ["self", "row"] ["self"] (defScope s_ChangeX_strX) := ⟨rfl, rfl, rfl, by decide +kernel, rfl, by decide +kernel, by decide +kernel⟩
abbrev s_Change_cells : Stmt := inClass (topS 9) 4
theorem sc_Change_cells : FnScope ["self", "found", "row"] ["self"] (defScope s_Change_cells) := ⟨rfl, rfl, rfl, by decide +kernel, rfl, by decide +kernel, by decide +kernel⟩
abbrev s_Change_done : Stmt := inClass (topS 9) 6
theorem sc_Change_done : FnScope ["self", "old", "cell"] ["self", "old"] (defScope s_Change_done) := ⟨rfl, rfl, rfl, by decide +kernel, rfl, by decide +kernel, by decide +kernel⟩
abbrev s_rows_of : Stmt := topS 10
theorem sc_rows_of : FnScope ["cells", "rows", "last", "cell"] ["cells"] (defScope s_rows_of) := ⟨rfl, rfl, rfl, by decide +kernel, rfl, by decide +kernel, by decide +kernel⟩
abbrev s_plainest : Stmt := topS 11
theorem sc_plainest : FnScope ["change"] ["change"] (defScope s_plainest) := ⟨rfl, rfl, rfl, by decide +kernel, rfl, by decide +kernel, by decide +kernel⟩
abbrev s_behind : Stmt := topS 12
theorem sc_behind : FnScope ["first", "second", "cells", "cell"] ["first", "second"] (defScope s_behind) := ⟨rfl, rfl, rfl, by decide +kernel, rfl, by decide +kernel, by decide +kernel⟩
abbrev s_undone : Stmt := topS 13
theorem sc_undone : FnScope ["change", "old", "cells", "where", "k", "place"] ["change", "old"] (defScope s_undone) := ⟨rfl, rfl, rfl, by decide +kernel, rfl, by decide +kernel, by decide +kernel⟩
abbrev s_table : Stmt := topS 29
theorem sc_table : FnScope ["old", "new", "price", "least", "put_cost", "put_from", "copy_from", "j"] ["old", "new", "price"] (defScope s_table) := ⟨rfl, rfl, rfl, by decide +kernel, rfl, by decide +kernel, by decide +kernel⟩
abbrev s_found_change : Stmt := topS 30
theorem sc_found_change : FnScope ["old", "new", "price", "least", "rows", "j", "start"] ["old", "new", "price"] (defScope s_found_change) := ⟨rfl, rfl, rfl, by decide +kernel, rfl, by decide +kernel, by decide +kernel⟩
abbrev s_change_text : Stmt := topS 18
theorem sc_change_text : FnScope ["change"] ["change"] (defScope s_change_text) := ⟨rfl, rfl, rfl, by decide +kernel, rfl, by decide +kernel, by decide +kernel⟩
abbrev s_plan_row_text : Stmt := topS 19
theorem sc_plan_row_text : FnScope ["row", "part"] ["row"] (defScope s_plan_row_text) := ⟨rfl, rfl, rfl, by decide +kernel, rfl, by decide +kernel, by decide +kernel⟩
abbrev s_plan_text : Stmt := topS 20
theorem sc_plan_text : FnScope ["plan", "row"] ["plan"] (defScope s_plan_text) := ⟨rfl, rfl, rfl, by decide +kernel, rfl, by decide +kernel, by decide +kernel⟩
abbrev s_is_number : Stmt := topS 21
theorem sc_is_number : FnScope ["word", "figures", "sign"] ["word"] (defScope s_is_number) := ⟨rfl, rfl, rfl, by decide +kernel, rfl, by decide +kernel, by decide +kernel⟩
abbrev s_number_of : Stmt := topS 22
theorem sc_number_of : FnScope ["word"] ["word"] (defScope s_number_of) := ⟨rfl, rfl, rfl, by decide +kernel, rfl, by decide +kernel, by decide +kernel⟩
abbrev s_text_of : Stmt := topS 23
theorem sc_text_of : FnScope ["word"] ["word"] (defScope s_text_of) := ⟨rfl, rfl, rfl, by decide +kernel, rfl, by decide +kernel, by decide +kernel⟩
abbrev s_change_row : Stmt := topS 24
theorem sc_change_row : FnScope ["words"] ["words"] (defScope s_change_row) := ⟨rfl, rfl, rfl, by decide +kernel, rfl, by decide +kernel, by decide +kernel⟩
abbrev s_read_change : Stmt := topS 25
theorem sc_read_change : FnScope ["text", "lines", "size", "line", "words"] ["text"] (defScope s_read_change) := ⟨rfl, rfl, rfl, by decide +kernel, rfl, by decide +kernel, by decide +kernel⟩
abbrev s_plan_row : Stmt := topS 26
theorem sc_plan_row : FnScope ["words"] ["words"] (defScope s_plan_row) := ⟨rfl, rfl, rfl, by decide +kernel, rfl, by decide +kernel, by decide +kernel⟩
abbrev s_read_plan : Stmt := topS 27
theorem sc_read_plan : FnScope ["text", "line"] ["text"] (defScope s_read_plan) := ⟨rfl, rfl, rfl, by decide +kernel, rfl, by decide +kernel, by decide +kernel⟩
abbrev s_law_bag : Stmt := topS 32
theorem sc_law_bag : FnScope ["script", "stir", "cell"] ["script"] (defScope s_law_bag) := ⟨rfl, rfl, rfl, by decide +kernel, rfl, by decide +kernel, by decide +kernel⟩
abbrev s_law_stirred : Stmt := topS 33
theorem sc_law_stirred : FnScope ["bag", "many", "found", "k"] ["bag", "many"] (defScope s_law_stirred) := ⟨rfl, rfl, rfl, by decide +kernel, rfl, by decide +kernel, by decide +kernel⟩
abbrev s_law_draw : Stmt := topS 34
theorem sc_law_draw : FnScope ["bag", "many", "found"] ["bag", "many"] (defScope s_law_draw) := ⟨rfl, rfl, rfl, by decide +kernel, rfl, by decide +kernel, by decide +kernel⟩
abbrev s_law_alike : Stmt := topS 36
theorem sc_law_alike : FnScope ["found", "due", "k"] ["found", "due"] (defScope s_law_alike) := ⟨rfl, rfl, rfl, by decide +kernel, rfl, by decide +kernel, by decide +kernel⟩
abbrev s_law_signs : Stmt := topS 37
theorem sc_law_signs : FnScope ["some"] [] (defScope s_law_signs) := ⟨rfl, rfl, rfl, by decide +kernel, rfl, by decide +kernel, by decide +kernel⟩
abbrev s_law_text : Stmt := topS 38
theorem sc_law_text : FnScope ["bag", "size", "few", "first", "some", "k"] ["bag", "size"] (defScope s_law_text) := ⟨rfl, rfl, rfl, by decide +kernel, rfl, by decide +kernel, by decide +kernel⟩
abbrev s_law_row : Stmt := topS 39
theorem sc_law_row : FnScope ["bag", "size", "left", "last", "way", "wide", "at"] ["bag", "size", "left", "last"] (defScope s_law_row) := ⟨rfl, rfl, rfl, by decide +kernel, rfl, by decide +kernel, by decide +kernel⟩
abbrev s_law_rows : Stmt := topS 40
theorem sc_law_rows : FnScope ["bag", "size", "many", "most", "rows", "left", "cap", "k"] ["bag", "size", "many", "most"] (defScope s_law_rows) := ⟨rfl, rfl, rfl, by decide +kernel, rfl, by decide +kernel, by decide +kernel⟩
abbrev s_law_size : Stmt := topS 41
theorem sc_law_size : FnScope ["bag"] ["bag"] (defScope s_law_size) := ⟨rfl, rfl, rfl, by decide +kernel, rfl, by decide +kernel, by decide +kernel⟩
abbrev s_law_same : Stmt := topS 42
theorem sc_law_same : FnScope ["found", "size", "rows"] ["found", "size", "rows"] (defScope s_law_same) := ⟨rfl, rfl, rfl, by decide +kernel, rfl, by decide +kernel, by decide +kernel⟩
abbrev s_law_cells : Stmt := topS 50
theorem sc_law_cells : FnScope ["rows", "found", "row", "k"] ["rows"] (defScope s_law_cells) := ⟨rfl, rfl, rfl, by decide +kernel, rfl, by decide +kernel, by decide +kernel⟩
abbrev s_law_done : Stmt := topS 51
theorem sc_law_done : FnScope ["cells", "old", "cell"] ["cells", "old"] (defScope s_law_done) := ⟨rfl, rfl, rfl, by decide +kernel, rfl, by decide +kernel, by decide +kernel⟩
abbrev s_law_plan_written : Stmt := topS 43
theorem sc_law_plan_written : FnScope ["some_plan", "lines", "row", "words", "part"] ["some_plan"] (defScope s_law_plan_written) := ⟨rfl, rfl, rfl, by decide +kernel, rfl, by decide +kernel, by decide +kernel⟩
abbrev s_law_change_written : Stmt := topS 44
theorem sc_law_change_written : FnScope ["size", "rows", "found", "row"] ["size", "rows"] (defScope s_law_change_written) := ⟨rfl, rfl, rfl, by decide +kernel, rfl, by decide +kernel, by decide +kernel⟩
abbrev s_law_any_number : Stmt := topS 45
theorem sc_law_any_number : FnScope ["bag", "way"] ["bag"] (defScope s_law_any_number) := ⟨rfl, rfl, rfl, by decide +kernel, rfl, by decide +kernel, by decide +kernel⟩
abbrev s_law_plan : Stmt := topS 46
theorem sc_law_plan : FnScope ["bag", "size", "some_plan", "left", "k", "way", "some", "wide", "writing", "j"] ["bag"] (defScope s_law_plan) := ⟨rfl, rfl, rfl, by decide +kernel, rfl, by decide +kernel, by decide +kernel⟩
abbrev s_law_change_right : Stmt := topS 47
theorem sc_law_change_right : FnScope ["size", "rows", "elder", "given", "due", "found", "cells", "one"] ["size", "rows", "elder"] (defScope s_law_change_right) := ⟨rfl, rfl, rfl, by decide +kernel, rfl, by decide +kernel, by decide +kernel⟩
abbrev s_law_told_written : Stmt := topS 48
theorem sc_law_told_written : FnScope ["size", "rows", "elder", "given", "later", "back", "one", "due"] ["size", "rows", "elder"] (defScope s_law_told_written) := ⟨rfl, rfl, rfl, by decide +kernel, rfl, by decide +kernel, by decide +kernel⟩
abbrev s_law_plan_right : Stmt := topS 49
theorem sc_law_plan_right : FnScope ["some_plan", "handed", "due", "found"] ["some_plan"] (defScope s_law_plan_right) := ⟨rfl, rfl, rfl, by decide +kernel, rfl, by decide +kernel, by decide +kernel⟩
abbrev s_law : Stmt := topS 52
theorem sc_law : FnScope ["script", "bag", "again", "size", "rows", "elder"] ["script"] (defScope s_law) := ⟨rfl, rfl, rfl, by decide +kernel, rfl, by decide +kernel, by decide +kernel⟩
structure Txt (K : PySem.W.Frag) (mg : Str → Option Value) : Prop where
  b_abs : mg "abs" = none
  b_all : mg "all" = none
  b_bool : mg "bool" = none
  b_int : mg "int" = none
  b_isinstance : mg "isinstance" = none
  b_len : mg "len" = none
  b_list : mg "list" = none
  b_max : mg "max" = none
  b_min : mg "min" = none
  b_range : mg "range" = none
  b_str : mg "str" = none
  b_tuple : mg "tuple" = none
  c_MOST : ∃ t, mg "MOST" = some (.int 400 t)
  c_MOST_FIGURES : ∃ t, mg "MOST_FIGURES" = some (.int 60 t)
  c_FIGURES : ∃ t, mg "FIGURES" = some (.str (Str.ofString "0123456789") t)
  c_MOST_SIGNS : ∃ t, mg "MOST_SIGNS" = some (.int 400 t)
  k_Change : Cls K (He.ga K "Change")
  na_Change_size : NoAttr K (He.ga K "Change") "size"
  na_Change_rows : NoAttr K (He.ga K "Change") "rows"
  g_Change : mg "Change" = some (.ref (He.ga K "Change"))
  i_Change : C8.InsC K (He.ga K "Change")
  n_Change : Ne0 K "Change"
  s_Change : StrC K "Change"
def d_gives : He.DefD := ⟨("gives", none), "gives", "gives", defArgs s_gives, defBody s_gives, defScope s_gives, [], []⟩
def d_row_text : He.DefD := ⟨("row_text", none), "row_text", "row_text", defArgs s_row_text, defBody s_row_text, defScope s_row_text, [], []⟩
def d_ChangeX_initX : He.DefD := ⟨("Change", some "__init__"), "__init__", "Change.__init__", defArgs s_ChangeX_initX, defBody s_ChangeX_initX, defScope s_ChangeX_initX, [], []⟩
def d_ChangeX_eqX : He.DefD := ⟨("Change", some "__eq__"), "__eq__", "Change.__eq__", defArgs s_ChangeX_eqX, defBody s_ChangeX_eqX, defScope s_ChangeX_eqX, [], []⟩
def d_ChangeX_lenX : He.DefD := ⟨("Change", some "__len__"), "__len__", "Change.__len__", defArgs s_ChangeX_lenX, defBody s_ChangeX_lenX, defScope s_ChangeX_lenX, [], []⟩
def d_ChangeX_strX : He.DefD := ⟨("Change", some "__str__"), "__str__", "Change.__str__", defArgs s_ChangeX_strX, defBody s_ChangeX_strX, defScope s_ChangeX_strX, [], []⟩
def d_Change_cells : He.DefD := ⟨("Change", some "cells"), "cells", "Change.cells", defArgs s_Change_cells, defBody s_Change_cells, defScope s_Change_cells, [], []⟩
def d_Change_done : He.DefD := ⟨("Change", some "done"), "done", "Change.done", defArgs s_Change_done, defBody s_Change_done, defScope s_Change_done, [], []⟩
def d_rows_of : He.DefD := ⟨("rows_of", none), "rows_of", "rows_of", defArgs s_rows_of, defBody s_rows_of, defScope s_rows_of, [], []⟩
def d_plainest : He.DefD := ⟨("plainest", none), "plainest", "plainest", defArgs s_plainest, defBody s_plainest, defScope s_plainest, [], []⟩
def d_behind : He.DefD := ⟨("behind", none), "behind", "behind", defArgs s_behind, defBody s_behind, defScope s_behind, [], []⟩
def d_undone : He.DefD := ⟨("undone", none), "undone", "undone", defArgs s_undone, defBody s_undone, defScope s_undone, [], []⟩
def d_table : He.DefD := ⟨("table", none), "table", "table", defArgs s_table, defBody s_table, defScope s_table, [], []⟩
def d_found_change : He.DefD := ⟨("found_change", none), "found_change", "found_change", defArgs s_found_change, defBody s_found_change, defScope s_found_change, [.int 4], []⟩
def d_change_text : He.DefD := ⟨("change_text", none), "change_text", "change_text", defArgs s_change_text, defBody s_change_text, defScope s_change_text, [], []⟩
def d_plan_row_text : He.DefD := ⟨("plan_row_text", none), "plan_row_text", "plan_row_text", defArgs s_plan_row_text, defBody s_plan_row_text, defScope s_plan_row_text, [], []⟩
def d_plan_text : He.DefD := ⟨("plan_text", none), "plan_text", "plan_text", defArgs s_plan_text, defBody s_plan_text, defScope s_plan_text, [], []⟩
def d_is_number : He.DefD := ⟨("is_number", none), "is_number", "is_number", defArgs s_is_number, defBody s_is_number, defScope s_is_number, [], []⟩
def d_number_of : He.DefD := ⟨("number_of", none), "number_of", "number_of", defArgs s_number_of, defBody s_number_of, defScope s_number_of, [], []⟩
def d_text_of : He.DefD := ⟨("text_of", none), "text_of", "text_of", defArgs s_text_of, defBody s_text_of, defScope s_text_of, [], []⟩
def d_change_row : He.DefD := ⟨("change_row", none), "change_row", "change_row", defArgs s_change_row, defBody s_change_row, defScope s_change_row, [], []⟩
def d_read_change : He.DefD := ⟨("read_change", none), "read_change", "read_change", defArgs s_read_change, defBody s_read_change, defScope s_read_change, [], []⟩
def d_plan_row : He.DefD := ⟨("plan_row", none), "plan_row", "plan_row", defArgs s_plan_row, defBody s_plan_row, defScope s_plan_row, [], []⟩
def d_read_plan : He.DefD := ⟨("read_plan", none), "read_plan", "read_plan", defArgs s_read_plan, defBody s_read_plan, defScope s_read_plan, [], []⟩
def d_law_bag : He.DefD := ⟨("_law_bag", none), "_law_bag", "_law_bag", defArgs s_law_bag, defBody s_law_bag, defScope s_law_bag, [], []⟩
def d_law_stirred : He.DefD := ⟨("_law_stirred", none), "_law_stirred", "_law_stirred", defArgs s_law_stirred, defBody s_law_stirred, defScope s_law_stirred, [], []⟩
def d_law_draw : He.DefD := ⟨("_law_draw", none), "_law_draw", "_law_draw", defArgs s_law_draw, defBody s_law_draw, defScope s_law_draw, [], []⟩
def d_law_alike : He.DefD := ⟨("_law_alike", none), "_law_alike", "_law_alike", defArgs s_law_alike, defBody s_law_alike, defScope s_law_alike, [], []⟩
def d_law_signs : He.DefD := ⟨("_law_signs", none), "_law_signs", "_law_signs", defArgs s_law_signs, defBody s_law_signs, defScope s_law_signs, [], []⟩
def d_law_text : He.DefD := ⟨("_law_text", none), "_law_text", "_law_text", defArgs s_law_text, defBody s_law_text, defScope s_law_text, [], []⟩
def d_law_row : He.DefD := ⟨("_law_row", none), "_law_row", "_law_row", defArgs s_law_row, defBody s_law_row, defScope s_law_row, [], []⟩
def d_law_rows : He.DefD := ⟨("_law_rows", none), "_law_rows", "_law_rows", defArgs s_law_rows, defBody s_law_rows, defScope s_law_rows, [], []⟩
def d_law_size : He.DefD := ⟨("_law_size", none), "_law_size", "_law_size", defArgs s_law_size, defBody s_law_size, defScope s_law_size, [], []⟩
def d_law_same : He.DefD := ⟨("_law_same", none), "_law_same", "_law_same", defArgs s_law_same, defBody s_law_same, defScope s_law_same, [], []⟩
def d_law_cells : He.DefD := ⟨("_law_cells", none), "_law_cells", "_law_cells", defArgs s_law_cells, defBody s_law_cells, defScope s_law_cells, [], []⟩
def d_law_done : He.DefD := ⟨("_law_done", none), "_law_done", "_law_done", defArgs s_law_done, defBody s_law_done, defScope s_law_done, [], []⟩
def d_law_plan_written : He.DefD := ⟨("_law_plan_written", none), "_law_plan_written", "_law_plan_written", defArgs s_law_plan_written, defBody s_law_plan_written, defScope s_law_plan_written, [], []⟩
def d_law_change_written : He.DefD := ⟨("_law_change_written", none), "_law_change_written", "_law_change_written", defArgs s_law_change_written, defBody s_law_change_written, defScope s_law_change_written, [], []⟩
def d_law_any_number : He.DefD := ⟨("_law_any_number", none), "_law_any_number", "_law_any_number", defArgs s_law_any_number, defBody s_law_any_number, defScope s_law_any_number, [], []⟩
def d_law_plan : He.DefD := ⟨("_law_plan", none), "_law_plan", "_law_plan", defArgs s_law_plan, defBody s_law_plan, defScope s_law_plan, [], []⟩
def d_law_change_right : He.DefD := ⟨("_law_change_right", none), "_law_change_right", "_law_change_right", defArgs s_law_change_right, defBody s_law_change_right, defScope s_law_change_right, [], []⟩
def d_law_told_written : He.DefD := ⟨("_law_told_written", none), "_law_told_written", "_law_told_written", defArgs s_law_told_written, defBody s_law_told_written, defScope s_law_told_written, [], []⟩
def d_law_plan_right : He.DefD := ⟨("_law_plan_right", none), "_law_plan_right", "_law_plan_right", defArgs s_law_plan_right, defBody s_law_plan_right, defScope s_law_plan_right, [], []⟩
def d_law : He.DefD := ⟨("law", none), "law", "law", defArgs s_law, defBody s_law, defScope s_law, [], []⟩
def fn : List He.DefD := [d_gives, d_row_text, d_ChangeX_initX, d_ChangeX_eqX, d_ChangeX_lenX, d_ChangeX_strX, d_Change_cells, d_Change_done, d_rows_of, d_plainest, d_behind, d_undone, d_table, d_found_change, d_change_text, d_plan_row_text, d_plan_text, d_is_number, d_number_of, d_text_of, d_change_row, d_read_change, d_plan_row, d_read_plan, d_law_bag, d_law_stirred, d_law_draw, d_law_alike, d_law_signs, d_law_text, d_law_row, d_law_rows, d_law_size, d_law_same, d_law_cells, d_law_done, d_law_plan_written, d_law_change_written, d_law_any_number, d_law_plan, d_law_change_right, d_law_told_written, d_law_plan_right, d_law]
def fa : List He.Fa := [.free "abs", .free "all", .free "bool", .free "int", .free "isinstance", .free "len", .free "list", .free "max", .free "min", .free "range", .free "str", .free "tuple", .int "MOST" 400, .int "MOST_FIGURES" 60, .str "FIGURES" (Str.ofString "0123456789"), .int "MOST_SIGNS" 400, .glo "gives", .glo "row_text", .glo "rows_of", .glo "plainest", .glo "behind", .glo "undone", .glo "table", .glo "found_change", .glo "change_text", .glo "plan_row_text", .glo "plan_text", .glo "is_number", .glo "number_of", .glo "text_of", .glo "change_row", .glo "read_change", .glo "plan_row", .glo "read_plan", .glo "_law_bag", .glo "_law_stirred", .glo "_law_draw", .glo "_law_alike", .glo "_law_signs", .glo "_law_text", .glo "_law_row", .glo "_law_rows", .glo "_law_size", .glo "_law_same", .glo "_law_cells", .glo "_law_done", .glo "_law_plan_written", .glo "_law_change_written", .glo "_law_any_number", .glo "_law_plan", .glo "_law_change_right", .glo "_law_told_written", .glo "_law_plan_right", .glo "law", .glo "Change", .cls "Change", .mkr "Change", .noat "Change" "size", .noat "Change" "rows", .meth "Change" "__eq__", .meth "Change" "__len__", .meth "Change" "__str__", .meth "Change" "cells", .meth "Change" "done"]
abbrev RR : PySem.W.OpenRow := PySem.W.OpenLaw.row PySem.Challenge.rw_remadehere_k71_written_and_read
def exB (K : PySem.W.Frag) : Bool := (insB K "Change" && (neB K "Change" && (strB K "Change" && true)))
abbrev hk : PySem.W.Hook := hookE 4 fa fn exB
def ob (s : PySem.W.SharedT) : He.AlD × Bool := obsEG 4 fa fn exB (HandSHeadRun.getT s)
theorem ob_eq (s : PySem.W.SharedT) : ob s = hk.obs s.abs := obsEG_eq (HandSHeadRun.getT_eq s)
theorem run (w : World) : HandSHeadRun.RunEq RR (PySem.W.view RR.prog [52]) hk ob 3000 ("_wall" :: "BadRow" :: "BadSize" :: "NoText" :: "MOST" :: "gives" :: "row_text" :: "Change" :: "rows_of" :: "plainest" :: "behind" :: "undone" :: "FIGURES" :: "MOST_FIGURES" :: "MOST_SIGNS" :: "change_text" :: "plan_row_text" :: "plan_text" :: "is_number" :: "number_of" :: "text_of" :: "change_row" :: "read_change" :: "plan_row" :: "read_plan" :: "table" :: "found_change" :: "_law_bag" :: "_law_stirred" :: "_law_draw" :: "_law_whole" :: "_law_alike" :: "_law_signs" :: "_law_text" :: "_law_row" :: "_law_rows" :: "_law_size" :: "_law_same" :: "_law_plan_written" :: "_law_change_written" :: "_law_any_number" :: "_law_plan" :: "_law_change_right" :: "_law_told_written" :: "_law_plan_right" :: "_law_cells" :: "_law_done" :: []) w := by
  intro os
  kernel_rfl
def FactsP : Prop := ∀ (P : Program) (w : World) (K : PySem.W.Frag) (mg : Str → Option Value) (h : Heap) (f : Addr), K.In h → h.Ns mainGlobals mg → mg ("law" : Str) = some (.ref f) → He.SaysD fa fn K → exB K = true → ∃ fd : FuncData, (∀ (s : Shared) (v : Value), BindsTo s fd ⟨[v], []⟩ [("script", v)]) ∧ ∀ base : Heap, K.In base → base.Ns mainGlobals mg → FnOk P w K mg base CX0 12 f fd ["script"] (S1 (φlaw K))
end Z
section
open PySem PySem.W PySem.Calls PyProof.Rows
theorem Z.close (HF : Z.FactsP) : PySem.Challenge.rw_remadehere_k71_written_and_read.Holds := by
  w_on; o_law
  refine HandSHeadRun.head_any (r := OpenLaw.row PySem.Challenge.rw_remadehere_k71_written_and_read) (q := view (OpenLaw.row PySem.Challenge.rw_remadehere_k71_written_and_read).prog [52]) (H := Z.hk) (ob := Z.ob) (M := 3000) (loose := ("_wall" :: "BadRow" :: "BadSize" :: "NoText" :: "MOST" :: "gives" :: "row_text" :: "Change" :: "rows_of" :: "plainest" :: "behind" :: "undone" :: "FIGURES" :: "MOST_FIGURES" :: "MOST_SIGNS" :: "change_text" :: "plan_row_text" :: "plan_text" :: "is_number" :: "number_of" :: "text_of" :: "change_row" :: "read_change" :: "plan_row" :: "read_plan" :: "table" :: "found_change" :: "_law_bag" :: "_law_stirred" :: "_law_draw" :: "_law_whole" :: "_law_alike" :: "_law_signs" :: "_law_text" :: "_law_row" :: "_law_rows" :: "_law_size" :: "_law_same" :: "_law_plan_written" :: "_law_change_written" :: "_law_any_number" :: "_law_plan" :: "_law_change_right" :: "_law_told_written" :: "_law_plan_right" :: "_law_cells" :: "_law_done" :: [])) (d := HandSHeadRun.topDef (OpenLaw.row PySem.Challenge.rw_remadehere_k71_written_and_read).prog 52) (kwd := []) Z.ob_eq
    (by kernel_rfl) (fun s => by kernel_rfl) Z.run (by kernel_rfl) (by kernel_rfl) (by kernel_rfl) (by rfl) (by first | assumption | decide +kernel) (by decide +kernel) ⟨rfl, rfl, rfl, rfl, rfl, by decide +kernel⟩ ?hw ?hc
  case hw => w_witness2
  case hc =>
    refine L2.walk_ofE (l := PySem.Challenge.rw_remadehere_k71_written_and_read) (n := 63) (k := 12) (x := "script") (CX := L2.CX0) rfl (by decide) (by kernel_rfl) ⟨rfl, by decide, by decide⟩ ?F (fun _ _ _ _ z => z)
    intro w mg fa h Y G hmg0
    obtain ⟨K, KX, c, ex⟩ := Y
    have hmg : mg ("law" : PySem.Str) = some (.ref fa) := by
      have e : (HandSHeadRun.topDef (OpenLaw.row PySem.Challenge.rw_remadehere_k71_written_and_read).prog 52).name = ("law" : PySem.Str) := by kernel_rfl
      rw [← e]
      exact hmg0
    obtain ⟨fd, hb, hF⟩ := HF _ w K mg _ fa KX G hmg c ex
    exact ⟨K, fd, (R.S1 (R.φlaw K)), KX, hb, fun H a ns hl hO hS => R.law_start a ns hl hO hS, hF⟩
end
namespace Z
open PySem PySem.Spec PyProof.Rows L2 R
local macro_rules | `(tactic| walk_at "osq") => `(tactic| first
  | assumption
  | exact sqL_of upd_same
  | exact sqL_of (by assumption)
  | exact sqL_same (by assumption) (by assumption)
  | exact Mu.sq (by assumption)
  | exact sqL_same (Gr.ws (by assumption)) (by assumption)
  | exact sqL_same (Gr.fh (by assumption)) (by assumption))
local macro_rules | `(tactic| walk_at "ost") => `(tactic| first
  | assumption
  | exact sqT_of upd_same
  | exact sqT_of (by assumption)
  | exact sqT_same (by assumption) (by assumption)
  | exact sqT_same (Gr.ws (by assumption)) (by assumption)
  | exact sqT_same (Gr.fh (by assumption)) (by assumption))
local macro_rules | `(tactic| walk_at "owp") => `(tactic| dsimp only [wipe, List.map, List.set_cons_succ, List.set_cons_zero])
local macro_rules | `(tactic| walk_at "s1") => `(tactic| first
  | ((with_reducible refine w_mul ?c ?_); (case c => first | exact .inl ⟨by omega, by omega⟩ | exact .inr ⟨by omega, by omega⟩))
  | ((with_reducible refine w_mod ?c ?_); (case c => first | omega | decide))
  | ((with_reducible refine w_fdiv ?c ?_); (case c => exact divw_ok (by omega) (by omega)))
  | ((with_reducible refine w_pow ?c ?_); (case c => exact ⟨by omega, by omega, by omega⟩)))
local macro_rules | `(tactic| walk_at "os2") => `(tactic| first
  | ((with_reducible apply w_ixL _ _ ?c ?d); (case c => walk_at "osq"); (case d => rfl))
  | ((with_reducible apply w_lenQ _ ?c); (case c => walk_at "osq"))
  | ((with_reducible apply w_ixT _ _ ?c ?d); (case c => walk_at "ost"); (case d => rfl))
  | ((with_reducible apply w_lenS ?c); (case c => first | assumption | exact szle (by omega)))
  | ((with_reducible apply w_lenQT _ ?c); (case c => walk_at "ost"))
  | ((with_reducible apply w_tyL _ ?c); (case c => walk_at "osq")))
local macro_rules | `(tactic| walk_at "os3") => `(tactic| first
  | ((with_reducible apply w_b1 _ _ _ _ _ ?c); (case c => first | exact upd_same | assumption))
  | ((with_reducible apply w_b2 _ _ _ _ _ ?c); (case c => first | exact upd_same | assumption))
  | ((with_reducible apply w_b3 _ _ _ _ _ ?c); (case c => first | exact upd_same | assumption))
  | ((with_reducible apply w_b4 _ _ _ _ _ ?c); (case c => first | exact upd_same | assumption))
  | ((with_reducible apply w_setL _ _ ?c ?d); (case c => first | exact upd_same | assumption); (case d => rfl))
  | ((with_reducible apply w_app _ ?c ?d); (case c => first | exact upd_same | assumption | exact Mu.h (by assumption)); (case d => first | exact small_lt (by omega) | assumption))
  | ((with_reducible apply w_slL _ ?c); (case c => walk_at "osq"))
  | ((with_reducible apply w_listOf _ ?c); (case c => walk_at "osq")))
local macro_rules | `(tactic| walk_at "s6") => `(tactic| first
  | ((with_reducible refine w_iteF ?c ?_); (case c => decide +kernel))
  | ((with_reducible refine w_iteT ?c ?_); (case c => decide +kernel)))
local macro_rules | `(tactic| walk_at "og1") => `(tactic| first
  | refine goOS ?_
  | refine goOO ?_
  | ((refine sideI 2 ?_); walk_at "os2")
  | ((refine sideI 1 ?_); walk_at "s1")
  | ((refine sideI 3 ?_); walk_at "os3")
  | ((refine sideI 5 ?_); (with_reducible apply w_tgt _ ?c ?d); (case c => walk_at "ost"); (case d => rfl))
  | ((refine sideI 6 ?_); walk_at "s6"))
local macro_rules | `(tactic| walk_at "og") => `(tactic| repeat walk_at "og1")
local macro_rules | `(tactic| walk_at "memr") => `(tactic| first | with_reducible exact List.mem_cons_self .. | ((with_reducible refine List.mem_cons_of_mem _ ?_); walk_at "memr"))
local macro_rules | `(tactic| walk_at "memd") => `(tactic| first | exact List.mem_cons_self .. | ((with_reducible refine List.mem_cons_of_mem _ ?_); walk_at "memd"))
local macro_rules | `(tactic| walk_at "mem") => `(tactic| first | walk_at "memr" | walk_at "memd")
local macro_rules | `(tactic| walk_at "rm") => `(tactic| first | with_reducible exact Rm.here | ((with_reducible apply Rm.there); walk_at "rm"))
local macro_rules | `(tactic| walk_at "rmd") => `(tactic| first | exact Rm.here | ((with_reducible apply Rm.there); walk_at "rmd"))
local macro_rules | `(tactic| walk_at "pick") => `(tactic| first | with_reducible exact Pick.nil | ((with_reducible apply Pick.cons); (first | walk_at "rm" | walk_at "rmd"); walk_at "pick"))
local macro_rules | `(tactic| walk_at "pk") => `(tactic| exact ⟨_, by walk_at "pick"⟩)
local macro_rules | `(tactic| walk_at "app") => `(tactic| first | with_reducible exact App.nil | ((with_reducible apply App.cons); walk_at "app"))
local macro_rules | `(tactic| walk_at "w") => `(tactic| first | assumption | exact W.to (by assumption) (by walk_at "pick"))
local macro_rules | `(tactic| walk_at "lb") => `(tactic| first | assumption | omega | exact szle (by simp) | exact szle (by omega) | exact szle (by simp; omega) | exact small_lt (by omega) | exact small_lt (by simp; omega))
local macro_rules | `(tactic| walk_at "sq") => `(tactic| first
  | assumption
  | exact W.sqM (by assumption) (by walk_at "mem")
  | exact W.sqF (by assumption) (by walk_at "mem")
  | exact W.sqI (by assumption) (by walk_at "mem")
  | exact W.sq0 (by assumption) (by assumption))
local macro_rules | `(tactic| walk_at "st") => `(tactic| first
  | assumption
  | exact W.stF (by assumption) (by walk_at "mem")
  | exact W.stI (by assumption) (by walk_at "mem")
  | exact W.st0 (by assumption) (by assumption))
local macro_rules | `(tactic| walk_at "at") => `(tactic| first
  | assumption
  | exact W.at_ (by assumption) (by walk_at "mem")
  | exact W.fx (by assumption) (by walk_at "mem"))
local macro_rules | `(tactic| walk_at "wp") => `(tactic| dsimp only [wipe, List.map, List.set_cons_succ, List.set_cons_zero])
local macro_rules | `(tactic| walk_at "s2") => `(tactic| first
  | ((with_reducible apply w_ixL _ _ ?c ?d); (case c => walk_at "sq"); (case d => rfl))
  | ((with_reducible apply w_lenQ _ ?c); (case c => walk_at "sq"))
  | ((with_reducible apply w_ixT _ _ ?c ?d); (case c => walk_at "st"); (case d => rfl))
  | ((with_reducible apply w_lenS ?c); (case c => first | assumption | exact szle (by omega)))
  | ((with_reducible apply w_lenQT _ ?c); (case c => walk_at "st"))
  | ((with_reducible apply w_tyL _ ?c); (case c => walk_at "sq")))
local macro_rules | `(tactic| walk_at "s4") => `(tactic| first
  | ((with_reducible apply n_fld ?c ?d ?a ?b); (case c => walk_at "at"); (case d => rfl); (case a => assumption); (case b => assumption))
  | ((with_reducible apply n_meth ?c ?d); (case c => walk_at "at"); (case d => rfl))
  | ((with_reducible apply x_aug ?c ?_); (case c => rfl))
  | ((with_reducible apply n_il ?c ?_); (case c => walk_at "sq"))
  | ((with_reducible apply n_it ?c ?_); (case c => walk_at "st")))
local macro_rules | `(tactic| walk_at "s5") => `(tactic| first
  | ((with_reducible refine n_rng1 ?c ?d ?_); (case c => omega); (case d => omega))
  | ((with_reducible refine n_rng2 ?c ?d ?e ?f ?_); (case c => omega); (case d => omega); (case e => omega); (case f => omega))
  | ((with_reducible apply w_tgt _ ?c ?d); (case c => walk_at "st"); (case d => rfl))
  | ((with_reducible refine n_ipI ?_); (try dsimp only [List.set_cons_succ, List.set_cons_zero]))
  | ((with_reducible refine n_adds ?c ?_); (case c => first | exact szle (by decide +kernel) | exact szle (by omega))))
local macro_rules | `(tactic| walk_at "s7") => `(tactic| first
  | walk_at "s6"
  | ((with_reducible refine x_wp ?c ?_); (case c => rfl)))
local macro_rules | `(tactic| walk_at "go1") => `(tactic| first
  | refine goNS ?_
  | refine goNN ?_
  | ((refine sideI 2 ?_); walk_at "s2")
  | ((refine sideI 4 ?_); walk_at "s4")
  | ((refine sideI 5 ?_); walk_at "s5")
  | ((refine sideI 1 ?_); walk_at "s1")
  | ((refine sideI 6 ?_); walk_at "s7")
  | walk_at "wp")
local macro_rules | `(tactic| walk_at "go") => `(tactic| repeat walk_at "go1")
section
variable {P : Program} {w : World} {K : PySem.W.Frag} {mg : Str → Option Value} {base : Heap}
-- gives
theorem ok_gives {f : Addr} {fd : FuncData} (F : FunD K "gives" "gives" (defArgs s_gives) (defBody s_gives) (defScope s_gives) [] [] f fd) (T : Txt K mg)  : FnOk P w K mg base CX0 1 f fd ["row", "size"] (S2 (φgives K)) := by
  refine F.ok sc_gives (fun vs H Q E h => ?_) (fun cdv A outer s H vs Q E hr h => ?_)
  · exact S2.len h
  · match vs, h with
    | [v0, v1], h =>
    have hu := hu_of hr
    refine ⟨_, PSs.nox (pss_cons (ps_if (pt_cmpR op_eq (pe_ix (ixT (K := K)) (pv 0) pe_int (fun _ _ => rfl)) pe_str (nomark _)) (pss_one (ps_ret (pe_callB clLenS (by rfl) T.b_len (by decide +kernel) (pa_cons (pe_ix (ixT (K := K)) (pv 0) pe_int (fun _ _ => rfl)) pa_nil)))) pss_nil)
      (pss_cons (ps_if (PW.pt (pw_or (pt_cmpR op_lt (pe_ix (ixT (K := K)) (pv 0) pe_int (fun _ _ => rfl)) pe_int (nomark _)) (pw_or (pt_cmpR op_lt (pe_ix (ixT (K := K)) (pv 0) pe_int (fun _ _ => rfl)) pe_int (nomark _)) (pw_or1 (pt_cmpR op_gt (pe_op op_add (pe_ix (ixT (K := K)) (pv 0) pe_int (fun _ _ => rfl)) (pe_ix (ixT (K := K)) (pv 0) pe_int (fun _ _ => rfl))) (pv 1) (nomark _)))))) (pss_one (ps_ret pe_int)) pss_nil)
      (pss_one (ps_ret (pe_ix (ixT (K := K)) (pv 0) pe_int (fun _ _ => rfl)))))), ?_⟩
    rw [show start ["row", "size"] [v0, v1] = [some v0, some v1] from rfl]
    obtain ⟨F, r, n, rfl, hw, hx, hok, q⟩ := h
    have w := W.start (M := []) hw
    cases r with
    | put s =>
      obtain ⟨a, rfl, hT⟩ := dp_cput hx
      have hl := hok.s.2
      walk_at "go"
      exact q _ _ w
    | copy a k =>
      obtain ⟨p, rfl, hT⟩ := dp_ccopy hx
      have hp : 1 ≤ k := hok.p
      have hh : a + k ≤ n := hok.h
      walk_at "go"
      refine w_iteF (by omega) ?_
      walk_at "go"
      refine w_iteF (by omega) ?_
      walk_at "go"
      refine w_iteF (by omega) ?_
      walk_at "go"
      exact q _ _ w
-- row_text
theorem ok_row_text {f : Addr} {fd : FuncData} (F : FunD K "row_text" "row_text" (defArgs s_row_text) (defBody s_row_text) (defScope s_row_text) [] [] f fd) (T : Txt K mg)  : FnOk P w K mg base CX0 1 f fd ["row"] (S1 (φrowtext K)) := by
  refine F.ok sc_row_text (fun vs H Q E h => ?_) (fun cdv A outer s H vs Q E hr h => ?_)
  · exact S1.len h
  · match vs, h with
    | [v0], h =>
    have hu := hu_of hr
    refine ⟨_, PSs.nox (pss_cons (ps_if (pt_cmpR op_eq (pe_ix (ixT (K := K)) (pv 0) pe_int (fun _ _ => rfl)) pe_str (nomark _)) (pss_one (ps_ret (pe_op opAddS pe_str (pe_ix (ixT (K := K)) (pv 0) pe_int (fun _ _ => rfl))))) pss_nil)
      (pss_one (ps_ret (pe_joined (.cons pe_str (.cons (pe_fmt (pe_ix (ixT (K := K)) (pv 0) pe_int (fun _ _ => rfl))) (.cons pe_str (.cons (pe_fmt (pe_ix (ixT (K := K)) (pv 0) pe_int (fun _ _ => rfl))) .nil)))))))), ?_⟩
    rw [show start ["row"] [v0] = [some v0] from rfl]
    obtain ⟨F, r, n, hw, hx, hok, hn, q⟩ := h
    have w := W.start (M := []) hw
    cases r with
    | put s =>
      obtain ⟨a, rfl, hT⟩ := dp_cput hx
      have hl := hok.s.2
      walk_at "go"
      refine n_adds (szle (by show 4 + s.length ≤ 1000000; omega)) ?_
      exact q _ _ _ (by walk_at "w") (by rw [cd_app]; rfl)
    | copy a k =>
      obtain ⟨p, rfl, hT⟩ := dp_ccopy hx
      have hp : 1 ≤ k := hok.p
      have hh : a + k ≤ n := hok.h
      have na := num_ok (n := a) (by omega)
      have nk := num_ok (n := k) (by omega)
      have la := na.2
      have lk := nk.2
      walk_at "go"
      refine n_js (szle (by rw [len_app, slen_e, slen_copy]; decide)) ?_
      walk_at "go"
      refine n_fmtI (num_log (by omega)) ?_
      refine n_js (y := numS a) (szle (by rw [len_app, len_app, slen_e, slen_copy]; omega)) ?_
      walk_at "go"
      refine n_js (szle (by rw [len_app, len_app, len_app, slen_e, slen_copy, slen_sp]; omega)) ?_
      walk_at "go"
      refine n_fmtI (num_log (by omega)) ?_
      refine n_js (y := numS k) (szle (by rw [len_app, len_app, len_app, len_app, slen_e, slen_copy, slen_sp]; omega)) ?_
      walk_at "go"
      exact q _ _ _ (by walk_at "w") (by rw [cd_app, cd_app, cd_app, cd_app, cd_e]; rfl)
-- Change.__init__
theorem ok_ChangeX_initX {f : Addr} {fd : FuncData} (F : FunD K "__init__" "Change.__init__" (defArgs s_ChangeX_initX) (defBody s_ChangeX_initX) (defScope s_ChangeX_initX) [] [] f fd) (T : Txt K mg) (D_gives : DO P w K mg base 1 "gives" ["row", "size"] [] (S2 (φgives K))) : FnOk P w K mg base CX0 2 f fd ["self", "size", "rows"] (S3 (φinit K)) := by
  refine F.ok sc_ChangeX_initX (fun vs H Q E h => ?_) (fun cdv A outer s H vs Q E hr h => ?_)
  · exact S3.len h
  · match vs, h with
    | [v0, v1, v2], h =>
    have hu := hu_of hr
    refine ⟨_, PSs.nox (pss_cons (ps_if (PW.pt (pw_or (pt_cmpR op_lt (pv 1) pe_int (nomark _)) (pw_or1 (pt_cmpR op_gt (pv 1) (pe_gint (by rfl) T.c_MOST) (nomark _))))) (pss_one ps_never) pss_nil)
      (pss_cons (ps_set (i := 3) sc_ChangeX_initX.nd rfl (.inl rfl) pe_int)
      (pss_cons (ps_for PassesOwn.never rfl (pi_range1 rfl T.b_range (pa_cons (pe_callB (clLenQ (K := K)) (by rfl) T.b_len (by decide +kernel) (pa_cons (pv 2) pa_nil)) pa_nil)) (pg_name (i := 4) sc_ChangeX_initX.nd rfl (.inl rfl)) (pss_cons (ps_set (i := 5) sc_ChangeX_initX.nd rfl (.inl rfl) (pcall D_gives hr (pa_cons (pe_ix (ixL (K := K)) (pv 2) (pv 4) (fun _ _ => rfl)) (pa_cons (pv 1) pa_nil))))
      (pss_cons (ps_set (i := 3) sc_ChangeX_initX.nd rfl (.inl rfl) (pe_op op_add (pv 3) (pv 5)))
      (pss_one (ps_if (PW.pt (pw_or (pt_cmpR op_eq (pv 5) pe_int (nomark _)) (pw_or1 (pt_cmpR op_gt (pv 3) (pe_gint (by rfl) T.c_MOST) (nomark _))))) (pss_one ps_never) pss_nil)))))
      (pss_cons (psFld (K := K) (pv 0) (pv 1) rfl)
      (pss_one (psFld (K := K) (pv 0) (pe_callTy (clListOf (K := K)) (by rfl) T.b_list (by decide +kernel) (pa_cons (pv 2) pa_nil)) rfl)))))), ?_⟩
    rw [show start ["self", "size", "rows", "many", "k", "more"] [v0, v1, v2] = [some v0, some v1, some v2, none, none, none] from rfl]
    have kC := T.k_Change
    have kS := T.na_Change_size
    have kR := T.na_Change_rows
    
    obtain ⟨F, c, dx, a, vs, n, rows, rfl, rfl, rfl, s0, hS, hD, hn, hok, q⟩ := h
    have w := s0.w (M := [c])
    have hrl := hok.len
    have hvl : vs.length = rows.length := by rw [dpa_len hD, List.length_map]
    obtain ⟨tM, eM⟩ := T.c_MOST
    walk_at "go"
    refine w_iteF (by omega) ?_
    walk_at "go"
    refine w_iteF (by omega) ?_
    walk_at "go"
    refine n_forR w (fun i σ L => ∃ y4 y5, σ = [some (.ref c), some (.int (n : Nat)), some (.ref a), some (.int ((givesL (rows.take i) : Nat) : Int)), y4, y5] ∧ L = [mu c (.ins (He.ga K "Change") dx [])]) ⟨none, none, rfl, rfl⟩ (fun i σ L F' H' hi hp w => ?_) (fun σ L F' H' hp w => ?_)
    · obtain ⟨y4, y5, rfl, rfl⟩ := hp
      have hi2 : i < vs.length := by omega
      obtain ⟨r, hr, dr⟩ := dpa_at hD (getD_of hi2)
      have ro := hok.ok r (List.mem_of_getElem? hr)
      have g1 := gives_take hr
      have g2 := gives_le rows (i + 1)
      have g3 := hok.sum
      have g4 := ro.p
      walk_at "go"
      refine w_ixL _ _ (by walk_at "sq") (atI_nat (getD_of hi2)) ?_
      walk_at "go"
      refine ⟨F', r, n, rfl, w.fh, w.dp0 dr, ro, fun F2 H2 w2 => ?_⟩
      replace w := w.cal .nil w2 (by walk_at "app")
      walk_at "go"
      refine w_iteF (by omega) ?_
      walk_at "go"
      refine w_iteF (by omega) ?_
      walk_at "go"
      exact nx_mk w ⟨_, _, by rw [g1]; rfl, rfl⟩ (by walk_at "pk")
    · obtain ⟨y4, y5, rfl, rfl⟩ := hp
      walk_at "go"
      refine n_sfld w (by walk_at "pick") kC kS (by show (0 : Nat) < 1000; decide) fun H2 w => ?_
      walk_at "go"
      refine n_listOf w (by walk_at "sq") fun r F3 H3 w hr => ?_
      walk_at "go"
      refine n_sfld w (by walk_at "pick") kC kR (by show (1 : Nat) < 1000; decide) fun H4 w => ?_
      exact q r F3 H4 hr (by walk_at "w")
-- Change.__eq__
theorem ok_ChangeX_eqX {f : Addr} {fd : FuncData} (F : FunD K "__eq__" "Change.__eq__" (defArgs s_ChangeX_eqX) (defBody s_ChangeX_eqX) (defScope s_ChangeX_eqX) [] [] f fd) (T : Txt K mg)  : FnOk P w K mg base CX0 6 f fd ["self", "other"] (S2 (φceq K)) := by
  refine F.ok sc_ChangeX_eqX (fun vs H Q E h => ?_) (fun cdv A outer s H vs Q E hr h => ?_)
  · exact S2.len h
  · match vs, h with
    | [v0, v1], h =>
    have hu := hu_of hr
    refine ⟨_, PSs.nox (pss_one (ps_ret (pe_and (pe_callB (clIsC T.i_Change) (by rfl) T.b_isinstance (by decide +kernel) (pa_cons (pv 1) (pa_cons (C8.pe_gc (v := .ref (He.ga K "Change")) (by rfl) ⟨_, T.g_Change, rfl⟩) pa_nil))) (pe_and (pe_cmpR op_eq (peFld (K := K) (pv 0)) (peFld (K := K) (pv 1)) (nomark _)) (pe_one (pe_cmpR (opEqD (K := K) hr.units) (peFld (K := K) (pv 0)) (peFld (K := K) (pv 1)) (nomark _))))))), ?_⟩
    rw [show start ["self", "other"] [v0, v1] = [some v0, some v1] from rfl]
    have kC := T.k_Change
    have kS := T.na_Change_size
    have kR := T.na_Change_rows
    
    obtain ⟨F, n, rows, hw, hC1, hC2, hok, q⟩ := h
    obtain ⟨c1, dx1, r1, vs1, rfl, hc1, hr1, hD1⟩ := hC1
    obtain ⟨c2, dx2, r2, vs2, rfl, hc2, hr2, hD2⟩ := hC2
    have w := ((((W.start (M := []) hw).push (fx c1 _) hc1).push (fx r1 (.lst vs1)) hr1).push (fx c2 _) hc2).push (fx r2 (.lst vs2)) hr2
    unfold insC at w
    have gok := crows_good (fun m hm => (hok.ok m hm).s) (show rows.length ≤ 100000 by have := hok.len; omega)
    walk_at "go"
    refine n_isC (by walk_at "at") ?_
    walk_at "go"
    refine u_eqD (Same.refl _) (d := .list (rows.map CRow.d)) (.lst (by walk_at "sq") (dpa_same w.fh _ _ hD1)) (.lst (by walk_at "sq") (dpa_same w.fh _ _ hD2)) gok.1 (by have := gok.2; omega) ?_
    walk_at "go"
    exact q _ _ (by walk_at "w")
-- Change.__len__
theorem ok_ChangeX_lenX {f : Addr} {fd : FuncData} (F : FunD K "__len__" "Change.__len__" (defArgs s_ChangeX_lenX) (defBody s_ChangeX_lenX) (defScope s_ChangeX_lenX) [] [] f fd) (T : Txt K mg)  : FnOk P w K mg base CX0 1 f fd ["self"] (S1 (φclen K)) := by
  refine F.ok sc_ChangeX_lenX (fun vs H Q E h => ?_) (fun cdv A outer s H vs Q E hr h => ?_)
  · exact S1.len h
  · match vs, h with
    | [v0], h =>
    have hu := hu_of hr
    refine ⟨_, PSs.nox (pss_one (ps_ret (pe_callB (clLenQ (K := K)) (by rfl) T.b_len (by decide +kernel) (pa_cons (peFld (K := K) (pv 0)) pa_nil)))), ?_⟩
    rw [show start ["self"] [v0] = [some v0] from rfl]
    have kC := T.k_Change
    have kS := T.na_Change_size
    have kR := T.na_Change_rows
    
    obtain ⟨F, n, rows, hw, hC, hl, q⟩ := h
    obtain ⟨c, dx, r, vs, rfl, hc, hr, hD⟩ := hC
    have w := ((W.start (M := []) hw).push (fx c _) hc).push (fx r (.lst vs)) hr
    unfold insC at w
    walk_at "go"
    rw [show (vs.length : Nat) = rows.length by rw [dpa_len hD, List.length_map]]
    exact q _ _ (by walk_at "w")
-- Change.__str__
theorem ok_ChangeX_strX {f : Addr} {fd : FuncData} (F : FunD K "__str__" "Change.__str__" (defArgs s_ChangeX_strX) (defBody s_ChangeX_strX) (defScope s_ChangeX_strX) [] [] f fd) (T : Txt K mg) (D_row_text : DO P w K mg base 1 "row_text" ["row"] [] (S1 (φrowtext K))) : FnOk P w K mg base CX0 2 f fd ["self"] (S1 (φstr K)) := by
  refine F.ok sc_ChangeX_strX (fun vs H Q E h => ?_) (fun cdv A outer s H vs Q E hr h => ?_)
  · exact S1.len h
  · match vs, h with
    | [v0], h =>
    have hu := hu_of hr
    refine ⟨_, PSs.nox (pss_one (ps_ret (peJoin (K := K) pe_str (pe_op op_cat (pe_lst (pa_cons (pe_joined (.cons pe_str (.cons (pe_fmt (peFld (K := K) (pv 0))) .nil))) pa_nil)) (pe_lc (own := [("row", 1)]) (g := gName 1) rfl sc_ChangeX_strX.nd (pi_list (peFld (K := K) (pv 0))) (blkOk_by (own := [("row", 1)]) (N := ["self", "row"]) (sc := defScope s_ChangeX_strX) (by decide +kernel)) (fun _ _ _ _ _ => pg_name (i := 1) sc_ChangeX_strX.nd rfl (Or.inl rfl)) (fun _ _ _ _ _ => pts_nil) (fun _ _ _ _ _ => (pcall D_row_text hr (pa_cons (pv 1) pa_nil)))))))), ?_⟩
    rw [show start ["self", "row"] [v0] = [some v0, none] from rfl]
    have kC := T.k_Change
    have kS := T.na_Change_size
    have kR := T.na_Change_rows
    
    obtain ⟨F, n, rows, hw, hC, hok, hn, q⟩ := h
    obtain ⟨c, dx, r, vs, rfl, hc, hr', hD⟩ := hC
    have w := (((W.start (M := []) hw).push (fx c _) hc).push (fx r (.lst vs)) hr').push (dpa K vs (rows.map CRow.d)) hD
    unfold insC at w
    have hrl := hok.len
    have hvl : vs.length = rows.length := by rw [dpa_len hD, List.length_map]
    have nn := num_ok hn
    have ln := nn.2
    walk_at "go"
    refine n_js (szle (by rw [len_app, slen_e, slen_size]; decide)) ?_
    walk_at "go"
    refine n_fmtI (num_log hn) ?_
    refine n_js (y := numS n) (szle (by rw [len_app, len_app, slen_e, slen_size]; omega)) ?_
    walk_at "go"
    refine n_lst w (szle (by simp)) fun p1 F1 H1 w hp1 => ?_
    walk_at "go"
    refine n_lcL vs w (fun i ys L => ∃ ts : List Str, ys = ts.map V.str ∧ ts.map cd = (rows.take i).map rowW ∧ L = [mu p1 (.lst [V.str (Str.empty ++ Str.ofString "size " ++ numS n)]), fx r (.lst vs), dpa K vs (rows.map CRow.d)]) ⟨[], rfl, rfl, rfl⟩ (fun i ys L F' H' D hp w => ?_) (fun i x ys L F' H' D hx hp w hDn => ?_) (fun D ys L F' H' hp w hDn => ?_)
    · obtain ⟨ts, rfl, ht, rfl⟩ := hp
      walk_at "sq"
    · obtain ⟨ts, rfl, ht, rfl⟩ := hp
      obtain ⟨m, hm, dm⟩ := dpa_at (w.dpa (K := K) (xs := vs) (ds := rows.map CRow.d) (by walk_at "mem")) hx
      have hi := (List.getElem?_eq_some_iff.mp hm).1
      have lt : ts.length = i := by
        have := congrArg List.length ht
        rw [List.length_map, List.length_map, List.length_take] at this
        omega
      walk_at "wp"
      walk_at "go"
      refine ⟨_, m, n, w.fh, dm, hok.ok m (List.mem_of_getElem? hm), hn, fun s F5 H5 w5 hs => ?_⟩
      replace w := w.cal .nil w5 (by walk_at "app")
      refine n_acc _ w ⟨ts ++ [s], by rw [List.map_append]; rfl, ?_, rfl⟩ (by walk_at "pk") (small_lt (by rw [List.length_map]; omega))
      rw [List.map_append, ht, List.take_add_one, hm, List.map_append, List.map_cons, hs]
      rfl
    · obtain ⟨ts, rfl, ht, rfl⟩ := hp
      rw [hvl, List.take_length] at ht
      have lt : ts.length = rows.length := by
        have := congrArg List.length ht
        rwa [List.length_map, List.length_map] at this
      walk_at "go"
      refine n_cat w (by walk_at "at") (by walk_at "at") (szle (by rw [List.length_map]; show 1 + _ ≤ _; omega)) fun p4 F6 H6 w hp4 => ?_
      walk_at "go"
      refine ⟨_, p4, (Str.empty ++ Str.ofString "size " ++ numS n) :: ts, rfl, rfl, .inl (by walk_at "sq"), ?_, ?_⟩
      · have hb : ∀ t ∈ (Str.empty ++ Str.ofString "size " ++ numS n) :: ts, t.length ≤ 1000 := by
          intro t ht2
          rcases List.mem_cons.mp ht2 with rfl | ht2
          · rw [len_app, len_app, slen_e, slen_size]
            omega
          · have hm2 : cd t ∈ rows.map rowW := by rw [← ht]; exact List.mem_map.mpr ⟨t, ht2, rfl⟩
            obtain ⟨m, hm, e⟩ := List.mem_map.mp hm2
            have h1 := row_len (hok.ok m hm) hn
            have h2 := row_le hm
            have h3 := hok.sum
            rw [← cd_len, ← e]
            omega
        have hs := sum_le hb
        rw [slen_nl]
        rw [List.length_cons] at hs ⊢
        omega
      · refine q _ _ _ (by walk_at "w") ?_
        rw [join_nl, ht, cd_app, cd_app, cd_e]
        show _ ++ ((rows.map rowW).flatMap fun c => 10 :: c) = _
        rw [List.flatMap_map]
        rfl
-- Change.cells
theorem ok_Change_cells {f : Addr} {fd : FuncData} (F : FunD K "cells" "Change.cells" (defArgs s_Change_cells) (defBody s_Change_cells) (defScope s_Change_cells) [] [] f fd) (T : Txt K mg)  : FnOk P w K mg base CX0 1 f fd ["self"] (S1 (φcells K)) := by
  refine F.ok sc_Change_cells (fun vs H Q E h => ?_) (fun cdv A outer s H vs Q E hr h => ?_)
  · exact S1.len h
  · match vs, h with
    | [v0], h =>
    have hu := hu_of hr
    refine ⟨_, PSs.nox (pss_cons (ps_set (i := 1) sc_Change_cells.nd rfl (.inl rfl) (pe_lst pa_nil))
      (pss_cons (ps_for PassesOwn.never rfl (pi_list (peFld (K := K) (pv 0))) (pg_name (i := 2) sc_Change_cells.nd rfl (.inl rfl)) (pss_one (ps_if (pt_cmpR op_eq (pe_ix (ixT (K := K)) (pv 2) pe_int (fun _ _ => rfl)) pe_str (nomark _)) (pss_one (ps_expr (peBM (K := K) PySem.F.plainAttrs_list PySem.F.slot_list_extend PySem.F.type_list_extend mt_extend (pv 1) (pa_cons (pe_callTy clListS (by rfl) T.b_list (by decide +kernel) (pa_cons (pe_ix (ixT (K := K)) (pv 2) pe_int (fun _ _ => rfl)) pa_nil)) pa_nil)))) (pss_one (ps_expr (peBM (K := K) PySem.F.plainAttrs_list PySem.F.slot_list_extend PySem.F.type_list_extend mt_extend (pv 1) (pa_cons (pe_listRg rfl (by rfl) T.b_list (prg_2 (by rfl) T.b_range (pe_ix (ixT (K := K)) (pv 2) pe_int (fun _ _ => rfl)) (pe_op op_add (pe_ix (ixT (K := K)) (pv 2) pe_int (fun _ _ => rfl)) (pe_ix (ixT (K := K)) (pv 2) pe_int (fun _ _ => rfl))))) pa_nil)))))))
      (pss_one (ps_ret (pv 1))))), ?_⟩
    rw [show start ["self", "found", "row"] [v0] = [some v0, none, none] from rfl]
    have kC := T.k_Change
    have kS := T.na_Change_size
    have kR := T.na_Change_rows
    
    obtain ⟨F, n, rows, hw, hC, hok, hn, q⟩ := h
    obtain ⟨c, dx, r, vs, rfl, hc, hr, hD⟩ := hC
    have w := ((W.start (M := []) hw).push (fx c _) hc).push (fx r (.lst vs)) hr
    unfold insC at w
    walk_at "go"
    refine n_lst w (szle (by simp)) fun f F1 H1 w hf => ?_
    walk_at "go"
    refine n_forL vs w (fun i σ L => ∃ y2, σ = [some (.ref c), some (.ref f), y2] ∧ L = [mu f (.lst (cellsV (rows.take i))), fx r (.lst vs)]) ⟨none, rfl, rfl⟩ (fun i σ L F' H' hp w => ?_) (fun i x σ L F' H' hx hp w => ?_) (fun σ L F' H' hp w => ?_)
    · obtain ⟨y2, rfl, rfl⟩ := hp
      walk_at "sq"
    · obtain ⟨y2, rfl, rfl⟩ := hp
      obtain ⟨m, hm, dm⟩ := dpa_at hD hx
      have mo := hok.ok m (List.mem_of_getElem? hm)
      have e1 : cellsV (rows.take (i + 1)) = cellsV (rows.take i) ++ m.cellV := by
        unfold cellsV
        rw [List.take_add_one, hm, List.flatMap_append]
        simp
      have l1 := cells_len (rows.take i)
      have l2 := gives_le rows i
      have l3 := hok.sum
      cases m with
      | put s =>
        obtain ⟨pm, rfl, hT⟩ := dp_cput dm
        have hT := sqT_same (K := K) w.ws hT
        have hsl := mo.s.2
        walk_at "go"
        refine n_listS w (szle (by omega)) fun p2 F2 H2 w hp2 => ?_
        walk_at "go"
        refine n_ext w (by walk_at "at") (by walk_at "pick") (szle (by rw [chars_len]; omega)) fun H3 w => ?_
        rw [show chars s = (CRow.put s).cellV from rfl] at w
        rw [← e1] at w
        exact nx_mk w ⟨_, rfl, rfl⟩ (by walk_at "pk")
      | copy a k =>
        obtain ⟨pm, rfl, hT⟩ := dp_ccopy dm
        have hT := sqT_same (K := K) w.ws hT
        have hh : a + k ≤ n := mo.h
        have hk : 1 ≤ k := mo.p
        have hk2 := gives_take hm
        have hk3 := gives_le rows (i + 1)
        replace hk2 : givesL (rows.take (i + 1)) = givesL (rows.take i) + k := hk2
        walk_at "go"
        refine ⟨_, _, rfl, rfl, ?_⟩
        refine n_lstRg w (RgOk.of_le (by omega) (by omega) (by omega) (by omega)) fun p2 F2 H2 w hp2 => ?_
        rw [show rgV (a : Int) ((a : Int) + (k : Nat)) = CRow.cellV (.copy a k) by unfold rgV CRow.cellV; rw [show ((a : Int) + (k : Nat) - (a : Int)).toNat = k by omega]; rfl] at w
        walk_at "go"
        refine n_ext w (by walk_at "at") (by walk_at "pick") (szle (by rw [cellV_len]; show _ + k ≤ _; omega)) fun H3 w => ?_
        rw [← e1] at w
        exact nx_mk w ⟨_, rfl, rfl⟩ (by walk_at "pk")
    · obtain ⟨y2, rfl, rfl⟩ := hp
      rw [List.take_of_length_le (by rw [dpa_len hD, List.length_map]; exact Nat.le_refl _)] at w
      walk_at "go"
      exact q f F' H' hf (by walk_at "w")
-- Change.done
theorem ok_Change_done {f : Addr} {fd : FuncData} (F : FunD K "done" "Change.done" (defArgs s_Change_done) (defBody s_Change_done) (defScope s_Change_done) [] [] f fd) (T : Txt K mg)  (DM_Change_cells : DM P w K mg base 1 "Change" "cells" ["self"] [] (S1 (φcells K))) : FnOk P w K mg base CX0 2 f fd ["self", "old"] (S2 (φdoneC K)) := by
  refine F.ok sc_Change_done (fun vs H Q E h => ?_) (fun cdv A outer s H vs Q E hr h => ?_)
  · exact S2.len h
  · match vs, h with
    | [v0, v1], h =>
    have hu := hu_of hr
    refine ⟨_, PSs.nox (pss_cons (ps_if (pt_cmpR op_ne (pe_callB clLenS (by rfl) T.b_len (by decide +kernel) (pa_cons (pv 1) pa_nil)) (peFld (K := K) (pv 0)) (nomark _)) (pss_one ps_never) pss_nil)
      (pss_one (ps_ret (peJoin (K := K) pe_str (pe_lc (own := [("cell", 2)]) (g := gName 2) rfl sc_Change_done.nd (pi_list (pmeth0 DM_Change_cells hr (pv 0))) (blkOk_by (own := [("cell", 2)]) (N := ["self", "old", "cell"]) (sc := defScope s_Change_done) (by decide +kernel)) (fun _ _ _ _ _ => pg_name (i := 2) sc_Change_done.nd rfl (Or.inl rfl)) (fun _ _ _ _ _ => pts_nil) (fun _ _ _ _ _ => (pe_ifExp (pt_val (pe_callB (clIsi (K := K)) (by rfl) T.b_isinstance (by decide +kernel) (pa_cons (pv 2) (pa_cons (pe_bltn (v := .ty "int") (by rfl) T.b_int (by decide +kernel) rfl) pa_nil)))) (pe_ix ix_str (pv 1) (pv 2) (fun _ _ => rfl)) (pv 2)))))))), ?_⟩
    rw [show start ["self", "old", "cell"] [v0, v1] = [some v0, some v1, none] from rfl]
    have kC := T.k_Change
    have kS := T.na_Change_size
    have kR := T.na_Change_rows
    
    obtain ⟨F, o, rows, rfl, hw, hC, hok, oko, ho, q⟩ := h
    have hC0 := hC
    obtain ⟨c, dx, r, vs, rfl, hc, hr, hD⟩ := hC
    have w := (W.start (M := []) hw).push (fx c _) hc
    unfold insC at w
    have hcs := cells_ok hok.ok
    have hcl : (cellsV rows).length ≤ 400 := by rw [cells_len]; exact hok.sum
    walk_at "go"
    refine ⟨F, o.length, rows, w.fh, hC0, hok, ho, fun p1 F1 H1 hp1 w1 => ?_⟩
    have hp1' := w.g.fresh hp1
    replace w := w.cal .nil w1 (by walk_at "app")
    walk_at "go"
    
    refine n_lcL (cellsV rows) w (fun i ys L => ys = ((cellsV rows).take i).map (fun v => V.str (outS o v)) ∧ L = [mu p1 (.lst (cellsV rows))]) ⟨rfl, rfl⟩ (fun i ys L F' H' D hp w => ?_) (fun i x ys L F' H' D hx hp w hDn => ?_) (fun D ys L F' H' hp w hDn => ?_)
    · obtain ⟨rfl, rfl⟩ := hp
      walk_at "sq"
    · obtain ⟨rfl, rfl⟩ := hp
      have hi := (List.getElem?_eq_some_iff.mp hx).1
      have e1 : ((cellsV rows).take (i + 1)).map (fun v => V.str (outS o v)) = ((cellsV rows).take i).map (fun v => V.str (outS o v)) ++ [V.str (outS o x)] := by
        rw [List.take_add_one, hx, List.map_append]
        rfl
      have hl : (((cellsV rows).take i).map (fun v => V.str (outS o v))).length ≤ 1000 := by
        rw [List.length_map, List.length_take]
        omega
      walk_at "wp"
      walk_at "go"
      rcases hcs x (List.mem_of_getElem? hx) with ⟨k, rfl, hk⟩ | ⟨c, rfl, hc⟩
      · refine u_isi (F := F') (d := .int (k : Nat)) (.int _) w.fh (k_int _) ?_
        walk_at "go"
        refine w_is (c := true) rfl ?_
        walk_at "go"
        refine w_ixS (szle (by omega)) (sign_get hk) ?_
        exact n_acc _ w ⟨e1.symm, rfl⟩ (by walk_at "pk") (small_lt (by omega))
      · refine u_isi (F := F') (d := .str ⟨#[c]⟩) (.str _) w.fh (k_int _) ?_
        walk_at "go"
        refine w_is (c := false) rfl ?_
        walk_at "go"
        exact n_acc _ w ⟨e1.symm, rfl⟩ (by walk_at "pk") (small_lt (by omega))
    · obtain ⟨rfl, rfl⟩ := hp
      rw [List.take_of_length_le (Nat.le_refl _)] at w
      obtain ⟨zs, ezs⟩ : ∃ zs, zs = (cellsV rows).map (outS o) := ⟨_, rfl⟩
      have hzs : ∀ z ∈ zs, z.length = 1 ∧ okS z := fun z hz => by
        rw [ezs] at hz
        obtain ⟨v, hv, rfl⟩ := List.mem_map.mp hz
        exact outS_ok rfl oko (hcs v hv)
      rw [show (cellsV rows).map (fun v => V.str (outS o v)) = zs.map V.str by rw [ezs, List.map_map]; rfl] at w
      refine ⟨_, D, zs, rfl, rfl, .inl (by walk_at "sq"), ?_, ?_⟩
      · rw [sum_ones zs hzs]
        have : zs.length = (cellsV rows).length := by rw [ezs, List.length_map]
        show zs.length + zs.length * 0 ≤ 16777216
        omega
      · refine q _ F' H' (by walk_at "w") ?_ (joined zs hzs).2
        show cd (Txt.join ⟨#[]⟩ zs) = _
        rw [join_cd, ezs]
        exact outs_rows o hok.ok
-- rows_of
theorem ok_rows_of {f : Addr} {fd : FuncData} (F : FunD K "rows_of" "rows_of" (defArgs s_rows_of) (defBody s_rows_of) (defScope s_rows_of) [] [] f fd) (T : Txt K mg)  : FnOk P w K mg base CX0 1 f fd ["cells"] (S1 (φrows_of K)) := by
  refine F.ok sc_rows_of (fun vs H Q E h => ?_) (fun cdv A outer s H vs Q E hr h => ?_)
  · exact S1.len h
  · match vs, h with
    | [v0], h =>
    have hu := hu_of hr
    refine ⟨_, PSs.nox (pss_cons (ps_set (i := 1) sc_rows_of.nd rfl (.inl rfl) (pe_lst pa_nil))
      (pss_cons (ps_set (i := 2) sc_rows_of.nd rfl (.inl rfl) (pe_tup (pa_cons pe_str (pa_cons pe_int (pa_cons pe_int pa_nil)))))
      (pss_cons (ps_for PassesOwn.never rfl (pi_list (pv 0)) (pg_name (i := 3) sc_rows_of.nd rfl (.inl rfl)) (pss_one (ps_if (PW.pt (pw_and (pt_val (pe_callB (clIsi (K := K)) (by rfl) T.b_isinstance (by decide +kernel) (pa_cons (pv 3) (pa_cons (pe_bltn (v := .ty "int") (by rfl) T.b_int (by decide +kernel) rfl) pa_nil)))) (pw_and (pt_cmpR op_eq (pe_ix (ixT (K := K)) (pv 2) pe_int (fun _ _ => rfl)) pe_str (nomark _)) (pw_and1 (pt_cmpR op_eq (pe_op op_add (pe_ix (ixT (K := K)) (pv 2) pe_int (fun _ _ => rfl)) (pe_ix (ixT (K := K)) (pv 2) pe_int (fun _ _ => rfl))) (pv 3) (nomark _)))))) (pss_cons (ps_set (i := 2) sc_rows_of.nd rfl (.inl rfl) (pe_tup (pa_cons pe_str (pa_cons (pe_ix (ixT (K := K)) (pv 2) pe_int (fun _ _ => rfl)) (pa_cons (pe_op op_add (pe_ix (ixT (K := K)) (pv 2) pe_int (fun _ _ => rfl)) pe_int) pa_nil)))))
      (pss_one (ps_asg (pv 2) (pg_sub (pv 1) (pe_un un_neg pe_int) set_list)))) (pss_one (ps_if (PW.pt (pw_and (pt_not (pt_val (pe_callB (clIsi (K := K)) (by rfl) T.b_isinstance (by decide +kernel) (pa_cons (pv 3) (pa_cons (pe_bltn (v := .ty "int") (by rfl) T.b_int (by decide +kernel) rfl) pa_nil))))) (pw_and1 (pt_cmpR op_eq (pe_ix (ixT (K := K)) (pv 2) pe_int (fun _ _ => rfl)) pe_str (nomark _))))) (pss_cons (ps_set (i := 2) sc_rows_of.nd rfl (.inl rfl) (pe_tup (pa_cons pe_str (pa_cons (pe_op opAddS (pe_ix (ixT (K := K)) (pv 2) pe_int (fun _ _ => rfl)) (pv 3)) pa_nil))))
      (pss_one (ps_asg (pv 2) (pg_sub (pv 1) (pe_un un_neg pe_int) set_list)))) (pss_cons (ps_set (i := 2) sc_rows_of.nd rfl (.inl rfl) (pe_ifExp (pt_val (pe_callB (clIsi (K := K)) (by rfl) T.b_isinstance (by decide +kernel) (pa_cons (pv 3) (pa_cons (pe_bltn (v := .ty "int") (by rfl) T.b_int (by decide +kernel) rfl) pa_nil)))) (pe_tup (pa_cons pe_str (pa_cons (pv 3) (pa_cons pe_int pa_nil)))) (pe_tup (pa_cons pe_str (pa_cons (pv 3) pa_nil)))))
      (pss_one (ps_expr (peBM (K := K) PySem.F.plainAttrs_list PySem.F.slot_list_append PySem.F.type_list_append mt_append (pv 1) (pa_cons (pv 2) pa_nil))))))))))
      (pss_one (ps_ret (pv 1)))))), ?_⟩
    rw [show start ["cells", "rows", "last", "cell"] [v0] = [some v0, none, none, none] from rfl]
    obtain ⟨F, a, cs, n, rfl, hw, hS, hok, hn, hl, q⟩ := h
    have w := W.start (M := []) hw
    walk_at "go"
    refine n_lst w (szle (by simp)) fun f F1 H1 w hf => ?_
    walk_at "go"
    refine n_tup w (szle (by simp)) fun t0 F2 H2 w => ?_
    replace w := w.push (dpa K [] (([] : List CRow).map CRow.d)) .nil
    walk_at "go"
    refine n_forL (cs.map Cel.v) w (fun i σ L => ∃ (us : List V) (la : Addr) (lv : List V) (y3 : Option V), σ = [some (.ref a), some (.ref f), some (.ref la), y3] ∧ LastIs (plainR (cs.take i)) us la lv ∧
      L = [mu f (.lst us), dpa K us ((plainR (cs.take i)).reverse.map CRow.d), fx la (.tup lv)]) ⟨[], t0, _, none, rfl, .inl ⟨rfl, rfl, rfl⟩, rfl⟩ (fun i σ L F' H' hp w => ?_) (fun i x σ L F' H' hx hp w => ?_) (fun σ L F' H' hp w => ?_)
    · obtain ⟨us, la, lv, y3, rfl, hla, rfl⟩ := hp
      walk_at "sq"
    · obtain ⟨us, la, lv, y3, rfl, hla, rfl⟩ := hp
      rw [List.getElem?_map] at hx
      obtain ⟨c, hc, rfl⟩ : ∃ c, cs[i]? = some c ∧ x = c.v := by
        cases e : cs[i]? with
        | none => rw [e] at hx; cases hx
        | some c => rw [e] at hx; exact ⟨c, rfl, (Option.some.inj hx).symm⟩
      have e1 := plainR_take hc
      have hi := (List.getElem?_eq_some_iff.mp hc).1
      have co := hok c (List.mem_of_getElem? hc)
      have tok : ∀ d ∈ cs.take i, d.ok n := fun d hd => hok d (List.mem_of_mem_take hd)
      have tl : (cs.take i).length ≤ 400 := by rw [List.length_take]; omega
      have ro := plain_ok tok tl
      have rl := ro.len
      obtain ⟨rs, ers⟩ : ∃ rs, rs = plainR (cs.take i) := ⟨_, rfl⟩
      have ro' : RowsOk n rs.reverse := by rw [ers]; exact ro
      have rl' : rs.length ≤ 400 := by rw [ers]; have := rl; unfold plainL at this; rwa [List.length_reverse] at this
      rw [← ers] at hla e1 w
      have hul : us.length = rs.length := by rw [dpa_len (w.dpa (K := K) (xs := us) (ds := rs.reverse.map CRow.d) (by walk_at "mem")), List.length_map, List.length_reverse]
      clear hx
      have fin_new : ∀ {F2 H2 L} (p : Addr) (z : Option V), W [] F H F2 H2 L → Pk L [mu f (.lst (us ++ [.ref p])), dpa K us (rs.reverse.map CRow.d), fx p (.tup (CRow.one c).vals)] → addC rs c = CRow.one c :: rs → Nx [] F H (fun σ L => ∃ (us : List V) (la : Addr) (lv : List V) (y3 : Option V), σ = [some (.ref a), some (.ref f), some (.ref la), y3] ∧ LastIs (plainR (cs.take (i + 1))) us la lv ∧
          L = [mu f (.lst us), dpa K us ((plainR (cs.take (i + 1))).reverse.map CRow.d), fx la (.tup lv)]) [some (.ref a), some (.ref f), some (.ref p), z] H2 := by
        intro F2 H2 L p z w k ea
        have w := w.pk k
        have d1 : DpAll K F2 us (rs.reverse.map CRow.d) := w.dpa (by walk_at "mem")
        have d2 : F2 p = some (.tup (CRow.one c).vals) := w.i (fx p _) (by walk_at "mem")
        have d3 : Dp K F2 (.ref p) (CRow.one c).d := by
          cases c with
          | pl i => exact dp_ccopy' (sqT_of (K := K) d2)
          | sg c => exact dp_cput' (sqT_of (K := K) d2)
        have d4 := dpa_snoc d1 d3
        rw [show rs.reverse.map CRow.d ++ [(CRow.one c).d] = (plainR (cs.take (i + 1))).reverse.map CRow.d by rw [e1, ea, List.reverse_cons, List.map_append]; rfl] at d4
        exact nx_mk (w.push (dpa K _ _) d4) ⟨us ++ [.ref p], p, _, z, rfl, .inr ⟨CRow.one c, rs, us, by rw [e1, ea], rfl, rfl⟩, rfl⟩ (by walk_at "pk")
      have fin_old : ∀ {F2 H2 L} (p : Addr) (z : Option V) (r q : CRow) (t : List CRow) (us' : List V) (la : Addr), rs = r :: t → us = us' ++ [.ref la] → r.add c = some q → W [] F H F2 H2 L → Pk L [mu f (.lst (us' ++ [.ref p])), dpa K us (rs.reverse.map CRow.d), fx p (.tup q.vals)] → Nx [] F H (fun σ L => ∃ (us : List V) (la : Addr) (lv : List V) (y3 : Option V), σ = [some (.ref a), some (.ref f), some (.ref la), y3] ∧ LastIs (plainR (cs.take (i + 1))) us la lv ∧
          L = [mu f (.lst us), dpa K us ((plainR (cs.take (i + 1))).reverse.map CRow.d), fx la (.tup lv)]) [some (.ref a), some (.ref f), some (.ref p), z] H2 := by
        intro F2 H2 L p z r q t us' la er eu ea w k
        have w := w.pk k
        have d1 : DpAll K F2 us (rs.reverse.map CRow.d) := w.dpa (by walk_at "mem")
        rw [eu, er, List.reverse_cons, List.map_append] at d1
        have d1' := dpa_init d1
        have d2 : F2 p = some (.tup q.vals) := w.i (fx p _) (by walk_at "mem")
        have d3 : Dp K F2 (.ref p) q.d := by
          cases q with
          | copy a n => exact dp_ccopy' (sqT_of (K := K) d2)
          | put s => exact dp_cput' (sqT_of (K := K) d2)
        have d4 := dpa_snoc d1' d3
        have ee : addC rs c = q :: t := by rw [er]; exact addC_some ea
        rw [show t.reverse.map CRow.d ++ [q.d] = (plainR (cs.take (i + 1))).reverse.map CRow.d by rw [e1, ee, List.reverse_cons, List.map_append]; rfl] at d4
        exact nx_mk (w.push (dpa K _ _) d4) ⟨us' ++ [.ref p], p, _, z, rfl, .inr ⟨q, t, us', by rw [e1, ee], rfl, rfl⟩, rfl⟩ (by walk_at "pk")
      cases c with
      | pl j =>
        have hj : j < n := co
        dsimp only [Cel.v]
        walk_at "go"
        refine u_isi (F := F') (d := .int (j : Nat)) (.int _) w.fh (k_int _) ?_
        walk_at "go"
        refine w_is (c := true) rfl ?_
        walk_at "go"
        rcases hla with ⟨e0, rfl, rfl⟩ | ⟨r, t, us', er, eu, rfl⟩
        · walk_at "go"
          refine u_isi (F := F') (d := .int (j : Nat)) (.int _) w.fh (k_int _) ?_
          walk_at "go"
          refine w_is (c := false) rfl ?_
          walk_at "go"
          refine u_isi (F := F') (d := .int (j : Nat)) (.int _) w.fh (k_int _) ?_
          walk_at "go"
          refine w_is (c := true) rfl ?_
          walk_at "go"
          refine n_tup w (szle (by simp)) fun p F2 H2 w => ?_
          walk_at "go"
          refine n_app w (by walk_at "pick") (small_lt (by omega)) fun H3 w => ?_
          walk_at "go"
          exact fin_new p _ w (by walk_at "pk") (by rw [e0]; rfl)
        · cases r with
          | put s =>
            unfold CRow.vals at w
            walk_at "go"
            refine u_isi (F := F') (d := .int (j : Nat)) (.int _) w.fh (k_int _) ?_
            walk_at "go"
            refine w_is (c := false) rfl ?_
            walk_at "go"
            refine u_isi (F := F') (d := .int (j : Nat)) (.int _) w.fh (k_int _) ?_
            walk_at "go"
            refine w_is (c := true) rfl ?_
            walk_at "go"
            refine n_tup w (szle (by simp)) fun p F2 H2 w => ?_
            walk_at "go"
            refine n_app w (by walk_at "pick") (small_lt (by omega)) fun H3 w => ?_
            walk_at "go"
            exact fin_new p _ w (by walk_at "pk") (by rw [er]; exact addC_none rfl)
          | copy b m =>
            have bm : b + m ≤ n := (ro'.ok (.copy b m) (by rw [er]; simp)).h
            unfold CRow.vals at w
            walk_at "go"
            by_cases e : b + m = j
            · rw [decide_eq_true (show (b : Int) + (m : Nat) = (j : Nat) by omega)]
              walk_at "go"
              refine n_tup w (szle (by simp)) fun p F2 H2 w => ?_
              walk_at "go"
              subst eu
              refine n_setL w (by walk_at "pick") us'.length (ix_last _ _) fun H3 w => ?_
              rw [set_last] at w
              walk_at "go"
              exact fin_old p _ (.copy b m) (.copy b (m + 1)) t us' la er rfl (by show (if _ then _ else _) = _; rw [if_pos e]) w (by walk_at "pk")
            · rw [decide_eq_false (show ¬ (b : Int) + (m : Nat) = (j : Nat) by omega)]
              walk_at "go"
              refine u_isi (F := F') (d := .int (j : Nat)) (.int _) w.fh (k_int _) ?_
              walk_at "go"
              refine w_is (c := false) rfl ?_
              walk_at "go"
              refine u_isi (F := F') (d := .int (j : Nat)) (.int _) w.fh (k_int _) ?_
              walk_at "go"
              refine w_is (c := true) rfl ?_
              walk_at "go"
              refine n_tup w (szle (by simp)) fun p F2 H2 w => ?_
              walk_at "go"
              refine n_app w (by walk_at "pick") (small_lt (by omega)) fun H3 w => ?_
              walk_at "go"
              exact fin_new p _ w (by walk_at "pk") (by rw [er]; exact addC_none (by show (if _ then _ else _) = _; rw [if_neg e]))
      | sg j =>
        dsimp only [Cel.v]
        walk_at "go"
        refine u_isi (F := F') (d := .str ⟨#[j]⟩) (.str _) w.fh (k_int _) ?_
        walk_at "go"
        refine w_is (c := false) rfl ?_
        walk_at "go"
        refine u_isi (F := F') (d := .str ⟨#[j]⟩) (.str _) w.fh (k_int _) ?_
        walk_at "go"
        refine w_is (c := true) rfl ?_
        walk_at "go"
        rcases hla with ⟨e0, rfl, rfl⟩ | ⟨r, t, us', er, eu, rfl⟩
        · walk_at "go"
          refine u_isi (F := F') (d := .str ⟨#[j]⟩) (.str _) w.fh (k_int _) ?_
          walk_at "go"
          refine w_is (c := false) rfl ?_
          walk_at "go"
          refine n_tup w (szle (by simp)) fun p F2 H2 w => ?_
          walk_at "go"
          refine n_app w (by walk_at "pick") (small_lt (by omega)) fun H3 w => ?_
          walk_at "go"
          exact fin_new p _ w (by walk_at "pk") (by rw [e0]; rfl)
        · cases r with
          | put s =>
            have hsl := (ro'.ok (.put s) (by rw [er]; simp)).s.2
            unfold CRow.vals at w
            walk_at "go"
            refine n_adds (szle (by show s.length + 1 ≤ 1000000; omega)) ?_
            walk_at "go"
            refine n_tup w (szle (by simp)) fun p F2 H2 w => ?_
            walk_at "go"
            subst eu
            refine n_setL w (by walk_at "pick") us'.length (ix_last _ _) fun H3 w => ?_
            rw [set_last] at w
            walk_at "go"
            exact fin_old p _ (.put s) (.put (s ++ ⟨#[j]⟩)) t us' la er rfl (rfl) w (by walk_at "pk")
          | copy b m =>
            unfold CRow.vals at w
            walk_at "go"
            refine u_isi (F := F') (d := .str ⟨#[j]⟩) (.str _) w.fh (k_int _) ?_
            walk_at "go"
            refine w_is (c := false) rfl ?_
            walk_at "go"
            refine n_tup w (szle (by simp)) fun p F2 H2 w => ?_
            walk_at "go"
            refine n_app w (by walk_at "pick") (small_lt (by omega)) fun H3 w => ?_
            walk_at "go"
            exact fin_new p _ w (by walk_at "pk") (by rw [er]; exact addC_none rfl)
    · obtain ⟨us, la, lv, y3, rfl, hla, rfl⟩ := hp
      rw [List.take_of_length_le (by rw [List.length_map]; exact Nat.le_refl _)] at w
      walk_at "go"
      exact q f us F' H' hf (by walk_at "w")
-- plainest
theorem ok_plainest {f : Addr} {fd : FuncData} (F : FunD K "plainest" "plainest" (defArgs s_plainest) (defBody s_plainest) (defScope s_plainest) [] [] f fd) (T : Txt K mg) (D_rows_of : DO P w K mg base 1 "rows_of" ["cells"] [] (S1 (φrows_of K))) (DM_Change_cells : DM P w K mg base 1 "Change" "cells" ["self"] [] (S1 (φcells K))) (DN_Change_2 : DN P w K mg base 2 "Change" ["self", "size", "rows"] [] (S3 (φinit K))) : FnOk P w K mg base CX0 4 f fd ["change"] (S1 (φplainest K)) := by
  refine F.ok sc_plainest (fun vs H Q E h => ?_) (fun cdv A outer s H vs Q E hr h => ?_)
  · exact S1.len h
  · match vs, h with
    | [v0], h =>
    have hu := hu_of hr
    refine ⟨_, PSs.nox (pss_one (ps_ret (pmake DN_Change_2 hr (pa_cons (peFld (K := K) (pv 0)) (pa_cons (pcall D_rows_of hr (pa_cons (pmeth0 DM_Change_cells hr (pv 0)) pa_nil)) pa_nil))))), ?_⟩
    rw [show start ["change"] [v0] = [some v0] from rfl]
    have kC := T.k_Change
    have kS := T.na_Change_size
    have kR := T.na_Change_rows
    
    obtain ⟨F, n, rows, hw, hC, hok, hn, q⟩ := h
    have hC0 := hC
    obtain ⟨c, dx, r, vs, rfl, hc, hr, hD⟩ := hC
    have w := (W.start (M := []) hw).push (fx c _) hc
    unfold insC at w
    have hcl : (celsL rows).length ≤ 400 := by rw [cels_len]; exact hok.sum
    walk_at "go"
    refine ⟨F, n, rows, w.fh, hC0, hok, by omega, fun p1 F1 H1 hp1 w1 => ?_⟩
    have hp1' := w.g.fresh hp1
    replace w := w.cal .nil w1 (by walk_at "app")
    obtain ⟨F1, w⟩ := w.fzL (p := p1) (by walk_at "pick") hp1'
    walk_at "go"
    refine ⟨F1, p1, celsL rows, n, rfl, w.fh, by rw [← cels_v]; exact sqL_of (w.i (fx p1 _) (by walk_at "mem")), cels_ok hok.ok, by omega, hcl, fun p2 ys F2 H2 hp2 w2 => ?_⟩
    have hp2' := w.g.fresh hp2
    replace w := w.cal .nil w2 (by walk_at "app")
    obtain ⟨F2, w⟩ := w.fzL (p := p2) (by walk_at "pick") hp2'
    walk_at "go"
    refine n_make w fun c2 dx2 H3 w hc2 => ?_
    refine c_init w (by walk_at "pick") hc2 (sqL_of (w.i (fx p2 (.lst ys)) (by walk_at "mem"))) (w.dpa (by walk_at "mem")) hn (plain_ok (cels_ok hok.ok) hcl) fun F3 H3 w => ?_
    walk_at "go"
    exact q _ _ _ (by walk_at "w")
-- behind
theorem ok_behind {f : Addr} {fd : FuncData} (F : FunD K "behind" "behind" (defArgs s_behind) (defBody s_behind) (defScope s_behind) [] [] f fd) (T : Txt K mg) (D_rows_of : DO P w K mg base 1 "rows_of" ["cells"] [] (S1 (φrows_of K))) (DM_Change_cells : DM P w K mg base 1 "Change" "cells" ["self"] [] (S1 (φcells K))) (DN_Change_2 : DN P w K mg base 2 "Change" ["self", "size", "rows"] [] (S3 (φinit K))) : FnOk P w K mg base CX0 4 f fd ["first", "second"] (S2 (φbehind K)) := by
  refine F.ok sc_behind (fun vs H Q E h => ?_) (fun cdv A outer s H vs Q E hr h => ?_)
  · exact S2.len h
  · match vs, h with
    | [v0, v1], h =>
    have hu := hu_of hr
    refine ⟨_, PSs.nox (pss_cons (ps_set (i := 2) sc_behind.nd rfl (.inr rfl) (pmeth0 DM_Change_cells hr (pv 0)))
      (pss_cons (ps_if (pt_cmpR op_ne (peFld (K := K) (pv 1)) (pe_callB (clLenQ (K := K)) (by rfl) T.b_len (by decide +kernel) (pa_cons (pv 2) pa_nil)) (nomark _)) (pss_one ps_never) pss_nil)
      (pss_one (ps_ret (pmake DN_Change_2 hr (pa_cons (peFld (K := K) (pv 0)) (pa_cons (pcall D_rows_of hr (pa_cons (pe_lc (own := [("cell", 3)]) (g := gName 3) rfl sc_behind.nd (pi_list (pmeth0 DM_Change_cells hr (pv 1))) (blkOk_by (own := [("cell", 3)]) (N := ["first", "second", "cells", "cell"]) (sc := defScope s_behind) (by decide +kernel)) (fun _ _ _ _ _ => pg_name (i := 3) sc_behind.nd rfl (Or.inl rfl)) (fun _ _ _ _ _ => pts_nil) (fun _ _ _ _ _ => (pe_ifExp (pt_val (pe_callB (clIsi (K := K)) (by rfl) T.b_isinstance (by decide +kernel) (pa_cons (pv 3) (pa_cons (pe_bltn (v := .ty "int") (by rfl) T.b_int (by decide +kernel) rfl) pa_nil)))) (pe_ix (ixL (K := K)) (pv 2) (pv 3) (fun _ _ => rfl)) (pv 3)))) pa_nil)) pa_nil))))))), ?_⟩
    rw [show start ["first", "second", "cells", "cell"] [v0, v1] = [some v0, some v1, none, none] from rfl]
    have kC := T.k_Change
    have kS := T.na_Change_size
    have kR := T.na_Change_rows
    
    obtain ⟨F, n, rows1, rows2, hw, hC1, hC2, hok1, hok2, hn, q⟩ := h
    have hC10 := hC1
    have hC20 := hC2
    obtain ⟨c1, dx1, r1, vs1, rfl, hc1, hr1, hD1⟩ := hC1
    obtain ⟨c2, dx2, r2, vs2, rfl, hc2, hr2, hD2⟩ := hC2
    have w := ((W.start (M := []) hw).push (fx c1 _) hc1).push (fx c2 _) hc2
    unfold insC at w
    obtain ⟨cs, ecs⟩ : ∃ cs, cs = celsL rows1 := ⟨_, rfl⟩
    obtain ⟨ds, eds⟩ : ∃ ds, ds = celsL rows2 := ⟨_, rfl⟩
    have hcl : cs.length = givesL rows1 := by rw [ecs]; exact cels_len rows1
    have hdl : ds.length = givesL rows2 := by rw [eds]; exact cels_len rows2
    have hcl2 := hok1.sum
    have hdl2 := hok2.sum
    have ok1 : ∀ c ∈ cs, c.ok n := by rw [ecs]; exact cels_ok hok1.ok
    have ok2 : ∀ c ∈ ds, c.ok cs.length := by rw [eds, hcl]; exact cels_ok hok2.ok
    walk_at "go"
    refine ⟨F, n, rows1, w.fh, hC10, hok1, by omega, fun p1 F1 H1 hp1 w1 => ?_⟩
    have hp1' := w.g.fresh hp1
    replace w := w.cal .nil w1 (by walk_at "app")
    rw [cels_v, ← ecs] at w
    obtain ⟨F1, w⟩ := w.fzL (p := p1) (by walk_at "pick") hp1'
    walk_at "go"
    rw [List.length_map, hcl]
    walk_at "go"
    refine ⟨F1, _, rows2, w.fh, hC20.same w.ff, hok2, by omega, fun p2 F2 H2 hp2 w2 => ?_⟩
    have hp2' := w.g.fresh hp2
    replace w := w.cal .nil w2 (by walk_at "app")
    rw [cels_v, ← eds] at w
    obtain ⟨F2, w⟩ := w.fzL (p := p2) (by walk_at "pick") hp2'
    walk_at "go"
    refine n_lcL (ds.map Cel.v) w (fun i ys L => ys = ((ds.take i).map (midC cs)).map Cel.v ∧ L = [fx p2 (.lst (ds.map Cel.v)), fx p1 (.lst (cs.map Cel.v))]) ⟨rfl, rfl⟩ (fun i ys L F' H' D hp w => ?_) (fun i x ys L F' H' D hx hp w hDn => ?_) (fun D ys L F' H' hp w hDn => ?_)
    · obtain ⟨rfl, rfl⟩ := hp
      walk_at "sq"
    · obtain ⟨rfl, rfl⟩ := hp
      rw [List.getElem?_map] at hx
      obtain ⟨d, hd, rfl⟩ : ∃ d, ds[i]? = some d ∧ x = d.v := by
        cases e : ds[i]? with
        | none => rw [e] at hx; cases hx
        | some d => rw [e] at hx; exact ⟨d, rfl, (Option.some.inj hx).symm⟩
      have hi := (List.getElem?_eq_some_iff.mp hd).1
      have dok := ok2 d (List.mem_of_getElem? hd)
      have e1 : ((ds.take (i + 1)).map (midC cs)).map Cel.v = ((ds.take i).map (midC cs)).map Cel.v ++ [(midC cs d).v] := by
        rw [List.take_add_one, hd, List.map_append, List.map_append]
        rfl
      have hl : (((ds.take i).map (midC cs)).map Cel.v).length ≤ 1000 := by
        rw [List.length_map, List.length_map, List.length_take]
        omega
      clear hx
      cases d with
      | pl j =>
        have hj : j < cs.length := dok
        dsimp only [Cel.v]
        walk_at "wp"
        walk_at "go"
        refine u_isi (F := F') (d := .int (j : Nat)) (.int _) w.fh (k_int _) ?_
        walk_at "go"
        refine w_is (c := true) rfl ?_
        walk_at "go"
        have hx2 : (cs.map Cel.v)[j]? = some (midC cs (.pl j)).v := by
          rw [List.getElem?_map, List.getElem?_eq_getElem hj]
          show some (cs[j].v) = some (cs.getD j (.sg 0)).v
          rw [List.getD_eq_getElem?_getD, List.getElem?_eq_getElem hj]
          rfl
        refine w_ixL _ _ (by walk_at "sq") (atI_nat hx2) ?_
        exact n_acc _ w ⟨e1.symm, rfl⟩ (by walk_at "pk") (small_lt (by omega))
      | sg j =>
        dsimp only [Cel.v]
        walk_at "wp"
        walk_at "go"
        refine u_isi (F := F') (d := .str ⟨#[j]⟩) (.str _) w.fh (k_int _) ?_
        walk_at "go"
        refine w_is (c := false) rfl ?_
        walk_at "go"
        exact n_acc _ w ⟨e1.symm, rfl⟩ (by walk_at "pk") (small_lt (by omega))
    · obtain ⟨rfl, rfl⟩ := hp
      rw [List.take_of_length_le (by rw [List.length_map]; exact Nat.le_refl _)] at w
      obtain ⟨F', w⟩ := w.fzL (p := D) (by walk_at "pick") hDn
      walk_at "go"
      refine ⟨F', D, ds.map (midC cs), n, rfl, w.fh, sqL_of (w.i (fx D _) (by walk_at "mem")), mid_ok ok1 ok2, by omega, by rw [List.length_map]; omega, fun p3 ys F3 H3 hp3 w3 => ?_⟩
      have hp3' := w.g.fresh hp3
      replace w := w.cal .nil w3 (by walk_at "app")
      obtain ⟨F3, w⟩ := w.fzL (p := p3) (by walk_at "pick") hp3'
      walk_at "go"
      refine n_make w fun c3 dx3 H4 w hc3 => ?_
      refine c_init w (by walk_at "pick") hc3 (sqL_of (w.i (fx p3 (.lst ys)) (by walk_at "mem"))) (w.dpa (by walk_at "mem")) hn (plain_ok (mid_ok ok1 ok2) (by rw [List.length_map]; omega)) fun F5 H5 w => ?_
      rw [ecs, eds] at w
      exact q _ _ _ (by walk_at "w")
-- undone
theorem ok_undone {f : Addr} {fd : FuncData} (F : FunD K "undone" "undone" (defArgs s_undone) (defBody s_undone) (defScope s_undone) [] [] f fd) (T : Txt K mg) (D_rows_of : DO P w K mg base 1 "rows_of" ["cells"] [] (S1 (φrows_of K))) (DM_Change_cells : DM P w K mg base 1 "Change" "cells" ["self"] [] (S1 (φcells K))) (DN_Change_2 : DN P w K mg base 2 "Change" ["self", "size", "rows"] [] (S3 (φinit K))) : FnOk P w K mg base CX0 4 f fd ["change", "old"] (S2 (φundone K)) := by
  refine F.ok sc_undone (fun vs H Q E h => ?_) (fun cdv A outer s H vs Q E hr h => ?_)
  · exact S2.len h
  · match vs, h with
    | [v0, v1], h =>
    have hu := hu_of hr
    refine ⟨_, PSs.nox (pss_cons (ps_if (pt_cmpR op_ne (pe_callB clLenS (by rfl) T.b_len (by decide +kernel) (pa_cons (pv 1) pa_nil)) (peFld (K := K) (pv 0)) (nomark _)) (pss_one ps_never) pss_nil)
      (pss_cons (ps_set (i := 2) sc_undone.nd rfl (.inl rfl) (pmeth0 DM_Change_cells hr (pv 0)))
      (pss_cons (ps_set (i := 3) sc_undone.nd rfl (.inr rfl) pe_dnewK)
      (pss_cons (ps_for PassesOwn.never rfl (pi_range1 rfl T.b_range (pa_cons (pe_callB (clLenQ (K := K)) (by rfl) T.b_len (by decide +kernel) (pa_cons (pv 2) pa_nil)) pa_nil)) (pg_name (i := 4) sc_undone.nd rfl (.inl rfl)) (pss_one (ps_if (pt_val (pe_callB (clIsi (K := K)) (by rfl) T.b_isinstance (by decide +kernel) (pa_cons (pe_ix (ixL (K := K)) (pv 2) (pv 4) (fun _ _ => rfl)) (pa_cons (pe_bltn (v := .ty "int") (by rfl) T.b_int (by decide +kernel) rfl) pa_nil)))) (pss_one (ps_expr (pe_dsetd (pv 3) (pe_ix (ixL (K := K)) (pv 2) (pv 4) (fun _ _ => rfl)) (pv 4) ⟨rfl, rfl, rfl, rfl⟩))) pss_nil)))
      (pss_one (ps_ret (pmake DN_Change_2 hr (pa_cons (pe_callB (clLenQ (K := K)) (by rfl) T.b_len (by decide +kernel) (pa_cons (pv 2) pa_nil)) (pa_cons (pcall D_rows_of hr (pa_cons (pe_lc (own := [("place", 5)]) (g := gName 5) rfl sc_undone.nd (pi_range1 rfl T.b_range (pa_cons (pe_callB clLenS (by rfl) T.b_len (by decide +kernel) (pa_cons (pv 1) pa_nil)) pa_nil)) (blkOk_by (own := [("place", 5)]) (N := ["change", "old", "cells", "where", "k", "place"]) (sc := defScope s_undone) (by decide +kernel)) (fun _ _ _ _ _ => pg_name (i := 5) sc_undone.nd rfl (Or.inl rfl)) (fun _ _ _ _ _ => pts_nil) (fun _ _ _ _ _ => (pe_dget2 hu (pv 3) (pv 5) (pe_ix ix_str (pv 1) (pv 5) (fun _ _ => rfl)) ⟨rfl, rfl, rfl, rfl⟩))) pa_nil)) pa_nil))))))))), ?_⟩
    rw [show start ["change", "old", "cells", "where", "k", "place"] [v0, v1] = [some v0, some v1, none, none, none, none] from rfl]
    have kC := T.k_Change
    have kS := T.na_Change_size
    have kR := T.na_Change_rows
    
    obtain ⟨F, o, rows, rfl, hw, hC, hok, oko, ho, q⟩ := h
    have hC0 := hC
    obtain ⟨c, dx, r, vs, rfl, hc, hr, hD⟩ := hC
    have w := (W.start (M := []) hw).push (fx c _) hc
    unfold insC at w
    obtain ⟨cs, ecs⟩ : ∃ cs, cs = celsL rows := ⟨_, rfl⟩
    have hcl : cs.length = givesL rows := by rw [ecs]; exact cels_len rows
    have hcl2 := hok.sum
    walk_at "go"
    refine ⟨F, o.length, rows, w.fh, hC0, hok, by omega, fun p1 F1 H1 hp1 w1 => ?_⟩
    have hp1' := w.g.fresh hp1
    replace w := w.cal .nil w1 (by walk_at "app")
    rw [cels_v, ← ecs] at w
    obtain ⟨F1, w⟩ := w.fzL (p := p1) (by walk_at "pick") hp1'
    walk_at "go"
    intro D nD
    have hD := w.g.fresh nD
    replace w := w.nw (u := .dK []) nD
    walk_at "go"
    rw [List.length_map]
    walk_at "go"
    refine n_forR w (fun i σ L => ∃ (kvs : List (Key × V)) (y4 : Option V), σ = [some (.ref c), some (.str o), some (.ref p1), some (.ref D), y4, none] ∧ kvs.length ≤ i ∧ (∀ j : Nat, valV kvs (.inl (j : Int)) = (firstTo cs i j).map fun m => V.int (m : Nat)) ∧
      L = [mu D (.dK kvs), fx p1 (.lst (cs.map Cel.v)), fx c (.ins (He.ga K "Change") dx [("size", .int (o.length : Nat)), ("rows", .ref r)])]) ⟨[], none, rfl, Nat.le_refl _, fun j => rfl, rfl⟩ (fun i σ L F' H' hi hp w => ?_) (fun σ L F' H' hp w => ?_)
    · obtain ⟨kvs, y4, rfl, hkl, hkv, rfl⟩ := hp
      obtain ⟨ce, hce⟩ : ∃ ce, cs[i]? = some ce := ⟨cs[i], List.getElem?_eq_getElem (by omega)⟩
      have hx : (cs.map Cel.v)[i]? = some ce.v := by rw [List.getElem?_map, hce]; rfl
      walk_at "go"
      refine w_ixL _ _ (by walk_at "sq") (atI_nat hx) ?_
      walk_at "go"
      cases ce with
      | pl j =>
        dsimp only [Cel.v] at hx ⊢
        refine u_isi (F := F') (d := .int (j : Nat)) (.int _) w.fh (k_int _) ?_
        walk_at "go"
        refine w_is (c := true) rfl ?_
        walk_at "go"
        refine w_dsetK ?_
        walk_at "go"
        refine ⟨D, rfl, .inl ⟨kvs, .inl (by walk_at "at")⟩, ?_⟩
        walk_at "go"
        refine w_ixL _ _ (by walk_at "sq") (atI_nat hx) ?_
        walk_at "go"
        refine ⟨kvs, .inl (j : Int), by walk_at "at", rfl, small_lt (by omega), fun v hv => ?_, fun hn => ?_⟩
        · refine nx_mk w ⟨kvs, _, rfl, by omega, fun m => ?_, rfl⟩ (by walk_at "pk")
          rw [first_old hce, hkv]
          intro z
          rw [hkv, z] at hv
          cases hv
        · replace w := w.wr (u := .dK (putK kvs (.inl (j : Int)) (.int (i : Nat)))) (k := by walk_at "pick")
          refine nx_mk w ⟨putK kvs (.inl (j : Int)) (.int (i : Nat)), _, rfl, Nat.le_trans (length_putK _ _ _) (by omega), fun m => ?_, rfl⟩ (by walk_at "pk")
          have hn2 : firstTo cs i j = none := by
            rw [hkv] at hn
            cases e : firstTo cs i j with
            | none => rfl
            | some q => rw [e] at hn; cases hn
          rw [valV_put, first_new hce hn2, hkv]
          by_cases e : m = j
          · rw [if_pos (by rw [e]), if_pos e]
            rfl
          · rw [if_neg (by intro z; exact e (by have := Sum.inl.inj z; omega)), if_neg e]
      | sg j =>
        dsimp only [Cel.v] at hx ⊢
        refine u_isi (F := F') (d := .str ⟨#[j]⟩) (.str _) w.fh (k_int _) ?_
        walk_at "go"
        refine w_is (c := false) rfl ?_
        walk_at "go"
        exact nx_mk w ⟨kvs, _, rfl, by omega, fun m => by rw [first_sg hce, hkv], rfl⟩ (by walk_at "pk")
    · obtain ⟨kvs, y4, rfl, hkl, hkv, rfl⟩ := hp
      walk_at "go"
      have hlo : (cd o).length = o.length := cd_len o
      have hkv2 : ∀ j : Nat, valV kvs (.inl (j : Int)) = (firstTo cs cs.length j).map fun m => V.int (m : Nat) := hkv
      refine n_lcR w (fun i ys L => ys = ((List.range i).map (backC cs (cd o))).map Cel.v ∧ L = [mu D (.dK kvs), fx p1 (.lst (cs.map Cel.v)), fx c (.ins (He.ga K "Change") dx [("size", .int (o.length : Nat)), ("rows", .ref r)])]) ⟨rfl, rfl⟩ (fun i ys L F' H' D2 hi hp w hDn => ?_) (fun D2 ys L F' H' hp w hDn => ?_)
      · obtain ⟨rfl, rfl⟩ := hp
        have hi2 : i < o.length := by omega
        walk_at "wp"
        walk_at "go"
        refine w_dget2 ?_
        walk_at "go"
        refine ⟨D, rfl, .inl ⟨kvs, .inl (by walk_at "at")⟩, ?_⟩
        walk_at "go"
        refine w_ixS (szle (by omega)) (sign_get hi2) ?_
        walk_at "go"
        refine ⟨_, DGet.k (k := Sum.inl (i : Int)) (by walk_at "at"), ?_⟩
        rw [hkv2, back_v]
        refine n_acc _ w ⟨?_, rfl⟩ (by walk_at "pk") (small_lt (by rw [List.length_map, List.length_map, List.length_range]; omega))
        rw [List.range_succ, List.map_append, List.map_append]
        rfl
      · obtain ⟨rfl, rfl⟩ := hp
        rw [show (List.range ((o.length : Nat) : Int).toNat).map (backC cs (cd o)) = backs cs (cd o) by unfold backs; rw [hlo]; rfl] at w
        obtain ⟨F', w⟩ := w.fzL (p := D2) (by walk_at "pick") hDn
        walk_at "go"
        refine ⟨F', D2, backs cs (cd o), cs.length, rfl, w.fh, sqL_of (w.i (fx D2 _) (by walk_at "mem")), back_ok oko, by omega, by rw [backs_len]; omega, fun p3 ys F3 H3 hp3 w3 => ?_⟩
        have hp3' := w.g.fresh hp3
        replace w := w.cal .nil w3 (by walk_at "app")
        obtain ⟨F3, w⟩ := w.fzL (p := p3) (by walk_at "pick") hp3'
        walk_at "go"
        rw [List.length_map]
        refine n_make w fun c2 dx2 H4 w hc2 => ?_
        refine c_init w (by walk_at "pick") hc2 (sqL_of (w.i (fx p3 (.lst ys)) (by walk_at "mem"))) (w.dpa (by walk_at "mem")) (by omega) (plain_ok (back_ok oko) (by rw [backs_len]; omega)) fun F5 H5 w => ?_
        rw [ecs, cels_len] at w
        exact q _ _ _ (by walk_at "w")
-- table
theorem ok_table {f : Addr} {fd : FuncData} (F : FunD K "table" "table" (defArgs s_table) (defBody s_table) (defScope s_table) [] [] f fd) (T : Txt K mg)  : FnOk P w K mg base CX0 1 f fd ["old", "new", "price"] (S3 (φtable K)) := by
  refine F.ok sc_table (fun vs H Q E h => ?_) (fun cdv A outer s H vs Q E hr h => ?_)
  · exact S3.len h
  · match vs, h with
    | [v0, v1, v2], h =>
    have hu := hu_of hr
    refine ⟨_, PSs.nox (pss_cons (ps_set (i := 3) sc_table.nd rfl (.inl rfl) (pe_lst (pa_cons (pe_tup (pa_cons pe_int (pa_cons pe_int pa_nil))) pa_nil)))
      (pss_cons (ps_set (i := 4) sc_table.nd rfl (.inl rfl) pe_int)
      (pss_cons (ps_set (i := 5) sc_table.nd rfl (.inl rfl) pe_int)
      (pss_cons (ps_set (i := 6) sc_table.nd rfl (.inl rfl) pe_int)
      (pss_cons (ps_for PassesOwn.never rfl (pi_range2 rfl T.b_range (pa_cons pe_int (pa_cons (pe_op op_add (pe_callB clLenS (by rfl) T.b_len (by decide +kernel) (pa_cons (pv 1) pa_nil)) pe_int) pa_nil))) (pg_name (i := 7) sc_table.nd rfl (.inl rfl)) (C8.pss_cut (ps_if (PW.pt (pw_or (pt_cmpR op_eq (pv 7) pe_int (nomark _)) (pw_or1 (pt_cmpR op_lt (pe_op op_add (pe_ix (ixT (K := K)) (pe_ix (ixL (K := K)) (pv 3) (pe_op op_sub (pv 7) pe_int) (fun _ _ => rfl)) pe_int (fun _ _ => rfl)) (pv 2)) (pv 4) (nomark _))))) (pss_cons (ps_set (i := 4) sc_table.nd rfl (.inl rfl) (pe_op op_add (pe_ix (ixT (K := K)) (pe_ix (ixL (K := K)) (pv 3) (pe_op op_sub (pv 7) pe_int) (fun _ _ => rfl)) pe_int (fun _ _ => rfl)) (pv 2)))
      (pss_one (ps_set (i := 5) sc_table.nd rfl (.inl rfl) (pe_op op_sub (pv 7) pe_int)))) pss_nil)
      (pss_cons (ps_set (i := 4) sc_table.nd rfl (.inl rfl) (pe_op op_add (pv 4) pe_int))
      (C8.pss_cut (ps_while PassesOwn.never (PW.pt (pw_and (pt_cmpR op_lt (pv 6) (pv 7) (nomark _)) (pw_and1 (pt_cmpR opNotInS (pe_slice sl_str (pv 1) (po_some (pv 6)) (po_some (pv 7))) (pv 0) (by rfl))))) (pss_one (ps_set (i := 6) sc_table.nd rfl (.inl rfl) (pe_op op_add (pv 6) pe_int))))
      (pss_one (ps_if (PW.pt (pw_and (pt_cmpR op_lt (pv 6) (pv 7) (nomark _)) (pw_and1 (pt_cmpR op_le (pe_op op_add (pe_ix (ixT (K := K)) (pe_ix (ixL (K := K)) (pv 3) (pv 6) (fun _ _ => rfl)) pe_int (fun _ _ => rfl)) (pv 2)) (pv 4) (nomark _))))) (pss_one (ps_expr (peBM (K := K) PySem.F.plainAttrs_list PySem.F.slot_list_append PySem.F.type_list_append mt_append (pv 3) (pa_cons (pe_tup (pa_cons (pe_op op_add (pe_ix (ixT (K := K)) (pe_ix (ixL (K := K)) (pv 3) (pv 6) (fun _ _ => rfl)) pe_int (fun _ _ => rfl)) (pv 2)) (pa_cons (pv 6) pa_nil))) pa_nil)))) (pss_one (ps_expr (peBM (K := K) PySem.F.plainAttrs_list PySem.F.slot_list_append PySem.F.type_list_append mt_append (pv 3) (pa_cons (pe_tup (pa_cons (pv 4) (pa_cons (pe_op op_sub (pe_un un_neg pe_int) (pv 5)) pa_nil))) pa_nil))))))))))
      (pss_one (ps_ret (pv 3)))))))), ?_⟩
    rw [show start ["old", "new", "price", "least", "put_cost", "put_from", "copy_from", "j"] [v0, v1, v2] = [some v0, some v1, some v2, none, none, none, none, none] from rfl]
    obtain ⟨F, o, nw, p, rfl, rfl, rfl, hw, ho, hn, hp, q⟩ := h
    have w := W.start (M := []) hw
    obtain ⟨O, hO⟩ : ∃ O, O = cd o := ⟨_, rfl⟩
    obtain ⟨N, hN⟩ : ∃ N, N = cd nw := ⟨_, rfl⟩
    have hNl : N.length = nw.length := by rw [hN]; exact cd_len nw
    walk_at "go"
    refine n_tup w (szle (by simp)) fun t0 F1 H1 w => ?_
    walk_at "go"
    refine n_lst w (szle (by simp)) fun tb F1 H1 w htb => ?_
    have d0 : F1 t0 = some (.tup [.int ((0 : Nat) : Int), .int 0]) := w.i (fx t0 _) (by walk_at "mem")
    replace w := w.push (dpa K [.ref t0] ([((0 : Nat), (0 : Int))].map prD)) (.cons (.tup (sqT_of d0) (.cons (.int _) (.cons (.int _) .nil))) .nil)
    walk_at "go"
    rw [show (((nw.length : Nat) : Int) + 1 - 1).toNat = nw.length by omega]
    refine n_forRL w (fun i σ L => ∃ (ps : List (Nat × Int)) (ys : List V) (pc pf cf : Nat) (y7 : Option V), σ = [some (.str o), some (.str nw), some (.int (p : Nat)), some (.ref tb), some (.int (pc : Nat)), some (.int (pf : Nat)), some (.int (cf : Nat)), y7] ∧ ps.length = i + 1 ∧ TabAll p O N ps ∧ (i = 0 ∨ PutOk p O N i pc pf) ∧ cf ≤ i ∧ (∀ k, k < cf → inB O (segL N k i) = false) ∧
      L = [mu tb (.lst ys), dpa K ys (ps.map prD)]) ⟨[(0, 0)], [.ref t0], 0, 0, 0, none, rfl, rfl, fun k c t h => ?_, .inl rfl, Nat.le_refl _, fun k h => absurd h (Nat.not_lt_zero k), rfl⟩ (fun i σ L F' H' hi hp' w => ?_) (fun σ L F' H' hp' w => ?_)
    · cases k with
      | zero =>
        have e := Option.some.inj h
        cases e
        exact ⟨rfl, .inl rfl⟩
      | succ k => simp at h
    · obtain ⟨ps, ys, pc, pf, cf, y7, rfl, hpl, hta, hpu, hcf, hno, rfl⟩ := hp'
      have dl : ys.length = i + 1 := by rw [dpa_len (w.dpa (K := K) (xs := ys) (ds := ps.map prD) (by walk_at "mem")), List.length_map, hpl]
      have ent : ∀ {F' H' L} (w : W [] F H F' H' L), dpa K ys (ps.map prD) ∈ L → ∀ k, k ≤ i → ∃ a t, ys[k]? = some (.ref a) ∧ SqT K F' a [.int ((lea p O N k : Nat) : Int), .int t] := by
        intro F' H' L w hm k hk
        obtain ⟨⟨c, t⟩, hr, dr⟩ := dpa_at (w.dpa hm) (getD_of (l := ys) (j := k) (by omega))
        obtain ⟨a, ea, hT⟩ := dp_pr dr
        obtain ⟨rfl, _⟩ := hta k c t hr
        exact ⟨a, t, by rw [getD_of (by omega), ea], hT⟩
      have lb : ∀ k, k ≤ i → lea p O N k ≤ 2000000 := fun k hk => by
        have h1 := lea_bound p O N k
        have h2 : k * (p + 1) ≤ 1000 * 1001 := Nat.mul_le_mul (by omega) (by omega)
        omega
      obtain ⟨aI, tI, eI, hTI⟩ := ent w (by walk_at "mem") i (Nat.le_refl _)
      replace w := w.push (imT K aI _) hTI
      walk_at "go"
      refine n_cut w (fun σ L => ∃ (pc pf : Nat), σ = [some (.str o), some (.str nw), some (.int (p : Nat)), some (.ref tb), some (.int (pc : Nat)), some (.int (pf : Nat)), some (.int (cf : Nat)), some (.int (1 + (i : Int)))] ∧ PutOk p O N (i + 1) (pc + 1) pf ∧ L = [mu tb (.lst ys), dpa K ys (ps.map prD), imT K aI [.int ((lea p O N i : Nat) : Int), .int tI]]) ?_ (fun σ L F' H' hp' w => ?_)
      · have gi : atI ys (1 + (i : Int) - 1) = some (.ref aI) := by
          rw [show 1 + (i : Int) - 1 = ((i : Nat) : Int) by omega]
          exact atI_nat eI
        walk_at "go"
        refine w_ite (fun h0 => ?_) (fun h0 => ?_)
        · walk_at "go"
          refine w_ixL _ _ (by walk_at "sq") gi ?_
          walk_at "go"
          have i0 : i = 0 := by omega
          refine nx_mk w ⟨lea p O N i + p, i, by rw [show 1 + (i : Int) - 1 = ((i : Nat) : Int) by omega]; rfl, ?_, rfl⟩ (by walk_at "pk")
          rw [i0]
          exact put_first p O N
        · walk_at "go"
          refine w_ixL _ _ (by walk_at "sq") gi ?_
          walk_at "go"
          have hpu' := hpu.resolve_left (by omega)
          refine w_ite (fun h1 => ?_) (fun h1 => ?_)
          · walk_at "go"
            refine w_ixL _ _ (by walk_at "sq") gi ?_
            walk_at "go"
            exact nx_mk w ⟨lea p O N i + p, i, by rw [show 1 + (i : Int) - 1 = ((i : Nat) : Int) by omega]; rfl, put_new p O N hpu' (by omega), rfl⟩ (by walk_at "pk")
          · walk_at "go"
            exact nx_mk w ⟨pc, pf, rfl, put_old p O N hpu' (by omega), rfl⟩ (by walk_at "pk")
      obtain ⟨pc, pf, rfl, hpu, rfl⟩ := hp'
      walk_at "go"
      refine n_cut w (fun σ L => ∃ (cf : Nat), σ = [some (.str o), some (.str nw), some (.int (p : Nat)), some (.ref tb), some (.int (pc + 1 : Nat)), some (.int (pf : Nat)), some (.int (cf : Nat)), some (.int (1 + (i : Int)))] ∧ cf ≤ i + 1 ∧ (∀ k, k < cf → inB O (segL N k (i + 1)) = false) ∧ (cf < i + 1 → inB O (segL N cf (i + 1)) = true) ∧ L = [mu tb (.lst ys), dpa K ys (ps.map prD), imT K aI [.int ((lea p O N i : Nat) : Int), .int tI]]) ?_ (fun σ L F' H' hp' w => ?_)
      · refine n_while w (fun m σ L => ∃ (cf : Nat), σ = [some (.str o), some (.str nw), some (.int (p : Nat)), some (.ref tb), some (.int (pc + 1 : Nat)), some (.int (pf : Nat)), some (.int (cf : Nat)), some (.int (1 + (i : Int)))] ∧ m + cf = i + 1 ∧ (∀ k, k < cf → inB O (segL N k (i + 1)) = false) ∧ L = [mu tb (.lst ys), dpa K ys (ps.map prD), imT K aI [.int ((lea p O N i : Nat) : Int), .int tI]]) (m0 := i + 1 - cf) ⟨cf, rfl, by omega, fun k hk => ?_, rfl⟩ (fun m σ L F' H' hp' w => ?_)
        · cases e : inB O (segL N k (i + 1)) with
          | false => rfl
          | true =>
            have := in_less e
            rw [hno k hk] at this
            cases this
        obtain ⟨cf, rfl, hm, hno, rfl⟩ := hp'
        walk_at "go"
        refine w_ite (fun hlt => ?_) (fun hlt => ?_)
        · walk_at "go"
          refine w_slS (szle (by omega)) ?_
          walk_at "go"
          refine n_notin ?_
          rw [show (1 : Int) + (i : Int) = ((i + 1 : Nat) : Int) by omega, cut_cd, ← hN, ← hO]
          walk_at "go"
          cases e : inB O (segL N cf (i + 1)) with
          | true =>
            walk_at "go"
            exact nx_mk w ⟨cf, rfl, by omega, hno, fun _ => e, rfl⟩ (by walk_at "pk")
          | false =>
            walk_at "go"
            refine n_turn ?_
            walk_at "go"
            refine nxm_mk w (m' := i + 1 - (cf + 1)) (by omega) ⟨cf + 1, by rw [show ((i + 1 : Nat) : Int) = 1 + (i : Int) by omega]; rfl, by omega, fun k hk => ?_, rfl⟩ (by walk_at "pk")
            by_cases ek : k = cf
            · rw [ek]
              exact e
            · exact hno k (by omega)
        · walk_at "go"
          exact nx_mk w ⟨cf, rfl, by omega, hno, fun z => absurd z (by omega), rfl⟩ (by walk_at "pk")
      obtain ⟨cf, rfl, hcf, hno, hin, rfl⟩ := hp'
      have app : ∀ {F' H' L} (c : Nat) (t : Int) (a : Addr), W [] F H F' H' L → Pk L [mu tb (.lst (ys ++ [.ref a])), dpa K ys (ps.map prD), fx a (.tup [.int (c : Nat), .int t])] → c = lea p O N (i + 1) → TabOk p O N (i + 1) t → cf ≤ i + 1 → Nx [] F H (fun σ L => ∃ (ps : List (Nat × Int)) (ys : List V) (pc pf cf : Nat) (y7 : Option V), σ = [some (.str o), some (.str nw), some (.int (p : Nat)), some (.ref tb), some (.int (pc : Nat)), some (.int (pf : Nat)), some (.int (cf : Nat)), y7] ∧ ps.length = i + 1 + 1 ∧ TabAll p O N ps ∧ (i + 1 = 0 ∨ PutOk p O N (i + 1) pc pf) ∧ cf ≤ i + 1 ∧ (∀ k, k < cf → inB O (segL N k (i + 1)) = false) ∧
          L = [mu tb (.lst ys), dpa K ys (ps.map prD)]) [some (.str o), some (.str nw), some (.int (p : Nat)), some (.ref tb), some (.int (pc + 1 : Nat)), some (.int (pf : Nat)), some (.int (cf : Nat)), some (.int (1 + (i : Int)))] H' := by
        intro F' H' L c t a w k hc ht hcf
        have w := w.pk k
        have d1 : DpAll K F' ys (ps.map prD) := w.dpa (by walk_at "mem")
        have d2 : F' a = some (.tup [.int (c : Nat), .int t]) := w.i (fx a _) (by walk_at "mem")
        have d3 := dpa_snoc d1 (d := prD (c, t)) (.tup (sqT_of d2) (.cons (.int _) (.cons (.int _) .nil)))
        rw [show ps.map prD ++ [prD (c, t)] = (ps ++ [(c, t)]).map prD by rw [List.map_append]; rfl] at d3
        refine nx_mk (w.push (dpa K _ _) d3) ⟨ps ++ [(c, t)], ys ++ [.ref a], pc + 1, pf, cf, _, rfl, by rw [List.length_append, hpl]; rfl, fun k c' t' hk => ?_, .inr hpu, hcf, hno, rfl⟩ (by walk_at "pk")
        by_cases ek : k < ps.length
        · rw [List.getElem?_append_left ek] at hk
          exact hta k c' t' hk
        · have hk2 := (List.getElem?_eq_some_iff.mp hk).1
          rw [List.length_append] at hk2
          have e2 : k = i + 1 := by
            have : k < ps.length + 1 := hk2
            omega
          subst e2
          rw [List.getElem?_append_right (by omega), hpl, Nat.sub_self] at hk
          have e3 := Option.some.inj hk
          cases e3
          exact ⟨hc, ht⟩
      have pcl : pc + 1 ≤ 3000000 := by
        have h1 := hpu.le i (by omega)
        have := lb i (Nat.le_refl _)
        omega
      walk_at "go"
      refine w_ite (fun h1 => ?_) (fun h1 => ?_)
      · obtain ⟨aC, tC, eC, hTC⟩ := ent w (by walk_at "mem") cf (by omega)
        replace w := w.push (imT K aC _) hTC
        walk_at "go"
        refine w_ixL _ _ (by walk_at "sq") (atI_nat eC) ?_
        walk_at "go"
        refine w_ite (fun h2 => ?_) (fun h2 => ?_)
        · walk_at "go"
          refine w_ixL _ _ (by walk_at "sq") (atI_nat eC) ?_
          walk_at "go"
          refine n_tup w (szle (by simp)) fun a F2 H2 w => ?_
          walk_at "go"
          refine n_app w (by walk_at "pick") (small_lt (by omega)) fun H3 w => ?_
          have hl := tab_copy p O N hpu (by omega) hno (hin (by omega)) (by omega)
          exact app (lea p O N cf + p) (cf : Int) a w (by walk_at "pk") hl.symm (.inr (.inl ⟨cf, rfl, by omega, hin (by omega), hl⟩)) hcf
        · walk_at "go"
          refine n_tup w (szle (by simp)) fun a F2 H2 w => ?_
          walk_at "go"
          refine n_app w (by walk_at "pick") (small_lt (by omega)) fun H3 w => ?_
          have hl := tab_put p O N hpu hno (by omega)
          exact app (pc + 1) _ a w (by walk_at "pk") hl.symm (.inr (.inr ⟨pf, by omega, hpu.lt, by rw [hl]; exact hpu.at_⟩)) hcf
      · walk_at "go"
        refine n_tup w (szle (by simp)) fun a F2 H2 w => ?_
        walk_at "go"
        refine n_app w (by walk_at "pick") (small_lt (by omega)) fun H3 w => ?_
        have hl := tab_put p O N hpu hno (by omega)
        exact app (pc + 1) _ a w (by walk_at "pk") hl.symm (.inr (.inr ⟨pf, by omega, hpu.lt, by rw [hl]; exact hpu.at_⟩)) hcf
    · obtain ⟨ps, ys, pc, pf, cf, y7, rfl, hpl, hta, hpu, hcf, hno, rfl⟩ := hp'
      walk_at "go"
      rw [hO, hN] at hta
      exact q tb ys ps F' H' htb (by walk_at "w") hpl hta
-- found_change
theorem ok_found_change {f : Addr} {fd : FuncData} (F : FunD K "found_change" "found_change" (defArgs s_found_change) (defBody s_found_change) (defScope s_found_change) [.int 4] [] f fd) (T : Txt K mg) (D_table : DO P w K mg base 1 "table" ["old", "new", "price"] [] (S3 (φtable K))) (DN_Change_2 : DN P w K mg base 2 "Change" ["self", "size", "rows"] [] (S3 (φinit K))) : FnOk P w K mg base CX0 4 f fd ["old", "new", "price"] (S3 (φfound K)) := by
  refine F.ok sc_found_change (fun vs H Q E h => ?_) (fun cdv A outer s H vs Q E hr h => ?_)
  · exact S3.len h
  · match vs, h with
    | [v0, v1, v2], h =>
    have hu := hu_of hr
    refine ⟨_, PSs.nox (pss_cons (ps_set (i := 3) sc_found_change.nd rfl (.inl rfl) (pcall D_table hr (pa_cons (pv 0) (pa_cons (pv 1) (pa_cons (pv 2) pa_nil)))))
      (pss_cons (ps_set (i := 4) sc_found_change.nd rfl (.inl rfl) (pe_lst pa_nil))
      (pss_cons (ps_set (i := 5) sc_found_change.nd rfl (.inl rfl) (pe_callB clLenS (by rfl) T.b_len (by decide +kernel) (pa_cons (pv 1) pa_nil)))
      (pss_cons (ps_while PassesOwn.never (pt_cmpR op_gt (pv 5) pe_int (nomark _)) (pss_cons (ps_set (i := 6) sc_found_change.nd rfl (.inl rfl) (pe_ix (ixT (K := K)) (pe_ix (ixL (K := K)) (pv 3) (pv 5) (fun _ _ => rfl)) pe_int (fun _ _ => rfl)))
      (pss_cons (ps_if (pt_cmpR op_lt (pv 6) pe_int (nomark _)) (pss_cons (ps_set (i := 6) sc_found_change.nd rfl (.inl rfl) (pe_op op_sub (pe_un un_neg pe_int) (pv 6)))
      (pss_one (ps_expr (peBM (K := K) PySem.F.plainAttrs_list PySem.F.slot_list_append PySem.F.type_list_append mt_append (pv 4) (pa_cons (pe_tup (pa_cons pe_str (pa_cons (pe_slice sl_str (pv 1) (po_some (pv 6)) (po_some (pv 5))) pa_nil))) pa_nil))))) (pss_one (ps_expr (peBM (K := K) PySem.F.plainAttrs_list PySem.F.slot_list_append PySem.F.type_list_append mt_append (pv 4) (pa_cons (pe_tup (pa_cons pe_str (pa_cons (peBM (K := K) PySem.F.plainAttrs_str PySem.F.slot_str_find PySem.F.type_str_find mtFind (pv 0) (pa_cons (pe_slice sl_str (pv 1) (po_some (pv 6)) (po_some (pv 5))) pa_nil)) (pa_cons (pe_op op_sub (pv 5) (pv 6)) pa_nil)))) pa_nil)))))
      (pss_one (ps_set (i := 5) sc_found_change.nd rfl (.inl rfl) (pv 6))))))
      (pss_one (ps_ret (pmake DN_Change_2 hr (pa_cons (pe_callB clLenS (by rfl) T.b_len (by decide +kernel) (pa_cons (pv 0) pa_nil)) (pa_cons (pe_revL (pv 4)) pa_nil))))))))), ?_⟩
    rw [show start ["old", "new", "price", "least", "rows", "j", "start"] [v0, v1, v2] = [some v0, some v1, some v2, none, none, none, none] from rfl]
    obtain ⟨F, o, nw, p, rfl, rfl, rfl, hw, ho, hn, oko, okn, hp, q⟩ := h
    have w := W.start (M := []) hw
    walk_at "go"
    refine ⟨F, o, nw, p, rfl, rfl, rfl, w.fh, by omega, by omega, hp, fun tb tys ps F1 H1 htb w1 hpl hta => ?_⟩
    replace w := w.cal .nil w1 (by walk_at "app")
    obtain ⟨F1, w⟩ := w.fzL (p := tb) (by walk_at "pick") htb
    have hOl : (cd o).length = o.length := cd_len o
    have hNl : (cd nw).length = nw.length := cd_len nw
    walk_at "go"
    refine n_lst w (szle (by simp)) fun rw_ F2 H2 w hrw => ?_
    walk_at "go"
    replace w := w.push (dpa K [] (([] : List CRow).map CRow.d)) .nil
    refine n_while w (fun m σ L => ∃ (j : Nat) (rs : List CRow) (ys : List V) (y : Option V), σ = [some (.str o), some (.str nw), some (.int (p : Nat)), some (.ref tb), some (.ref rw_), some (.int (j : Nat)), y] ∧ j = m ∧ j ≤ nw.length ∧ (∀ r ∈ rs, CRowOk o.length r) ∧ rs.reverse.flatMap (CRow.mk (cd o)) = (cd nw).drop j ∧ (rs.map (CRow.cst p)).sum + lea p (cd o) (cd nw) j = lea p (cd o) (cd nw) nw.length ∧ ys.length ≤ nw.length - j ∧
      L = [mu rw_ (.lst ys), dpa K ys (rs.map CRow.d), fx tb (.lst tys), dpa K tys (ps.map prD)]) (m0 := nw.length) ⟨nw.length, [], [], none, rfl, rfl, Nat.le_refl _, by simp, by rw [List.drop_eq_nil_of_le (by omega)]; rfl, by show 0 + _ = _; omega, by simp, rfl⟩ (fun m σ L F' H' hp' w => ?_)
    obtain ⟨j, rs, ys, y, rfl, rfl, hj, hok, hmk, hcs, hyl, rfl⟩ := hp'
    walk_at "go"
    refine w_ite (fun hpos => ?_) (fun hpos => ?_)
    · refine n_turn ?_
      have dl : tys.length = nw.length + 1 := by rw [dpa_len (w.dpa (K := K) (xs := tys) (ds := ps.map prD) (by walk_at "mem")), List.length_map, hpl]
      obtain ⟨⟨c, t⟩, hr, dr⟩ := dpa_at (w.dpa (K := K) (xs := tys) (ds := ps.map prD) (by walk_at "mem")) (getD_of (l := tys) (j := j) (by omega))
      obtain ⟨a, ea, hT⟩ := dp_pr dr
      obtain ⟨rfl, htb2⟩ := hta j c t hr
      replace w := w.push (imT K a _) hT
      have gi : atI tys ((j : Nat) : Int) = some (.ref a) := atI_nat (by rw [getD_of (by omega), ea])
      have d1 : DpAll K F' ys (rs.map CRow.d) := w.dpa (by walk_at "mem")
      walk_at "go"
      refine w_ixL _ _ (by walk_at "sq") gi ?_
      walk_at "go"
      rcases htb2 with h0 | ⟨i, rfl, hi, hin, hle⟩ | ⟨i, rfl, hi, hle⟩
      · exact absurd h0 (by omega)
      · refine w_iteF (by show ¬ (i : Int) < 0; omega) ?_
        walk_at "go"
        refine ⟨rfl, ?_⟩
        walk_at "go"
        refine w_slS (szle (by omega)) ?_
        walk_at "go"
        have hin2 : inB (cd o) (cd (cutS nw (some (i : Int)) (some (j : Int)))) = true := by rw [cut_cd]; exact hin
        obtain ⟨at_, ef, hf1, hf2⟩ := find_cd hin2
        have hsl : (cutS nw (some (i : Int)) (some (j : Int))).length = j - i := by rw [← cd_len, cut_cd, seg_len (by omega)]
        refine n_find ?_
        rw [ef]
        walk_at "go"
        rw [show (j : Int) - (i : Nat) = ((j - i : Nat) : Int) by omega]
        refine n_tup w (szle (by simp)) fun tp F3 H3 w => ?_
        walk_at "go"
        refine n_app w (by walk_at "pick") (small_lt (by omega)) fun H4 w => ?_
        walk_at "go"
        have d1 : DpAll K F3 ys (rs.map CRow.d) := w.dpa (by walk_at "mem")
        have d2 : F3 tp = some (.tup [.str "copy", .int (at_ : Nat), .int ((j - i : Nat) : Int)]) := w.i (fx tp _) (by walk_at "mem")
        have d3 := dpa_snoc d1 (dp_ccopy' (sqT_of (K := K) d2))
        rw [show rs.map CRow.d ++ [(CRow.copy at_ (j - i)).d] = (rs ++ [CRow.copy at_ (j - i)]).map CRow.d by rw [List.map_append]; rfl] at d3
        refine nxm_mk (w.push (dpa K _ _) d3) hi ⟨i, rs ++ [.copy at_ (j - i)], ys ++ [.ref tp], _, rfl, rfl, by omega, crows_snoc (r := .copy at_ (j - i)) hok ⟨trivial, by show 1 ≤ j - i; omega, by show at_ + (j - i) ≤ o.length; omega⟩, ?_, ?_, by rw [List.length_append]; show ys.length + 1 ≤ _; omega, rfl⟩ (by walk_at "pk")
        · rw [List.reverse_append, List.flatMap_append, hmk]
          show (((cd o).drop at_).take (j - i) ++ []) ++ _ = _
          rw [List.append_nil, ← hsl, hf2, cut_cd]
          exact seg_drop (by omega)
        · rw [List.map_append, List.sum_append]
          show _ + ((p + 0) + 0) + _ = _
          omega
      · refine w_iteT (by show -1 - (i : Int) < 0; omega) ?_
        walk_at "go"
        rw [show -1 - (-1 - (i : Int)) = ((i : Nat) : Int) by omega]
        refine w_slS (szle (by omega)) ?_
        walk_at "go"
        obtain ⟨s, hs⟩ : ∃ s, s = cutS nw (some (i : Int)) (some (j : Int)) := ⟨_, rfl⟩
        rw [← hs]
        have hsl : s.length = j - i := by rw [hs, ← cd_len, cut_cd, seg_len (by omega)]
        have hsc : cd s = segL (cd nw) i j := by rw [hs, cut_cd]
        refine n_tup w (szle (by simp)) fun tp F3 H3 w => ?_
        walk_at "go"
        refine n_app w (by walk_at "pick") (small_lt (by omega)) fun H4 w => ?_
        walk_at "go"
        have d1 : DpAll K F3 ys (rs.map CRow.d) := w.dpa (by walk_at "mem")
        have d2 : F3 tp = some (.tup [.str "put", .str s]) := w.i (fx tp _) (by walk_at "mem")
        have d3 := dpa_snoc d1 (dp_cput' (sqT_of (K := K) d2))
        rw [show rs.map CRow.d ++ [(CRow.put s).d] = (rs ++ [CRow.put s]).map CRow.d by rw [List.map_append]; rfl] at d3
        refine nxm_mk (w.push (dpa K _ _) d3) hi ⟨i, rs ++ [.put s], ys ++ [.ref tp], _, rfl, rfl, by omega, crows_snoc (r := .put s) hok ⟨⟨by rw [hs]; exact ok_cut okn i j, by omega⟩, by show 1 ≤ s.length; omega, Nat.zero_le _⟩, ?_, ?_, by rw [List.length_append]; show ys.length + 1 ≤ _; omega, rfl⟩ (by walk_at "pk")
        · rw [List.reverse_append, List.flatMap_append, hmk]
          show (cd s ++ []) ++ _ = _
          rw [List.append_nil, hsc]
          exact seg_drop (by omega)
        · rw [List.map_append, List.sum_append]
          show _ + ((p + s.length) + 0) + _ = _
          omega
    · have j0 : j = 0 := by omega
      subst j0
      rw [List.drop_zero] at hmk
      have hcs2 : (rs.map (CRow.cst p)).sum = lea p (cd o) (cd nw) nw.length := by
        rw [← hcs]
        rfl
      have hok2 : ∀ r ∈ rs.reverse, CRowOk o.length r := fun r hr => hok r (List.mem_reverse.mp hr)
      have made : Made p o nw rs.reverse := ⟨⟨hok2, by rw [← mks_len hOl hok2, hmk]; omega⟩, hmk, by rw [List.map_reverse, List.sum_reverse]; exact hcs2⟩
      have d1 : DpAll K F' ys (rs.map CRow.d) := w.dpa (by walk_at "mem")
      have d2 := dpa_rev d1
      rw [← List.map_reverse] at d2
      replace w := w.push (dpa K _ _) d2
      walk_at "go"
      refine n_revL w (by walk_at "sq") fun p1 F4 H4 w hp1 => ?_
      obtain ⟨F4, w⟩ := w.fzL (p := p1) (by walk_at "pick") hp1
      walk_at "go"
      refine n_make w fun c dx H5 w hc => ?_
      refine c_init w (by walk_at "pick") hc (sqL_of (w.i (fx p1 (.lst ys.reverse)) (by walk_at "mem"))) (w.dpa (by walk_at "mem")) ho made.ok fun F5 H5 w => ?_
      walk_at "go"
      exact q _ rs.reverse F5 H5 (by walk_at "w") made
-- change_text
theorem ok_change_text {f : Addr} {fd : FuncData} (F : FunD K "change_text" "change_text" (defArgs s_change_text) (defBody s_change_text) (defScope s_change_text) [] [] f fd) (T : Txt K mg)  (DM_ChangeX_strX : DM P w K mg base 2 "Change" "__str__" ["self"] [] (S1 (φstr K))) : FnOk P w K mg base CX0 5 f fd ["change"] (S1 (φstr K)) := by
  refine F.ok sc_change_text (fun vs H Q E h => ?_) (fun cdv A outer s H vs Q E hr h => ?_)
  · exact S1.len h
  · match vs, h with
    | [v0], h =>
    have hu := hu_of hr
    refine ⟨_, PSs.nox (pss_one (ps_ret (pe_callTy (clStrO DM_ChangeX_strX hr (by decide)) (by rfl) T.b_str (by decide +kernel) (pa_cons (pv 0) pa_nil)))), ?_⟩
    rw [show start ["change"] [v0] = [some v0] from rfl]
    have kC := T.k_Change
    have kS := T.na_Change_size
    have kR := T.na_Change_rows
    
    obtain ⟨F, n, rows, hw, hC, hok, hn, q⟩ := h
    have hC0 := hC
    obtain ⟨c, dx, r, vs, rfl, hc, hr, hD⟩ := hC
    have w := (W.start (M := []) hw).push (fx c _) hc
    unfold insC at w
    walk_at "go"
    refine n_strO (by walk_at "at") ?_
    refine ⟨_, n, rows, w.fh, hC0.same w.ff, hok, hn, fun s1 F5 H5 w5 hs1 => ⟨s1, rfl, ?_⟩⟩
    replace w := w.cal .nil w5 (by walk_at "app")
    exact q s1 _ _ (w.to .nil) hs1
-- plan_row_text
theorem ok_plan_row_text {f : Addr} {fd : FuncData} (F : FunD K "plan_row_text" "plan_row_text" (defArgs s_plan_row_text) (defBody s_plan_row_text) (defScope s_plan_row_text) [] [] f fd) (T : Txt K mg)  : FnOk P w K mg base CX0 1 f fd ["row"] (S1 (φprt71 K)) := by
  refine F.ok sc_plan_row_text (fun vs H Q E h => ?_) (fun cdv A outer s H vs Q E hr h => ?_)
  · exact S1.len h
  · match vs, h with
    | [v0], h =>
    have hu := hu_of hr
    refine ⟨_, PSs.nox (pss_one (ps_ret (peJoin (K := K) pe_str (pe_op op_cat (pe_lst (pa_cons (pe_ix (ixT (K := K)) (pv 0) pe_int (fun _ _ => rfl)) pa_nil)) (pe_lc (own := [("part", 1)]) (g := gName 1) rfl sc_plan_row_text.nd (pi_tup (pe_slice (slT (K := K)) (pv 0) (po_some pe_int) po_none)) (blkOk_by (own := [("part", 1)]) (N := ["row", "part"]) (sc := defScope s_plan_row_text) (by decide +kernel)) (fun _ _ _ _ _ => pg_name (i := 1) sc_plan_row_text.nd rfl (Or.inl rfl)) (fun _ _ _ _ _ => pts_nil) (fun _ _ _ _ _ => (pe_callTy clStrQ (by rfl) T.b_str (by decide +kernel) (pa_cons (pv 1) pa_nil)))))))), ?_⟩
    rw [show start ["row", "part"] [v0] = [some v0, none] from rfl]
    obtain ⟨F, r, hw, hD, hok, q⟩ := h
    obtain ⟨p, rfl, hT⟩ := dp_g hD
    have w := (W.start (M := []) hw).push (imT K p r.vals) hT
    have hpl := hok.l
    have hvl : r.vals.length = r.ps.length + 1 := by show (r.ps.map GP.v).length + 1 = _; rw [List.length_map]
    walk_at "go"
    refine w_ixT _ _ (by walk_at "st") (show atI r.vals ((0 : Nat) : Int) = some (.str r.w) from atI_nat rfl) ?_
    walk_at "go"
    refine n_lst w (szle (by show 1 ≤ 1000000; decide)) fun p1 F1 H1 w hp1 => ?_
    walk_at "go"
    refine n_slT7 (xs := r.vals) w (by walk_at "st") (fun z => sIx_one _ (by rw [← hvl]; exact z.1)) fun t2 F2 H2 w => ?_
    rw [show cutV r.vals (some 1) none = r.ps.map GP.v from cut_from_V _ 1] at w
    refine n_it (K := K) (xs := r.ps.map GP.v) (sqT_same w.fh (sqT_of (w.i (fx t2 (.tup (r.ps.map GP.v))) (by walk_at "mem")))) ?_
    refine n_lcT (r.ps.map GP.v) w (fun j ys L => ys = ((r.ps.map GP.z).take j).map V.str ∧ L = [fx t2 (.tup (r.ps.map GP.v)), mu p1 (.lst [.str r.w])]) ⟨rfl, rfl⟩ (fun j ys L F H D h w => by obtain ⟨rfl, rfl⟩ := h; exact sqT_same w.fh (sqT_of (w.i (fx t2 (.tup (r.ps.map GP.v))) (by walk_at "mem")))) (fun j x ys L F2 H2 D hx2 hp w hDn => ?_) (fun D ys L F2 H2 hp w hDn => ?_)
    · obtain ⟨rfl, rfl⟩ := hp
      rw [List.getElem?_map] at hx2
      obtain ⟨gp, hg, rfl⟩ : ∃ gp, r.ps[j]? = some gp ∧ x = gp.v := by
        cases e : r.ps[j]? with
        | none => rw [e] at hx2; cases hx2
        | some g9 => rw [e] at hx2; exact ⟨g9, rfl, (Option.some.inj hx2).symm⟩
      have hgo := hok.p gp (List.mem_of_getElem? hg)
      have hj := (List.getElem?_eq_some_iff.mp hg).1
      have et : ((r.ps.map GP.z).take (j + 1)).map V.str = ((r.ps.map GP.z).take j).map V.str ++ [.str gp.z] := by
        rw [List.take_add_one, List.getElem?_map, hg, List.map_append]
        rfl
      walk_at "wp"
      walk_at "go"
      have fin : accG D (NxC [] F H (fun ys L => ys = ((r.ps.map GP.z).take (j + 1)).map V.str ∧ L = [fx t2 (.tup (r.ps.map GP.v)), mu p1 (.lst [.str r.w])]) D) (.str gp.z) H2 := by
        refine n_acc _ w ⟨et.symm, rfl⟩ (by walk_at "pk") (small_lt (by rw [List.length_map, List.length_take, List.length_map]; omega))
      cases gp with
      | i n => exact .inr ⟨_, rfl, log_of hgo, fin⟩
      | s z => exact .inl ⟨z, rfl, fin⟩
    obtain ⟨rfl, rfl⟩ := hp
    rw [List.take_of_length_le (by rw [List.length_map, List.length_map]; exact Nat.le_refl _)] at w
    walk_at "go"
    refine n_cat (p := p1) (q := D) w (by walk_at "at") (by walk_at "at") (szle (by rw [List.length_map, List.length_map]; show 1 + _ ≤ _; omega)) fun p3 F3 H3 w hp3 => ?_
    rw [show [V.str r.w] ++ (r.ps.map GP.z).map V.str = r.ws.map V.str from rfl] at w
    walk_at "go"
    refine ⟨_, p3, r.ws, rfl, rfl, .inl (by walk_at "sq"), r.jsum hok, ?_⟩
    exact q _ _ (w.to .nil)
-- plan_text
theorem ok_plan_text {f : Addr} {fd : FuncData} (F : FunD K "plan_text" "plan_text" (defArgs s_plan_text) (defBody s_plan_text) (defScope s_plan_text) [] [] f fd) (T : Txt K mg) (D_plan_row_text : DO P w K mg base 1 "plan_row_text" ["row"] [] (S1 (φprt71 K))) : FnOk P w K mg base CX0 2 f fd ["plan"] (S1 (φptext71 K)) := by
  refine F.ok sc_plan_text (fun vs H Q E h => ?_) (fun cdv A outer s H vs Q E hr h => ?_)
  · exact S1.len h
  · match vs, h with
    | [v0], h =>
    have hu := hu_of hr
    refine ⟨_, PSs.nox (pss_one (ps_ret (peJoin (K := K) pe_str (pe_lc (own := [("row", 1)]) (g := gName 1) rfl sc_plan_text.nd (pi_list (pv 0)) (blkOk_by (own := [("row", 1)]) (N := ["plan", "row"]) (sc := defScope s_plan_text) (by decide +kernel)) (fun _ _ _ _ _ => pg_name (i := 1) sc_plan_text.nd rfl (Or.inl rfl)) (fun _ _ _ _ _ => pts_nil) (fun _ _ _ _ _ => (pcall D_plan_row_text hr (pa_cons (pv 1) pa_nil))))))), ?_⟩
    rw [show start ["plan", "row"] [v0] = [some v0, none] from rfl]
    obtain ⟨F, a, vs, ls, rfl, hw, hS, hD, hok, hl, ht, q⟩ := h
    have w := ((W.start (M := []) hw).push (imL K a vs) hS).push (dpa K vs (ls.map GRow.d)) hD
    have hvl : vs.length = ls.length := by rw [dpa_len hD, List.length_map]
    walk_at "go"
    refine n_lcL vs w (fun j ys L => ys = ((ls.take j).map GRow.t).map V.str ∧ L = [imL K a vs, dpa K vs (ls.map GRow.d)]) ⟨rfl, rfl⟩ (fun j ys L F' H' D hp w => ?_) (fun j x ys L F' H' D hx hp w hD => ?_) (fun D ys L F' H' hp w hD => ?_)
    · obtain ⟨rfl, rfl⟩ := hp
      walk_at "sq"
    · obtain ⟨rfl, rfl⟩ := hp
      obtain ⟨r, hr, dr⟩ := dpa_at (w.dpa (K := K) (xs := vs) (ds := ls.map GRow.d) (by walk_at "mem")) hx
      have hj := (List.getElem?_eq_some_iff.mp hr).1
      walk_at "wp"
      walk_at "go"
      refine ⟨_, r, w.fh, dr, hok r (List.mem_of_getElem? hr), fun F2 H2 w2 => ?_⟩
      replace w := w.cal .nil w2 (by walk_at "app")
      exact n_acc _ w ⟨by rw [List.take_add_one, hr, List.map_append, List.map_append]; rfl, rfl⟩ (by walk_at "pk") (small_lt (by rw [List.length_map, List.length_map, List.length_take]; omega))
    obtain ⟨rfl, rfl⟩ := hp
    rw [hvl, List.take_length] at w
    walk_at "go"
    refine ⟨_, D, ls.map GRow.t, rfl, rfl, .inl (by walk_at "sq"), ?_, ?_⟩
    · have := tot_sum ls
      rw [List.length_map, slen_nl7]
      omega
    exact q _ _ (w.to .nil)
-- is_number
theorem ok_is_number {f : Addr} {fd : FuncData} (F : FunD K "is_number" "is_number" (defArgs s_is_number) (defBody s_is_number) (defScope s_is_number) [] [] f fd) (T : Txt K mg)  : FnOk P w K mg base CX0 1 f fd ["word"] (S1 (φisnum71 K)) := by
  refine F.ok sc_is_number (fun vs H Q E h => ?_) (fun cdv A outer s H vs Q E hr h => ?_)
  · exact S1.len h
  · match vs, h with
    | [v0], h =>
    have hu := hu_of hr
    refine ⟨_, PSs.nox (C8.pss_cut (ps_set (i := 1) sc_is_number.nd rfl (.inl rfl) (pe_ifExp (pt_cmpR op_eq (pe_slice sl_str (pv 0) po_none (po_some pe_int)) pe_str (nomark _)) (pe_slice sl_str (pv 0) (po_some pe_int) po_none) (pv 0)))
      (pss_cons (ps_if (PW.pt (pw_or (pt_cmpR op_eq (pv 1) pe_str (nomark _)) (pw_or (pt_cmpR op_gt (pe_callB clLenS (by rfl) T.b_len (by decide +kernel) (pa_cons (pv 1) pa_nil)) (pe_gint (by rfl) T.c_MOST_FIGURES) (nomark _)) (pw_or1 (pt_cmpR (opNeD (K := K) hr.units) (pe_lc (own := [("sign", 2)]) (g := gName 2) rfl sc_is_number.nd (pi_str (pv 1)) (blkOk_by (own := [("sign", 2)]) (N := ["word", "figures", "sign"]) (sc := defScope s_is_number) (by decide +kernel)) (fun _ _ _ _ _ => pg_name (i := 2) sc_is_number.nd rfl (Or.inl rfl)) (fun _ _ _ _ _ => pts_one (pt_cmpR opNotInS (pv 2) (pe_gstr (by rfl) T.c_FIGURES) (by rfl))) (fun _ _ _ _ _ => (pv 2))) (pe_lst pa_nil) (nomark _)))))) (pss_one (ps_ret pe_bl)) pss_nil)
      (pss_one (ps_ret (pe_or (pe_cmpR op_eq (pv 0) pe_str (nomark _)) (pe_one (pe_cmpR op_ne (pe_ix ix_str (pv 1) pe_int (fun _ _ => rfl)) pe_str (nomark _)))))))), ?_⟩
    rw [show start ["word", "figures", "sign"] [v0] = [some v0, none, none] from rfl]
    obtain ⟨F, s, rfl, hw, hok, hl, q⟩ := h
    have w := W.start (M := []) hw
    obtain ⟨t1, e1⟩ := T.c_MOST_FIGURES
    obtain ⟨fs, efs⟩ : ∃ fs : Str, fs = if (cd s).take 1 = [45] then cutS s (some 1) none else s := ⟨_, rfl⟩
    have hfs : cd fs = figs (cd s) := by
      rw [efs]
      unfold figs
      split
      · exact cut_cd_from s 1
      · rfl
    have fl : fs.length ≤ s.length := by
      rw [← cd_len, ← cd_len s, hfs]
      unfold figs
      split
      · rw [List.length_drop]; omega
      · exact Nat.le_refl _
    have okf : okS fs := ok_codes.mpr fun c hc => by
      rw [hfs] at hc
      unfold figs at hc
      split at hc
      · exact ok_codes.mp hok c (List.mem_of_mem_drop hc)
      · exact ok_codes.mp hok c hc
    walk_at "go"
    refine n_cut w (fun σ L => σ = [some (.str s), some (.str fs), none] ∧ L = []) ?_ (fun σ L F' H' hp w => ?_)
    · walk_at "go"
      refine w_slS (szle (by omega)) ?_
      walk_at "go"
      have e1 : cutS s none (some 1) = Str.ofString "-" ↔ (cd s).take 1 = [45] := by rw [str_is, cd_minus, show cd (cutS s none (some 1)) = (cd s).take 1 from cut_cd_to s 1]
      by_cases hm : (cd s).take 1 = [45]
      · rw [decide_eq_true (e1.mpr hm)]
        walk_at "go"
        refine w_slS (szle (by omega)) ?_
        have ef : fs = cutS s (some 1) none := by rw [efs, if_pos hm]
        walk_at "go"
        exact nx_mk w ⟨by rw [ef], rfl⟩ (by walk_at "pk")
      · rw [decide_eq_false (fun z => hm (e1.mp z))]
        have ef : fs = s := by rw [efs, if_neg hm]
        walk_at "go"
        exact nx_mk w ⟨by rw [ef], rfl⟩ (by walk_at "pk")
    obtain ⟨rfl, rfl⟩ := hp
    have flen : (figs (cd s)).length = fs.length := by rw [← hfs, cd_len]
    walk_at "go"
    by_cases h1 : figs (cd s) = []
    · rw [decide_eq_true (show fs = Str.ofString "" from str_is.mpr (by rw [hfs, h1, cd_none]))]
      walk_at "go"
      rw [isn1 h1] at q
      exact q _ _ (w.to .nil)
    rw [decide_eq_false (show ¬ fs = Str.ofString "" from fun z => h1 (by rw [← hfs, z, cd_none]))]
    walk_at "go"
    by_cases h2 : 60 < (figs (cd s)).length
    · rw [decide_eq_true (show (60 : Int) < ((fs.length : Nat) : Int) by omega)]
      walk_at "go"
      rw [isn2 h2] at q
      exact q _ _ (w.to .nil)
    rw [decide_eq_false (show ¬ (60 : Int) < ((fs.length : Nat) : Int) by omega)]
    walk_at "go"
    refine n_lcS fs w (fun i ys L => ys = (badS ((cd fs).take i)).map (fun c => V.str ⟨#[c]⟩) ∧ L = []) ⟨rfl, rfl⟩ (fun i ys L F' H' D hi hp w hD => ?_) (fun D ys L F' H' hp w hD => ?_)
    · obtain ⟨rfl, rfl⟩ := hp
      have hi2 : i < (cd fs).length := by rw [cd_len]; exact hi
      unfold sgnV
      obtain ⟨c, ec⟩ : ∃ c, c = fs.cps.toList.getD i 0 := ⟨_, rfl⟩
      have hc : (cd fs)[i]? = some c := by
        rw [ec, List.getD_eq_getElem?_getD]
        show fs.cps.toList[i]? = _
        rw [List.getElem?_eq_getElem hi2]
        rfl
      rw [← ec]
      have et : badS ((cd fs).take (i + 1)) = badS ((cd fs).take i) ++ (if dg c = true then [] else [c]) := by
        unfold badS
        rw [List.take_add_one, hc, List.filter_append]
        cases e : dg c <;> simp [e]
      have hbl : (badS ((cd fs).take i)).length ≤ 60 := by
        have h5 := List.length_filter_le (fun c => !dg c) ((cd fs).take i)
        rw [List.length_take] at h5
        rw [cd_len] at h5
        show ((cd fs).take i |>.filter (fun c => !dg c)).length ≤ 60
        omega
      walk_at "wp"
      walk_at "go"
      refine n_notin ?_
      rw [show cd (⟨#[c]⟩ : Str) = [c] from rfl, fig_in]
      cases e : dg c with
      | true =>
        walk_at "go"
        exact ⟨_, _, F', ⟨by rw [et, e]; simp, rfl⟩, w⟩
      | false =>
        walk_at "go"
        refine n_acc _ w ⟨by rw [et, e, List.map_append]; rfl, rfl⟩ (by walk_at "pk") (small_lt (by rw [List.length_map]; omega))
    obtain ⟨rfl, rfl⟩ := hp
    rw [List.take_of_length_le (by rw [cd_len]; exact Nat.le_refl _), hfs] at w
    walk_at "go"
    refine n_lst w (szle (by show 0 ≤ 1000000; decide)) fun p9 F9 H9 w hp9 => ?_
    refine n_neS (cs := badS (figs (cd s))) (by walk_at "sq") (by walk_at "sq") (by have h5 := List.length_filter_le (fun c => !dg c) (figs (cd s)); show ((figs (cd s)).filter (fun c => !dg c)).length ≤ _; omega) (fun c hc => ok_codes.mp okf c (by rw [hfs]; exact (List.mem_filter.mp hc).1)) ?_
    by_cases h3 : badS (figs (cd s)) = []
    · rw [decide_eq_true h3]
      walk_at "go"
      rw [isn4 h1 h2 h3] at q
      have e0 : s = Str.ofString "0" ↔ cd s = [48] := by rw [str_is, cd_nought]
      by_cases h4 : cd s = [48]
      · rw [decide_eq_true (e0.mpr h4)]
        walk_at "go"
        rw [decide_eq_true h4] at q
        exact q _ _ (w.to .nil)
      · rw [decide_eq_false (fun z => h4 (e0.mp z))]
        rw [decide_eq_false h4] at q
        walk_at "go"
        obtain ⟨c, cs9, ecs⟩ : ∃ c cs9, figs (cd s) = c :: cs9 := by
          cases e : figs (cd s) with
          | nil => exact absurd e h1
          | cons c cs9 => exact ⟨c, cs9, rfl⟩
        refine w_ixS (c := c) (le1000 (by omega)) (show atI fs.cps.toList ((0 : Nat) : Int) = some c from atI_nat (by show (cd fs)[0]? = _; rw [hfs, ecs]; rfl)) ?_
        walk_at "go"
        rw [ecs] at q
        have e9 : (⟨#[c]⟩ : Str) = Str.ofString "0" ↔ [c] = [48] := by rw [str_is, cd_nought]
        by_cases h5 : [c] = [48]
        · rw [decide_eq_true (e9.mpr h5)]
          rw [show (c :: cs9).take 1 = [c] from rfl, decide_eq_true h5] at q
          exact q _ _ (w.to .nil)
        · rw [decide_eq_false (fun z => h5 (e9.mp z))]
          rw [show (c :: cs9).take 1 = [c] from rfl, decide_eq_false h5] at q
          exact q _ _ (w.to .nil)
    · rw [decide_eq_false h3]
      walk_at "go"
      rw [isn3 h3] at q
      exact q _ _ (w.to .nil)
-- number_of
theorem ok_number_of {f : Addr} {fd : FuncData} (F : FunD K "number_of" "number_of" (defArgs s_number_of) (defBody s_number_of) (defScope s_number_of) [] [] f fd) (T : Txt K mg) (D_is_number : DO P w K mg base 1 "is_number" ["word"] [] (S1 (φisnum71 K))) : FnOk P w K mg base CX0 2 f fd ["word"] (S1 (φnumof71 K)) := by
  refine F.ok sc_number_of (fun vs H Q E h => ?_) (fun cdv A outer s H vs Q E hr h => ?_)
  · exact S1.len h
  · match vs, h with
    | [v0], h =>
    have hu := hu_of hr
    refine ⟨_, PSs.nox (pss_cons (ps_if (pt_not (pt_val (pcall D_is_number hr (pa_cons (pv 0) pa_nil)))) (pss_one ps_never) pss_nil)
      (pss_one (ps_ret (pe_callTy clIntS (by rfl) T.b_int (by decide +kernel) (pa_cons (pv 0) pa_nil))))), ?_⟩
    rw [show start ["word"] [v0] = [some v0] from rfl]
    obtain ⟨F, i, rfl, hw, hi, q⟩ := h
    have w := W.start (M := []) hw
    have hn := num_is hi
    have hr := num_reads hn
    have hl := num_len (k := 60) (by decide) hi
    walk_at "go"
    refine ⟨_, numI i, rfl, w.fh, clean_ok (num_clean i), by omega, fun F2 H2 w2 => ?_⟩
    replace w := w.cal .nil w2 (by walk_at "app")
    rw [hn]
    walk_at "go"
    refine n_intS hr.1 hr.2 ?_
    rw [num_val]
    exact q _ _ (w.to .nil)
-- text_of
theorem ok_text_of {f : Addr} {fd : FuncData} (F : FunD K "text_of" "text_of" (defArgs s_text_of) (defBody s_text_of) (defScope s_text_of) [] [] f fd) (T : Txt K mg)  : FnOk P w K mg base CX0 1 f fd ["word"] (S1 (φtextof71 K)) := by
  refine F.ok sc_text_of (fun vs H Q E h => ?_) (fun cdv A outer s H vs Q E hr h => ?_)
  · exact S1.len h
  · match vs, h with
    | [v0], h =>
    have hu := hu_of hr
    refine ⟨_, PSs.nox (pss_cons (ps_if (PW.pt (pw_or (pt_cmpR op_eq (pv 0) pe_str (nomark _)) (pw_or1 (pt_cmpR op_gt (pe_callB clLenS (by rfl) T.b_len (by decide +kernel) (pa_cons (pv 0) pa_nil)) (pe_gint (by rfl) T.c_MOST_SIGNS) (nomark _))))) (pss_one ps_never) pss_nil)
      (pss_one (ps_ret (pv 0)))), ?_⟩
    rw [show start ["word"] [v0] = [some v0] from rfl]
    obtain ⟨F, s, rfl, hw, h1, h4, q⟩ := h
    have w := W.start (M := []) hw
    obtain ⟨t1, e1⟩ := T.c_MOST_SIGNS
    walk_at "go"
    rw [decide_eq_false (show ¬ s = Str.ofString "" from fun z => by rw [z] at h1; exact absurd h1 (by decide +kernel))]
    walk_at "go"
    rw [decide_eq_false (show ¬ (400 : Int) < ((s.length : Nat) : Int) by omega)]
    walk_at "go"
    exact q _ _ (w.to .nil)
-- change_row
theorem ok_change_row {f : Addr} {fd : FuncData} (F : FunD K "change_row" "change_row" (defArgs s_change_row) (defBody s_change_row) (defScope s_change_row) [] [] f fd) (T : Txt K mg) (D_number_of : DO P w K mg base 2 "number_of" ["word"] [] (S1 (φnumof71 K))) (D_text_of : DO P w K mg base 1 "text_of" ["word"] [] (S1 (φtextof71 K))) : FnOk P w K mg base CX0 3 f fd ["words"] (S1 (φcrow71 K)) := by
  refine F.ok sc_change_row (fun vs H Q E h => ?_) (fun cdv A outer s H vs Q E hr h => ?_)
  · exact S1.len h
  · match vs, h with
    | [v0], h =>
    have hu := hu_of hr
    refine ⟨_, PSs.nox (pss_cons (ps_if (PW.pt (pw_and (pt_cmpR op_eq (pe_ix (ixL (K := K)) (pv 0) pe_int (fun _ _ => rfl)) pe_str (nomark _)) (pw_and1 (pt_cmpR op_eq (pe_callB (clLenQ (K := K)) (by rfl) T.b_len (by decide +kernel) (pa_cons (pv 0) pa_nil)) pe_int (nomark _))))) (pss_one (ps_ret (pe_tup (pa_cons pe_str (pa_cons (pcall D_number_of hr (pa_cons (pe_ix (ixL (K := K)) (pv 0) pe_int (fun _ _ => rfl)) pa_nil)) (pa_cons (pcall D_number_of hr (pa_cons (pe_ix (ixL (K := K)) (pv 0) pe_int (fun _ _ => rfl)) pa_nil)) pa_nil)))))) pss_nil)
      (pss_cons (ps_if (PW.pt (pw_and (pt_cmpR op_eq (pe_ix (ixL (K := K)) (pv 0) pe_int (fun _ _ => rfl)) pe_str (nomark _)) (pw_and1 (pt_cmpR op_eq (pe_callB (clLenQ (K := K)) (by rfl) T.b_len (by decide +kernel) (pa_cons (pv 0) pa_nil)) pe_int (nomark _))))) (pss_one (ps_ret (pe_tup (pa_cons pe_str (pa_cons (pcall D_text_of hr (pa_cons (pe_ix (ixL (K := K)) (pv 0) pe_int (fun _ _ => rfl)) pa_nil)) pa_nil))))) pss_nil)
      (pss_one ps_never))), ?_⟩
    rw [show start ["words"] [v0] = [some v0] from rfl]
    obtain ⟨F, a, n, r, rfl, hw, hS, hok, hn, hg, q⟩ := h
    cases r with
    | put s =>
      have w := (W.start (M := []) hw).push (imL K a [.str (Str.ofString "put"), .str s]) hS
      have hp : 1 ≤ s.length := hok.p
      walk_at "go"
      refine ⟨_, s, rfl, w.fh, hp, hg, fun F2 H2 w2 => ?_⟩
      replace w := w.cal .nil w2 (by walk_at "app")
      walk_at "go"
      refine n_tup w (szle (by simp)) fun t F3 H3 w => ?_
      exact q t _ _ ((w.push (dat K (.ref t) (CRow.put s).d) (dp_cput' (sqT_of (w.i (fx t _) (by walk_at "mem"))))).to (by walk_at "pick"))
    | copy x m =>
      have w := (W.start (M := []) hw).push (imL K a [.str (Str.ofString "copy"), .str (numI (x : Nat)), .str (numI (m : Nat))]) hS
      have hh : x + m ≤ n := hok.h
      walk_at "go"
      refine ⟨_, (x : Nat), rfl, w.fh, small_nat (by omega), fun F2 H2 w2 => ?_⟩
      replace w := w.cal .nil w2 (by walk_at "app")
      walk_at "go"
      refine ⟨_, (m : Nat), rfl, w.fh, small_nat (by omega), fun F2 H2 w2 => ?_⟩
      replace w := w.cal .nil w2 (by walk_at "app")
      walk_at "go"
      refine n_tup w (szle (by simp)) fun t F3 H3 w => ?_
      exact q t _ _ ((w.push (dat K (.ref t) (CRow.copy x m).d) (dp_ccopy' (sqT_of (w.i (fx t _) (by walk_at "mem"))))).to (by walk_at "pick"))
-- read_change
theorem ok_read_change {f : Addr} {fd : FuncData} (F : FunD K "read_change" "read_change" (defArgs s_read_change) (defBody s_read_change) (defScope s_read_change) [] [] f fd) (T : Txt K mg) (D_change_row : DO P w K mg base 3 "change_row" ["words"] [] (S1 (φcrow71 K))) (D_number_of : DO P w K mg base 2 "number_of" ["word"] [] (S1 (φnumof71 K))) (DN_Change_2 : DN P w K mg base 2 "Change" ["self", "size", "rows"] [] (S3 (φinit K))) : FnOk P w K mg base CX0 4 f fd ["text"] (S1 (φrchange71 K)) := by
  refine F.ok sc_read_change (fun vs H Q E h => ?_) (fun cdv A outer s H vs Q E hr h => ?_)
  · exact S1.len h
  · match vs, h with
    | [v0], h =>
    have hu := hu_of hr
    refine ⟨_, PSs.nox (pss_cons (ps_setLc (i := 1) (own := [("line", 3)]) (g := gName 3) rfl sc_read_change.nd rfl rfl (sw_true rfl rfl rfl (by decide +kernel)) (pi_list (pe_splitG (pv 0) pe_str)) (blkOk_by (own := [("line", 3)]) (N := ["text", "lines", "size", "line", "words"]) (sc := defScope s_read_change) (by decide +kernel)) (fun _ _ _ _ _ => pg_name (i := 3) sc_read_change.nd rfl (Or.inl rfl)) (fun _ _ _ _ _ => pts_nil) (fun _ _ _ _ _ => (pe_splitG (pv 3) pe_str)))
      (pss_cons (ps_if (PW.pt (pw_or (pt_cmpR op_ne (pe_ix (ixL (K := K)) (pe_ix (ixL (K := K)) (pv 1) pe_int (fun _ _ => rfl)) pe_int (fun _ _ => rfl)) pe_str (nomark _)) (pw_or1 (pt_cmpR op_ne (pe_callB (clLenQ (K := K)) (by rfl) T.b_len (by decide +kernel) (pa_cons (pe_ix (ixL (K := K)) (pv 1) pe_int (fun _ _ => rfl)) pa_nil)) pe_int (nomark _))))) (pss_one ps_never) pss_nil)
      (pss_cons (ps_set (i := 2) sc_read_change.nd rfl (.inl rfl) (pcall D_number_of hr (pa_cons (pe_ix (ixL (K := K)) (pe_ix (ixL (K := K)) (pv 1) pe_int (fun _ _ => rfl)) pe_int (fun _ _ => rfl)) pa_nil)))
      (pss_one (ps_ret (pmake DN_Change_2 hr (pa_cons (pv 2) (pa_cons (pe_lc (own := [("words", 4)]) (g := gName 4) rfl sc_read_change.nd (pi_list (pe_slice (slL (K := K)) (pv 1) (po_some pe_int) po_none)) (blkOk_by (own := [("words", 4)]) (N := ["text", "lines", "size", "line", "words"]) (sc := defScope s_read_change) (by decide +kernel)) (fun _ _ _ _ _ => pg_name (i := 4) sc_read_change.nd rfl (Or.inl rfl)) (fun _ _ _ _ _ => pts_nil) (fun _ _ _ _ _ => (pcall D_change_row hr (pa_cons (pv 4) pa_nil)))) pa_nil)))))))), ?_⟩
    rw [show start ["text", "lines", "size", "line", "words"] [v0] = [some v0, none, none, none, none] from rfl]
    have kC := T.k_Change
    have kS := T.na_Change_size
    have kR := T.na_Change_rows
    
    obtain ⟨F, s, n, rows, rfl, hw, hs, hR, hn, hcl, q⟩ := h
    have w := W.start (M := []) hw
    have hsl := (writ_ok hn hR hs).2
    have es := writ_g hs
    obtain ⟨ls, els⟩ : ∃ ls, ls = sizeG n :: rows.map CRow.g := ⟨_, rfl⟩
    rw [← els] at es
    have hll : ls.length ≤ 401 := by rw [els, List.length_cons, List.length_map]; have := hR.len; omega
    have hcl2 : ∀ r ∈ ls, r.cln := fun r hr => by
      rw [els] at hr
      rcases List.mem_cons.mp hr with rfl | hr
      · exact size_cln n
      · obtain ⟨c, hc, rfl⟩ := List.mem_map.mp hr
        exact crow_cln (hcl c hc)
    have htl : ∀ r ∈ ls, r.t.length ≤ 1208 := fun r hr => by
      rw [els] at hr
      rcases List.mem_cons.mp hr with rfl | hr
      · exact GRow.tl (size_gok hn)
      · obtain ⟨c, hc, rfl⟩ := List.mem_map.mp hr
        exact GRow.tl (crow_gok (hR.ok c hc) hn (Nat.le_trans (row_le hc) hR.sum))
    walk_at "go"
    refine n_split w (by omega) (by decide +kernel) fun p1 H1 w hp1 => ?_
    rw [es, g_split (by rw [els]; exact fun z => nomatch z) hcl2] at w
    obtain ⟨F1, w⟩ := w.fzL (p := p1) (by walk_at "pick") hp1
    replace w := w.push (dpa K [] ((ls.take 0).map wsD)) .nil
    refine n_il (xs := (ls.map GRow.t).map V.str) (sqL_same w.fh (sqL_of (w.i (fx p1 (.lst ((ls.map GRow.t).map V.str))) (by walk_at "mem")))) ?_
    refine n_lcL ((ls.map GRow.t).map V.str) w (fun j ys L => ys.length = j ∧ L = [dpa K ys ((ls.take j).map wsD), fx p1 (.lst ((ls.map GRow.t).map V.str))]) ⟨rfl, rfl⟩ (fun j ys L F' H' D hp w => ?_) (fun j x ys L F' H' D hx hp w hD => ?_) (fun D ys L F' H' hp w hD => ?_)
    · obtain ⟨hyl, rfl⟩ := hp
      walk_at "sq"
    · obtain ⟨hyl, rfl⟩ := hp
      rw [List.map_map] at hx
      obtain ⟨r, hr, ex⟩ := mapS_at hx
      have ex : x = .str r.t := ex
      subst ex
      have hj := (List.getElem?_eq_some_iff.mp hr).1
      have hrc := hcl2 r (List.mem_of_getElem? hr)
      have hrt := htl r (List.mem_of_getElem? hr)
      walk_at "wp"
      walk_at "go"
      refine n_split (a := r.t) (b := Str.ofString " ") w (by omega) (by decide +kernel) fun p2 H2 w hp2 => ?_
      rw [g_words hrc] at w
      obtain ⟨F2, w⟩ := w.fzL (p := p2) (by walk_at "pick") hp2
      replace w := w.push (dpa K (ys ++ [.ref p2]) ((ls.take (j + 1)).map wsD)) (by
        rw [List.take_add_one, hr, List.map_append]
        exact dpa_snoc (w.dpa (by walk_at "mem")) (.lst (sqL_of (w.i (fx p2 _) (by walk_at "mem"))) (dpa_strs _)))
      exact n_acc ys w ⟨by rw [List.length_append, hyl]; rfl, rfl⟩ (by walk_at "pk") (small_lt (by omega))
    obtain ⟨hyl, rfl⟩ := hp
    rw [List.length_map, List.length_map] at hyl
    rw [List.length_map, List.length_map, List.take_length] at w
    obtain ⟨F1, w⟩ := w.fzL (p := D) (by walk_at "pick") hD
    walk_at "go"
    obtain ⟨x0, hx0, dx0⟩ := dpa_get (w.dpa (K := K) (xs := ys) (ds := ls.map wsD) (by walk_at "mem")) (show (ls.map wsD)[0]? = some (wsD (sizeG n)) by rw [els]; rfl)
    obtain ⟨p0, rfl, hS0⟩ := dp_wsL dx0
    replace w := w.push (imL K p0 [.str (Str.ofString "size"), .str (numI (n : Nat))]) hS0
    refine w_ixL _ _ (by walk_at "sq") (show atI ys ((0 : Nat) : Int) = some (.ref p0) from atI_nat hx0) ?_
    walk_at "go"
    refine w_ixL _ _ (by walk_at "sq") (show atI ys ((0 : Nat) : Int) = some (.ref p0) from atI_nat hx0) ?_
    walk_at "go"
    refine w_ixL _ _ (by walk_at "sq") (show atI ys ((0 : Nat) : Int) = some (.ref p0) from atI_nat hx0) ?_
    walk_at "go"
    refine ⟨_, (n : Nat), rfl, w.fh, small_nat hn, fun F2 H2 w2 => ?_⟩
    replace w := w.cal .nil w2 (by walk_at "app")
    walk_at "go"
    refine n_slL w (by walk_at "sq") fun p3 F3 H3 w hp3 => ?_
    rw [show cutV ys (some 1) none = ys.drop 1 from cut_from_V _ 1] at w
    obtain ⟨F3, w⟩ := w.fzL (p := p3) (by walk_at "pick") hp3
    have hd1 := dpa_dropN 1 (w.dpa (K := K) (xs := ys) (ds := ls.map wsD) (by walk_at "mem"))
    rw [els, List.map_cons, List.map_map] at hd1
    obtain ⟨zs, ezs⟩ : ∃ zs, zs = ys.drop 1 := ⟨_, rfl⟩
    rw [← ezs] at w hd1
    have hd1 : DpAll K F3 zs (rows.map fun r : CRow => wsD r.g) := hd1
    have hzl : zs.length = rows.length := by rw [dpa_len hd1, List.length_map]
    have hrl := hR.len
    have w := w.to (D := [fx p3 (.lst zs)]) (by walk_at "pick")
    replace w := (w.push (dpa K zs (rows.map fun r : CRow => wsD r.g)) hd1).push (dpa K [] ((rows.take 0).map CRow.d)) .nil
    refine n_il (xs := zs) (sqL_same w.fh (sqL_of (w.i (fx p3 (.lst zs)) (by walk_at "mem")))) ?_
    refine n_lcL zs w (fun j us L => us.length = j ∧ L = [dpa K us ((rows.take j).map CRow.d), dpa K zs (rows.map fun r : CRow => wsD r.g), fx p3 (.lst zs)]) ⟨rfl, rfl⟩ (fun j us L F' H' D hp w => ?_) (fun j x us L F' H' D hx hp w hD => ?_) (fun D us L F' H' hp w hD => ?_)
    · obtain ⟨hul, rfl⟩ := hp
      walk_at "sq"
    · obtain ⟨hul, rfl⟩ := hp
      obtain ⟨r, hr, dr⟩ := dpa_at (w.dpa (K := K) (xs := zs) (ds := rows.map fun r : CRow => wsD r.g) (by walk_at "mem")) hx
      have hj := (List.getElem?_eq_some_iff.mp hr).1
      obtain ⟨p4, rfl, hS4⟩ := dp_wsL dr
      replace w := w.push (imL K p4 (r.g.ws.map V.str)) hS4
      walk_at "wp"
      walk_at "go"
      refine ⟨_, p4, n, r, rfl, w.fh, w.imL (by walk_at "mem"), hR.ok r (List.mem_of_getElem? hr), hn, Nat.le_trans (row_le (List.mem_of_getElem? hr)) hR.sum, fun t F2 H2 w2 => ?_⟩
      replace w := w.cal .nil w2 (by walk_at "app")
      replace w := w.push (dpa K (us ++ [.ref t]) ((rows.take (j + 1)).map CRow.d)) (by
        rw [List.take_add_one, hr, List.map_append]
        exact dpa_snoc (w.dpa (by walk_at "mem")) (w.dat (by walk_at "mem")))
      exact n_acc us w ⟨by rw [List.length_append, hul]; rfl, rfl⟩ (by walk_at "pk") (small_lt (by omega))
    obtain ⟨hul, rfl⟩ := hp
    rw [hzl, List.take_length] at w
    obtain ⟨F4, w⟩ := w.fzL (p := D) (by walk_at "pick") hD
    walk_at "go"
    refine n_make w fun c dx H5 w hc => ?_
    refine c_init w (by walk_at "pick") hc (sqL_of (w.i (fx D (.lst us)) (by walk_at "mem"))) (w.dpa (by walk_at "mem")) hn hR fun F5 H5 w => ?_
    exact q _ _ _ (w.to (by walk_at "pick"))
-- plan_row
theorem ok_plan_row {f : Addr} {fd : FuncData} (F : FunD K "plan_row" "plan_row" (defArgs s_plan_row) (defBody s_plan_row) (defScope s_plan_row) [] [] f fd) (T : Txt K mg) (D_number_of : DO P w K mg base 2 "number_of" ["word"] [] (S1 (φnumof71 K))) (D_text_of : DO P w K mg base 1 "text_of" ["word"] [] (S1 (φtextof71 K))) : FnOk P w K mg base CX0 3 f fd ["words"] (S1 (φprow71 K)) := by
  refine F.ok sc_plan_row (fun vs H Q E h => ?_) (fun cdv A outer s H vs Q E hr h => ?_)
  · exact S1.len h
  · match vs, h with
    | [v0], h =>
    have hu := hu_of hr
    refine ⟨_, PSs.nox (pss_cons (ps_if (PW.pt (pw_and (pt_cmpR op_eq (pe_ix (ixL (K := K)) (pv 0) pe_int (fun _ _ => rfl)) pe_str (nomark _)) (pw_and1 (pt_cmpR op_eq (pe_callB (clLenQ (K := K)) (by rfl) T.b_len (by decide +kernel) (pa_cons (pv 0) pa_nil)) pe_int (nomark _))))) (pss_one (ps_ret (pe_tup (pa_cons pe_str (pa_cons (pcall D_number_of hr (pa_cons (pe_ix (ixL (K := K)) (pv 0) pe_int (fun _ _ => rfl)) pa_nil)) (pa_cons (pcall D_text_of hr (pa_cons (pe_ix (ixL (K := K)) (pv 0) pe_int (fun _ _ => rfl)) pa_nil)) pa_nil)))))) pss_nil)
      (pss_cons (ps_if (PW.pt (pw_and (pt_cmpR (opIn (K := K)) (pe_ix (ixL (K := K)) (pv 0) pe_int (fun _ _ => rfl)) (pe_tup (pa_cons pe_str (pa_cons pe_str (pa_cons pe_str pa_nil)))) (by rfl)) (pw_and1 (pt_cmpR op_eq (pe_callB (clLenQ (K := K)) (by rfl) T.b_len (by decide +kernel) (pa_cons (pv 0) pa_nil)) pe_int (nomark _))))) (pss_one (ps_ret (pe_tup (pa_cons (pe_ix (ixL (K := K)) (pv 0) pe_int (fun _ _ => rfl)) (pa_cons (pcall D_number_of hr (pa_cons (pe_ix (ixL (K := K)) (pv 0) pe_int (fun _ _ => rfl)) pa_nil)) (pa_cons (pcall D_number_of hr (pa_cons (pe_ix (ixL (K := K)) (pv 0) pe_int (fun _ _ => rfl)) pa_nil)) (pa_cons (pcall D_number_of hr (pa_cons (pe_ix (ixL (K := K)) (pv 0) pe_int (fun _ _ => rfl)) pa_nil)) pa_nil))))))) pss_nil)
      (pss_one ps_never))), ?_⟩
    rw [show start ["words"] [v0] = [some v0] from rfl]
    obtain ⟨F, a, r, rfl, hw, hS, hP, q⟩ := h
    cases hP with
    | put to s h1 h2 h3 h4 =>
      have w := (W.start (M := []) hw).push (imL K a [.str (Str.ofString "put"), .str (numI to), .str s]) hS
      walk_at "go"
      refine ⟨_, to, rfl, w.fh, h1, fun F2 H2 w2 => ?_⟩
      replace w := w.cal .nil w2 (by walk_at "app")
      walk_at "go"
      refine ⟨_, s, rfl, w.fh, h3, h4, fun F2 H2 w2 => ?_⟩
      replace w := w.cal .nil w2 (by walk_at "app")
      walk_at "go"
      refine n_tup w (szle (by simp)) fun t F3 H3 w => ?_
      exact q t _ _ ((w.push (dat K (.ref t) (GRow.mk (Str.ofString "put") [.i to, .s s]).d) (.tup (sqT_of (w.i (fx t _) (by walk_at "mem"))) (.cons (.str _) (.cons (.int _) (.cons (.str _) .nil))))).to (by walk_at "pick"))
    | three wd to f m hwd h1 h2 h3 =>
      have w := (W.start (M := []) hw).push (imL K a [.str wd, .str (numI to), .str (numI f), .str (numI m)]) hS
      walk_at "go"
      by_cases hput : wd = Str.ofString "put"
      · exfalso
        rw [hput] at hwd
        rcases hwd with z | z | z <;> exact absurd z (by decide +kernel)
      rw [decide_eq_false hput]
      walk_at "go"
      refine n_tup w (szle (by simp)) fun t9 F9 H9 w => ?_
      refine ⟨t9, _, rfl, .inr (by walk_at "st"), rfl, by decide +kernel, ?_⟩
      have e : inV (V.str wd) [V.str (Str.ofString "keep"), V.str (Str.ofString "copy"), V.str (Str.ofString "lay")] = true := by
        rcases hwd with rfl | rfl | rfl <;> decide +kernel
      simp only [e, Bool.false_eq_true, if_false, if_true]
      walk_at "go"
      refine ⟨_, to, rfl, w.fh, h1, fun F2 H2 w2 => ?_⟩
      replace w := w.cal .nil w2 (by walk_at "app")
      walk_at "go"
      refine ⟨_, f, rfl, w.fh, h2, fun F2 H2 w2 => ?_⟩
      replace w := w.cal .nil w2 (by walk_at "app")
      walk_at "go"
      refine ⟨_, m, rfl, w.fh, h3, fun F2 H2 w2 => ?_⟩
      replace w := w.cal .nil w2 (by walk_at "app")
      walk_at "go"
      refine n_tup w (szle (by simp)) fun t F3 H3 w => ?_
      exact q t _ _ ((w.push (dat K (.ref t) (GRow.mk wd [.i to, .i f, .i m]).d) (.tup (sqT_of (w.i (fx t _) (by walk_at "mem"))) (.cons (.str _) (.cons (.int _) (.cons (.int _) (.cons (.int _) .nil)))))).to (by walk_at "pick"))
-- read_plan
theorem ok_read_plan {f : Addr} {fd : FuncData} (F : FunD K "read_plan" "read_plan" (defArgs s_read_plan) (defBody s_read_plan) (defScope s_read_plan) [] [] f fd) (T : Txt K mg) (D_plan_row : DO P w K mg base 3 "plan_row" ["words"] [] (S1 (φprow71 K))) : FnOk P w K mg base CX0 4 f fd ["text"] (S1 (φrplan71 K)) := by
  refine F.ok sc_read_plan (fun vs H Q E h => ?_) (fun cdv A outer s H vs Q E hr h => ?_)
  · exact S1.len h
  · match vs, h with
    | [v0], h =>
    have hu := hu_of hr
    refine ⟨_, PSs.nox (pss_cons (ps_if (pt_cmpR op_eq (pv 0) pe_str (nomark _)) (pss_one (ps_ret (pe_lst pa_nil))) pss_nil)
      (pss_one (ps_ret (pe_lc (own := [("line", 1)]) (g := gName 1) rfl sc_read_plan.nd (pi_list (pe_splitG (pv 0) pe_str)) (blkOk_by (own := [("line", 1)]) (N := ["text", "line"]) (sc := defScope s_read_plan) (by decide +kernel)) (fun _ _ _ _ _ => pg_name (i := 1) sc_read_plan.nd rfl (Or.inl rfl)) (fun _ _ _ _ _ => pts_nil) (fun _ _ _ _ _ => (pcall D_plan_row hr (pa_cons (pe_splitG (pv 1) pe_str) pa_nil))))))), ?_⟩
    rw [show start ["text", "line"] [v0] = [some v0, none] from rfl]
    obtain ⟨F, ls, rfl, hw, hP, hl, ht, q⟩ := h
    have w := W.start (M := []) hw
    have hsl := gpT_len ls
    walk_at "go"
    by_cases h0 : ls = []
    · subst h0
      rw [gpT_nil, decide_eq_true rfl]
      walk_at "go"
      refine n_lst w (szle (by show 0 ≤ 1000000; decide)) fun p9 F9 H9 w hp9 => ?_
      exact q p9 [] _ _ hp9 ((w.push (dpa K [] (([] : List GRow).map GRow.d)) .nil).to (by walk_at "pick"))
    rw [decide_eq_false (gpT_ne h0 hP)]
    walk_at "go"
    refine n_split w (by omega) (by decide +kernel) fun p1 H1 w hp1 => ?_
    rw [g_split h0 fun r hr => (hP r hr).ok.2] at w
    obtain ⟨F1, w⟩ := w.fzL (p := p1) (by walk_at "pick") hp1
    replace w := w.push (dpa K [] ((ls.take 0).map GRow.d)) .nil
    refine n_il (xs := (ls.map GRow.t).map V.str) (sqL_same w.fh (sqL_of (w.i (fx p1 (.lst ((ls.map GRow.t).map V.str))) (by walk_at "mem")))) ?_
    refine n_lcL ((ls.map GRow.t).map V.str) w (fun j ys L => ys.length = j ∧ L = [dpa K ys ((ls.take j).map GRow.d), fx p1 (.lst ((ls.map GRow.t).map V.str))]) ⟨rfl, rfl⟩ (fun j ys L F' H' D hp w => ?_) (fun j x ys L F' H' D hx hp w hD => ?_) (fun D ys L F' H' hp w hD => ?_)
    · obtain ⟨hyl, rfl⟩ := hp
      walk_at "sq"
    · obtain ⟨hyl, rfl⟩ := hp
      rw [List.map_map] at hx
      obtain ⟨r, hr, ex⟩ := mapS_at hx
      have ex : x = .str r.t := ex
      subst ex
      have hj := (List.getElem?_eq_some_iff.mp hr).1
      have hPr := hP r (List.mem_of_getElem? hr)
      have hrt := GRow.tl hPr.ok.1
      walk_at "wp"
      walk_at "go"
      refine n_split (a := r.t) (b := Str.ofString " ") w (by omega) (by decide +kernel) fun p2 H2 w hp2 => ?_
      rw [g_words hPr.ok.2] at w
      obtain ⟨F2, w⟩ := w.fzL (p := p2) (by walk_at "pick") hp2
      refine ⟨_, p2, r, rfl, w.fh, sqL_of (w.i (fx p2 (.lst (r.ws.map V.str))) (by walk_at "mem")), hPr, fun t F2 H2 w2 => ?_⟩
      replace w := w.cal .nil w2 (by walk_at "app")
      replace w := w.push (dpa K (ys ++ [.ref t]) ((ls.take (j + 1)).map GRow.d)) (by
        rw [List.take_add_one, hr, List.map_append]
        exact dpa_snoc (w.dpa (by walk_at "mem")) (w.dat (by walk_at "mem")))
      exact n_acc ys w ⟨by rw [List.length_append, hyl]; rfl, rfl⟩ (by walk_at "pk") (small_lt (by omega))
    obtain ⟨hyl, rfl⟩ := hp
    rw [List.length_map, List.length_map, List.take_length] at w
    exact q D ys _ _ hD (w.to (by walk_at "pick"))
-- _law_bag
theorem ok_law_bag {f : Addr} {fd : FuncData} (F : FunD K "_law_bag" "_law_bag" (defArgs s_law_bag) (defBody s_law_bag) (defScope s_law_bag) [] [] f fd) (T : Txt K mg)  : FnOk P w K mg base CX0 1 f fd ["script"] (S1 (φbag K)) := by
  refine F.ok sc_law_bag (fun vs H Q E h => ?_) (fun cdv A outer s H vs Q E hr h => ?_)
  · exact S1.len h
  · match vs, h with
    | [v0], h =>
    have hu := hu_of hr
    refine ⟨_, PSs.nox (pss_cons (ps_set (i := 1) sc_law_bag.nd rfl (.inl rfl) pe_int)
      (pss_cons (ps_for PassesOwn.never rfl (pi_list (pe_slice (slL (K := K)) (pv 0) po_none (po_some pe_int))) (pg_name (i := 2) sc_law_bag.nd rfl (.inl rfl)) (pss_one (ps_set (i := 1) sc_law_bag.nd rfl (.inl rfl) (pe_op op_mod (pe_op op_add (pe_op op_add (pe_op op_mul (pv 1) pe_int) (pe_op op_mod (pv 2) pe_int)) pe_int) pe_int))))
      (pss_one (ps_ret (pe_lst (pa_cons (pe_lc (own := [("cell", 2)]) (g := gName 2) rfl sc_law_bag.nd (pi_list (pe_slice (slL (K := K)) (pv 0) po_none (po_some pe_int))) (blkOk_by (own := [("cell", 2)]) (N := ["script", "stir", "cell"]) (sc := defScope s_law_bag) (by decide +kernel)) (fun _ _ _ _ _ => pg_name (i := 2) sc_law_bag.nd rfl (Or.inl rfl)) (fun _ _ _ _ _ => pts_nil) (fun _ _ _ _ _ => (pe_op op_mod (pe_callB clAbs (by rfl) T.b_abs (by decide +kernel) (pa_cons (pv 2) pa_nil)) (pe_op op_pow pe_int pe_int)))) (pa_cons pe_int (pa_cons pe_int (pa_cons (pv 1) (pa_cons pe_int pa_nil)))))))))), ?_⟩
    rw [show start ["script", "stir", "cell"] [v0] = [some v0, none, none] from rfl]
    obtain ⟨a, ns, rfl, hS, hl, q⟩ := h
    walk_at "og"
    intro l nl
    rw [cut63 hl]
    refine ⟨l, rfl, ⟨_, sqL_of upd_same⟩, f_list (xs := ns.map V.int) (fun i σ H' => ∃ (st : Int) (y : Option V), σ = [some (.ref a), some (.int st), y] ∧ 0 ≤ st ∧ st < 2147483647 ∧ H' = upd H l (.lst (ns.map V.int))) ⟨19, none, rfl, by decide, by decide, rfl⟩ (fun i σ H' _ hp => ?_) (fun i x σ H' hx hp => ?_) (fun σ H' hp => ?_)⟩
    · obtain ⟨st, y, _, _, _, rfl⟩ := hp
      exact sqL_of upd_same
    · obtain ⟨st, y, rfl, s0, s1, rfl⟩ := hp
      obtain ⟨z, rfl⟩ := map_get hx
      walk_at "og"
      exact ⟨_, _, rfl, mod_nn (by decide), mod_lt (by decide), rfl⟩
    · obtain ⟨st, y, rfl, s0, s1, rfl⟩ := hp
      have hS2 : SqL K (upd H l (.lst (ns.map V.int))) a (ns.map V.int) := sqL_same (Same.new nl) hS
      walk_at "og"
      intro l2 nl2
      rw [cut63 hl]
      have g0 : Gr [] H H H (upd H l (.lst (ns.map V.int))) := .new (Same.refl H) nl
      have g1 := g0.add (o := .lst (ns.map V.int)) nl2
      refine ⟨l2, rfl, ⟨_, sqL_of upd_same⟩, fun D nD => ?_⟩
      have g2 := g1.addm (o := .lst []) nD
      refine lc_list (xs := ns.map V.int) (fun i H' => ∃ vs : List Int, Gr [] H H (upd H l2 (.lst (ns.map V.int))) H' ∧ Mu (upd H l2 (.lst (ns.map V.int))) H' D (.lst (vs.map V.int)) ∧ (∀ x ∈ vs, 0 ≤ x ∧ x < 10 ^ 60) ∧ vs.length = i) ⟨[], g2, Mu.new g1.fh nD, by simp, rfl⟩ (fun i H' _ hp => ?_) (fun i x H' hx hp => ?_) (fun H' hp => ?_)
      · obtain ⟨vs, g, _⟩ := hp
        exact sqL_same g.fh (sqL_of upd_same)
      · obtain ⟨vs, g, mu, hv, hn⟩ := hp
        obtain ⟨z, rfl⟩ := map_get hx
        have hi : i < ns.length := by
          have := (List.getElem?_eq_some_iff.mp hx).1
          rwa [List.length_map] at this
        show gName 2 _ [some (.ref a), some (.int st), none] H' _
        walk_at "og"
        refine ⟨rfl, ?_⟩
        walk_at "og"
        refine ⟨_, mu.h, small1000 (by rw [List.length_map]; omega), vs ++ [_], g.wrn mu.n (g1.fresh nD), by rw [List.map_append]; exact mu.wr, ?_, by simp [hn]⟩
        intro x hx
        rcases List.mem_append.mp hx with hx | hx
        · exact hv x hx
        · rw [List.mem_singleton.mp hx]
          exact ⟨mod_nn (by decide), mod_lt (by decide)⟩
      · obtain ⟨vs, g, mu, hv, hn⟩ := hp
        walk_at "og"
        refine ⟨le1000 (by simp), fun p np => ?_⟩
        have g5 := (g.frz (g1.fresh nD) mu).addm (o := .lst [.ref D, .int 0, .int 0, .int st, .int 0]) np
        refine q p _ _ g5 ⟨D, vs, 0, 0, st, 0, ?_, upd_same, sqL_of upd_same, by rw [hn, List.length_map]; exact hl, hv, by decide, by decide, by decide, s0, s1⟩
        have nF := g.fh.free np
        rw [upd_ne (mu.ne_new np).symm]
        exact nF
-- _law_stirred
theorem ok_law_stirred {f : Addr} {fd : FuncData} (F : FunD K "_law_stirred" "_law_stirred" (defArgs s_law_stirred) (defBody s_law_stirred) (defScope s_law_stirred) [] [] f fd) (T : Txt K mg)  : FnOk P w K mg base CX0 1 f fd ["bag", "many"] (S2 (φdraw K)) := by
  refine F.ok sc_law_stirred (fun vs H Q E h => ?_) (fun cdv A outer s H vs Q E hr h => ?_)
  · exact S2.len h
  · match vs, h with
    | [v0, v1], h =>
    have hu := hu_of hr
    refine ⟨_, PSs.nox (pss_cons (ps_set (i := 2) sc_law_stirred.nd rfl (.inl rfl) pe_int)
      (pss_cons (ps_for PassesOwn.never rfl (pi_range1 rfl T.b_range (pa_cons (pe_op op_add pe_int (pe_op op_fdivW (pe_bits (pv 1)) pe_int)) pa_nil)) (pg_name (i := 3) sc_law_stirred.nd rfl (.inl rfl)) (pss_cons (ps_asg (pe_op op_add (pe_ix (ixL (K := K)) (pv 0) pe_int (fun _ _ => rfl)) pe_int) (pg_sub (pv 0) pe_int set_list))
      (pss_cons (ps_asg (pe_op op_mod (pe_op op_add (pe_op op_add (pe_op op_add (pe_op op_pow (pe_ix (ixL (K := K)) (pv 0) pe_int (fun _ _ => rfl)) pe_int) (pe_op op_mul pe_int (pe_ix (ixL (K := K)) (pv 0) pe_int (fun _ _ => rfl)))) (pe_op op_mul pe_int (pe_ix (ixL (K := K)) (pv 0) pe_int (fun _ _ => rfl)))) pe_int) pe_int) (pg_sub (pv 0) pe_int set_list))
      (pss_one (ps_set (i := 2) sc_law_stirred.nd rfl (.inl rfl) (pe_op op_add (pe_op op_mul (pv 2) pe_int) (pe_op op_fdivW (pe_ix (ixL (K := K)) (pv 0) pe_int (fun _ _ => rfl)) pe_int)))))))
      (pss_one (ps_ret (pe_op op_mod (pv 2) (pv 1)))))), ?_⟩
    rw [show start ["bag", "many", "found", "k"] [v0, v1] = [some v0, some v1, none, none] from rfl]
    obtain ⟨b, m, F, rfl, rfl, hw, hb, h0, h1, q⟩ := h
    have hbits := bits_le h0 h1
    have hb0 : (0 : Int) ≤ (Builtin.Int.intBits m : Nat) := Int.natCast_nonneg _
    have hd0 : (0 : Int) ≤ (Builtin.Int.intBits m : Nat) / 27 := div_nn hb0 (by decide)
    have hd1 : (Builtin.Int.intBits m : Int) / 27 ≤ (Builtin.Int.intBits m : Nat) := div_le' hb0 (by decide)
    walk_at "og"
    refine ⟨_, rfl, by omega, by omega, f_range0 (fun i σ H' => ∃ (f : Int) (y : Option V) (F2 : Hp), σ = [some (.ref b), some (.int m), some (.int f), y] ∧ Gr [b] F H F2 H' ∧ Bag K F2 H' b) ⟨0, none, F, rfl, .refl hw, hb⟩ (fun i σ H' hi hp => ?_) (fun σ H' hp => ?_)⟩
    · obtain ⟨f, y, F2, rfl, g, hB⟩ := hp
      obtain ⟨c, cells, i1, cur, st, n, e1, e2, e3, e4, e5, e6, e7, e8, e9, e10⟩ := hB.ex
      walk_at "og"
      exact ⟨_, _, F2, rfl, (g.put e1 (by simp)).put e1 (by simp), ⟨c, cells, i1, cur, _, _, e1, upd_same, e3, e4, e5, e6, e7, e8, mod_nn (by decide), mod_lt (by decide)⟩⟩
    · obtain ⟨f, y, F2, rfl, g, hB⟩ := hp
      walk_at "og"
      exact q _ F2 H' g hB (mod_nn h0) (mod_lt h0)
-- _law_draw
theorem ok_law_draw {f : Addr} {fd : FuncData} (F : FunD K "_law_draw" "_law_draw" (defArgs s_law_draw) (defBody s_law_draw) (defScope s_law_draw) [] [] f fd) (T : Txt K mg) (D_law_stirred : DO P w K mg base 1 "_law_stirred" ["bag", "many"] [] (S2 (φdraw K))) : FnOk P w K mg base CX0 2 f fd ["bag", "many"] (S2 (φdraw K)) := by
  refine F.ok sc_law_draw (fun vs H Q E h => ?_) (fun cdv A outer s H vs Q E hr h => ?_)
  · exact S2.len h
  · match vs, h with
    | [v0, v1], h =>
    have hu := hu_of hr
    refine ⟨_, PSs.nox (pss_cons (ps_if (PW.pt (pw_and (pt_cmpR op_eq (pe_ix (ixL (K := K)) (pv 0) pe_int (fun _ _ => rfl)) pe_int (nomark _)) (pw_and1 (pt_cmpR op_lt (pe_ix (ixL (K := K)) (pv 0) pe_int (fun _ _ => rfl)) (pe_callB (clLenQ (K := K)) (by rfl) T.b_len (by decide +kernel) (pa_cons (pe_ix (ixL (K := K)) (pv 0) pe_int (fun _ _ => rfl)) pa_nil)) (nomark _))))) (pss_cons (ps_asg (pe_ix (ixL (K := K)) (pe_ix (ixL (K := K)) (pv 0) pe_int (fun _ _ => rfl)) (pe_ix (ixL (K := K)) (pv 0) pe_int (fun _ _ => rfl)) (fun _ _ => rfl)) (pg_sub (pv 0) pe_int set_list))
      (pss_one (ps_asg (pe_op op_add (pe_ix (ixL (K := K)) (pv 0) pe_int (fun _ _ => rfl)) pe_int) (pg_sub (pv 0) pe_int set_list)))) (pss_one (ps_if (pt_cmpR op_eq (pe_ix (ixL (K := K)) (pv 0) pe_int (fun _ _ => rfl)) pe_int (nomark _)) (pss_one (ps_ret (pcall D_law_stirred hr (pa_cons (pv 0) (pa_cons (pv 1) pa_nil))))) pss_nil)))
      (pss_cons (ps_set (i := 2) sc_law_draw.nd rfl (.inl rfl) (pe_op op_mod (pe_ix (ixL (K := K)) (pv 0) pe_int (fun _ _ => rfl)) (pv 1)))
      (pss_cons (ps_asg (pe_op op_fdivW (pe_ix (ixL (K := K)) (pv 0) pe_int (fun _ _ => rfl)) (pv 1)) (pg_sub (pv 0) pe_int set_list))
      (pss_one (ps_ret (pv 2)))))), ?_⟩
    rw [show start ["bag", "many", "found"] [v0, v1] = [some v0, some v1, none] from rfl]
    obtain ⟨b, m, F, rfl, rfl, hw, hb, h0, h1, q⟩ := h
    obtain ⟨c, cells, i1, cur, st, n, e1, e2, e3, e4, e5, e6, e7, e8, e9, e10⟩ := hb.ex
    have e3' := sqL_same hw e3
    have gr := Gr.refl (M := [b]) hw
    walk_at "og"
    refine w_ite (fun hc => ?_) (fun hc => ?_)
    · walk_at "og"
      refine w_ite (fun hd => ?_) (fun hd => ?_)
      · obtain ⟨x, hx, ex⟩ := cell_at e6 hd
        have bx := e5 x hx
        walk_at "og"
        refine w_ixL _ _ e3' ex ?_
        walk_at "og"
        exact q _ F _ (((gr.put e1 (by simp)).put e1 (by simp)).put e1 (by simp)) ⟨c, cells, i1 + 1, x / m, st, n, e1, upd_same, e3, e4, e5, by omega, div_nn bx.1 h0, Int.lt_of_le_of_lt (div_le' bx.1 h0) bx.2, e9, e10⟩ (mod_nn h0) (mod_lt h0)
      · walk_at "og"
        refine w_iteT hc ?_
        walk_at "og"
        exact ⟨b, m, F, rfl, rfl, hw, hb, h0, h1, q⟩
    · walk_at "og"
      refine w_iteF hc ?_
      walk_at "og"
      exact q _ F _ (gr.put e1 (by simp)) ⟨c, cells, i1, cur / m, st, n, e1, upd_same, e3, e4, e5, e6, div_nn e7 h0, Int.lt_of_le_of_lt (div_le' e7 h0) e8, e9, e10⟩ (mod_nn h0) (mod_lt h0)
-- _law_alike
theorem ok_law_alike {f : Addr} {fd : FuncData} (F : FunD K "_law_alike" "_law_alike" (defArgs s_law_alike) (defBody s_law_alike) (defScope s_law_alike) [] [] f fd) (T : Txt K mg) {n : Nat} (D_law_alike : DO P w K mg base n "_law_alike" ["found", "due"] [] (S2 (φalike K n))) : FnOk P w K mg base CX0 (n + 1) f fd ["found", "due"] (S2 (φalike K (n + 1))) := by
  refine F.ok sc_law_alike (fun vs H Q E h => ?_) (fun cdv A outer s H vs Q E hr h => ?_)
  · exact S2.len h
  · match vs, h with
    | [v0, v1], h =>
    have hu := hu_of hr
    refine ⟨_, PSs.nox (pss_cons (ps_if (pt_val (pe_callB (clIsiT (K := K)) (by rfl) T.b_isinstance (by decide +kernel) (pa_cons (pv 1) (pa_cons (pe_tup (pa_cons (pe_bltn (v := .ty "list") (by rfl) T.b_list (by decide +kernel) rfl) (pa_cons (pe_bltn (v := .ty "tuple") (by rfl) T.b_tuple (by decide +kernel) rfl) pa_nil))) pa_nil)))) (pss_cons (ps_if (PW.pt (pw_or (pt_not (pt_val (pe_callB (clIsiT (K := K)) (by rfl) T.b_isinstance (by decide +kernel) (pa_cons (pv 0) (pa_cons (pe_tup (pa_cons (pe_bltn (v := .ty "list") (by rfl) T.b_list (by decide +kernel) rfl) (pa_cons (pe_bltn (v := .ty "tuple") (by rfl) T.b_tuple (by decide +kernel) rfl) pa_nil))) pa_nil))))) (pw_or1 (pt_cmpR op_ne (pe_callB (clIsi (K := K)) (by rfl) T.b_isinstance (by decide +kernel) (pa_cons (pv 0) (pa_cons (pe_bltn (v := .ty "list") (by rfl) T.b_list (by decide +kernel) rfl) pa_nil))) (pe_callB (clIsi (K := K)) (by rfl) T.b_isinstance (by decide +kernel) (pa_cons (pv 1) (pa_cons (pe_bltn (v := .ty "list") (by rfl) T.b_list (by decide +kernel) rfl) pa_nil))) (nomark _))))) (pss_one (ps_ret pe_bl)) pss_nil)
      (pss_cons (ps_if (pt_cmpR op_ne (pe_callB (clLenQ (K := K)) (by rfl) T.b_len (by decide +kernel) (pa_cons (pv 0) pa_nil)) (pe_callB (clLenQ (K := K)) (by rfl) T.b_len (by decide +kernel) (pa_cons (pv 1) pa_nil)) (nomark _)) (pss_one (ps_ret pe_bl)) pss_nil)
      (pss_one (ps_ret (pe_callB (clAll (K := K)) (by rfl) T.b_all (by decide +kernel) (pa_cons (pe_lc (own := [("k", 2)]) (g := gName 2) rfl sc_law_alike.nd (pi_range1 rfl T.b_range (pa_cons (pe_callB (clLenQ (K := K)) (by rfl) T.b_len (by decide +kernel) (pa_cons (pv 1) pa_nil)) pa_nil)) (blkOk_by (own := [("k", 2)]) (N := ["found", "due", "k"]) (sc := defScope s_law_alike) (by decide +kernel)) (fun _ _ _ _ _ => pg_name (i := 2) sc_law_alike.nd rfl (Or.inl rfl)) (fun _ _ _ _ _ => pts_nil) (fun _ _ _ _ _ => (pcall D_law_alike hr (pa_cons (pe_ix (ixQ (K := K)) (pv 0) (pv 2) (fun _ _ => rfl)) (pa_cons (pe_ix (ixQ (K := K)) (pv 1) (pv 2) (fun _ _ => rfl)) pa_nil))))) pa_nil)))))) pss_nil)
      (pss_cons (ps_if (PW.pt (pw_or (pt_cmpR op_ne (pe_callB (clIsi (K := K)) (by rfl) T.b_isinstance (by decide +kernel) (pa_cons (pv 0) (pa_cons (pe_bltn (v := .ty "bool") (by rfl) T.b_bool (by decide +kernel) rfl) pa_nil))) (pe_callB (clIsi (K := K)) (by rfl) T.b_isinstance (by decide +kernel) (pa_cons (pv 1) (pa_cons (pe_bltn (v := .ty "bool") (by rfl) T.b_bool (by decide +kernel) rfl) pa_nil))) (nomark _)) (pw_or1 (pt_cmpR op_ne (pe_callB (clIsi (K := K)) (by rfl) T.b_isinstance (by decide +kernel) (pa_cons (pv 0) (pa_cons (pe_bltn (v := .ty "int") (by rfl) T.b_int (by decide +kernel) rfl) pa_nil))) (pe_callB (clIsi (K := K)) (by rfl) T.b_isinstance (by decide +kernel) (pa_cons (pv 1) (pa_cons (pe_bltn (v := .ty "int") (by rfl) T.b_int (by decide +kernel) rfl) pa_nil))) (nomark _))))) (pss_one (ps_ret pe_bl)) pss_nil)
      (pss_one (ps_ret (pe_and (pe_cmpR op_eq (pe_callB (clIsi (K := K)) (by rfl) T.b_isinstance (by decide +kernel) (pa_cons (pv 0) (pa_cons (pe_bltn (v := .ty "str") (by rfl) T.b_str (by decide +kernel) rfl) pa_nil))) (pe_callB (clIsi (K := K)) (by rfl) T.b_isinstance (by decide +kernel) (pa_cons (pv 1) (pa_cons (pe_bltn (v := .ty "str") (by rfl) T.b_str (by decide +kernel) rfl) pa_nil))) (nomark _)) (pe_one (pe_cmpR op_eq (pv 0) (pv 1) (nomark _)))))))), ?_⟩
    rw [show start ["found", "due", "k"] [v0, v1] = [some v0, some v1, none] from rfl]
    obtain ⟨F, d, hw, hx, hy, hn, hgd, q⟩ := h
    walk_at "og"
    refine ⟨le1000 (by simp), fun p np => ?_⟩
    have g1 : Gr [] F H F (upd H p (.tup [.ty "list", .ty "tuple"])) := .new hw np
    walk_at "og"
    refine u_isiT hy g1.fh upd_same (k_list d) (k_tuple d) ?_
    walk_at "og"
    cases hs : isSeq d with
    | false =>
      have e1 : isLst d = false := by cases d <;> first | rfl | cases hs
      have e2 : isTup d = false := by cases d <;> first | rfl | cases hs
      refine w_is (c := false) (by rw [e1, e2]; rfl) ?_
      obtain ⟨rfl, hsc⟩ := sca_of hx hy hs
      walk_at "og"
      refine u_isi hx g1.fh (k_bool d) ?_
      walk_at "og"
      refine u_isi hy g1.fh (k_bool d) ?_
      walk_at "og"
      refine u_isi hx g1.fh (k_int d) ?_
      walk_at "og"
      refine u_isi hy g1.fh (k_int d) ?_
      walk_at "og"
      refine u_isi hx g1.fh (k_str d) ?_
      walk_at "og"
      refine u_isi hy g1.fh (k_str d) ?_
      walk_at "og"
      refine ⟨hsc, ?_⟩
      rw [decide_eq_true rfl]
      exact q F _ g1
    | true =>
      refine w_is (c := true) (by cases d <;> first | rfl | cases hs) ?_
      obtain ⟨a, vs, rfl, ha, das⟩ := seq_of hx hs
      obtain ⟨b, us, rfl, hb, dbs⟩ := seq_of hy hs
      have hl : (itemsD d).length ≤ 100000 := good_len hgd
      walk_at "og"
      refine ⟨le1000 (by simp), fun p2 np2 => ?_⟩
      have g2 := g1.addm (o := .tup [.ty "list", .ty "tuple"]) np2
      walk_at "og"
      refine u_isiT hx g2.fh upd_same (k_list d) (k_tuple d) ?_
      walk_at "og"
      refine w_is (c := false) (by cases d <;> first | rfl | cases hs) ?_
      walk_at "og"
      refine u_isi hx g2.fh (k_list d) ?_
      walk_at "og"
      refine u_isi hy g2.fh (k_list d) ?_
      walk_at "og"
      refine ⟨a, vs, rfl, sq_same g2.fh ha, ?_⟩
      walk_at "og"
      refine ⟨b, us, rfl, sq_same g2.fh hb, ?_⟩
      walk_at "og"
      have el : vs.length = us.length := (dpa_len das).trans (dpa_len dbs).symm
      have lv : vs.length = (itemsD d).length := dpa_len das
      rw [el]
      refine w_nself ?_
      walk_at "og"
      refine ⟨b, us, rfl, sq_same g2.fh hb, ?_⟩
      walk_at "og"
      refine ⟨_, rfl, by omega, by omega, fun D nD => ?_⟩
      have g3 := g2.addm (o := .lst []) nD
      refine lc_rng (fun i H' => ∃ F2, Gr [] F H F2 H' ∧ Mu F2 H' D (.lst ((List.replicate i true).map V.bl))) ⟨F, g3, Mu.new g2.fh nD⟩ (fun i H' hi hp => ?_) (fun H' hp => ?_)
      · obtain ⟨F2, g, mu⟩ := hp
        have hi' : i < us.length := by omega
        have hid : (itemsD d)[i]? = some (itemsD d)[i] := List.getElem?_eq_getElem (by omega)
        obtain ⟨v, gv, dv⟩ := dpa_get das hid
        obtain ⟨u, gu, du⟩ := dpa_get dbs hid
        have hdep := depth_item hs hid
        show gName 2 _ [some (.ref a), some (.ref b), none] H' _
        walk_at "og"
        refine ⟨rfl, ?_⟩
        walk_at "og"
        have wF : Same F H' := g.ff.trans g.fh
        refine w_ixQ _ _ (sq_same wF ha) (atI_nat gv) ?_
        walk_at "og"
        refine w_ixQ _ _ (sq_same wF hb) (atI_nat gu) ?_
        walk_at "og"
        refine ⟨F2, _, g.fh, dp_same g.ff _ _ dv, dp_same g.ff _ _ du, by omega, good_item hgd hid, fun F3 H3 g3 => ?_⟩
        have mu3 := g3.mu0 mu
        refine ⟨_, mu3.h, small_lt (by rw [List.length_map, List.length_replicate]; omega), F3, (g.trans g3).wrn mu3.n (g2.fresh nD), ?_⟩
        rw [List.replicate_succ', List.map_append]
        exact mu3.wr
      · obtain ⟨F2, g, mu⟩ := hp
        walk_at "og"
        refine ⟨D, _, rfl, mu.sq, ?_⟩
        rw [all_rep]
        exact q F2 H' g
-- _law_signs
theorem ok_law_signs {f : Addr} {fd : FuncData} (F : FunD K "_law_signs" "_law_signs" (defArgs s_law_signs) (defBody s_law_signs) (defScope s_law_signs) [] [] f fd) (T : Txt K mg)  : FnOk P w K mg base CX0 1 f fd [] (S0 φsigns) := by
  refine F.ok sc_law_signs (fun vs H Q E h => ?_) (fun cdv A outer s H vs Q E hr h => ?_)
  · exact S0.len h
  · match vs, h with
    | [], h =>
    have hu := hu_of hr
    refine ⟨_, PSs.nox (pss_cons (ps_set (i := 0) sc_law_signs.nd rfl (.inl rfl) pe_str)
      (pss_one (ps_ret (pe_op opAddS (pv 0) pe_str)))), ?_⟩
    rw [show start ["some"] [] = [none] from rfl]
    have q : Q (.str sig93) H := h
    walk_at "go"
    exact q
-- _law_text
theorem ok_law_text {f : Addr} {fd : FuncData} (F : FunD K "_law_text" "_law_text" (defArgs s_law_text) (defBody s_law_text) (defScope s_law_text) [] [] f fd) (T : Txt K mg) (D_law_draw : DO P w K mg base 2 "_law_draw" ["bag", "many"] [] (S2 (φdraw K))) (D_law_signs : DO P w K mg base 1 "_law_signs" [] [] (S0 φsigns)) : FnOk P w K mg base CX0 3 f fd ["bag", "size"] (S2 (φtextC K)) := by
  refine F.ok sc_law_text (fun vs H Q E h => ?_) (fun cdv A outer s H vs Q E hr h => ?_)
  · exact S2.len h
  · match vs, h with
    | [v0, v1], h =>
    have hu := hu_of hr
    refine ⟨_, PSs.nox (pss_cons (ps_set (i := 2) sc_law_text.nd rfl (.inr rfl) (pe_ix (ixL (K := K)) (pe_lst (pa_cons pe_int (pa_cons pe_int (pa_cons pe_int (pa_cons pe_int pa_nil))))) (pcall D_law_draw hr (pa_cons (pv 0) (pa_cons pe_int pa_nil))) (fun _ _ => rfl)))
      (pss_cons (ps_set (i := 3) sc_law_text.nd rfl (.inr rfl) (pcall D_law_draw hr (pa_cons (pv 0) (pa_cons pe_int pa_nil))))
      (pss_cons (ps_set (i := 4) sc_law_text.nd rfl (.inr rfl) (pcall0 D_law_signs hr))
      (pss_one (ps_ret (peJoin (K := K) pe_str (pe_lc (own := [("k", 5)]) (g := gName 5) rfl sc_law_text.nd (pi_range1 rfl T.b_range (pa_cons (pv 1) pa_nil)) (blkOk_by (own := [("k", 5)]) (N := ["bag", "size", "few", "first", "some", "k"]) (sc := defScope s_law_text) (by decide +kernel)) (fun _ _ _ _ _ => pg_name (i := 5) sc_law_text.nd rfl (Or.inl rfl)) (fun _ _ _ _ _ => pts_nil) (fun _ _ _ _ _ => (pe_ix ix_str (pv 4) (pe_op op_mod (pe_op op_add (pv 3) (pcall D_law_draw hr (pa_cons (pv 0) (pa_cons (pv 2) pa_nil)))) pe_int) (fun _ _ => rfl)))))))))), ?_⟩
    rw [show start ["bag", "size", "few", "first", "some", "k"] [v0, v1] = [some v0, some v1, none, none, none, none] from rfl]
    obtain ⟨F, b, n, rfl, rfl, s0, n0, n1, q⟩ := h
    have w := s0.w (M := [b])
    walk_at "go"
    refine n_lst w (szle (by simp)) fun p1 F1 H1 w hp1 => ?_
    walk_at "go"
    refine n_draw w (by walk_at "pick") (by decide) (by decide) fun r F1 H1 w r0 r1 => ?_
    obtain ⟨wd, ew, wd0, wd1⟩ := pick_ix (ns := [93, 93, 2, 3]) (lo := 2) (hi := 93) r0 r1 (by decide)
    walk_at "go"
    refine w_ixL _ _ (by walk_at "sq") ew ?_
    walk_at "go"
    refine n_draw w (by walk_at "pick") (by omega) (by omega) fun first F1 H1 w f0 f1 => ?_
    walk_at "go"
    refine n_signs ?_
    walk_at "go"
    refine n_lcR w (fun i ys L => ∃ zs : List Str, ys = zs.map V.str ∧ zs.length = i ∧ (∀ y ∈ zs, y.length = 1 ∧ clean y) ∧ L = [bag K b]) ⟨[], rfl, rfl, by simp, rfl⟩ (fun i ys L F' H' D hi hp w hD => ?_) (fun D ys L F' H' hp w hD => ?_)
    · obtain ⟨zs, rfl, hz, hy, rfl⟩ := hp
      walk_at "wp"
      walk_at "go"
      refine n_draw w (by walk_at "pick") (by omega) (by omega) fun r F1 H1 w r0 r1 => ?_
      walk_at "go"
      have m0 := mod_nn (a := first + r) (b := 93) (by decide)
      have m1 := mod_lt (a := first + r) (b := 93) (by decide)
      refine w_ixLC (n := 93) sig_clean (by rw [sig_len]; rfl) (by rw [sig_len]; decide) m0 m1 fun s hs oks => ?_
      refine n_acc _ w ⟨zs ++ [s], by rw [List.map_append]; rfl, by simp [hz], ?_, rfl⟩ (by walk_at "pk") (small_lt (by rw [List.length_map]; omega))
      intro y hy'
      rcases List.mem_append.mp hy' with h | h
      · exact hy y h
      · rw [List.mem_singleton.mp h]
        exact ⟨hs, oks⟩
    · obtain ⟨zs, rfl, hz, hy, rfl⟩ := hp
      refine ⟨_, D, zs, rfl, rfl, .inl (by walk_at "sq"), ?_, ?_⟩
      · rw [sum_ones zs fun y h => ⟨(hy y h).1, clean_ok (hy y h).2⟩]
        show zs.length + zs.length * 0 ≤ 16777216
        omega
      · obtain ⟨j1, j2⟩ := joinedC zs hy
        exact q _ F' H' (by walk_at "w") (by
          show (((Txt.join ⟨#[]⟩ zs).length : Nat) : Int) = n
          rw [j1, hz]
          omega) j2
-- _law_row
theorem ok_law_row {f : Addr} {fd : FuncData} (F : FunD K "_law_row" "_law_row" (defArgs s_law_row) (defBody s_law_row) (defScope s_law_row) [] [] f fd) (T : Txt K mg) (D_law_draw : DO P w K mg base 2 "_law_draw" ["bag", "many"] [] (S2 (φdraw K))) (D_law_text : DO P w K mg base 3 "_law_text" ["bag", "size"] [] (S2 (φtextC K))) : FnOk P w K mg base CX0 4 f fd ["bag", "size", "left", "last"] (S4 (φrowC K)) := by
  refine F.ok sc_law_row (fun vs H Q E h => ?_) (fun cdv A outer s H vs Q E hr h => ?_)
  · exact S4.len h
  · match vs, h with
    | [v0, v1, v2, v3], h =>
    have hu := hu_of hr
    refine ⟨_, PSs.nox (pss_cons (ps_set (i := 4) sc_law_row.nd rfl (.inl rfl) (pcall D_law_draw hr (pa_cons (pv 0) (pa_cons pe_int pa_nil))))
      (pss_cons (ps_set (i := 5) sc_law_row.nd rfl (.inl rfl) (pe_ix (ixL (K := K)) (pe_lst (pa_cons pe_int (pa_cons pe_int (pa_cons pe_int pa_nil)))) (pcall D_law_draw hr (pa_cons (pv 0) (pa_cons pe_int pa_nil))) (fun _ _ => rfl)))
      (pss_cons (ps_if (PW.pt (pw_or (pt_cmpR op_eq (pv 4) pe_int (nomark _)) (pw_or1 (pt_cmpR op_eq (pv 1) pe_int (nomark _))))) (pss_one (ps_ret (pe_tup (pa_cons pe_str (pa_cons (pcall D_law_text hr (pa_cons (pv 0) (pa_cons (pe_op op_add pe_int (pcall D_law_draw hr (pa_cons (pv 0) (pa_cons (pe_callB clMin2 (by rfl) T.b_min (by decide +kernel) (pa_cons (pv 2) (pa_cons (pv 5) pa_nil))) pa_nil)))) pa_nil))) pa_nil))))) pss_nil)
      (pss_cons (ps_set (i := 6) sc_law_row.nd rfl (.inl rfl) (pcall D_law_draw hr (pa_cons (pv 0) (pa_cons (pv 1) pa_nil))))
      (C8.pss_cut (ps_if (PW.pt (pw_and (pt_cmpR op_eq (pv 4) pe_int (nomark _)) (pw_and (pt_cmpR (opNeD (K := K) hr.units) (pv 3) (pe_lst pa_nil) (nomark _)) (pw_and (pt_cmpR op_eq (pe_ix (ixT (K := K)) (pe_ix (ixL (K := K)) (pv 3) pe_int (fun _ _ => rfl)) pe_int (fun _ _ => rfl)) pe_str (nomark _)) (pw_and1 (pt_cmpR op_lt (pe_op op_add (pe_ix (ixT (K := K)) (pe_ix (ixL (K := K)) (pv 3) pe_int (fun _ _ => rfl)) pe_int (fun _ _ => rfl)) (pe_ix (ixT (K := K)) (pe_ix (ixL (K := K)) (pv 3) pe_int (fun _ _ => rfl)) pe_int (fun _ _ => rfl))) (pv 1) (nomark _))))))) (pss_one (ps_set (i := 6) sc_law_row.nd rfl (.inl rfl) (pe_op op_add (pe_ix (ixT (K := K)) (pe_ix (ixL (K := K)) (pv 3) pe_int (fun _ _ => rfl)) pe_int (fun _ _ => rfl)) (pe_ix (ixT (K := K)) (pe_ix (ixL (K := K)) (pv 3) pe_int (fun _ _ => rfl)) pe_int (fun _ _ => rfl))))) pss_nil)
      (pss_one (ps_ret (pe_tup (pa_cons pe_str (pa_cons (pv 6) (pa_cons (pe_op op_add pe_int (pcall D_law_draw hr (pa_cons (pv 0) (pa_cons (pe_callB (call_min3Nu rfl) (by rfl) T.b_min (by decide +kernel) (pa_cons (pv 2) (pa_cons (pe_op op_sub (pv 1) (pv 6)) (pa_cons (pv 5) pa_nil)))) pa_nil)))) pa_nil))))))))))), ?_⟩
    rw [show start ["bag", "size", "left", "last", "way", "wide", "at"] [v0, v1, v2, v3] = [some v0, some v1, some v2, some v3, none, none, none] from rfl]
    obtain ⟨F, b, l, n, left, zs, rfl, rfl, rfl, rfl, s0, hS, hz, hn, l0, l1, q⟩ := h
    have w := (s0.w (M := [b])).push (imL K l zs) hS
    walk_at "go"
    refine n_draw w (by walk_at "pick") (by decide) (by decide) fun way F1 H1 w wy0 wy1 => ?_
    walk_at "go"
    refine n_lst w (szle (by simp)) fun p1 F1 H1 w hp1 => ?_
    walk_at "go"
    refine n_draw w (by walk_at "pick") (by decide) (by decide) fun r F1 H1 w r0 r1 => ?_
    obtain ⟨wd, ew, wd0, wd1⟩ := pick_ix (ns := [3, 9, 400]) (lo := 3) (hi := 400) r0 r1 (by decide)
    walk_at "go"
    refine w_ixL _ _ (by walk_at "sq") ew ?_
    walk_at "go"
    refine w_ite (fun h1 => ?_) (fun h1 => ?_)
    · skip
      walk_at "go"
      obtain ⟨m1, em1⟩ : ∃ m1 : Int, m1 = (if wd < left then wd else left) := ⟨_, rfl⟩
      rw [← em1]
      have hm1 : 1 ≤ m1 ∧ m1 ≤ left := by split at em1 <;> omega
      refine n_draw w (by walk_at "pick") (by omega) (by omega) fun k F1 H1 w k0 k1 => ?_
      walk_at "go"
      refine ⟨_, b, 1 + k, rfl, rfl, w.st (by walk_at "pick"), by omega, by omega, fun s F2 H2 w2 hs okc => ?_⟩
      have oks := clean_ok okc
      replace w := w.calB (by walk_at "pick") w2 (by walk_at "app")
      walk_at "go"
      refine n_tup w (szle (by simp)) fun t F3 H3 w => ?_
      have d2 : F3 t = some (.tup [.str "put", .str s]) := w.i (fx t _) (by walk_at "mem")
      have d3 := dp_cput' (sqT_of (K := K) d2)
      exact q _ (.put s) F3 H3 ((w.push (dat K _ _) d3).to (by walk_at "pick")) ⟨⟨oks, by omega⟩, by show 1 ≤ s.length; omega, Nat.zero_le _⟩ (by show (s.length : Int) ≤ left; omega) okc
    · walk_at "go"
      refine w_ite (fun h2 => ?_) (fun h2 => ?_)
      · skip
        walk_at "go"
        obtain ⟨m1, em1⟩ : ∃ m1 : Int, m1 = (if wd < left then wd else left) := ⟨_, rfl⟩
        rw [← em1]
        have hm1 : 1 ≤ m1 ∧ m1 ≤ left := by split at em1 <;> omega
        refine n_draw w (by walk_at "pick") (by omega) (by omega) fun k F1 H1 w k0 k1 => ?_
        walk_at "go"
        refine ⟨_, b, 1 + k, rfl, rfl, w.st (by walk_at "pick"), by omega, by omega, fun s F2 H2 w2 hs okc => ?_⟩
        have oks := clean_ok okc
        replace w := w.calB (by walk_at "pick") w2 (by walk_at "app")
        walk_at "go"
        refine n_tup w (szle (by simp)) fun t F3 H3 w => ?_
        have d2 : F3 t = some (.tup [.str "put", .str s]) := w.i (fx t _) (by walk_at "mem")
        have d3 := dp_cput' (sqT_of (K := K) d2)
        exact q _ (.put s) F3 H3 ((w.push (dat K _ _) d3).to (by walk_at "pick")) ⟨⟨oks, by omega⟩, by show 1 ≤ s.length; omega, Nat.zero_le _⟩ (by show (s.length : Int) ≤ left; omega) okc
      · walk_at "go"
        refine n_draw w (by walk_at "pick") (by omega) (by omega) fun a' F1 H1 w a0 a1 => ?_
        obtain ⟨an, rfl⟩ : ∃ an : Nat, a' = (an : Int) := ⟨a'.toNat, by omega⟩
        walk_at "go"
        refine n_cut (w.to (D := [imL K l zs, bag K b]) (by walk_at "pick")) (fun σ L => ∃ (a : Nat), σ = [some (.ref b), some (.int (n : Nat)), some (.int left), some (.ref l), some (.int way), some (.int wd), some (.int (a : Nat))] ∧ a < n ∧ L = [imL K l zs, bag K b]) ?_ (fun σ L F' H' hp w => ?_)
        · have fin : ∀ {F1 H1 L}, W [b] F H F1 H1 L → Pk L [imL K l zs, bag K b] → Nx [b] F H (fun σ L => ∃ (a : Nat), σ = [some (.ref b), some (.int (n : Nat)), some (.int left), some (.ref l), some (.int way), some (.int wd), some (.int (a : Nat))] ∧ a < n ∧ L = [imL K l zs, bag K b]) [some (.ref b), some (.int (n : Nat)), some (.int left), some (.ref l), some (.int way), some (.int wd), some (.int (an : Nat))] H1 := fun w k => nx_mk w ⟨an, rfl, by omega, rfl⟩ k
          walk_at "go"
          refine w_ite (fun h3 => ?_) (fun h3 => ?_)
          · walk_at "go"
            refine n_lst w (szle (by simp)) fun p2 F2 H2 w hp2 => ?_
            walk_at "go"
            rcases hz with rfl | ⟨v, rw_, rfl, dr, ro⟩
            · refine u_neD (Same.refl _) (d := .list []) (.lst (by walk_at "sq") .nil) (.lst (by walk_at "sq") .nil) rfl (by decide) ?_
              walk_at "go"
              exact fin w (by walk_at "pk")
            · have d1 : Dp K H2 v rw_.d := dp_same w.ws _ _ dr
              refine ⟨.list [rw_.d], .list [], .lst (by walk_at "sq") (.cons d1 .nil), .lst (by walk_at "sq") .nil, ?_, good_shaped rfl (by decide), ?_⟩
              · have g := crow_good ro.s
                exact good_shaped (good_list (by simp) fun d hd => by rw [List.mem_singleton.mp hd]; exact g.1) (Nat.le_trans (depth_list (n := 1) fun d hd => by rw [List.mem_singleton.mp hd]; exact g.2) (by decide))
              rw [show PyData.eqv (.list [rw_.d]) (.list []) = false from rfl]
              walk_at "go"
              cases rw_ with
              | put s =>
                obtain ⟨pm, rfl, hT⟩ := dp_cput dr
                have hT := sqT_same (K := K) w.ws hT
                walk_at "go"
                exact fin w (by walk_at "pk")
              | copy a k =>
                obtain ⟨pm, rfl, hT⟩ := dp_ccopy dr
                have hT := sqT_same (K := K) w.ws hT
                walk_at "go"
                refine w_ite (fun h4 => ?_) (fun h4 => ?_)
                · walk_at "go"
                  exact nx_mk w ⟨a + k, rfl, by omega, rfl⟩ (by walk_at "pk")
                · walk_at "go"
                  exact fin w (by walk_at "pk")
          · walk_at "go"
            exact fin w (by walk_at "pk")
        obtain ⟨a, rfl, ha, rfl⟩ := hp
        walk_at "go"
        obtain ⟨m1, em1⟩ : ∃ m1 : Int, m1 = min (min left ((n : Int) - (a : Nat))) wd := ⟨_, rfl⟩
        rw [← em1]
        refine n_draw w (by walk_at "pick") (by omega) (by omega) fun k' F1 H1 w k0 k1 => ?_
        obtain ⟨k, ek⟩ : ∃ k : Nat, (k : Int) = 1 + k' := ⟨(1 + k').toNat, by omega⟩
        walk_at "go"
        rw [← ek]
        refine n_tup w (szle (by simp)) fun t F2 H2 w => ?_
        have d2 : F2 t = some (.tup [.str "copy", .int (a : Nat), .int (k : Nat)]) := w.i (fx t _) (by walk_at "mem")
        have d3 := dp_ccopy' (sqT_of (K := K) d2)
        exact q _ (.copy a k) F2 H2 ((w.push (dat K _ _) d3).to (by walk_at "pick")) ⟨trivial, by show 1 ≤ k; omega, by show a + k ≤ n; omega⟩ (by show (k : Int) ≤ left; omega) trivial
-- _law_rows
theorem ok_law_rows {f : Addr} {fd : FuncData} (F : FunD K "_law_rows" "_law_rows" (defArgs s_law_rows) (defBody s_law_rows) (defScope s_law_rows) [] [] f fd) (T : Txt K mg) (D_law_draw : DO P w K mg base 2 "_law_draw" ["bag", "many"] [] (S2 (φdraw K))) (D_law_row : DO P w K mg base 4 "_law_row" ["bag", "size", "left", "last"] [] (S4 (φrowC K))) : FnOk P w K mg base CX0 5 f fd ["bag", "size", "many", "most"] (S4 (φrowsC K)) := by
  refine F.ok sc_law_rows (fun vs H Q E h => ?_) (fun cdv A outer s H vs Q E hr h => ?_)
  · exact S4.len h
  · match vs, h with
    | [v0, v1, v2, v3], h =>
    have hu := hu_of hr
    refine ⟨_, PSs.nox (pss_cons (ps_set (i := 4) sc_law_rows.nd rfl (.inl rfl) (pe_lst pa_nil))
      (pss_cons (ps_set (i := 5) sc_law_rows.nd rfl (.inl rfl) (pv 3))
      (pss_cons (ps_set (i := 6) sc_law_rows.nd rfl (.inl rfl) (pe_ix (ixL (K := K)) (pe_lst (pa_cons pe_int (pa_cons pe_int (pa_cons pe_int (pa_cons pe_int pa_nil))))) (pe_op op_mul (pcall D_law_draw hr (pa_cons (pv 0) (pa_cons pe_int pa_nil))) (pe_callTy clInt1 (by rfl) T.b_int (by decide +kernel) (pa_cons (pe_cmpR op_gt (pv 2) pe_int (nomark _)) pa_nil))) (fun _ _ => rfl)))
      (pss_cons (ps_for PassesOwn.never rfl (pi_range1 rfl T.b_range (pa_cons (pv 2) pa_nil)) (pg_name (i := 7) sc_law_rows.nd rfl (.inl rfl)) (pss_one (ps_if (pt_cmpR op_gt (pv 5) pe_int (nomark _)) (pss_cons (ps_expr (peBM (K := K) PySem.F.plainAttrs_list PySem.F.slot_list_append PySem.F.type_list_append mt_append (pv 4) (pa_cons (pcall D_law_row hr (pa_cons (pv 0) (pa_cons (pv 1) (pa_cons (pe_callB clMin2 (by rfl) T.b_min (by decide +kernel) (pa_cons (pv 5) (pa_cons (pv 6) pa_nil))) (pa_cons (pe_slice (slL (K := K)) (pv 4) (po_some (pe_un un_neg pe_int)) po_none) pa_nil))))) pa_nil)))
      (pss_one (ps_set (i := 5) sc_law_rows.nd rfl (.inl rfl) (pe_op op_sub (pv 5) (pe_ifExp (pt_cmpR op_eq (pe_ix (ixT (K := K)) (pe_ix (ixL (K := K)) (pv 4) (pe_un un_neg pe_int) (fun _ _ => rfl)) pe_int (fun _ _ => rfl)) pe_str (nomark _)) (pe_callB clLenS (by rfl) T.b_len (by decide +kernel) (pa_cons (pe_ix (ixT (K := K)) (pe_ix (ixL (K := K)) (pv 4) (pe_un un_neg pe_int) (fun _ _ => rfl)) pe_int (fun _ _ => rfl)) pa_nil)) (pe_ix (ixT (K := K)) (pe_ix (ixL (K := K)) (pv 4) (pe_un un_neg pe_int) (fun _ _ => rfl)) pe_int (fun _ _ => rfl))))))) pss_nil)))
      (pss_one (ps_ret (pv 4))))))), ?_⟩
    rw [show start ["bag", "size", "many", "most", "rows", "left", "cap", "k"] [v0, v1, v2, v3] = [some v0, some v1, some v2, some v3, none, none, none, none] from rfl]
    obtain ⟨F, b, n, many, most, rfl, rfl, rfl, rfl, s0, hn, y0, y1, m0, m1, q⟩ := h
    have w := s0.w (M := [b])
    walk_at "go"
    refine n_lst w (szle (by simp)) fun f F1 H1 w hf => ?_
    walk_at "go"
    refine n_lst w (szle (by simp)) fun p1 F1 H1 w hp1 => ?_
    walk_at "go"
    refine n_draw w (by walk_at "pick") (by decide) (by decide) fun r F1 H1 w r0 r1 => ?_
    obtain ⟨e, he, e0, e1⟩ : ∃ e : Int, e = (if decide (20 < many) = true then 1 else 0) ∧ 0 ≤ e ∧ e ≤ 1 := ⟨_, rfl, by split <;> omega, by split <;> omega⟩
    walk_at "go"
    rw [← he]
    have hre : 0 ≤ r * e ∧ r * e < 4 := by
      rcases (show e = 0 ∨ e = 1 by omega) with rfl | rfl
      · rw [Int.mul_zero]; omega
      · rw [Int.mul_one]; omega
    walk_at "go"
    obtain ⟨cp, ec, cp0, cp1⟩ := pick_ix (ns := [400, 400, 1, 2]) (i := r * e) (lo := 1) (hi := 400) hre.1 (by show r * e < 4; exact hre.2) (by decide)
    refine w_ixL _ _ (by walk_at "sq") ec ?_
    replace w := w.push (dpa K [] (([] : List CRow).map CRow.d)) .nil
    walk_at "go"
    refine n_forR w (fun i σ L => ∃ (rows : List CRow) (ys : List V) (y7 : Option V), σ = [some (.ref b), some (.int (n : Nat)), some (.int many), some (.int most), some (.ref f), some (.int (most - ((givesL rows : Nat) : Int))), some (.int cp), y7] ∧ ((∀ r ∈ rows, CRowOk n r) ∧ (∀ r ∈ rows, r.cl)) ∧ (givesL rows : Int) ≤ most ∧ ys.length = rows.length ∧
      L = [mu f (.lst ys), dpa K ys (rows.map CRow.d), bag K b]) ⟨[], [], none, by show _ = [_, _, _, _, _, some (V.int (most - ((0 : Nat) : Int))), _, _]; rw [show most - ((0 : Nat) : Int) = most by omega], ⟨by simp, by simp⟩, by show ((0 : Nat) : Int) ≤ most; omega, rfl, rfl⟩ (fun i σ L F' H' hi hp w => ?_) (fun σ L F' H' hp w => ?_)
    · obtain ⟨rows, ys, y7, rfl, ⟨hok, hcl⟩, hg, hyl, rfl⟩ := hp
      have hrl := rows_len (rows := rows) (fun r hr => (hok r hr).p)
      walk_at "go"
      refine w_ite (fun hpos => ?_) (fun hpos => ?_)
      · walk_at "go"
        obtain ⟨m2, em2⟩ : ∃ m2 : Int, m2 = (if cp < most - ((givesL rows : Nat) : Int) then cp else most - ((givesL rows : Nat) : Int)) := ⟨_, rfl⟩
        rw [← em2]
        have hm2 : 1 ≤ m2 ∧ m2 ≤ 400 ∧ m2 ≤ most - ((givesL rows : Nat) : Int) := by split at em2 <;> omega
        clear em2
        have d0 : DpAll K F' ys (rows.map CRow.d) := w.dpa (by walk_at "mem")
        refine n_slL w (by walk_at "sq") fun pl F1 H1 w hpl => ?_
        obtain ⟨F2, w⟩ := w.fzL (p := pl) (by walk_at "pick") hpl
        have d1 : DpAll K F2 ys (rows.map CRow.d) := w.dpa (by walk_at "mem")
        walk_at "go"
        refine ⟨F2, b, pl, n, m2, _, rfl, rfl, rfl, rfl, w.st (by walk_at "pick"), sqL_of (w.i (fx pl _) (by walk_at "mem")), ?_, hn, hm2.1, hm2.2.1, fun v r F3 H3 w3 ro hgl rc => ?_⟩
        · rcases List.eq_nil_or_concat ys with rfl | ⟨us, u, rfl⟩
          · exact .inl (by rw [cut_last]; rfl)
          · refine .inr ⟨u, ?_⟩
            rw [List.concat_eq_append] at d1 hyl ⊢
            rw [cut_last_snoc]
            obtain ⟨r, hr, dr⟩ := dpa_at (i := us.length) (y := u) d1 (by rw [List.getElem?_append_right (Nat.le_refl _), Nat.sub_self]; rfl)
            exact ⟨r, rfl, dr, hok r (List.mem_of_getElem? hr)⟩
        replace w := w.calB (by walk_at "pick") w3 (by walk_at "app")
        walk_at "go"
        refine n_app w (by walk_at "pick") (small_lt (by omega)) fun H4 w => ?_
        walk_at "go"
        have d1 : DpAll K F3 ys (rows.map CRow.d) := w.dpa (by walk_at "mem")
        have d2 : Dp K F3 v r.d := w.dat (by walk_at "mem")
        have d3 := dpa_snoc d1 d2
        rw [show rows.map CRow.d ++ [r.d] = (rows ++ [r]).map CRow.d by rw [List.map_append]; rfl] at d3
        replace w := w.push (dpa K _ _) d3
        have fin : ∀ {g : Int} {H5}, g = (r.gives : Int) → W [b] F H F3 H5 [dpa K (ys ++ [v]) ((rows ++ [r]).map CRow.d), mu f (.lst (ys ++ [v])), bag K b] → Nx [b] F H (fun σ L => ∃ (rows : List CRow) (ys : List V) (y7 : Option V), σ = [some (.ref b), some (.int (n : Nat)), some (.int many), some (.int most), some (.ref f), some (.int (most - ((givesL rows : Nat) : Int))), some (.int cp), y7] ∧ ((∀ r ∈ rows, CRowOk n r) ∧ (∀ r ∈ rows, r.cl)) ∧ (givesL rows : Int) ≤ most ∧ ys.length = rows.length ∧
            L = [mu f (.lst ys), dpa K ys (rows.map CRow.d), bag K b]) [some (.ref b), some (.int (n : Nat)), some (.int many), some (.int most), some (.ref f), some (.int (most - ((givesL rows : Nat) : Int) - g)), some (.int cp), some (.int (i : Nat))] H5 := by
          intro g H5 hgi w
          have e2 : most - ((givesL rows : Nat) : Int) - g = most - ((givesL (rows ++ [r]) : Nat) : Int) := by rw [gives_snoc, hgi]; omega
          rw [e2]
          exact nx_mk w ⟨rows ++ [r], ys ++ [v], _, rfl, ⟨crows_snoc hok ro, crowc_snoc hcl rc⟩, by rw [gives_snoc]; omega, by rw [List.length_append, List.length_append, hyl]; rfl, rfl⟩ (by walk_at "pk")
        cases r with
        | put s =>
          obtain ⟨pm, rfl, hT⟩ := dp_cput d2
          have hT := sqT_same (K := K) w.fh hT
          have hsl := ro.s.2
          refine w_ixL _ _ (by walk_at "sq") (atI_last _ _) ?_
          walk_at "go"
          refine w_ixL _ _ (by walk_at "sq") (atI_last _ _) ?_
          walk_at "go"
          exact fin rfl (by walk_at "w")
        | copy a k =>
          obtain ⟨pm, rfl, hT⟩ := dp_ccopy d2
          have hT := sqT_same (K := K) w.fh hT
          refine w_ixL _ _ (by walk_at "sq") (atI_last _ _) ?_
          walk_at "go"
          refine w_ixL _ _ (by walk_at "sq") (atI_last _ _) ?_
          walk_at "go"
          exact fin rfl (by walk_at "w")
      · walk_at "go"
        exact nx_mk w ⟨rows, ys, _, rfl, ⟨hok, hcl⟩, hg, hyl, rfl⟩ (by walk_at "pk")
    · obtain ⟨rows, ys, y7, rfl, ⟨hok, hcl⟩, hg, hyl, rfl⟩ := hp
      walk_at "go"
      exact q f ys rows F' H' hf (by walk_at "w") ⟨hok, by omega⟩ hg hcl
-- _law_size
theorem ok_law_size {f : Addr} {fd : FuncData} (F : FunD K "_law_size" "_law_size" (defArgs s_law_size) (defBody s_law_size) (defScope s_law_size) [] [] f fd) (T : Txt K mg) (D_law_draw : DO P w K mg base 2 "_law_draw" ["bag", "many"] [] (S2 (φdraw K))) : FnOk P w K mg base CX0 3 f fd ["bag"] (S1 (φsize1 K)) := by
  refine F.ok sc_law_size (fun vs H Q E h => ?_) (fun cdv A outer s H vs Q E hr h => ?_)
  · exact S1.len h
  · match vs, h with
    | [v0], h =>
    have hu := hu_of hr
    refine ⟨_, PSs.nox (pss_one (ps_ret (pcall D_law_draw hr (pa_cons (pv 0) (pa_cons (pe_ix (ixL (K := K)) (pe_lst (pa_cons pe_int (pa_cons pe_int (pa_cons pe_int (pa_cons pe_int (pa_cons pe_int (pa_cons pe_int (pa_cons pe_int (pa_cons pe_int pa_nil))))))))) (pcall D_law_draw hr (pa_cons (pv 0) (pa_cons pe_int pa_nil))) (fun _ _ => rfl)) pa_nil))))), ?_⟩
    rw [show start ["bag"] [v0] = [some v0] from rfl]
    obtain ⟨F, b, rfl, s0, q⟩ := h
    have w := s0.w (M := [b])
    walk_at "go"
    refine n_lst w (szle (by simp)) fun p1 F1 H1 w hp1 => ?_
    walk_at "go"
    refine n_draw w (by walk_at "pick") (by decide) (by decide) fun r F1 H1 w r0 r1 => ?_
    obtain ⟨sz, es, sz0, sz1⟩ := pick_ix (ns := [9, 9, 9, 3, 41, 41, 121, 401]) (lo := 3) (hi := 401) r0 r1 (by decide)
    walk_at "go"
    refine w_ixL _ _ (by walk_at "sq") es ?_
    walk_at "go"
    refine n_draw w (by walk_at "pick") (by omega) (by omega) fun n' F1 H1 w n0 n1 => ?_
    obtain ⟨n, rfl⟩ : ∃ n : Nat, n' = (n : Int) := ⟨n'.toNat, by omega⟩
    exact q n F1 H1 (by walk_at "w") (by omega)
-- _law_same
theorem ok_law_same {f : Addr} {fd : FuncData} (F : FunD K "_law_same" "_law_same" (defArgs s_law_same) (defBody s_law_same) (defScope s_law_same) [] [] f fd) (T : Txt K mg) (D_law_alike : DO P w K mg base 6 "_law_alike" ["found", "due"] [] (S2 (φalike K 6))) : FnOk P w K mg base CX0 10 f fd ["found", "size", "rows"] (S3 (φsame K)) := by
  refine F.ok sc_law_same (fun vs H Q E h => ?_) (fun cdv A outer s H vs Q E hr h => ?_)
  · exact S3.len h
  · match vs, h with
    | [v0, v1, v2], h =>
    have hu := hu_of hr
    refine ⟨_, PSs.nox (pss_cons (ps_if (PW.pt (pw_or (pt_not (pt_val (pe_callB (clIsC T.i_Change) (by rfl) T.b_isinstance (by decide +kernel) (pa_cons (pv 0) (pa_cons (C8.pe_gc (v := .ref (He.ga K "Change")) (by rfl) ⟨_, T.g_Change, rfl⟩) pa_nil))))) (pw_or1 (pt_not (pt_val (pcall D_law_alike hr (pa_cons (peFld (K := K) (pv 0)) (pa_cons (pv 1) pa_nil)))))))) (pss_one (ps_ret pe_bl)) pss_nil)
      (pss_one (ps_ret (pcall D_law_alike hr (pa_cons (peFld (K := K) (pv 0)) (pa_cons (pv 2) pa_nil)))))), ?_⟩
    rw [show start ["found", "size", "rows"] [v0, v1, v2] = [some v0, some v1, some v2] from rfl]
    have kC := T.k_Change
    have kS := T.na_Change_size
    have kR := T.na_Change_rows
    
    obtain ⟨F, a, vs, n, rows, rfl, rfl, hw, hS, hDv, hC, hok, q⟩ := h
    obtain ⟨c, dx, r, us, rfl, hc, hr, hD⟩ := hC
    have w := ((W.start (M := []) hw).push (fx c _) hc).push (fx r (.lst us)) hr
    unfold insC at w
    have gok := crows_good (fun m hm => (hok.ok m hm).s) (show rows.length ≤ 100000 by have := hok.len; omega)
    walk_at "go"
    refine n_isC (by walk_at "at") ?_
    walk_at "go"
    refine ⟨F, .int (n : Nat), w.fh, .int _, .int _, by show (0 : Nat) < 6; decide, rfl, fun F2 H2 g => ?_⟩
    replace w := w.gr0 g
    walk_at "go"
    refine ⟨F2, .list (rows.map CRow.d), w.fh, .lst (sqL_of (w.i (fx r (.lst us)) (by walk_at "mem"))) (w.dpa0 hD), .lst (sqL_same w.ff hS) (w.dpa0 hDv), by have := gok.2; omega, gok.1, fun F3 H3 g3 => ?_⟩
    replace w := w.gr0 g3
    exact q _ _ (by walk_at "w")
-- _law_cells
theorem ok_law_cells {f : Addr} {fd : FuncData} (F : FunD K "_law_cells" "_law_cells" (defArgs s_law_cells) (defBody s_law_cells) (defScope s_law_cells) [] [] f fd) (T : Txt K mg)  : FnOk P w K mg base CX0 1 f fd ["rows"] (S1 (φlcells K)) := by
  refine F.ok sc_law_cells (fun vs H Q E h => ?_) (fun cdv A outer s H vs Q E hr h => ?_)
  · exact S1.len h
  · match vs, h with
    | [v0], h =>
    have hu := hu_of hr
    refine ⟨_, PSs.nox (pss_cons (ps_set (i := 1) sc_law_cells.nd rfl (.inl rfl) (pe_lst pa_nil))
      (pss_cons (ps_for PassesOwn.never rfl (pi_list (pv 0)) (pg_name (i := 2) sc_law_cells.nd rfl (.inr rfl)) (pss_one (ps_if (pt_cmpR op_eq (pe_ix (ixT (K := K)) (pv 2) pe_int (fun _ _ => rfl)) pe_str (nomark _)) (pss_one (ps_set (i := 1) sc_law_cells.nd rfl (.inl rfl) (pe_op op_cat (pv 1) (pe_callTy clListS (by rfl) T.b_list (by decide +kernel) (pa_cons (pe_ix (ixT (K := K)) (pv 2) pe_int (fun _ _ => rfl)) pa_nil))))) (pss_one (ps_set (i := 1) sc_law_cells.nd rfl (.inl rfl) (pe_op op_cat (pv 1) (pe_lc (own := [("k", 3)]) (g := gName 3) rfl sc_law_cells.nd (pi_range1 rfl T.b_range (pa_cons (pe_ix (ixT (K := K)) (pv 2) pe_int (fun _ _ => rfl)) pa_nil)) (blkOk_by (own := [("k", 3)]) (N := ["rows", "found", "row", "k"]) (sc := defScope s_law_cells) (by decide +kernel)) (fun _ _ _ _ _ => pg_name (i := 3) sc_law_cells.nd rfl (Or.inl rfl)) (fun _ _ _ _ _ => pts_nil) (fun _ _ _ _ _ => (pe_op op_add (pe_ix (ixT (K := K)) (pv 2) pe_int (fun _ _ => rfl)) (pv 3))))))))))
      (pss_one (ps_ret (pv 1))))), ?_⟩
    rw [show start ["rows", "found", "row", "k"] [v0] = [some v0, none, none, none] from rfl]
    obtain ⟨F, a, vs, n, rows, rfl, hw, hS, hD, hok, q⟩ := h
    have w := W.start (M := []) hw
    have hrl := hok.len
    walk_at "go"
    refine n_lst w (szle (by simp)) fun f F1 H1 w hf => ?_
    walk_at "go"
    refine n_forL vs w (fun i σ L => ∃ f y2 y3, H f = none ∧ σ = [some (.ref a), some (.ref f), y2, y3] ∧ L = [mu f (.lst (cellsV (rows.take i)))]) ⟨f, none, none, hf, rfl, rfl⟩ (fun i σ L F' H' hp w => ?_) (fun i x σ L F' H' hx hp w => ?_) (fun σ L F' H' hp w => ?_)
    · obtain ⟨f, y2, y3, hf, rfl, rfl⟩ := hp
      walk_at "sq"
    · obtain ⟨f, y2, y3, hf, rfl, rfl⟩ := hp
      obtain ⟨m, hm, dm⟩ := dpa_at hD hx
      have mo := hok.ok m (List.mem_of_getElem? hm)
      have e1 : cellsV (rows.take (i + 1)) = cellsV (rows.take i) ++ m.cellV := by
        unfold cellsV
        rw [List.take_add_one, hm, List.flatMap_append]
        simp
      have l1 := cells_len (rows.take i)
      have l2 := gives_le rows i
      have l3 := hok.sum
      cases m with
      | put s =>
        obtain ⟨pm, rfl, hT⟩ := dp_cput dm
        have hT := sqT_same (K := K) w.ws hT
        have hsl := mo.s.2
        walk_at "go"
        refine n_listS w (szle (by omega)) fun p2 F2 H2 w hp2 => ?_
        walk_at "go"
        refine n_cat w (by walk_at "at") (by walk_at "at") (szle (by rw [chars_len]; omega)) fun p3 F3 H3 w hp3 => ?_
        walk_at "go"
        rw [show cellsV (rows.take i) ++ chars s = cellsV (rows.take (i + 1)) from e1.symm] at w
        exact nx_mk w ⟨p3, _, _, hp3, rfl, rfl⟩ (by walk_at "pk")
      | copy b k =>
        obtain ⟨pm, rfl, hT0⟩ := dp_ccopy dm
        have hT := hT0
        have hT := sqT_same (K := K) w.ws hT
        have hk2 := gives_take hm
        have hk3 := gives_le rows (i + 1)
        replace hk2 : givesL (rows.take (i + 1)) = givesL (rows.take i) + k := hk2
        walk_at "go"
        refine n_lcR w (fun j ys L => ys = (List.range j).map (fun t => V.int ((b + t : Nat) : Int)) ∧ L = [mu f (.lst (cellsV (rows.take i)))]) ⟨rfl, rfl⟩ (fun j ys L F' H' D hj hp w hD => ?_) (fun D ys L F' H' hp w hD => ?_)
        · obtain ⟨rfl, rfl⟩ := hp
          have hT := sqT_same (K := K) w.ws hT0
          walk_at "wp"
          walk_at "go"
          refine n_acc _ w ⟨?_, rfl⟩ (by walk_at "pk") (small_lt (by rw [List.length_map, List.length_range]; omega))
          rw [List.range_succ, List.map_append]
          rfl
        obtain ⟨rfl, rfl⟩ := hp
        walk_at "go"
        refine n_cat w (by walk_at "at") (by walk_at "at") (szle (by rw [List.length_map, List.length_range]; omega)) fun p3 F3 H3 w hp3 => ?_
        walk_at "go"
        rw [show cellsV (rows.take i) ++ (List.range ((k : Nat) : Int).toNat).map (fun t => V.int ((b + t : Nat) : Int)) = cellsV (rows.take (i + 1)) by rw [e1]; rfl] at w
        exact nx_mk w ⟨p3, _, _, hp3, rfl, rfl⟩ (by walk_at "pk")
    · obtain ⟨f, y2, y3, hf, rfl, rfl⟩ := hp
      rw [List.take_of_length_le (by rw [dpa_len hD, List.length_map]; exact Nat.le_refl _)] at w
      walk_at "go"
      exact q f F' H' hf (by walk_at "w")
-- _law_done
theorem ok_law_done {f : Addr} {fd : FuncData} (F : FunD K "_law_done" "_law_done" (defArgs s_law_done) (defBody s_law_done) (defScope s_law_done) [] [] f fd) (T : Txt K mg)  : FnOk P w K mg base CX0 1 f fd ["cells", "old"] (S2 (φldone K)) := by
  refine F.ok sc_law_done (fun vs H Q E h => ?_) (fun cdv A outer s H vs Q E hr h => ?_)
  · exact S2.len h
  · match vs, h with
    | [v0, v1], h =>
    have hu := hu_of hr
    refine ⟨_, PSs.nox (pss_one (ps_ret (peJoin (K := K) pe_str (pe_lc (own := [("cell", 2)]) (g := gName 2) rfl sc_law_done.nd (pi_list (pv 0)) (blkOk_by (own := [("cell", 2)]) (N := ["cells", "old", "cell"]) (sc := defScope s_law_done) (by decide +kernel)) (fun _ _ _ _ _ => pg_name (i := 2) sc_law_done.nd rfl (Or.inl rfl)) (fun _ _ _ _ _ => pts_nil) (fun _ _ _ _ _ => (pe_ifExp (pt_val (pe_callB (clIsi (K := K)) (by rfl) T.b_isinstance (by decide +kernel) (pa_cons (pv 2) (pa_cons (pe_bltn (v := .ty "int") (by rfl) T.b_int (by decide +kernel) rfl) pa_nil)))) (pe_ix ix_str (pv 1) (pv 2) (fun _ _ => rfl)) (pv 2))))))), ?_⟩
    rw [show start ["cells", "old", "cell"] [v0, v1] = [some v0, some v1, none] from rfl]
    obtain ⟨F, a, cs, o, rfl, rfl, hw, hS, hcs, hcl, oko, ho, q⟩ := h
    have w := W.start (M := []) hw
    walk_at "go"
    
    refine n_lcL (cs) w (fun i ys L => ys = ((cs).take i).map (fun v => V.str (outS o v)) ∧ L = []) ⟨rfl, rfl⟩ (fun i ys L F' H' D hp w => ?_) (fun i x ys L F' H' D hx hp w hDn => ?_) (fun D ys L F' H' hp w hDn => ?_)
    · obtain ⟨rfl, rfl⟩ := hp
      walk_at "sq"
    · obtain ⟨rfl, rfl⟩ := hp
      have hi := (List.getElem?_eq_some_iff.mp hx).1
      have e1 : ((cs).take (i + 1)).map (fun v => V.str (outS o v)) = ((cs).take i).map (fun v => V.str (outS o v)) ++ [V.str (outS o x)] := by
        rw [List.take_add_one, hx, List.map_append]
        rfl
      have hl : (((cs).take i).map (fun v => V.str (outS o v))).length ≤ 1000 := by
        rw [List.length_map, List.length_take]
        omega
      walk_at "wp"
      walk_at "go"
      rcases hcs x (List.mem_of_getElem? hx) with ⟨k, rfl, hk⟩ | ⟨c, rfl, hc⟩
      · refine u_isi (F := F') (d := .int (k : Nat)) (.int _) w.fh (k_int _) ?_
        walk_at "go"
        refine w_is (c := true) rfl ?_
        walk_at "go"
        refine w_ixS (szle (by omega)) (sign_get hk) ?_
        exact n_acc _ w ⟨e1.symm, rfl⟩ (by walk_at "pk") (small_lt (by omega))
      · refine u_isi (F := F') (d := .str ⟨#[c]⟩) (.str _) w.fh (k_int _) ?_
        walk_at "go"
        refine w_is (c := false) rfl ?_
        walk_at "go"
        exact n_acc _ w ⟨e1.symm, rfl⟩ (by walk_at "pk") (small_lt (by omega))
    · obtain ⟨rfl, rfl⟩ := hp
      rw [List.take_of_length_le (Nat.le_refl _)] at w
      obtain ⟨zs, ezs⟩ : ∃ zs, zs = (cs).map (outS o) := ⟨_, rfl⟩
      have hzs : ∀ z ∈ zs, z.length = 1 ∧ okS z := fun z hz => by
        rw [ezs] at hz
        obtain ⟨v, hv, rfl⟩ := List.mem_map.mp hz
        exact outS_ok rfl oko (hcs v hv)
      rw [show (cs).map (fun v => V.str (outS o v)) = zs.map V.str by rw [ezs, List.map_map]; rfl] at w
      refine ⟨_, D, zs, rfl, rfl, .inl (by walk_at "sq"), ?_, ?_⟩
      · rw [sum_ones zs hzs]
        have : zs.length = (cs).length := by rw [ezs, List.length_map]
        show zs.length + zs.length * 0 ≤ 16777216
        omega
      · refine q _ F' H' (by walk_at "w") ?_ (joined zs hzs).2
        show cd (Txt.join ⟨#[]⟩ zs) = _
        rw [join_cd, ezs]
-- _law_plan_written
theorem ok_law_plan_written {f : Addr} {fd : FuncData} (F : FunD K "_law_plan_written" "_law_plan_written" (defArgs s_law_plan_written) (defBody s_law_plan_written) (defScope s_law_plan_written) [] [] f fd) (T : Txt K mg)  : FnOk P w K mg base CX0 1 f fd ["some_plan"] (S1 (φptext71 K)) := by
  refine F.ok sc_law_plan_written (fun vs H Q E h => ?_) (fun cdv A outer s H vs Q E hr h => ?_)
  · exact S1.len h
  · match vs, h with
    | [v0], h =>
    have hu := hu_of hr
    refine ⟨_, PSs.nox (pss_cons (ps_set (i := 1) sc_law_plan_written.nd rfl (.inl rfl) (pe_lst pa_nil))
      (pss_cons (ps_for PassesOwn.never rfl (pi_list (pv 0)) (pg_name (i := 2) sc_law_plan_written.nd rfl (.inl rfl)) (pss_cons (ps_set (i := 3) sc_law_plan_written.nd rfl (.inl rfl) (pe_lst (pa_cons (pe_ix (ixT (K := K)) (pv 2) pe_int (fun _ _ => rfl)) pa_nil)))
      (pss_cons (ps_for PassesOwn.never rfl (pi_tup (pe_slice (slT (K := K)) (pv 2) (po_some pe_int) po_none)) (pg_name (i := 4) sc_law_plan_written.nd rfl (.inl rfl)) (pss_one (ps_expr (peBM (K := K) PySem.F.plainAttrs_list PySem.F.slot_list_append PySem.F.type_list_append mt_append (pv 3) (pa_cons (pe_ifExp (pt_val (pe_callB (clIsi (K := K)) (by rfl) T.b_isinstance (by decide +kernel) (pa_cons (pv 4) (pa_cons (pe_bltn (v := .ty "str") (by rfl) T.b_str (by decide +kernel) rfl) pa_nil)))) (pv 4) (pe_callTy clStrQ (by rfl) T.b_str (by decide +kernel) (pa_cons (pv 4) pa_nil))) pa_nil)))))
      (pss_one (ps_expr (peBM (K := K) PySem.F.plainAttrs_list PySem.F.slot_list_append PySem.F.type_list_append mt_append (pv 1) (pa_cons (peJoin (K := K) pe_str (pv 3)) pa_nil)))))))
      (pss_one (ps_ret (peJoin (K := K) pe_str (pv 1)))))), ?_⟩
    rw [show start ["some_plan", "lines", "row", "words", "part"] [v0] = [some v0, none, none, none, none] from rfl]
    obtain ⟨F, a, vs, ls, rfl, hw, hS, hD, hok, hl, ht, q⟩ := h
    have w := ((W.start (M := []) hw).push (imL K a vs) hS).push (dpa K vs (ls.map GRow.d)) hD
    have hvl : vs.length = ls.length := by rw [dpa_len hD, List.length_map]
    walk_at "go"
    refine n_lst w (szle (by show 0 ≤ 1000000; decide)) fun lp F1 H1 w hlp => ?_
    walk_at "go"
    refine n_forL vs w (fun i σ L => ∃ y2 y3 y4, σ = [some (.ref a), some (.ref lp), y2, y3, y4] ∧ L = [mu lp (.lst (((ls.take i).map GRow.t).map V.str)), imL K a vs, dpa K vs (ls.map GRow.d)]) ⟨none, none, none, rfl, rfl⟩ (fun i σ L F' H' hp w => ?_) (fun i x σ L F' H' hx hp w => ?_) (fun σ L F' H' hp w => ?_)
    · obtain ⟨y2, y3, y4, rfl, rfl⟩ := hp
      walk_at "sq"
    · obtain ⟨y2, y3, y4, rfl, rfl⟩ := hp
      obtain ⟨r, hr, dr⟩ := dpa_at (w.dpa (K := K) (xs := vs) (ds := ls.map GRow.d) (by walk_at "mem")) hx
      have hj := (List.getElem?_eq_some_iff.mp hr).1
      have hro := hok r (List.mem_of_getElem? hr)
      obtain ⟨p, rfl, hT⟩ := dp_g dr
      replace w := w.push (imT K p r.vals) hT
      have hvl2 : r.vals.length = r.ps.length + 1 := by show (r.ps.map GP.v).length + 1 = _; rw [List.length_map]
      have hpl := hro.l
      walk_at "go"
      refine w_ixT _ _ (by walk_at "st") (show atI r.vals ((0 : Nat) : Int) = some (.str r.w) from atI_nat rfl) ?_
      walk_at "go"
      refine n_lst w (szle (by show 1 ≤ 1000000; decide)) fun p1 F1 H1 w hp1 => ?_
      walk_at "go"
      refine n_slT7 (xs := r.vals) w (by walk_at "st") (fun z => sIx_one _ (by rw [← hvl2]; exact z.1)) fun t2 F2 H2 w => ?_
      rw [show cutV r.vals (some 1) none = r.ps.map GP.v from cut_from_V _ 1] at w
      refine n_it (K := K) (xs := r.ps.map GP.v) (sqT_same w.fh (sqT_of (w.i (fx t2 (.tup (r.ps.map GP.v))) (by walk_at "mem")))) ?_
      refine n_forT (r.ps.map GP.v) w (fun j σ L => ∃ y4, σ = [some (.ref a), some (.ref lp), some (.ref p), some (.ref p1), y4] ∧ L = [mu p1 (.lst ((r.w :: (r.ps.map GP.z).take j).map V.str)), fx t2 (.tup (r.ps.map GP.v)), mu lp (.lst (((ls.take i).map GRow.t).map V.str)), imL K a vs, dpa K vs (ls.map GRow.d)]) ⟨_, rfl, rfl⟩ (fun j σ L F H h w => by obtain ⟨y4, rfl, rfl⟩ := h; exact sqT_same w.fh (sqT_of (w.i (fx t2 (.tup (r.ps.map GP.v))) (by walk_at "mem")))) (fun j x σ L F2 H2 hx2 hp w => ?_) (fun σ L F2 H2 hp w => ?_)
      · obtain ⟨y4, rfl, rfl⟩ := hp
        rw [List.getElem?_map] at hx2
        obtain ⟨gp, hg, rfl⟩ : ∃ gp, r.ps[j]? = some gp ∧ x = gp.v := by
          cases e : r.ps[j]? with
          | none => rw [e] at hx2; cases hx2
          | some g9 => rw [e] at hx2; exact ⟨g9, rfl, (Option.some.inj hx2).symm⟩
        have hgo := hro.p gp (List.mem_of_getElem? hg)
        have hj2 := (List.getElem?_eq_some_iff.mp hg).1
        have et : (r.w :: (r.ps.map GP.z).take (j + 1)).map V.str = (r.w :: (r.ps.map GP.z).take j).map V.str ++ [.str gp.z] := by
          rw [List.take_add_one, List.getElem?_map, hg]
          show (r.w :: (_ ++ [gp.z])).map V.str = _
          rw [← List.cons_append, List.map_append]
          rfl
        cases gp with
        | i n =>
          walk_at "go"
          refine u_isi (F := F2) (d := .int n) (.int n) w.fh (k_str (.int n)) ?_
          rw [show isStr (PyData.int n) = false from rfl]
          walk_at "go"
          refine .inr ⟨_, rfl, log_of hgo, ?_⟩
          walk_at "go"
          refine n_app w (by walk_at "pick") (small_lt (by rw [List.length_map, List.length_cons, List.length_take, List.length_map]; omega)) fun H3 w => ?_
          rw [show ((r.w :: (r.ps.map GP.z).take j).map V.str ++ [V.str (Str.ofString (toString n))]) = (r.w :: (r.ps.map GP.z).take (j + 1)).map V.str from et.symm] at w
          walk_at "go"
          exact nx_mk w ⟨_, rfl, rfl⟩ (by walk_at "pk")
        | s z =>
          walk_at "go"
          refine u_isi (F := F2) (d := .str z) (.str z) w.fh (k_str (.str z)) ?_
          rw [show isStr (PyData.str z) = true from rfl]
          walk_at "go"
          refine n_app w (by walk_at "pick") (small_lt (by rw [List.length_map, List.length_cons, List.length_take, List.length_map]; omega)) fun H3 w => ?_
          rw [show ((r.w :: (r.ps.map GP.z).take j).map V.str ++ [(GP.s z).v]) = (r.w :: (r.ps.map GP.z).take (j + 1)).map V.str from et.symm] at w
          walk_at "go"
          exact nx_mk w ⟨_, rfl, rfl⟩ (by walk_at "pk")
      · obtain ⟨y4, rfl, rfl⟩ := hp
        rw [List.take_of_length_le (by rw [List.length_map, List.length_map]; exact Nat.le_refl _)] at w
        rw [show r.w :: r.ps.map GP.z = r.ws from rfl] at w
        walk_at "go"
        refine ⟨_, p1, r.ws, rfl, rfl, .inl (by walk_at "sq"), r.jsum hro, ?_⟩
        walk_at "go"
        refine n_app (p := lp) (xs := ((ls.take i).map GRow.t).map V.str) w (by walk_at "pick") (small_lt (by rw [List.length_map, List.length_map, List.length_take]; omega)) fun H3 w => ?_
        have et9 : ((ls.take (i + 1)).map GRow.t).map V.str = ((ls.take i).map GRow.t).map V.str ++ [.str r.t] := by
          rw [List.take_add_one, hr, List.map_append, List.map_append]
          rfl
        walk_at "go"
        refine nx_mk w ⟨_, _, _, rfl, rfl⟩ ?_
        rw [et9]
        walk_at "pk"
    obtain ⟨y2, y3, y4, rfl, rfl⟩ := hp
    rw [hvl, List.take_length] at w
    walk_at "go"
    refine ⟨_, lp, ls.map GRow.t, rfl, rfl, .inl (by walk_at "sq"), ?_, ?_⟩
    · have := tot_sum ls
      rw [List.length_map, slen_nl7]
      omega
    exact q _ _ (w.to .nil)
-- _law_change_written
theorem ok_law_change_written {f : Addr} {fd : FuncData} (F : FunD K "_law_change_written" "_law_change_written" (defArgs s_law_change_written) (defBody s_law_change_written) (defScope s_law_change_written) [] [] f fd) (T : Txt K mg) (D_law_plan_written : DO P w K mg base 1 "_law_plan_written" ["some_plan"] [] (S1 (φptext71 K))) : FnOk P w K mg base CX0 2 f fd ["size", "rows"] (S2 (φcwrit71 K)) := by
  refine F.ok sc_law_change_written (fun vs H Q E h => ?_) (fun cdv A outer s H vs Q E hr h => ?_)
  · exact S2.len h
  · match vs, h with
    | [v0, v1], h =>
    have hu := hu_of hr
    refine ⟨_, PSs.nox (pss_cons (ps_set (i := 2) sc_law_change_written.nd rfl (.inl rfl) (pe_op opAddS pe_str (pe_callTy call_str_int (by rfl) T.b_str (by decide +kernel) (pa_cons (pv 0) pa_nil))))
      (pss_cons (ps_for PassesOwn.never rfl (pi_list (pv 1)) (pg_name (i := 3) sc_law_change_written.nd rfl (.inl rfl)) (pss_one (ps_set (i := 2) sc_law_change_written.nd rfl (.inl rfl) (pe_op opAddS (pe_op opAddS (pv 2) pe_str) (pcall D_law_plan_written hr (pa_cons (pe_lst (pa_cons (pv 3) pa_nil)) pa_nil))))))
      (pss_one (ps_ret (pv 2))))), ?_⟩
    rw [show start ["size", "rows", "found", "row"] [v0, v1] = [some v0, some v1, none, none] from rfl]
    obtain ⟨F, a, vs, n, rows, rfl, rfl, hw, hS, hD, hok, hn, q⟩ := h
    have w := ((W.start (M := []) hw).push (imL K a vs) hS).push (dpa K vs (rows.map CRow.d)) hD
    have hrl := hok.len
    have hvl : vs.length = rows.length := by rw [dpa_len hD, List.length_map]
    have nn := num_ok hn
    have ln := nn.2
    walk_at "go"
    refine ⟨_, rfl, num_log hn, ?_⟩
    refine n_adds (szle (show (Str.ofString "size ").length + (numS n).length ≤ 1000000 by rw [slen_size]; omega)) ?_
    walk_at "go"
    refine n_forL vs w (fun i σ L => ∃ f y3, σ = [some (.int (n : Nat)), some (.ref a), some (.str f), y3] ∧ cd f = (cd (Str.ofString "size ") ++ cd (numS n)) ++ rowsW (rows.take i) ∧ L = [imL K a vs, dpa K vs (rows.map CRow.d)]) ⟨_, none, rfl, ?_, rfl⟩ (fun i σ L F' H' hp w => ?_) (fun i x σ L F' H' hx hp w => ?_) (fun σ L F' H' hp w => ?_)
    · rw [cd_app]
      show _ = _ ++ []
      rw [List.append_nil]
      rfl
    · obtain ⟨f, y3, rfl, hf, rfl⟩ := hp
      walk_at "sq"
    · obtain ⟨f, y3, rfl, hf, rfl⟩ := hp
      obtain ⟨m, hm, dm⟩ := dpa_at (w.dpa (K := K) (xs := vs) (ds := rows.map CRow.d) (by walk_at "mem")) hx
      have mo := hok.ok m (List.mem_of_getElem? hm)
      have hg : m.gives ≤ 400 := Nat.le_trans (row_le (List.mem_of_getElem? hm)) hok.sum
      have mg := crow_gok mo hn hg
      have mt := GRow.tl mg
      have lf : f.length ≤ 6100 := by
        rw [← cd_len, hf, List.length_append, List.length_append, len_size, cd_len]
        have := rowsW_le hn hok i
        omega
      walk_at "go"
      refine n_adds (szle (show f.length + (Str.ofString "\n").length ≤ 1000000 by rw [slen_nl]; omega)) ?_
      walk_at "go"
      refine n_lst w (szle (by show 1 ≤ 1000000; decide)) fun p1 F1 H1 w hp1 => ?_
      obtain ⟨F1, w⟩ := w.fzL (p := p1) (by walk_at "pick") hp1
      walk_at "go"
      refine ⟨_, p1, [x], [m.g], rfl, w.fh, sqL_of (w.i (fx p1 (.lst [x])) (by walk_at "mem")), ?_, fun r hr => by rw [List.mem_singleton.mp hr]; exact mg, by show 1 ≤ 1000; decide, by rw [tot_one]; omega, fun F2 H2 w2 => ?_⟩
      · rw [show [m.g].map GRow.d = [m.d] by rw [List.map_cons, crow_gd]; rfl]
        obtain ⟨m2, hm2, dm2⟩ := dpa_at (w.dpa (K := K) (xs := vs) (ds := rows.map CRow.d) (by walk_at "mem")) hx
        rw [hm] at hm2
        cases hm2
        exact .cons dm2 .nil
      replace w := w.cal .nil w2 (by walk_at "app")
      rw [gpT_one]
      refine n_adds (szle (by rw [len_app, slen_nl]; omega)) ?_
      walk_at "go"
      refine nx_mk w ⟨_, _, rfl, ?_, rfl⟩ (by walk_at "pk")
      rw [cd_app, cd_app, hf, rowsW_take hm, nl_cd, crow_gt]
      simp
    · obtain ⟨f, y3, rfl, hf, rfl⟩ := hp
      walk_at "go"
      refine q f _ _ (w.to .nil) ?_
      rw [hf, hvl, List.take_length]
      rfl
-- _law_any_number
theorem ok_law_any_number {f : Addr} {fd : FuncData} (F : FunD K "_law_any_number" "_law_any_number" (defArgs s_law_any_number) (defBody s_law_any_number) (defScope s_law_any_number) [] [] f fd) (T : Txt K mg) (D_law_draw : DO P w K mg base 2 "_law_draw" ["bag", "many"] [] (S2 (φdraw K))) : FnOk P w K mg base CX0 3 f fd ["bag"] (S1 (φanynum71 K)) := by
  refine F.ok sc_law_any_number (fun vs H Q E h => ?_) (fun cdv A outer s H vs Q E hr h => ?_)
  · exact S1.len h
  · match vs, h with
    | [v0], h =>
    have hu := hu_of hr
    refine ⟨_, PSs.nox (pss_cons (ps_set (i := 1) sc_law_any_number.nd rfl (.inl rfl) (pcall D_law_draw hr (pa_cons (pv 0) (pa_cons pe_int pa_nil))))
      (pss_cons (ps_if (pt_cmpR op_lt (pv 1) pe_int (nomark _)) (pss_one (ps_ret (pcall D_law_draw hr (pa_cons (pv 0) (pa_cons pe_int pa_nil))))) pss_nil)
      (pss_cons (ps_if (pt_cmpR op_lt (pv 1) pe_int (nomark _)) (pss_one (ps_ret (pe_op op_sub (pcall D_law_draw hr (pa_cons (pv 0) (pa_cons pe_int pa_nil))) pe_int))) pss_nil)
      (pss_one (ps_ret (pe_op op_mul (pe_ix (ixL (K := K)) (pe_lst (pa_cons pe_int (pa_cons (pe_un un_neg pe_int) pa_nil))) (pe_op op_sub (pv 1) pe_int) (fun _ _ => rfl)) (pcall D_law_draw hr (pa_cons (pv 0) (pa_cons (pe_op op_pow pe_int pe_int) pa_nil))))))))), ?_⟩
    rw [show start ["bag", "way"] [v0] = [some v0, none] from rfl]
    obtain ⟨F, b, rfl, s0, q⟩ := h
    have w := s0.w (M := [b])
    walk_at "go"
    refine n_draw w (by walk_at "pick") (by decide) (by decide) fun way F1 H1 w y0 y1 => ?_
    walk_at "go"
    refine w_ite (fun h0 => ?_) (fun h0 => ?_)
    · walk_at "go"
      refine n_draw w (by walk_at "pick") (by decide) (by decide) fun r F1 H1 w r0 r1 => ?_
      exact q r _ _ (w.to (by walk_at "pick")) (by have : (12 : Nat) < 10 ^ 60 := by decide +kernel
                                                   omega)
    walk_at "go"
    refine w_ite (fun h1 => ?_) (fun h1 => ?_)
    · walk_at "go"
      refine n_draw w (by walk_at "pick") (by decide) (by decide) fun r F1 H1 w r0 r1 => ?_
      walk_at "go"
      exact q _ _ _ (w.to (by walk_at "pick")) (by have : (1001 : Nat) < 10 ^ 60 := by decide +kernel
                                                   omega)
    walk_at "go"
    refine n_lst w (szle (by show 2 ≤ 1000000; decide)) fun p1 F1 H1 w hp1 => ?_
    obtain ⟨F1, w⟩ := w.fzL (p := p1) (by walk_at "pick") hp1
    walk_at "go"
    obtain ⟨sg, eg, hsg⟩ : ∃ sg : Int, atI [V.int 1, V.int (-1)] (way - 6) = some (.int sg) ∧ (sg = 1 ∨ sg = -1) := by
      have : way = 6 ∨ way = 7 := by omega
      rcases this with rfl | rfl
      · exact ⟨1, rfl, .inl rfl⟩
      · exact ⟨-1, rfl, .inr rfl⟩
    refine w_ixL [V.int 1, V.int (-1)] _ (sqL_same w.fh (sqL_of (w.i (fx p1 (.lst [V.int 1, V.int (-1)])) (by walk_at "mem")))) eg ?_
    walk_at "go"
    refine n_draw w (by walk_at "pick") (by decide +kernel) (by decide +kernel) fun r F1 H1 w r0 r1 => ?_
    have r2 : r < (10 : Int) ^ 60 := r1
    walk_at "go"
    refine q _ _ _ (w.to (by walk_at "pick")) ?_
    rcases hsg with rfl | rfl
    · omega
    · omega
-- _law_plan
theorem ok_law_plan {f : Addr} {fd : FuncData} (F : FunD K "_law_plan" "_law_plan" (defArgs s_law_plan) (defBody s_law_plan) (defScope s_law_plan) [] [] f fd) (T : Txt K mg) (D_law_any_number : DO P w K mg base 3 "_law_any_number" ["bag"] [] (S1 (φanynum71 K))) (D_law_draw : DO P w K mg base 2 "_law_draw" ["bag", "many"] [] (S2 (φdraw K))) (D_law_text : DO P w K mg base 3 "_law_text" ["bag", "size"] [] (S2 (φtextC K))) : FnOk P w K mg base CX0 4 f fd ["bag"] (S1 (φplan71 K)) := by
  refine F.ok sc_law_plan (fun vs H Q E h => ?_) (fun cdv A outer s H vs Q E hr h => ?_)
  · exact S1.len h
  · match vs, h with
    | [v0], h =>
    have hu := hu_of hr
    refine ⟨_, PSs.nox (pss_cons (ps_set (i := 1) sc_law_plan.nd rfl (.inr rfl) (pcall D_law_draw hr (pa_cons (pv 0) (pa_cons pe_int pa_nil))))
      (pss_cons (ps_set (i := 2) sc_law_plan.nd rfl (.inl rfl) (pe_lst pa_nil))
      (pss_cons (ps_set (i := 3) sc_law_plan.nd rfl (.inl rfl) pe_int)
      (pss_cons (ps_for PassesOwn.never rfl (pi_range1 rfl T.b_range (pa_cons (pcall D_law_draw hr (pa_cons (pv 0) (pa_cons (pe_ix (ixL (K := K)) (pe_lst (pa_cons pe_int (pa_cons pe_int (pa_cons pe_int (pa_cons pe_int (pa_cons pe_int (pa_cons pe_int (pa_cons pe_int (pa_cons pe_int (pa_cons pe_int (pa_cons pe_int (pa_cons pe_int (pa_cons pe_int (pa_cons pe_int (pa_cons pe_int (pa_cons pe_int (pa_cons pe_int pa_nil))))))))))))))))) (pv 1) (fun _ _ => rfl)) pa_nil))) pa_nil)) (pg_name (i := 4) sc_law_plan.nd rfl (.inl rfl)) (pss_cons (ps_set (i := 5) sc_law_plan.nd rfl (.inl rfl) (pcall D_law_draw hr (pa_cons (pv 0) (pa_cons pe_int pa_nil))))
      (pss_cons (ps_setLc (i := 6) (own := [("j", 9)]) (g := gName 9) rfl sc_law_plan.nd rfl rfl (sw_true rfl rfl rfl (by decide +kernel)) (pi_range1 rfl T.b_range (pa_cons pe_int pa_nil)) (blkOk_by (own := [("j", 9)]) (N := ["bag", "size", "some_plan", "left", "k", "way", "some", "wide", "writing", "j"]) (sc := defScope s_law_plan) (by decide +kernel)) (fun _ _ _ _ _ => pg_name (i := 9) sc_law_plan.nd rfl (Or.inl rfl)) (fun _ _ _ _ _ => pts_nil) (fun _ _ _ _ _ => (pe_ifExp (pt_cmpR op_eq (pv 1) pe_int (nomark _)) (pcall D_law_draw hr (pa_cons (pv 0) (pa_cons pe_int pa_nil))) (pcall D_law_any_number hr (pa_cons (pv 0) pa_nil)))))
      (pss_one (ps_if (pt_cmpR op_eq (pv 5) pe_int (nomark _)) (pss_cons (ps_set (i := 7) sc_law_plan.nd rfl (.inl rfl) (pe_ix (ixL (K := K)) (pe_lst (pa_cons pe_int (pa_cons pe_int (pa_cons pe_int (pa_cons pe_int pa_nil))))) (pcall D_law_draw hr (pa_cons (pv 0) (pa_cons pe_int pa_nil))) (fun _ _ => rfl)))
      (pss_cons (ps_set (i := 8) sc_law_plan.nd rfl (.inl rfl) (pcall D_law_text hr (pa_cons (pv 0) (pa_cons (pe_op op_add pe_int (pcall D_law_draw hr (pa_cons (pv 0) (pa_cons (pe_callB clMin2 (by rfl) T.b_min (by decide +kernel) (pa_cons (pv 7) (pa_cons (pe_callB clMax2 (by rfl) T.b_max (by decide +kernel) (pa_cons pe_int (pa_cons (pv 3) pa_nil))) pa_nil))) pa_nil)))) pa_nil))))
      (pss_cons (ps_set (i := 3) sc_law_plan.nd rfl (.inl rfl) (pe_op op_sub (pv 3) (pe_callB clLenS (by rfl) T.b_len (by decide +kernel) (pa_cons (pv 8) pa_nil))))
      (pss_one (ps_expr (peBM (K := K) PySem.F.plainAttrs_list PySem.F.slot_list_append PySem.F.type_list_append mt_append (pv 2) (pa_cons (pe_tup (pa_cons pe_str (pa_cons (pe_ix (ixL (K := K)) (pv 6) pe_int (fun _ _ => rfl)) (pa_cons (pv 8) pa_nil)))) pa_nil))))))) (pss_one (ps_expr (peBM (K := K) PySem.F.plainAttrs_list PySem.F.slot_list_append PySem.F.type_list_append mt_append (pv 2) (pa_cons (pe_tup (pa_cons (pe_ix (ixL (K := K)) (pe_lst (pa_cons pe_str (pa_cons pe_str (pa_cons pe_str pa_nil)))) (pv 5) (fun _ _ => rfl)) (pa_cons (pe_ix (ixL (K := K)) (pv 6) pe_int (fun _ _ => rfl)) (pa_cons (pe_ix (ixL (K := K)) (pv 6) pe_int (fun _ _ => rfl)) (pa_cons (pe_ix (ixL (K := K)) (pv 6) pe_int (fun _ _ => rfl)) pa_nil))))) pa_nil)))))))))
      (pss_one (ps_ret (pv 2))))))), ?_⟩
    rw [show start ["bag", "size", "some_plan", "left", "k", "way", "some", "wide", "writing", "j"] [v0] = [some v0, none, none, none, none, none, none, none, none, none] from rfl]
    obtain ⟨F, b, rfl, s0, q⟩ := h
    have w := s0.w (M := [b])
    walk_at "go"
    refine n_draw w (by walk_at "pick") (by decide) (by decide) fun sz F1 H1 w z0 z1 => ?_
    walk_at "go"
    refine n_lst w (szle (by show 0 ≤ 1000000; decide)) fun pl F2 H2 w hpl => ?_
    walk_at "go"
    refine n_lst w (szle (by show 16 ≤ 1000000; decide)) fun p9 F3 H3 w hp9 => ?_
    obtain ⟨F3, w⟩ := w.fzL (p := p9) (by walk_at "pick") hp9
    walk_at "go"
    obtain ⟨m, em, m0, m1, m2⟩ := pick16 z0 z1
    refine w_ixL _ _ (sqL_same w.fh (sqL_of (w.i (fx p9 (.lst (([7, 7, 7, 7, 7, 7, 7, 7, 7, 7, 7, 7, 7, 251, 251, 1001] : List Int).map V.int))) (by walk_at "mem")))) em ?_
    walk_at "go"
    refine n_draw w (by walk_at "pick") (by omega) (by omega) fun many F1 H1 w y0 y1 => ?_
    obtain ⟨N, rfl⟩ : ∃ N : Nat, many = (N : Int) := ⟨many.toNat, by omega⟩
    obtain ⟨e, he, hN⟩ : ∃ e : Nat, ((sz = 15 ∧ e = 3) ∨ (sz ≠ 15 ∧ e = 61)) ∧ N * (3 * e + 9) ≤ 52000 := by
      by_cases h9 : sz = 15
      · exact ⟨3, .inl ⟨h9, rfl⟩, by omega⟩
      · exact ⟨61, .inr ⟨h9, rfl⟩, by have := m2 h9; omega⟩
    have hN2 : N ≤ 1000 := by omega
    replace w := w.push (dpa K [] (([] : List GRow).map GRow.d)) .nil
    walk_at "go"
    refine n_forR (n := N) w (fun i σ L => ∃ (left : Int) (vs : List V) (ls : List GRow) (y4 y5 y6 y7 y8 : Option V), σ = [some (.ref b), some (.int sz), some (.ref pl), some (.int left), y4, y5, y6, y7, y8, none] ∧ (∀ r ∈ ls, PR r) ∧ ls.length = i ∧ vs.length = i ∧ -(i : Int) ≤ left ∧ left ≤ 2000 ∧ (tot ls : Int) ≤ (i * (3 * e + 9) : Nat) + 2000 - left ∧ L = [mu pl (.lst vs), dpa K vs (ls.map GRow.d), bag K b]) ⟨2000, [], [], none, none, none, none, none, rfl, (fun _ h => nomatch h), rfl, rfl, by omega, by omega, by show ((0 : Nat) : Int) ≤ _; omega, rfl⟩ (fun i σ L F' H' hi hp w => ?_) (fun σ L F' H' hp w => ?_)
    · obtain ⟨left, vs, ls, y4, y5, y6, y7, y8, rfl, hPR, hll, hvl, hl0, hl1, htot, rfl⟩ := hp
      have hmul : (i + 1) * (3 * e + 9) = i * (3 * e + 9) + (3 * e + 9) := Nat.succ_mul _ _
      walk_at "go"
      refine n_draw w (by walk_at "pick") (by decide) (by decide) fun way F1 H1 w r0 r1 => ?_
      walk_at "go"
      refine n_lcR (n := 3) w (fun j ys L => ∃ xs : List Int, ys = xs.map V.int ∧ xs.length = j ∧ (∀ x ∈ xs, x.natAbs < 10 ^ 60 ∧ (numI x).length ≤ e) ∧ L = [mu pl (.lst vs), dpa K vs (ls.map GRow.d), bag K b]) ⟨[], rfl, rfl, (fun _ h => nomatch h), rfl⟩ (fun j ys L F' H' D hj hp w hD => ?_) (fun D ys L F' H' hp w hD => ?_)
      · obtain ⟨xs, rfl, hxl, hxs, rfl⟩ := hp
        walk_at "wp"
        walk_at "go"
        rcases he with ⟨h15, rfl⟩ | ⟨h15, rfl⟩
        · rw [decide_eq_true h15]
          walk_at "go"
          refine n_draw w (by walk_at "pick") (by decide) (by decide) fun x F1 H1 w x0 x1 => ?_
          obtain ⟨xn, rfl⟩ : ∃ xn : Nat, x = (xn : Int) := ⟨x.toNat, by omega⟩
          exact n_acc _ w ⟨xs ++ [(xn : Int)], by rw [List.map_append]; rfl, by rw [List.length_append, hxl]; rfl, fun z hz => by
            rcases List.mem_append.mp hz with hz | hz
            · exact hxs z hz
            · rw [List.mem_singleton.mp hz]; exact ⟨small_nat (by omega), num_len_nn (k := 3) (by decide) (by omega)⟩, rfl⟩ (by walk_at "pk") (small_lt (by rw [List.length_map]; omega))
        · rw [decide_eq_false h15]
          walk_at "go"
          refine ⟨_, b, rfl, w.st (by walk_at "pick"), fun x F1 H1 w1 hx => ?_⟩
          replace w := w.calB (by walk_at "pick") w1 (by walk_at "app")
          exact n_acc _ w ⟨xs ++ [x], by rw [List.map_append]; rfl, by rw [List.length_append, hxl]; rfl, fun z hz => by
            rcases List.mem_append.mp hz with hz | hz
            · exact hxs z hz
            · rw [List.mem_singleton.mp hz]; exact ⟨hx, num_len (k := 60) (by decide) hx⟩, rfl⟩ (by walk_at "pk") (small_lt (by rw [List.length_map]; omega))
      obtain ⟨xs, rfl, hxl, hxs, rfl⟩ := hp
      obtain ⟨x0, x1, x2, rfl⟩ : ∃ x0 x1 x2, xs = [x0, x1, x2] := by
        match xs, hxl with
        | [x0, x1, x2], _ => exact ⟨_, _, _, rfl⟩
      have k0 := hxs x0 (by simp)
      have k1 := hxs x1 (by simp)
      have k2 := hxs x2 (by simp)
      obtain ⟨F', w⟩ := w.fzL (p := D) (by walk_at "pick") hD
      rw [show [x0, x1, x2].map V.int = [V.int x0, V.int x1, V.int x2] from rfl] at w
      walk_at "go"
      refine w_ite (fun h3 => ?_) (fun h3 => ?_)
      · walk_at "go"
        refine n_lst w (szle (by show 4 ≤ 1000000; decide)) fun p4 F3 H3 w hp4 => ?_
        walk_at "go"
        refine n_draw w (by walk_at "pick") (by decide) (by decide) fun r F1 H1 w r0 r1 => ?_
        obtain ⟨my, ey, my0, my1⟩ := pick_ix (ns := [4, 4, 60, 400]) (lo := 4) (hi := 400) r0 r1 (by decide)
        walk_at "go"
        refine w_ixL _ _ (by walk_at "sq") ey ?_
        walk_at "go"
        obtain ⟨mx, hmx⟩ : ∃ mx : Int, mx = (if left > 1 then left else 1) := ⟨_, rfl⟩
        rw [← hmx]
        obtain ⟨mn, hmn⟩ : ∃ mn : Int, mn = (if mx < my then mx else my) := ⟨_, rfl⟩
        have hmx2 : 1 ≤ mx ∧ (left ≤ 1 → mx = 1) ∧ (1 < left → mx = left) := by
          split at hmx <;> omega
        have hmn2 : 1 ≤ mn ∧ mn ≤ mx ∧ mn ≤ 400 := by
          split at hmn <;> omega
        walk_at "go"
        rw [← hmn]
        refine n_draw w (by walk_at "pick") (by omega) (by omega) fun dl F1 H1 w d0 d1 => ?_
        walk_at "go"
        refine ⟨_, b, 1 + dl, rfl, rfl, w.st (by walk_at "pick"), by omega, by omega, fun z F2 H2 w2 hz cz => ?_⟩
        replace w := w.calB (by walk_at "pick") w2 (by walk_at "app")
        walk_at "go"
        refine n_tup w (szle (by show 3 ≤ 1000000; decide)) fun t F3 H3 w => ?_
        walk_at "go"
        have hpr : PR ⟨Str.ofString "put", [.i x0, .s z]⟩ := .put x0 z k0.1 cz (by omega) (by omega)
        have htl := GRow.t_len ⟨Str.ofString "put", [.i x0, .s z]⟩
        have htl : (GRow.mk (Str.ofString "put") [.i x0, .s z]).t.length ≤ (Str.ofString "put").length + ((numI x0).length + 1 + (z.length + 1 + 0)) + 1 := htl
        have l4 := lit_len.1
        replace w := w.push (dpa K (vs ++ [.ref t]) ((ls ++ [GRow.mk (Str.ofString "put") [.i x0, .s z]]).map GRow.d)) (by
          rw [List.map_append]
          exact dpa_snoc (w.dpa (by walk_at "mem")) (dp_put7 (w.i (fx t _) (by walk_at "mem"))))
        refine n_app w (by walk_at "pick") (small_lt (by omega)) fun H3 w => ?_
        walk_at "go"
        refine nx_mk w ⟨_, vs ++ [.ref t], ls ++ [GRow.mk (Str.ofString "put") [.i x0, .s z]], _, _, _, _, _, rfl, pr_snoc hPR hpr, by rw [List.length_append, hll]; rfl, by rw [List.length_append, hvl]; rfl, by omega, by omega, ?_, rfl⟩ (by walk_at "pk")
        rw [tot_snoc, hmul]
        omega
      · walk_at "go"
        refine n_lst w (szle (by show 3 ≤ 1000000; decide)) fun p4 F3 H3 w hp4 => ?_
        obtain ⟨F3, w⟩ := w.fzL (p := p4) (by walk_at "pick") hp4
        walk_at "go"
        obtain ⟨wd, ew, hw9, hw4⟩ : ∃ wd, atI [V.str (Str.ofString "keep"), V.str (Str.ofString "copy"), V.str (Str.ofString "lay")] way = some (.str wd) ∧ (wd = Str.ofString "keep" ∨ wd = Str.ofString "copy" ∨ wd = Str.ofString "lay") ∧ wd.length ≤ 4 := by
          have : way = 0 ∨ way = 1 ∨ way = 2 := by omega
          rcases this with rfl | rfl | rfl
          · exact ⟨_, rfl, .inl rfl, lit_len.2.2.1⟩
          · exact ⟨_, rfl, .inr (.inl rfl), lit_len.2.1⟩
          · exact ⟨_, rfl, .inr (.inr rfl), lit_len.2.2.2.1⟩
        refine w_ixL _ _ (sqL_same w.fh (sqL_of (w.i (fx p4 (.lst [V.str (Str.ofString "keep"), V.str (Str.ofString "copy"), V.str (Str.ofString "lay")])) (by walk_at "mem")))) ew ?_
        walk_at "go"
        refine n_tup w (szle (by show 4 ≤ 1000000; decide)) fun t F3 H3 w => ?_
        walk_at "go"
        have hpr : PR ⟨wd, [.i x0, .i x1, .i x2]⟩ := .three wd x0 x1 x2 hw9 k0.1 k1.1 k2.1
        have htl := GRow.t_len ⟨wd, [.i x0, .i x1, .i x2]⟩
        have htl : (GRow.mk wd [.i x0, .i x1, .i x2]).t.length ≤ wd.length + ((numI x0).length + 1 + ((numI x1).length + 1 + ((numI x2).length + 1 + 0))) + 1 := htl
        replace w := w.push (dpa K (vs ++ [.ref t]) ((ls ++ [GRow.mk wd [.i x0, .i x1, .i x2]]).map GRow.d)) (by
          rw [List.map_append]
          exact dpa_snoc (w.dpa (by walk_at "mem")) (dp_three (w.i (fx t _) (by walk_at "mem"))))
        refine n_app w (by walk_at "pick") (small_lt (by omega)) fun H3 w => ?_
        walk_at "go"
        refine nx_mk w ⟨_, vs ++ [.ref t], ls ++ [GRow.mk wd [.i x0, .i x1, .i x2]], _, _, _, _, _, rfl, pr_snoc hPR hpr, by rw [List.length_append, hll]; rfl, by rw [List.length_append, hvl]; rfl, by omega, by omega, ?_, rfl⟩ (by walk_at "pk")
        rw [tot_snoc, hmul]
        omega
    · obtain ⟨left, vs, ls, y4, y5, y6, y7, y8, rfl, hPR, hll, hvl, hl0, hl1, htot, rfl⟩ := hp
      obtain ⟨g, hg⟩ : ∃ g, g = N * (3 * e + 9) := ⟨_, rfl⟩
      rw [← hg] at hN htot
      walk_at "go"
      exact q pl vs ls _ _ hpl (w.to (by walk_at "pick")) hPR (by omega) (by omega)
-- _law_change_right
theorem ok_law_change_right {f : Addr} {fd : FuncData} (F : FunD K "_law_change_right" "_law_change_right" (defArgs s_law_change_right) (defBody s_law_change_right) (defScope s_law_change_right) [] [] f fd) (T : Txt K mg) (D_law_alike : DO P w K mg base 6 "_law_alike" ["found", "due"] [] (S2 (φalike K 6))) (D_law_cells : DO P w K mg base 1 "_law_cells" ["rows"] [] (S1 (φlcells K))) (D_law_change_written : DO P w K mg base 2 "_law_change_written" ["size", "rows"] [] (S2 (φcwrit71 K))) (D_law_done : DO P w K mg base 1 "_law_done" ["cells", "old"] [] (S2 (φldone K))) (D_law_same : DO P w K mg base 10 "_law_same" ["found", "size", "rows"] [] (S3 (φsame K))) (D_change_text : DO P w K mg base 5 "change_text" ["change"] [] (S1 (φstr K))) (D_read_change : DO P w K mg base 4 "read_change" ["text"] [] (S1 (φrchange71 K))) (DK_change_text_0_change : DK P w K mg base 5 "change_text" ["change"] 0 ["change"] [(1, 0)] [] (S1 (φstr K))) (DK_read_change_0_text : DK P w K mg base 4 "read_change" ["text"] 0 ["text"] [(1, 0)] [] (S1 (φrchange71 K))) (DM_ChangeX_eqX : DM P w K mg base 6 "Change" "__eq__" ["self", "other"] [] (S2 (φceq K))) (DM_ChangeX_lenX : DM P w K mg base 1 "Change" "__len__" ["self"] [] (S1 (φclen K))) (DM_ChangeX_strX : DM P w K mg base 2 "Change" "__str__" ["self"] [] (S1 (φstr K))) (DM_Change_cells : DM P w K mg base 1 "Change" "cells" ["self"] [] (S1 (φcells K))) (DM_Change_done : DM P w K mg base 2 "Change" "done" ["self", "old"] [] (S2 (φdoneC K))) (DN_Change_2 : DN P w K mg base 2 "Change" ["self", "size", "rows"] [] (S3 (φinit K))) : FnOk P w K mg base CX0 11 f fd ["size", "rows", "elder"] (S3 (φcright71 K)) := by
  refine F.ok sc_law_change_right (fun vs H Q E h => ?_) (fun cdv A outer s H vs Q E hr h => ?_)
  · exact S3.len h
  · match vs, h with
    | [v0, v1, v2], h =>
    have hu := hu_of hr
    refine ⟨_, PSs.nox (pss_cons (ps_set (i := 3) sc_law_change_right.nd rfl (.inl rfl) (pmake DN_Change_2 hr (pa_cons (pv 0) (pa_cons (pe_callTy (clListOf (K := K)) (by rfl) T.b_list (by decide +kernel) (pa_cons (pv 1) pa_nil)) pa_nil))))
      (pss_cons (ps_set (i := 4) sc_law_change_right.nd rfl (.inl rfl) (pcall D_law_change_written hr (pa_cons (pv 0) (pa_cons (pv 1) pa_nil))))
      (pss_cons (ps_if (PW.pt (pw_or (pt_not (pt_val (pcall D_law_alike hr (pa_cons (pcall D_change_text hr (pa_cons (pv 3) pa_nil)) (pa_cons (pv 4) pa_nil))))) (pw_or1 (pt_not (pt_val (pcall D_law_alike hr (pa_cons (pe_callTy (clStrO DM_ChangeX_strX hr (by decide)) (by rfl) T.b_str (by decide +kernel) (pa_cons (pv 3) pa_nil)) (pa_cons (pv 4) pa_nil)))))))) (pss_one (ps_ret pe_bl)) pss_nil)
      (pss_cons (ps_set (i := 5) sc_law_change_right.nd rfl (.inl rfl) (pcall D_read_change hr (pa_cons (pv 4) pa_nil)))
      (pss_cons (ps_if (PW.pt (pw_or (pt_not (pt_val (pcall D_law_same hr (pa_cons (pv 5) (pa_cons (pv 0) (pa_cons (pv 1) pa_nil)))))) (pw_or (pt_cmpR (opNeO DM_ChangeX_eqX T.n_Change hr (by decide)) (pv 5) (pv 3) (nomark _)) (pw_or1 (pt_not (pt_val (pcall D_law_alike hr (pa_cons (pcallK0 DK_change_text_0_change hr (pk_cons (pv 3) pk_nil)) (pa_cons (pv 4) pa_nil))))))))) (pss_one (ps_ret pe_bl)) pss_nil)
      (pss_cons (ps_set (i := 6) sc_law_change_right.nd rfl (.inl rfl) (pcall D_law_cells hr (pa_cons (pv 1) pa_nil)))
      (pss_cons (ps_for PassesOwn.never rfl (pi_list (pe_lst (pa_cons (pv 3) (pa_cons (pv 5) pa_nil)))) (pg_name (i := 7) sc_law_change_right.nd rfl (.inl rfl)) (pss_cons (ps_if (PW.pt (pw_or (pt_not (pt_val (pcall D_law_alike hr (pa_cons (pmeth0 DM_Change_cells hr (pv 7)) (pa_cons (pv 6) pa_nil))))) (pw_or1 (pt_not (pt_val (pcall D_law_alike hr (pa_cons (pmeth DM_Change_done hr (pv 7) (pa_cons (pv 2) pa_nil)) (pa_cons (pcall D_law_done hr (pa_cons (pv 6) (pa_cons (pv 2) pa_nil))) pa_nil)))))))) (pss_one (ps_ret pe_bl)) pss_nil)
      (pss_one (ps_if (PW.pt (pw_or (pt_not (pt_val (pcall D_law_alike hr (pa_cons (pe_callB (clLenO DM_ChangeX_lenX hr (by decide)) (by rfl) T.b_len (by decide +kernel) (pa_cons (pv 7) pa_nil)) (pa_cons (pe_callB (clLenQ (K := K)) (by rfl) T.b_len (by decide +kernel) (pa_cons (pv 1) pa_nil)) pa_nil))))) (pw_or1 (pt_not (pt_val (pcall D_law_alike hr (pa_cons (pe_callTy (clStrO DM_ChangeX_strX hr (by decide)) (by rfl) T.b_str (by decide +kernel) (pa_cons (pv 7) pa_nil)) (pa_cons (pv 4) pa_nil)))))))) (pss_one (ps_ret pe_bl)) pss_nil))))
      (pss_one (ps_ret (pe_and (pcall D_law_same hr (pa_cons (pv 3) (pa_cons (pv 0) (pa_cons (pv 1) pa_nil)))) (pe_one (pcall D_law_same hr (pa_cons (pcallK0 DK_read_change_0_text hr (pk_cons (pv 4) pk_nil)) (pa_cons (pv 0) (pa_cons (pv 1) pa_nil))))))))))))))), ?_⟩
    rw [show start ["size", "rows", "elder", "given", "due", "found", "cells", "one"] [v0, v1, v2] = [some v0, some v1, some v2, none, none, none, none, none] from rfl]
    have kC := T.k_Change
    have kS := T.na_Change_size
    have kR := T.na_Change_rows
    
    obtain ⟨F, a, vs, o, rows, rfl, rfl, rfl, hw, hS, hD, hok, ho, hcl, oko, q⟩ := h
    have w := ((W.start (M := []) hw).push (imL K a vs) hS).push (dpa K vs (rows.map CRow.d)) hD
    obtain ⟨cs, ecs⟩ : ∃ cs, cs = celsL rows := ⟨_, rfl⟩
    have csk : ∀ c ∈ cs, c.ok o.length := by rw [ecs]; exact cels_ok hok.ok
    have csl : cs.length ≤ 400 := by rw [ecs, cels_len]; exact hok.sum
    have cg := cels_good csk (by omega)
    have rl := hok.len
    walk_at "go"
    refine n_listOf w (by walk_at "sq") fun pa F4 H4 w hpa => ?_
    obtain ⟨F4, w⟩ := w.fzL (p := pa) (by walk_at "pick") hpa
    walk_at "go"
    refine n_make w fun c dx H5 w hc => ?_
    refine c_init w (by walk_at "pick") hc (sqL_of (w.i (fx pa (.lst vs)) (by walk_at "mem"))) (w.dpa (by walk_at "mem")) ho hok fun F5 H5 w => ?_
    have hC_1 : Chg K _ (.ref c) o.length rows := w.i (chg K (.ref c) o.length rows) (by walk_at "mem")
    obtain ⟨c_1, dx_1, r_1, vs_1, e_1, hc_1, hr_1, hD_1⟩ := hC_1
    replace w := w.push (fx c_1 _) hc_1
    unfold insC at w
    cases e_1
    walk_at "go"
    refine ⟨_, a, vs, o.length, rows, rfl, rfl, w.fh, w.imL (by walk_at "mem"), w.dpa (by walk_at "mem"), hok, ho, fun z1 F6 H6 w6 hz1 => ?_⟩
    replace w := w.cal .nil w6 (by walk_at "app")
    have okz := writ_ok ho hok hz1
    walk_at "go"
    refine ⟨_, o.length, rows, w.fh, w.i (chg K (.ref c) o.length rows) (by walk_at "mem"), hok, ho, fun z2 F5 H5 w5 h_z2 => ?_⟩
    replace w := w.cal .nil w5 (by walk_at "app")
    have e_z2 : z2 = z1 := cd_inj (h_z2.trans hz1.symm)
    cases e_z2
    walk_at "go"
    refine ⟨_, .str z1, w.fh, .str _, .str _, by show (0 : Nat) < 6; decide, str_good okz.1 (Nat.le_trans okz.2 (by decide)), fun F9 H9 g9 => ?_⟩
    replace w := w.gr0 g9
    walk_at "go"
    refine n_strO (by walk_at "at") ?_
    refine ⟨_, o.length, rows, w.fh, w.i (chg K (.ref c) o.length rows) (by walk_at "mem"), hok, ho, fun z3 F5 H5 w5 h_z3 => ⟨z3, rfl, ?_⟩⟩
    replace w := w.cal .nil w5 (by walk_at "app")
    have e_z3 : z3 = z1 := cd_inj (h_z3.trans hz1.symm)
    cases e_z3
    walk_at "go"
    refine ⟨_, .str z1, w.fh, .str _, .str _, by show (0 : Nat) < 6; decide, str_good okz.1 (Nat.le_trans okz.2 (by decide)), fun F9 H9 g9 => ?_⟩
    replace w := w.gr0 g9
    walk_at "go"
    refine ⟨_, z1, o.length, rows, rfl, w.fh, hz1, hok, ho, hcl, fun v2 F6 H6 w6 => ?_⟩
    replace w := w.cal .nil w6 (by walk_at "app")
    have hC_2 : Chg K _ v2 o.length rows := w.i (chg K v2 o.length rows) (by walk_at "mem")
    obtain ⟨c2, dx_2, r_2, vs_2, rfl, hc_2, hr_2, hD_2⟩ := hC_2
    replace w := w.push (fx c2 _) hc_2
    unfold insC at w
    walk_at "go"
    refine ⟨_, a, vs, o.length, rows, rfl, rfl, w.fh, w.imL (by walk_at "mem"), w.dpa (by walk_at "mem"), w.i (chg K (.ref c2) o.length rows) (by walk_at "mem"), hok, fun F9 H9 w9 => ?_⟩
    replace w := w.cal .nil w9 (by walk_at "app")
    walk_at "go"
    refine n_neO (by walk_at "at") (by walk_at "at") ?_
    refine ⟨_, o.length, rows, w.fh, w.i (chg K (.ref c2) o.length rows) (by walk_at "mem"), w.i (chg K (.ref c) o.length rows) (by walk_at "mem"), hok, fun F9 H9 w9 => ⟨true, rfl, ?_⟩⟩
    replace w := w.cal .nil w9 (by walk_at "app")
    walk_at "go"
    refine ⟨rfl, rfl, ?_⟩
    refine ⟨_, o.length, rows, w.fh, w.i (chg K (.ref c) o.length rows) (by walk_at "mem"), hok, ho, fun z5 F5 H5 w5 h_z5 => ?_⟩
    replace w := w.cal .nil w5 (by walk_at "app")
    have e_z5 : z5 = z1 := cd_inj (h_z5.trans hz1.symm)
    cases e_z5
    walk_at "go"
    refine ⟨_, .str z1, w.fh, .str _, .str _, by show (0 : Nat) < 6; decide, str_good okz.1 (Nat.le_trans okz.2 (by decide)), fun F9 H9 g9 => ?_⟩
    replace w := w.gr0 g9
    walk_at "go"
    refine ⟨_, a, vs, o.length, rows, rfl, w.fh, w.imL (by walk_at "mem"), w.dpa (by walk_at "mem"), hok, fun p5 F5 H5 hp5 w5 => ?_⟩
    have hp5' := w.g.fresh hp5
    replace w := w.cal .nil w5 (by walk_at "app")
    obtain ⟨F5, w⟩ := w.fzL (p := p5) (by walk_at "pick") hp5'
    rw [cels_v, ← ecs] at w
    walk_at "go"
    refine n_lst w (szle (by show 2 ≤ 1000000; decide)) fun pq F6 H6 w hpq => ?_
    obtain ⟨F6, w⟩ := w.fzL (p := pq) (by walk_at "pick") hpq
    walk_at "go"
    refine n_forL [V.ref c, V.ref c2] w (fun i σ L => ∃ y7, σ = [some (.int (o.length : Nat)), some (.ref a), some (.str o), some (.ref c), some (.str z1), some (.ref c2), some (.ref p5), y7] ∧ L = [fx pq (.lst [V.ref c, V.ref c2]), fx p5 (.lst (cs.map Cel.v)), fx c2 (.ins (He.ga K "Change") dx_2 [("size", .int (o.length : Nat)), ("rows", .ref r_2)]), chg K (.ref c2) o.length rows, fx c (.ins (He.ga K "Change") dx_1 [("size", .int (o.length : Nat)), ("rows", .ref r_1)]), chg K (.ref c) o.length rows, imL K a vs, dpa K vs (rows.map CRow.d)]) ⟨none, rfl, rfl⟩ (fun i σ L F' H' hp w => ?_) (fun i x σ L F' H' hx hp w => ?_) (fun σ L F' H' hp w => ?_)
    · obtain ⟨y7, rfl, rfl⟩ := hp
      exact sqL_same w.fh (sqL_of (w.i (fx pq (.lst [V.ref c, V.ref c2])) (by walk_at "mem")))
    · obtain ⟨y7, rfl, rfl⟩ := hp
      have hm := List.mem_of_getElem? hx
      obtain ⟨c3, rfl, hC3⟩ : ∃ c3, x = .ref c3 ∧ Chg K F' x o.length rows := by
        simp only [List.mem_cons, List.not_mem_nil, or_false] at hm
        rcases hm with rfl | rfl
        · exact ⟨_, rfl, w.i (chg K (.ref c) o.length rows) (by walk_at "mem")⟩
        · exact ⟨_, rfl, w.i (chg K (.ref c2) o.length rows) (by walk_at "mem")⟩
      replace w := w.push (chg K (.ref c3) o.length rows) hC3
      have hC_3 : Chg K _ (.ref c3) o.length rows := w.i (chg K (.ref c3) o.length rows) (by walk_at "mem")
      obtain ⟨c_3, dx_3, r_3, vs_3, e_3, hc_3, hr_3, hD_3⟩ := hC_3
      replace w := w.push (fx c_3 _) hc_3
      unfold insC at w
      cases e_3
      walk_at "go"
      refine ⟨_, o.length, rows, w.fh, w.i (chg K (.ref c3) o.length rows) (by walk_at "mem"), hok, by omega, fun p6 F6 H6 hp6 w6 => ?_⟩
      replace w := w.cal .nil w6 (by walk_at "app")
      rw [cels_v, ← ecs] at w
      walk_at "go"
      refine ⟨_, .list (cs.map Cel.d), Same.refl _, .lst (by walk_at "sq") (dpa_cels cs), .lst (sqL_same w.fh (sqL_of (w.i (fx p5 (.lst (cs.map Cel.v))) (by walk_at "mem")))) (dpa_cels cs), Nat.lt_of_le_of_lt cg.2 (by decide), cg.1, fun F9 H9 g9 => ?_⟩
      replace w := w.ro0' g9
      walk_at "go"
      refine ⟨_, o, rows, rfl, w.fh, w.i (chg K (.ref c3) o.length rows) (by walk_at "mem"), hok, oko, by omega, fun s1 F5 H5 w5 h_s1 ok_s1 => ?_⟩
      replace w := w.cal .nil w5 (by walk_at "app")
      walk_at "go"
      refine ⟨_, p5, cs.map Cel.v, o, rfl, rfl, w.fh, sqL_of (w.i (fx p5 _) (by walk_at "mem")), fun v hv => ?_, by rw [List.length_map]; omega, oko, by omega, fun s2 F5 H5 w5 h_s2 ok_s2 => ?_⟩
      · obtain ⟨c, hc, rfl⟩ := List.mem_map.mp hv
        exact cel_cellok (csk c hc)
      replace w := w.cal .nil w5 (by walk_at "app")
      walk_at "go"
      have es : s1 = s2 := cd_inj (by rw [h_s1, h_s2, outs_cels, mk_cels hok.ok, ecs])
      cases es
      refine ⟨_, .str s1, w.fh, .str _, .str _, by show (0 : Nat) < 6; decide, str_good ok_s1 (Nat.le_trans (show s1.length ≤ 400 by rw [← cd_len, h_s1, mks_len (cd_len o) hok.ok]; exact hok.sum) (by decide)), fun F9 H9 g9 => ?_⟩
      replace w := w.gr0 g9
      walk_at "go"
      refine n_lenO (by walk_at "at") ?_
      refine ⟨_, o.length, rows, w.fh, w.i (chg K (.ref c3) o.length rows) (by walk_at "mem"), by omega, fun F5 H5 w5 => ⟨_, rfl, ?_⟩⟩
      replace w := w.cal .nil w5 (by walk_at "app")
      refine ⟨⟨by omega, by omega⟩, ?_⟩
      walk_at "go"
      have hvl2 : vs.length = rows.length := by rw [dpa_len hD, List.length_map]
      rw [hvl2]
      refine ⟨_, .int (rows.length : Nat), w.fh, .int _, .int _, by show (0 : Nat) < 6; decide, rfl, fun F9 H9 g9 => ?_⟩
      replace w := w.gr0 g9
      walk_at "go"
      refine n_strO (by walk_at "at") ?_
      refine ⟨_, o.length, rows, w.fh, w.i (chg K (.ref c3) o.length rows) (by walk_at "mem"), hok, ho, fun z4 F5 H5 w5 h_z4 => ⟨z4, rfl, ?_⟩⟩
      replace w := w.cal .nil w5 (by walk_at "app")
      have e_z4 : z4 = z1 := cd_inj (h_z4.trans hz1.symm)
      cases e_z4
      walk_at "go"
      refine ⟨_, .str z1, w.fh, .str _, .str _, by show (0 : Nat) < 6; decide, str_good okz.1 (Nat.le_trans okz.2 (by decide)), fun F9 H9 g9 => ?_⟩
      replace w := w.gr0 g9
      walk_at "go"
      exact nx_mk w ⟨_, rfl, rfl⟩ (by walk_at "pk")
    · obtain ⟨y7, rfl, rfl⟩ := hp
      walk_at "go"
      refine ⟨_, a, vs, o.length, rows, rfl, rfl, w.fh, w.imL (by walk_at "mem"), w.dpa (by walk_at "mem"), w.i (chg K (.ref c) o.length rows) (by walk_at "mem"), hok, fun F9 H9 w9 => ?_⟩
      replace w := w.cal .nil w9 (by walk_at "app")
      walk_at "go"
      refine ⟨rfl, rfl, _, z1, o.length, rows, rfl, w.fh, hz1, hok, ho, hcl, fun v4 F6 H6 w6 => ?_⟩
      replace w := w.cal .nil w6 (by walk_at "app")
      walk_at "go"
      refine ⟨_, a, vs, o.length, rows, rfl, rfl, w.fh, w.imL (by walk_at "mem"), w.dpa (by walk_at "mem"), w.i (chg K v4 o.length rows) (by walk_at "mem"), hok, fun F9 H9 w9 => ?_⟩
      replace w := w.cal .nil w9 (by walk_at "app")
      walk_at "go"
      exact q _ _ (by walk_at "w")
-- _law_told_written
theorem ok_law_told_written {f : Addr} {fd : FuncData} (F : FunD K "_law_told_written" "_law_told_written" (defArgs s_law_told_written) (defBody s_law_told_written) (defScope s_law_told_written) [] [] f fd) (T : Txt K mg) (D_law_alike : DO P w K mg base 6 "_law_alike" ["found", "due"] [] (S2 (φalike K 6))) (D_law_change_written : DO P w K mg base 2 "_law_change_written" ["size", "rows"] [] (S2 (φcwrit71 K))) (D_behind : DO P w K mg base 4 "behind" ["first", "second"] [] (S2 (φbehind K))) (D_change_text : DO P w K mg base 5 "change_text" ["change"] [] (S1 (φstr K))) (D_found_change_2 : DO P w K mg base 4 "found_change" ["old", "new", "price"] [.int 4] (S3 (φfound K))) (D_plainest : DO P w K mg base 4 "plainest" ["change"] [] (S1 (φplainest K))) (D_read_change : DO P w K mg base 4 "read_change" ["text"] [] (S1 (φrchange71 K))) (D_undone : DO P w K mg base 4 "undone" ["change", "old"] [] (S2 (φundone K))) (DM_ChangeX_strX : DM P w K mg base 2 "Change" "__str__" ["self"] [] (S1 (φstr K))) (DM_Change_done : DM P w K mg base 2 "Change" "done" ["self", "old"] [] (S2 (φdoneC K))) (DN_Change_2 : DN P w K mg base 2 "Change" ["self", "size", "rows"] [] (S3 (φinit K))) : FnOk P w K mg base CX0 11 f fd ["size", "rows", "elder"] (S3 (φcright71 K)) := by
  refine F.ok sc_law_told_written (fun vs H Q E h => ?_) (fun cdv A outer s H vs Q E hr h => ?_)
  · exact S3.len h
  · match vs, h with
    | [v0, v1, v2], h =>
    have hu := hu_of hr
    refine ⟨_, PSs.nox (pss_cons (ps_set (i := 3) sc_law_told_written.nd rfl (.inl rfl) (pmake DN_Change_2 hr (pa_cons (pv 0) (pa_cons (pe_callTy (clListOf (K := K)) (by rfl) T.b_list (by decide +kernel) (pa_cons (pv 1) pa_nil)) pa_nil))))
      (pss_cons (ps_set (i := 4) sc_law_told_written.nd rfl (.inl rfl) (pmeth DM_Change_done hr (pv 3) (pa_cons (pv 2) pa_nil)))
      (pss_cons (ps_set (i := 5) sc_law_told_written.nd rfl (.inl rfl) (pcall D_undone hr (pa_cons (pv 3) (pa_cons (pv 2) pa_nil))))
      (pss_cons (ps_for PassesOwn.never rfl (pi_list (pe_lst (pa_cons (pcall D_plainest hr (pa_cons (pv 3) pa_nil)) (pa_cons (pv 5) (pa_cons (pcall D_behind hr (pa_cons (pv 3) (pa_cons (pv 5) pa_nil))) (pa_cons (pcall D_found_change_2 hr (pa_cons (pv 2) (pa_cons (pv 4) pa_nil))) (pa_cons (pcall D_read_change hr (pa_cons (pe_callTy (clStrO DM_ChangeX_strX hr (by decide)) (by rfl) T.b_str (by decide +kernel) (pa_cons (pv 3) pa_nil)) pa_nil)) pa_nil))))))) (pg_name (i := 6) sc_law_told_written.nd rfl (.inl rfl)) (pss_cons (ps_set (i := 7) sc_law_told_written.nd rfl (.inl rfl) (pcall D_law_change_written hr (pa_cons (peFld (K := K) (pv 6)) (pa_cons (peFld (K := K) (pv 6)) pa_nil))))
      (pss_one (ps_if (PW.pt (pw_or (pt_not (pt_val (pcall D_law_alike hr (pa_cons (pe_callTy (clStrO DM_ChangeX_strX hr (by decide)) (by rfl) T.b_str (by decide +kernel) (pa_cons (pv 6) pa_nil)) (pa_cons (pv 7) pa_nil))))) (pw_or1 (pt_not (pt_val (pcall D_law_alike hr (pa_cons (pcall D_change_text hr (pa_cons (pv 6) pa_nil)) (pa_cons (pv 7) pa_nil)))))))) (pss_one (ps_ret pe_bl)) pss_nil))))
      (pss_one (ps_ret pe_bl)))))), ?_⟩
    rw [show start ["size", "rows", "elder", "given", "later", "back", "one", "due"] [v0, v1, v2] = [some v0, some v1, some v2, none, none, none, none, none] from rfl]
    have kC := T.k_Change
    have kS := T.na_Change_size
    have kR := T.na_Change_rows
    
    obtain ⟨F, a, vs, o, rows, rfl, rfl, rfl, hw, hS, hD, hok, ho, hcl, oko, q⟩ := h
    have w := ((W.start (M := []) hw).push (imL K a vs) hS).push (dpa K vs (rows.map CRow.d)) hD
    have csk : ∀ c ∈ celsL rows, c.ok o.length := cels_ok hok.ok
    have csl : (celsL rows).length ≤ 400 := by rw [cels_len]; exact hok.sum
    have okP := plain_ok csk csl
    walk_at "go"
    refine n_listOf w (by walk_at "sq") fun pa F4 H4 w hpa => ?_
    obtain ⟨F4, w⟩ := w.fzL (p := pa) (by walk_at "pick") hpa
    walk_at "go"
    refine n_make w fun c dx H5 w hc => ?_
    refine c_init w (by walk_at "pick") hc (sqL_of (w.i (fx pa (.lst vs)) (by walk_at "mem"))) (w.dpa (by walk_at "mem")) ho hok fun F5 H5 w => ?_
    have hC_1 : Chg K _ (.ref c) o.length rows := w.i (chg K (.ref c) o.length rows) (by walk_at "mem")
    obtain ⟨c_1, dx_1, r_1, vs_1, e_1, hc_1, hr_1, hD_1⟩ := hC_1
    replace w := w.push (fx c_1 _) hc_1
    unfold insC at w
    cases e_1
    walk_at "go"
    refine ⟨_, o, rows, rfl, w.fh, w.i (chg K (.ref c) o.length rows) (by walk_at "mem"), hok, oko, by omega, fun s1 F5 H5 w5 h_s1 ok_s1 => ?_⟩
    replace w := w.cal .nil w5 (by walk_at "app")
    walk_at "go"
    have ls1 : s1.length = givesL rows := by rw [← cd_len, h_s1, mks_len (cd_len o) hok.ok]
    have ls2 : s1.length ≤ 400 := by rw [ls1]; exact hok.sum
    have okB := back_rows hok oko ho h_s1.symm
    have okM := mid_rows hok okB.1 h_s1.symm okB.2
    refine ⟨_, o, rows, rfl, w.fh, w.i (chg K (.ref c) o.length rows) (by walk_at "mem"), hok, oko, ho, fun v2 F3 H3 w3 => ?_⟩
    replace w := w.cal .nil w3 (by walk_at "app")
    rw [← ls1] at w
    walk_at "go"
    refine ⟨_, o.length, rows, w.fh, w.i (chg K (.ref c) o.length rows) (by walk_at "mem"), hok, ho, fun v1 F3 H3 w3 => ?_⟩
    replace w := w.cal .nil w3 (by walk_at "app")
    walk_at "go"
    refine ⟨_, o.length, rows, _, w.fh, w.i (chg K (.ref c) o.length rows) (by walk_at "mem"), by rw [← ls1]; exact w.i (chg K v2 s1.length (plainL (backs (celsL rows) (cd o)))) (by walk_at "mem"), hok, by rw [← ls1]; exact okB.1, ho, fun v3 F3 H3 w3 => ?_⟩
    replace w := w.cal .nil w3 (by walk_at "app")
    walk_at "go"
    refine ⟨_, o, s1, 4, rfl, rfl, rfl, w.fh, ho, ls2, oko, ok_s1, by decide, fun v4 rows4 F3 H3 w3 made4 => ?_⟩
    replace w := w.cal .nil w3 (by walk_at "app")
    have ok4 := made4.ok
    walk_at "go"
    refine n_strO (by walk_at "at") ?_
    refine ⟨_, o.length, rows, w.fh, w.i (chg K (.ref c) o.length rows) (by walk_at "mem"), hok, ho, fun z1 F5 H5 w5 hz1 => ⟨z1, rfl, ?_⟩⟩
    replace w := w.cal .nil w5 (by walk_at "app")
    walk_at "go"
    refine ⟨_, z1, o.length, rows, rfl, w.fh, hz1, hok, ho, hcl, fun v5 F6 H6 w6 => ?_⟩
    replace w := w.cal .nil w6 (by walk_at "app")
    walk_at "go"
    refine n_lst w (szle (by show 5 ≤ 1000000; decide)) fun pq F6 H6 w hpq => ?_
    obtain ⟨F6, w⟩ := w.fzL (p := pq) (by walk_at "pick") hpq
    walk_at "go"
    refine n_forL [v1, v2, v3, v4, v5] w (fun i σ L => ∃ y6 y7, σ = [some (.int (o.length : Nat)), some (.ref a), some (.str o), some (.ref c), some (.str s1), some v2, y6, y7] ∧ L = [fx pq (.lst [v1, v2, v3, v4, v5]), chg K v5 o.length rows, chg K v4 o.length rows4, chg K v3 o.length (plainL ((celsL (plainL (backs (celsL rows) (cd o)))).map (midC (celsL rows)))), chg K v1 o.length (plainL (celsL rows)), chg K v2 s1.length (plainL (backs (celsL rows) (cd o)))]) ⟨none, none, rfl, rfl⟩ (fun i σ L F' H' hp w => ?_) (fun i x σ L F' H' hx hp w => ?_) (fun σ L F' H' hp w => ?_)
    · obtain ⟨y6, y7, rfl, rfl⟩ := hp
      exact sqL_same w.fh (sqL_of (w.i (fx pq (.lst [v1, v2, v3, v4, v5])) (by walk_at "mem")))
    · obtain ⟨y6, y7, rfl, rfl⟩ := hp
      have hm := List.mem_of_getElem? hx
      obtain ⟨n, R, hC, okR, hn⟩ : ∃ n R, Chg K F' x n R ∧ RowsOk n R ∧ n ≤ 400 := by
        simp only [List.mem_cons, List.not_mem_nil, or_false] at hm
        rcases hm with rfl | rfl | rfl | rfl | rfl
        · exact ⟨_, _, w.i (chg K x o.length (plainL (celsL rows))) (by walk_at "mem"), okP, ho⟩
        · exact ⟨_, _, w.i (chg K x s1.length (plainL (backs (celsL rows) (cd o)))) (by walk_at "mem"), okB.1, ls2⟩
        · exact ⟨_, _, w.i (chg K x o.length (plainL ((celsL (plainL (backs (celsL rows) (cd o)))).map (midC (celsL rows))))) (by walk_at "mem"), okM.1, ho⟩
        · exact ⟨_, _, w.i (chg K x o.length rows4) (by walk_at "mem"), ok4, ho⟩
        · exact ⟨_, _, w.i (chg K x o.length rows) (by walk_at "mem"), hok, ho⟩
      replace w := w.push (chg K x n R) hC
      obtain ⟨c3, dx3, r3, vs3, rfl, hc3, hr3, hD3⟩ := hC
      replace w := ((w.push (fx c3 _) hc3).push (fx r3 (.lst vs3)) hr3).push (dpa K vs3 _) hD3
      unfold insC at w
      walk_at "go"
      refine ⟨_, r3, vs3, n, R, rfl, rfl, w.fh, sqL_of (w.i (fx r3 (.lst vs3)) (by walk_at "mem")), w.dpa (by walk_at "mem"), okR, hn, fun z2 F6 H6 w6 hz2 => ?_⟩
      replace w := w.cal .nil w6 (by walk_at "app")
      have okz := writ_ok hn okR hz2
      walk_at "go"
      refine n_strO (by walk_at "at") ?_
      refine ⟨_, n, R, w.fh, w.i (chg K (.ref c3) n R) (by walk_at "mem"), okR, hn, fun z3 F5 H5 w5 h_z3 => ⟨z3, rfl, ?_⟩⟩
      replace w := w.cal .nil w5 (by walk_at "app")
      have e_z3 : z3 = z2 := cd_inj (h_z3.trans hz2.symm)
      cases e_z3
      walk_at "go"
      refine ⟨_, .str z2, w.fh, .str _, .str _, by show (0 : Nat) < 6; decide, str_good okz.1 (Nat.le_trans okz.2 (by decide)), fun F9 H9 g9 => ?_⟩
      replace w := w.gr0 g9
      walk_at "go"
      refine ⟨_, n, R, w.fh, w.i (chg K (.ref c3) n R) (by walk_at "mem"), okR, hn, fun z4 F5 H5 w5 h_z4 => ?_⟩
      replace w := w.cal .nil w5 (by walk_at "app")
      have e_z4 : z4 = z2 := cd_inj (h_z4.trans hz2.symm)
      cases e_z4
      walk_at "go"
      refine ⟨_, .str z2, w.fh, .str _, .str _, by show (0 : Nat) < 6; decide, str_good okz.1 (Nat.le_trans okz.2 (by decide)), fun F9 H9 g9 => ?_⟩
      replace w := w.gr0 g9
      walk_at "go"
      exact nx_mk w ⟨_, _, rfl, rfl⟩ (by walk_at "pk")
    · obtain ⟨y6, y7, rfl, rfl⟩ := hp
      walk_at "go"
      exact q _ _ (by walk_at "w")
-- _law_plan_right
theorem ok_law_plan_right {f : Addr} {fd : FuncData} (F : FunD K "_law_plan_right" "_law_plan_right" (defArgs s_law_plan_right) (defBody s_law_plan_right) (defScope s_law_plan_right) [] [] f fd) (T : Txt K mg) (D_law_alike : DO P w K mg base 6 "_law_alike" ["found", "due"] [] (S2 (φalike K 6))) (D_law_plan_written : DO P w K mg base 1 "_law_plan_written" ["some_plan"] [] (S1 (φptext71 K))) (D_plan_text : DO P w K mg base 2 "plan_text" ["plan"] [] (S1 (φptext71 K))) (D_read_plan : DO P w K mg base 4 "read_plan" ["text"] [] (S1 (φrplan71 K))) (DK_plan_text_0_plan : DK P w K mg base 2 "plan_text" ["plan"] 0 ["plan"] [(1, 0)] [] (S1 (φptext71 K))) (DK_read_plan_0_text : DK P w K mg base 4 "read_plan" ["text"] 0 ["text"] [(1, 0)] [] (S1 (φrplan71 K))) : FnOk P w K mg base CX0 11 f fd ["some_plan"] (S1 (φpright71 K)) := by
  refine F.ok sc_law_plan_right (fun vs H Q E h => ?_) (fun cdv A outer s H vs Q E hr h => ?_)
  · exact S1.len h
  · match vs, h with
    | [v0], h =>
    have hu := hu_of hr
    refine ⟨_, PSs.nox (pss_cons (ps_set (i := 1) sc_law_plan_right.nd rfl (.inl rfl) (pe_callTy (clListOf (K := K)) (by rfl) T.b_list (by decide +kernel) (pa_cons (pv 0) pa_nil)))
      (pss_cons (ps_set (i := 2) sc_law_plan_right.nd rfl (.inl rfl) (pcall D_law_plan_written hr (pa_cons (pv 0) pa_nil)))
      (pss_cons (ps_if (PW.pt (pw_or (pt_not (pt_val (pcall D_law_alike hr (pa_cons (pcall D_plan_text hr (pa_cons (pv 1) pa_nil)) (pa_cons (pv 2) pa_nil))))) (pw_or1 (pt_cmpR (opNeD (K := K) hr.units) (pv 1) (pv 0) (nomark _))))) (pss_one (ps_ret pe_bl)) pss_nil)
      (pss_cons (ps_set (i := 3) sc_law_plan_right.nd rfl (.inl rfl) (pcall D_read_plan hr (pa_cons (pv 2) pa_nil)))
      (pss_cons (ps_if (pt_not (pt_val (pcall D_law_alike hr (pa_cons (pv 3) (pa_cons (pv 0) pa_nil))))) (pss_one (ps_ret pe_bl)) pss_nil)
      (pss_cons (ps_expr (peBM (K := K) PySem.F.plainAttrs_list PySem.F.slot_list_append PySem.F.type_list_append mt_append (pv 3) (pa_cons (pe_tup (pa_cons pe_str (pa_cons pe_int (pa_cons pe_str pa_nil)))) pa_nil)))
      (pss_one (ps_ret (pe_and (pcall D_law_alike hr (pa_cons (pcallK0 DK_read_plan_0_text hr (pk_cons (pv 2) pk_nil)) (pa_cons (pv 0) pa_nil))) (pe_one (pcall D_law_alike hr (pa_cons (pcallK0 DK_plan_text_0_plan hr (pk_cons (pv 1) pk_nil)) (pa_cons (pv 2) pa_nil))))))))))))), ?_⟩
    rw [show start ["some_plan", "handed", "due", "found"] [v0] = [some v0, none, none, none] from rfl]
    obtain ⟨F, a, vs, ls, rfl, hw, hS, hD, hP, hl, ht, q⟩ := h
    have w := ((W.start (M := []) hw).push (imL K a vs) hS).push (dpa K vs (ls.map GRow.d)) hD
    have hgl : (gpT ls).length ≤ 90000 := Nat.le_trans (gpT_len ls) ht
    have gg := grows_good (fun r hr => (hP r hr).ok.1) (Nat.le_trans hl (by decide) : ls.length ≤ 100000)
    have hok : ∀ r ∈ ls, r.ok := fun r hr => (hP r hr).ok.1
    walk_at "go"
    refine n_listOf w (by walk_at "sq") fun pa F4 H4 w hpa => ?_
    obtain ⟨F4, w⟩ := w.fzL (p := pa) (by walk_at "pick") hpa
    walk_at "go"
    refine ⟨_, a, vs, ls, rfl, w.fh, w.imL (by walk_at "mem"), w.dpa (by walk_at "mem"), hok, hl, by omega, fun F6 H6 w6 => ?_⟩
    replace w := w.cal .nil w6 (by walk_at "app")
    walk_at "go"
    refine ⟨_, pa, vs, ls, rfl, w.fh, sqL_of (w.i (fx pa (.lst vs)) (by walk_at "mem")), w.dpa (by walk_at "mem"), hok, hl, by omega, fun F6 H6 w6 => ?_⟩
    replace w := w.cal .nil w6 (by walk_at "app")
    walk_at "go"
    refine ⟨_, .str (gpT ls), w.fh, .str _, .str _, by show (0 : Nat) < 6; decide, str_good (gpT_ok fun r hr => (hP r hr).ok.1) (Nat.le_trans hgl (by decide)), fun F9 H9 g9 => ?_⟩
    replace w := w.gr0 g9
    walk_at "go"
    refine u_neD w.fh (d := .list (ls.map GRow.d)) (.lst (sqL_of (w.i (fx pa (.lst vs)) (by walk_at "mem"))) (w.dpa (by walk_at "mem"))) (.lst (w.imL (by walk_at "mem")) (w.dpa (by walk_at "mem"))) gg.1 (Nat.le_trans gg.2 (by decide)) ?_
    walk_at "go"
    refine ⟨_, ls, rfl, w.fh, hP, hl, by omega, fun p3 us F6 H6 hp3 w6 => ?_⟩
    have hp3' := w.g.fresh hp3
    replace w := w.cal .nil w6 (by walk_at "app")
    walk_at "go"
    refine ⟨_, .list (ls.map GRow.d), Same.refl _, .lst (by walk_at "sq") (dpa_same w.fh _ _ (w.dpa (K := K) (xs := us) (ds := ls.map GRow.d) (by walk_at "mem"))), .lst (by walk_at "sq") (dpa_same w.fh _ _ (w.dpa (K := K) (xs := vs) (ds := ls.map GRow.d) (by walk_at "mem"))), Nat.lt_of_le_of_lt gg.2 (by decide), gg.1, fun F9 H9 g9 => ?_⟩
    replace w := w.ro0' g9
    walk_at "go"
    refine n_tup w (szle (by show 3 ≤ 1000000; decide)) fun t F3 H3 w => ?_
    walk_at "go"
    have hul : us.length = ls.length := by rw [dpa_len (w.dpa (K := K) (xs := us) (ds := ls.map GRow.d) (by walk_at "mem")), List.length_map]
    refine n_app (p := p3) (xs := us) w (by walk_at "pick") (small_lt (by omega)) fun H3 w => ?_
    walk_at "go"
    refine ⟨rfl, rfl, _, ls, rfl, w.fh, hP, hl, by omega, fun p5 us5 F6 H6 hp5 w6 => ?_⟩
    have hp5' := w.g.fresh hp5
    replace w := w.cal .nil w6 (by walk_at "app")
    obtain ⟨F6, w⟩ := w.fzL (p := p5) (by walk_at "pick") hp5'
    walk_at "go"
    refine ⟨_, .list (ls.map GRow.d), Same.refl _, .lst (by walk_at "sq") (dpa_same w.fh _ _ (w.dpa (K := K) (xs := us5) (ds := ls.map GRow.d) (by walk_at "mem"))), .lst (by walk_at "sq") (dpa_same w.fh _ _ (w.dpa (K := K) (xs := vs) (ds := ls.map GRow.d) (by walk_at "mem"))), Nat.lt_of_le_of_lt gg.2 (by decide), gg.1, fun F9 H9 g9 => ?_⟩
    replace w := w.ro0' g9
    walk_at "go"
    refine ⟨rfl, rfl, _, pa, vs, ls, rfl, w.fh, sqL_of (w.i (fx pa (.lst vs)) (by walk_at "mem")), w.dpa (by walk_at "mem"), hok, hl, by omega, fun F6 H6 w6 => ?_⟩
    replace w := w.cal .nil w6 (by walk_at "app")
    walk_at "go"
    refine ⟨_, .str (gpT ls), w.fh, .str _, .str _, by show (0 : Nat) < 6; decide, str_good (gpT_ok fun r hr => (hP r hr).ok.1) (Nat.le_trans hgl (by decide)), fun F9 H9 g9 => ?_⟩
    replace w := w.gr0 g9
    walk_at "go"
    exact q _ _ (by walk_at "w")
-- law
theorem ok_law {f : Addr} {fd : FuncData} (F : FunD K "law" "law" (defArgs s_law) (defBody s_law) (defScope s_law) [] [] f fd) (T : Txt K mg) (D_law_bag : DO P w K mg base 1 "_law_bag" ["script"] [] (S1 (φbag K))) (D_law_change_right : DO P w K mg base 11 "_law_change_right" ["size", "rows", "elder"] [] (S3 (φcright71 K))) (D_law_draw : DO P w K mg base 2 "_law_draw" ["bag", "many"] [] (S2 (φdraw K))) (D_law_plan : DO P w K mg base 4 "_law_plan" ["bag"] [] (S1 (φplan71 K))) (D_law_plan_right : DO P w K mg base 11 "_law_plan_right" ["some_plan"] [] (S1 (φpright71 K))) (D_law_rows : DO P w K mg base 5 "_law_rows" ["bag", "size", "many", "most"] [] (S4 (φrowsC K))) (D_law_size : DO P w K mg base 3 "_law_size" ["bag"] [] (S1 (φsize1 K))) (D_law_text : DO P w K mg base 3 "_law_text" ["bag", "size"] [] (S2 (φtextC K))) (D_law_told_written : DO P w K mg base 11 "_law_told_written" ["size", "rows", "elder"] [] (S3 (φcright71 K))) : FnOk P w K mg base CX0 12 f fd ["script"] (S1 (φlaw K)) := by
  refine F.ok sc_law (fun vs H Q E h => ?_) (fun cdv A outer s H vs Q E hr h => ?_)
  · exact S1.len h
  · match vs, h with
    | [v0], h =>
    have hu := hu_of hr
    refine ⟨_, PSs.nox (pss_cons (ps_set (i := 1) sc_law.nd rfl (.inl rfl) (pcall D_law_bag hr (pa_cons (pv 0) pa_nil)))
      (pss_cons (ps_for PassesOwn.never rfl (pi_range1 rfl T.b_range (pa_cons (pe_op op_add pe_int (pe_callB clMin2 (by rfl) T.b_min (by decide +kernel) (pa_cons pe_int (pa_cons (pe_op op_fdivW (pe_callB (clLenQ (K := K)) (by rfl) T.b_len (by decide +kernel) (pa_cons (pv 0) pa_nil)) pe_int) pa_nil)))) pa_nil)) (pg_name (i := 2) sc_law.nd rfl (.inl rfl)) (pss_cons (ps_set (i := 3) sc_law.nd rfl (.inl rfl) (pcall D_law_size hr (pa_cons (pv 1) pa_nil)))
      (pss_cons (ps_set (i := 4) sc_law.nd rfl (.inl rfl) (pcall D_law_rows hr (pa_cons (pv 1) (pa_cons (pv 3) (pa_cons (pcall D_law_draw hr (pa_cons (pv 1) (pa_cons (pe_ix (ixL (K := K)) (pe_lst (pa_cons pe_int (pa_cons pe_int (pa_cons pe_int (pa_cons pe_int pa_nil))))) (pcall D_law_draw hr (pa_cons (pv 1) (pa_cons pe_int pa_nil))) (fun _ _ => rfl)) pa_nil))) (pa_cons pe_int pa_nil))))))
      (pss_cons (ps_set (i := 5) sc_law.nd rfl (.inl rfl) (pcall D_law_text hr (pa_cons (pv 1) (pa_cons (pv 3) pa_nil))))
      (pss_cons (ps_if (PW.pt (pw_or (pt_not (pt_val (pcall D_law_change_right hr (pa_cons (pv 3) (pa_cons (pv 4) (pa_cons (pv 5) pa_nil)))))) (pw_or1 (pt_not (pt_val (pcall D_law_told_written hr (pa_cons (pv 3) (pa_cons (pv 4) (pa_cons (pv 5) pa_nil))))))))) (pss_one (ps_ret pe_bl)) pss_nil)
      (pss_one (ps_if (pt_not (pt_val (pcall D_law_plan_right hr (pa_cons (pcall D_law_plan hr (pa_cons (pv 1) pa_nil)) pa_nil)))) (pss_one (ps_ret pe_bl)) pss_nil)))))))
      (pss_one (ps_ret pe_bl)))), ?_⟩
    rw [show start ["script", "bag", "again", "size", "rows", "elder"] [v0] = [some v0, none, none, none, none, none] from rfl]
    have kC := T.k_Change
    have kS := T.na_Change_size
    have kR := T.na_Change_rows
    
    obtain ⟨sc, ns, rfl, hS, hl, q⟩ := h
    walk_at "go"
    refine ⟨sc, ns, rfl, hS, hl, fun b F1 H1 g1 hb => ?_⟩
    have w := W.bag0 g1 hb
    walk_at "go"
    obtain ⟨m, em⟩ : ∃ m : Int, m = (if (((ns.map V.int).length : Nat) : Int) / 8 < 3 then (((ns.map V.int).length : Nat) : Int) / 8 else 3) := ⟨_, rfl⟩
    rw [← em]
    have hm : 0 ≤ m ∧ m ≤ 3 := by split at em <;> omega
    clear em
    walk_at "go"
    
    refine n_forR w (fun i σ L => ∃ y2 y3 y4 y5, σ = [some (.ref sc), some (.ref b), y2, y3, y4, y5] ∧ L = [bag K b]) ⟨none, none, none, none, rfl, rfl⟩ (fun i σ L F' H' hi hp w => ?_) (fun σ L F' H' hp w => ?_)
    · obtain ⟨y2, y3, y4, y5, rfl, rfl⟩ := hp
      walk_at "go"
      refine ⟨_, b, rfl, w.st (by walk_at "pick"), fun n F2 H2 w2 hn => ?_⟩
      replace w := w.calB (by walk_at "pick") w2 (by walk_at "app")
      walk_at "go"
      refine n_lst w (szle (by simp)) fun pl F3 H3 w hpl => ?_
      walk_at "go"
      refine n_draw w (by walk_at "pick") (by decide) (by decide) fun r F1 H1 w r0 r1 => ?_
      obtain ⟨my, ey, my0, my1⟩ := pick_ix (ns := [7, 7, 41, 401]) (lo := 7) (hi := 401) r0 r1 (by decide)
      walk_at "go"
      refine w_ixL _ _ (by walk_at "sq") ey ?_
      walk_at "go"
      refine n_draw w (by walk_at "pick") (by omega) (by omega) fun many F1 H1 w y0 y1 => ?_
      walk_at "go"
      refine ⟨_, b, n, many, 400, rfl, rfl, rfl, rfl, w.st (by walk_at "pick"), hn, by omega, by omega, by omega, by omega, fun p ys rows F2 H2 hp w2 hok hgm hrc => ?_⟩
      have hp' := w.g.fresh hp
      replace w := w.calB (by walk_at "pick") w2 (by walk_at "app")
      obtain ⟨F2, w⟩ := w.fzL (p := p) (by walk_at "pick") hp'
      walk_at "go"
      refine ⟨_, b, (n : Nat), rfl, rfl, w.st (by walk_at "pick"), by omega, by omega, fun o F2 H2 w2 ho oko => ?_⟩
      replace w := w.calB (by walk_at "pick") w2 (by walk_at "app")
      walk_at "go"
      have ho' : o.length = n := by omega
      subst ho'
      refine ⟨_, p, ys, o, rows, rfl, rfl, rfl, w.fh, sqL_of (w.i (fx p (.lst ys)) (by walk_at "mem")), w.dpa (by walk_at "mem"), hok, by omega, hrc, clean_ok oko, fun F9 H9 w9 => ?_⟩
      replace w := w.cal .nil w9 (by walk_at "app")
      walk_at "go"
      refine ⟨_, p, ys, o, rows, rfl, rfl, rfl, w.fh, sqL_of (w.i (fx p (.lst ys)) (by walk_at "mem")), w.dpa (by walk_at "mem"), hok, by omega, hrc, clean_ok oko, fun F9 H9 w9 => ?_⟩
      replace w := w.cal .nil w9 (by walk_at "app")
      walk_at "go"
      refine ⟨_, b, rfl, w.st (by walk_at "pick"), fun p9 vs9 ls9 F2 H2 hp9 w2 hPR hll htt => ?_⟩
      have hp9' := w.g.fresh hp9
      replace w := w.calB (by walk_at "pick") w2 (by walk_at "app")
      obtain ⟨F2, w⟩ := w.fzL (p := p9) (by walk_at "pick") hp9'
      walk_at "go"
      refine ⟨_, p9, vs9, ls9, rfl, w.fh, sqL_of (w.i (fx p9 (.lst vs9)) (by walk_at "mem")), w.dpa (by walk_at "mem"), hPR, hll, htt, fun F9 H9 w9 => ?_⟩
      replace w := w.cal .nil w9 (by walk_at "app")
      walk_at "go"
      exact nx_mk w ⟨_, _, _, _, rfl, rfl⟩ (by walk_at "pk")
    · obtain ⟨y2, y3, y4, y5, rfl, rfl⟩ := hp
      walk_at "go"
      exact q _
end
theorem facts {P : Program} {w : World} {K : PySem.W.Frag} {mg : Str → Option Value} {h : Heap} {f : Addr} (X : K.In h) (G : h.Ns mainGlobals mg) (hfa : mg ("law" : Str) = some (.ref f)) (c : He.SaysD fa fn K) (ex : exB K = true) :
    ∃ fd : FuncData, (∀ (s : Shared) (v : Value), BindsTo s fd ⟨[v], []⟩ [("script", v)]) ∧ ∀ base : Heap, K.In base → base.Ns mainGlobals mg → FnOk P w K mg base CX0 12 f fd ["script"] (S1 (φlaw K)) := by
  unfold exB at ex
  simp only [Bool.and_eq_true] at ex
  have T : Txt K mg := ⟨He.free_ok X G (c.fact 0 (f := .free "abs") rfl), He.free_ok X G (c.fact 1 (f := .free "all") rfl), He.free_ok X G (c.fact 2 (f := .free "bool") rfl), He.free_ok X G (c.fact 3 (f := .free "int") rfl), He.free_ok X G (c.fact 4 (f := .free "isinstance") rfl), He.free_ok X G (c.fact 5 (f := .free "len") rfl), He.free_ok X G (c.fact 6 (f := .free "list") rfl), He.free_ok X G (c.fact 7 (f := .free "max") rfl), He.free_ok X G (c.fact 8 (f := .free "min") rfl), He.free_ok X G (c.fact 9 (f := .free "range") rfl), He.free_ok X G (c.fact 10 (f := .free "str") rfl), He.free_ok X G (c.fact 11 (f := .free "tuple") rfl), He.int_ok X G (c.fact 12 (f := .int "MOST" 400) rfl), He.int_ok X G (c.fact 13 (f := .int "MOST_FIGURES" 60) rfl), He.str_ok X G (c.fact 14 (f := .str "FIGURES" (Str.ofString "0123456789")) rfl), He.int_ok X G (c.fact 15 (f := .int "MOST_SIGNS" 400) rfl), He.cls_ok (c.fact 55 (f := .cls "Change") rfl), He.noat_ok (c.fact 57 (f := .noat "Change" "size") rfl), He.noat_ok (c.fact 58 (f := .noat "Change" "rows") rfl), He.glo_ok X G (c.fact 54 (f := .glo "Change") rfl), insB_ok (He.cls_ok (c.fact 55 (f := .cls "Change") rfl)) ex.1, neB_ok ex.2.1, strB_ok ex.2.2.1⟩
  obtain ⟨fd_gives, F_gives⟩ := c.def_ 0 (d := d_gives) rfl
  obtain ⟨fd_row_text, F_row_text⟩ := c.def_ 1 (d := d_row_text) rfl
  obtain ⟨fd_ChangeX_initX, F_ChangeX_initX⟩ := c.def_ 2 (d := d_ChangeX_initX) rfl
  obtain ⟨fd_ChangeX_eqX, F_ChangeX_eqX⟩ := c.def_ 3 (d := d_ChangeX_eqX) rfl
  obtain ⟨fd_ChangeX_lenX, F_ChangeX_lenX⟩ := c.def_ 4 (d := d_ChangeX_lenX) rfl
  obtain ⟨fd_ChangeX_strX, F_ChangeX_strX⟩ := c.def_ 5 (d := d_ChangeX_strX) rfl
  obtain ⟨fd_Change_cells, F_Change_cells⟩ := c.def_ 6 (d := d_Change_cells) rfl
  obtain ⟨fd_Change_done, F_Change_done⟩ := c.def_ 7 (d := d_Change_done) rfl
  obtain ⟨fd_rows_of, F_rows_of⟩ := c.def_ 8 (d := d_rows_of) rfl
  obtain ⟨fd_plainest, F_plainest⟩ := c.def_ 9 (d := d_plainest) rfl
  obtain ⟨fd_behind, F_behind⟩ := c.def_ 10 (d := d_behind) rfl
  obtain ⟨fd_undone, F_undone⟩ := c.def_ 11 (d := d_undone) rfl
  obtain ⟨fd_table, F_table⟩ := c.def_ 12 (d := d_table) rfl
  obtain ⟨fd_found_change, F_found_change⟩ := c.def_ 13 (d := d_found_change) rfl
  obtain ⟨fd_change_text, F_change_text⟩ := c.def_ 14 (d := d_change_text) rfl
  obtain ⟨fd_plan_row_text, F_plan_row_text⟩ := c.def_ 15 (d := d_plan_row_text) rfl
  obtain ⟨fd_plan_text, F_plan_text⟩ := c.def_ 16 (d := d_plan_text) rfl
  obtain ⟨fd_is_number, F_is_number⟩ := c.def_ 17 (d := d_is_number) rfl
  obtain ⟨fd_number_of, F_number_of⟩ := c.def_ 18 (d := d_number_of) rfl
  obtain ⟨fd_text_of, F_text_of⟩ := c.def_ 19 (d := d_text_of) rfl
  obtain ⟨fd_change_row, F_change_row⟩ := c.def_ 20 (d := d_change_row) rfl
  obtain ⟨fd_read_change, F_read_change⟩ := c.def_ 21 (d := d_read_change) rfl
  obtain ⟨fd_plan_row, F_plan_row⟩ := c.def_ 22 (d := d_plan_row) rfl
  obtain ⟨fd_read_plan, F_read_plan⟩ := c.def_ 23 (d := d_read_plan) rfl
  obtain ⟨fd_law_bag, F_law_bag⟩ := c.def_ 24 (d := d_law_bag) rfl
  obtain ⟨fd_law_stirred, F_law_stirred⟩ := c.def_ 25 (d := d_law_stirred) rfl
  obtain ⟨fd_law_draw, F_law_draw⟩ := c.def_ 26 (d := d_law_draw) rfl
  obtain ⟨fd_law_alike, F_law_alike⟩ := c.def_ 27 (d := d_law_alike) rfl
  obtain ⟨fd_law_signs, F_law_signs⟩ := c.def_ 28 (d := d_law_signs) rfl
  obtain ⟨fd_law_text, F_law_text⟩ := c.def_ 29 (d := d_law_text) rfl
  obtain ⟨fd_law_row, F_law_row⟩ := c.def_ 30 (d := d_law_row) rfl
  obtain ⟨fd_law_rows, F_law_rows⟩ := c.def_ 31 (d := d_law_rows) rfl
  obtain ⟨fd_law_size, F_law_size⟩ := c.def_ 32 (d := d_law_size) rfl
  obtain ⟨fd_law_same, F_law_same⟩ := c.def_ 33 (d := d_law_same) rfl
  obtain ⟨fd_law_cells, F_law_cells⟩ := c.def_ 34 (d := d_law_cells) rfl
  obtain ⟨fd_law_done, F_law_done⟩ := c.def_ 35 (d := d_law_done) rfl
  obtain ⟨fd_law_plan_written, F_law_plan_written⟩ := c.def_ 36 (d := d_law_plan_written) rfl
  obtain ⟨fd_law_change_written, F_law_change_written⟩ := c.def_ 37 (d := d_law_change_written) rfl
  obtain ⟨fd_law_any_number, F_law_any_number⟩ := c.def_ 38 (d := d_law_any_number) rfl
  obtain ⟨fd_law_plan, F_law_plan⟩ := c.def_ 39 (d := d_law_plan) rfl
  obtain ⟨fd_law_change_right, F_law_change_right⟩ := c.def_ 40 (d := d_law_change_right) rfl
  obtain ⟨fd_law_told_written, F_law_told_written⟩ := c.def_ 41 (d := d_law_told_written) rfl
  obtain ⟨fd_law_plan_right, F_law_plan_right⟩ := c.def_ 42 (d := d_law_plan_right) rfl
  obtain ⟨fd_law, F_law⟩ := c.def_ 43 (d := d_law) rfl
  have D_gives : ∀ base, DO P w K mg base 1 "gives" ["row", "size"] [] (S2 (φgives K)) := fun base => ⟨_, _, [], ok_gives F_gives T , He.glo_ok X G (c.fact 16 (f := .glo "gives") rfl), F_gives.kp, F_gives.bindsN fun _ _ _ _ _ _ us hl => match us, hl with | [_, _], _ => rfl, .nil⟩
  have D_row_text : ∀ base, DO P w K mg base 1 "row_text" ["row"] [] (S1 (φrowtext K)) := fun base => ⟨_, _, [], ok_row_text F_row_text T , He.glo_ok X G (c.fact 17 (f := .glo "row_text") rfl), F_row_text.kp, F_row_text.bindsN fun _ _ _ _ _ _ us hl => match us, hl with | [_], _ => rfl, .nil⟩
  have DN_Change_2 : ∀ base, DN P w K mg base 2 "Change" ["self", "size", "rows"] [] (S3 (φinit K)) := fun base => ⟨_, [], ok_ChangeX_initX F_ChangeX_initX T (D_gives base), He.mkr_ok (c.fact 56 (f := .mkr "Change") rfl), He.glo_ok X G (c.fact 54 (f := .glo "Change") rfl), F_ChangeX_initX.bindsN fun _ _ _ _ _ _ us hl => match us, hl with | [_, _, _], _ => rfl, .nil⟩
  have DM_ChangeX_eqX : ∀ base, DM P w K mg base 6 "Change" "__eq__" ["self", "other"] [] (S2 (φceq K)) := fun base => ⟨_, [], ok_ChangeX_eqX F_ChangeX_eqX T , He.meth_ok (c.fact 59 (f := .meth "Change" "__eq__") rfl), T.k_Change, F_ChangeX_eqX.bindsN fun _ _ _ _ _ _ us hl => match us, hl with | [_, _], _ => rfl, .nil⟩
  have DM_ChangeX_lenX : ∀ base, DM P w K mg base 1 "Change" "__len__" ["self"] [] (S1 (φclen K)) := fun base => ⟨_, [], ok_ChangeX_lenX F_ChangeX_lenX T , He.meth_ok (c.fact 60 (f := .meth "Change" "__len__") rfl), T.k_Change, F_ChangeX_lenX.bindsN fun _ _ _ _ _ _ us hl => match us, hl with | [_], _ => rfl, .nil⟩
  have DM_ChangeX_strX : ∀ base, DM P w K mg base 2 "Change" "__str__" ["self"] [] (S1 (φstr K)) := fun base => ⟨_, [], ok_ChangeX_strX F_ChangeX_strX T (D_row_text base), He.meth_ok (c.fact 61 (f := .meth "Change" "__str__") rfl), T.k_Change, F_ChangeX_strX.bindsN fun _ _ _ _ _ _ us hl => match us, hl with | [_], _ => rfl, .nil⟩
  have DM_Change_cells : ∀ base, DM P w K mg base 1 "Change" "cells" ["self"] [] (S1 (φcells K)) := fun base => ⟨_, [], ok_Change_cells F_Change_cells T , He.meth_ok (c.fact 62 (f := .meth "Change" "cells") rfl), T.k_Change, F_Change_cells.bindsN fun _ _ _ _ _ _ us hl => match us, hl with | [_], _ => rfl, .nil⟩
  have DM_Change_done : ∀ base, DM P w K mg base 2 "Change" "done" ["self", "old"] [] (S2 (φdoneC K)) := fun base => ⟨_, [], ok_Change_done F_Change_done T (DM_Change_cells base), He.meth_ok (c.fact 63 (f := .meth "Change" "done") rfl), T.k_Change, F_Change_done.bindsN fun _ _ _ _ _ _ us hl => match us, hl with | [_, _], _ => rfl, .nil⟩
  have D_rows_of : ∀ base, DO P w K mg base 1 "rows_of" ["cells"] [] (S1 (φrows_of K)) := fun base => ⟨_, _, [], ok_rows_of F_rows_of T , He.glo_ok X G (c.fact 18 (f := .glo "rows_of") rfl), F_rows_of.kp, F_rows_of.bindsN fun _ _ _ _ _ _ us hl => match us, hl with | [_], _ => rfl, .nil⟩
  have D_plainest : ∀ base, DO P w K mg base 4 "plainest" ["change"] [] (S1 (φplainest K)) := fun base => ⟨_, _, [], ok_plainest F_plainest T (D_rows_of base) (DM_Change_cells base) (DN_Change_2 base), He.glo_ok X G (c.fact 19 (f := .glo "plainest") rfl), F_plainest.kp, F_plainest.bindsN fun _ _ _ _ _ _ us hl => match us, hl with | [_], _ => rfl, .nil⟩
  have D_behind : ∀ base, DO P w K mg base 4 "behind" ["first", "second"] [] (S2 (φbehind K)) := fun base => ⟨_, _, [], ok_behind F_behind T (D_rows_of base) (DM_Change_cells base) (DN_Change_2 base), He.glo_ok X G (c.fact 20 (f := .glo "behind") rfl), F_behind.kp, F_behind.bindsN fun _ _ _ _ _ _ us hl => match us, hl with | [_, _], _ => rfl, .nil⟩
  have D_undone : ∀ base, DO P w K mg base 4 "undone" ["change", "old"] [] (S2 (φundone K)) := fun base => ⟨_, _, [], ok_undone F_undone T (D_rows_of base) (DM_Change_cells base) (DN_Change_2 base), He.glo_ok X G (c.fact 21 (f := .glo "undone") rfl), F_undone.kp, F_undone.bindsN fun _ _ _ _ _ _ us hl => match us, hl with | [_, _], _ => rfl, .nil⟩
  have D_table : ∀ base, DO P w K mg base 1 "table" ["old", "new", "price"] [] (S3 (φtable K)) := fun base => ⟨_, _, [], ok_table F_table T , He.glo_ok X G (c.fact 22 (f := .glo "table") rfl), F_table.kp, F_table.bindsN fun _ _ _ _ _ _ us hl => match us, hl with | [_, _, _], _ => rfl, .nil⟩
  have D_found_change_2 : ∀ base, DO P w K mg base 4 "found_change" ["old", "new", "price"] [.int 4] (S3 (φfound K)) := fun base => by
    obtain ⟨ds, rd, bd⟩ := FunD.binds1 F_found_change (ps := ["old", "new", "price"]) 2 0 (by intro z; cases z) rfl (fun T' kV doc pm an cdv ct us its hu hi => match us, its, hu, hi with | [_, _], [_], _, _ => ⟨_, rfl, rfl⟩)
    exact ⟨_, _, ds, ok_found_change F_found_change T (D_table base) (DN_Change_2 base), He.glo_ok X G (c.fact 23 (f := .glo "found_change") rfl), F_found_change.kp, bd, rd⟩
  have D_change_text : ∀ base, DO P w K mg base 5 "change_text" ["change"] [] (S1 (φstr K)) := fun base => ⟨_, _, [], ok_change_text F_change_text T (DM_ChangeX_strX base), He.glo_ok X G (c.fact 24 (f := .glo "change_text") rfl), F_change_text.kp, F_change_text.bindsN fun _ _ _ _ _ _ us hl => match us, hl with | [_], _ => rfl, .nil⟩
  have DK_change_text_0_change : ∀ base, DK P w K mg base 5 "change_text" ["change"] 0 ["change"] [(1, 0)] [] (S1 (φstr K)) := fun base => ⟨_, _, [], ok_change_text F_change_text T (DM_ChangeX_strX base), He.glo_ok X G (c.fact 24 (f := .glo "change_text") rfl), F_change_text.kp, kbN F_change_text (fun _ _ _ _ _ _ us ws hu hw => match us, ws, hu, hw with | [], [_], _, _ => rfl)⟩
  have D_plan_row_text : ∀ base, DO P w K mg base 1 "plan_row_text" ["row"] [] (S1 (φprt71 K)) := fun base => ⟨_, _, [], ok_plan_row_text F_plan_row_text T , He.glo_ok X G (c.fact 25 (f := .glo "plan_row_text") rfl), F_plan_row_text.kp, F_plan_row_text.bindsN fun _ _ _ _ _ _ us hl => match us, hl with | [_], _ => rfl, .nil⟩
  have D_plan_text : ∀ base, DO P w K mg base 2 "plan_text" ["plan"] [] (S1 (φptext71 K)) := fun base => ⟨_, _, [], ok_plan_text F_plan_text T (D_plan_row_text base), He.glo_ok X G (c.fact 26 (f := .glo "plan_text") rfl), F_plan_text.kp, F_plan_text.bindsN fun _ _ _ _ _ _ us hl => match us, hl with | [_], _ => rfl, .nil⟩
  have DK_plan_text_0_plan : ∀ base, DK P w K mg base 2 "plan_text" ["plan"] 0 ["plan"] [(1, 0)] [] (S1 (φptext71 K)) := fun base => ⟨_, _, [], ok_plan_text F_plan_text T (D_plan_row_text base), He.glo_ok X G (c.fact 26 (f := .glo "plan_text") rfl), F_plan_text.kp, kbN F_plan_text (fun _ _ _ _ _ _ us ws hu hw => match us, ws, hu, hw with | [], [_], _, _ => rfl)⟩
  have D_is_number : ∀ base, DO P w K mg base 1 "is_number" ["word"] [] (S1 (φisnum71 K)) := fun base => ⟨_, _, [], ok_is_number F_is_number T , He.glo_ok X G (c.fact 27 (f := .glo "is_number") rfl), F_is_number.kp, F_is_number.bindsN fun _ _ _ _ _ _ us hl => match us, hl with | [_], _ => rfl, .nil⟩
  have D_number_of : ∀ base, DO P w K mg base 2 "number_of" ["word"] [] (S1 (φnumof71 K)) := fun base => ⟨_, _, [], ok_number_of F_number_of T (D_is_number base), He.glo_ok X G (c.fact 28 (f := .glo "number_of") rfl), F_number_of.kp, F_number_of.bindsN fun _ _ _ _ _ _ us hl => match us, hl with | [_], _ => rfl, .nil⟩
  have D_text_of : ∀ base, DO P w K mg base 1 "text_of" ["word"] [] (S1 (φtextof71 K)) := fun base => ⟨_, _, [], ok_text_of F_text_of T , He.glo_ok X G (c.fact 29 (f := .glo "text_of") rfl), F_text_of.kp, F_text_of.bindsN fun _ _ _ _ _ _ us hl => match us, hl with | [_], _ => rfl, .nil⟩
  have D_change_row : ∀ base, DO P w K mg base 3 "change_row" ["words"] [] (S1 (φcrow71 K)) := fun base => ⟨_, _, [], ok_change_row F_change_row T (D_number_of base) (D_text_of base), He.glo_ok X G (c.fact 30 (f := .glo "change_row") rfl), F_change_row.kp, F_change_row.bindsN fun _ _ _ _ _ _ us hl => match us, hl with | [_], _ => rfl, .nil⟩
  have D_read_change : ∀ base, DO P w K mg base 4 "read_change" ["text"] [] (S1 (φrchange71 K)) := fun base => ⟨_, _, [], ok_read_change F_read_change T (D_change_row base) (D_number_of base) (DN_Change_2 base), He.glo_ok X G (c.fact 31 (f := .glo "read_change") rfl), F_read_change.kp, F_read_change.bindsN fun _ _ _ _ _ _ us hl => match us, hl with | [_], _ => rfl, .nil⟩
  have DK_read_change_0_text : ∀ base, DK P w K mg base 4 "read_change" ["text"] 0 ["text"] [(1, 0)] [] (S1 (φrchange71 K)) := fun base => ⟨_, _, [], ok_read_change F_read_change T (D_change_row base) (D_number_of base) (DN_Change_2 base), He.glo_ok X G (c.fact 31 (f := .glo "read_change") rfl), F_read_change.kp, kbN F_read_change (fun _ _ _ _ _ _ us ws hu hw => match us, ws, hu, hw with | [], [_], _, _ => rfl)⟩
  have D_plan_row : ∀ base, DO P w K mg base 3 "plan_row" ["words"] [] (S1 (φprow71 K)) := fun base => ⟨_, _, [], ok_plan_row F_plan_row T (D_number_of base) (D_text_of base), He.glo_ok X G (c.fact 32 (f := .glo "plan_row") rfl), F_plan_row.kp, F_plan_row.bindsN fun _ _ _ _ _ _ us hl => match us, hl with | [_], _ => rfl, .nil⟩
  have D_read_plan : ∀ base, DO P w K mg base 4 "read_plan" ["text"] [] (S1 (φrplan71 K)) := fun base => ⟨_, _, [], ok_read_plan F_read_plan T (D_plan_row base), He.glo_ok X G (c.fact 33 (f := .glo "read_plan") rfl), F_read_plan.kp, F_read_plan.bindsN fun _ _ _ _ _ _ us hl => match us, hl with | [_], _ => rfl, .nil⟩
  have DK_read_plan_0_text : ∀ base, DK P w K mg base 4 "read_plan" ["text"] 0 ["text"] [(1, 0)] [] (S1 (φrplan71 K)) := fun base => ⟨_, _, [], ok_read_plan F_read_plan T (D_plan_row base), He.glo_ok X G (c.fact 33 (f := .glo "read_plan") rfl), F_read_plan.kp, kbN F_read_plan (fun _ _ _ _ _ _ us ws hu hw => match us, ws, hu, hw with | [], [_], _, _ => rfl)⟩
  have D_law_bag : ∀ base, DO P w K mg base 1 "_law_bag" ["script"] [] (S1 (φbag K)) := fun base => ⟨_, _, [], ok_law_bag F_law_bag T , He.glo_ok X G (c.fact 34 (f := .glo "_law_bag") rfl), F_law_bag.kp, F_law_bag.bindsN fun _ _ _ _ _ _ us hl => match us, hl with | [_], _ => rfl, .nil⟩
  have D_law_stirred : ∀ base, DO P w K mg base 1 "_law_stirred" ["bag", "many"] [] (S2 (φdraw K)) := fun base => ⟨_, _, [], ok_law_stirred F_law_stirred T , He.glo_ok X G (c.fact 35 (f := .glo "_law_stirred") rfl), F_law_stirred.kp, F_law_stirred.bindsN fun _ _ _ _ _ _ us hl => match us, hl with | [_, _], _ => rfl, .nil⟩
  have D_law_draw : ∀ base, DO P w K mg base 2 "_law_draw" ["bag", "many"] [] (S2 (φdraw K)) := fun base => ⟨_, _, [], ok_law_draw F_law_draw T (D_law_stirred base), He.glo_ok X G (c.fact 36 (f := .glo "_law_draw") rfl), F_law_draw.kp, F_law_draw.bindsN fun _ _ _ _ _ _ us hl => match us, hl with | [_, _], _ => rfl, .nil⟩
  have D_law_alike : ∀ base, DO P w K mg base 6 "_law_alike" ["found", "due"] [] (S2 (φalike K 6)) := fun base => recDO (φ := fun n => (S2 (φalike K n))) (fun vs H Q E h => alike0 h) (He.glo_ok X G (c.fact 37 (f := .glo "_law_alike") rfl)) F_law_alike.kp (F_law_alike.bindsN fun _ _ _ _ _ _ us hl => match us, hl with | [_, _], _ => rfl) (fun n ih => ok_law_alike F_law_alike T ih) 6
  have D_law_signs : ∀ base, DO P w K mg base 1 "_law_signs" [] [] (S0 φsigns) := fun base => ⟨_, _, [], ok_law_signs F_law_signs T , He.glo_ok X G (c.fact 38 (f := .glo "_law_signs") rfl), F_law_signs.kp, F_law_signs.bindsN fun _ _ _ _ _ _ us hl => match us, hl with | [], _ => rfl, .nil⟩
  have D_law_text : ∀ base, DO P w K mg base 3 "_law_text" ["bag", "size"] [] (S2 (φtextC K)) := fun base => ⟨_, _, [], ok_law_text F_law_text T (D_law_draw base) (D_law_signs base), He.glo_ok X G (c.fact 39 (f := .glo "_law_text") rfl), F_law_text.kp, F_law_text.bindsN fun _ _ _ _ _ _ us hl => match us, hl with | [_, _], _ => rfl, .nil⟩
  have D_law_row : ∀ base, DO P w K mg base 4 "_law_row" ["bag", "size", "left", "last"] [] (S4 (φrowC K)) := fun base => ⟨_, _, [], ok_law_row F_law_row T (D_law_draw base) (D_law_text base), He.glo_ok X G (c.fact 40 (f := .glo "_law_row") rfl), F_law_row.kp, F_law_row.bindsN fun _ _ _ _ _ _ us hl => match us, hl with | [_, _, _, _], _ => rfl, .nil⟩
  have D_law_rows : ∀ base, DO P w K mg base 5 "_law_rows" ["bag", "size", "many", "most"] [] (S4 (φrowsC K)) := fun base => ⟨_, _, [], ok_law_rows F_law_rows T (D_law_draw base) (D_law_row base), He.glo_ok X G (c.fact 41 (f := .glo "_law_rows") rfl), F_law_rows.kp, F_law_rows.bindsN fun _ _ _ _ _ _ us hl => match us, hl with | [_, _, _, _], _ => rfl, .nil⟩
  have D_law_size : ∀ base, DO P w K mg base 3 "_law_size" ["bag"] [] (S1 (φsize1 K)) := fun base => ⟨_, _, [], ok_law_size F_law_size T (D_law_draw base), He.glo_ok X G (c.fact 42 (f := .glo "_law_size") rfl), F_law_size.kp, F_law_size.bindsN fun _ _ _ _ _ _ us hl => match us, hl with | [_], _ => rfl, .nil⟩
  have D_law_same : ∀ base, DO P w K mg base 10 "_law_same" ["found", "size", "rows"] [] (S3 (φsame K)) := fun base => ⟨_, _, [], ok_law_same F_law_same T (D_law_alike base), He.glo_ok X G (c.fact 43 (f := .glo "_law_same") rfl), F_law_same.kp, F_law_same.bindsN fun _ _ _ _ _ _ us hl => match us, hl with | [_, _, _], _ => rfl, .nil⟩
  have D_law_cells : ∀ base, DO P w K mg base 1 "_law_cells" ["rows"] [] (S1 (φlcells K)) := fun base => ⟨_, _, [], ok_law_cells F_law_cells T , He.glo_ok X G (c.fact 44 (f := .glo "_law_cells") rfl), F_law_cells.kp, F_law_cells.bindsN fun _ _ _ _ _ _ us hl => match us, hl with | [_], _ => rfl, .nil⟩
  have D_law_done : ∀ base, DO P w K mg base 1 "_law_done" ["cells", "old"] [] (S2 (φldone K)) := fun base => ⟨_, _, [], ok_law_done F_law_done T , He.glo_ok X G (c.fact 45 (f := .glo "_law_done") rfl), F_law_done.kp, F_law_done.bindsN fun _ _ _ _ _ _ us hl => match us, hl with | [_, _], _ => rfl, .nil⟩
  have D_law_plan_written : ∀ base, DO P w K mg base 1 "_law_plan_written" ["some_plan"] [] (S1 (φptext71 K)) := fun base => ⟨_, _, [], ok_law_plan_written F_law_plan_written T , He.glo_ok X G (c.fact 46 (f := .glo "_law_plan_written") rfl), F_law_plan_written.kp, F_law_plan_written.bindsN fun _ _ _ _ _ _ us hl => match us, hl with | [_], _ => rfl, .nil⟩
  have D_law_change_written : ∀ base, DO P w K mg base 2 "_law_change_written" ["size", "rows"] [] (S2 (φcwrit71 K)) := fun base => ⟨_, _, [], ok_law_change_written F_law_change_written T (D_law_plan_written base), He.glo_ok X G (c.fact 47 (f := .glo "_law_change_written") rfl), F_law_change_written.kp, F_law_change_written.bindsN fun _ _ _ _ _ _ us hl => match us, hl with | [_, _], _ => rfl, .nil⟩
  have D_law_any_number : ∀ base, DO P w K mg base 3 "_law_any_number" ["bag"] [] (S1 (φanynum71 K)) := fun base => ⟨_, _, [], ok_law_any_number F_law_any_number T (D_law_draw base), He.glo_ok X G (c.fact 48 (f := .glo "_law_any_number") rfl), F_law_any_number.kp, F_law_any_number.bindsN fun _ _ _ _ _ _ us hl => match us, hl with | [_], _ => rfl, .nil⟩
  have D_law_plan : ∀ base, DO P w K mg base 4 "_law_plan" ["bag"] [] (S1 (φplan71 K)) := fun base => ⟨_, _, [], ok_law_plan F_law_plan T (D_law_any_number base) (D_law_draw base) (D_law_text base), He.glo_ok X G (c.fact 49 (f := .glo "_law_plan") rfl), F_law_plan.kp, F_law_plan.bindsN fun _ _ _ _ _ _ us hl => match us, hl with | [_], _ => rfl, .nil⟩
  have D_law_change_right : ∀ base, DO P w K mg base 11 "_law_change_right" ["size", "rows", "elder"] [] (S3 (φcright71 K)) := fun base => ⟨_, _, [], ok_law_change_right F_law_change_right T (D_law_alike base) (D_law_cells base) (D_law_change_written base) (D_law_done base) (D_law_same base) (D_change_text base) (D_read_change base) (DK_change_text_0_change base) (DK_read_change_0_text base) (DM_ChangeX_eqX base) (DM_ChangeX_lenX base) (DM_ChangeX_strX base) (DM_Change_cells base) (DM_Change_done base) (DN_Change_2 base), He.glo_ok X G (c.fact 50 (f := .glo "_law_change_right") rfl), F_law_change_right.kp, F_law_change_right.bindsN fun _ _ _ _ _ _ us hl => match us, hl with | [_, _, _], _ => rfl, .nil⟩
  have D_law_told_written : ∀ base, DO P w K mg base 11 "_law_told_written" ["size", "rows", "elder"] [] (S3 (φcright71 K)) := fun base => ⟨_, _, [], ok_law_told_written F_law_told_written T (D_law_alike base) (D_law_change_written base) (D_behind base) (D_change_text base) (D_found_change_2 base) (D_plainest base) (D_read_change base) (D_undone base) (DM_ChangeX_strX base) (DM_Change_done base) (DN_Change_2 base), He.glo_ok X G (c.fact 51 (f := .glo "_law_told_written") rfl), F_law_told_written.kp, F_law_told_written.bindsN fun _ _ _ _ _ _ us hl => match us, hl with | [_, _, _], _ => rfl, .nil⟩
  have D_law_plan_right : ∀ base, DO P w K mg base 11 "_law_plan_right" ["some_plan"] [] (S1 (φpright71 K)) := fun base => ⟨_, _, [], ok_law_plan_right F_law_plan_right T (D_law_alike base) (D_law_plan_written base) (D_plan_text base) (D_read_plan base) (DK_plan_text_0_plan base) (DK_read_plan_0_text base), He.glo_ok X G (c.fact 52 (f := .glo "_law_plan_right") rfl), F_law_plan_right.kp, F_law_plan_right.bindsN fun _ _ _ _ _ _ us hl => match us, hl with | [_], _ => rfl, .nil⟩
  have e := hfa.symm.trans (He.glo_ok X G (c.fact 53 (f := .glo "law") rfl))
  cases e
  have b := FunD.bindsA (ps := ["script"]) F_law fun _ _ _ _ _ _ us hl => match us, hl with | [_], _ => rfl
  exact ⟨fd_law, fun s v => b s [v] rfl, fun base _ _ => ok_law F_law T (D_law_bag base) (D_law_change_right base) (D_law_draw base) (D_law_plan base) (D_law_plan_right base) (D_law_rows base) (D_law_size base) (D_law_text base) (D_law_told_written base)⟩
end Z
theorem PySem.Challenge.cw_remadehere_k71_written_and_read_holds : PySem.Challenge.rw_remadehere_k71_written_and_read.Holds :=
  Z.close fun _ _ _ _ _ _ X G hfa c ex => Z.facts X G hfa c ex
