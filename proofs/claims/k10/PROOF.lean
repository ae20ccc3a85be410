import PyProof.Rows.All
import Wide.All
import OpenK.AllK
import Wide.FinOn
import KE.KStateDown
import Lean
import HandS.Base
import HandS.Call
import HandS.List
import HandS.Comp
import HandS.Ends
import HandS.Dict
import HandS.Iter
import HandS.Text
import HandS.Words
import HandS.WordsList
import HandS.Defaults
import HandS.IsInst
import HandS.Wide
import HandS.WideBits
import HandS.Conv
import HandS.Flow
import HandS.Style
import HandS.Flt
import HandS.More
import HandS.Set
import HandS.SetFor
import HandS.Strs
import HandS.SortInts
import HandS.MakeKw
import HandS.MakeKwOnly
import HandS.Codes
import HandS.SetKeys
import HandS.FStr
import HandS.Head0
import HandS.Head1
import HandS.Head2
import HandS.HeadEnd
import HandS.HeadHook1
import HandS.HeadHook2
import PyProof.DictMoreH
import PyProof.ListStr
import HandS.OwnEq
import PyProof.StrLawsIn
import PyProof.StrLawsFirst
import PyProof.StrOps2
import HandS.Exc
import HandS.ExcOwn
import HandS.TryOnly
import HandS.WordsExc
import HandS.RevTup
import HandS.Rev
import PyProof.CallStr
import PyProof.FString2
import PyProof.FString3
import OpenK.KOps
import HandS.RevRange
import HandS.TupLe
import HandS.RaiseMore
import PySem.Challenge.RW_remadehere_k10_whole_changes_stay
set_option Elab.async false
set_option linter.all false
set_option maxRecDepth 100000
set_option maxHeartbeats 8000000
namespace R
open PySem L2

/-! ### worlds: F the part that stays, H all that is tracked -/
theorem ne_none {α : Type} {o : Option α} {x : α} (h : o = some x) : o ≠ none := fun e => by rw [h] at e; cases e
theorem Same.new {H : Hp} {p : Addr} {o : HO} (h : H p = none) : Same H (upd H p o) := fun a u e => by
  rw [upd_ne (ne_of_none e h)]
  exact e
theorem rd_same {F H : Hp} {a : Addr} {u : HO} (e : Same F H) (h : Rd F a u) : Rd H a u := by
  rcases h with h | ⟨o, h⟩
  · exact .inl (e _ _ h)
  · exact .inr ⟨o, e _ _ h⟩
theorem sqL_same {K : PySem.W.Frag} {F H : Hp} {a : Addr} {xs : List V} (e : Same F H) (h : SqL K F a xs) : SqL K H a xs := by
  rcases h with h | h
  · exact .inl (rd_same e h)
  · exact .inr h
theorem sqT_same {K : PySem.W.Frag} {F H : Hp} {a : Addr} {xs : List V} (e : Same F H) (h : SqT K F a xs) : SqT K H a xs := by
  rcases h with h | h
  · exact .inl (rd_same e h)
  · exact .inr h
theorem sqL_of {K : PySem.W.Frag} {H : Hp} {a : Addr} {xs : List V} (h : H a = some (.lst xs)) : SqL K H a xs := .inl (.inl h)
theorem sqT_of {K : PySem.W.Frag} {H : Hp} {a : Addr} {xs : List V} (h : H a = some (.tup xs)) : SqT K H a xs := .inl (.inl h)
mutual
theorem dp_same {K : PySem.W.Frag} {F H : Hp} (e : Same F H) : ∀ (d : PyData) (v : V), Dp K F v d → Dp K H v d
  | .none, _, .non => .non
  | .bool _, _, .bl b => .bl b
  | .int _, _, .int i => .int i
  | .str _, _, .str x => .str x
  | .list ds, _, .lst h hs => .lst (sqL_same e h) (dpa_same e ds _ hs)
  | .tuple ds, _, .tup h hs => .tup (sqT_same e h) (dpa_same e ds _ hs)
theorem dpa_same {K : PySem.W.Frag} {F H : Hp} (e : Same F H) : ∀ (ds : List PyData) (vs : List V), DpAll K F vs ds → DpAll K H vs ds
  | [], _, .nil => .nil
  | d :: ds, _, .cons h hs => .cons (dp_same e d _ h) (dpa_same e ds _ hs)
end

/-- what a deed does: F grows to F2, H to H2; of what H has outside of F only the objects at M change -/
structure Gr (M : List Addr) (F H F2 H2 : Hp) : Prop where
  ff : Same F F2
  fh : Same F2 H2
  hh : ∀ a o, a ∉ M → H a = some o → H2 a = some o
  al : ∀ a, H a ≠ none → H2 a ≠ none
  nw : ∀ a, H a ≠ none → F a = none → F2 a = none
theorem Gr.refl {M : List Addr} {F H : Hp} (h : Same F H) : Gr M F H F H := ⟨Same.refl F, h, fun _ _ _ e => e, fun _ e => e, fun _ _ e => e⟩
theorem Gr.trans {M : List Addr} {F H F1 H1 F2 H2 : Hp} (a : Gr M F H F1 H1) (b : Gr M F1 H1 F2 H2) : Gr M F H F2 H2 :=
  ⟨a.ff.trans b.ff, b.fh, fun x o n e => b.hh x o n (a.hh x o n e), fun x e => b.al x (a.al x e), fun x e n => b.nw x (a.al x e) (a.nw x e n)⟩
theorem Gr.sub {M N : List Addr} {F H F2 H2 : Hp} (a : Gr M F H F2 H2) (h : ∀ x ∈ M, x ∈ N) : Gr N F H F2 H2 := ⟨a.ff, a.fh, fun x o n e => a.hh x o (fun m => n (h x m)) e, a.al, a.nw⟩
theorem Gr.up {M : List Addr} {F H F2 H2 : Hp} (a : Gr [] F H F2 H2) : Gr M F H F2 H2 := a.sub fun _ h => by cases h
/-- a new object that stays -/
theorem Gr.im {M : List Addr} {F H : Hp} {p : Addr} {o : HO} (w : Same F H) (h : H p = none) : Gr M F H (upd F p o) (upd H p o) := by
  have hF : F p = none := w.free h
  refine ⟨Same.new hF, fun a u e => ?_, fun a u _ e => ?_, fun a e => ?_, fun a e n => ?_⟩
  · by_cases q : a = p
    · subst q
      rw [upd_same] at e ⊢
      exact e
    · rw [upd_ne q] at e ⊢
      exact w a u e
  · rw [upd_ne (ne_of_none e h)]
    exact e
  · by_cases q : a = p
    · subst q
      rw [upd_same]
      exact fun z => nomatch z
    · rw [upd_ne q]
      exact e
  · have q : a ≠ p := fun z => by subst z; exact e h
    rw [upd_ne q]
    exact n
/-- a new object that may change -/
theorem Gr.new {M : List Addr} {F H : Hp} {p : Addr} {o : HO} (w : Same F H) (h : H p = none) : Gr M F H F (upd H p o) := by
  refine ⟨Same.refl F, w.trans (Same.new h), fun a u _ e => ?_, fun a e => ?_, fun a e n => n⟩
  · rw [upd_ne (ne_of_none e h)]
    exact e
  · by_cases q : a = p
    · subst q
      rw [upd_same]
      exact fun z => nomatch z
    · rw [upd_ne q]
      exact e
/-- a change of an object that may change -/
theorem Gr.wr {M : List Addr} {F H : Hp} {p : Addr} {o : HO} (w : Same F H) (h : F p = none) (hm : p ∈ M) : Gr M F H F (upd H p o) := by
  refine ⟨Same.refl F, fun a u e => ?_, fun a u n e => ?_, fun a e => ?_, fun a e n => n⟩
  · have q : a ≠ p := ne_of_none e h
    rw [upd_ne q]
    exact w a u e
  · have q : a ≠ p := fun z => by subst z; exact n hm
    rw [upd_ne q]
    exact e
  · by_cases q : a = p
    · subst q
      rw [upd_same]
      exact fun z => nomatch z
    · rw [upd_ne q]
      exact e
/-- .. of one that was new behind the start -/
theorem Gr.wrn {M : List Addr} {F0 H0 F H : Hp} {p : Addr} {o : HO} (g : Gr M F0 H0 F H) (h : F p = none) (hn : H0 p = none) : Gr M F0 H0 F (upd H p o) := by
  refine ⟨g.ff, fun a u e => ?_, fun a u n e => ?_, fun a e => ?_, g.nw⟩
  · have q : a ≠ p := ne_of_none e h
    rw [upd_ne q]
    exact g.fh a u e
  · have q : a ≠ p := fun z => by subst z; rw [hn] at e; cases e
    rw [upd_ne q]
    exact g.hh a u n e
  · by_cases q : a = p
    · subst q
      rw [upd_same]
      exact fun z => nomatch z
    · rw [upd_ne q]
      exact g.al a e
/-- an object that may change -/
structure Mu (F H : Hp) (p : Addr) (o : HO) : Prop where
  n : F p = none
  h : H p = some o
theorem Gr.mu {M : List Addr} {F H F2 H2 : Hp} {p : Addr} {o : HO} (g : Gr M F H F2 H2) (m : Mu F H p o) (hp : p ∉ M) : Mu F2 H2 p o := ⟨g.nw p (ne_none m.h) m.n, g.hh p o hp m.h⟩
theorem Gr.mu0 {F H F2 H2 : Hp} {p : Addr} {o : HO} (g : Gr [] F H F2 H2) (m : Mu F H p o) : Mu F2 H2 p o := g.mu m (fun h => nomatch h)
theorem Mu.new {F H : Hp} {p : Addr} {o : HO} (w : Same F H) (h : H p = none) : Mu F (upd H p o) p o := ⟨w.free h, upd_same⟩
theorem Mu.wr {F H : Hp} {p : Addr} {o u : HO} (m : Mu F H p o) : Mu F (upd H p u) p u := ⟨m.n, upd_same⟩
theorem Mu.oth {F H : Hp} {p q : Addr} {o u : HO} (m : Mu F H p o) (h : p ≠ q) : Mu F (upd H q u) p o := ⟨m.n, by rw [upd_ne h]; exact m.h⟩
theorem Mu.sq {K : PySem.W.Frag} {F H : Hp} {p : Addr} {xs : List V} (m : Mu F H p (.lst xs)) : SqL K H p xs := sqL_of m.h
theorem Mu.ne_new {F H : Hp} {p q : Addr} {o : HO} (m : Mu F H p o) (h : H q = none) : p ≠ q := ne_of_none m.h h
theorem upd_at {F : Hp} {p : Addr} {o : HO} : upd F p o p = some o := upd_same

/-! ### promises by the number of arguments -/
def S1 (φ : V → Hp → VK → Prop) : Sp := fun vs H Q _ => match vs with
  | [a] => φ a H Q
  | _ => False
def S2 (φ : V → V → Hp → VK → Prop) : Sp := fun vs H Q _ => match vs with
  | [a, b] => φ a b H Q
  | _ => False
def S3 (φ : V → V → V → Hp → VK → Prop) : Sp := fun vs H Q _ => match vs with
  | [a, b, c] => φ a b c H Q
  | _ => False
def S4 (φ : V → V → V → V → Hp → VK → Prop) : Sp := fun vs H Q _ => match vs with
  | [a, b, c, d] => φ a b c d H Q
  | _ => False
def S5 (φ : V → V → V → V → V → Hp → VK → Prop) : Sp := fun vs H Q _ => match vs with
  | [a, b, c, d, e] => φ a b c d e H Q
  | _ => False
def S6 (φ : V → V → V → V → V → V → Hp → VK → Prop) : Sp := fun vs H Q _ => match vs with
  | [a, b, c, d, e, f] => φ a b c d e f H Q
  | _ => False
def S7 (φ : V → V → V → V → V → V → V → Hp → VK → Prop) : Sp := fun vs H Q _ => match vs with
  | [a, b, c, d, e, f, g] => φ a b c d e f g H Q
  | _ => False
def S0 (φ : Hp → VK → Prop) : Sp := fun vs H Q _ => match vs with
  | [] => φ H Q
  | _ => False

theorem S0.len {φ : Hp → VK → Prop} {vs : List V} {H : Hp} {Q : VK} {E : XK} (h : S0 φ vs H Q E) : vs.length = 0 := by
  match vs, h with
  | [], _ => rfl
theorem S1.len {φ : V → Hp → VK → Prop} {vs : List V} {H : Hp} {Q : VK} {E : XK} (h : S1 φ vs H Q E) : vs.length = 1 := by
  match vs, h with
  | [_], _ => rfl
theorem S2.len {φ : V → V → Hp → VK → Prop} {vs : List V} {H : Hp} {Q : VK} {E : XK} (h : S2 φ vs H Q E) : vs.length = 2 := by
  match vs, h with
  | [_, _], _ => rfl
theorem S3.len {φ : V → V → V → Hp → VK → Prop} {vs : List V} {H : Hp} {Q : VK} {E : XK} (h : S3 φ vs H Q E) : vs.length = 3 := by
  match vs, h with
  | [_, _, _], _ => rfl
theorem S4.len {φ : V → V → V → V → Hp → VK → Prop} {vs : List V} {H : Hp} {Q : VK} {E : XK} (h : S4 φ vs H Q E) : vs.length = 4 := by
  match vs, h with
  | [_, _, _, _], _ => rfl
theorem S5.len {φ : V → V → V → V → V → Hp → VK → Prop} {vs : List V} {H : Hp} {Q : VK} {E : XK} (h : S5 φ vs H Q E) : vs.length = 5 := by
  match vs, h with
  | [_, _, _, _, _], _ => rfl
theorem S6.len {φ : V → V → V → V → V → V → Hp → VK → Prop} {vs : List V} {H : Hp} {Q : VK} {E : XK} (h : S6 φ vs H Q E) : vs.length = 6 := by
  match vs, h with
  | [_, _, _, _, _, _], _ => rfl
theorem S7.len {φ : V → V → V → V → V → V → V → Hp → VK → Prop} {vs : List V} {H : Hp} {Q : VK} {E : XK} (h : S7 φ vs H Q E) : vs.length = 7 := by
  match vs, h with
  | [_, _, _, _, _, _, _], _ => rfl

/-! ### a def as it stands, with its promise -/
structure DO (P : Program) (w : World) (K : PySem.W.Frag) (mg : Str → Option Value) (base : Heap) (k : Nat) (x : Str) (ps : List Str) (dvs : List V) (sp : Sp) : Prop where
  ex : ∃ (f : Addr) (fd : FuncData) (ds : List Value), FnOk P w K mg base CX0 k f fd ps sp ∧ mg x = some (.ref f) ∧ PySem.W.keepIn K (.ref f) = true ∧ Binds K fd ps ds ∧ Vals dvs ds
section
variable {X : Cx} {k j : Nat} {ps : List Str} {sp : Sp} {dvs : List V} {x : Str} {p pos : Pos} {e : Expr} {es : List Expr} {t : TA}
theorem pcall (D : DO X.prog X.w X.K X.mg X.base k x ps dvs sp) (hr : Room j X.A) (ha : PA X (e :: es) t) (hj : k ≤ j := by first | decide | exact Nat.le_refl _ | omega) (hg : Gl X x := by rfl) (hdb : (x == ("__debug__" : Str)) = false := by decide)
    (he : starEach (e :: es) X.env = (false, eval e X.env) :: starEach es X.env := by rfl) (hpl : (backTo pos (starEach es X.env)).any (·.1) = false := by rfl) :
    PE X (.Call (.Name x p) (e :: es) [] pos) (tCall sp dvs E0 t) := by
  obtain ⟨f, fd, ds, F, hm, hk, hb, hd⟩ := D.ex
  exact pe_call F (hr.mono hj) hg hm hk hb hd pass0 ha hdb he hpl
theorem pcall0 (D : DO X.prog X.w X.K X.mg X.base k x ps dvs sp) (hr : Room j X.A) (hj : k ≤ j := by first | decide | exact Nat.le_refl _ | omega) (hg : Gl X x := by rfl) (hdb : (x == ("__debug__" : Str)) = false := by decide) :
    PE X (.Call (.Name x p) [] [] pos) (tCall sp dvs E0 tNil) := by
  obtain ⟨f, fd, ds, F, hm, hk, hb, hd⟩ := D.ex
  exact pe_call0 F (hr.mono hj) hg hm hk hb hd pass0 hdb
end

theorem recDO {P : Program} {w : World} {K : PySem.W.Frag} {mg : Str → Option Value} {base : Heap} {x : Str} {f : Addr} {fd : FuncData} {ps : List Str} {φ : Nat → Sp} (h0 : ∀ vs H Q E, φ 0 vs H Q E → False) (hm : mg x = some (.ref f)) (hk : PySem.W.keepIn K (.ref f) = true) (hb : Binds K fd ps [])
    (hs : ∀ n, DO P w K mg base n x ps [] (φ n) → FnOk P w K mg base CX0 (n + 1) f fd ps (φ (n + 1))) : ∀ n, DO P w K mg base n x ps [] (φ n)
  | 0 => ⟨f, fd, [], ⟨fun vs H Q E h => (h0 vs H Q E h).elim, fun A outer s H args us vs Q E _ _ _ _ h => (h0 vs H Q E h).elim⟩, hm, hk, hb, .nil⟩
  | n + 1 => ⟨f, fd, [], hs n (recDO h0 hm hk hb hs n), hm, hk, hb, .nil⟩
/-! ### calls with keywords -/
/-- the parameters' values: by place (0), by a keyword's place (1), by a default's place (2) -/
def pick {α : Type} (d : α) (tp : List (Nat × Nat)) (vs zs ds : List α) : List α := tp.map fun p => if p.1 = 0 then vs.getD p.2 d else if p.1 = 1 then zs.getD p.2 d else ds.getD p.2 d
theorem vals_getD : ∀ {vs : List V} {us : List Value} (i : Nat), Vals vs us → RelV (vs.getD i .non) (us.getD i .none)
  | _, _, _, .nil => rfl
  | _, _, 0, .cons r _ => r
  | _, _, i + 1, .cons _ t => by
    show RelV ((_ :: _ : List V).getD (i + 1) .non) ((_ :: _ : List Value).getD (i + 1) .none)
    rw [List.getD_cons_succ, List.getD_cons_succ]
    exact vals_getD i t
theorem pick_rel {vs zs ds : List V} {us ws es : List Value} (r1 : Vals vs us) (r2 : Vals zs ws) (r3 : Vals ds es) : ∀ tp : List (Nat × Nat), Vals (pick .non tp vs zs ds) (pick .none tp us ws es)
  | [] => .nil
  | p :: tp => .cons (by
      show RelV (if p.1 = 0 then vs.getD p.2 .non else if p.1 = 1 then zs.getD p.2 .non else ds.getD p.2 .non) (if p.1 = 0 then us.getD p.2 .none else if p.1 = 1 then ws.getD p.2 .none else es.getD p.2 .none)
      by_cases h0 : p.1 = 0
      · rw [if_pos h0, if_pos h0]
        exact vals_getD _ r1
      · rw [if_neg h0, if_neg h0]
        by_cases h1 : p.1 = 1
        · rw [if_pos h1, if_pos h1]
          exact vals_getD _ r2
        · rw [if_neg h1, if_neg h1]
          exact vals_getD _ r3) (pick_rel r1 r2 r3 tp)
structure DK (P : Program) (w : World) (K : PySem.W.Frag) (mg : Str → Option Value) (base : Heap) (k : Nat) (x : Str) (ps : List Str) (n : Nat) (ks : List Str) (tp : List (Nat × Nat)) (dvs : List V) (sp : Sp) : Prop where
  ex : ∃ (f : Addr) (fd : FuncData) (ds : List Value), FnOk P w K mg base CX0 k f fd ps sp ∧ mg x = some (.ref f) ∧ PySem.W.keepIn K (.ref f) = true ∧ KBn K fd ps n ks (fun us ws => pick .none tp us ws ds) (fun vs zs => pick .non tp vs zs dvs)
theorem kbN {K : PySem.W.Frag} {x qual : Str} {params : Arguments} {body : List Stmt} {scope : Scope} {f : Addr} {fd : FuncData} {ps ks : List Str} {n : Nat} {tp : List (Nat × Nat)} (F : FunD K x qual params body scope [] [] f fd)
    (h : ∀ (kV doc pm : Value) (an : Option Addr) (cdv ct : Value) (us ws : List Value), us.length = n → ws.length = ks.length → bindArgs (PySem.W.fnOf x qual params body scope .none kV doc pm an cdv ct) ⟨us, ks.zip ws⟩ = pure (ps.zip (pick .none tp us ws []))) :
    KBn K fd ps n ks (fun us ws => pick .none tp us ws []) (fun vs zs => pick .non tp vs zs []) := by
  obtain ⟨oc, od, dV, kV, doc, pm, an, cdv, ct, osl, rfl, lk, hcd, hD, hK⟩ := F.ex
  rcases hD with ⟨_, rfl⟩ | ⟨e, _⟩
  · exact ⟨fun s us ws _ l1 l2 => .of_eq (h kV doc pm an cdv ct us ws l1 l2), fun r1 r2 => pick_rel r1 r2 .nil tp⟩
  · exact absurd rfl e
theorem kbD {K : PySem.W.Frag} {x qual : Str} {params : Arguments} {body : List Stmt} {scope : Scope} {dvs : List V} {f : Addr} {fd : FuncData} {ps ks : List Str} {n : Nat} {tp : List (Nat × Nat)} (F : FunD K x qual params body scope dvs [] f fd) (hd : dvs ≠ [])
    (h : ∀ (T : Addr) (kV doc pm : Value) (an : Option Addr) (cdv ct : Value) (us ws its : List Value), us.length = n → ws.length = ks.length → its.length = dvs.length →
      ∃ k, bindArgs (PySem.W.fnOf x qual params body scope (.ref T) kV doc pm an cdv ct) ⟨us, ks.zip ws⟩ = seqItems? (.ref T) >>= k ∧ k (some its.toArray) = pure (ps.zip (pick .none tp us ws its))) :
    ∃ its : List Value, KBn K fd ps n ks (fun us ws => pick .none tp us ws its) (fun vs zs => pick .non tp vs zs dvs) := by
  obtain ⟨oc, od, dV, kV, doc, pm, an, cdv, ct, osl, rfl, lk, hcd, hD, hK⟩ := F.ex
  rcases hD with ⟨e, _⟩ | ⟨_, T, o, its, m, rfl, lT, oT, rT⟩
  · exact absurd e hd
  · refine ⟨its, fun s us ws X l1 l2 => ?_, fun r1 r2 => pick_rel r1 r2 rT tp⟩
    obtain ⟨k, e1, e2⟩ := h T kV doc pm an cdv ct us ws its l1 l2 rT.length.symm
    refine BindsTo.of_looks fun M => ?_
    rw [e1]
    exact looks_items X lT oT (.of_pure e2)
section
variable {X : Cx} {k j n : Nat} {ps ks : List Str} {sp : Sp} {dvs : List V} {x : Str} {p pos : Pos} {e : Expr} {es : List Expr} {kws : List Keyword} {t tk : TA} {tp : List (Nat × Nat)}
theorem pcallK (D : DK X.prog X.w X.K X.mg X.base k x ps n ks tp dvs sp) (hr : Room j X.A) (ha : PA X (e :: es) t) (hkw : PK X kws tk) (hj : k ≤ j := by first | decide | exact Nat.le_refl _ | omega) (hg : Gl X x := by rfl)
    (hall : (backToKw pos (keywordEach kws X.env)).all (·.1.isSome) = true := by rfl) (hks : (backToKw pos (keywordEach kws X.env)).filterMap (·.1) = ks := by rfl)
    (hdb : (x == ("__debug__" : Str)) = false := by decide) (he : starEach (e :: es) X.env = (false, eval e X.env) :: starEach es X.env := by rfl)
    (hpl : ((backTo pos (starEach (e :: es) X.env)).any (·.1) || (backToKw pos (keywordEach kws X.env)).any (·.1.isNone)) = false := by rfl) :
    PE X (.Call (.Name x p) (e :: es) kws pos) (tCallN n ks.length sp (fun vs zs => pick .non tp vs zs dvs) E0 t tk) := by
  obtain ⟨f, fd, ds, F, hm, hk, hb⟩ := D.ex
  exact pe_callN F (hr.mono hj) hg hm hk hb pass0 ha hkw hall hks hdb he hpl
theorem pcallK0 (D : DK X.prog X.w X.K X.mg X.base k x ps 0 ks tp dvs sp) (hr : Room j X.A) (hkw : PK X kws tk) (hj : k ≤ j := by first | decide | exact Nat.le_refl _ | omega) (hg : Gl X x := by rfl)
    (hall : (backToKw pos (keywordEach kws X.env)).all (·.1.isSome) = true := by rfl) (hks : (backToKw pos (keywordEach kws X.env)).filterMap (·.1) = ks := by rfl)
    (hdb : (x == ("__debug__" : Str)) = false := by decide)
    (hpl : ((backTo pos (starEach [] X.env)).any (·.1) || (backToKw pos (keywordEach kws X.env)).any (·.1.isNone)) = false := by rfl) :
    PE X (.Call (.Name x p) [] kws pos) (tCallN 0 ks.length sp (fun vs zs => pick .non tp vs zs dvs) E0 tNil tk) := by
  obtain ⟨f, fd, ds, F, hm, hk, hb⟩ := D.ex
  refine ⟨fun pins s σ H Q I h => ?_⟩
  refine wpAny_Call_Name_kw (ld_glob I hg hm ?_ hdb)
  refine PySem.W.callWith_KW0 (h₀ := X.base) I.ok.mod.kin hk hall ?_ hpl
  refine thn (hkw.run pos pins s σ H _ I h) fun ws s2 ⟨zs, H2, I2, rz, l1, l2, q2⟩ => ⟨I2.kIn, ?_⟩
  rw [hks]
  exact run_fnN (us := []) (vs := []) F (hr.mono hj) hb pass0 I2 .nil rz l1 l2 q2
end
theorem pe_gint {X : Cx} {x : Str} {i : Int} {pos : Pos} (hg : Gl X x) (hm : ∃ t, X.mg x = some (.int i t)) (hd : (x == ("__debug__" : Str)) = false := by decide) : PE X (.Name x pos) (tC (.int i)) := by
  obtain ⟨t, h⟩ := hm
  exact pe_glob hg h ⟨_, rfl⟩ hd

/-! ### rules with the written part by its own name -/
section
variable {X : Cx} {K : PySem.W.Frag}
theorem ixL (h : X.K = K := by rfl) : IxR X (rIxL K) := by subst h; exact ix_list
theorem ixT (h : X.K = K := by rfl) : IxR X (rIxT K) := by subst h; exact ix_tup
theorem ixQ (h : X.K = K := by rfl) : IxR X (rIx K) := by subst h; exact ix_seq
theorem slL (h : X.K = K := by rfl) : SlR X (rSlL K) := by subst h; exact sl_list
theorem slT (h : X.K = K := by rfl) : SlR X (rSlT K) := by subst h; exact sl_tup
theorem opEqD (A : X.A.units + 64 < cLine) (h : X.K = K := by rfl) : OpR X (compareOp .Eq) (rEqD K) := by subst h; exact op_eqD A
theorem opNeD (A : X.A.units + 64 < cLine) (h : X.K = K := by rfl) : OpR X (compareOp .NotEq) (rNeD K) := by subst h; exact op_neD A
theorem opIn (h : X.K = K := by rfl) : OpR X (compareOp .In) (rIn K false) := by subst h; exact op_in_seq
theorem opNotIn (h : X.K = K := by rfl) : OpR X (compareOp .NotIn) (rIn K true) := by subst h; exact op_notIn_seq
def rLen (K : PySem.W.Frag) : List V → Hp → VK → Prop := fun xs H Q => ∃ x n, xs = [x] ∧ LenV K x H n ∧ Q (.int n) H
def rLenQ (K : PySem.W.Frag) : List V → Hp → VK → Prop := fun xs H Q => ∃ p ys, xs = [.ref p] ∧ (SqL K H p ys ∨ SqT K H p ys) ∧ Q (.int ys.length) H
def rListOf (K : PySem.W.Frag) : List V → Hp → VK → Prop := fun xs H Q => ∃ p ys, xs = [.ref p] ∧ (SqL K H p ys ∨ SqT K H p ys) ∧ ∀ l, H l = none → Q (.ref l) (upd H l (.lst ys))
def rLenS : List V → Hp → VK → Prop := fun xs H Q => ∃ z, xs = [.str z] ∧ z.length ≤ sizeLine ∧ Q (.int z.length) H
def rInt1 : List V → Hp → VK → Prop := fun xs H Q => (∃ i, xs = [.int i] ∧ Q (.int i) H) ∨ ∃ k, xs = [.bl k] ∧ Q (.int (if k then 1 else 0)) H
def rAbs : List V → Hp → VK → Prop := fun xs H Q => ∃ i, xs = [.int i] ∧ Q (.int (if i < 0 then -i else i)) H
def rMin2 : List V → Hp → VK → Prop := fun xs H Q => ∃ i j, xs = [.int i, .int j] ∧ Q (.int (if j < i then j else i)) H
def rMax2 : List V → Hp → VK → Prop := fun xs H Q => ∃ i j, xs = [.int i, .int j] ∧ Q (.int (if j > i then j else i)) H
def rStrI : List V → Hp → VK → Prop := fun xs H Q => ∃ n, xs = [.int n] ∧ n.natAbs.log2 < 1920 ∧ Q (.str (toString n)) H
theorem clLen (h : X.K = K := by rfl) : CallR X (.builtin "len") (rLen K) := by subst h; exact call_len
theorem clLenQ (h : X.K = K := by rfl) : CallR X (.builtin "len") (rLenQ K) := by subst h; exact call_len_seq
theorem clLenS : CallR X (.builtin "len") rLenS := call_len_str
theorem clListOf (h : X.K = K := by rfl) : CallR X (.type "list") (rListOf K) := by subst h; exact call_list_of
theorem clInt1 : CallR X (.type "int") rInt1 := call_int1
theorem clAbs : CallR X (.builtin "abs") rAbs := call_abs
theorem clMin2 (hc : X.calm = true := by rfl) : CallR X (.builtin "min") rMin2 := call_min2 hc
theorem clMax2 (hc : X.calm = true := by rfl) : CallR X (.builtin "max") rMax2 := call_max2 hc
theorem clSum (hc : X.calm = true := by rfl) (h : X.K = K := by rfl) : CallR X (.builtin "sum") (rSum K) := by subst h; exact cr_sum hc
theorem clAll (hc : X.calm = true := by rfl) (h : X.K = K := by rfl) : CallR X (.builtin "all") (rAll K) := by subst h; exact cr_all hc
theorem clAny (hc : X.calm = true := by rfl) (h : X.K = K := by rfl) : CallR X (.builtin "any") (rAny K) := by subst h; exact cr_any hc
theorem clMax (hc : X.calm = true := by rfl) (h : X.K = K := by rfl) : CallR X (.builtin "max") (rMax K) := by subst h; exact cr_max hc
theorem clMin (hc : X.calm = true := by rfl) (h : X.K = K := by rfl) : CallR X (.builtin "min") (rMin K) := by subst h; exact cr_min hc
theorem clIsi (h : X.K = K := by rfl) : CallR X (.builtin "isinstance") (rIsi K) := by subst h; exact call_isi
theorem clIsiT (h : X.K = K := by rfl) : CallR X (.builtin "isinstance") (rIsiT K) := by subst h; exact call_isiT
def tTruth (K : PySem.W.Frag) (ta : TE) : TT := fun σ H Q => ta σ H fun x H' => ∃ k, TruV K x H' k ∧ Q k H'
theorem ptTruth {a : Expr} {ta : TE} (ha : PE X a ta) (h : X.K = K := by rfl) (hs : ∀ whole, isTrue a X.env whole = (do let v ← whole; standAt a.pos; holding [v] (truthy v)) := by intro _; rfl) : PT X a (tTruth K ta) := by
  subst h
  exact pt_truth ha hs
variable {o e : Expr} {es : List Expr} {to te : TE} {t : TA} {name : Str} {apos cpos : Pos} {T id : String} {r : V → List V → Hp → VK → Prop}
theorem peBM0 (pa : PlainAttrs T) (slot : Slot T name id) (hty : typeOf (.builtin id) = pure (.type "method_descriptor")) (hm : MtR X id r) (ho : PE X o to) (h : X.K = K := by rfl)
    (hbase : attributeBase o name X.env (eval o X.env) = eval o X.env := by rfl) (hline : (apos.endLine == cpos.line) = true := by rfl) : PE X (.Call (.Attribute o name apos) [] [] cpos) (tBM0 K T r to) := by
  subst h
  exact pe_bm0 pa slot hty hm ho hbase hline
theorem peBM (pa : PlainAttrs T) (slot : Slot T name id) (hty : typeOf (.builtin id) = pure (.type "method_descriptor")) (hm : MtR X id r) (ho : PE X o to) (ha : PA X (e :: es) t) (h : X.K = K := by rfl)
    (hbase : attributeBase o name X.env (eval o X.env) = eval o X.env := by rfl)
    (hfew : ((backTo cpos (starEach (e :: es) X.env)).all (fun x => !x.1) && (backToKw cpos (keywordEach [] X.env)).all (fun x => x.1.isSome)
      && decide ((e :: es).length + ([] : List Keyword).length + (if ([] : List Keyword).isEmpty then 0 else 1) < 30)) = true := by rfl)
    (hline : (apos.endLine == cpos.line) = true := by rfl) (hs : starEach (e :: es) X.env = (false, eval e X.env) :: starEach es X.env := by rfl) (hplain : (backTo cpos (starEach es X.env)).any (·.1) = false := by rfl) :
    PE X (.Call (.Attribute o name apos) (e :: es) [] cpos) (tBM K T r to t) := by
  subst h
  exact pe_bm pa slot hty hm ho ha hbase hfew hline hs hplain
def rJoin (K : PySem.W.Frag) : V → List V → Hp → VK → Prop := fun x xs H Q => ∃ a p, ∃ ys : List Str, x = .str a ∧ xs = [.ref p] ∧ (SqL K H p (ys.map V.str) ∨ SqT K H p (ys.map V.str)) ∧
      (ys.map (·.length)).sum + ys.length * a.length ≤ 16777216 ∧ Q (.str (Txt.join a ys)) H
theorem peJoin (ho : PE X o to) (he : PE X e te) (h : X.K = K := by rfl) (hs : starEach [e] X.env = [(false, eval e X.env)] := by rfl) (hbase : attributeBase o "join" X.env (eval o X.env) = eval o X.env := by rfl) (hline : (apos.endLine == cpos.line) = true := by rfl) :
    PE X (.Call (.Attribute o "join" apos) [e] [] cpos) (tM1 (rJoin K) to te) := by
  subst h
  exact pe_join ho he hs hbase hline
theorem peFld {f : Str} {pos : Pos} (he : PE X o to) (h : X.K = K := by rfl) (hb : attributeBase o f X.env (eval o X.env) = eval o X.env := by rfl) : PE X (.Attribute o f pos) (tFld K to f) := by
  subst h
  exact pe_fld he hb
end

/-! ### steps of a reading -/
section
variable {K : PySem.W.Frag} {σ : L2.St} {H : Hp} {Q : VK} {ta tb te : TE} {x y v : V} {nx bk ct : L2.St → Hp → Prop} {rt : VK}
-- slots
section
variable {a0 a1 a2 a3 a4 a5 a6 a7 a8 a9 a10 a11 a12 a13 : Option V} {r : L2.St}
theorem w_v0 (q : Q v H) : tVar 0 (some v :: r) H Q := ⟨v, rfl, q⟩
theorem w_v1 (q : Q v H) : tVar 1 (a0 :: some v :: r) H Q := ⟨v, rfl, q⟩
theorem w_v2 (q : Q v H) : tVar 2 (a0 :: a1 :: some v :: r) H Q := ⟨v, rfl, q⟩
theorem w_v3 (q : Q v H) : tVar 3 (a0 :: a1 :: a2 :: some v :: r) H Q := ⟨v, rfl, q⟩
theorem w_v4 (q : Q v H) : tVar 4 (a0 :: a1 :: a2 :: a3 :: some v :: r) H Q := ⟨v, rfl, q⟩
theorem w_v5 (q : Q v H) : tVar 5 (a0 :: a1 :: a2 :: a3 :: a4 :: some v :: r) H Q := ⟨v, rfl, q⟩
theorem w_v6 (q : Q v H) : tVar 6 (a0 :: a1 :: a2 :: a3 :: a4 :: a5 :: some v :: r) H Q := ⟨v, rfl, q⟩
theorem w_v7 (q : Q v H) : tVar 7 (a0 :: a1 :: a2 :: a3 :: a4 :: a5 :: a6 :: some v :: r) H Q := ⟨v, rfl, q⟩
theorem w_v8 (q : Q v H) : tVar 8 (a0 :: a1 :: a2 :: a3 :: a4 :: a5 :: a6 :: a7 :: some v :: r) H Q := ⟨v, rfl, q⟩
theorem w_v9 (q : Q v H) : tVar 9 (a0 :: a1 :: a2 :: a3 :: a4 :: a5 :: a6 :: a7 :: a8 :: some v :: r) H Q := ⟨v, rfl, q⟩
theorem w_v10 (q : Q v H) : tVar 10 (a0 :: a1 :: a2 :: a3 :: a4 :: a5 :: a6 :: a7 :: a8 :: a9 :: some v :: r) H Q := ⟨v, rfl, q⟩
theorem w_v11 (q : Q v H) : tVar 11 (a0 :: a1 :: a2 :: a3 :: a4 :: a5 :: a6 :: a7 :: a8 :: a9 :: a10 :: some v :: r) H Q := ⟨v, rfl, q⟩
theorem w_v12 (q : Q v H) : tVar 12 (a0 :: a1 :: a2 :: a3 :: a4 :: a5 :: a6 :: a7 :: a8 :: a9 :: a10 :: a11 :: some v :: r) H Q := ⟨v, rfl, q⟩
theorem w_v13 (q : Q v H) : tVar 13 (a0 :: a1 :: a2 :: a3 :: a4 :: a5 :: a6 :: a7 :: a8 :: a9 :: a10 :: a11 :: a12 :: some v :: r) H Q := ⟨v, rfl, q⟩
variable {N : L2.St → Hp → Prop}
theorem w_n0 (q : N (some v :: r) H) : gName 0 v (a0 :: r) H N := q
theorem w_n1 (q : N (a0 :: some v :: r) H) : gName 1 v (a0 :: a1 :: r) H N := q
theorem w_n2 (q : N (a0 :: a1 :: some v :: r) H) : gName 2 v (a0 :: a1 :: a2 :: r) H N := q
theorem w_n3 (q : N (a0 :: a1 :: a2 :: some v :: r) H) : gName 3 v (a0 :: a1 :: a2 :: a3 :: r) H N := q
theorem w_n4 (q : N (a0 :: a1 :: a2 :: a3 :: some v :: r) H) : gName 4 v (a0 :: a1 :: a2 :: a3 :: a4 :: r) H N := q
theorem w_n5 (q : N (a0 :: a1 :: a2 :: a3 :: a4 :: some v :: r) H) : gName 5 v (a0 :: a1 :: a2 :: a3 :: a4 :: a5 :: r) H N := q
theorem w_n6 (q : N (a0 :: a1 :: a2 :: a3 :: a4 :: a5 :: some v :: r) H) : gName 6 v (a0 :: a1 :: a2 :: a3 :: a4 :: a5 :: a6 :: r) H N := q
theorem w_n7 (q : N (a0 :: a1 :: a2 :: a3 :: a4 :: a5 :: a6 :: some v :: r) H) : gName 7 v (a0 :: a1 :: a2 :: a3 :: a4 :: a5 :: a6 :: a7 :: r) H N := q
theorem w_n8 (q : N (a0 :: a1 :: a2 :: a3 :: a4 :: a5 :: a6 :: a7 :: some v :: r) H) : gName 8 v (a0 :: a1 :: a2 :: a3 :: a4 :: a5 :: a6 :: a7 :: a8 :: r) H N := q
theorem w_n9 (q : N (a0 :: a1 :: a2 :: a3 :: a4 :: a5 :: a6 :: a7 :: a8 :: some v :: r) H) : gName 9 v (a0 :: a1 :: a2 :: a3 :: a4 :: a5 :: a6 :: a7 :: a8 :: a9 :: r) H N := q
theorem w_n10 (q : N (a0 :: a1 :: a2 :: a3 :: a4 :: a5 :: a6 :: a7 :: a8 :: a9 :: some v :: r) H) : gName 10 v (a0 :: a1 :: a2 :: a3 :: a4 :: a5 :: a6 :: a7 :: a8 :: a9 :: a10 :: r) H N := q
theorem w_n11 (q : N (a0 :: a1 :: a2 :: a3 :: a4 :: a5 :: a6 :: a7 :: a8 :: a9 :: a10 :: some v :: r) H) : gName 11 v (a0 :: a1 :: a2 :: a3 :: a4 :: a5 :: a6 :: a7 :: a8 :: a9 :: a10 :: a11 :: r) H N := q
theorem w_n12 (q : N (a0 :: a1 :: a2 :: a3 :: a4 :: a5 :: a6 :: a7 :: a8 :: a9 :: a10 :: a11 :: some v :: r) H) : gName 12 v (a0 :: a1 :: a2 :: a3 :: a4 :: a5 :: a6 :: a7 :: a8 :: a9 :: a10 :: a11 :: a12 :: r) H N := q
theorem w_n13 (q : N (a0 :: a1 :: a2 :: a3 :: a4 :: a5 :: a6 :: a7 :: a8 :: a9 :: a10 :: a11 :: a12 :: some v :: r) H) : gName 13 v (a0 :: a1 :: a2 :: a3 :: a4 :: a5 :: a6 :: a7 :: a8 :: a9 :: a10 :: a11 :: a12 :: a13 :: r) H N := q
end
-- expressions
theorem w_c (q : Q v H) : tC v σ H Q := q
theorem w_op {r : R2} (q : ta σ H fun x H1 => tb σ H1 fun y H2 => r x y H2 Q) : tOp r ta tb σ H Q := q
theorem w_un {r : V → Hp → VK → Prop} (q : ta σ H fun x H1 => r x H1 Q) : tUn r ta σ H Q := q
theorem w_add {i j : Int} (q : Q (.int (i + j)) H) : rI0 (fun i j => V.int (i + j)) (.int i) (.int j) H Q := ⟨i, j, rfl, rfl, q⟩
theorem w_subt {i j : Int} (q : Q (.int (i - j)) H) : rI0 (fun i j => V.int (i - j)) (.int i) (.int j) H Q := ⟨i, j, rfl, rfl, q⟩
theorem w_lt {i j : Int} (q : Q (.bl (decide (i < j))) H) : rI0 (fun i j => V.bl (decide (i < j))) (.int i) (.int j) H Q := ⟨i, j, rfl, rfl, q⟩
theorem w_le {i j : Int} (q : Q (.bl (decide (i ≤ j))) H) : rI0 (fun i j => V.bl (decide (i ≤ j))) (.int i) (.int j) H Q := ⟨i, j, rfl, rfl, q⟩
theorem w_gt {i j : Int} (q : Q (.bl (decide (j < i))) H) : rI0 (fun i j => V.bl (decide (j < i))) (.int i) (.int j) H Q := ⟨i, j, rfl, rfl, q⟩
theorem w_ge {i j : Int} (q : Q (.bl (decide (j ≤ i))) H) : rI0 (fun i j => V.bl (decide (j ≤ i))) (.int i) (.int j) H Q := ⟨i, j, rfl, rfl, q⟩
theorem w_I0 {g : Int → Int → V} {i j : Int} (q : Q (g i j) H) : rI0 g (.int i) (.int j) H Q := ⟨i, j, rfl, rfl, q⟩
theorem w_mul {i j : Int} (c : CMul i j) (q : Q (.int (i * j)) H) : rI CMul (fun i j => V.int (i * j)) (.int i) (.int j) H Q := ⟨i, j, rfl, rfl, c, q⟩
theorem w_mod {i j : Int} (c : 0 < j) (q : Q (.int (i % j)) H) : rI (fun _ j => 0 < j) (fun i j => V.int (i % j)) (.int i) (.int j) H Q := ⟨i, j, rfl, rfl, c, q⟩
theorem w_fdiv {i j : Int} (c : CDivW i j) (q : Q (.int (i / j)) H) : rI CDivW (fun i j => V.int (i / j)) (.int i) (.int j) H Q := ⟨i, j, rfl, rfl, c, q⟩
theorem w_pow {i j : Int} (c : CPow i j) (q : Q (.int (i ^ j.toNat)) H) : rI CPow (fun i j => V.int (i ^ j.toNat)) (.int i) (.int j) H Q := ⟨i, j, rfl, rfl, c, q⟩
theorem w_I {C : Int → Int → Prop} {g : Int → Int → V} {i j : Int} (c : C i j) (q : Q (g i j) H) : rI C g (.int i) (.int j) H Q := ⟨i, j, rfl, rfl, c, q⟩
theorem w_neg {i : Int} (q : Q (.int (-i)) H) : rU (fun i => V.int (-i)) (.int i) H Q := ⟨i, rfl, q⟩
def asInt (x : V) (H : Hp) (Z : Int → Hp → Prop) : Prop := ∃ i, x = .int i ∧ Z i H
def asBl (x : V) (H : Hp) (T : Bool → Hp → Prop) : Prop := ∃ k, x = .bl k ∧ T k H
theorem w_asInt {i : Int} {Z : Int → Hp → Prop} (q : Z i H) : asInt (.int i) H Z := ⟨i, rfl, q⟩
theorem w_asBl {b : Bool} {T : Bool → Hp → Prop} (q : T b H) : asBl (.bl b) H T := ⟨b, rfl, q⟩
theorem w_bits {to : TE} (q : to σ H fun x H1 => asInt x H1 fun i H2 => Q (.int (Builtin.Int.intBits i : Nat)) H2) : tBits to σ H Q := q
theorem w_adds {a b : Str} (h : a.length + b.length ≤ sizeLine) (q : Q (.str (a ++ b)) H) : ∃ i j, V.str a = .str i ∧ V.str b = .str j ∧ i.length + j.length ≤ sizeLine ∧ Q (.str (i ++ j)) H := ⟨a, b, rfl, rfl, h, q⟩
theorem w_eqI {i j : Int} (q : Q (.bl (decide (i = j))) H) : rEq (.int i) (.int j) H Q := ⟨rfl, by
  have e : decide (V.int i = V.int j) = decide (i = j) := by
    by_cases h : i = j
    · subst h; simp
    · rw [decide_eq_false h, decide_eq_false fun z => h (V.int.inj z)]
  rw [e]
  exact q⟩
theorem w_neI {i j : Int} (q : Q (.bl (!decide (i = j))) H) : rNe (.int i) (.int j) H Q := ⟨rfl, by
  have e : decide (V.int i = V.int j) = decide (i = j) := by
    by_cases h : i = j
    · subst h; simp
    · rw [decide_eq_false h, decide_eq_false fun z => h (V.int.inj z)]
  rw [e]
  exact q⟩
theorem w_eqS {a b : Str} (q : Q (.bl (decide (a = b))) H) : rEq (.str a) (.str b) H Q := ⟨rfl, by
  have e : decide (V.str a = V.str b) = decide (a = b) := by
    by_cases h : a = b
    · subst h; simp
    · rw [decide_eq_false h, decide_eq_false fun z => h (V.str.inj z)]
  rw [e]
  exact q⟩
theorem w_neS {a b : Str} (q : Q (.bl (!decide (a = b))) H) : rNe (.str a) (.str b) H Q := ⟨rfl, by
  have e : decide (V.str a = V.str b) = decide (a = b) := by
    by_cases h : a = b
    · subst h; simp
    · rw [decide_eq_false h, decide_eq_false fun z => h (V.str.inj z)]
  rw [e]
  exact q⟩
theorem w_eqB {a b : Bool} (q : Q (.bl (decide (a = b))) H) : rEq (.bl a) (.bl b) H Q := ⟨rfl, by
  have e : decide (V.bl a = V.bl b) = decide (a = b) := by
    by_cases h : a = b
    · subst h; simp
    · rw [decide_eq_false h, decide_eq_false fun z => h (V.bl.inj z)]
  rw [e]
  exact q⟩
theorem w_neB {a b : Bool} (q : Q (.bl (!decide (a = b))) H) : rNe (.bl a) (.bl b) H Q := ⟨rfl, by
  have e : decide (V.bl a = V.bl b) = decide (a = b) := by
    by_cases h : a = b
    · subst h; simp
    · rw [decide_eq_false h, decide_eq_false fun z => h (V.bl.inj z)]
  rw [e]
  exact q⟩
theorem w_isN (q : ta σ H fun x H1 => Q (.bl (decide (x = .non))) H1) : tIsN ta σ H Q := q
theorem w_notN (q : ta σ H fun x H1 => Q (.bl (!decide (x = .non))) H1) : tNotN ta σ H Q := q
-- tests
section
variable {T : Bool → Hp → Prop} {t u : TT}
theorem w_test (q : te σ H fun x H1 => asBl x H1 T) : tTest te σ H T := q
theorem w_tB (q : te σ H fun x H1 => asBl x H1 T) : tB te σ H T := q
theorem w_and (q : t σ H fun c H1 => if c = true then u σ H1 T else T false H1) : tAnd t u σ H T := q
theorem w_or (q : t σ H fun c H1 => if c = true then T true H1 else u σ H1 T) : tOr t u σ H T := q
theorem w_not (q : t σ H fun c H1 => T (!c) H1) : tNot t σ H T := q
theorem w_yes (q : T true H) : tYes σ H T := q
theorem w_if (q : t σ H fun c H1 => if c = true then ta σ H1 Q else tb σ H1 Q) : tIf t ta tb σ H Q := q
theorem w_truth (q : ta σ H fun x H' => ∃ k, TruV K x H' k ∧ T k H') : tTruth K ta σ H T := q
end
theorem w_andV (q : ta σ H fun x H1 => asBl x H1 fun c H2 => if c = true then tb σ H2 Q else Q (.bl false) H2) : tAndV ta tb σ H Q := q
theorem w_orV (q : ta σ H fun x H1 => asBl x H1 fun c H2 => if c = true then Q (.bl true) H2 else tb σ H2 Q) : tOrV ta tb σ H Q := q
theorem w_notV (q : ta σ H fun x H1 => asBl x H1 fun c H2 => Q (.bl (!c)) H2) : tNotV ta σ H Q := q
-- arguments
theorem w_nil {L : List V → Hp → Prop} (q : L [] H) : tNil σ H L := q
theorem w_cons {tr : TA} {L : List V → Hp → Prop} (q : ta σ H fun x H1 => tr σ H1 fun xs H2 => L (x :: xs) H2) : tCons ta tr σ H L := q
theorem w_call {sp : Sp} {dvs : List V} {E : XK} {t : TA} (q : t σ H fun vs H1 => sp (vs ++ dvs) H1 Q E) : tCall sp dvs E t σ H Q := q
theorem w_callN {n m : Nat} {sp : Sp} {gV : List V → List V → List V} {E : XK} {t tk : TA} (q : t σ H fun vs H1 => tk σ H1 fun zs H2 => vs.length = n ∧ zs.length = m ∧ sp (gV vs zs) H2 Q E) : tCallN n m sp gV E t tk σ H Q := q
theorem w_CB {r : List V → Hp → VK → Prop} {t : TA} (q : t σ H fun vs H1 => r vs H1 Q) : tCB r t σ H Q := q
theorem w_tup {t : TA} (q : t σ H fun xs H1 => xs.length ≤ sizeLine ∧ ∀ p, H1 p = none → Q (.ref p) (upd H1 p (.tup xs))) : tTup t σ H Q := q
theorem w_lst {t : TA} (q : t σ H fun xs H1 => xs.length ≤ sizeLine ∧ ∀ p, H1 p = none → Q (.ref p) (upd H1 p (.lst xs))) : tLst t σ H Q := q
theorem w_sl {r : V → Option Int → Option Int → Hp → VK → Prop} {tl th : TO} (q : te σ H fun x H1 => tl σ H1 fun l H2 => th σ H2 fun u H3 => r x l u H3 Q) : tSl r te tl th σ H Q := q
theorem w_nop {Z : Option Int → Hp → Prop} (q : Z none H) : tNoPart σ H Z := q
theorem w_part {Z : Option Int → Hp → Prop} (q : te σ H fun x H1 => asInt x H1 fun i H2 => Z (some i) H2) : tPart te σ H Z := q
theorem w_BM0 {T : String} {r : V → List V → Hp → VK → Prop} (q : ta σ H fun x H1 => tyV K T x H1 ∧ r x [] H1 Q) : tBM0 K T r ta σ H Q := q
theorem w_BM {T : String} {r : V → List V → Hp → VK → Prop} {t : TA} (q : ta σ H fun x H1 => tyV K T x H1 ∧ t σ H1 fun xs H2 => r x xs H2 Q) : tBM K T r ta t σ H Q := q
def asStr (x : V) (P : Prop) : Prop := (∃ a, x = .str a) ∧ P
theorem w_M0 {r : V → List V → Hp → VK → Prop} (q : ta σ H fun x H1 => asStr x (r x [] H1 Q)) : tM0 r ta σ H Q := q
theorem w_M1 {r : V → List V → Hp → VK → Prop} (q : ta σ H fun x H1 => asStr x (te σ H1 fun y H2 => r x [y] H2 Q)) : tM1 r ta te σ H Q := q
theorem w_asStr {a : Str} {P : Prop} (q : P) : asStr (.str a) P := ⟨⟨a, rfl⟩, q⟩
theorem w_sub {to ti : TE} {t : TSet} {Z : L2.St → Hp → Prop} (q : to σ H fun o H1 => ti σ H1 fun i H2 => t o i v H2 fun H3 => Z σ H3) : gSub to ti t v σ H Z := q
-- statements
section
variable {t u tbody : TS} {c : TT} {g : TG}
theorem w_seq (q : t ⟨u ⟨nx, rt, bk, ct⟩, rt, bk, ct⟩ σ H) : tSeq t u ⟨nx, rt, bk, ct⟩ σ H := q
theorem w_cut (Mid : L2.St → Hp → Prop) (h1 : t ⟨Mid, rt, bk, ct⟩ σ H) (h2 : ∀ σ' H', Mid σ' H' → u ⟨nx, rt, bk, ct⟩ σ' H') : C8.tCut t u ⟨nx, rt, bk, ct⟩ σ H := ⟨Mid, h1, h2⟩
theorem w_asg (q : te σ H fun x H1 => g x σ H1 nx) : tAsg te g ⟨nx, rt, bk, ct⟩ σ H := q
theorem w_ret (q : te σ H rt) : tRet te ⟨nx, rt, bk, ct⟩ σ H := q
theorem w_retN (q : rt .non H) : tRetN ⟨nx, rt, bk, ct⟩ σ H := q
theorem w_drop (q : te σ H fun _ H1 => nx σ H1) : tDrop te ⟨nx, rt, bk, ct⟩ σ H := q
theorem w_ifS (q : c σ H fun b H1 => if b = true then t ⟨nx, rt, bk, ct⟩ σ H1 else u ⟨nx, rt, bk, ct⟩ σ H1) : tIfS c t u ⟨nx, rt, bk, ct⟩ σ H := q
theorem w_nx (q : nx σ H) : tNext ⟨nx, rt, bk, ct⟩ σ H := q
theorem w_cont (q : ct σ H) : tCont ⟨nx, rt, bk, ct⟩ σ H := q
theorem w_brk (q : bk σ H) : tBreak ⟨nx, rt, bk, ct⟩ σ H := q
theorem w_aug {i : Nat} {ti : TIp} (h : σ[i]? = some (some x)) (q : te σ H fun y H1 => ti x y H1 fun z H2 => nx (σ.set i (some z)) H2) : tAug i te ti ⟨nx, rt, bk, ct⟩ σ H := ⟨x, h, q⟩
theorem w_tgt {n : Nat} {ts : TGs} {Z : L2.St → Hp → Prop} {a : Addr} (xs : List V) (h : SqT K H a xs) (hn : xs.length = n) (q : ts xs σ H Z) : gTup K n ts (.ref a) σ H Z := ⟨a, xs, rfl, h, hn, q⟩
theorem w_gc {ts : TGs} {xs : List V} {Z : L2.St → Hp → Prop} (q : g v σ H fun σ' H' => ts xs σ' H' Z) : gCons g ts (v :: xs) σ H Z := ⟨v, xs, rfl, q⟩
theorem w_gn {Z : L2.St → Hp → Prop} (q : Z σ H) : gNil [] σ H Z := ⟨rfl, q⟩
/-- a while, by what holds and a number that falls -/
theorem w_while (W : Nat → L2.St → Hp → Prop) {m0 : Nat} (h0 : W m0 σ H)
    (hs : ∀ m σ H, W m σ H → c σ H fun b H1 => if b = true then ∃ N : L2.St → Hp → Prop, (∀ σ' H', N σ' H' → ∃ m', m' < m ∧ W m' σ' H') ∧ tbody ⟨N, rt, nx, N⟩ σ H1 else nx σ H1) : tWhile c tbody ⟨nx, rt, bk, ct⟩ σ H := ⟨W, ⟨m0, h0⟩, hs⟩
theorem w_turn {W : Nat → L2.St → Hp → Prop} {m : Nat} (h : tbody ⟨fun σ' H' => ∃ m', m' < m ∧ W m' σ' H', rt, nx, fun σ' H' => ∃ m', m' < m ∧ W m' σ' H'⟩ σ H) :
    ∃ N : L2.St → Hp → Prop, (∀ σ' H', N σ' H' → ∃ m', m' < m ∧ W m' σ' H') ∧ tbody ⟨N, rt, nx, N⟩ σ H := ⟨_, fun _ _ h => h, h⟩
/-- for k in range(n), range(a, b) -/
theorem w_for {wi : TI} (q : wi σ H fun J H1 => ∃ W : Nat → Nat → L2.St → Hp → Prop, (∃ m, W 0 m σ H1) ∧ ∀ i m σ H, W i m σ H →
      (J.stop i H ∧ nx σ H) ∨ (J.go i H ∧ ∃ N : L2.St → Hp → Prop, (∀ σ' H', N σ' H' → ∃ m', m' < m ∧ W (i + 1) m' σ' H') ∧ ∀ x H', J.yld i H x H' → g x σ H' fun σ2 H2 => tbody ⟨N, rt, nx, N⟩ σ2 H2)) : tFor wi g tbody ⟨nx, rt, bk, ct⟩ σ H := q
end
theorem w_rng1 {t : TA} {R : It → Hp → Prop} (q : t σ H fun vs H1 => ∃ j : Int, vs = [.int j] ∧ -(2 ^ 62) ≤ j ∧ j < 2 ^ 62 ∧ R (Itr 0 j.toNat) H1) : iRng1 t σ H R := q
theorem w_rng2 {t : TA} {R : It → Hp → Prop} (q : t σ H fun vs H1 => ∃ i j : Int, vs = [.int i, .int j] ∧ (-(2 ^ 62) ≤ i ∧ i < 2 ^ 62 ∧ -(2 ^ 62) ≤ j ∧ j < 2 ^ 62) ∧ R (Itr i (j - i).toNat) H1) : iRng2 t σ H R := q
theorem w_ilist {R : It → Hp → Prop} (q : te σ H fun x H1 => ∃ a, x = .ref a ∧ (∃ xs, SqL K H1 a xs) ∧ R (Itl K a) H1) : iList K te σ H R := q
theorem w_itup {R : It → Hp → Prop} (q : te σ H fun x H1 => ∃ a, x = .ref a ∧ (∃ xs, SqT K H1 a xs) ∧ R (Itt K a) H1) : iTup K te σ H R := q
theorem w_istr {R : It → Hp → Prop} (q : te σ H fun v H1 => ∃ x, v = .str x ∧ R (Its x) H1) : iStr te σ H R := q
theorem w_lc {wi : TI} {g : TG} {tt : TT} {vs : List Nat} (q : wi σ H fun J H1 => ∀ D, H1 D = none → ∃ W : Nat → Nat → Hp → Prop, (∃ m, W 0 m (upd H1 D (.lst []))) ∧ ∀ i m H, W i m H →
    (J.stop i H ∧ Q (.ref D) H) ∨ (J.go i H ∧ ∃ Nx : Hp → Prop, (∀ H', Nx H' → ∃ m', m' < m ∧ W (i + 1) m' H') ∧ ∀ x H', J.yld i H x H' → g x (wipe σ vs) H' fun σ2 H2 => wipe σ2 vs = wipe σ vs ∧ tt σ2 H2 fun b H3 =>
      if b = true then te σ2 H3 fun y H4 => ∃ acc, H4 D = some (.lst acc) ∧ acc.length < sizeLine ∧ Nx (upd H4 D (.lst (acc ++ [y]))) else Nx H3)) : tLc wi g tt te vs σ H Q := q
/-- a test that is open -/
theorem w_ite {p : Prop} [Decidable p] {A B : Prop} (h1 : p → A) (h2 : ¬ p → B) : if decide p = true then A else B := by
  by_cases h : p
  · rw [if_pos (decide_eq_true h)]
    exact h1 h
  · rw [if_neg (by simpa using h)]
    exact h2 h
theorem w_iteN {p : Prop} [Decidable p] {A B : Prop} (h1 : ¬ p → A) (h2 : p → B) : if (!decide p) = true then A else B := by
  by_cases h : p
  · rw [if_neg (by simpa using h)]
    exact h2 h
  · rw [if_pos (by simpa using h)]
    exact h1 h
theorem w_iteb {b : Bool} {A B : Prop} (h1 : b = true → A) (h2 : b = false → B) : if b = true then A else B := by
  cases b with
  | true => rw [if_pos rfl]; exact h1 rfl
  | false => rw [if_neg Bool.false_ne_true]; exact h2 rfl
theorem w_itebN {b : Bool} {A B : Prop} (h1 : b = false → A) (h2 : b = true → B) : if (!b) = true then A else B := by
  cases b with
  | false => rw [if_pos (by rfl)]; exact h1 rfl
  | true => rw [if_neg (by decide)]; exact h2 rfl
theorem w_iteT {p : Prop} [Decidable p] {A B : Prop} (hp : p) (h1 : A) : if decide p = true then A else B := by
  rw [if_pos (decide_eq_true hp)]
  exact h1
theorem w_iteF {p : Prop} [Decidable p] {A B : Prop} (hp : ¬ p) (h2 : B) : if decide p = true then A else B := by
  rw [if_neg (by simpa using hp)]
  exact h2
theorem w_tt {A B : Prop} (h : A) : if true = true then A else B := by rw [if_pos rfl]; exact h
theorem w_ff {A B : Prop} (h : B) : if false = true then A else B := by rw [if_neg Bool.false_ne_true]; exact h
theorem w_ntt {A B : Prop} (h : B) : if (!true) = true then A else B := by rw [if_neg (by decide)]; exact h
theorem w_nff {A B : Prop} (h : A) : if (!false) = true then A else B := by rw [if_pos (by rfl)]; exact h
/-- subscripts -/
theorem w_ixL {p : Addr} {i : Int} (xs : List V) (v : V) (h : SqL K H p xs) (a : atI xs i = some v) (q : Q v H) : rIxL K (.ref p) (.int i) H Q := ⟨p, xs, i, v, rfl, rfl, h, a, q⟩
theorem w_ixT {p : Addr} {i : Int} (xs : List V) (v : V) (h : SqT K H p xs) (a : atI xs i = some v) (q : Q v H) : rIxT K (.ref p) (.int i) H Q := ⟨p, xs, i, v, rfl, rfl, h, a, q⟩
theorem w_ixS {z : Str} {i : Int} {c : Nat} (h : z.length ≤ sizeLine) (a : atI z.cps.toList i = some c) (q : Q (.str ⟨#[c]⟩) H) : rIxS (.str z) (.int i) H Q := ⟨z, i, c, rfl, rfl, h, a, q⟩
theorem w_setL {p : Addr} {k : Int} {Z : Hp → Prop} (xs : List V) (j : Nat) (h : H p = some (.lst xs)) (a : ixN xs.length k = some j) (q : Z (upd H p (.lst (xs.set j v)))) : rSetL (.ref p) (.int k) v H Z := ⟨p, xs, k, j, rfl, rfl, h, a, q⟩
theorem w_b1 {p : Addr} (a0 a1 a2 a3 a4 : V) {Z : Hp → Prop} (h : H p = some (.lst [a0, a1, a2, a3, a4])) (q : Z (upd H p (.lst [a0, v, a2, a3, a4]))) : rSetL (.ref p) (.int 1) v H Z := ⟨p, _, 1, 1, rfl, rfl, h, rfl, q⟩
theorem w_b2 {p : Addr} (a0 a1 a2 a3 a4 : V) {Z : Hp → Prop} (h : H p = some (.lst [a0, a1, a2, a3, a4])) (q : Z (upd H p (.lst [a0, a1, v, a3, a4]))) : rSetL (.ref p) (.int 2) v H Z := ⟨p, _, 2, 2, rfl, rfl, h, rfl, q⟩
theorem w_b3 {p : Addr} (a0 a1 a2 a3 a4 : V) {Z : Hp → Prop} (h : H p = some (.lst [a0, a1, a2, a3, a4])) (q : Z (upd H p (.lst [a0, a1, a2, v, a4]))) : rSetL (.ref p) (.int 3) v H Z := ⟨p, _, 3, 3, rfl, rfl, h, rfl, q⟩
theorem w_b4 {p : Addr} (a0 a1 a2 a3 a4 : V) {Z : Hp → Prop} (h : H p = some (.lst [a0, a1, a2, a3, a4])) (q : Z (upd H p (.lst [a0, a1, a2, a3, v]))) : rSetL (.ref p) (.int 4) v H Z := ⟨p, _, 4, 4, rfl, rfl, h, rfl, q⟩
theorem w_app {l : Addr} (xs : List V) (h : H l = some (.lst xs)) (hn : xs.length < sizeLine) (q : Q .non (upd H l (.lst (xs ++ [y])))) : rAppend (.ref l) [y] H Q := ⟨l, xs, y, rfl, rfl, h, hn, q⟩
theorem w_tyL {l : Addr} {P : Prop} (xs : List V) (h : SqL K H l xs) (q : P) : tyV K "list" (.ref l) H ∧ P := ⟨.inl ⟨rfl, _, h⟩, q⟩
theorem w_lenQ {p : Addr} (xs : List V) (h : SqL K H p xs) (q : Q (.int xs.length) H) : rLenQ K [.ref p] H Q := ⟨p, xs, rfl, .inl h, q⟩
theorem w_lenQT {p : Addr} (xs : List V) (h : SqT K H p xs) (q : Q (.int xs.length) H) : rLenQ K [.ref p] H Q := ⟨p, xs, rfl, .inr h, q⟩
theorem w_lenS {z : Str} (h : z.length ≤ sizeLine) (q : Q (.int z.length) H) : rLenS [.str z] H Q := ⟨z, rfl, h, q⟩
theorem w_listOf {p : Addr} (xs : List V) (h : SqL K H p xs) (q : ∀ l, H l = none → Q (.ref l) (upd H l (.lst xs))) : rListOf K [.ref p] H Q := ⟨p, xs, rfl, .inl h, q⟩
theorem w_int1 {i : Int} (q : Q (.int i) H) : rInt1 [.int i] H Q := .inl ⟨i, rfl, q⟩
theorem w_int1b {b : Bool} (q : Q (.int (if b then 1 else 0)) H) : rInt1 [.bl b] H Q := .inr ⟨b, rfl, q⟩
theorem w_abs {i : Int} (q : Q (.int (if i < 0 then -i else i)) H) : rAbs [.int i] H Q := ⟨i, rfl, q⟩
theorem w_min2 {i j : Int} (q : Q (.int (if j < i then j else i)) H) : rMin2 [.int i, .int j] H Q := ⟨i, j, rfl, q⟩
theorem w_max2 {i j : Int} (q : Q (.int (if j > i then j else i)) H) : rMax2 [.int i, .int j] H Q := ⟨i, j, rfl, q⟩
theorem w_min3 {i j k : Int} (q : Q (.int (min (min i j) k)) H) : rNuC3 nuMin3 [.int i, .int j, .int k] H Q := by
  refine ⟨.int i, .int j, .int k, .int (min (min i j) k), rfl, ?_, q⟩
  have e1 : nuMin2 (.int i) (.int j) = some (.int (min i j)) := by
    show some (if decide (j < i) = true then V.int j else V.int i) = _
    by_cases h : j < i
    · rw [if_pos (decide_eq_true h)]
      congr 2
      omega
    · rw [if_neg (by simpa using h)]
      congr 2
      omega
  have e2 : nuMin2 (.int (min i j)) (.int k) = some (.int (min (min i j) k)) := by
    show some (if decide (k < min i j) = true then V.int k else V.int (min i j)) = _
    by_cases h : k < min i j
    · rw [if_pos (decide_eq_true h)]
      congr 2
      omega
    · rw [if_neg (by simpa using h)]
      congr 2
      omega
  show (nuMin2 (.int i) (.int j)).bind (fun m => nuMin2 m (.int k)) = _
  rw [e1]
  exact e2
theorem w_slL {p : Addr} {lo hi : Option Int} (xs : List V) (h : SqL K H p xs) (q : ∀ l, H l = none → Q (.ref l) (upd H l (.lst (cutV xs lo hi)))) : rSlL K (.ref p) lo hi H Q := ⟨p, xs, rfl, h, q⟩
theorem w_slS {z : Str} {lo hi : Option Int} (h : z.length ≤ sizeLine) (q : Q (.str (cutS z lo hi)) H) : rSlS (.str z) lo hi H Q := ⟨z, rfl, h, q⟩
end
end R

namespace R
open PySem L2
/-! ### the bag of a law: its cells (never changed), a place, what is left, the stirred number, a count -/
structure Bag (K : PySem.W.Frag) (F H : Hp) (b : Addr) : Prop where
  ex : ∃ (c : Addr) (cells : List Int) (i cur st n : Int), F b = none ∧ H b = some (.lst [.ref c, .int i, .int cur, .int st, .int n]) ∧ SqL K F c (cells.map V.int) ∧ cells.length ≤ 63 ∧
    (∀ x ∈ cells, 0 ≤ x ∧ x < 10 ^ 60) ∧ 0 ≤ i ∧ 0 ≤ cur ∧ cur < 10 ^ 60 ∧ 0 ≤ st ∧ st < 2147483647
theorem Bag.keep {K : PySem.W.Frag} {M : List Addr} {F H F2 H2 : Hp} {b : Addr} (g : Gr M F H F2 H2) (h : Bag K F H b) (hb : b ∉ M) : Bag K F2 H2 b := by
  obtain ⟨c, cells, i, cur, st, n, h1, h2, h3, h4⟩ := h.ex
  exact ⟨c, cells, i, cur, st, n, g.nw b (ne_none h2) h1, g.hh b _ hb h2, sqL_same g.ff h3, h4⟩
theorem Bag.keep0 {K : PySem.W.Frag} {F H F2 H2 : Hp} {b : Addr} (g : Gr [] F H F2 H2) (h : Bag K F H b) : Bag K F2 H2 b := h.keep g (fun z => nomatch z)
theorem Bag.ne_new {K : PySem.W.Frag} {F H : Hp} {b q : Addr} (h : Bag K F H b) (hq : H q = none) : b ≠ q := by
  obtain ⟨c, cells, i, cur, st, n, h1, h2, _⟩ := h.ex
  exact ne_of_none h2 hq
/-- a draw: a number from 0 on below n -/
def φdraw (K : PySem.W.Frag) : V → V → Hp → VK → Prop := fun x y H Q => ∃ (b : Addr) (m : Int) (F : Hp), x = .ref b ∧ y = .int m ∧ Same F H ∧ Bag K F H b ∧ 0 < m ∧ m < 2 ^ 200 ∧
  ∀ (r : Int) (F2 H2 : Hp), Gr [b] F H F2 H2 → Bag K F2 H2 b → 0 ≤ r → r < m → Q (.int r) H2
theorem u_draw {K : PySem.W.Frag} {b : Addr} {m : Int} {F H : Hp} {Q : VK} {E : XK} (w : Same F H) (hb : Bag K F H b) (h0 : 0 < m) (h1 : m < 2 ^ 200) (q : ∀ (r : Int) (F2 H2 : Hp), Gr [b] F H F2 H2 → Bag K F2 H2 b → 0 ≤ r → r < m → Q (.int r) H2) :
    S2 (φdraw K) ([.ref b, .int m] ++ []) H Q E := ⟨b, m, F, rfl, rfl, w, hb, h0, h1, q⟩
def φbag (K : PySem.W.Frag) : V → Hp → VK → Prop := fun x H Q => ∃ (a : Addr) (ns : List Int), x = .ref a ∧ SqL K H a (ns.map V.int) ∧ ns.length ≤ 63 ∧
  ∀ (b : Addr) (F2 H2 : Hp), Gr [] H H F2 H2 → Bag K F2 H2 b → Q (.ref b) H2
theorem bits_le {m : Int} (h0 : 0 < m) (h1 : m < 2 ^ 200) : (Builtin.Int.intBits m : Int) ≤ 200 := by
  have h : m.natAbs < 2 ^ 200 := by omega
  have e := PyProof.Rows.intBits_le h
  omega
theorem mod_nn {a b : Int} (h : 0 < b) : 0 ≤ a % b := Int.emod_nonneg a (by omega)
theorem mod_lt {a b : Int} (h : 0 < b) : a % b < b := Int.emod_lt_of_pos a h
theorem div_nn {a b : Int} (ha : 0 ≤ a) (hb : 0 < b) : 0 ≤ a / b := Int.ediv_nonneg ha (by omega)
theorem div_le' {a b : Int} (ha : 0 ≤ a) (hb : 0 < b) : a / b ≤ a := Int.ediv_le_self b ha
theorem log2_lt {j : Int} (h : j.natAbs < 2 ^ 8999) (h0 : 0 < j) : CDivW 0 j := by
  refine ⟨h0, ?_⟩
  have hp : j.natAbs ≠ 0 := by omega
  have := (Nat.log2_lt hp).mpr h
  omega
theorem divw_ok {i j : Int} (h0 : 0 < j) (h1 : j < 2 ^ 200) : CDivW i j := by
  refine ⟨h0, ?_⟩
  have hp : j.natAbs ≠ 0 := by omega
  have h : j.natAbs < 2 ^ 200 := by omega
  have := (Nat.log2_lt hp).mpr h
  omega
/-! ### loops by what holds at each turn -/
section
variable {K : PySem.W.Frag} {σ : L2.St} {H : Hp} {Q : VK} {nx bk ct : L2.St → Hp → Prop} {rt : VK} {g : TG} {tb : TS}
/-- what tFor asks of a range, by what holds ahead of turn i -/
theorem f_range {lo : Int} {n : Nat} (Pv : Nat → L2.St → Hp → Prop) (h0 : Pv 0 σ H) (hs : ∀ i σ H, i < n → Pv i σ H → g (.int (lo + i)) σ H fun σ2 H2 => tb ⟨Pv (i + 1), rt, nx, Pv (i + 1)⟩ σ2 H2) (hd : ∀ σ H, Pv n σ H → nx σ H) :
    ∃ W : Nat → Nat → L2.St → Hp → Prop, (∃ m, W 0 m σ H) ∧ ∀ i m σ H, W i m σ H →
      ((Itr lo n).stop i H ∧ nx σ H) ∨ ((Itr lo n).go i H ∧ ∃ N : L2.St → Hp → Prop, (∀ σ' H', N σ' H' → ∃ m', m' < m ∧ W (i + 1) m' σ' H') ∧ ∀ x H', (Itr lo n).yld i H x H' → g x σ H' fun σ2 H2 => tb ⟨N, rt, nx, N⟩ σ2 H2) := by
  refine ⟨fun i m σ H => m = n - i ∧ i ≤ n ∧ Pv i σ H, ⟨n, by simp, Nat.zero_le _, h0⟩, ?_⟩
  rintro i m σ H ⟨rfl, hi, p⟩
  by_cases hlt : i < n
  · refine .inr ⟨hlt, Pv (i + 1), fun σ' H' p' => ⟨n - (i + 1), by omega, rfl, hlt, p'⟩, fun x H' y => ?_⟩
    obtain ⟨e, y⟩ := y
    subst e y
    exact hs i σ _ hlt p
  · have e : i = n := by omega
    subst e
    exact .inl ⟨Nat.le_refl _, hd σ H p⟩
theorem f_range0 {n : Nat} (Pv : Nat → L2.St → Hp → Prop) (h0 : Pv 0 σ H) (hs : ∀ i σ H, i < n → Pv i σ H → g (.int (i : Int)) σ H fun σ2 H2 => tb ⟨Pv (i + 1), rt, nx, Pv (i + 1)⟩ σ2 H2) (hd : ∀ σ H, Pv n σ H → nx σ H) :
    ∃ W : Nat → Nat → L2.St → Hp → Prop, (∃ m, W 0 m σ H) ∧ ∀ i m σ H, W i m σ H →
      ((Itr 0 n).stop i H ∧ nx σ H) ∨ ((Itr 0 n).go i H ∧ ∃ N : L2.St → Hp → Prop, (∀ σ' H', N σ' H' → ∃ m', m' < m ∧ W (i + 1) m' σ' H') ∧ ∀ x H', (Itr 0 n).yld i H x H' → g x σ H' fun σ2 H2 => tb ⟨N, rt, nx, N⟩ σ2 H2) :=
  f_range Pv h0 (fun i σ H hi hp => by rw [Int.zero_add]; exact hs i σ H hi hp) hd
theorem f_list {a : Addr} {xs : List V} (Pv : Nat → L2.St → Hp → Prop) (h0 : Pv 0 σ H) (hl : ∀ i σ H, i ≤ xs.length → Pv i σ H → SqL K H a xs)
    (hs : ∀ i x σ H, xs[i]? = some x → Pv i σ H → g x σ H fun σ2 H2 => tb ⟨Pv (i + 1), rt, nx, Pv (i + 1)⟩ σ2 H2) (hd : ∀ σ H, Pv xs.length σ H → nx σ H) :
    ∃ W : Nat → Nat → L2.St → Hp → Prop, (∃ m, W 0 m σ H) ∧ ∀ i m σ H, W i m σ H →
      ((Itl K a).stop i H ∧ nx σ H) ∨ ((Itl K a).go i H ∧ ∃ N : L2.St → Hp → Prop, (∀ σ' H', N σ' H' → ∃ m', m' < m ∧ W (i + 1) m' σ' H') ∧ ∀ x H', (Itl K a).yld i H x H' → g x σ H' fun σ2 H2 => tb ⟨N, rt, nx, N⟩ σ2 H2) := by
  refine ⟨fun i m σ H => m = xs.length - i ∧ i ≤ xs.length ∧ Pv i σ H, ⟨xs.length, by simp, Nat.zero_le _, h0⟩, ?_⟩
  rintro i m σ H ⟨rfl, hi, p⟩
  have q := hl i σ H hi p
  by_cases hlt : i < xs.length
  · refine .inr ⟨⟨xs, xs[i], q, by simp [hlt]⟩, Pv (i + 1), fun σ' H' p' => ⟨xs.length - (i + 1), by omega, rfl, hlt, p'⟩, fun x H' y => ?_⟩
    obtain ⟨e, y⟩ := y
    subst e
    exact hs i x σ _ (y xs q) p
  · have e : i = xs.length := by omega
    subst e
    exact .inl ⟨⟨xs, q, Nat.le_refl _⟩, hd σ H p⟩
variable {tt : TT} {te : TE} {vs : List Nat} {D : Addr} {Qd : Hp → Prop}
theorem lc_rng {n : Nat} (Pv : Nat → Hp → Prop) (h0 : Pv 0 (upd H D (.lst []))) (hs : ∀ i H, i < n → Pv i H → g (.int (i : Int)) (wipe σ vs) H fun σ2 H2 => wipe σ2 vs = wipe σ vs ∧ tt σ2 H2 fun b H3 =>
      if b = true then te σ2 H3 fun y H4 => ∃ acc, H4 D = some (.lst acc) ∧ acc.length < sizeLine ∧ Pv (i + 1) (upd H4 D (.lst (acc ++ [y]))) else Pv (i + 1) H3) (hd : ∀ H, Pv n H → Qd H) :
    ∃ W : Nat → Nat → Hp → Prop, (∃ m, W 0 m (upd H D (.lst []))) ∧ ∀ i m H, W i m H →
      ((Itr 0 n).stop i H ∧ Qd H) ∨ ((Itr 0 n).go i H ∧ ∃ Nx : Hp → Prop, (∀ H', Nx H' → ∃ m', m' < m ∧ W (i + 1) m' H') ∧ ∀ x H', (Itr 0 n).yld i H x H' → g x (wipe σ vs) H' fun σ2 H2 => wipe σ2 vs = wipe σ vs ∧ tt σ2 H2 fun b H3 =>
        if b = true then te σ2 H3 fun y H4 => ∃ acc, H4 D = some (.lst acc) ∧ acc.length < sizeLine ∧ Nx (upd H4 D (.lst (acc ++ [y]))) else Nx H3) :=
  lc_range (lo := 0) Pv h0 (fun i H hi hp => by rw [Int.zero_add]; exact hs i H hi hp) hd
end
end R

namespace R
open PySem L2
theorem Gr.put {M : List Addr} {F0 H0 F H : Hp} {p : Addr} {o : HO} (g : Gr M F0 H0 F H) (h : F p = none) (hm : p ∈ M) : Gr M F0 H0 F (upd H p o) := g.trans (.wr g.fh h hm)
theorem Gr.add {M : List Addr} {F0 H0 F H : Hp} {p : Addr} {o : HO} (g : Gr M F0 H0 F H) (h : H p = none) : Gr M F0 H0 (upd F p o) (upd H p o) := g.trans (.im g.fh h)
theorem Gr.addm {M : List Addr} {F0 H0 F H : Hp} {p : Addr} {o : HO} (g : Gr M F0 H0 F H) (h : H p = none) : Gr M F0 H0 F (upd H p o) := g.trans (.new g.fh h)
theorem Gr.ws {M : List Addr} {F H F2 H2 : Hp} (g : Gr M F H F2 H2) : Same F H2 := g.ff.trans g.fh
theorem Gr.transN {M N : List Addr} {F H F1 H1 F2 H2 : Hp} (a : Gr M F H F1 H1) (b : Gr N F1 H1 F2 H2) (h : ∀ x ∈ N, x ∈ M ∨ H x = none) : Gr M F H F2 H2 :=
  ⟨a.ff.trans b.ff, b.fh, fun x o n e => b.hh x o (fun m => (h x m).elim n fun z => by rw [z] at e; cases e) (a.hh x o n e), fun x e => b.al x (a.al x e), fun x e n => b.nw x (a.al x e) (a.nw x e n)⟩
/-- back to a smaller part that stays -/
theorem Gr.back {M : List Addr} {F F' H F2 H2 : Hp} (g : Gr M F' H F2 H2) (s : Same F F') : Gr M F H F H2 := ⟨Same.refl F, (s.trans g.ff).trans g.fh, g.hh, g.al, fun _ _ n => n⟩
theorem Gr.fresh {M : List Addr} {F0 H0 F H : Hp} {p : Addr} (g : Gr M F0 H0 F H) (h : H p = none) : H0 p = none := by
  cases e : H0 p with
  | none => rfl
  | some o => exact absurd h (g.al p (ne_none e))
/-- an object that was new behind the start, and changes no more -/
theorem Gr.frz {M : List Addr} {F0 H0 F H : Hp} {p : Addr} {o : HO} (g : Gr M F0 H0 F H) (hn : H0 p = none) (m : Mu F H p o) : Gr M F0 H0 (upd F p o) H := by
  refine ⟨g.ff.trans (Same.new m.n), fun a u e => ?_, g.hh, g.al, fun a e n => ?_⟩
  · by_cases q : a = p
    · subst q
      rw [upd_same] at e
      exact m.h.trans e
    · rw [upd_ne q] at e
      exact g.fh a u e
  · have q : a ≠ p := fun z => by subst z; exact e hn
    rw [upd_ne q]
    exact g.nw a e n
theorem Mu.same {F H : Hp} {p : Addr} {o : HO} (m : Mu F H p o) (w : Same F H) : Same (upd F p o) H := fun a u e => by
  by_cases q : a = p
  · subst q
    rw [upd_same] at e
    exact m.h.trans e
  · rw [upd_ne q] at e
    exact w a u e
theorem Mu.frz {F H : Hp} {p q : Addr} {o u : HO} (m : Mu F H p o) (h : p ≠ q) : Mu (upd F q u) H p o := ⟨by rw [upd_ne h]; exact m.n, m.h⟩
theorem Bag.frz {K : PySem.W.Frag} {F H : Hp} {b q : Addr} {u : HO} (h : Bag K F H b) (hn : F q = none) (hq : b ≠ q) : Bag K (upd F q u) H b := by
  obtain ⟨c, cells, i, cur, st, n, h1, h2, h3, h4⟩ := h.ex
  exact ⟨c, cells, i, cur, st, n, by rw [upd_ne hq]; exact h1, h2, sqL_same (Same.new hn) h3, h4⟩
theorem Bag.put {K : PySem.W.Frag} {F H : Hp} {b q : Addr} {u : HO} (h : Bag K F H b) (hq : b ≠ q) : Bag K F (upd H q u) b := by
  obtain ⟨c, cells, i, cur, st, n, h1, h2, h3, h4⟩ := h.ex
  exact ⟨c, cells, i, cur, st, n, h1, by rw [upd_ne hq]; exact h2, h3, h4⟩
theorem Bag.addm {K : PySem.W.Frag} {F H : Hp} {b q : Addr} {u : HO} (h : Bag K F H b) (hq : H q = none) : Bag K F (upd H q u) b := h.put (h.ne_new hq)
theorem Bag.add {K : PySem.W.Frag} {F H : Hp} {b q : Addr} {u : HO} (w : Same F H) (h : Bag K F H b) (hq : H q = none) : Bag K (upd F q u) (upd H q u) b := (h.addm hq).frz (w.free hq) (h.ne_new hq)
theorem Mu.addm {F H : Hp} {p q : Addr} {o u : HO} (m : Mu F H p o) (hq : H q = none) : Mu F (upd H q u) p o := m.oth (m.ne_new hq)
theorem Mu.add {F H : Hp} {p q : Addr} {o u : HO} (m : Mu F H p o) (hq : H q = none) : Mu (upd F q u) (upd H q u) p o := (m.addm hq).frz (m.ne_new hq)
/-- a draw, the whole growth carried -/
theorem d_draw {K : PySem.W.Frag} {M : List Addr} {F0 H0 F H : Hp} {b : Addr} {m : Int} {Q : VK} {E : XK} (g : Gr M F0 H0 F H) (hb : Bag K F H b) (h0 : 0 < m) (h1 : m < 2 ^ 200)
    (q : ∀ (r : Int) (F2 H2 : Hp), Gr M F0 H0 F2 H2 → Gr [b] F H F2 H2 → Bag K F2 H2 b → 0 ≤ r → r < m → Q (.int r) H2) (hm : b ∈ M := by simp) :
    S2 (φdraw K) ([.ref b, .int m] ++ []) H Q E := ⟨b, m, F, rfl, rfl, g.fh, hb, h0, h1, fun r F2 H2 g2 hb2 hr0 hr1 => q r F2 H2 (g.trans (g2.sub fun x hx => by rw [List.mem_singleton.mp hx]; exact hm)) g2 hb2 hr0 hr1⟩
/-! ### data -/
theorem dpa_len {K : PySem.W.Frag} {F : Hp} : ∀ {vs : List V} {ds : List PyData}, DpAll K F vs ds → vs.length = ds.length
  | _, _, .nil => rfl
  | _, _, .cons _ t => congrArg (· + 1) (dpa_len t)
theorem dpa_get {K : PySem.W.Frag} {F : Hp} : ∀ {vs : List V} {ds : List PyData} {i : Nat} {d : PyData}, DpAll K F vs ds → ds[i]? = some d → ∃ v, vs[i]? = some v ∧ Dp K F v d
  | _, _, _, _, .nil, e => by simp at e
  | _, _, 0, _, .cons h _, e => by
    have e' := Option.some.inj e
    subst e'
    exact ⟨_, rfl, h⟩
  | _, _, i + 1, _, .cons _ t, e => dpa_get (i := i) t e
theorem dpa_app {K : PySem.W.Frag} {F : Hp} : ∀ {vs us : List V} {ds es : List PyData}, DpAll K F vs ds → DpAll K F us es → DpAll K F (vs ++ us) (ds ++ es)
  | _, _, _, _, .nil, h => h
  | _, _, _, _, .cons h t, u => .cons h (dpa_app t u)
theorem dpa_snoc {K : PySem.W.Frag} {F : Hp} {vs : List V} {ds : List PyData} {v : V} {d : PyData} (h : DpAll K F vs ds) (hd : Dp K F v d) : DpAll K F (vs ++ [v]) (ds ++ [d]) := dpa_app h (.cons hd .nil)
theorem dpa_mem {K : PySem.W.Frag} {F : Hp} : ∀ {vs : List V} {ds : List PyData} {v : V}, DpAll K F vs ds → v ∈ vs → ∃ d, d ∈ ds ∧ Dp K F v d
  | _, _, _, .nil, e => nomatch e
  | _, _, _, .cons h t, e => by
    rcases List.mem_cons.mp e with e | e
    · subst e
      exact ⟨_, List.mem_cons_self .., h⟩
    · obtain ⟨d, m, hd⟩ := dpa_mem t e
      exact ⟨d, List.mem_cons_of_mem _ m, hd⟩
def tyD : PyData → String
  | .none => "NoneType" | .bool _ => "bool" | .int _ => "int" | .str _ => "str" | .list _ => "list" | .tuple _ => "tuple" | .dict _ => "dict"
theorem tyx_of {K : PySem.W.Frag} {F H : Hp} {x : V} {d : PyData} (h : Dp K F x d) (w : Same F H) : TyX K H x (.type (tyD d)) := by
  cases h with
  | non => exact .base .non
  | bl b => exact .base (.bl b)
  | int i => exact .base (.int i)
  | str s => exact .base (.str s)
  | lst hs _ =>
    rcases hs with (h | ⟨o, h⟩) | ⟨o, its, n, e1, e2, _⟩
    · exact .base (.lst (w _ _ h))
    · exact .base (.frz (w _ _ h))
    · exact .kList e1 e2
  | tup hs _ =>
    rcases hs with (h | ⟨o, h⟩) | ⟨o, its, n, e1, e2, _⟩
    · exact .base (.tup (w _ _ h))
    · exact .fTuple (w _ _ h)
    · exact .kTuple e1 e2
section
variable {K : PySem.W.Frag} {F H : Hp} {x y : V} {d : PyData} {Q : VK} {n m : String} {p : Addr}
theorem u_isi {b : Bool} (h : Dp K F x d) (w : Same F H) (e : kitB (tyD d) n = some b) (q : Q (.bl b) H) : rIsi K [x, .ty n] H Q :=
  ⟨x, .ty n, _, _, b, rfl, .ty n, tyx_of h w, kit_ty e, q⟩
theorem u_isiT {b c : Bool} (h : Dp K F x d) (w : Same F H) (hp : H p = some (.tup [.ty n, .ty m])) (e1 : kitB (tyD d) n = some b) (e2 : kitB (tyD d) m = some c) (q : Q (.bl (b || c)) H) : rIsiT K [x, .ref p] H Q := by
  refine ⟨x, p, _, _, _, b || c, rfl, hp, .cons (.ty n) (.cons (.ty m) .nil), tyx_of h w, ?_, q⟩
  refine kitAny_cons (kit_ty e1) (fun hb => ?_) (fun hb => by rw [hb]; rfl)
  refine kitAny_cons (kit_ty e2) (fun hc => ?_) (fun hc => by rw [hc]; simp)
  rw [hb, hc]
  exact kitAny_nil
end
/-- the answers of isinstance for data -/
def isSeq : PyData → Bool
  | .list _ | .tuple _ => true
  | _ => false
def isLst : PyData → Bool
  | .list _ => true
  | _ => false
def isTup : PyData → Bool
  | .tuple _ => true
  | _ => false
def isBol : PyData → Bool
  | .bool _ => true
  | _ => false
def isInt : PyData → Bool
  | .bool _ | .int _ => true
  | _ => false
def isStr : PyData → Bool
  | .str _ => true
  | _ => false
theorem k_list : ∀ d : PyData, kitB (tyD d) "list" = some (isLst d) := by intro d; cases d <;> simp only [tyD, isLst, isTup, isBol, isInt, isStr] <;> decide +kernel
theorem k_tuple : ∀ d : PyData, kitB (tyD d) "tuple" = some (isTup d) := by intro d; cases d <;> simp only [tyD, isLst, isTup, isBol, isInt, isStr] <;> decide +kernel
theorem k_bool : ∀ d : PyData, kitB (tyD d) "bool" = some (isBol d) := by intro d; cases d <;> simp only [tyD, isLst, isTup, isBol, isInt, isStr] <;> decide +kernel
theorem k_int : ∀ d : PyData, kitB (tyD d) "int" = some (isInt d) := by intro d; cases d <;> simp only [tyD, isLst, isTup, isBol, isInt, isStr] <;> decide +kernel
theorem k_str : ∀ d : PyData, kitB (tyD d) "str" = some (isStr d) := by intro d; cases d <;> simp only [tyD, isLst, isTup, isBol, isInt, isStr] <;> decide +kernel
def itemsD : PyData → List PyData
  | .list ds | .tuple ds => ds
  | _ => []
theorem seq_of {K : PySem.W.Frag} {F : Hp} {x : V} {d : PyData} (h : Dp K F x d) (s : isSeq d = true) : ∃ (a : Addr) (vs : List V), x = .ref a ∧ (SqL K F a vs ∨ SqT K F a vs) ∧ DpAll K F vs (itemsD d) := by
  cases h with
  | lst hs ha => exact ⟨_, _, rfl, .inl hs, ha⟩
  | tup hs ha => exact ⟨_, _, rfl, .inr hs, ha⟩
  | _ => cases s
theorem sca_of {K : PySem.W.Frag} {F : Hp} {x y : V} {d : PyData} (h : Dp K F x d) (h' : Dp K F y d) (s : isSeq d = false) : y = x ∧ scal x x = true := by
  cases h with
  | lst hs ha => cases s
  | tup hs ha => cases s
  | non => cases h'; exact ⟨rfl, rfl⟩
  | bl => cases h'; exact ⟨rfl, rfl⟩
  | int => cases h'; exact ⟨rfl, rfl⟩
  | str => cases h'; exact ⟨rfl, rfl⟩
theorem depth_item : ∀ {d e : PyData} {i : Nat}, isSeq d = true → (itemsD d)[i]? = some e → e.depth < d.depth := by
  have key : ∀ (ds : List PyData) (i : Nat) (e : PyData), ds[i]? = some e → e.depth ≤ PyData.depthAll ds := by
    intro ds
    induction ds with
    | nil => intro i e h; simp at h
    | cons d ds ih =>
      intro i e h
      cases i with
      | zero =>
        have e' := Option.some.inj h
        subst e'
        rw [PyData.depthAll]
        exact Nat.le_max_left _ _
      | succ i =>
        have := ih i e h
        rw [PyData.depthAll]
        exact Nat.le_trans this (Nat.le_max_right _ _)
  intro d e i s h
  cases d with
  | list ds => rw [PyData.depth]; exact Nat.lt_succ_of_le (key ds i e h)
  | tuple ds => rw [PyData.depth]; exact Nat.lt_succ_of_le (key ds i e h)
  | _ => cases s
section
variable {K : PySem.W.Frag} {H : Hp} {Q : VK} {v : V} {A B : Prop}
theorem w_ixQ {a : Addr} {i : Int} (vs : List V) (v : V) (h : SqL K H a vs ∨ SqT K H a vs) (e : atI vs i = some v) (q : Q v H) : rIx K (.ref a) (.int i) H Q := by
  rcases h with h | h
  · exact .inl ⟨a, vs, i, v, rfl, rfl, h, e, q⟩
  · exact .inr (.inl ⟨a, vs, i, v, rfl, rfl, h, e, q⟩)
theorem sq_same {F : Hp} {a : Addr} {vs : List V} (w : Same F H) (h : SqL K F a vs ∨ SqT K F a vs) : SqL K H a vs ∨ SqT K H a vs := h.elim (fun h => .inl (sqL_same w h)) fun h => .inr (sqT_same w h)
theorem w_nself {α : Type} [DecidableEq α] {a : α} (h : B) : if (!decide (a = a)) = true then A else B := by
  rw [if_neg (by simp)]
  exact h
theorem w_self {α : Type} [DecidableEq α] {a : α} (h : A) : if decide (a = a) = true then A else B := by
  rw [if_pos (by simp)]
  exact h
theorem w_is {b c : Bool} (e : b = c) (h : if c = true then A else B) : if b = true then A else B := by rw [e]; exact h
end
theorem le1000 {n : Nat} (h : n ≤ 1000) : n ≤ sizeLine := Nat.le_of_lt (small1000 h)
theorem small_lt {n : Nat} (h : n ≤ 1000000) : n < sizeLine := by rw [sizeLine_eq]; omega
theorem all_rep (n : Nat) : (List.replicate n true).all id = true := by
  induction n with
  | zero => rfl
  | succ n ih => rw [List.replicate_succ, List.all_cons, ih]; rfl
theorem szle {n : Nat} (h : n ≤ 1000000) : n ≤ sizeLine := Nat.le_of_lt (by rw [sizeLine_eq]; omega)
section
variable {K : PySem.W.Frag} {σ : L2.St} {H : Hp} {Q : VK} {ta : TE}
theorem w_lstRg {te : L2.St → Hp → (Int → Int → Hp → Prop) → Prop} (q : te σ H fun a b H1 => RgOk a b ∧ ∀ q, H1 q = none → Q (.ref q) (upd H1 q (.lst (rgV a b)))) : tLstRg te σ H Q := q
theorem w_rg1 {R : Int → Int → Hp → Prop} (q : ta σ H fun x H1 => asInt x H1 fun n H2 => R 0 n H2) : tRg1 ta σ H R := q
theorem w_revL (q : ta σ H fun x H1 => ∃ a xs, x = .ref a ∧ SqL K H1 a xs ∧ ∀ p, H1 p = none → Q (.ref p) (upd H1 p (.lst xs.reverse))) : tRevL K ta σ H Q := q
end
def nV (l : List Nat) : List V := l.map fun k => V.int (k : Nat)
theorem rgV0 (n : Int) : rgV 0 n = nV (List.range n.toNat) := by
  unfold rgV nV
  rw [Int.sub_zero]
  refine List.map_congr_left fun k _ => ?_
  rw [Int.zero_add]
theorem nV_rev (l : List Nat) : (nV l).reverse = nV l.reverse := by
  unfold nV
  rw [List.map_reverse]
theorem nV_get {l : List Nat} {i : Nat} {x : V} (h : (nV l)[i]? = some x) : ∃ k, l[i]? = some k ∧ x = .int (k : Nat) := by
  unfold nV at h
  rw [List.getElem?_map] at h
  cases e : l[i]? with
  | none => rw [e] at h; cases h
  | some k =>
    rw [e] at h
    exact ⟨k, rfl, (Option.some.inj h).symm⟩
theorem pick_ix {ns : List Int} {i lo hi : Int} (h0 : 0 ≤ i) (h1 : i < (ns.length : Int)) (hb : ∀ x ∈ ns, lo ≤ x ∧ x ≤ hi) : ∃ m, atI (ns.map V.int) i = some (.int m) ∧ lo ≤ m ∧ m ≤ hi := by
  have hi : i.toNat < ns.length := by omega
  refine ⟨ns[i.toNat], ?_, hb _ (List.getElem_mem hi)⟩
  refine at_of (j := i.toNat) (by omega) ?_
  rw [List.getElem?_map, List.getElem?_eq_getElem hi]
  rfl
theorem rep_flat {α : Type} (n : Nat) (x : α) : (List.replicate n [x]).flatten = List.replicate n x := by
  induction n with
  | zero => rfl
  | succ n ih => rw [List.replicate_succ, List.flatten_cons, ih]; rfl
theorem cell_at {cells : List Int} {i : Int} (h0 : 0 ≤ i) (h1 : i < ((cells.map V.int).length : Nat)) : ∃ x, x ∈ cells ∧ atI (cells.map V.int) i = some (.int x) := by
  rw [List.length_map] at h1
  have hi : i.toNat < cells.length := by omega
  refine ⟨cells[i.toNat], List.getElem_mem hi, ?_⟩
  refine at_of (j := i.toNat) (by omega) ?_
  rw [List.getElem?_map, List.getElem?_eq_getElem hi]
  rfl
theorem cut63 {ns : List Int} (h : ns.length ≤ 63) : cutV (ns.map V.int) none (some 63) = ns.map V.int := by
  unfold cutV
  rw [HT.sIx_none, show HT.sIx (ns.map V.int).length (ns.map V.int).length (some 63) = min 63 (ns.map V.int).length from HT.sIx_nat _ _ 63, List.drop_zero, List.length_map]
  refine List.take_of_length_le ?_
  rw [List.length_map]
  omega
theorem map_get {ns : List Int} {i : Nat} {x : V} (h : (ns.map V.int)[i]? = some x) : ∃ c, x = .int c := by
  rw [List.getElem?_map] at h
  cases e : ns[i]? with
  | none => rw [e] at h; cases h
  | some c =>
    rw [e] at h
    exact ⟨c, (Option.some.inj h).symm⟩
/-! data of modest size, no dicts, plain signs -/
mutual
def good : PyData → Bool
  | .none | .bool _ | .int _ => true
  | .str x => PyData.strOk x && decide (x.length ≤ 100000)
  | .list ds | .tuple ds => decide (ds.length ≤ 100000) && goodAll ds
  | .dict _ => false
def goodAll : List PyData → Bool
  | [] => true
  | d :: ds => good d && goodAll ds
end
theorem goodAll_iff : ∀ {ds : List PyData}, goodAll ds = true ↔ ∀ d ∈ ds, good d = true
  | [] => by simp [goodAll]
  | d :: ds => by simp [goodAll, goodAll_iff (ds := ds)]
mutual
theorem lay_good : ∀ d : PyData, good d = true → d.canLay0 = true
  | .none, _ => rfl
  | .bool _, _ => rfl
  | .int _, _ => rfl
  | .str x, h => by
    rw [good, Bool.and_eq_true] at h
    exact h.1
  | .list ds, h => by
    rw [good, Bool.and_eq_true] at h
    exact lay_goodAll ds h.2
  | .tuple ds, h => by
    rw [good, Bool.and_eq_true] at h
    exact lay_goodAll ds h.2
  | .dict _, h => by cases h
theorem lay_goodAll : ∀ ds : List PyData, goodAll ds = true → PyData.canLayAll0 ds = true
  | [], _ => rfl
  | d :: ds, h => by
    rw [goodAll, Bool.and_eq_true] at h
    rw [PyData.canLayAll0, lay_good d h.1, lay_goodAll ds h.2]
    rfl
end
theorem good_item {d e : PyData} {i : Nat} (h : good d = true) (he : (itemsD d)[i]? = some e) : good e = true := by
  cases d with
  | list ds =>
    rw [good, Bool.and_eq_true] at h
    exact goodAll_iff.mp h.2 e (List.mem_of_getElem? he)
  | tuple ds =>
    rw [good, Bool.and_eq_true] at h
    exact goodAll_iff.mp h.2 e (List.mem_of_getElem? he)
  | _ => simp [itemsD] at he
theorem good_len {d : PyData} (h : good d = true) : (itemsD d).length ≤ 100000 := by
  cases d with
  | list ds =>
    rw [good, Bool.and_eq_true] at h
    exact of_decide_eq_true h.1
  | tuple ds =>
    rw [good, Bool.and_eq_true] at h
    exact of_decide_eq_true h.1
  | _ => exact Nat.zero_le _
theorem good_shaped {d : PyData} (h : good d = true) (hd : d.depth ≤ 64) : SeqAt.shaped d = true := by
  unfold SeqAt.shaped
  rw [lay_good d h, decide_eq_true hd]
  rfl
theorem good_refl {d : PyData} (h : good d = true) : PyData.eqv d d = true := SeqAt.eqv_refl d (lay_good d h)
theorem good_list {ds : List PyData} (hl : ds.length ≤ 100000) (h : ∀ d ∈ ds, good d = true) : good (.list ds) = true := by
  rw [good, Bool.and_eq_true]
  exact ⟨decide_eq_true hl, goodAll_iff.mpr h⟩
theorem good_tuple {ds : List PyData} (hl : ds.length ≤ 100000) (h : ∀ d ∈ ds, good d = true) : good (.tuple ds) = true := by
  rw [good, Bool.and_eq_true]
  exact ⟨decide_eq_true hl, goodAll_iff.mpr h⟩
theorem depth_list {ds : List PyData} {n : Nat} (h : ∀ d ∈ ds, d.depth ≤ n) : (PyData.list ds).depth ≤ n + 1 := by
  have key : ∀ ds : List PyData, (∀ d ∈ ds, d.depth ≤ n) → PyData.depthAll ds ≤ n := by
    intro ds
    induction ds with
    | nil => intro _; exact Nat.zero_le _
    | cons d ds ih =>
      intro h
      rw [PyData.depthAll]
      exact Nat.max_le.mpr ⟨h d (List.mem_cons_self ..), ih fun e he => h e (List.mem_cons_of_mem _ he)⟩
  rw [PyData.depth]
  exact Nat.succ_le_succ (key ds h)
theorem depth_tuple {ds : List PyData} {n : Nat} (h : ∀ d ∈ ds, d.depth ≤ n) : (PyData.tuple ds).depth ≤ n + 1 := depth_list (ds := ds) h
/-! == and != of equal data -/
section
variable {K : PySem.W.Frag} {F H : Hp} {x y : V} {d : PyData} {Q : VK}
theorem u_eqD (w : Same F H) (hx : Dp K F x d) (hy : Dp K F y d) (hg : good d = true) (hd : d.depth ≤ 64) (q : Q (.bl true) H) : rEqD K x y H Q :=
  ⟨d, d, dp_same w _ _ hx, dp_same w _ _ hy, good_shaped hg hd, good_shaped hg hd, by rw [good_refl hg]; exact q⟩
theorem u_neD (w : Same F H) (hx : Dp K F x d) (hy : Dp K F y d) (hg : good d = true) (hd : d.depth ≤ 64) (q : Q (.bl false) H) : rNeD K x y H Q :=
  ⟨d, d, dp_same w _ _ hx, dp_same w _ _ hy, good_shaped hg hd, good_shaped hg hd, by rw [good_refl hg]; exact q⟩
end
/-- two things of the same data -/
def φalike (K : PySem.W.Frag) (n : Nat) : V → V → Hp → VK → Prop := fun x y H Q => ∃ (F : Hp) (d : PyData), Same F H ∧ Dp K F x d ∧ Dp K F y d ∧ d.depth < n ∧ good d = true ∧
  ∀ F2 H2 : Hp, Gr [] F H F2 H2 → Q (.bl true) H2
theorem alike0 {K : PySem.W.Frag} {vs : List V} {H : Hp} {Q : VK} {E : XK} (h : S2 (φalike K 0) vs H Q E) : False := by
  match vs, h with
  | [_, _], h =>
    obtain ⟨F, d, _, _, _, hn, _⟩ := h
    exact absurd hn (Nat.not_lt_zero _)
end R

namespace R
open PySem L2
/-! ### data taken apart -/
section
variable {K : PySem.W.Frag} {F : Hp} {x v : V}
theorem dp_int {i : Int} (h : Dp K F x (.int i)) : x = .int i := by cases h; rfl
theorem dp_str {s : Str} (h : Dp K F x (.str s)) : x = .str s := by cases h; rfl
theorem dp_non (h : Dp K F x .none) : x = .non := by cases h; rfl
theorem dp_bool {b : Bool} (h : Dp K F x (.bool b)) : x = .bl b := by cases h; rfl
theorem dp_list {ds : List PyData} (h : Dp K F x (.list ds)) : ∃ (a : Addr) (vs : List V), x = .ref a ∧ SqL K F a vs ∧ DpAll K F vs ds := by
  cases h with
  | lst hs ha => exact ⟨_, _, rfl, hs, ha⟩
theorem dp_tup {ds : List PyData} (h : Dp K F x (.tuple ds)) : ∃ (a : Addr) (vs : List V), x = .ref a ∧ SqT K F a vs ∧ DpAll K F vs ds := by
  cases h with
  | tup hs ha => exact ⟨_, _, rfl, hs, ha⟩
theorem dpa_cons {vs : List V} {d : PyData} {ds : List PyData} (h : DpAll K F vs (d :: ds)) : ∃ v us, vs = v :: us ∧ Dp K F v d ∧ DpAll K F us ds := by
  cases h with
  | cons h t => exact ⟨_, _, rfl, h, t⟩
theorem dpa_nil {vs : List V} (h : DpAll K F vs []) : vs = [] := by cases h; rfl
theorem dp_tup3 {d1 d2 d3 : PyData} (h : Dp K F x (.tuple [d1, d2, d3])) : ∃ (a : Addr) (v1 v2 v3 : V), x = .ref a ∧ SqT K F a [v1, v2, v3] ∧ Dp K F v1 d1 ∧ Dp K F v2 d2 ∧ Dp K F v3 d3 := by
  obtain ⟨a, vs, rfl, hs, h0⟩ := dp_tup h
  obtain ⟨v1, us, rfl, h1, h0⟩ := dpa_cons h0
  obtain ⟨v2, us, rfl, h2, h0⟩ := dpa_cons h0
  obtain ⟨v3, us, rfl, h3, h0⟩ := dpa_cons h0
  cases dpa_nil h0
  exact ⟨a, v1, v2, v3, rfl, hs, h1, h2, h3⟩
theorem dp_tup4 {d1 d2 d3 d4 : PyData} (h : Dp K F x (.tuple [d1, d2, d3, d4])) : ∃ (a : Addr) (v1 v2 v3 v4 : V), x = .ref a ∧ SqT K F a [v1, v2, v3, v4] ∧ Dp K F v1 d1 ∧ Dp K F v2 d2 ∧ Dp K F v3 d3 ∧ Dp K F v4 d4 := by
  obtain ⟨a, vs, rfl, hs, h0⟩ := dp_tup h
  obtain ⟨v1, us, rfl, h1, h0⟩ := dpa_cons h0
  obtain ⟨v2, us, rfl, h2, h0⟩ := dpa_cons h0
  obtain ⟨v3, us, rfl, h3, h0⟩ := dpa_cons h0
  obtain ⟨v4, us, rfl, h4, h0⟩ := dpa_cons h0
  cases dpa_nil h0
  exact ⟨a, v1, v2, v3, v4, rfl, hs, h1, h2, h3, h4⟩
end
/-! ### texts -/
/-- a text of plain signs -/
def okS (z : Str) : Prop := PyData.strOk z = true
instance (z : Str) : Decidable (okS z) := inferInstanceAs (Decidable (PyData.strOk z = true))
theorem ok_cat {a b : Str} (h : okS a) (h' : okS b) : okS (a ++ b) := by
  have e : (a ++ b).cps.toList = a.cps.toList ++ b.cps.toList := TL.tl_append a b
  have h1 : a.cps.all (· < 0x110000) = true := h
  have h2 : b.cps.all (· < 0x110000) = true := h'
  show (a ++ b).cps.all (· < 0x110000) = true
  rw [← Array.all_toList] at h1 h2 ⊢
  rw [e, List.all_append, h1, h2]
  rfl
theorem joined (ys : List Str) (h : ∀ y ∈ ys, y.length = 1 ∧ okS y) : (Txt.join ⟨#[]⟩ ys).length = ys.length ∧ okS (Txt.join ⟨#[]⟩ ys) := by
  have e : TL.tl (Txt.join ⟨#[]⟩ ys) = (ys.map TL.tl).flatten := by
    rw [TL.join_eq, TL.tl_join]
    have key : ∀ l : List (List Nat), TL.joinL [] l = l.flatten := by
      intro l
      induction l with
      | nil => rfl
      | cons p r ih =>
        cases r with
        | nil => simp [TL.joinL]
        | cons q r =>
          show p ++ ([] ++ TL.joinL [] (q :: r)) = _
          rw [ih, List.nil_append]
          rfl
    exact key _
  have hl : ∀ z : Str, z.length = (TL.tl z).length := fun z => by simp [TL.tl, Str.length]
  constructor
  · rw [hl, e]
    clear e
    induction ys with
    | nil => rfl
    | cons y r ih =>
      rw [List.map_cons, List.flatten_cons, List.length_append, ih fun z hz => h z (List.mem_cons_of_mem _ hz), ← hl, (h y (List.mem_cons_self ..)).1, List.length_cons]
      omega
  · show (Txt.join ⟨#[]⟩ ys).cps.all (· < 0x110000) = true
    rw [← Array.all_toList]
    show (TL.tl (Txt.join ⟨#[]⟩ ys)).all _ = true
    rw [e, List.all_eq_true]
    intro c hc
    obtain ⟨l, hl1, hc⟩ := List.mem_flatten.mp hc
    obtain ⟨y, hy, rfl⟩ := List.mem_map.mp hl1
    have h2 : y.cps.all (· < 0x110000) = true := (h y hy).2
    rw [← Array.all_toList, List.all_eq_true] at h2
    exact h2 c hc
theorem sum_ones : ∀ (ys : List Str), (∀ y ∈ ys, y.length = 1 ∧ okS y) → (ys.map (·.length)).sum = ys.length
  | [], _ => rfl
  | y :: r, h => by
    rw [List.map_cons, List.sum_cons, sum_ones r fun z hz => h z (List.mem_cons_of_mem _ hz), (h y (List.mem_cons_self ..)).1, List.length_cons]
    omega
theorem at_of' {α : Type} {xs : List α} {z : Int} {j : Nat} {v : α} (e : z = (j : Int)) (h : xs[j]? = some v) : atI xs z = some v := by
  rw [e]
  exact atI_nat h
theorem sign_at {z : Str} {r : Int} (ok : okS z) (h0 : 0 ≤ r) (h1 : r < (z.length : Nat)) : ∃ c : Nat, atI z.cps.toList r = some c ∧ okS ⟨#[c]⟩ := by
  have hi : r.toNat < z.cps.toList.length := by
    have : z.cps.toList.length = z.length := by simp [Str.length]
    omega
  refine ⟨z.cps.toList[r.toNat], at_of' (by omega) (List.getElem?_eq_getElem hi), ?_⟩
  have h2 : z.cps.all (· < 0x110000) = true := ok
  rw [← Array.all_toList, List.all_eq_true] at h2
  have h3 := h2 _ (List.getElem_mem hi)
  show (#[z.cps.toList[r.toNat]] : Array Nat).all (· < 0x110000) = true
  simpa using h3
theorem sign_get {z : Str} {k : Nat} (h1 : k < z.length) : atI z.cps.toList (k : Int) = some (z.cps.toList.getD k 0) := by
  have hi : k < z.cps.toList.length := by
    have : z.cps.toList.length = z.length := by simp [Str.length]
    omega
  refine atI_nat ?_
  rw [List.getD_eq_getElem?_getD, List.getElem?_eq_getElem hi]
  rfl
theorem ok_sign {z : Str} {k : Nat} (ok : okS z) (h1 : k < z.length) : okS ⟨#[z.cps.toList.getD k 0]⟩ := by
  have hi : k < z.cps.toList.length := by
    have : z.cps.toList.length = z.length := by simp [Str.length]
    omega
  have h2 : z.cps.all (· < 0x110000) = true := ok
  rw [← Array.all_toList, List.all_eq_true] at h2
  have h3 := h2 _ (List.getElem_mem hi)
  rw [List.getD_eq_getElem?_getD, List.getElem?_eq_getElem hi]
  show (#[z.cps.toList[k]] : Array Nat).all (· < 0x110000) = true
  simpa using h3
/-! ### rows of a plan -/
inductive Wd where | copy | keep | lay
  deriving DecidableEq
def Wd.s : Wd → Str
  | .copy => "copy" | .keep => "keep" | .lay => "lay"
inductive PRow where
  | put (to : Int) (s : Str)
  | mv (w : Wd) (to at_ n : Int)
def PRow.d : PRow → PyData
  | .put to s => .tuple [.str "put", .int to, .str s]
  | .mv w to a n => .tuple [.str w.s, .int to, .int a, .int n]
def PRow.size : PRow → Nat
  | .put _ s => s.length
  | .mv _ _ _ n => n.toNat
def PRow.ok : PRow → Prop
  | .put _ s => okS s ∧ s.length ≤ 5000
  | .mv _ _ _ n => 0 ≤ n ∧ n ≤ 5000
def wr (a : Str) (i : Int) (b : Str) (x : PyData) : PyData := .tuple [.str a, .int i, .str b, x]
def Wd.cell (w : Wd) : Str := if w = .keep then "slot" else "cell"
def Wd.src (w : Wd) : Str := if w = .lay then "slot" else "cell"
def PRow.steps (w : Wd) (to a n : Int) : List Nat := if w = .copy ∧ a < to then (List.range n.toNat).reverse else List.range n.toNat
def PRow.writes : PRow → List PyData
  | .put to s => (List.range s.length).map fun (k : Nat) => wr "cell" (to + k) "sign" (.str ⟨#[s.cps.toList.getD k 0]⟩)
  | .mv w to a n => (PRow.steps w to a n).map fun (k : Nat) => wr w.cell (to + k) w.src (.int (a + k))
theorem PRow.steps_len (w : Wd) (to a n : Int) : (PRow.steps w to a n).length = n.toNat := by
  unfold PRow.steps
  split
  · rw [List.length_reverse, List.length_range]
  · rw [List.length_range]
theorem PRow.writes_len (r : PRow) : r.writes.length = r.size := by
  cases r with
  | put to s => simp [PRow.writes, PRow.size]
  | mv w to a n => simp [PRow.writes, PRow.size, PRow.steps_len]
section
variable {K : PySem.W.Frag} {F : Hp} {x : V}
theorem dp_put {to : Int} {s : Str} (h : Dp K F x (PRow.put to s).d) : ∃ a, x = .ref a ∧ SqT K F a [.str "put", .int to, .str s] := by
  obtain ⟨a, v1, v2, v3, rfl, hs, h1, h2, h3⟩ := dp_tup3 h
  rw [dp_str h1, dp_int h2, dp_str h3] at hs
  exact ⟨a, rfl, hs⟩
theorem dp_mv {w : Wd} {to a n : Int} (h : Dp K F x (PRow.mv w to a n).d) : ∃ p, x = .ref p ∧ SqT K F p [.str w.s, .int to, .int a, .int n] := by
  obtain ⟨p, v1, v2, v3, v4, rfl, hs, h1, h2, h3, h4⟩ := dp_tup4 h
  rw [dp_str h1, dp_int h2, dp_int h3, dp_int h4] at hs
  exact ⟨p, rfl, hs⟩
end
/-- a new list of these data -/
structure NewL (K : PySem.W.Frag) (H F2 H2 : Hp) (a : Addr) (ds : List PyData) : Prop where
  nw : H a = none
  ex : ∃ vs, Mu F2 H2 a (.lst vs) ∧ DpAll K F2 vs ds
def φrow_writes (K : PySem.W.Frag) : V → Hp → VK → Prop := fun x H Q => ∃ (F : Hp) (r : PRow), Same F H ∧ Dp K F x r.d ∧ r.ok ∧
  ∀ (a : Addr) (F2 H2 : Hp), Gr [] F H F2 H2 → NewL K H F2 H2 a r.writes → Q (.ref a) H2
def φwrites (K : PySem.W.Frag) : V → Hp → VK → Prop := fun x H Q => ∃ (F : Hp) (rs : List PRow), Same F H ∧ Dp K F x (.list (rs.map PRow.d)) ∧ (∀ r ∈ rs, r.ok) ∧ (rs.map PRow.size).sum ≤ 50000 ∧
  ∀ (a : Addr) (F2 H2 : Hp), Gr [] F H F2 H2 → NewL K H F2 H2 a (rs.flatMap PRow.writes) → Q (.ref a) H2
/-! ### the law's makers -/
def φsign (K : PySem.W.Frag) : V → V → Hp → VK → Prop := fun x y H Q => ∃ (b : Addr) (f : Bool) (F : Hp), x = .ref b ∧ y = .bl f ∧ Same F H ∧ Bag K F H b ∧
  ∀ (s : Str) (F2 H2 : Hp), Gr [b] F H F2 H2 → Bag K F2 H2 b → s.length = 1 → okS s → Q (.str s) H2
def φtext (K : PySem.W.Frag) : V → V → V → Hp → VK → Prop := fun x y z H Q => ∃ (b : Addr) (f : Bool) (n : Int) (F : Hp), x = .ref b ∧ y = .bl f ∧ z = .int n ∧ Same F H ∧ Bag K F H b ∧ 0 ≤ n ∧ n ≤ 5000 ∧
  ∀ (s : Str) (F2 H2 : Hp), Gr [b] F H F2 H2 → Bag K F2 H2 b → (s.length : Int) = n → okS s → Q (.str s) H2
theorem w_ixL1 {z : Str} {r : Int} {n : Int} {H : Hp} {Q : VK} (ok : okS z) (hn : (z.length : Int) = n) (hs : z.length ≤ 1000) (r0 : 0 ≤ r) (r1 : r < n) (q : ∀ s : Str, s.length = 1 → okS s → Q (.str s) H) : rIxS (.str z) (.int r) H Q := by
  obtain ⟨c, ec, oc⟩ := sign_at (z := z) ok r0 (by rw [hn]; exact r1)
  exact w_ixS (le1000 hs) ec (q _ rfl oc)
/-- a list of truths of this length, that may change -/
def Hs (F H : Hp) (t : Addr) (n : Nat) : Prop := ∃ bs : List Bool, bs.length = n ∧ Mu F H t (.lst (bs.map V.bl))
theorem Hs.keep {M : List Addr} {F H F2 H2 : Hp} {t : Addr} {n : Nat} (g : Gr M F H F2 H2) (h : Hs F H t n) (ht : t ∉ M) : Hs F2 H2 t n := by
  obtain ⟨bs, l, m⟩ := h
  exact ⟨bs, l, g.mu m ht⟩
theorem Hs.addm {F H : Hp} {t p : Addr} {n : Nat} {u : HO} (h : Hs F H t n) (hp : H p = none) : Hs F (upd H p u) t n := by
  obtain ⟨bs, l, m⟩ := h
  exact ⟨bs, l, m.addm hp⟩
theorem Hs.add {F H : Hp} {t p : Addr} {n : Nat} {u : HO} (h : Hs F H t n) (hp : H p = none) : Hs (upd F p u) (upd H p u) t n := by
  obtain ⟨bs, l, m⟩ := h
  exact ⟨bs, l, m.add hp⟩
theorem Hs.ne_new {F H : Hp} {t q : Addr} {n : Nat} (h : Hs F H t n) (hq : H q = none) : t ≠ q := by
  obtain ⟨_, _, m⟩ := h
  exact m.ne_new hq
theorem Hs.put {F H : Hp} {t q : Addr} {n : Nat} {u : HO} (h : Hs F H t n) (hq : t ≠ q) : Hs F (upd H q u) t n := by
  obtain ⟨bs, l, m⟩ := h
  exact ⟨bs, l, m.oth hq⟩
theorem Hs.set {F H : Hp} {t p : Addr} {n : Nat} {cs : List Bool} (h : Hs F H t n) (hp : t = p → cs.length = n) (m : Mu F H p (.lst (cs.map V.bl))) {j : Nat} : Hs F (upd H p (.lst ((cs.map V.bl).set j (V.bl true)))) t n := by
  by_cases e : t = p
  · subst e
    refine ⟨cs.set j true, by rw [List.length_set]; exact hp rfl, ?_⟩
    rw [List.map_set]
    exact m.wr
  · obtain ⟨bs, l, m'⟩ := h
    exact ⟨bs, l, m'.oth e⟩
theorem ixN_in {n : Nat} {i : Int} (h0 : 0 ≤ i) (h1 : i < (n : Int)) : ixN n i = some i.toNat := by
  unfold ixN
  rw [if_pos h0, if_pos h1]
theorem u_emp {K : PySem.W.Frag} {H : Hp} {a p : Addr} {bs : List Bool} {Q : VK} (ha : SqL K H a (bs.map V.bl)) (hp : SqL K H p []) (hl : bs.length ≤ 1000) (q : Q (.bl (decide (bs.length = 0))) H) : rEqD K (.ref a) (.ref p) H Q := by
  have key : ∀ bs : List Bool, DpAll K H (bs.map V.bl) (bs.map PyData.bool) := by
    intro bs
    induction bs with
    | nil => exact .nil
    | cons b bs ih => exact .cons (.bl b) ih
  refine ⟨.list (bs.map PyData.bool), .list [], .lst ha (key bs), .lst hp .nil, ?_, ?_, ?_⟩
  · refine good_shaped (good_list (by rw [List.length_map]; omega) fun d hd => ?_) (Nat.le_trans (depth_list (n := 0) fun d hd => ?_) (by decide))
    · obtain ⟨b, _, rfl⟩ := List.mem_map.mp hd
      rfl
    · obtain ⟨b, _, rfl⟩ := List.mem_map.mp hd
      exact Nat.le_refl _
  · exact good_shaped rfl (by decide)
  · have e : PyData.eqv (.list (bs.map PyData.bool)) (.list []) = decide (bs.length = 0) := by
      cases bs with
      | nil => rfl
      | cons b bs => rfl
    rw [e]
    exact q
def φany_row (K : PySem.W.Frag) : V → V → V → V → Hp → VK → Prop := fun x y z u H Q => ∃ (b hd t0 t1 : Addr) (n0 n1 : Nat) (f : Bool) (wd : Int) (F : Hp), x = .ref b ∧ y = .ref hd ∧ z = .bl f ∧ u = .int wd ∧ Same F H ∧ Bag K F H b ∧
  SqL K F hd [.ref t0, .ref t1] ∧ Hs F H t0 n0 ∧ Hs F H t1 n1 ∧ t0 ≠ t1 ∧ b ≠ t0 ∧ b ≠ t1 ∧ n0 ≤ 1000 ∧ n1 ≤ 1000 ∧ 0 ≤ wd ∧ wd ≤ 5000 ∧
  ∀ (v : V) (F2 H2 : Hp), Gr [b, t0, t1] F H F2 H2 → Bag K F2 H2 b → Hs F2 H2 t0 n0 → Hs F2 H2 t1 n1 → (v = .non ∨ ∃ r : PRow, Dp K F2 v r.d ∧ r.ok ∧ (r.size : Int) ≤ wd) → Q v H2
def φany_plan (K : PySem.W.Frag) : V → V → V → V → V → V → V → Hp → VK → Prop := fun x1 x2 x3 x4 x5 x6 x7 H Q => ∃ (b : Addr) (n big slots rows most : Int) (f : Bool) (F : Hp), x1 = .ref b ∧ x2 = .int n ∧ x3 = .int big ∧ x4 = .int slots ∧ x5 = .int rows ∧ x6 = .bl f ∧ x7 = .int most ∧ Same F H ∧ Bag K F H b ∧
  0 ≤ n ∧ n ≤ big ∧ big ≤ 400 ∧ 0 ≤ slots ∧ slots ≤ 400 ∧ 0 ≤ rows ∧ rows ≤ 1000 ∧ 0 ≤ most ∧ most ≤ 5000 ∧
  ∀ (a : Addr) (rs : List PRow) (F2 H2 : Hp), Gr [b] F H F2 H2 → Bag K F2 H2 b → NewL K H F2 H2 a (rs.map PRow.d) → (∀ r ∈ rs, r.ok) → (rs.map PRow.size).sum ≤ 6000 → rs.length ≤ 2000 → Q (.ref a) H2
/-- four numbers: n, big, slots, rows -/
def φshape (K : PySem.W.Frag) : V → Hp → VK → Prop := fun x H Q => ∃ (b : Addr) (F : Hp), x = .ref b ∧ Same F H ∧ Bag K F H b ∧
  ∀ (t : Addr) (n big slots rows : Int) (F2 H2 : Hp), Gr [b] F H F2 H2 → Bag K F2 H2 b → F2 t = some (.tup [.int n, .int big, .int slots, .int rows]) → 0 ≤ n → n ≤ big → big ≤ 400 → 0 ≤ slots → slots ≤ 400 → 0 ≤ rows → rows ≤ 1000 → Q (.ref t) H2
theorem size_snoc (rs : List PRow) (r : PRow) : ((rs ++ [r]).map PRow.size).sum = (rs.map PRow.size).sum + r.size := by
  rw [List.map_append, List.sum_append]
  rfl
theorem ok_snoc {rs : List PRow} {r : PRow} (h : ∀ x ∈ rs, x.ok) (hr : r.ok) : ∀ x ∈ rs ++ [r], x.ok := by
  intro x hx
  rcases List.mem_append.mp hx with h1 | h1
  · exact h x h1
  · rw [List.mem_singleton.mp h1]
    exact hr
theorem row_at {K : PySem.W.Frag} {F : Hp} {us : List V} {rs : List PRow} {i : Nat} {x : V} (h : DpAll K F us (rs.map PRow.d)) (hx : us[i]? = some x) : ∃ r, rs[i]? = some r ∧ Dp K F x r.d := by
  have hl := dpa_len h
  have hi := (List.getElem?_eq_some_iff.mp hx).1
  rw [List.length_map] at hl
  have hr : rs[i]? = some rs[i] := List.getElem?_eq_getElem (by omega)
  obtain ⟨v, hv, dv⟩ := dpa_get (i := i) (d := rs[i].d) h (by rw [List.getElem?_map, hr]; rfl)
  rw [hx] at hv
  rw [Option.some.inj hv]
  exact ⟨_, hr, dv⟩
theorem flat_len : ∀ (rs : List PRow) (i : Nat), ((rs.take i).flatMap PRow.writes).length ≤ (rs.map PRow.size).sum
  | [], i => by simp
  | r :: rs, 0 => by simp
  | r :: rs, i + 1 => by
    rw [List.take_succ_cons, List.flatMap_cons, List.length_append, PRow.writes_len, List.map_cons, List.sum_cons]
    exact Nat.add_le_add_left (flat_len rs i) _
theorem flat_take {rs : List PRow} {i : Nat} {r : PRow} (h : rs[i]? = some r) : (rs.take (i + 1)).flatMap PRow.writes = (rs.take i).flatMap PRow.writes ++ r.writes := by
  rw [List.take_add_one, h, List.flatMap_append]
  simp
theorem rev_get {n i : Nat} (h : i < n) : (List.range n).reverse[i]? = some (n - 1 - i) := by
  rw [List.getElem?_reverse (by rw [List.length_range]; exact h), List.length_range, List.getElem?_range (by omega)]
theorem wr_good {a b : Str} {i : Int} {x : PyData} (ha : okS a ∧ a.length ≤ 100) (hb : okS b ∧ b.length ≤ 100) (hx : good x = true) : good (wr a i b x) = true := by
  refine good_tuple (by simp) fun d hd => ?_
  simp only [List.mem_cons, List.not_mem_nil, or_false] at hd
  rcases hd with rfl | rfl | rfl | rfl
  · rw [good, ha.1, decide_eq_true (show a.length ≤ 100000 by omega)]
    rfl
  · rfl
  · rw [good, hb.1, decide_eq_true (show b.length ≤ 100000 by omega)]
    rfl
  · exact hx
theorem wr_depth {a b : Str} {i : Int} {x : PyData} (hx : x.depth = 0) : (wr a i b x).depth ≤ 1 := by
  refine depth_tuple fun d hd => ?_
  simp only [List.mem_cons, List.not_mem_nil, or_false] at hd
  rcases hd with rfl | rfl | rfl | rfl
  · exact Nat.le_refl _
  · exact Nat.le_refl _
  · exact Nat.le_refl _
  · omega
theorem cell_ok : okS "cell" ∧ ("cell" : Str).length ≤ 100 := by decide +kernel
theorem slot_ok : okS "slot" ∧ ("slot" : Str).length ≤ 100 := by decide +kernel
theorem sign_ok : okS "sign" ∧ ("sign" : Str).length ≤ 100 := by decide +kernel
theorem str_good {z : Str} (h : okS z) (hl : z.length ≤ 100000) : good (.str z) = true := by
  rw [good, h, decide_eq_true hl]
  rfl
theorem writes_good {r : PRow} (h : r.ok) : ∀ d ∈ r.writes, good d = true ∧ d.depth ≤ 1 := by
  intro d hd
  cases r with
  | put to s =>
    obtain ⟨k, hk, rfl⟩ := List.mem_map.mp hd
    have hk2 := List.mem_range.mp hk
    exact ⟨wr_good cell_ok sign_ok (str_good (ok_sign h.1 hk2) (by show 1 ≤ 100000; decide)), wr_depth rfl⟩
  | mv w to a n =>
    obtain ⟨k, hk, rfl⟩ := List.mem_map.mp hd
    refine ⟨wr_good ?_ ?_ rfl, wr_depth rfl⟩
    · cases w <;> first | exact cell_ok | exact slot_ok
    · cases w <;> first | exact cell_ok | exact slot_ok
theorem row_good {r : PRow} (h : r.ok) : good r.d = true ∧ r.d.depth ≤ 1 := by
  cases r with
  | put to s =>
    constructor
    · refine good_tuple (by simp) fun d hd => ?_
      simp only [List.mem_cons, List.not_mem_nil, or_false] at hd
      rcases hd with rfl | rfl | rfl
      · decide +kernel
      · rfl
      · exact str_good h.1 (Nat.le_trans h.2 (by decide))
    · refine depth_tuple fun d hd => ?_
      simp only [List.mem_cons, List.not_mem_nil, or_false] at hd
      rcases hd with rfl | rfl | rfl <;> exact Nat.le_refl _
  | mv w to a n =>
    constructor
    · refine good_tuple (by simp) fun d hd => ?_
      simp only [List.mem_cons, List.not_mem_nil, or_false] at hd
      rcases hd with rfl | rfl | rfl | rfl
      · cases w <;> decide +kernel
      · rfl
      · rfl
      · rfl
    · refine depth_tuple fun d hd => ?_
      simp only [List.mem_cons, List.not_mem_nil, or_false] at hd
      rcases hd with rfl | rfl | rfl | rfl <;> exact Nat.le_refl _
theorem all_good {rs : List PRow} (h : ∀ r ∈ rs, r.ok) (hl : rs.length ≤ 100000) : good (.list (rs.map PRow.d)) = true ∧ (PyData.list (rs.map PRow.d)).depth ≤ 2 := by
  constructor
  · refine good_list (by rw [List.length_map]; exact hl) fun d hd => ?_
    obtain ⟨r, hr, rfl⟩ := List.mem_map.mp hd
    exact (row_good (h r hr)).1
  · refine depth_list fun d hd => ?_
    obtain ⟨r, hr, rfl⟩ := List.mem_map.mp hd
    exact (row_good (h r hr)).2
theorem all_wgood {rs : List PRow} (h : ∀ r ∈ rs, r.ok) (hl : (rs.map PRow.size).sum ≤ 100000) : good (.list (rs.flatMap PRow.writes)) = true ∧ (PyData.list (rs.flatMap PRow.writes)).depth ≤ 2 := by
  constructor
  · refine good_list ?_ fun d hd => ?_
    · have := flat_len rs rs.length
      rw [List.take_length] at this
      omega
    · obtain ⟨r, hr, hd⟩ := List.mem_flatMap.mp hd
      exact (writes_good (h r hr) d hd).1
  · refine depth_list fun d hd => ?_
    obtain ⟨r, hr, hd⟩ := List.mem_flatMap.mp hd
    exact (writes_good (h r hr) d hd).2
def φlaw (K : PySem.W.Frag) : V → Hp → VK → Prop := fun x H Q => ∃ (a : Addr) (ns : List Int), x = .ref a ∧ SqL K H a (ns.map V.int) ∧ ns.length ≤ 63 ∧ ∀ H', Q (.bl true) H'
theorem law_start {K : PySem.W.Frag} {H : Hp} (a : Addr) (ns : List Int) (hl : ns.length ≤ 63) (hO : Only H) (hS : SqL K H a (ns.map V.int)) : (S1 (φlaw K)) [.ref a] H (fun v _ => v = .bl true) fun _ _ _ => False := ⟨a, ns, rfl, hS, hl, fun _ => rfl⟩
end R

namespace R
open PySem PySem.Spec PyProof.Rows L2
section
variable {X : Cx} {pins : List (Addr × Obj)} {σ : L2.St} {H : Hp} {s : Shared} {a b : Addr} {A : Around} {E : Value → Shared → Prop}
theorem d_setdT {kvs : List (List Key × V)} {k : List Key} {d : V} {r : Value} {Q : Value → Shared → Prop} (hu : A.units + 1 < cLine) (I : Inv X pins σ H s) (e : H a = some (.dT kvs)) (eb : H b = some (.tup (k.map kV))) (rd : RelV d r) (hl : kvs.length < sizeLine)
    (h1 : ∀ v, valV kvs k = some v → ∀ w' s', Inv X pins σ H s' → RelV v w' → Q w' s') (h2 : valV kvs k = none → ∀ w' s', Inv X pins σ (upd H a (.dT (putK kvs k d))) s' → RelV d w' → Q w' s') :
    wpAny (model X.prog X.w) A (call (.builtin "dict.setdefault") [.ref a, .ref b, r]) Q E s := by
  obtain ⟨z, hd, xs, rel, dd⟩ := dt_of I.hok e
  have hz : xs.length ≤ sizeLine := by rw [← Paired.length rel]; exact z
  have hl2 : (putK kvs k d).length ≤ sizeLine := by have := length_putK kvs k d; omega
  refine PySem.call_setdefault_heap (hsz := hz) (tupleKind_room_in1 hu) (key_of I.hok eb) hd dd (fun p hp => ?_) fun hn h' dd' hs => ?_
  · have q := rel.val k
    rw [hp] at q
    cases q0 : valV kvs k with
    | none =>
      rw [q0] at q
      exact (show False from q).elim
    | some v0 =>
      rw [q0] at q
      exact h1 v0 q0 _ _ (I.tok _) q
  · have q := rel.val k
    rw [hn] at q
    cases q0 : valV kvs k with
    | some v0 =>
      rw [q0] at q
      exact (show False from q).elim
    | none =>
      obtain ⟨q1, es, ep, hq, h2', h3, h4, h5', h5⟩ := dd'
      refine h2 q0 _ _ (d_write I (by rw [e]; exact True.intro) hs ⟨q1, hq⟩ ⟨hl2, hd, _, (rel.put k eb rd).keeps fun c ys ec => ?_, q1, es, ep, hq, h2', h3, h4, h5⟩) rd
      rw [upd_ne (ne_of ec e (fun z => nomatch z))]
      exact ec
end
/-- d.setdefault(t, z), t a tuple -/
def tDSetT (td ty tx : TE) : TE := fun σ H Q => td σ H fun x H1 => ∃ a, x = .ref a ∧ IsD H1 a ∧ ty σ H1 fun y H2 => tx σ H2 fun z H3 => ∃ (b : Addr) (kvs : List (List Key × V)) (k : List Key), H3 a = some (.dT kvs) ∧ y = .ref b ∧ H3 b = some (.tup (k.map kV)) ∧ kvs.length < sizeLine ∧
  (∀ v, valV kvs k = some v → Q v H3) ∧ (valV kvs k = none → Q z (upd H3 a (.dT (putK kvs k z))))
section
variable {X : Cx} {o e f : Expr} {td ty tx : TE} {apos cpos : Pos}
theorem pe_dsetT (hu : X.A.units + 1 < cLine) (ho : PE X o td) (he : PE X e ty) (hf : PE X f tx) (m : M2 X o "setdefault" apos e f cpos) : PE X (.Call (.Attribute o "setdefault" apos) [e, f] [] cpos) (tDSetT td ty tx) := by
  refine ⟨fun pins s σ H Q I h => ?_⟩
  refine wpAny_Call_method m.base m.few m.line PySem.F.plainAttrs_dict PySem.F.slot_dict_setdefault PySem.F.type_dict_setdefault (thn (ho.run pins s σ H _ I h) fun u s1 ⟨x, H1, I1, rx, a, ex, d, q1⟩ => ?_)
  subst ex
  obtain rfl : u = Value.ref a := rx
  obtain ⟨t1, t2, _⟩ := isD_at I1 d
  refine ⟨t1, t2, ?_⟩
  rw [m.trees]
  refine Calls.callWith_builtin rfl (Calls.evalArgs_plain (Calls.spliced_cons (thn (he.run pins s1 σ H1 _ I1 q1) fun iv s2 ⟨y, H2, I2, ry, q2⟩ =>
    Calls.spliced_cons (thn (hf.run pins s2 σ H2 _ I2 q2) fun fv s3 ⟨z, H3, I3, rz, b, kvs, k, ea, ey, eb, hl, q3, q4⟩ => Calls.spliced_nil ?_))))
  subst ey
  obtain rfl : iv = Value.ref b := ry
  exact d_setdT hu I3 ea eb rz hl (fun v hv w' s4 I4 rw' => ⟨v, _, I4, rw', q3 v hv⟩) fun hn w' s4 I4 rw' => ⟨z, _, I4, rw', q4 hn⟩
end
section
variable {X : Cx}
/-- sorted(d) of a dict of int keys, any number of them -/
def rSortD : List V → Hp → VK → Prop := fun xs H Q => ∃ (a : Addr) (kvs : List (Key × V)) (ks : List Int), xs = [.ref a] ∧ Rd H a (.dK kvs) ∧ kvs.map (·.1) = ks.map Sum.inl ∧
    ∀ (ys : List Int) (p : Addr), ys.Perm ks → ys.Pairwise (· ≤ ·) → H p = none → Q (.ref p) (upd H p (.lst (ys.map V.int)))
theorem clSortD (hcalm : X.calm = true := by rfl) : CallR X (.builtin "sorted") rSortD := by
  intro pins s σ H xs us Q I r q
  obtain ⟨a, kvs, ks, ex, hd, hks, q⟩ := q
  subst ex
  obtain ⟨u, eu, rx⟩ := vals1 r
  subst eu
  cases rx
  obtain ⟨z, lo, vs, rel, dd⟩ := dk_rd I.hok hd
  obtain ⟨ep, hat⟩ := dd.dictAt
  have hkeys : vs.map (·.1) = ks.map Sum.inl := rel.keys.symm.trans hks
  have hl : vs.length = ks.length := by
    have e := congrArg List.length hkeys
    rw [List.length_map, List.length_map] at e
    exact e
  have h16 : vs.length ≤ sizeLine := by rw [← rel.length]; exact z
  refine Calls.call_function_entry PyProof.Rows.kind_sorted PyProof.Rows.plain_sorted PyProof.Rows.entry_sorted (PyProof.Rows.args_sorted1 _) ?_
  unfold Builtin.«sorted»
  refine wpAny_bind (m := checkCount "sorted" 1 1 _) (wpAny_pure ?_)
  refine wpAny_bind (PySem.W.kdu_collect (A := X.A.in1) (PySem.W.kdl_dict (knd := mixKind X.prog X.w) (kvs := vs) (ep := ep) lo) (I.ok.hd hcalm) hat h16 fun h' tk acc hk hacc => ?_)
  have hal : acc.toList.length = ks.length := by rw [Array.length_toList, hacc.1, hl]
  have hS : IntsAre acc.toList ks := ints_each hal fun j v e => by
    obtain ⟨k, x, e1, e2⟩ := hacc.2 j v (by rw [← Array.getElem?_toList]; exact e)
    have e3 : (vs.map (·.1))[j]? = some k := by rw [List.getElem?_map, e1]; rfl
    rw [hkeys, List.getElem?_map] at e3
    cases e4 : ks[j]? with
    | none => rw [e4] at e3; cases e3
    | some y =>
      rw [e4] at e3
      have e5 : Sum.inl y = k := Option.some.inj e3
      subst e5
      rcases keyIs_shape (show keyIs (Sum.inl y) v = true from e2) with ⟨i, t, ek, ev⟩ | ⟨z, t, ek, ev⟩
      · cases ek
        exact ⟨y, t, rfl, ev⟩
      · cases ek
  have I1 : Inv X pins σ H { s with heap := h', toks := tk } := I.kept hk
  have hz2 : acc.toList.length ≤ sizeLine := by rw [hal, ← hl]; exact h16
  refine wpAny_bind (wpAny_newList ?_ hz2)
  have hoL : (h'.push (seqObj "list" acc.toList.toArray 0)).get? h'.objs.size = some (seqObj "list" acc.toList.toArray 0) := Heap.get?_push_size _ rfl
  show wpAny _ _ _ _ _ { s with heap := h'.push (seqObj "list" acc.toList.toArray 0), toks := tk }
  refine wpAny_bind (wpAny_holding (wpAny_call_entry PyProof.Rows.slot_list_sort ⟨_, hoL, rfl⟩ PyProof.Rows.entry_list_sort
    (SrtO.list_sort_ord (s := { s with heap := h'.push (seqObj "list" acc.toList.toArray 0), toks := tk }) SrtO.swo_int hoL hz2 (fun h2 => SrtO.ints_sortable hS h2) fun out h1 h2 => ⟨_, rfl, ?_⟩) (PyProof.Rows.args_list_sort _)))
  obtain ⟨k1, k2, k3⟩ := SrtO.ints_out hS h1 h2
  obtain ⟨e', he'⟩ := PyProof.Rows.sortedHeap_at (vs := acc.toList) (out := out.toArray) hoL
  have hlen : ((out.map SrtO.iv).map V.int).length ≤ sizeLine := by
    rw [List.length_map, k2.length_eq, ← hl]
    exact h16
  refine wpAny_pure ⟨_, rfl, .ref h'.objs.size, upd H h'.objs.size (.lst ((out.map SrtO.iv).map V.int)), I1.laid (t' := tk) (fun b u e => ?_) (Nat.le_refl _)
    (show ObjOk X.prog X.w _ _ _ (.lst ((out.map SrtO.iv).map V.int)) from ⟨hlen, out, e', vals_of_ints k1, he'⟩), rfl, q _ _ k2 k3 (I1.hok.fresh (Nat.le_refl _))⟩
  have hb : b < h'.objs.size := Heap.lt_size e
  rw [PyProof.Rows.sortedHeap_old (Nat.ne_of_lt hb) (by rw [size_push']; exact Nat.lt_succ_of_lt hb)]
  exact Heap.get?_push_of_some _ e
end
end R

namespace R
open PySem L2
/-! ### dicts in a reading -/
def gDGet (x y : V) (H : Hp) (Q : VK) : Prop := ∃ a v, x = .ref a ∧ DGet H a y (some v) ∧ Q v H
def gDIn (x y : V) (H : Hp) (Q : VK) : Prop := ∃ a o, x = .ref a ∧ DGet H a y o ∧ Q (.bl o.isSome) H
def gDNotIn (x y : V) (H : Hp) (Q : VK) : Prop := ∃ a o, x = .ref a ∧ DGet H a y o ∧ Q (.bl (!o.isSome)) H
def gDPut (x y v : V) (H : Hp) (Z : Hp → Prop) : Prop := ∃ a H4, x = .ref a ∧ DPut H a y v H4 ∧ Z H4
section
variable {K : PySem.W.Frag} {σ : L2.St} {H : Hp} {Q : VK} {td ty tv tx te : TE} {x y v : V} {nx bk ct : L2.St → Hp → Prop} {rt : VK} {D p : Addr} {kvs : List (List Key × V)} {ks : List Key}
theorem w_dnewT (q : ∀ p, H p = none → Q (.ref p) (upd H p (.dT []))) : tDNewT σ H Q := q
theorem w_dnewK (q : ∀ p, H p = none → Q (.ref p) (upd H p (.dK []))) : tDNewK σ H Q := q
theorem w_dget (q : td σ H fun x H1 => ty σ H1 fun y H2 => gDGet x y H2 Q) : tDGet td ty σ H Q := q
theorem w_din (q : ty σ H fun y H1 => td σ H1 fun x H2 => gDIn x y H2 Q) : tDIn ty td σ H Q := q
theorem w_dnotin (q : ty σ H fun y H1 => td σ H1 fun x H2 => gDNotIn x y H2 Q) : tDNotIn ty td σ H Q := q
theorem w_dput (q : tv σ H fun v H1 => td σ H1 fun x H2 => ty σ H2 fun y H3 => gDPut x y v H3 fun H4 => nx σ H4) : sDPut td ty tv ⟨nx, rt, bk, ct⟩ σ H := q
theorem w_dsetT (q : td σ H fun x H1 => ∃ a, x = .ref a ∧ IsD H1 a ∧ ty σ H1 fun y H2 => tx σ H2 fun z H3 => ∃ (b : Addr) (kvs : List (List Key × V)) (k : List Key), H3 a = some (.dT kvs) ∧ y = .ref b ∧ H3 b = some (.tup (k.map kV)) ∧ kvs.length < sizeLine ∧
  (∀ v, valV kvs k = some v → Q v H3) ∧ (valV kvs k = none → Q z (upd H3 a (.dT (putK kvs k z))))) : tDSetT td ty tx σ H Q := q
theorem w_dgetT (h : H D = some (.dT kvs)) (hp : H p = some (.tup (ks.map kV))) (e : valV kvs ks = some v) (q : Q v H) : gDGet (.ref D) (.ref p) H Q := ⟨D, v, rfl, e ▸ DGet.t h hp, q⟩
theorem w_dinT (h : H D = some (.dT kvs)) (hp : H p = some (.tup (ks.map kV))) (e : valV kvs ks = some v) (q : Q (.bl true) H) : gDIn (.ref D) (.ref p) H Q := ⟨D, some v, rfl, e ▸ DGet.t h hp, q⟩
theorem w_dinF (h : H D = some (.dT kvs)) (hp : H p = some (.tup (ks.map kV))) (e : valV kvs ks = none) (q : Q (.bl false) H) : gDIn (.ref D) (.ref p) H Q := ⟨D, none, rfl, e ▸ DGet.t h hp, q⟩
theorem w_dnotinT (h : H D = some (.dT kvs)) (hp : H p = some (.tup (ks.map kV))) (e : valV kvs ks = some v) (q : Q (.bl false) H) : gDNotIn (.ref D) (.ref p) H Q := ⟨D, some v, rfl, e ▸ DGet.t h hp, q⟩
theorem w_dnotinF (h : H D = some (.dT kvs)) (hp : H p = some (.tup (ks.map kV))) (e : valV kvs ks = none) (q : Q (.bl true) H) : gDNotIn (.ref D) (.ref p) H Q := ⟨D, none, rfl, e ▸ DGet.t h hp, q⟩
theorem w_dputT {Z : Hp → Prop} (h : H D = some (.dT kvs)) (hp : H p = some (.tup (ks.map kV))) (hl : kvs.length < sizeLine) (q : Z (upd H D (.dT (putK kvs ks v)))) : gDPut (.ref D) (.ref p) v H Z := ⟨D, _, rfl, DPut.t h hp hl, q⟩
theorem w_dputI {Z : Hp → Prop} {kvs : List (Key × V)} {i : Int} (h : H D = some (.dK kvs)) (hl : kvs.length < sizeLine) (q : Z (upd H D (.dK (putK kvs (.inl i) v)))) : gDPut (.ref D) (.int i) v H Z := ⟨D, _, rfl, DPut.k (k := .inl i) h hl, q⟩
end
section
variable {X : Cx} {K : PySem.W.Frag}
theorem clSortI (h : X.K = K := by rfl) : CallR X (.builtin "sorted") (rSortedI K) := by subst h; exact cr_sortedI
end
theorem w_rg2 {σ : L2.St} {H : Hp} {ta tb : TE} {R : Int → Int → Hp → Prop} (q : ta σ H fun x H1 => tb σ H1 fun y H2 => ∃ i j, x = .int i ∧ y = .int j ∧ R i j H2) : tRg2 ta tb σ H R := q
/-! ### writes as acts -/
structure WAct where
  w : Str
  n : Int
  s : Str
  x : Key
def keyD : Key → PyData
  | .inl i => .int i
  | .inr z => .str z
def WAct.d (t : WAct) : PyData := .tuple [.str t.w, .int t.n, .str t.s, keyD t.x]
def WAct.wk (t : WAct) : List Key := [.inr t.w, .inl t.n]
def WAct.rk (t : WAct) : List Key := [.inr t.s, t.x]
def keyOk : Key → Prop
  | .inl _ => True
  | .inr z => okS z ∧ z.length ≤ 100
def WAct.ok (t : WAct) : Prop := (okS t.w ∧ t.w.length ≤ 100) ∧ (okS t.s ∧ t.s.length ≤ 100) ∧ keyOk t.x
theorem dp_key {K : PySem.W.Frag} {F : Hp} {x : V} {k : Key} (h : Dp K F x (keyD k)) : x = kV k := by
  cases k with
  | inl i => exact dp_int h
  | inr z => exact dp_str h
theorem key_dp {K : PySem.W.Frag} {F : Hp} (k : Key) : Dp K F (kV k) (keyD k) := by
  cases k with
  | inl i => exact .int i
  | inr z => exact .str z
theorem dp_act {K : PySem.W.Frag} {F : Hp} {x : V} {t : WAct} (h : Dp K F x t.d) : ∃ p, x = .ref p ∧ SqT K F p [.str t.w, .int t.n, .str t.s, kV t.x] := by
  obtain ⟨p, v1, v2, v3, v4, rfl, hs, h1, h2, h3, h4⟩ := dp_tup4 h
  rw [dp_str h1, dp_int h2, dp_str h3, dp_key h4] at hs
  exact ⟨p, rfl, hs⟩
theorem act_good {t : WAct} (h : t.ok) : good t.d = true ∧ t.d.depth ≤ 1 := by
  obtain ⟨⟨h1, h2⟩, ⟨h3, h4⟩, h5⟩ := h
  constructor
  · refine good_tuple (by simp) fun d hd => ?_
    simp only [List.mem_cons, List.not_mem_nil, or_false] at hd
    rcases hd with rfl | rfl | rfl | rfl
    · exact str_good h1 (by omega)
    · rfl
    · exact str_good h3 (by omega)
    · revert h5
      cases t.x with
      | inl i => intro _; rfl
      | inr z => intro h5; exact str_good h5.1 (Nat.le_trans h5.2 (by decide))
  · refine depth_tuple fun d hd => ?_
    simp only [List.mem_cons, List.not_mem_nil, or_false] at hd
    rcases hd with rfl | rfl | rfl | rfl
    · exact Nat.le_refl _
    · exact Nat.le_refl _
    · exact Nat.le_refl _
    · cases t.x <;> exact Nat.le_refl _
theorem acts_good {ts : List WAct} (h : ∀ t ∈ ts, t.ok) (hl : ts.length ≤ 100000) : good (.list (ts.map WAct.d)) = true ∧ (PyData.list (ts.map WAct.d)).depth ≤ 2 := by
  constructor
  · refine good_list (by rw [List.length_map]; exact hl) fun d hd => ?_
    obtain ⟨r, hr, rfl⟩ := List.mem_map.mp hd
    exact (act_good (h r hr)).1
  · refine depth_list fun d hd => ?_
    obtain ⟨r, hr, rfl⟩ := List.mem_map.mp hd
    exact (act_good (h r hr)).2
def natsD (ms : List Nat) : PyData := .list (ms.map fun k => .int (k : Nat))
theorem dpa_nV {K : PySem.W.Frag} {F : Hp} : ∀ ms : List Nat, DpAll K F (nV ms) (ms.map fun k => PyData.int (k : Nat))
  | [] => .nil
  | m :: ms => .cons (.int _) (dpa_nV ms)
theorem nats_good {ms : List Nat} (hl : ms.length ≤ 100000) : good (natsD ms) = true ∧ (natsD ms).depth ≤ 1 := by
  constructor
  · refine good_list (by rw [List.length_map]; exact hl) fun d hd => ?_
    obtain ⟨r, hr, rfl⟩ := List.mem_map.mp hd
    rfl
  · refine depth_list fun d hd => ?_
    obtain ⟨r, hr, rfl⟩ := List.mem_map.mp hd
    exact Nat.le_refl _
/-! ### the fault of a row of acts -/
def getN (kvs : List (List Key × Nat)) (k : List Key) : Option Nat := (kvs.find? fun kv => decide (kv.1 = k)).map (·.2)
def toV (kvs : List (List Key × Nat)) : List (List Key × V) := kvs.map fun p => (p.1, V.int (p.2 : Nat))
theorem valV_toV (k : List Key) : ∀ kvs : List (List Key × Nat), valV (toV kvs) k = (getN kvs k).map fun n => V.int (n : Nat)
  | [] => rfl
  | p :: r => by
    have ih := valV_toV k r
    by_cases e : p.1 = k
    · rw [show toV (p :: r) = (p.1, V.int (p.2 : Nat)) :: toV r from rfl, valV_pos (p := (p.1, V.int (p.2 : Nat))) e]
      simp [getN, List.find?_cons, e]
    · rw [show toV (p :: r) = (p.1, V.int (p.2 : Nat)) :: toV r from rfl, valV_neg (p := (p.1, V.int (p.2 : Nat))) e, ih]
      simp [getN, List.find?_cons, e]
theorem valV_some {kvs : List (List Key × Nat)} {k : List Key} {n : Nat} (e : getN kvs k = some n) : valV (toV kvs) k = some (.int (n : Nat)) := by rw [valV_toV, e]; rfl
theorem valV_none {kvs : List (List Key × Nat)} {k : List Key} (e : getN kvs k = none) : valV (toV kvs) k = none := by rw [valV_toV, e]; rfl
theorem put_toV {kvs : List (List Key × Nat)} {k : List Key} {j : Nat} (e : getN kvs k = none) : putK (toV kvs) k (.int (j : Nat)) = toV (kvs ++ [(k, j)]) := by
  rw [putK_new _ (valV_none e)]
  simp [toV]
theorem getN_mem {kvs : List (List Key × Nat)} {k : List Key} {n : Nat} (e : getN kvs k = some n) : ∃ p ∈ kvs, p.2 = n := by
  unfold getN at e
  cases h : kvs.find? fun kv => decide (kv.1 = k) with
  | none => rw [h] at e; cases e
  | some p =>
    rw [h] at e
    exact ⟨p, List.mem_of_find?_eq_some h, Option.some.inj e⟩
def stepN (kvs : List (List Key × Nat)) (t : WAct) (j : Nat) : List (List Key × Nat) := if t.s = "sign" then kvs else
  match getN kvs t.rk with
  | some _ => kvs
  | none => kvs ++ [(t.rk, j)]
theorem step_sign {kvs : List (List Key × Nat)} {t : WAct} {j : Nat} (h : t.s = "sign") : stepN kvs t j = kvs := by unfold stepN; rw [if_pos h]
theorem step_old {kvs : List (List Key × Nat)} {t : WAct} {j n : Nat} (h : ¬ t.s = "sign") (e : getN kvs t.rk = some n) : stepN kvs t j = kvs := by unfold stepN; rw [if_neg h, e]
theorem step_new {kvs : List (List Key × Nat)} {t : WAct} {j : Nat} (h : ¬ t.s = "sign") (e : getN kvs t.rk = none) : stepN kvs t j = kvs ++ [(t.rk, j)] := by unfold stepN; rw [if_neg h, e]
theorem step_mem {kvs : List (List Key × Nat)} {t : WAct} {j : Nat} {p : List Key × Nat} (h : p ∈ stepN kvs t j) : p ∈ kvs ∨ p.2 = j := by
  unfold stepN at h
  split at h
  · exact .inl h
  · split at h
    · exact .inl h
    · rcases List.mem_append.mp h with h | h
      · exact .inl h
      · rw [List.mem_singleton.mp h]
        exact .inr rfl
def faultGo : List WAct → List (List Key × Nat) → Nat → Option (Nat × Nat)
  | [], _, _ => none
  | t :: ts, kvs, j => match getN kvs t.wk with
    | some i => some (i, j)
    | none => faultGo ts (stepN kvs t j) (j + 1)
theorem go_hit {t : WAct} {ts : List WAct} {kvs : List (List Key × Nat)} {j i : Nat} (e : getN kvs t.wk = some i) : faultGo (t :: ts) kvs j = some (i, j) := by rw [faultGo, e]
theorem go_miss {t : WAct} {ts : List WAct} {kvs : List (List Key × Nat)} {j : Nat} (e : getN kvs t.wk = none) : faultGo (t :: ts) kvs j = faultGo ts (stepN kvs t j) (j + 1) := by rw [faultGo, e]
def stretch (acts : List WAct) (first last : Nat) : List WAct := (acts.drop first).take (last - first)
def faultFrom (acts : List WAct) (first last : Nat) : Option (Nat × Nat) := faultGo (stretch acts first last) [] first
def firstFault (acts : List WAct) : Nat → List Nat → Option (Nat × Nat)
  | _, [] => none
  | first, l :: ls => match faultFrom acts first l with
    | some p => some p
    | none => firstFault acts l ls
theorem first_hit {acts : List WAct} {first l : Nat} {ls : List Nat} {p : Nat × Nat} (e : faultFrom acts first l = some p) : firstFault acts first (l :: ls) = some p := by rw [firstFault, e]
theorem first_miss {acts : List WAct} {first l : Nat} {ls : List Nat} (e : faultFrom acts first l = none) : firstFault acts first (l :: ls) = firstFault acts l ls := by rw [firstFault, e]
theorem stretch_len (acts : List WAct) (first last : Nat) (hl : last ≤ acts.length) : (stretch acts first last).length = last - first := by
  unfold stretch
  rw [List.length_take, List.length_drop]
  omega
theorem stretch_at {acts : List WAct} {first last i : Nat} (h : i < last - first) (hl : last ≤ acts.length) : ∃ t, acts[first + i]? = some t ∧ (stretch acts first last).drop i = t :: (stretch acts first last).drop (i + 1) := by
  have h1 : i < (stretch acts first last).length := by rw [stretch_len _ _ _ hl]; exact h
  refine ⟨(stretch acts first last)[i], ?_, List.drop_eq_getElem_cons h1⟩
  have e : (stretch acts first last)[i]? = acts[first + i]? := by
    unfold stretch
    rw [List.getElem?_take_of_lt h, List.getElem?_drop]
  rw [← e]
  exact List.getElem?_eq_getElem h1
theorem go_range : ∀ (ts : List WAct) (kvs : List (List Key × Nat)) (j lo i b : Nat), lo ≤ j → (∀ p ∈ kvs, lo ≤ p.2 ∧ p.2 < j) → faultGo ts kvs j = some (i, b) → lo ≤ i ∧ i < b ∧ b < j + ts.length
  | [], _, _, _, _, _, _, _, e => by rw [faultGo] at e; cases e
  | t :: ts, kvs, j, lo, i, b, hlo, hk, e => by
    cases h : getN kvs t.wk with
    | some n =>
      rw [go_hit h] at e
      have e' := Option.some.inj e
      cases e'
      obtain ⟨p, hp, rfl⟩ := getN_mem h
      have := hk p hp
      rw [List.length_cons]
      exact ⟨this.1, this.2, by omega⟩
    | none =>
      rw [go_miss h] at e
      have := go_range ts (stepN kvs t j) (j + 1) lo i b (by omega) (fun p hp => by
        rcases step_mem hp with hp | hp
        · have := hk p hp
          omega
        · omega) e
      rw [List.length_cons]
      omega
theorem from_range {acts : List WAct} {first last i b : Nat} (hl : last ≤ acts.length) (e : faultFrom acts first last = some (i, b)) : first ≤ i ∧ i < b ∧ b < last := by
  have := go_range (stretch acts first last) [] first first i b (Nat.le_refl _) (fun p hp => by cases hp) e
  rw [stretch_len _ _ _ hl] at this
  omega
/-- a fault as a value -/
def ResV (F : Hp) (v : V) : Option (Nat × Nat) → Prop
  | none => v = .non
  | some (i, j) => ∃ p, v = .ref p ∧ F p = some (.tup [.int (i : Nat), .int (j : Nat)])
theorem ResV.same {F F2 : Hp} {v : V} {o : Option (Nat × Nat)} (h : ResV F v o) (w : Same F F2) : ResV F2 v o := by
  cases o with
  | none => exact h
  | some p =>
    obtain ⟨a, e1, e2⟩ := h
    exact ⟨a, e1, w _ _ e2⟩
def φfault (K : PySem.W.Frag) : V → V → V → Hp → VK → Prop := fun x y z H Q => ∃ (F : Hp) (acts : List WAct) (first last : Nat), y = .int (first : Nat) ∧ z = .int (last : Nat) ∧ Same F H ∧ Dp K F x (.list (acts.map WAct.d)) ∧ first ≤ acts.length ∧ last ≤ acts.length ∧ acts.length ≤ 100000 ∧
  ∀ (v : V) (F2 H2 : Hp), Gr [] F H F2 H2 → ResV F2 v (faultFrom acts first last) → Q v H2
def φmark (K : PySem.W.Frag) : V → V → Hp → VK → Prop := fun x y H Q => ∃ (F : Hp) (acts : List WAct) (m : Addr) (ms : List Nat), y = .ref m ∧ Same F H ∧ Dp K F x (.list (acts.map WAct.d)) ∧ F m = some (.lst (nV ms)) ∧ (∀ k ∈ ms, k ≤ acts.length) ∧ acts.length ≤ 100000 ∧ ms.length ≤ 100000 ∧
  ∀ (v : V) (F2 H2 : Hp), Gr [] F H F2 H2 → ResV F2 v (firstFault acts 0 (ms ++ [acts.length])) → Q v H2
theorem act_at {K : PySem.W.Frag} {F : Hp} {us : List V} {acts : List WAct} {i : Nat} {t : WAct} (h : DpAll K F us (acts.map WAct.d)) (e : acts[i]? = some t) : ∃ p, us[i]? = some (.ref p) ∧ SqT K F p [.str t.w, .int t.n, .str t.s, kV t.x] := by
  obtain ⟨v, gv, dv⟩ := dpa_get (i := i) (d := t.d) h (by rw [List.getElem?_map, e]; rfl)
  obtain ⟨p, rfl, hp⟩ := dp_act dv
  exact ⟨p, gv, hp⟩
/-! ### the law's makers -/
def φnumber (K : PySem.W.Frag) : V → V → V → Hp → VK → Prop := fun x y z H Q => ∃ (b : Addr) (base wide : Int) (F : Hp), x = .ref b ∧ y = .int base ∧ z = .int wide ∧ Same F H ∧ Bag K F H b ∧ 0 < wide ∧ wide < 2 ^ 200 ∧
  ∀ (r : Int) (F2 H2 : Hp), Gr [b] F H F2 H2 → Bag K F2 H2 b → Q (.int r) H2
def φany_writes (K : PySem.W.Frag) : V → V → Hp → VK → Prop := fun x y H Q => ∃ (b : Addr) (many : Int) (F : Hp), x = .ref b ∧ y = .int many ∧ Same F H ∧ Bag K F H b ∧ 0 ≤ many ∧ many ≤ 3000 ∧
  ∀ (a : Addr) (acts : List WAct) (F2 H2 : Hp), Gr [b] F H F2 H2 → Bag K F2 H2 b → Dp K F2 (.ref a) (.list (acts.map WAct.d)) → (∀ t ∈ acts, t.ok) → acts.length ≤ 3000 → (acts.length : Int) ≤ many → Q (.ref a) H2
/-- marks that stay -/
structure Mks (F : Hp) (p : Addr) (n : Nat) (ms : List Nat) : Prop where
  at_ : F p = some (.lst (nV ms))
  ok : ∀ k ∈ ms, 1 ≤ k ∧ k < n
  len : ms.length ≤ 20000
theorem Mks.same {F F2 : Hp} {p : Addr} {n : Nat} {ms : List Nat} (h : Mks F p n ms) (w : Same F F2) : Mks F2 p n ms := ⟨w _ _ h.at_, h.ok, h.len⟩
def φgood_marks (K : PySem.W.Frag) : V → V → V → Hp → VK → Prop := fun x y z H Q => ∃ (b : Addr) (often : Int) (acts : List WAct) (F : Hp), x = .ref b ∧ z = .int often ∧ Same F H ∧ Bag K F H b ∧ Dp K F y (.list (acts.map WAct.d)) ∧ acts.length ≤ 3000 ∧ 0 < often ∧ often < 2 ^ 200 ∧
  ∀ (p : Addr) (ms : List Nat) (F2 H2 : Hp), Gr [b] F H F2 H2 → Bag K F2 H2 b → Mks F2 p acts.length ms → Q (.ref p) H2
def φany_marks (K : PySem.W.Frag) : V → V → Hp → VK → Prop := fun x y H Q => ∃ (b : Addr) (acts : List WAct) (F : Hp), x = .ref b ∧ Same F H ∧ Bag K F H b ∧ Dp K F y (.list (acts.map WAct.d)) ∧ acts.length ≤ 3000 ∧
  ∀ (p : Addr) (ms : List Nat) (F2 H2 : Hp), Gr [b] F H F2 H2 → Bag K F2 H2 b → Mks F2 p acts.length ms → Q (.ref p) H2
theorem ints_nat {n : Nat} : ∀ {ys : List Int}, (∀ k ∈ ys, 1 ≤ k ∧ k < (n : Int)) → ∃ ms : List Nat, ys.map V.int = nV ms ∧ (∀ k ∈ ms, 1 ≤ k ∧ k < n) ∧ ms.length = ys.length
  | [], _ => ⟨[], rfl, by simp, rfl⟩
  | y :: ys, h => by
    obtain ⟨ms, e, h1, h2⟩ := ints_nat (ys := ys) fun k hk => h k (List.mem_cons_of_mem _ hk)
    have hy := h y (List.mem_cons_self ..)
    refine ⟨y.toNat :: ms, ?_, fun k hk => ?_, by rw [List.length_cons, List.length_cons, h2]⟩
    · show V.int y :: ys.map V.int = V.int (y.toNat : Nat) :: nV ms
      rw [e, Int.toNat_of_nonneg (by omega)]
    · rcases List.mem_cons.mp hk with rfl | hk
      · omega
      · exact h1 k hk
theorem put_ints {kvs : List (Key × V)} {ks : List Int} (h : kvs.map (·.1) = ks.map Sum.inl) (i : Int) (v : V) : ∃ ks' : List Int, (putK kvs (.inl i) v).map (·.1) = ks'.map Sum.inl ∧ ∀ k ∈ ks', k ∈ ks ∨ k = i := by
  cases e : valV kvs (.inl i) with
  | none =>
    rw [putK_new v e]
    refine ⟨ks ++ [i], by rw [List.map_append, List.map_append, h]; rfl, fun k hk => ?_⟩
    rcases List.mem_append.mp hk with hk | hk
    · exact .inl hk
    · exact .inr (List.mem_singleton.mp hk)
  | some u =>
    refine ⟨ks, ?_, fun k hk => .inl hk⟩
    rw [← h]
    unfold putK
    rw [valV_any, e]
    show (kvs.map fun kv => if kv.1 = (.inl i : Key) then (kv.1, v) else kv).map (·.1) = _
    rw [List.map_map]
    refine List.map_congr_left fun kv _ => ?_
    show (if kv.1 = (.inl i : Key) then (kv.1, v) else kv).1 = kv.1
    split <;> rfl
theorem cut_take (l : List Nat) (i : Nat) : cutV (nV l) none (some (i : Int)) = nV (l.take i) := by
  unfold cutV
  rw [HT.sIx_none, HT.sIx_nat, List.drop_zero, Nat.sub_zero]
  unfold nV
  rw [List.map_take, List.length_map]
  by_cases h : i ≤ l.length
  · rw [Nat.min_eq_left h]
  · rw [Nat.min_eq_right (by omega), List.take_of_length_le (by rw [List.length_map]; exact Nat.le_refl _), List.take_of_length_le (by rw [List.length_map]; omega)]
theorem cut_drop (l : List Nat) (i : Nat) : cutV (nV l) (some (i : Int)) none = nV (l.drop i) := by
  unfold cutV
  rw [HT.sIx_none, HT.sIx_nat]
  unfold nV
  rw [List.map_drop, List.length_map]
  by_cases h : i ≤ l.length
  · rw [Nat.min_eq_left h]
    refine List.take_of_length_le ?_
    rw [List.length_drop, List.length_map]
    exact Nat.le_refl _
  · rw [Nat.min_eq_right (by omega), Nat.sub_self, List.take_zero, List.drop_eq_nil_of_le (by rw [List.length_map]; omega)]
theorem pick_int {ns : List Int} {i : Int} (h0 : 0 ≤ i) (h1 : i < (ns.length : Int)) : ∃ m, atI (ns.map V.int) i = some (.int m) := by
  have hi : i.toNat < ns.length := by omega
  refine ⟨ns[i.toNat], at_of (j := i.toNat) (by omega) ?_⟩
  rw [List.getElem?_map, List.getElem?_eq_getElem hi]
  rfl
theorem pick_str {zs : List Str} {i : Int} (h0 : 0 ≤ i) (h1 : i < (zs.length : Int)) : ∃ z ∈ zs, atI (zs.map V.str) i = some (.str z) := by
  have hi : i.toNat < zs.length := by omega
  refine ⟨zs[i.toNat], List.getElem_mem hi, at_of (j := i.toNat) (by omega) ?_⟩
  rw [List.getElem?_map, List.getElem?_eq_getElem hi]
  rfl
theorem nV_flat (l : List Nat) : (nV l).all flatV = true := by
  induction l with
  | nil => rfl
  | cons m l ih => exact ih
theorem u_empN {K : PySem.W.Frag} {H : Hp} {a p : Addr} {ms : List Nat} {Q : VK} (ha : SqL K H a (nV ms)) (hp : SqL K H p []) (hl : ms.length ≤ 100000) (q : Q (.bl (decide (ms.length = 0))) H) : rEqD K (.ref a) (.ref p) H Q := by
  have g := nats_good hl
  refine ⟨natsD ms, .list [], .lst ha (dpa_nV ms), .lst hp .nil, good_shaped g.1 (Nat.le_trans g.2 (by decide)), good_shaped rfl (by decide), ?_⟩
  have e : PyData.eqv (natsD ms) (.list []) = decide (ms.length = 0) := by
    cases ms with
    | nil => rfl
    | cons b bs => rfl
  rw [e]
  exact q
theorem w_inN {K : PySem.W.Frag} {H : Hp} {p : Addr} {ms : List Nat} {x : Int} {Q : VK} (h : SqL K H p (nV ms)) (q : ∀ c, Q (.bl c) H) : rIn K false (.int x) (.ref p) H Q := ⟨p, _, rfl, .inl h, rfl, nV_flat ms, q _⟩
/-- a list of lists of marks -/
def PL (F : Hp) (n : Nat) (v : V) : Prop := ∃ p ms, v = .ref p ∧ Mks F p n ms
theorem PL.same {F F2 : Hp} {n : Nat} {v : V} (h : PL F n v) (w : Same F F2) : PL F2 n v := by
  obtain ⟨p, ms, e, m⟩ := h
  exact ⟨p, ms, e, m.same w⟩
end R

namespace R
open PySem L2
/-! ### parts of the heap, one beside the other -/
structure Own where
  as : List Addr
  φ : Hp → Hp → Prop
  st : ∀ {F H F2 H2 : Hp}, Same F F2 → (∀ a ∈ as, ∀ o, H a = some o → H2 a = some o) → (∀ a ∈ as, F a = none → F2 a = none) → φ F H → φ F2 H2
  al : ∀ {F H : Hp}, φ F H → ∀ a ∈ as, H a ≠ none
theorem Own.gr (o : Own) {M : List Addr} {F H F2 H2 : Hp} (g : Gr M F H F2 H2) (h : ∀ a ∈ o.as, a ∉ M) (x : o.φ F H) : o.φ F2 H2 :=
  o.st g.ff (fun a m u e => g.hh a u (h a m) e) (fun a m e => g.nw a (o.al x a m) e) x
def mu (p : Addr) (o : HO) : Own := ⟨[p], fun F H => Mu F H p o, fun s h n m => ⟨n p (List.mem_singleton.mpr rfl) m.n, h p (List.mem_singleton.mpr rfl) o m.h⟩, fun m a h => by
  rw [List.mem_singleton.mp h]
  exact ne_none m.h⟩
def bag (K : PySem.W.Frag) (b : Addr) : Own := ⟨[b], fun F H => Bag K F H b, fun s h n m => by
  obtain ⟨c, cells, i, cur, st, k, h1, h2, h3, h4⟩ := m.ex
  exact ⟨c, cells, i, cur, st, k, n b (List.mem_singleton.mpr rfl) h1, h b (List.mem_singleton.mpr rfl) _ h2, sqL_same s h3, h4⟩, fun m a h => by
  rw [List.mem_singleton.mp h]
  obtain ⟨c, cells, i, cur, st, k, h1, h2, h3, h4⟩ := m.ex
  exact ne_none h2⟩
def pur (φ : Hp → Prop) (h : ∀ {F F2 : Hp}, Same F F2 → φ F → φ F2) : Own := ⟨[], fun F _ => φ F, fun s _ _ x => h s x, fun _ a h => nomatch h⟩
def dat (K : PySem.W.Frag) (v : V) (d : PyData) : Own := pur (fun F => Dp K F v d) fun s x => dp_same s _ _ x
def dpa (K : PySem.W.Frag) (vs : List V) (ds : List PyData) : Own := pur (fun F => DpAll K F vs ds) fun s x => dpa_same s _ _ x
def imL (K : PySem.W.Frag) (a : Addr) (xs : List V) : Own := pur (fun F => SqL K F a xs) fun s x => sqL_same s x
def imT (K : PySem.W.Frag) (a : Addr) (xs : List V) : Own := pur (fun F => SqT K F a xs) fun s x => sqT_same s x
/-- an object that stays -/
def fx (p : Addr) (o : HO) : Own := pur (fun F => F p = some o) fun s x => s _ _ x
abbrev ads (L : List Own) : List Addr := L.flatMap Own.as
structure St (F H : Hp) (L : List Own) : Prop where
  s : Same F H
  i : ∀ o ∈ L, o.φ F H
  d : (ads L).Nodup
structure W (M : List Addr) (F0 H0 F H : Hp) (L : List Own) : Prop where
  g : Gr M F0 H0 F H
  i : ∀ o ∈ L, o.φ F H
  d : (ads L).Nodup
  o : ∀ a ∈ ads L, a ∈ M ∨ H0 a = none
/-- D taken out of L leaves Rs -/
inductive Rm (x : Own) : List Own → List Own → Prop
  | here {L : List Own} : Rm x (x :: L) L
  | there {y : Own} {L Rs : List Own} : Rm x L Rs → Rm x (y :: L) (y :: Rs)
inductive Pick : List Own → List Own → List Own → Prop
  | nil {L : List Own} : Pick L [] L
  | cons {o : Own} {L L1 D Rs : List Own} : Rm o L L1 → Pick L1 D Rs → Pick L (o :: D) Rs
theorem Rm.perm {x : Own} {L Rs : List Own} (h : Rm x L Rs) : L.Perm (x :: Rs) := by
  induction h with
  | here => exact .refl _
  | there _ ih => exact (ih.cons _).trans (.swap _ _ _)
theorem Pick.perm {L D Rs : List Own} (h : Pick L D Rs) : L.Perm (D ++ Rs) := by
  induction h with
  | nil => exact .refl _
  | cons h _ ih => exact h.perm.trans (ih.cons _)
theorem ads_perm {L L' : List Own} (h : L.Perm L') : (ads L).Perm (ads L') := h.flatMap_right Own.as
theorem ads_app (L L' : List Own) : ads (L ++ L') = ads L ++ ads L' := by simp [ads]
section
variable {K : PySem.W.Frag} {M N : List Addr} {F0 H0 F H F1 H1 F2 H2 : Hp} {L L2 D Rs : List Own} {p a : Addr} {u o2 : HO}
theorem W.perm (w : W M F0 H0 F H L) (h : L.Perm L2) : W M F0 H0 F H L2 :=
  ⟨w.g, fun o m => w.i o (h.mem_iff.mpr m), (ads_perm h).nodup_iff.mp w.d, fun a m => w.o a ((ads_perm h).mem_iff.mpr m)⟩
theorem W.to (w : W M F0 H0 F H L) (k : Pick L D Rs) : W M F0 H0 F H D := by
  have w := w.perm k.perm
  refine ⟨w.g, fun o m => w.i o (List.mem_append_left _ m), ?_, fun a m => w.o a (by rw [ads_app]; exact List.mem_append_left _ m)⟩
  have h := w.d
  rw [ads_app] at h
  exact (List.nodup_append.mp h).1
def Pk (L D : List Own) : Prop := ∃ Rs, Pick L D Rs
theorem W.pk (w : W M F0 H0 F H L) (k : Pk L D) : W M F0 H0 F H D := k.elim fun _ k => w.to k
theorem W.st (w : W M F0 H0 F H L) (k : Pick L D Rs) : St F H D := ⟨w.g.fh, (w.to k).i, (w.to k).d⟩
theorem St.w (s : St F H L) (h : M = ads L := by rfl) : W M F H F H L := ⟨.refl s.s, s.i, s.d, fun a m => .inl (by rw [h]; exact m)⟩
theorem W.start (s : Same F H) : W M F H F H [] := ⟨.refl s, (fun _ h => nomatch h), .nil, (fun _ h => nomatch h)⟩
theorem W.call (w : W M F0 H0 F H L) (k : Pick L D Rs) (w2 : W N F H F2 H2 L2) (hN : N = ads D := by rfl) : W M F0 H0 F2 H2 (L2 ++ Rs) := by
  subst hN
  have w := w.perm k.perm
  have hd := w.d
  have ho := w.o
  rw [ads_app] at hd ho
  obtain ⟨d1, d2, d3⟩ := List.nodup_append.mp hd
  have hR : ∀ a ∈ ads Rs, H a ≠ none := fun a m => by
    obtain ⟨o, mo, ma⟩ := List.mem_flatMap.mp m
    exact o.al (w.i o (List.mem_append_right _ mo)) a ma
  refine ⟨w.g.transN w2.g fun x m => ho x (List.mem_append_left _ m), fun o m => ?_, ?_, fun a m => ?_⟩
  · rcases List.mem_append.mp m with m | m
    · exact w2.i o m
    · refine o.gr w2.g (fun a ha hb => d3 a hb a (List.mem_flatMap.mpr ⟨o, m, ha⟩) rfl) (w.i o (List.mem_append_right _ m))
  · rw [ads_app]
    refine List.nodup_append.mpr ⟨w2.d, d2, fun a ha b hb e => ?_⟩
    subst e
    rcases w2.o a ha with h | h
    · exact d3 a h a hb rfl
    · exact hR a hb h
  · rw [ads_app] at m
    rcases List.mem_append.mp m with m | m
    · rcases w2.o a m with h | h
      · exact ho a (List.mem_append_left _ h)
      · exact .inr (w.g.fresh h)
    · exact ho a (List.mem_append_right _ m)
theorem W.ws (w : W M F0 H0 F H L) : Same F0 H := w.g.ws
theorem W.fh (w : W M F0 H0 F H L) : Same F H := w.g.fh
theorem W.ff (w : W M F0 H0 F H L) : Same F0 F := w.g.ff
theorem W.push (w : W M F0 H0 F H L) (o : Own) (h : o.φ F H) (e : o.as = [] := by rfl) : W M F0 H0 F H (o :: L) := by
  refine ⟨w.g, fun q m => ?_, ?_, fun a m => ?_⟩
  · rcases List.mem_cons.mp m with rfl | m
    · exact h
    · exact w.i q m
  · show ((o :: L).flatMap Own.as).Nodup
    rw [List.flatMap_cons, e]
    exact w.d
  · have m' : a ∈ (o :: L).flatMap Own.as := m
    rw [List.flatMap_cons, e] at m'
    exact w.o a m'
/-- a new object that stays -/
theorem W.im (w : W M F0 H0 F H L) (h : H p = none) : W M F0 H0 (upd F p u) (upd H p u) L := by
  have w2 : W [] F H (upd F p u) (upd H p u) [] := ⟨.im w.g.fh h, (fun _ h => nomatch h), .nil, (fun _ h => nomatch h)⟩
  exact w.call .nil w2
/-- a new object that may change -/
theorem W.nw (w : W M F0 H0 F H L) (h : H p = none) : W M F0 H0 F (upd H p u) (mu p u :: L) := by
  have w2 : W [] F H F (upd H p u) [mu p u] := by
    refine ⟨.new w.g.fh h, fun q m => ?_, ?_, fun a m => ?_⟩
    · rw [List.mem_singleton.mp m]
      exact Mu.new w.g.fh h
    · show ([p] : List Addr).Nodup
      simp
    · have : a = p := List.mem_singleton.mp m
      subst this
      exact .inr h
  exact w.call .nil w2
/-- a change -/
theorem W.wr (w : W M F0 H0 F H L) (k : Pick L [mu p o2] Rs) : W M F0 H0 F (upd H p u) (mu p u :: Rs) := by
  have m : Mu F H p o2 := (w.to k).i _ (List.mem_singleton.mpr rfl)
  have w2 : W [p] F H F (upd H p u) [mu p u] := by
    refine ⟨.wr w.g.fh m.n (List.mem_singleton.mpr rfl), fun q h => ?_, ?_, fun a h => ?_⟩
    · rw [List.mem_singleton.mp h]
      exact m.wr
    · show ([p] : List Addr).Nodup
      simp
    · exact .inl h
  exact w.call k w2 rfl
/-- an object that changes no more -/
theorem W.fz (w : W M F0 H0 F H L) (k : Pick L [mu p u] Rs) (hn : H0 p = none) : W M F0 H0 (upd F p u) H Rs := by
  have w := w.perm k.perm
  have m : Mu F H p u := w.i _ (List.mem_cons_self ..)
  have hd := w.d
  rw [ads_app] at hd
  obtain ⟨d1, d2, d3⟩ := List.nodup_append.mp hd
  refine ⟨w.g.frz hn m, fun o ho => ?_, d2, fun a ha => w.o a (by rw [ads_app]; exact List.mem_append_right _ ha)⟩
  have hp : ∀ a ∈ o.as, a ≠ p := fun a ha e => d3 p (List.mem_singleton.mpr rfl) a (List.mem_flatMap.mpr ⟨o, ho, ha⟩) e.symm
  refine o.st (Same.new m.n) (fun a _ _ e => e) (fun a ha e => ?_) (w.i o (List.mem_append_right _ ho))
  rw [upd_ne (hp a ha)]
  exact e
theorem W.fzL {xs : List V} (w : W M F0 H0 F H L) (k : Pick L [mu p (.lst xs)] Rs) (hn : H0 p = none) : ∃ F2, W M F0 H0 F2 H (fx p (.lst xs) :: Rs) := ⟨_, (w.fz k hn).push (fx p (.lst xs)) upd_same⟩
theorem W.fzD {xs : List V} {ds : List PyData} (w : W M F0 H0 F H L) (k : Pick L [mu p (.lst xs)] Rs) (hn : H0 p = none) (h : DpAll K F xs ds) : ∃ F2, W M F0 H0 F2 H (dat K (.ref p) (.list ds) :: Rs) := by
  have m : Mu F H p (.lst xs) := (w.to k).i _ (List.mem_singleton.mpr rfl)
  exact ⟨_, (w.fz k hn).push _ (.lst (sqL_of upd_same) (dpa_same (Same.new m.n) _ _ h))⟩
end
inductive App : List Own → List Own → List Own → Prop
  | nil {Rs : List Own} : App [] Rs Rs
  | cons {o : Own} {L Rs L' : List Own} : App L Rs L' → App (o :: L) Rs (o :: L')
theorem App.eq {L Rs L' : List Own} (h : App L Rs L') : L ++ Rs = L' := by
  induction h with
  | nil => rfl
  | cons _ ih => rw [List.cons_append, ih]
section
variable {K : PySem.W.Frag} {M N : List Addr} {F0 H0 F H F1 H1 F2 H2 : Hp} {L L2 L3 D Rs : List Own} {p a : Addr} {u o2 : HO} {xs ys : List V} {ds : List PyData} {d : PyData} {v : V}
theorem W.cal (w : W M F0 H0 F H L) (k : Pick L D Rs) (w2 : W N F H F2 H2 L2) (e : App L2 Rs L3) (hN : N = ads D := by rfl) : W M F0 H0 F2 H2 L3 := by
  rw [← e.eq]
  exact w.call k w2 hN
/-- .. by what the older promises tell -/
theorem W.gr (w : W M F0 H0 F H L) (k : Pick L D Rs) (g : Gr N F H F2 H2) (i : ∀ o ∈ D, o.φ F2 H2) (e : App D Rs L3) (hN : N = ads D := by rfl) : W M F0 H0 F2 H2 L3 :=
  w.cal k (L2 := D) ⟨g, i, (w.to k).d, fun a m => .inl (by rw [hN]; exact m)⟩ e hN
theorem W.gr0 (w : W M F0 H0 F H L) (g : Gr [] F H F2 H2) : W M F0 H0 F2 H2 L := w.gr (D := []) .nil g (fun _ h => nomatch h) .nil
theorem W.gr1 {o : Own} (w : W M F0 H0 F H L) (k : Pick L [o] Rs) (g : Gr N F H F2 H2) (i : o.φ F2 H2) (hN : N = ads [o] := by rfl) : W M F0 H0 F2 H2 (o :: Rs) :=
  w.gr k g (fun q m => by rw [List.mem_singleton.mp m]; exact i) (.cons .nil) hN
/-- a new list that an older promise tells -/
theorem W.newL (w : W M F0 H0 F H L) (hn : H0 a = none) (m : Mu F H a u) (hd : a ∉ ads L) : W M F0 H0 F H (mu a u :: L) := by
  refine ⟨w.g, fun q h => ?_, ?_, fun x h => ?_⟩
  · rcases List.mem_cons.mp h with rfl | h
    · exact m
    · exact w.i q h
  · exact List.nodup_cons.mpr ⟨hd, w.d⟩
  · rcases List.mem_cons.mp h with rfl | h
    · exact .inr hn
    · exact w.o x h
theorem W.not_new (w : W M F0 H0 F H L) (h : H a = none) : a ∉ ads L := fun m => by
  obtain ⟨o, mo, ma⟩ := List.mem_flatMap.mp m
  exact o.al (w.i o mo) a ma h
/-- a call with a new list told by an older promise -/
theorem W.grL (w : W M F0 H0 F H L) (k : Pick L D Rs) (g : Gr N F H F2 H2) (i : ∀ o ∈ D, o.φ F2 H2) (l : NewL K H F2 H2 a ds) (e : App D Rs L3) (hN : N = ads D := by rfl) : ∃ xs, H0 a = none ∧ DpAll K F2 xs ds ∧ W M F0 H0 F2 H2 (mu a (.lst xs) :: L3) := by
  obtain ⟨na, xs, m, dx⟩ := l
  have w2 := w.gr k g i e hN
  refine ⟨xs, w.g.fresh na, dx, w2.newL (w.g.fresh na) m fun h => ?_⟩
  refine w.not_new na ((ads_perm k.perm).mem_iff.mpr ?_)
  rw [e.eq]
  exact h
theorem W.grL0 (w : W M F0 H0 F H L) (g : Gr [] F H F2 H2) (l : NewL K H F2 H2 a ds) : ∃ xs, H0 a = none ∧ DpAll K F2 xs ds ∧ W M F0 H0 F2 H2 (mu a (.lst xs) :: L) := w.grL (D := []) .nil g (fun _ h => nomatch h) l .nil
theorem W.mu (w : W M F0 H0 F H L) (m : mu p u ∈ L) : Mu F H p u := w.i _ m
theorem W.bag {b : Addr} (w : W M F0 H0 F H L) (m : bag K b ∈ L) : Bag K F H b := w.i _ m
theorem W.dat (w : W M F0 H0 F H L) (m : dat K v d ∈ L) : Dp K F v d := w.i _ m
theorem W.dpa (w : W M F0 H0 F H L) (m : dpa K xs ds ∈ L) : DpAll K F xs ds := w.i _ m
theorem W.imL (w : W M F0 H0 F H L) (m : imL K p xs ∈ L) : SqL K F p xs := w.i _ m
theorem W.imT (w : W M F0 H0 F H L) (m : imT K p xs ∈ L) : SqT K F p xs := w.i _ m
theorem W.at_ (w : W M F0 H0 F H L) (m : R.mu p u ∈ L) : H p = some u := (w.mu m).h
theorem W.sqM (w : W M F0 H0 F H L) (m : R.mu p (.lst xs) ∈ L) : SqL K H p xs := (w.mu m).sq
theorem W.fx (w : W M F0 H0 F H L) (m : R.fx p u ∈ L) : H p = some u := w.fh _ _ (w.i _ m)
theorem W.sqF (w : W M F0 H0 F H L) (m : R.fx p (.lst xs) ∈ L) : SqL K H p xs := sqL_of (w.fx m)
theorem W.stF (w : W M F0 H0 F H L) (m : R.fx p (.tup xs) ∈ L) : SqT K H p xs := sqT_of (w.fx m)
theorem W.sqI (w : W M F0 H0 F H L) (m : R.imL K p xs ∈ L) : SqL K H p xs := sqL_same w.fh (w.imL m)
theorem W.sq0 (w : W M F0 H0 F H L) (h : SqL K F0 p xs) : SqL K H p xs := sqL_same w.ws h
theorem W.stI (w : W M F0 H0 F H L) (m : R.imT K p xs ∈ L) : SqT K H p xs := sqT_same w.fh (w.imT m)
theorem W.st0 (w : W M F0 H0 F H L) (h : SqT K F0 p xs) : SqT K H p xs := sqT_same w.ws h
theorem W.dp0 (w : W M F0 H0 F H L) (h : Dp K F0 v d) : Dp K F v d := dp_same w.ff _ _ h
theorem W.dpa0 (w : W M F0 H0 F H L) (h : DpAll K F0 xs ds) : DpAll K F xs ds := dpa_same w.ff _ _ h
theorem W.dpH (w : W M F0 H0 F H L) (h : Dp K F v d) : Dp K H v d := dp_same w.fh _ _ h
/-- a list of data that may change, as data for a while -/
theorem W.dpM (w : W M F0 H0 F H L) (m : R.mu p (.lst xs) ∈ L) (h : DpAll K F xs ds) : Dp K H (.ref p) (.list ds) := .lst (w.sqM m) (dpa_same w.fh _ _ h)
/-- a list of data opened -/
theorem W.open (w : W M F0 H0 F H L) (h : Dp K F v (.list ds)) : ∃ a xs, v = .ref a ∧ W M F0 H0 F H (R.imL K a xs :: R.dpa K xs ds :: L) := by
  obtain ⟨a, xs, rfl, h1, h2⟩ := dp_list h
  exact ⟨a, xs, rfl, (w.push (R.dpa K xs ds) h2).push (R.imL K a xs) h1⟩
end
/-! ### steps -/
def mkT (xs : List V) (H : Hp) (Q : VK) : Prop := xs.length ≤ sizeLine ∧ ∀ p, H p = none → Q (.ref p) (upd H p (.tup xs))
def mkL (xs : List V) (H : Hp) (Q : VK) : Prop := xs.length ≤ sizeLine ∧ ∀ p, H p = none → Q (.ref p) (upd H p (.lst xs))
def forG (g : TG) (tb : TS) (D : Ends) (J : It) (σ : L2.St) (H : Hp) : Prop := ∃ W : Nat → Nat → L2.St → Hp → Prop, (∃ m, W 0 m σ H) ∧ ∀ i m σ H, W i m σ H →
  (J.stop i H ∧ D.nx σ H) ∨ (J.go i H ∧ ∃ N : L2.St → Hp → Prop, (∀ σ' H', N σ' H' → ∃ m', m' < m ∧ W (i + 1) m' σ' H') ∧ ∀ x H', J.yld i H x H' → g x σ H' fun σ2 H2 => tb ⟨N, D.rt, D.nx, N⟩ σ2 H2)
def lcG (g : TG) (tt : TT) (te : TE) (vs : List Nat) (J : It) (σ : L2.St) (H : Hp) (Q : VK) : Prop := ∀ D, H D = none → ∃ W : Nat → Nat → Hp → Prop, (∃ m, W 0 m (upd H D (.lst []))) ∧ ∀ i m H, W i m H →
  (J.stop i H ∧ Q (.ref D) H) ∨ (J.go i H ∧ ∃ Nx : Hp → Prop, (∀ H', Nx H' → ∃ m', m' < m ∧ W (i + 1) m' H') ∧ ∀ x H', J.yld i H x H' → g x (wipe σ vs) H' fun σ2 H2 => wipe σ2 vs = wipe σ vs ∧ tt σ2 H2 fun b H3 =>
    if b = true then te σ2 H3 fun y H4 => ∃ acc, H4 D = some (.lst acc) ∧ acc.length < sizeLine ∧ Nx (upd H4 D (.lst (acc ++ [y]))) else Nx H3)
def accG (D : Addr) (Z : Hp → Prop) (y : V) (H : Hp) : Prop := ∃ acc, H D = some (.lst acc) ∧ acc.length < sizeLine ∧ Z (upd H D (.lst (acc ++ [y])))
def Nx (M : List Addr) (F0 H0 : Hp) (Inv : L2.St → List Own → Prop) : L2.St → Hp → Prop := fun σ H => ∃ L F, Inv σ L ∧ W M F0 H0 F H L
def NxM (M : List Addr) (F0 H0 : Hp) (Inv : Nat → L2.St → List Own → Prop) (m : Nat) : L2.St → Hp → Prop := fun σ H => ∃ m', m' < m ∧ ∃ L F, Inv m' σ L ∧ W M F0 H0 F H L
def NxC (M : List Addr) (F0 H0 : Hp) (P : List V → List Own → Prop) (D : Addr) : Hp → Prop := fun H => ∃ ys L F, P ys L ∧ W M F0 H0 F H (mu D (.lst ys) :: L)
section
variable {K : PySem.W.Frag} {M N : List Addr} {F0 H0 F H : Hp} {L Rs T : List Own} {σ : L2.St} {Q : VK} {ta tb te : TE} {x y v : V} {nx bk ct : L2.St → Hp → Prop} {rt : VK} {p q a D : Addr} {xs ys : List V} {u : HO}
variable {t : TA} {wi : TI} {g : TG} {tbody : TS} {c tt : TT} {vs : List Nat} {ts us : TS}
theorem x_tup (h : t σ H fun xs H1 => mkT xs H1 Q) : tTup t σ H Q := h
theorem x_lst (h : t σ H fun xs H1 => mkL xs H1 Q) : tLst t σ H Q := h
theorem x_for (h : wi σ H fun J H1 => forG g tbody ⟨nx, rt, bk, ct⟩ J σ H1) : tFor wi g tbody ⟨nx, rt, bk, ct⟩ σ H := h
theorem x_lc (h : wi σ H fun J H1 => lcG g tt te vs J σ H1 Q) : tLc wi g tt te vs σ H Q := h
theorem x_wp {a b : L2.St} {B : Prop} (h : a = b) (q : B) : a = b ∧ B := ⟨h, q⟩
theorem n_tup (w : W M F0 H0 F H L) (hs : xs.length ≤ sizeLine) (h : ∀ p F2 H2, W M F0 H0 F2 H2 (fx p (.tup xs) :: L) → Q (.ref p) H2) : mkT xs H Q :=
  ⟨hs, fun p np => h p _ _ ((w.im (u := .tup xs) np).push (fx p (.tup xs)) upd_same)⟩
theorem n_new (w : W M F0 H0 F H L) (h : ∀ p F2 H2, W M F0 H0 F2 H2 (mu p u :: L) → H0 p = none → Q (.ref p) H2) : ∀ p, H p = none → Q (.ref p) (upd H p u) := fun p np => h p _ _ (w.nw np) (w.g.fresh np)
theorem n_lst (w : W M F0 H0 F H L) (hs : xs.length ≤ sizeLine) (h : ∀ p F2 H2, W M F0 H0 F2 H2 (mu p (.lst xs) :: L) → H0 p = none → Q (.ref p) H2) : mkL xs H Q := ⟨hs, n_new w h⟩
theorem n_slL {lo hi : Option Int} (w : W M F0 H0 F H L) (hs : SqL K H p xs) (h : ∀ p F2 H2, W M F0 H0 F2 H2 (mu p (.lst (cutV xs lo hi)) :: L) → H0 p = none → Q (.ref p) H2) : rSlL K (.ref p) lo hi H Q := w_slL xs hs (n_new w h)
theorem n_listOf (w : W M F0 H0 F H L) (hs : SqL K H p xs) (h : ∀ p F2 H2, W M F0 H0 F2 H2 (mu p (.lst xs) :: L) → H0 p = none → Q (.ref p) H2) : rListOf K [.ref p] H Q := w_listOf xs hs (n_new w h)
def revG (K : PySem.W.Frag) (x : V) (H : Hp) (Q : VK) : Prop := ∃ a xs, x = .ref a ∧ SqL K H a xs ∧ ∀ p, H p = none → Q (.ref p) (upd H p (.lst xs.reverse))
theorem x_revL (h : ta σ H fun x H1 => revG K x H1 Q) : tRevL K ta σ H Q := h
theorem n_revL (w : W M F0 H0 F H L) (hs : SqL K H p xs) (h : ∀ p F2 H2, W M F0 H0 F2 H2 (mu p (.lst xs.reverse) :: L) → H0 p = none → Q (.ref p) H2) : revG K (.ref p) H Q := ⟨p, xs, rfl, hs, n_new w h⟩
def lrgG (a b : Int) (H : Hp) (Q : VK) : Prop := RgOk a b ∧ ∀ q, H q = none → Q (.ref q) (upd H q (.lst (rgV a b)))
theorem x_lstRg {te : L2.St → Hp → (Int → Int → Hp → Prop) → Prop} (h : te σ H fun a b H1 => lrgG a b H1 Q) : tLstRg te σ H Q := h
theorem n_lstRg {i j : Int} (w : W M F0 H0 F H L) (hs : RgOk i j) (h : ∀ p F2 H2, W M F0 H0 F2 H2 (mu p (.lst (rgV i j)) :: L) → H0 p = none → Q (.ref p) H2) : lrgG i j H Q := ⟨hs, n_new w h⟩
theorem n_cat (w : W M F0 H0 F H L) (h1 : H p = some (.lst xs)) (h2 : H q = some (.lst ys)) (hs : xs.length + ys.length ≤ sizeLine) (h : ∀ p F2 H2, W M F0 H0 F2 H2 (mu p (.lst (xs ++ ys)) :: L) → H0 p = none → Q (.ref p) H2) : rCat (.ref p) (.ref q) H Q :=
  ⟨p, q, xs, ys, rfl, rfl, h1, h2, hs, n_new w h⟩
theorem n_rep {k : Int} (w : W M F0 H0 F H L) (h1 : H p = some (.lst xs)) (h2 : -(2 ^ 63) ≤ k) (h3 : k < 2 ^ 63) (hs : xs.length * k.toNat ≤ sizeLine) (h : ∀ p F2 H2, W M F0 H0 F2 H2 (mu p (.lst (List.replicate k.toNat xs).flatten) :: L) → H0 p = none → Q (.ref p) H2) : rRep (.ref p) (.int k) H Q :=
  ⟨p, k, xs, rfl, rfl, h1, h2, h3, hs, n_new w h⟩
theorem n_app (w : W M F0 H0 F H L) (k : Pick L [mu p (.lst xs)] Rs) (hn : xs.length < sizeLine) (h : ∀ H2, W M F0 H0 F H2 (mu p (.lst (xs ++ [y])) :: Rs) → Q .non H2) : rAppend (.ref p) [y] H Q :=
  w_app xs ((w.to k).at_ (List.mem_singleton.mpr rfl)) hn (h _ (w.wr k))
theorem n_setL {k : Int} {Z : Hp → Prop} (w : W M F0 H0 F H L) (kk : Pick L [mu p (.lst xs)] Rs) (j : Nat) (e : ixN xs.length k = some j) (h : ∀ H2, W M F0 H0 F H2 (mu p (.lst (xs.set j v)) :: Rs) → Z H2) : rSetL (.ref p) (.int k) v H Z :=
  w_setL xs j ((w.to kk).at_ (List.mem_singleton.mpr rfl)) e (h _ (w.wr kk))
theorem n_draw {m : Int} {E : XK} {b : Addr} (w : W M F0 H0 F H L) (k : Pick L [bag K b] Rs) (h0 : 0 < m) (h1 : m < 2 ^ 200) (h : ∀ r F2 H2, W M F0 H0 F2 H2 (bag K b :: Rs) → 0 ≤ r → r < m → Q (.int r) H2) : S2 (φdraw K) ([.ref b, .int m] ++ []) H Q E :=
  u_draw w.fh ((w.to k).bag (List.mem_singleton.mpr rfl)) h0 h1 fun r F2 H2 g hb r0 r1 => h r F2 H2 (w.gr1 k g hb) r0 r1
def rg1G (vs : List V) (H : Hp) (Rr : It → Hp → Prop) : Prop := ∃ j : Int, vs = [.int j] ∧ -(2 ^ 62) ≤ j ∧ j < 2 ^ 62 ∧ Rr (Itr 0 j.toNat) H
def rg2G (vs : List V) (H : Hp) (Rr : It → Hp → Prop) : Prop := ∃ i j : Int, vs = [.int i, .int j] ∧ (-(2 ^ 62) ≤ i ∧ i < 2 ^ 62 ∧ -(2 ^ 62) ≤ j ∧ j < 2 ^ 62) ∧ Rr (Itr i (j - i).toNat) H
def ilG (K : PySem.W.Frag) (x : V) (H : Hp) (Rr : It → Hp → Prop) : Prop := ∃ a, x = .ref a ∧ (∃ xs, SqL K H a xs) ∧ Rr (Itl K a) H
def itG (K : PySem.W.Frag) (x : V) (H : Hp) (Rr : It → Hp → Prop) : Prop := ∃ a, x = .ref a ∧ (∃ xs, SqT K H a xs) ∧ Rr (Itt K a) H
def isG (x : V) (H : Hp) (Rr : It → Hp → Prop) : Prop := ∃ z, x = .str z ∧ Rr (Its z) H
theorem x_rng1 {Rr : It → Hp → Prop} (h : t σ H fun vs H1 => rg1G vs H1 Rr) : iRng1 t σ H Rr := h
theorem x_rng2 {Rr : It → Hp → Prop} (h : t σ H fun vs H1 => rg2G vs H1 Rr) : iRng2 t σ H Rr := h
theorem x_il {Rr : It → Hp → Prop} (h : te σ H fun x H1 => ilG K x H1 Rr) : iList K te σ H Rr := h
theorem x_it {Rr : It → Hp → Prop} (h : te σ H fun x H1 => itG K x H1 Rr) : iTup K te σ H Rr := h
theorem x_is {Rr : It → Hp → Prop} (h : te σ H fun x H1 => isG x H1 Rr) : iStr te σ H Rr := h
theorem n_rng1 {j : Int} {Rr : It → Hp → Prop} (h0 : -(2 ^ 62) ≤ j) (h1 : j < 2 ^ 62) (h : Rr (Itr 0 j.toNat) H) : rg1G [.int j] H Rr := ⟨j, rfl, h0, h1, h⟩
theorem n_rng2 {i j : Int} {Rr : It → Hp → Prop} (h0 : -(2 ^ 62) ≤ i) (h1 : i < 2 ^ 62) (h2 : -(2 ^ 62) ≤ j) (h3 : j < 2 ^ 62) (h : Rr (Itr i (j - i).toNat) H) : rg2G [.int i, .int j] H Rr := ⟨i, j, rfl, ⟨h0, h1, h2, h3⟩, h⟩
theorem n_il {Rr : It → Hp → Prop} (hs : SqL K H a xs) (h : Rr (Itl K a) H) : ilG K (.ref a) H Rr := ⟨a, rfl, ⟨xs, hs⟩, h⟩
theorem n_it {Rr : It → Hp → Prop} (hs : SqT K H a xs) (h : Rr (Itt K a) H) : itG K (.ref a) H Rr := ⟨a, rfl, ⟨xs, hs⟩, h⟩
theorem n_is {z : Str} {Rr : It → Hp → Prop} (h : Rr (Its z) H) : isG (.str z) H Rr := ⟨z, rfl, h⟩
theorem nx_mk {Inv : L2.St → List Own → Prop} {L2 : List Own} (w : W M F0 H0 F H L) (h : Inv σ L2) (k : Pk L L2) : Nx M F0 H0 Inv σ H := ⟨L2, F, h, w.pk k⟩
theorem nxm_mk {Inv : Nat → L2.St → List Own → Prop} {m m' : Nat} {L2 : List Own} (w : W M F0 H0 F H L) (hm : m' < m) (h : Inv m' σ L2) (k : Pk L L2) : NxM M F0 H0 Inv m σ H := ⟨m', hm, L2, F, h, w.pk k⟩
def addsG : R2 := fun x y H Q => ∃ a b, x = .str a ∧ y = .str b ∧ a.length + b.length ≤ sizeLine ∧ Q (.str (a ++ b)) H
theorem opAddS {X : Cx} : OpR X (binaryOp .Add) addsG := op_add_str
theorem n_adds {a b : Str} (hl : a.length + b.length ≤ sizeLine) (h : Q (.str (a ++ b)) H) : addsG (.str a) (.str b) H Q := ⟨a, b, rfl, rfl, hl, h⟩
theorem x_aug {i : Nat} {ti : TIp} {x : V} {H : Hp} (h : σ[i]? = some (some x)) (q : te σ H fun y H1 => ti x y H1 fun z H2 => nx (σ.set i (some z)) H2) : tAug i te ti ⟨nx, rt, bk, ct⟩ σ H := ⟨x, h, q⟩
theorem n_ipI {g : Int → Int → Int} {i j : Int} {Z : VK} (q : Z (.int (g i j)) H) : ipI g (.int i) (.int j) H Z := ⟨i, j, rfl, rfl, q⟩
/-- loops -/
theorem n_forR {n : Nat} (w : W M F0 H0 F H L) (Inv : Nat → L2.St → List Own → Prop) {L1 : List Own} (h0 : Inv 0 σ L1)
    (hs : ∀ (i : Nat) σ L F H, i < n → Inv i σ L → W M F0 H0 F H L → g (.int (i : Int)) σ H fun σ2 H2 => tbody ⟨Nx M F0 H0 (Inv (i + 1)), rt, nx, Nx M F0 H0 (Inv (i + 1))⟩ σ2 H2)
    (hd : ∀ σ L F H, Inv n σ L → W M F0 H0 F H L → nx σ H) (k : Pk L L1 := by walk_at "pk") : forG g tbody ⟨nx, rt, bk, ct⟩ (Itr 0 n) σ H :=
  f_range0 (fun i σ H => Nx M F0 H0 (Inv i) σ H) ⟨L1, F, h0, w.pk k⟩ (fun i σ H hi ⟨L, F, h, w⟩ => hs i σ L F H hi h w) fun σ H ⟨L, F, h, w⟩ => hd σ L F H h w
theorem n_forRL {lo : Int} {n : Nat} (w : W M F0 H0 F H L) (Inv : Nat → L2.St → List Own → Prop) {L1 : List Own} (h0 : Inv 0 σ L1)
    (hs : ∀ (i : Nat) σ L F H, i < n → Inv i σ L → W M F0 H0 F H L → g (.int (lo + i)) σ H fun σ2 H2 => tbody ⟨Nx M F0 H0 (Inv (i + 1)), rt, nx, Nx M F0 H0 (Inv (i + 1))⟩ σ2 H2)
    (hd : ∀ σ L F H, Inv n σ L → W M F0 H0 F H L → nx σ H) (k : Pk L L1 := by walk_at "pk") : forG g tbody ⟨nx, rt, bk, ct⟩ (Itr lo n) σ H :=
  f_range (fun i σ H => Nx M F0 H0 (Inv i) σ H) ⟨L1, F, h0, w.pk k⟩ (fun i σ H hi ⟨L, F, h, w⟩ => hs i σ L F H hi h w) fun σ H ⟨L, F, h, w⟩ => hd σ L F H h w
theorem n_forL (xs : List V) (w : W M F0 H0 F H L) (Inv : Nat → L2.St → List Own → Prop) {L1 : List Own} (h0 : Inv 0 σ L1) (hl : ∀ i σ L F H, Inv i σ L → W M F0 H0 F H L → SqL K H a xs)
    (hs : ∀ (i : Nat) x σ L F H, xs[i]? = some x → Inv i σ L → W M F0 H0 F H L → g x σ H fun σ2 H2 => tbody ⟨Nx M F0 H0 (Inv (i + 1)), rt, nx, Nx M F0 H0 (Inv (i + 1))⟩ σ2 H2)
    (hd : ∀ σ L F H, Inv xs.length σ L → W M F0 H0 F H L → nx σ H) (k : Pk L L1 := by walk_at "pk") : forG g tbody ⟨nx, rt, bk, ct⟩ (Itl K a) σ H :=
  f_list (xs := xs) (fun i σ H => Nx M F0 H0 (Inv i) σ H) ⟨L1, F, h0, w.pk k⟩ (fun i σ H _ ⟨L, F, h, w⟩ => hl i σ L F H h w) (fun i x σ H hx ⟨L, F, h, w⟩ => hs i x σ L F H hx h w) fun σ H ⟨L, F, h, w⟩ => hd σ L F H h w
def whB (tb : TS) (rt : VK) (nx : L2.St → Hp → Prop) (M : List Addr) (F0 H0 : Hp) (Inv : Nat → L2.St → List Own → Prop) (m : Nat) (σ : L2.St) (H : Hp) : Prop :=
  ∃ N : L2.St → Hp → Prop, (∀ σ' H', N σ' H' → ∃ m', m' < m ∧ ∃ L F, Inv m' σ' L ∧ W M F0 H0 F H' L) ∧ tb ⟨N, rt, nx, N⟩ σ H
theorem n_turn {Inv : Nat → L2.St → List Own → Prop} {m : Nat} (h : tbody ⟨NxM M F0 H0 Inv m, rt, nx, NxM M F0 H0 Inv m⟩ σ H) : whB tbody rt nx M F0 H0 Inv m σ H := ⟨_, fun _ _ h => h, h⟩
theorem n_while (w : W M F0 H0 F H L) (Inv : Nat → L2.St → List Own → Prop) {m0 : Nat} {L1 : List Own} (h0 : Inv m0 σ L1)
    (hs : ∀ (m : Nat) σ L F H, Inv m σ L → W M F0 H0 F H L → c σ H fun b H1 => if b = true then whB tbody rt nx M F0 H0 Inv m σ H1 else nx σ H1) (k : Pk L L1 := by walk_at "pk") : tWhile c tbody ⟨nx, rt, bk, ct⟩ σ H :=
  w_while (fun m σ H => ∃ L F, Inv m σ L ∧ W M F0 H0 F H L) (m0 := m0) ⟨L1, F, h0, w.pk k⟩ fun m σ H ⟨L, F, h, w⟩ => hs m σ L F H h w
theorem n_cut (w : W M F0 H0 F H L) (Mid : L2.St → List Own → Prop) (h1 : ts ⟨Nx M F0 H0 Mid, rt, bk, ct⟩ σ H) (h2 : ∀ σ L F H, Mid σ L → W M F0 H0 F H L → us ⟨nx, rt, bk, ct⟩ σ H) : C8.tCut ts us ⟨nx, rt, bk, ct⟩ σ H :=
  w_cut (Nx M F0 H0 Mid) h1 fun σ' H' ⟨L, F, h, w⟩ => h2 σ' L F H' h w
theorem n_lcR {n : Nat} (w : W M F0 H0 F H L) (P : Nat → List V → List Own → Prop) {L1 : List Own} (h0 : P 0 [] L1)
    (hs : ∀ (i : Nat) ys L F H D, i < n → P i ys L → W M F0 H0 F H (mu D (.lst ys) :: L) → H0 D = none → g (.int (i : Int)) (wipe σ vs) H fun σ2 H2 => wipe σ2 vs = wipe σ vs ∧ tt σ2 H2 fun b H3 =>
      if b = true then te σ2 H3 (accG D (NxC M F0 H0 (P (i + 1)) D)) else NxC M F0 H0 (P (i + 1)) D H3)
    (hd : ∀ D ys L F H, P n ys L → W M F0 H0 F H (mu D (.lst ys) :: L) → H0 D = none → Q (.ref D) H) (k : Pk L L1 := by walk_at "pk") : lcG g tt te vs (Itr 0 n) σ H Q := fun D nD =>
  lc_rng (fun i H => NxC M F0 H0 (P i) D H) ⟨[], L1, F, h0, (w.pk k).nw nD⟩ (fun i H hi ⟨ys, L, F, h, w'⟩ => hs i ys L F H D hi h w' (w.g.fresh nD)) fun H ⟨ys, L, F, h, w'⟩ => hd D ys L F H h w' (w.g.fresh nD)
theorem n_lcL (xs : List V) (w : W M F0 H0 F H L) (P : Nat → List V → List Own → Prop) {L1 : List Own} (h0 : P 0 [] L1) (hl : ∀ i ys L F H D, P i ys L → W M F0 H0 F H (mu D (.lst ys) :: L) → SqL K H a xs)
    (hs : ∀ (i : Nat) x ys L F H D, xs[i]? = some x → P i ys L → W M F0 H0 F H (mu D (.lst ys) :: L) → H0 D = none → g x (wipe σ vs) H fun σ2 H2 => wipe σ2 vs = wipe σ vs ∧ tt σ2 H2 fun b H3 =>
      if b = true then te σ2 H3 (accG D (NxC M F0 H0 (P (i + 1)) D)) else NxC M F0 H0 (P (i + 1)) D H3)
    (hd : ∀ D ys L F H, P xs.length ys L → W M F0 H0 F H (mu D (.lst ys) :: L) → H0 D = none → Q (.ref D) H) (k : Pk L L1 := by walk_at "pk") : lcG g tt te vs (Itl K a) σ H Q := fun D nD =>
  lc_list (xs := xs) (fun i H => NxC M F0 H0 (P i) D H) ⟨[], L1, F, h0, (w.pk k).nw nD⟩ (fun i H _ ⟨ys, L, F, h, w'⟩ => hl i ys L F H D h w') (fun i x H hx ⟨ys, L, F, h, w'⟩ => hs i x ys L F H D hx h w' (w.g.fresh nD)) fun H ⟨ys, L, F, h, w'⟩ => hd D ys L F H h w' (w.g.fresh nD)
theorem n_popAt {k : Int} (w : W M F0 H0 F H L) (kk : Pick L [mu p (.lst xs)] Rs) (j : Nat) (hj : k = (j : Nat)) (hl : xs.length ≤ 100000) (hy : xs[j]? = some y) (h : ∀ H2, W M F0 H0 F H2 (mu p (.lst (xs.eraseIdx j)) :: Rs) → Q y H2) : rPopAt (.ref p) [.int k] H Q := by
  subst hj
  have hi := (List.getElem?_eq_some_iff.mp hy).1
  refine ⟨p, xs, _, j, y, rfl, rfl, (w.to kk).at_ (List.mem_singleton.mpr rfl), by omega, by omega, ?_, hy, h _ (w.wr kk)⟩
  simp only [seqIndex?]
  first
    | rw [if_neg (by omega), if_pos (by omega)]; simp
    | (split <;> simp_all <;> omega)
    | (simp; omega)
theorem n_pop (w : W M F0 H0 F H L) (kk : Pick L [mu p (.lst (xs ++ [y]))] Rs) (h : ∀ H2, W M F0 H0 F H2 (mu p (.lst xs) :: Rs) → Q y H2) : rPop (.ref p) [] H Q := by
  refine ⟨p, xs ++ [y], y, rfl, rfl, (w.to kk).at_ (List.mem_singleton.mpr rfl), by simp, ?_⟩
  rw [List.dropLast_concat]
  exact h _ (w.wr kk)
theorem n_ext (w : W M F0 H0 F H L) (hb : H q = some (.lst ys)) (kk : Pick L [mu p (.lst xs)] Rs) (hl : xs.length + ys.length ≤ sizeLine) (h : ∀ H2, W M F0 H0 F H2 (mu p (.lst (xs ++ ys)) :: Rs) → Q .non H2) : rExtend (.ref p) [.ref q] H Q :=
  ⟨p, q, xs, ys, rfl, rfl, (w.to kk).at_ (List.mem_singleton.mpr rfl), hb, hl, h _ (w.wr kk)⟩
theorem n_rev (w : W M F0 H0 F H L) (kk : Pick L [mu p (.lst xs)] Rs) (h : ∀ H2, W M F0 H0 F H2 (mu p (.lst xs.reverse) :: Rs) → Q .non H2) : rReverse (.ref p) [] H Q :=
  ⟨p, xs, rfl, rfl, (w.to kk).at_ (List.mem_singleton.mpr rfl), h _ (w.wr kk)⟩
theorem n_clear (w : W M F0 H0 F H L) (kk : Pick L [mu p (.lst xs)] Rs) (h : ∀ H2, W M F0 H0 F H2 (mu p (.lst []) :: Rs) → Q .non H2) : rClear (.ref p) [] H Q :=
  ⟨p, xs, rfl, rfl, (w.to kk).at_ (List.mem_singleton.mpr rfl), h _ (w.wr kk)⟩
/-- a call that only reads, told by a promise with a single list -/
theorem W.ro (w : W M F0 H0 F H L) {F2 H2 : Hp} (w2 : W [] H H F2 H2 [R.mu p u]) (hp : H p = none) : W M F0 H0 F H2 (R.mu p u :: L) := by
  have m := w2.mu (List.mem_singleton.mpr rfl)
  have w3 : W [] F H F H2 [R.mu p u] := by
    refine ⟨w2.g.back w.fh, fun o ho => ?_, w2.d, w2.o⟩
    rw [List.mem_singleton.mp ho]
    exact ⟨w.fh.free hp, m.h⟩
  exact w.call .nil w3
/-- .. with nothing -/
theorem W.ro0 (w : W M F0 H0 F H L) {F2 H2 : Hp} {L2 : List Own} (w2 : W [] H H F2 H2 L2) : W M F0 H0 F H2 L := by
  have w3 : W [] F H F H2 [] := ⟨w2.g.back w.fh, fun _ h => (nomatch h), .nil, fun _ h => (nomatch h)⟩
  exact w.call .nil w3
theorem W.ro0' (w : W M F0 H0 F H L) {F2 H2 : Hp} (g : Gr [] H H F2 H2) : W M F0 H0 F H2 L := w.gr0 (g.back w.fh)
theorem getD_of {l : List V} {j : Nat} (h : j < l.length) : l[j]? = some (l.getD j .non) := by
  rw [List.getD_eq_getElem?_getD, List.getElem?_eq_getElem h]
  rfl
theorem n_forJ (J : It) (n : Nat) (w : W M F0 H0 F H L) (Inv : Nat → L2.St → List Own → Prop) {L1 : List Own} (h0 : Inv 0 σ L1) (hg : ∀ i σ L F H, i < n → Inv i σ L → W M F0 H0 F H L → J.go i H) (ht : ∀ σ L F H, Inv n σ L → W M F0 H0 F H L → J.stop n H)
    (hs : ∀ (i : Nat) x σ L F H H', i < n → Inv i σ L → W M F0 H0 F H L → J.yld i H x H' → g x σ H' fun σ2 H2 => tbody ⟨Nx M F0 H0 (Inv (i + 1)), rt, nx, Nx M F0 H0 (Inv (i + 1))⟩ σ2 H2)
    (hd : ∀ σ L F H, Inv n σ L → W M F0 H0 F H L → nx σ H) (k : Pk L L1 := by walk_at "pk") : forG g tbody ⟨nx, rt, bk, ct⟩ J σ H := by
  refine ⟨fun i m σ H => m = n - i ∧ i ≤ n ∧ Nx M F0 H0 (Inv i) σ H, ⟨n, by simp, Nat.zero_le _, L1, F, h0, w.pk k⟩, ?_⟩
  rintro i m σ H ⟨rfl, hi, L, F, h, w⟩
  by_cases hlt : i < n
  · exact .inr ⟨hg i σ L F H hlt h w, Nx M F0 H0 (Inv (i + 1)), fun σ' H' p' => ⟨n - (i + 1), by omega, rfl, hlt, p'⟩, fun x H' y => hs i x σ L F H H' hlt h w y⟩
  · have e : i = n := by omega
    subst e
    exact .inl ⟨ht σ L F H h w, hd σ L F H h w⟩
theorem n_lcJ (J : It) (n : Nat) (w : W M F0 H0 F H L) (P : Nat → List V → List Own → Prop) {L1 : List Own} (h0 : P 0 [] L1) (hg : ∀ i ys L F H D, i < n → P i ys L → W M F0 H0 F H (mu D (.lst ys) :: L) → J.go i H) (ht : ∀ ys L F H D, P n ys L → W M F0 H0 F H (mu D (.lst ys) :: L) → J.stop n H)
    (hs : ∀ (i : Nat) x ys L F H H' D, i < n → P i ys L → W M F0 H0 F H (mu D (.lst ys) :: L) → J.yld i H x H' → H0 D = none → g x (wipe σ vs) H' fun σ2 H2 => wipe σ2 vs = wipe σ vs ∧ tt σ2 H2 fun b H3 =>
      if b = true then te σ2 H3 (accG D (NxC M F0 H0 (P (i + 1)) D)) else NxC M F0 H0 (P (i + 1)) D H3)
    (hd : ∀ D ys L F H, P n ys L → W M F0 H0 F H (mu D (.lst ys) :: L) → H0 D = none → Q (.ref D) H) (k : Pk L L1 := by walk_at "pk") : lcG g tt te vs J σ H Q := by
  intro D nD
  have hD := w.g.fresh nD
  refine ⟨fun i m H => m = n - i ∧ i ≤ n ∧ NxC M F0 H0 (P i) D H, ⟨n, by simp, Nat.zero_le _, [], L1, F, h0, (w.pk k).nw nD⟩, ?_⟩
  rintro i m H ⟨rfl, hi, ys, L, F, h, w⟩
  by_cases hlt : i < n
  · exact .inr ⟨hg i ys L F H D hlt h w, NxC M F0 H0 (P (i + 1)) D, fun H' p' => ⟨n - (i + 1), by omega, rfl, hlt, p'⟩, fun x H' y => hs i x ys L F H H' D hlt h w y hD⟩
  · have e : i = n := by omega
    subst e
    exact .inl ⟨ht ys L F H D h w, hd D ys L F H h w hD⟩
def sgnV (z : Str) (k : Nat) : V := .str ⟨#[z.cps.toList.getD k 0]⟩
theorem its_yld {z : Str} {i : Nat} {H H' : Hp} {x : V} (h : (Its z).yld i H x H') : H' = H ∧ x = sgnV z i := by
  obtain ⟨e, c, hc, rfl⟩ := h
  refine ⟨e, ?_⟩
  unfold sgnV
  rw [List.getD_eq_getElem?_getD, Array.getElem?_toList, hc]
  rfl
/-- over a text -/
theorem n_forS (z : Str) (w : W M F0 H0 F H L) (Inv : Nat → L2.St → List Own → Prop) {L1 : List Own} (h0 : Inv 0 σ L1)
    (hs : ∀ (i : Nat) σ L F H, i < z.length → Inv i σ L → W M F0 H0 F H L → g (sgnV z i) σ H fun σ2 H2 => tbody ⟨Nx M F0 H0 (Inv (i + 1)), rt, nx, Nx M F0 H0 (Inv (i + 1))⟩ σ2 H2)
    (hd : ∀ σ L F H, Inv z.length σ L → W M F0 H0 F H L → nx σ H) (k : Pk L L1 := by walk_at "pk") : forG g tbody ⟨nx, rt, bk, ct⟩ (Its z) σ H :=
  n_forJ (Its z) z.length w Inv h0 (fun i _ _ _ _ hi _ _ => hi) (fun _ _ _ _ _ _ => Nat.le_refl _) (fun i x σ L F H H' hi h w y => by obtain ⟨rfl, rfl⟩ := its_yld y; exact hs i σ L F _ hi h w) hd k
theorem n_lcS (z : Str) (w : W M F0 H0 F H L) (P : Nat → List V → List Own → Prop) {L1 : List Own} (h0 : P 0 [] L1)
    (hs : ∀ (i : Nat) ys L F H D, i < z.length → P i ys L → W M F0 H0 F H (mu D (.lst ys) :: L) → H0 D = none → g (sgnV z i) (wipe σ vs) H fun σ2 H2 => wipe σ2 vs = wipe σ vs ∧ tt σ2 H2 fun b H3 =>
      if b = true then te σ2 H3 (accG D (NxC M F0 H0 (P (i + 1)) D)) else NxC M F0 H0 (P (i + 1)) D H3)
    (hd : ∀ D ys L F H, P z.length ys L → W M F0 H0 F H (mu D (.lst ys) :: L) → H0 D = none → Q (.ref D) H) (k : Pk L L1 := by walk_at "pk") : lcG g tt te vs (Its z) σ H Q :=
  n_lcJ (Its z) z.length w P h0 (fun i _ _ _ _ _ hi _ _ => hi) (fun _ _ _ _ _ _ _ => Nat.le_refl _) (fun i x ys L F H H' D hi h w y hD => by obtain ⟨rfl, rfl⟩ := its_yld y; exact hs i ys L F _ D hi h w hD) hd k
/-- over enumerate(list) -/
def enG (K : PySem.W.Frag) (vs : List V) (H : Hp) (Rr : It → Hp → Prop) : Prop := ∃ a xs, vs = [.ref a] ∧ SqL K H a xs ∧ Rr (Ite K a) H
theorem x_en {Rr : It → Hp → Prop} (h : t σ H fun vs H1 => enG K vs H1 Rr) : iEnum K t σ H Rr := h
theorem n_en {Rr : It → Hp → Prop} (hs : SqL K H a xs) (h : Rr (Ite K a) H) : enG K [.ref a] H Rr := ⟨a, xs, rfl, hs, h⟩
theorem n_forE (xs : List V) (w : W M F0 H0 F H L) (Inv : Nat → L2.St → List Own → Prop) {L1 : List Own} (h0 : Inv 0 σ L1) (hl : ∀ i σ L F H, Inv i σ L → W M F0 H0 F H L → SqL K H a xs)
    (hs : ∀ (i : Nat) x T σ L F H, xs[i]? = some x → Inv i σ L → W M F0 H0 F H (fx T (.tup [.int (i : Nat), x]) :: L) → g (.ref T) σ H fun σ2 H2 => tbody ⟨Nx M F0 H0 (Inv (i + 1)), rt, nx, Nx M F0 H0 (Inv (i + 1))⟩ σ2 H2)
    (hd : ∀ σ L F H, Inv xs.length σ L → W M F0 H0 F H L → nx σ H) (k : Pk L L1 := by walk_at "pk") : forG g tbody ⟨nx, rt, bk, ct⟩ (Ite K a) σ H := by
  refine n_forJ (Ite K a) xs.length w Inv h0 (fun i σ L F H hi h w => ⟨xs, xs[i], hl i σ L F H h w, List.getElem?_eq_getElem hi⟩) (fun σ L F H h w => ⟨xs, hl _ σ L F H h w, Nat.le_refl _⟩) (fun i x σ L F H H' hi h w y => ?_) hd k
  obtain ⟨T, v, rfl, nT, rfl, hx⟩ := y
  exact hs i v T σ L _ _ (hx xs (hl i σ L F H h w)) h ((w.im (u := .tup [.int (i : Nat), v]) nT).push (fx T (.tup [.int (i : Nat), v])) upd_same)
/-- over a tuple -/
theorem n_forT (xs : List V) (w : W M F0 H0 F H L) (Inv : Nat → L2.St → List Own → Prop) {L1 : List Own} (h0 : Inv 0 σ L1) (hl : ∀ i σ L F H, Inv i σ L → W M F0 H0 F H L → SqT K H a xs)
    (hs : ∀ (i : Nat) x σ L F H, xs[i]? = some x → Inv i σ L → W M F0 H0 F H L → g x σ H fun σ2 H2 => tbody ⟨Nx M F0 H0 (Inv (i + 1)), rt, nx, Nx M F0 H0 (Inv (i + 1))⟩ σ2 H2)
    (hd : ∀ σ L F H, Inv xs.length σ L → W M F0 H0 F H L → nx σ H) (k : Pk L L1 := by walk_at "pk") : forG g tbody ⟨nx, rt, bk, ct⟩ (Itt K a) σ H := by
  refine n_forJ (Itt K a) xs.length w Inv h0 (fun i σ L F H hi h w => ⟨xs, xs[i], hl i σ L F H h w, List.getElem?_eq_getElem hi⟩) (fun σ L F H h w => ⟨xs, hl _ σ L F H h w, Nat.le_refl _⟩) (fun i x σ L F H H' hi h w y => ?_) hd k
  obtain ⟨rfl, y⟩ := y
  exact hs i x σ L F _ (y xs (hl i σ L F _ h w)) h w
theorem W.calB {b : Addr} {F2 H2 : Hp} {L2 L3 : List Own} (w : W M F0 H0 F H L) (k : Pick L [R.bag K b] Rs) (w2 : W [b] F H F2 H2 L2) (e : App L2 Rs L3) : W M F0 H0 F2 H2 L3 := w.cal k w2 e rfl
theorem W.bag0 {b : Addr} {F2 H2 : Hp} (g : Gr [] H H F2 H2) (h : Bag K F2 H2 b) : W [] H H F2 H2 [R.bag K b] := by
  obtain ⟨c, cells, i, cur, st, k, h1, h2, _⟩ := h.ex
  refine ⟨g, fun o m => ?_, ?_, fun a m => ?_⟩
  · rw [List.mem_singleton.mp m]
    exact h
  · show ([b] : List Addr).Nodup
    simp
  · rw [show a = b from List.mem_singleton.mp m]
    exact .inr (g.ff.free h1)
theorem mapB_get {bs : List Bool} {i : Nat} {x : V} (h : (bs.map V.bl)[i]? = some x) : ∃ c, x = .bl c := by
  rw [List.getElem?_map] at h
  cases e : bs[i]? with
  | none => rw [e] at h; cases h
  | some c => rw [e] at h; exact ⟨c, (Option.some.inj h).symm⟩
theorem n_acc (ys : List V) {P : List V → List Own → Prop} (w : W M F0 H0 F H L) (hp : P (ys ++ [y]) Rs) (k : Pk L (mu D (.lst ys) :: Rs)) (hl : ys.length < sizeLine) : accG D (NxC M F0 H0 P D) y H := by
  have w' := w.pk k
  refine ⟨ys, w'.at_ (List.mem_cons_self ..), hl, ys ++ [y], Rs, F, hp, ?_⟩
  exact w'.wr (.cons .here .nil)
end
end R

namespace R
open PySem PySem.Spec PyProof.Rows L2
section
variable {P : Program} {w : World} {A : Around} {E : Value → Shared → Prop} {s : Shared}
/-- set(xs) of a list of ints -/
theorem set_listI {l : Addr} {items : Array Value} (ns : List Int) {Q : Value → Shared → Prop} (hh : A.handled = none) (hl : s.heap.IsList l items) (hit : IntsAre items.toList ns) (hb : ns.length + 1 < scanBound)
    (h : ∀ (h' : Heap) (tk c : Nat), SetR w h' s.heap.objs.size (fun j => decide (j ∈ ns)) c → c ≤ ns.length → (∀ b o, s.heap.get? b = some o → h'.get? b = some o) → Q (.ref s.heap.objs.size) { s with heap := h', toks := tk }) :
    wpAny (model P w) A (call (.type "set") [.ref l]) Q E s := by
  have hisz : items.size = ns.length := by
    have q := IntsAre.length hit
    rw [Array.length_toList] at q
    exact q
  obtain ⟨c, tl, hmro⟩ := F.called_set.mro
  have hmade := F.called_set.made
  have hsub := F.called_set.sub
  refine wpAny_call (codeAny_of_tree ?_)
  show wpAny _ _ (callAny (.type "set") _) _ _ _
  refine wpAny_pure ⟨Code.quiet_builtin _ (by decide +kernel), codeAny_builtin F.entry_type_call ?_⟩
  rw [Around.under_plain (weight_type_call_type "set" [.ref l] []) rfl]
  have h1 := F.called_set.notType
  have h2 := F.called_set.canCreate
  have hct := F.typeCall_set_1 (.ref l)
  repeat (any_goals (first | assumption | wp_step))
  refine codeAny_mono (code_set_led1 (.ref l) (E := E) (Q₁ := fun obj s₁ => obj = .ref s.heap.objs.size ∧ s₁ = { s with heap := s.heap.push { cls := .type "set", dict := none, data := .set #[] 0 (.fresh 0 0 (!w.params.followText "set-order")) } }) ⟨rfl, rfl⟩) fun r s₁ hr => ?_
  cases r with
  | error e => exact hr
  | ok fl =>
    cases fl with
    | ret obj =>
      obtain ⟨rfl, rfl⟩ := hr
      have hS : (s.heap.push { cls := .type "set", dict := none, data := .set #[] 0 (.fresh 0 0 (!w.params.followText "set-order")) }).get? s.heap.objs.size = some { cls := .type "set", dict := none, data := .set #[] 0 (.fresh 0 0 (!w.params.followText "set-order")) } := Heap.get?_push_size _ rfl
      have hT : Shared.TypeIs { s with heap := s.heap.push { cls := .type "set", dict := none, data := .set #[] 0 (.fresh 0 0 (!w.params.followText "set-order")) } } (.ref s.heap.objs.size) "set" := ⟨_, hS, rfl⟩
      have hli := F.called_set.init.lookup
      have hbi := F.called_set.init.bind (.ref s.heap.objs.size)
      repeat (any_goals (first | assumption | wp_step))
      refine codeAny_mono (codeAny_call_builtin (R := wants (fun r s₂ => r = .none ∧ ∃ h' tk c, s₂ = { s with heap := h', toks := tk } ∧ SetR w h' s.heap.objs.size (fun j => decide (j ∈ ns)) c ∧ c ≤ ns.length ∧
          (∀ b o, s.heap.get? b = some o → h'.get? b = some o)) E) F.called_set.init.plain F.entry_set_init (check_set_init_1 hT ?_)) fun r₂ s₂ hr₂ => ?_
      · obtain ⟨ol, hol, hcl, nl, hdl⟩ := hl
        obtain ⟨ocls, odict, odata, oslots⟩ := ol
        simp only at hcl hdl
        subst hcl; subst hdl
        have hol' : (s.heap.push { cls := .type "set", dict := none, data := .set #[] 0 (.fresh 0 0 (!w.params.followText "set-order")) }).get? l = some { cls := .type "list", dict := odict, data := .seq items nl, slots := oslots } := Heap.get?_push_of_some _ hol
        have hsls := F.sub_list_set
        have hslf := F.sub_list_frozenset
        have hne : (Value.type "list" == Value.type "dict") = false := by decide
        have hl1 : (s.heap.push { cls := .type "set", dict := none, data := .set #[] 0 (.fresh 0 0 (!w.params.followText "set-order")) }).IsList l items := ⟨_, hol', rfl, nl, rfl⟩
        unfold Builtin.«set.__init__» noKeywords Builtin.Frozenset.updateFrom
        generalize hPI : pyIter = PI
        wp_walk
        subst hPI
        refine wpAny_pyIter_list hl1 ?_
        refine wpAny_bind (wpAny_runValue ?_)
        have hlS : l < s.heap.objs.size := Heap.lt_size hol
        have hh3 : A.in1.in1.in1.handled = none := by simp [hh]
        have hneI : l ≠ (s.heap.push { cls := .type "set", dict := none, data := .set #[] 0 (.fresh 0 0 (!w.params.followText "set-order")) }).objs.size := by
          rw [Heap.size_push]; exact Nat.ne_of_lt (Nat.lt_succ_of_lt hlS)
        have hSf : s.heap.objs.size ∉ [(s.heap.push { cls := .type "set", dict := none, data := .set #[] 0 (.fresh 0 0 (!w.params.followText "set-order")) }).objs.size, l] := by
          rw [Heap.size_push]; simp only [List.mem_cons, List.mem_singleton, List.not_mem_nil, or_false, not_or]
          exact ⟨Nat.ne_of_lt (Nat.lt_succ_self _), Nat.ne_of_gt hlS⟩
        have hval : ∀ (i : Nat) (v : Value), items[i]? = some v → ∃ k t, ns[i]? = some k ∧ v = .int k t := fun i v hv => by
          have hi : i < ns.length := by rw [← hisz]; exact (Array.getElem?_eq_some_iff.mp hv).1
          obtain ⟨t, e⟩ := PyProof.Rows.IntsAre.int_at hit i v (by rw [Array.getElem?_toList]; exact hv)
          refine ⟨ns[i], t, List.getElem?_eq_getElem hi, ?_⟩
          rw [e, List.getD_eq_getElem?_getD, List.getElem?_eq_getElem hi] <;> rfl
        refine set_update_ints ((Walks.list hh3 _ l hneI items).toS) s.heap.objs.size
          hSf ns hisz hb hval (items.size - 0) 0 _ (by omega) (Nat.zero_le _)
          ⟨⟨_, Heap.get?_push_size _ rfl, rfl, rfl⟩, (hl1.push _)⟩ ?hS0 ?hR
        case hS0 =>
          have hget : ((s.heap.push { cls := .type "set", dict := none, data := .set #[] 0 (.fresh 0 0 (!w.params.followText "set-order")) }).push { cls := .type "list_iterator", data := .fields #[.ref l, .int 0 0] }).get? s.heap.objs.size
              = some { cls := .type "set", dict := none, data := .set #[] 0 (.fresh 0 0 (!w.params.followText "set-order")) } := Heap.get?_push_of_some _ hS
          exact ⟨0, Nat.le_refl 0, setR_new_at hget⟩
        case hR =>
          intro s' c' hm hc' hS'
          obtain ⟨h', g2, d', tk', os'⟩ := s'
          have eg : g2 = s.gens := hm.gens
          have ed : d' = s.drawn := hm.drawn
          have eo : os' = s.os := hm.os
          subst eg; subst ed; subst eo
          show wpAny _ _ _ _ _ _
          refine wpAny_pure ?_
          show wpAny _ _ (ret Value.none) _ _ _
          rw [hisz] at hc'
          refine wpAny_pure ⟨rfl, h', tk', c', rfl, hS', hc', fun b o e => ?_⟩
          have hb0 : b < s.heap.objs.size := Heap.lt_size e
          have hb1 : b ≠ s.heap.objs.size := Nat.ne_of_lt hb0
          have hb2 : b ≠ (s.heap.push { cls := .type "set", dict := none, data := .set #[] 0 (.fresh 0 0 (!w.params.followText "set-order")) }).objs.size := by
            rw [Heap.size_push]; exact Nat.ne_of_lt (Nat.lt_succ_of_lt hb0)
          exact hm.heap b o (by simp only [List.mem_cons, List.mem_singleton, List.not_mem_nil, or_false, not_or]; exact ⟨hb1, hb2⟩) (Heap.get?_push_of_some _ (Heap.get?_push_of_some _ e))
      · cases r₂ with
        | error e => exact hr₂
        | ok fl₂ =>
          cases fl₂ with
          | ret r =>
            obtain ⟨rfl, h', tk, c', rfl, hS', hc', hk'⟩ := hr₂
            repeat (any_goals (first | assumption | wp_step))
            exact h _ _ _ hS' hc' hk'
          | _ => exact hr₂.elim
    | _ => exact hr.elim
/-- sorted of a set of ints, any number of them -/
theorem sorted_setN {a : Addr} {S : Int → Bool} {n : Nat} {Q : Value → Shared → Prop} (R : SetR w s.heap a S n) (hh : A.handled = none) (hz : n ≤ sizeLine)
    (hQ : ∀ s' p (out : Array Value) (c : Nat) (ns : List Int), (∀ b o, s.heap.get? b = some o → s'.heap.get? b = some o) → s'.gens = s.gens → s'.os = s.os → s.heap.objs.size ≤ p →
      s'.heap.get? p = some (seqObj "list" out c) → IntsAre out.toList ns → ns.Pairwise (· < ·) → (∀ k, k ∈ ns ↔ S k = true) → ns.length = n → Q (.ref p) s') :
    wpAny (model P w) A (call (.builtin "sorted") [.ref a]) Q E s := by
  obtain ⟨o, es, ep, t, ho, hex, hd, g, nd, hm, hb, hf, hn, hr, hl⟩ := R
  refine Calls.call_function_entry kind_sorted plain_sorted entry_sorted (args_sorted1 _) ?_
  unfold Builtin.«sorted»
  refine wpAny_bind (m := checkCount "sorted" 1 1 _) (wpAny_pure ?_)
  refine wpAny_bind (collect_set (A := A.in1) hh ⟨o, ho, hex.1, hd⟩ hf hb hr hl fun s1 vs k1 hz g1 o1 pm => ?_)
  have hvl : vs.length = n := by rw [pm.length_eq, List.length_map, Array.length_toList]; exact hn
  have hI : IntsAre vs (vs.map Builtin.Re.reRawOf) := ints_of vs fun v hv => by
    obtain ⟨e, he, q⟩ := List.mem_map.mp (pm.mem_iff.mp hv)
    obtain ⟨k, tk, h1, _⟩ := g e he
    exact ⟨k, tk, by rw [← q]; exact h1⟩
  have pk : (vs.map Builtin.Re.reRawOf).Perm (es.toList.map keyOf) := by
    have q := pm.map Builtin.Re.reRawOf
    rw [List.map_map] at q
    exact q
  have hz2 : vs.length ≤ sizeLine := by rw [hvl]; assumption
  refine wpAny_bind (wpAny_newList ?_ hz2)
  have hoL : (s1.heap.push (seqObj "list" vs.toArray 0)).get? s1.heap.objs.size = some (seqObj "list" vs.toArray 0) := Heap.get?_push_size _ rfl
  refine wpAny_bind (wpAny_holding (wpAny_call_entry slot_list_sort ⟨_, hoL, rfl⟩ entry_list_sort
    (SrtO.list_sort_ord SrtO.swo_int hoL hz2 (fun h2 => SrtO.ints_sortable hI h2) fun out h1 h2 => ⟨_, rfl, ?_⟩) (args_list_sort _)))
  obtain ⟨k1', k2, k3⟩ := SrtO.ints_out hI h1 h2
  obtain ⟨c, hc⟩ := sortedHeap_at (vs := vs) (out := out.toArray) hoL
  have pn : (out.map SrtO.iv).Perm (es.toList.map keyOf) := k2.trans pk
  refine wpAny_pure ⟨_, rfl, hQ _ s1.heap.objs.size out.toArray c (out.map SrtO.iv) (fun b u e => ?_) g1 o1 hz hc k1' (lt_of_le_nodup _ k3 (pn.nodup_iff.mpr nd)) (fun k => by rw [pn.mem_iff, ← hm k]) ?_⟩
  · have q := k1 b u e
    have hlt := Heap.lt_size q
    show (sortedHeap (s1.heap.push (seqObj "list" vs.toArray 0)) s1.heap.objs.size vs out.toArray).get? b = some u
    rw [sortedHeap_old (Nat.ne_of_lt hlt) (by rw [size_push']; exact Nat.lt_succ_of_lt hlt)]
    exact Heap.get?_push_of_some _ q
  · rw [pn.length_eq, List.length_map, Array.length_toList]; exact hn
end
section
variable {X : Cx} {K : PySem.W.Frag} {w : World}
def rSetL (K : PySem.W.Frag) (w : World) : List V → Hp → VK → Prop := fun xs H Q => ∃ (a : Addr) (ns : List Int), xs = [.ref a] ∧ SqL K H a (ns.map V.int) ∧ ns.length ≤ 4000 ∧ ∀ p c, c ≤ ns.length → H p = none → Q (.ref p) (upd H p (SetO w p (fun j => decide (j ∈ ns)) c))
theorem clSetL (hc : X.calm = true := by rfl) (h : X.K = K := by rfl) (hw : X.w = w := by rfl) : CallR X (.type "set") (rSetL K w) := by
  subst h hw
  intro pins s σ H vs us Q I r h
  obtain ⟨a, ns, rfl, ha, hl, q⟩ := h
  obtain ⟨u, rfl, rx⟩ := vals1 r
  cases rx
  obtain ⟨its, rv, pl, hz⟩ := I.list ha
  have hi : IntsAre its.toArray.toList ns := ints_of_vals rv
  refine set_listI ns (I.ok.hd hc) (let ⟨o, n, e, c, _, d⟩ := pl; ⟨o, e, c, n, d⟩) hi (by unfold scanBound; omega) fun h' tk c R1 hcn k => ?_
  exact ⟨.ref _, upd H s.heap.objs.size (SetO X.w s.heap.objs.size (fun j => decide (j ∈ ns)) c), I.laid (t' := tk) k (Nat.le_refl _) (setO_new R1), rfl, q _ _ hcn (I.hok.fresh (Nat.le_refl _))⟩
def rSortS (w : World) : List V → Hp → VK → Prop := fun vs H Q => ∃ (a : Addr) (S : Int → Bool) (n : Nat), vs = [V.ref a] ∧ H a = some (SetO w a S n) ∧ n ≤ 100000 ∧
  ∀ (ns : List Int) (p : Addr), ns.Pairwise (· < ·) → (∀ k : Int, k ∈ ns ↔ S k = true) → ns.length = n → H p = none → Q (.ref p) (upd H p (.lst (ns.map V.int)))
theorem clSortS (hc : X.calm = true := by rfl) (hw : X.w = w := by rfl) : CallR X (.builtin "sorted") (rSortS w) := by
  subst hw
  intro pins s σ H vs us Q I r h
  obtain ⟨a, S, n, rfl, ha, hz, q⟩ := h
  have R := setO_get I ha
  rw [Vals.ref1 r]
  have hz' : n ≤ sizeLine := Nat.le_of_lt (by rw [sizeLine_eq]; omega)
  refine sorted_setN R (I.ok.hd hc) hz' fun s' p out c ns k g o hp hg hi hs hm hl => ?_
  have hlen : (ns.map V.int).length ≤ sizeLine := by rw [List.length_map, hl]; exact hz'
  have hn : H p = none := I.hok.fresh hp
  have J : Inv X pins σ (upd H p (.lst (ns.map V.int))) { s with heap := s'.heap, gens := s'.gens, drawn := s'.drawn, toks := s'.toks } :=
    I.call (ch := []) (Un.laid k hp hn) (I.hok.laid k hp ⟨hlen, out.toList, c, vals_of_ints hi, hg⟩) (by rw [g]; exact I.bare) (fun _ z => nomatch z)
  have e : s' = { s with heap := s'.heap, gens := s'.gens, drawn := s'.drawn, toks := s'.toks } := by
    cases s'
    cases s
    cases o
    rfl
  rw [e]
  exact ⟨.ref p, _, J, rfl, q ns p hs hm hl hn⟩
end
end R

namespace R
open PySem PySem.Spec PyProof.Rows L2
/-! ### list(s) of a text -/
def chars (z : Str) : List V := z.cps.toList.map fun c => V.str ⟨#[c]⟩
theorem chars_len (z : Str) : (chars z).length = z.length := by simp [chars, Str.length]
def rListS : List V → Hp → VK → Prop := fun xs H Q => ∃ z : Str, xs = [.str z] ∧ z.length ≤ sizeLine ∧ ∀ q, H q = none → Q (.ref q) (upd H q (.lst (chars z)))
theorem clListS {X : Cx} (hc : X.calm = true := by rfl) : CallR X (.type "list") rListS := by
  intro pins s σ H xs us Q I r h
  obtain ⟨z, rfl, hz, q⟩ := h
  obtain ⟨u, rfl, rx⟩ := vals1 r
  obtain ⟨t, rfl⟩ := rx
  refine PySem.call_list_str (I.ok.hd hc) z t (fun h' tk acc c' hk e hi => ?_) hz
  refine ⟨.ref s.heap.objs.size, upd H s.heap.objs.size (.lst (chars z)), I.laid hk (Nat.le_refl _) ⟨by rw [chars_len]; exact hz, acc.toList, c', ?_, by rw [Array.toArray_toList]; exact e⟩, rfl, q _ (I.hok.fresh (Nat.le_refl _))⟩
  refine vals_of_idx _ _ (by rw [chars_len, Array.length_toList]; exact hi.1) fun j u hj => ?_
  obtain ⟨c, t', hc, rfl⟩ := hi.2 j u (by rw [← Array.getElem?_toList]; exact hj)
  refine ⟨.str ⟨#[c]⟩, ?_, ⟨_, rfl⟩⟩
  unfold chars
  rw [List.getElem?_map, Array.getElem?_toList, hc]
  rfl
theorem n_listS {M : List Addr} {F0 H0 F H : Hp} {L : List Own} {Q : VK} {z : Str} (w : W M F0 H0 F H L) (hz : z.length ≤ sizeLine) (h : ∀ p F2 H2, W M F0 H0 F2 H2 (mu p (.lst (chars z)) :: L) → H0 p = none → Q (.ref p) H2) : rListS [.str z] H Q := ⟨z, rfl, hz, n_new w h⟩
def sgn (z : Str) (k : Nat) : V := .str ⟨#[z.cps.toList.getD k 0]⟩
theorem chars_get {z : Str} {k : Nat} (h : k < z.length) : (chars z)[k]? = some (sgn z k) := by
  have hi : k < z.cps.toList.length := by
    have : z.cps.toList.length = z.length := by simp [Str.length]
    omega
  unfold chars sgn
  rw [List.getElem?_map, List.getD_eq_getElem?_getD, List.getElem?_eq_getElem hi]
  rfl
/-! ### flat values -/
def flatD : V → PyData
  | .int i => .int i
  | .str z => .str z
  | _ => .none
def FlatV (v : V) : Prop := v = .non ∨ (∃ i, v = .int i) ∨ ∃ z, v = .str z ∧ okS z ∧ z.length ≤ 100
theorem flat_dp {K : PySem.W.Frag} {F : Hp} {v : V} (h : FlatV v) : Dp K F v (flatD v) ∧ good (flatD v) = true ∧ (flatD v).depth ≤ 0 := by
  rcases h with rfl | ⟨i, rfl⟩ | ⟨z, rfl, h1, h2⟩
  · exact ⟨.non, rfl, Nat.le_refl _⟩
  · exact ⟨.int i, rfl, Nat.le_refl _⟩
  · exact ⟨.str z, str_good h1 (by omega), Nat.le_refl _⟩
theorem flat_dpa {K : PySem.W.Frag} {F : Hp} : ∀ {vs : List V}, (∀ v ∈ vs, FlatV v) → DpAll K F vs (vs.map flatD)
  | [], _ => .nil
  | v :: vs, h => .cons (flat_dp (h v (List.mem_cons_self ..))).1 (flat_dpa fun u hu => h u (List.mem_cons_of_mem _ hu))
theorem flat_good {vs : List V} (h : ∀ v ∈ vs, FlatV v) (hl : vs.length ≤ 100000) : good (.list (vs.map flatD)) = true ∧ (PyData.list (vs.map flatD)).depth ≤ 1 := by
  constructor
  · refine good_list (by rw [List.length_map]; exact hl) fun d hd => ?_
    obtain ⟨r, hr, rfl⟩ := List.mem_map.mp hd
    exact (flat_dp (K := default) (F := fun _ => none) (h r hr)).2.1
  · refine depth_list fun d hd => ?_
    obtain ⟨r, hr, rfl⟩ := List.mem_map.mp hd
    exact (flat_dp (K := default) (F := fun _ => none) (h r hr)).2.2
theorem chars_flat {z : Str} (h : okS z) : ∀ v ∈ chars z, FlatV v := by
  intro v hv
  obtain ⟨k, hk, e⟩ := List.getElem_of_mem hv
  rw [chars_len] at hk
  have e2 := chars_get hk
  rw [List.getElem?_eq_getElem (by rw [chars_len]; exact hk), e] at e2
  rw [Option.some.inj e2]
  exact .inr (.inr ⟨_, rfl, ok_sign h hk, by show 1 ≤ 100; decide⟩)
theorem flat_snoc {vs : List V} {v : V} (h : ∀ v ∈ vs, FlatV v) (hv : FlatV v) : ∀ u ∈ vs ++ [v], FlatV u := by
  intro u hu
  rcases List.mem_append.mp hu with hu | hu
  · exact h u hu
  · rw [List.mem_singleton.mp hu]
    exact hv
/-! ### slices -/
theorem cut_nat (xs : List V) (i j : Nat) : cutV xs (some (i : Int)) (some (j : Int)) = (xs.drop i).take (j - i) := by
  unfold cutV
  rw [HT.sIx_nat, HT.sIx_nat]
  by_cases h : i ≤ xs.length
  · rw [Nat.min_eq_left h]
    by_cases h2 : j ≤ xs.length
    · rw [Nat.min_eq_left h2]
    · rw [Nat.min_eq_right (by omega), List.take_of_length_le (by rw [List.length_drop]; exact Nat.le_refl _), List.take_of_length_le (by rw [List.length_drop]; omega)]
  · rw [Nat.min_eq_right (show xs.length ≤ i by omega), List.drop_eq_nil_of_le (Nat.le_refl _), List.drop_eq_nil_of_le (show xs.length ≤ i by omega), List.take_nil, List.take_nil]
theorem cut_to (xs : List V) (j : Nat) : cutV xs none (some (j : Int)) = xs.take j := by
  unfold cutV
  rw [HT.sIx_none, HT.sIx_nat, List.drop_zero, Nat.sub_zero]
  by_cases h : j ≤ xs.length
  · rw [Nat.min_eq_left h]
  · rw [Nat.min_eq_right (by omega), List.take_of_length_le (Nat.le_refl _), List.take_of_length_le (by omega)]
theorem cut_from (xs : List V) (i : Nat) : cutV xs (some (i : Int)) none = xs.drop i := by
  unfold cutV
  rw [HT.sIx_none, HT.sIx_nat]
  by_cases h : i ≤ xs.length
  · rw [Nat.min_eq_left h]
    exact List.take_of_length_le (by rw [List.length_drop]; exact Nat.le_refl _)
  · rw [Nat.min_eq_right (by omega), Nat.sub_self, List.take_zero, List.drop_eq_nil_of_le (by omega)]
/-! ### items put one by one from a place on -/
def putN {α : Type} (f : Nat → α) (l : List α) (to : Nat) : Nat → List α
  | 0 => l
  | n + 1 => (putN f l to n).set (to + n) (f n)
theorem putN_len {α : Type} (f : Nat → α) (l : List α) (to : Nat) : ∀ n, (putN f l to n).length = l.length
  | 0 => rfl
  | n + 1 => by rw [putN, List.length_set, putN_len f l to n]
theorem putN_get {α : Type} (f : Nat → α) (l : List α) (to : Nat) : ∀ (n i : Nat), (putN f l to n)[i]? = if to ≤ i ∧ i < to + n ∧ i < l.length then some (f (i - to)) else l[i]?
  | 0, i => by
    rw [putN, if_neg (by omega)]
  | n + 1, i => by
    rw [putN, List.getElem?_set, putN_len]
    by_cases e : to + n = i
    · subst e
      rw [if_pos rfl]
      by_cases hl : to + n < l.length
      · rw [if_pos hl, if_pos (by omega), show to + n - to = n by omega]
      · rw [if_neg hl, if_neg (by omega), List.getElem?_eq_none (by omega)]
    · rw [if_neg e, putN_get f l to n i]
      by_cases h : to ≤ i ∧ i < to + n ∧ i < l.length
      · rw [if_pos h, if_pos (by omega)]
      · rw [if_neg h, if_neg (by omega)]
theorem ixN_nat {n i j : Nat} (h : i + j < n) : ixN n ((i : Int) + j) = some (i + j) := by
  unfold ixN
  rw [if_pos (by omega), if_pos (by omega)]
  congr 1
/-! ### moves -/
inductive Mv where
  | put (to : Nat) (s : Str)
  | copy (to a n : Nat)
def Mv.d : Mv → PyData
  | .put to s => .tuple [.str "put", .int to, .str s]
  | .copy to a n => .tuple [.str "copy", .int to, .int a, .int n]
def Mv.to : Mv → Nat
  | .put to _ => to
  | .copy to _ _ => to
def Mv.len : Mv → Nat
  | .put _ s => s.length
  | .copy _ _ n => n
def Mv.lo : Mv → Nat
  | .put _ _ => 0
  | .copy _ a _ => a
def Mv.hi : Mv → Nat
  | .put _ _ => 0
  | .copy _ a n => a + n
def Mv.sOk : Mv → Prop
  | .put _ s => okS s ∧ s.length ≤ 1000
  | .copy to a _ => to ≠ a
structure MvOk (N : Nat) (m : Mv) : Prop where
  s : m.sOk
  p : 1 ≤ m.len
  t : m.to + m.len ≤ N
  h : m.hi ≤ N
def Mv.some (xs : List V) : Mv → List V
  | .put _ s => chars s
  | .copy _ a n => (xs.drop a).take n
def laidL (xs : List V) (to : Nat) (zs : List V) : List V := xs.take to ++ zs ++ xs.drop (to + zs.length)
def stepM (once : Bool) (xs now : List V) (m : Mv) : List V := laidL now m.to (m.some (if once then xs else now))
def runM (once : Bool) (xs : List V) (ms : List Mv) : List V := ms.foldl (stepM once xs) xs
theorem run_take {once : Bool} {xs : List V} {ms : List Mv} {i : Nat} {m : Mv} (h : ms[i]? = Option.some m) : runM once xs (ms.take (i + 1)) = stepM once xs (runM once xs (ms.take i)) m := by
  unfold runM
  rw [List.take_add_one, h, List.foldl_append]
  rfl
theorem some_len {xs : List V} {m : Mv} (h : m.hi ≤ xs.length) : (m.some xs).length = m.len := by
  cases m with
  | put to s => exact chars_len s
  | copy to a n =>
    show ((xs.drop a).take n).length = n
    have h' : a + n ≤ xs.length := h
    rw [List.length_take, List.length_drop]
    omega
theorem laid_len {xs zs : List V} {to : Nat} (h : to + zs.length ≤ xs.length) : (laidL xs to zs).length = xs.length := by
  unfold laidL
  rw [List.length_append, List.length_append, List.length_take, List.length_drop]
  omega
theorem step_len {once : Bool} {xs now : List V} {m : Mv} (e : now.length = xs.length) (h : MvOk xs.length m) : (stepM once xs now m).length = xs.length := by
  have h2 : (if once then xs else now).length = xs.length := by split <;> first | rfl | exact e
  have h3 := some_len (xs := if once then xs else now) (m := m) (by rw [h2]; exact h.h)
  unfold stepM
  rw [laid_len (by rw [h3, e]; exact h.t), e]
theorem run_len {once : Bool} {xs : List V} : ∀ {ms : List Mv}, (∀ m ∈ ms, MvOk xs.length m) → (runM once xs ms).length = xs.length := by
  have key : ∀ (ms : List Mv) (now : List V), now.length = xs.length → (∀ m ∈ ms, MvOk xs.length m) → (ms.foldl (stepM once xs) now).length = xs.length := by
    intro ms
    induction ms with
    | nil => intro now e _; exact e
    | cons m ms ih => intro now e h; exact ih _ (step_len e (h m (List.mem_cons_self ..))) fun q hq => h q (List.mem_cons_of_mem _ hq)
  intro ms h
  exact key _ xs rfl h
theorem laid_put {xs zs : List V} {to : Nat} (h : to + zs.length ≤ xs.length) : putN (fun k => zs.getD k .non) xs to zs.length = laidL xs to zs := by
  refine List.ext_getElem? fun i => ?_
  rw [putN_get]
  unfold laidL
  by_cases h1 : i < to
  · rw [if_neg (by omega), List.append_assoc, List.getElem?_append_left (by rw [List.length_take]; omega), List.getElem?_take_of_lt h1]
  · by_cases h2 : i < to + zs.length
    · rw [if_pos ⟨by omega, h2, by omega⟩, List.append_assoc, List.getElem?_append_right (by rw [List.length_take]; omega), List.getElem?_append_left (by rw [List.length_take]; omega), List.length_take, Nat.min_eq_left (by omega),
        List.getD_eq_getElem?_getD, List.getElem?_eq_getElem (by omega)]
      rfl
    · rw [if_neg (by omega), List.getElem?_append_right (by rw [List.length_append, List.length_take]; omega), List.getElem?_drop, List.length_append, List.length_take, Nat.min_eq_left (by omega)]
      congr 1
      omega
theorem mem_take {α : Type} {l : List α} {n : Nat} {x : α} (h : x ∈ l.take n) : x ∈ l := List.mem_of_mem_take h
theorem some_flat {xs : List V} {m : Mv} (hs : m.sOk) (h : ∀ v ∈ xs, FlatV v) : ∀ v ∈ m.some xs, FlatV v := by
  cases m with
  | put to s => exact chars_flat hs.1
  | copy to a n => exact fun v hv => h v (List.mem_of_mem_drop (List.mem_of_mem_take hv))
theorem run_flat {once : Bool} {xs : List V} (hx : ∀ v ∈ xs, FlatV v) : ∀ {ms : List Mv}, (∀ m ∈ ms, m.sOk) → ∀ v ∈ runM once xs ms, FlatV v := by
  have key : ∀ (ms : List Mv) (now : List V), (∀ v ∈ now, FlatV v) → (∀ m ∈ ms, m.sOk) → ∀ v ∈ ms.foldl (stepM once xs) now, FlatV v := by
    intro ms
    induction ms with
    | nil => intro now e _; exact e
    | cons m ms ih =>
      intro now e h
      refine ih _ (fun v hv => ?_) fun q hq => h q (List.mem_cons_of_mem _ hq)
      rcases List.mem_append.mp hv with hv | hv
      · rcases List.mem_append.mp hv with hv | hv
        · exact e v (List.mem_of_mem_take hv)
        · exact some_flat (h m (List.mem_cons_self ..)) (by split <;> assumption) v hv
      · exact e v (List.mem_of_mem_drop hv)
  intro ms h
  exact key _ xs hx h
section
variable {K : PySem.W.Frag} {F : Hp} {x : V}
theorem dp_mput {to : Nat} {s : Str} (h : Dp K F x (Mv.put to s).d) : ∃ a, x = .ref a ∧ SqT K F a [.str "put", .int to, .str s] := by
  obtain ⟨a, v1, v2, v3, rfl, hs, h1, h2, h3⟩ := dp_tup3 h
  rw [dp_str h1, dp_int h2, dp_str h3] at hs
  exact ⟨a, rfl, hs⟩
theorem dp_mcopy {to a n : Nat} (h : Dp K F x (Mv.copy to a n).d) : ∃ p, x = .ref p ∧ SqT K F p [.str "copy", .int to, .int a, .int n] := by
  obtain ⟨p, v1, v2, v3, v4, rfl, hs, h1, h2, h3, h4⟩ := dp_tup4 h
  rw [dp_str h1, dp_int h2, dp_int h3, dp_int h4] at hs
  exact ⟨p, rfl, hs⟩
theorem dp_mput' {p : Addr} {to : Nat} {s : Str} (h : SqT K F p [.str "put", .int to, .str s]) : Dp K F (.ref p) (Mv.put to s).d := .tup h (.cons (.str _) (.cons (.int _) (.cons (.str _) .nil)))
theorem dp_mcopy' {p : Addr} {to a n : Nat} (h : SqT K F p [.str "copy", .int to, .int a, .int n]) : Dp K F (.ref p) (Mv.copy to a n).d := .tup h (.cons (.str _) (.cons (.int _) (.cons (.int _) (.cons (.int _) .nil))))
/-- the first two items of a move -/
theorem dp_mv0 {m : Mv} (h : Dp K F x m.d) : ∃ p ys, x = .ref p ∧ SqT K F p ys ∧ ys[1]? = some (.int (m.to : Nat)) := by
  cases m with
  | put to s =>
    obtain ⟨p, rfl, hs⟩ := dp_mput h
    exact ⟨p, _, rfl, hs, rfl⟩
  | copy to a n =>
    obtain ⟨p, rfl, hs⟩ := dp_mcopy h
    exact ⟨p, _, rfl, hs, rfl⟩
/-- item i of a list of data -/
theorem dpa_at {α : Type} {f : α → PyData} {us : List V} {as : List α} {i : Nat} {y : V} (h : DpAll K F us (as.map f)) (hx : us[i]? = some y) : ∃ r, as[i]? = some r ∧ Dp K F y (f r) := by
  have hl := dpa_len h
  have hi := (List.getElem?_eq_some_iff.mp hx).1
  rw [List.length_map] at hl
  have hr : as[i]? = some as[i] := List.getElem?_eq_getElem (by omega)
  obtain ⟨v, hv, dv⟩ := dpa_get (i := i) (d := f as[i]) h (by rw [List.getElem?_map, hr]; rfl)
  rw [hx] at hv
  rw [Option.some.inj hv]
  exact ⟨_, hr, dv⟩
theorem dpa_perm {α : Type} {f : α → PyData} {us vs : List V} (p : us.Perm vs) : ∀ {as : List α}, DpAll K F us (as.map f) → ∃ bs, as.Perm bs ∧ DpAll K F vs (bs.map f) := by
  induction p with
  | nil => exact fun h => ⟨_, .refl _, h⟩
  | cons x _ ih =>
    intro as h
    cases as with
    | nil => cases h
    | cons a as =>
      cases h with
      | cons h t =>
        obtain ⟨bs, p, q⟩ := ih t
        exact ⟨a :: bs, p.cons _, .cons h q⟩
  | swap x y l =>
    intro as h
    cases as with
    | nil => cases h
    | cons a as =>
      cases h with
      | cons h t =>
        cases as with
        | nil => cases t
        | cons b as =>
          cases t with
          | cons h2 t => exact ⟨b :: a :: as, .swap _ _ _, .cons h2 (.cons h t)⟩
  | trans _ _ ih1 ih2 =>
    intro as h
    obtain ⟨bs, p, q⟩ := ih1 h
    obtain ⟨cs, p2, q2⟩ := ih2 q
    exact ⟨cs, p.trans p2, q2⟩
end
theorem mv_good {m : Mv} (h : m.sOk) : good m.d = true ∧ m.d.depth ≤ 1 := by
  cases m with
  | put to s =>
    constructor
    · refine good_tuple (by simp) fun d hd => ?_
      simp only [List.mem_cons, List.not_mem_nil, or_false] at hd
      rcases hd with rfl | rfl | rfl
      · decide +kernel
      · rfl
      · exact str_good h.1 (Nat.le_trans h.2 (by decide))
    · refine depth_tuple fun d hd => ?_
      simp only [List.mem_cons, List.not_mem_nil, or_false] at hd
      rcases hd with rfl | rfl | rfl <;> exact Nat.le_refl _
  | copy to a n =>
    constructor
    · refine good_tuple (by simp) fun d hd => ?_
      simp only [List.mem_cons, List.not_mem_nil, or_false] at hd
      rcases hd with rfl | rfl | rfl | rfl
      · decide +kernel
      · rfl
      · rfl
      · rfl
    · refine depth_tuple fun d hd => ?_
      simp only [List.mem_cons, List.not_mem_nil, or_false] at hd
      rcases hd with rfl | rfl | rfl | rfl <;> exact Nat.le_refl _
theorem mvs_good {ms : List Mv} (h : ∀ m ∈ ms, m.sOk) (hl : ms.length ≤ 100000) : good (.list (ms.map Mv.d)) = true ∧ (PyData.list (ms.map Mv.d)).depth ≤ 2 := by
  constructor
  · refine good_list (by rw [List.length_map]; exact hl) fun d hd => ?_
    obtain ⟨r, hr, rfl⟩ := List.mem_map.mp hd
    exact (mv_good (h r hr)).1
  · refine depth_list fun d hd => ?_
    obtain ⟨r, hr, rfl⟩ := List.mem_map.mp hd
    exact (mv_good (h r hr)).2
/-- no cell is written twice -/
def Apart (ms : List Mv) : Prop := ms.Pairwise fun m k => m.to + m.len ≤ k.to ∨ k.to + k.len ≤ m.to
theorem Apart.perm {ms ks : List Mv} (h : Apart ms) (p : ms.Perm ks) : Apart ks := (p.pairwise_iff (fun h => h.symm)).mp h
structure MvsOk (N : Nat) (ms : List Mv) : Prop where
  ok : ∀ m ∈ ms, MvOk N m
  ap : Apart ms
theorem MvsOk.perm {N : Nat} {ms ks : List Mv} (h : MvsOk N ms) (p : ms.Perm ks) : MvsOk N ks := ⟨fun m hm => h.ok m (p.mem_iff.mpr hm), h.ap.perm p⟩
theorem MvsOk.sub {N : Nat} {ms ks : List Mv} (h : MvsOk N ms) (p : ks.Sublist ms) : MvsOk N ks := ⟨fun m hm => h.ok m (p.mem hm), List.Pairwise.sublist p h.ap⟩
theorem nodup_lt : ∀ (N : Nat) (l : List Nat), l.Nodup → (∀ x ∈ l, x < N) → l.length ≤ N
  | 0, [], _, _ => Nat.le_refl _
  | 0, x :: l, _, h => absurd (h x (List.mem_cons_self ..)) (Nat.not_lt_zero _)
  | N + 1, l, hn, h => by
    have ih := nodup_lt N (l.erase N) (hn.erase N) fun x hx => by
      have h1 := h x (List.mem_of_mem_erase hx)
      have h2 : x ≠ N := fun e => by
        subst e
        exact (List.Nodup.mem_erase_iff hn).mp hx |>.1 rfl
      omega
    rw [List.length_erase] at ih
    split at ih <;> omega
/-- fewer than N + 1 of them -/
theorem MvsOk.len {N : Nat} {ms : List Mv} (h : MvsOk N ms) : ms.length ≤ N := by
  have hn : (ms.map Mv.to).Nodup := by
    refine List.pairwise_map.mpr (h.ap.imp_of_mem fun ha hb z => ?_)
    have := (h.ok _ ha).p
    have := (h.ok _ hb).p
    omega
  have hs : ∀ x ∈ ms.map Mv.to, x < N := fun x hx => by
    obtain ⟨m, hm, rfl⟩ := List.mem_map.mp hx
    have := (h.ok m hm).p
    have := (h.ok m hm).t
    omega
  have := nodup_lt N _ hn hs
  rwa [List.length_map] at this
/-! ### cuts and blocks -/
section
variable {K : PySem.W.Frag} {M : List Addr} {F0 H0 F H : Hp} {L : List Own} {Q : VK} {a : Addr} {ns : List Int} {wd : World}
theorem n_setI (w : W M F0 H0 F H L) (hs : SqL K H a (ns.map V.int)) (hl : ns.length ≤ 4000) (h : ∀ p c F2 H2, W M F0 H0 F2 H2 (mu p (SetO wd p (fun j => decide (j ∈ ns)) c) :: L) → c ≤ ns.length → H0 p = none → Q (.ref p) H2) : rSetL K wd [.ref a] H Q :=
  ⟨a, ns, rfl, hs, hl, fun p c hc np => h p c _ _ (w.nw np) hc (w.g.fresh np)⟩
theorem n_sortS {S : Int → Bool} {n : Nat} (w : W M F0 H0 F H L) (hs : H a = some (SetO wd a S n)) (hl : n ≤ 100000) (h : ∀ (ks : List Int) p F2 H2, W M F0 H0 F2 H2 (mu p (.lst (ks.map V.int)) :: L) → ks.Pairwise (· < ·) → (∀ k : Int, k ∈ ks ↔ S k = true) → ks.length = n → H0 p = none → Q (.ref p) H2) : rSortS wd [.ref a] H Q :=
  ⟨a, S, n, rfl, hs, hl, fun ks p h1 h2 h3 np => h ks p _ _ (w.nw np) h1 h2 h3 (w.g.fresh np)⟩
end
theorem cuts_nat {N : Nat} : ∀ {ns : List Int}, (∀ x ∈ ns, 0 ≤ x ∧ x ≤ (N : Int)) → ns.Pairwise (· < ·) → ∃ cs : List Nat, ns.map V.int = nV cs ∧ cs.Pairwise (· < ·) ∧ (∀ c ∈ cs, c ≤ N) ∧ (∀ k : Nat, k ∈ cs ↔ (k : Int) ∈ ns) ∧ cs.length = ns.length
  | [], _, _ => ⟨[], rfl, .nil, by simp, by simp, rfl⟩
  | x :: ns, h, p => by
    obtain ⟨p1, p2⟩ := List.pairwise_cons.mp p
    obtain ⟨cs, e, q1, q2, q3, q4⟩ := cuts_nat (ns := ns) (fun y hy => h y (List.mem_cons_of_mem _ hy)) p2
    have hx := h x (List.mem_cons_self ..)
    refine ⟨x.toNat :: cs, ?_, List.pairwise_cons.mpr ⟨fun c hc => ?_, q1⟩, fun c hc => ?_, fun k => ?_, by rw [List.length_cons, List.length_cons, q4]⟩
    · show V.int x :: ns.map V.int = V.int (x.toNat : Nat) :: nV cs
      rw [e, Int.toNat_of_nonneg hx.1]
    · have := p1 _ ((q3 c).mp hc)
      omega
    · rcases List.mem_cons.mp hc with rfl | hc
      · omega
      · exact q2 c hc
    · rw [List.mem_cons, List.mem_cons, q3]
      constructor
      · rintro (rfl | h)
        · exact .inl (Int.toNat_of_nonneg hx.1)
        · exact .inr h
      · rintro (h | h)
        · exact .inl (by omega)
        · exact .inr h
def blks : List Nat → List (Nat × Nat)
  | a :: b :: r => (a, b - a) :: blks (b :: r)
  | _ => []
def blkD (p : Nat × Nat) : PyData := .tuple [.int (p.1 : Nat), .int (p.2 : Nat)]
theorem blks_len : ∀ cs : List Nat, (blks cs).length = cs.length - 1
  | [] => rfl
  | [_] => rfl
  | a :: b :: r => by
    rw [blks, List.length_cons, blks_len (b :: r)]
    simp
theorem blks_get : ∀ {cs : List Nat} {i x y : Nat}, cs[i]? = some x → cs[i + 1]? = some y → (blks cs)[i]? = some (x, y - x)
  | [], _, _, _, h, _ => by simp at h
  | [_], 0, _, _, _, h => by simp at h
  | [_], i + 1, _, _, h, _ => by simp at h
  | a :: b :: r, 0, x, y, h1, h2 => by
    have e1 := Option.some.inj h1
    have e2 := Option.some.inj h2
    subst e1 e2
    rfl
  | a :: b :: r, i + 1, x, y, h1, h2 => by
    rw [blks, List.getElem?_cons_succ]
    exact blks_get (cs := b :: r) h1 h2
theorem blks_ok {N : Nat} : ∀ {cs : List Nat}, cs.Pairwise (· < ·) → (∀ c ∈ cs, c ≤ N) → ∀ p ∈ blks cs, 1 ≤ p.2 ∧ p.1 + p.2 ≤ N
  | [], _, _, p, h => by cases h
  | [_], _, _, p, h => by cases h
  | a :: b :: r, q, hN, p, h => by
    obtain ⟨q1, q2⟩ := List.pairwise_cons.mp q
    rcases List.mem_cons.mp h with rfl | h
    · have h1 := q1 b (List.mem_cons_self ..)
      have h2 := hN b (List.mem_cons_of_mem _ (List.mem_cons_self ..))
      exact ⟨by show 1 ≤ b - a; omega, by show a + (b - a) ≤ N; omega⟩
    · exact blks_ok q2 (fun c hc => hN c (List.mem_cons_of_mem _ hc)) p h
theorem blks_sum {N : Nat} : ∀ {a : Nat} {cs : List Nat}, (a :: cs).Pairwise (· < ·) → (∀ c ∈ (a :: cs), c ≤ N) → ((blks (a :: cs)).map (·.2)).sum + a ≤ N
  | a, [], _, h => by
    show 0 + a ≤ N
    have := h a (List.mem_cons_self ..)
    omega
  | a, b :: r, q, h => by
    obtain ⟨q1, q2⟩ := List.pairwise_cons.mp q
    have ih := blks_sum q2 fun c hc => h c (List.mem_cons_of_mem _ hc)
    have h1 := q1 b (List.mem_cons_self ..)
    rw [blks, List.map_cons, List.sum_cons]
    show (b - a) + _ + a ≤ N
    omega
theorem blk_sum {N : Nat} {cs : List Nat} (q : cs.Pairwise (· < ·)) (h : ∀ c ∈ cs, c ≤ N) : ((blks cs).map (·.2)).sum ≤ N := by
  cases cs with
  | nil => exact Nat.zero_le _
  | cons a cs =>
    have := blks_sum q h
    omega
theorem dp_blk {K : PySem.W.Frag} {F : Hp} {x : V} {p : Nat × Nat} (h : Dp K F x (blkD p)) : ∃ a, x = .ref a ∧ SqT K F a [.int (p.1 : Nat), .int (p.2 : Nat)] := by
  obtain ⟨a, vs, rfl, hs, h0⟩ := dp_tup h
  obtain ⟨v1, us, rfl, h1, h0⟩ := dpa_cons h0
  obtain ⟨v2, us, rfl, h2, h0⟩ := dpa_cons h0
  cases dpa_nil h0
  rw [dp_int h1, dp_int h2] at hs
  exact ⟨a, rfl, hs⟩
theorem sum_take_succ {l : List Nat} {i x : Nat} (h : l[i]? = some x) : (l.take (i + 1)).sum = (l.take i).sum + x := by
  rw [List.take_add_one, h, List.sum_append]
  rfl
theorem sum_take_le (l : List Nat) (i : Nat) : (l.take i).sum ≤ l.sum := by
  have := List.sum_append (l₁ := l.take i) (l₂ := l.drop i)
  rw [List.take_append_drop] at this
  omega
/-! ### promises -/
def φreads (K : PySem.W.Frag) : V → Hp → VK → Prop := fun x H Q => ∃ (F : Hp) (m : Mv), Same F H ∧ Dp K F x m.d ∧ ∀ t F2 H2, W [] F H F2 H2 [fx t (.tup [.int (m.lo : Nat), .int (m.hi : Nat)])] → Q (.ref t) H2
def φlands (K : PySem.W.Frag) : V → Hp → VK → Prop := fun x H Q => ∃ (F : Hp) (m : Mv), Same F H ∧ Dp K F x m.d ∧ m.sOk ∧ ∀ t F2 H2, W [] F H F2 H2 [fx t (.tup [.int (m.to : Nat), .int ((m.to + m.len : Nat) : Int)])] → Q (.ref t) H2
def φbrought (K : PySem.W.Frag) : V → V → Hp → VK → Prop := fun x y H Q => ∃ (F : Hp) (a : Addr) (xs : List V) (m : Mv), x = .ref a ∧ Same F H ∧ SqL K F a xs ∧ Dp K F y m.d ∧ m.sOk ∧
  ∀ p F2 H2, H p = none → W [] F H F2 H2 [mu p (.lst (m.some xs))] → Q (.ref p) H2
def φlaid (K : PySem.W.Frag) : V → V → V → Hp → VK → Prop := fun x y z H Q => ∃ (F : Hp) (a b : Addr) (xs zs : List V) (to : Nat), x = .ref a ∧ y = .int (to : Nat) ∧ z = .ref b ∧ Same F H ∧ SqL K F a xs ∧ F b = some (.lst zs) ∧ xs.length ≤ 100000 ∧ zs.length ≤ 100000 ∧
  ∀ p F2 H2, H p = none → W [] F H F2 H2 [mu p (.lst (laidL xs to zs))] → Q (.ref p) H2
def φrun (once : Bool) (K : PySem.W.Frag) : V → V → Hp → VK → Prop := fun x y H Q => ∃ (F : Hp) (a : Addr) (xs : List V) (ms : List Mv), x = .ref a ∧ Same F H ∧ SqL K F a xs ∧ Dp K F y (.list (ms.map Mv.d)) ∧ (∀ m ∈ ms, MvOk xs.length m) ∧ xs.length ≤ 10000 ∧
  ∀ p F2 H2, H p = none → W [] F H F2 H2 [mu p (.lst (runM once xs ms))] → Q (.ref p) H2
def φrunB (K : PySem.W.Frag) : V → V → V → Hp → VK → Prop := fun x y z H Q => ∃ (F : Hp) (a : Addr) (xs : List V) (ms : List Mv) (once : Bool), x = .ref a ∧ z = .bl once ∧ Same F H ∧ SqL K F a xs ∧ Dp K F y (.list (ms.map Mv.d)) ∧ (∀ m ∈ ms, MvOk xs.length m) ∧ xs.length ≤ 10000 ∧
  ∀ p F2 H2, H p = none → W [] F H F2 H2 [mu p (.lst (runM once xs ms))] → Q (.ref p) H2
def φtextN (K : PySem.W.Frag) : V → V → Hp → VK → Prop := fun x y H Q => ∃ (F : Hp) (b : Addr) (n : Int), x = .ref b ∧ y = .int n ∧ St F H [bag K b] ∧ 0 ≤ n ∧ n ≤ 1000 ∧
  ∀ (s : Str) F2 H2, W [b] F H F2 H2 [bag K b] → (s.length : Int) = n → okS s → Q (.str s) H2
def φturned (K : PySem.W.Frag) : V → V → Hp → VK → Prop := fun x y H Q => ∃ (F : Hp) (b a : Addr) (xs : List V), x = .ref b ∧ y = .ref a ∧ St F H [bag K b] ∧ SqL K F a xs ∧ xs.length ≤ 10000 ∧
  ∀ p ys F2 H2, H p = none → W [b] F H F2 H2 [mu p (.lst ys), bag K b] → xs.Perm ys → Q (.ref p) H2
def φmoves (K : PySem.W.Frag) : V → V → V → V → V → Hp → VK → Prop := fun x1 x2 x3 x4 x5 H Q => ∃ (F : Hp) (b : Addr) (N wide copies puts : Int), x1 = .ref b ∧ x2 = .int N ∧ x3 = .int wide ∧ x4 = .int copies ∧ x5 = .int puts ∧ St F H [bag K b] ∧ 1 ≤ N ∧ N ≤ 400 ∧ 1 ≤ wide ∧ wide ≤ 400 ∧ 0 ≤ copies ∧ copies ≤ 1000 ∧ 1 ≤ puts ∧ puts ≤ 1000 ∧
  ∀ p ys ms F2 H2, H p = none → W [b] F H F2 H2 [mu p (.lst ys), dpa K ys (ms.map Mv.d), bag K b] → MvsOk N.toNat ms → Q (.ref p) H2
def φblocks (K : PySem.W.Frag) : V → V → V → Hp → VK → Prop := fun x1 x2 x3 H Q => ∃ (F : Hp) (b : Addr) (N many : Int), x1 = .ref b ∧ x2 = .int N ∧ x3 = .int many ∧ St F H [bag K b] ∧ 1 ≤ N ∧ N ≤ 400 ∧ 0 ≤ many ∧ many ≤ 1000 ∧
  ∀ p ys ms F2 H2, H p = none → W [b] F H F2 H2 [mu p (.lst ys), dpa K ys (ms.map Mv.d), bag K b] → MvsOk N.toNat ms → Q (.ref p) H2
def φany_moves (K : PySem.W.Frag) : V → Hp → VK → Prop := fun x H Q => ∃ (F : Hp) (b : Addr), x = .ref b ∧ St F H [bag K b] ∧
  ∀ t p ys ms (N : Nat) F2 H2, H p = none → W [b] F H F2 H2 [fx t (.tup [.ref p, .int (N : Nat)]), mu p (.lst ys), dpa K ys (ms.map Mv.d), bag K b] → MvsOk N ms → 1 ≤ N → N ≤ 400 → Q (.ref t) H2
def φroom (K : PySem.W.Frag) : V → V → Hp → VK → Prop := fun x y H Q => ∃ (F : Hp) (b : Addr) (n : Int), x = .ref b ∧ y = .int n ∧ St F H [bag K b] ∧ 0 ≤ n ∧ n ≤ 1000 ∧
  ∀ p xs F2 H2, H p = none → W [b] F H F2 H2 [mu p (.lst xs), bag K b] → (xs.length : Int) = n → (∀ v ∈ xs, FlatV v) → Q (.ref p) H2
def φright22 (K : PySem.W.Frag) : V → V → V → Hp → VK → Prop := fun x y z H Q => ∃ (F : Hp) (a : Addr) (xs : List V) (ms : List Mv) (once : Bool), x = .ref a ∧ z = .bl once ∧ Same F H ∧ SqL K F a xs ∧ Dp K F y (.list (ms.map Mv.d)) ∧ MvsOk xs.length ms ∧ (∀ v ∈ xs, FlatV v) ∧ 1 ≤ xs.length ∧ xs.length ≤ 1000 ∧
  ∀ F2 H2, W [] F H F2 H2 [] → Q (.bl true) H2
end R

namespace R
open PySem L2
/-! ### a class of the text: its methods with their promises, its making -/
structure DM (P : Program) (w : World) (K : PySem.W.Frag) (mg : Str → Option Value) (base : Heap) (k : Nat) (C m : Str) (ps : List Str) (dvs : List V) (sp : Sp) : Prop where
  ex : ∃ (fd : FuncData) (ds : List Value), FnOk P w K mg base CX0 k (He.ma K (He.ga K C) m) fd ps sp ∧ Meth K (He.ga K C) m (He.ma K (He.ga K C) m) ∧ Cls K (He.ga K C) ∧ Binds K fd ps ds ∧ Vals dvs ds
structure DN (P : Program) (w : World) (K : PySem.W.Frag) (mg : Str → Option Value) (base : Heap) (k : Nat) (C : Str) (ps : List Str) (dvs : List V) (sp : Sp) : Prop where
  ex : ∃ (fd : FuncData) (ds : List Value), FnOk P w K mg base CX0 k (He.ma K (He.ga K C) "__init__") fd ps sp ∧ Mk K (He.ga K C) (He.ma K (He.ga K C) "__init__") ∧ mg C = some (.ref (He.ga K C)) ∧ Binds K fd ps ds ∧ Vals dvs ds
structure DNK (P : Program) (w : World) (K : PySem.W.Frag) (mg : Str → Option Value) (base : Heap) (k : Nat) (C : Str) (ps : List Str) (n : Nat) (ks : List Str) (tp : List (Nat × Nat)) (dvs : List V) (sp : Sp) : Prop where
  ex : ∃ (fd : FuncData) (ds : List Value), FnOk P w K mg base CX0 k (He.ma K (He.ga K C) "__init__") fd ps sp ∧ Mk K (He.ga K C) (He.ma K (He.ga K C) "__init__") ∧ mg C = some (.ref (He.ga K C)) ∧
    KBn K fd ps (n + 1) ks (fun us ws => pick .none tp us ws ds) (fun vs zs => pick .non tp vs zs dvs)
section
variable {X : Cx} {k j n : Nat} {ps ks : List Str} {sp : Sp} {dvs : List V} {C m x : Str} {p pos apos : Pos} {o e : Expr} {es : List Expr} {kws : List Keyword} {ta : TE} {t tk : TA} {tp : List (Nat × Nat)} {pl : Sem Bool}
theorem pmake (D : DN X.prog X.w X.K X.mg X.base k x ps dvs sp) (hr : Room j X.A) (ha : PA X (e :: es) t) (hj : k + 1 ≤ j := by first | decide | exact Nat.le_refl _ | omega) (hg : Gl X x := by rfl) (hdb : (x == ("__debug__" : Str)) = false := by decide)
    (he : starEach (e :: es) X.env = (false, eval e X.env) :: starEach es X.env := by rfl) (hpl : (backTo pos (starEach es X.env)).any (·.1) = false := by rfl) :
    PE X (.Call (.Name x p) (e :: es) [] pos) (tMake (He.ga X.K x) sp dvs E0 t) := by
  obtain ⟨fd, ds, F, M, hm, hb, hd⟩ := D.ex
  exact pe_make M F (hr.mono hj) hg hm hb hd pass0 ha hdb he hpl
theorem pmakeK (D : DNK X.prog X.w X.K X.mg X.base k x ps n ks tp dvs sp) (hr : Room j X.A) (ha : PA X (e :: es) t) (hkw : PK X kws tk) (hj : k + 1 ≤ j := by first | decide | exact Nat.le_refl _ | omega) (hg : Gl X x := by rfl)
    (h1 : (backToKw pos (keywordEach kws X.env)).all (·.1.isSome) = true := by rfl) (h2 : (backToKw pos (keywordEach kws X.env)).filterMap (·.1) = ks := by rfl) (h3 : (x == ("__debug__" : Str)) = false := by decide)
    (h4 : starEach (e :: es) X.env = (false, eval e X.env) :: starEach es X.env := by rfl) (h5 : ((backTo pos (starEach (e :: es) X.env)).any (·.1) || (backToKw pos (keywordEach kws X.env)).any (·.1.isNone)) = false := by rfl) :
    PE X (.Call (.Name x p) (e :: es) kws pos) (tMakeK (He.ga X.K x) n ks.length sp (fun vs zs => pick .non tp vs zs dvs) E0 t tk) := by
  obtain ⟨fd, ds, F, M, hm, hb⟩ := D.ex
  exact pe_makeK M F (hr.mono hj) hg hm hb pass0 ha hkw h1 h2 h3 h4 h5
theorem pmakeK0 (D : DNK X.prog X.w X.K X.mg X.base k x ps 0 ks tp dvs sp) (hr : Room j X.A) (hkw : PK X kws tk) (hj : k + 1 ≤ j := by first | decide | exact Nat.le_refl _ | omega) (hg : Gl X x := by rfl)
    (h1 : (backToKw pos (keywordEach kws X.env)).all (·.1.isSome) = true := by rfl) (h2 : (backToKw pos (keywordEach kws X.env)).filterMap (·.1) = ks := by rfl) (h3 : (x == ("__debug__" : Str)) = false := by decide)
    (h5 : ((backTo pos (starEach [] X.env)).any (·.1) || (backToKw pos (keywordEach kws X.env)).any (·.1.isNone)) = false := by rfl) :
    PE X (.Call (.Name x p) [] kws pos) (tMakeK (He.ga X.K x) 0 ks.length sp (fun vs zs => pick .non tp vs zs dvs) E0 tNil tk) := by
  obtain ⟨fd, ds, F, M, hm, hb⟩ := D.ex
  exact pe_makeK0 M F (hr.mono hj) hg hm hb pass0 hkw h1 h2 h3 h5
theorem pmeth (D : DM X.prog X.w X.K X.mg X.base k C m ps dvs sp) (hr : Room j X.A) (he : PE X o ta) (ha : PA X (e :: es) t) (hj : k ≤ j := by first | decide | exact Nat.le_refl _ | omega)
    (h1 : starEach (e :: es) X.env = (false, eval e X.env) :: starEach es X.env := by rfl) (h2 : (backTo pos (starEach es X.env)).any (·.1) = false := by rfl)
    (h3 : eval (.Call (.Attribute o m apos) (e :: es) [] pos) X.env = (eval o X.env >>= fun ov => standAt apos.atName >>= fun _ => holding [ov] (getMethod ov m pl) >>= fun q =>
      callWith pos q.1 q.2 (backTo pos (starEach (e :: es) X.env)) (backToKw pos (keywordEach [] X.env))) := by rfl) :
    PE X (.Call (.Attribute o m apos) (e :: es) [] pos) (tMeth (He.ga X.K C) m sp dvs E0 ta t) := by
  obtain ⟨fd, ds, F, M, c, hb, hd⟩ := D.ex
  exact pe_meth he c M F (hr.mono hj) hb hd pass0 ha h1 h2 h3
theorem pmeth0 (D : DM X.prog X.w X.K X.mg X.base k C m ps dvs sp) (hr : Room j X.A) (he : PE X o ta) (hj : k ≤ j := by first | decide | exact Nat.le_refl _ | omega)
    (h3 : eval (.Call (.Attribute o m apos) [] [] pos) X.env = (eval o X.env >>= fun ov => standAt apos.atName >>= fun _ => holding [ov] (getMethod ov m pl) >>= fun q =>
      callWith pos q.1 q.2 (backTo pos (starEach [] X.env)) (backToKw pos (keywordEach [] X.env))) := by rfl) :
    PE X (.Call (.Attribute o m apos) [] [] pos) (tMeth (He.ga X.K C) m sp dvs E0 ta tNil) := by
  obtain ⟨fd, ds, F, M, c, hb, hd⟩ := D.ex
  exact pe_meth0 he c M F (hr.mono hj) hb hd pass0 h3
end
/-! ### rules with the written part by its own name -/
section
variable {X : Cx} {K : PySem.W.Frag} {o value : Expr} {f : Str} {ta tv : TE} {pos p2 : Pos}
theorem psFld (ha : PE X o ta) (hv : PE X value tv) (hs : swapsWith value (some (.Attribute o f p2)) pos.line X.env = pure false) (h : X.K = K := by rfl) : PS X (.Assign [.Attribute o f p2] value pos) (sFld K ta tv f) := by
  subst h
  exact ps_fld ha hv hs
theorem psFldAug {op : Operator} {rd : V → V → Hp → VK → Prop} (ha : PE X o ta) (hv : PE X value tv) (hop : InOp X op rd) (h : X.K = K := by rfl) : PS X (.AugAssign (.Attribute o f p2) op value pos) (sFldAug K ta tv rd f) := by
  subst h
  exact ps_fldaug ha hv hop
def rDictP (K : PySem.W.Frag) : List V → Hp → VK → Prop := fun xs H Q => ∃ (a : Addr) (ps : List Addr) (kvs : List (Key × V)), xs = [.ref a] ∧ SqL K H a (ps.map V.ref) ∧ Paired (fun p kv => SqT K H p [kV kv.1, kv.2]) ps kvs ∧ ∀ p, H p = none → Q (.ref p) (upd H p (.dK (mergeK [] kvs)))
theorem clDictP (hc : X.calm = true := by rfl) (h : X.K = K := by rfl) : CallR X (.type "dict") (rDictP K) := by subst h; exact call_dictP hc
end
/-! ### steps -/
section
variable {K : PySem.W.Frag} {σ : L2.St} {H : Hp} {Q : VK} {ta tv : TE} {x v : V} {nx bk ct : L2.St → Hp → Prop} {rt : VK} {C a dx : Addr} {f m : Str} {fs : List (Str × V)}
/-- what an instance's field asks -/
def gFld (K : PySem.W.Frag) (f : Str) (x : V) (H : Hp) (Q : VK) : Prop := ∃ a C dx fs v, x = .ref a ∧ H a = some (.ins C dx fs) ∧ Cls K C ∧ NoAttr K C f ∧ fs.lookup f = some v ∧ Q v H
theorem w_fldE (q : ta σ H fun x H1 => gFld K f x H1 Q) : tFld K ta f σ H Q := q
theorem w_fld (c : Cls K C) (n : NoAttr K C f) (h : H a = some (.ins C dx fs)) (l : fs.lookup f = some v) (q : Q v H) : gFld K f (.ref a) H Q := ⟨a, C, dx, fs, v, rfl, h, c, n, l, q⟩
def gSFld (K : PySem.W.Frag) (f : Str) (x y : V) (H : Hp) (Z : Hp → Prop) : Prop := ∃ a C dx fs, x = .ref a ∧ H a = some (.ins C dx fs) ∧ Cls K C ∧ NoAttr K C f ∧ fs.length < 1000 ∧ Z (upd H a (.ins C dx (putF f y fs)))
theorem w_sfldE (q : tv σ H fun y H1 => ta σ H1 fun x H2 => gSFld K f x y H2 fun H3 => nx σ H3) : sFld K ta tv f ⟨nx, rt, bk, ct⟩ σ H := q
theorem w_sfld {Z : Hp → Prop} (c : Cls K C) (n : NoAttr K C f) (h : H a = some (.ins C dx fs)) (l : fs.length < 1000) (q : Z (upd H a (.ins C dx (putF f v fs)))) : gSFld K f (.ref a) v H Z := ⟨a, C, dx, fs, rfl, h, c, n, l, q⟩
theorem w_make {sp : Sp} {dvs : List V} {E : XK} {t : TA} (q : t σ H fun vs H1 => ∀ x dx, H1 x = none → H1 dx = none → dx ≠ x →
  sp (.ref x :: (vs ++ dvs)) (upd (upd H1 dx (.own x)) x (.ins C dx [])) (fun v H2 => v = .non ∧ Q (.ref x) H2) E) : tMake C sp dvs E t σ H Q := q
theorem w_makeK {n m : Nat} {sp : Sp} {gV : List V → List V → List V} {E : XK} {t tk : TA} (q : t σ H fun vs H1 => tk σ H1 fun zs H2 => vs.length = n ∧ zs.length = m ∧ ∀ x dx, H2 x = none → H2 dx = none → dx ≠ x →
  sp (gV (.ref x :: vs) zs) (upd (upd H2 dx (.own x)) x (.ins C dx [])) (fun v H3 => v = .non ∧ Q (.ref x) H3) E) : tMakeK C n m sp gV E t tk σ H Q := q
def gMeth (C : Addr) (m : Str) (x : V) (H : Hp) (P : Prop) : Prop := (∃ a dx fs, x = .ref a ∧ H a = some (.ins C dx fs) ∧ fs.lookup m = none) ∧ P
theorem w_meth {sp : Sp} {dvs : List V} {E : XK} {t : TA} (q : ta σ H fun x H1 => ∃ a dx fs, x = .ref a ∧ H1 a = some (.ins C dx fs) ∧ fs.lookup m = none ∧ t σ H1 fun vs H2 => sp (x :: (vs ++ dvs)) H2 Q E) : tMeth C m sp dvs E ta t σ H Q := q
end
end R

namespace R
open PySem PySem.Spec PyProof.Rows L2
/-! ### the head's facts with one more of the written part -/
def obsEG (n : Nat) (fa : List He.Fa) (fn : List He.DefD) (ex : PySem.W.Frag → Bool) (g : Addr → Option Obj) : He.AlD × Bool := (He.obsDG n fa fn g, ex (He.frG g (He.asD g n)))
def hookE (n : Nat) (fa : List He.Fa) (fn : List He.DefD) (ex : PySem.W.Frag → Bool) : PySem.W.Hook where
  α := He.AlD × Bool
  obs := fun s => obsEG n fa fn ex s.heap.get?
  val := fun _ => (He.valD fn, true)
  says := fun _ h => ∃ K : PySem.W.Frag, K.In h ∧ He.SaysD fa fn K ∧ ex K = true
  of := fun _ _ e => ⟨_, He.frG_in, congrArg Prod.fst e, congrArg Prod.snd e⟩
  keeps := fun _ _ _ ⟨K, hK, c⟩ k => ⟨K, PySem.W.Frag.In.keeps hK k, c⟩
theorem obsEG_eq {n : Nat} {fa : List He.Fa} {fn : List He.DefD} {ex : PySem.W.Frag → Bool} {g : Addr → Option Obj} {s : Shared} (h : ∀ a, g a = s.heap.get? a) : obsEG n fa fn ex g = (hookE n fa fn ex).obs s := by
  have e : g = s.heap.get? := funext h
  rw [e] <;> rfl
def eqV2 (a b : Option (Option Value)) : Bool := decide (a = b)
/-- what isinstance asks of an own class -/
def insB (K : PySem.W.Frag) (C : Str) : Bool := eqV2 (PySem.W.findIn K (.ref (He.ga K C)) "__class__") (some (some (.builtin "object.__class__"))) &&
  (eqV2 (PySem.W.specialIn K (.builtin "object.__class__") "__get__") (some (some (.builtin "getset_descriptor.__get__"))) &&
  (decide (PySem.W.takesIn K (.builtin "object.__class__") = some true) && (decide (PySem.W.mroIn K (He.ga K C) (.type "object") = some true) && decide (PySem.W.kitOne K (.ref (He.ga K C)) (.ref (He.ga K C)) = some true))))
theorem insB_ok {K : PySem.W.Frag} {C : Str} (c : Cls K (He.ga K C)) (h : insB K C = true) : C8.InsC K (He.ga K C) := by
  unfold insB at h
  simp only [Bool.and_eq_true, eqV2, decide_eq_true_eq] at h
  obtain ⟨h1, h2, h3, h4, h5⟩ := h
  exact ⟨c, h1, h2, h3, h4, h5⟩
/-- a class's own function for a special name -/
def spcB (K : PySem.W.Frag) (C m : Str) : Bool := eqV2 (PySem.W.findIn K (.ref (He.ga K C)) m) (some (some (.ref (He.ma K (He.ga K C) m)))) && PySem.W.isFn K (.ref (He.ma K (He.ga K C) m))
structure Spc (K : PySem.W.Frag) (C m : Str) : Prop where
  s : PySem.W.findIn K (.ref (He.ga K C)) m = some (some (.ref (He.ma K (He.ga K C) m)))
  f : PySem.W.isFn K (.ref (He.ma K (He.ga K C) m)) = true
theorem spcB_ok {K : PySem.W.Frag} {C m : Str} (h : spcB K C m = true) : Spc K C m := by
  unfold spcB at h
  simp only [Bool.and_eq_true, eqV2, decide_eq_true_eq] at h
  exact ⟨h.1, h.2⟩
section
variable {X : Cx} {K : PySem.W.Frag} {k : Nat} {C : Str} {ps : List Str} {sp : Sp}
def rIsC (K : PySem.W.Frag) (C : Str) : List V → Hp → VK → Prop := fun xs H Q => ∃ a dx fs, xs = [.ref a, .ref (He.ga K C)] ∧ H a = some (.ins (He.ga K C) dx fs) ∧ Q (.bl true) H
theorem clIsC (c : C8.InsC X.K (He.ga X.K C)) : CallR X (.builtin "isinstance") (rIsC X.K C) := C8.call_isC c
def aftI (Q : VK) : VK := fun v H2 => ∃ n : Int, v = .int n ∧ (0 ≤ n ∧ n < 2 ^ 63) ∧ Q (.int n) H2
def aftB (Q : VK) : VK := fun v H2 => ∃ k : Bool, v = .bl k ∧ Q (.bl k) H2
/-- len(x) by an own __len__ -/
def rLenO (C : Addr) (sp : Sp) : List V → Hp → VK → Prop := fun xs H Q => ∃ a dx fs, xs = [.ref a] ∧ H a = some (.ins C dx fs) ∧ sp [.ref a] H (aftI Q) E0
theorem clLenO (D : DM X.prog X.w X.K X.mg X.base k C "__len__" ps [] sp) {j : Nat} (hr : Room j X.A) (hj : k + 1 ≤ j) : CallR X (.builtin "len") (rLenO (He.ga X.K C) sp) := by
  obtain ⟨fd, ds, F, c, _, hb, hv⟩ := D.ex
  cases hv
  intro pins s σ H xs us Q I r h
  obtain ⟨a, dx, fs, rfl, ha, q⟩ := h
  rw [Vals.ref1 r]
  obtain ⟨mA, J, _⟩ := ins_get I.hok ha
  obtain ⟨od, J, _⟩ := J.look
  obtain ⟨m, hF⟩ := I.fr
  refine PySem.W.len_K hF I.ok.mod.kin J c.at_ c.fn ?_
  have e0 : Env0 X.prog X.w X.K X.mg X.base X.A.in1 X.stack s H := by
    have e := I.env0
    exact ⟨e.frames, e.mod, e.bs, e.bsz, e.funs, e.frf, e.hok, e.bare⟩
  have hl := F.len _ _ _ _ q
  refine wpAny_call (codeAny_mono (F.run X.A.in1 X.stack s H ⟨[.ref a], []⟩ [.ref a] [.ref a] _ E0 (hr.mono hj).in1 e0 (by
    have := hb s [.ref a] I.kIn (by simpa using hl)
    simpa using this) (.cons rfl .nil) q) fun r s' hq => ?_)
  cases r with
  | error e => exact pass0 pins σ H s e s' I hq
  | ok fl =>
    cases fl with
    | ret w =>
      obtain ⟨z, H', I', rz, n, ez, hn, q⟩ := I.after hq
      subst ez
      obtain ⟨t, rfl⟩ := rz
      exact ⟨hn, .int n, H', I'.tok _, ⟨_, rfl⟩, q⟩
    | next => exact False.elim hq
    | brk => exact False.elim hq
    | cont => exact False.elim hq
/-- x == y of two own instances by an own __eq__ -/
def rEqO (C : Addr) (sp : Sp) : R2 := fun x y H Q => ∃ a b dx dy fs gs, x = .ref a ∧ y = .ref b ∧ H a = some (.ins C dx fs) ∧ H b = some (.ins C dy gs) ∧ sp [.ref a, .ref b] H (aftB Q) E0
theorem opEqO (D : DM X.prog X.w X.K X.mg X.base k C "__eq__" ps [] sp) {j : Nat} (hr : Room j X.A) (hj : k ≤ j) : OpR X (compareOp .Eq) (rEqO (He.ga X.K C) sp) := by
  obtain ⟨fd, ds, F, c, _, hb, hv⟩ := D.ex
  cases hv
  intro pins s σ H x y u v Q I rx ry h
  obtain ⟨a, b, dx, dy, fs, gs, rfl, rfl, ha, hb', q⟩ := h
  cases rx
  cases ry
  obtain ⟨mA, J, _⟩ := ins_get I.hok ha
  obtain ⟨mB, J', _⟩ := ins_get I.hok hb'
  obtain ⟨od, J, _⟩ := J.look
  obtain ⟨od', J', _⟩ := J'.look
  obtain ⟨m, hF⟩ := I.fr
  show wpAny (model X.prog X.w) X.A (richCompare .Eq (.ref a) (.ref b)) (EP X pins σ Q) X.xe s
  refine PySem.W.cmp_K (op := .Eq) (tb := .ref (He.ga X.K C)) hr.units0 hF I.ok.mod.kin J J'.type (by simp [PySem.W.notFirst]) c.at_ c.fn ?_
  have hl := F.len _ _ _ _ q
  refine wpAny_call (codeAny_mono (F.run X.A X.stack s H ⟨[.ref a, .ref b], []⟩ [.ref a, .ref b] [.ref a, .ref b] _ E0 (hr.mono hj) I.env0 (by
    have := hb s [.ref a, .ref b] I.kIn (by simpa using hl)
    simpa using this) (.cons rfl (.cons rfl .nil)) q) fun r s' hq => ?_)
  cases r with
  | error e => exact pass0 pins σ H s e s' I hq
  | ok fl =>
    cases fl with
    | ret w =>
      obtain ⟨z, H', I', rz, n, ez, q⟩ := I.after hq
      subst ez
      cases rz
      exact ⟨.bl n, H', I', rfl, q⟩
    | next => exact False.elim hq
    | brk => exact False.elim hq
    | cont => exact False.elim hq
end
section
variable {K : PySem.W.Frag} {H : Hp} {Q : VK} {C : Str} {c : Addr} {a b dx dy : Addr} {fs gs : List (Str × V)} {sp : Sp}
theorem n_isC (h : H a = some (.ins (He.ga K C) dx fs)) (q : Q (.bl true) H) : rIsC K C [.ref a, .ref (He.ga K C)] H Q := ⟨a, dx, fs, rfl, h, q⟩
theorem n_lenO (h : H a = some (.ins c dx fs)) (q : sp [.ref a] H (aftI Q) E0) : rLenO c sp [.ref a] H Q := ⟨a, dx, fs, rfl, h, q⟩
theorem n_eqO (h : H a = some (.ins c dx fs)) (h' : H b = some (.ins c dy gs)) (q : sp [.ref a, .ref b] H (aftB Q) E0) : rEqO c sp (.ref a) (.ref b) H Q := ⟨a, b, dx, dy, fs, gs, rfl, rfl, h, h', q⟩
end
end R

namespace R
open PySem L2
/-! ### instances in a reading -/
def mthG (C : Addr) (m : Str) (x : V) (H : Hp) (P : Prop) : Prop := (∃ a dx fs, x = .ref a ∧ H a = some (.ins C dx fs) ∧ fs.lookup m = none) ∧ P
def aftG (Q : VK) (x : Addr) : VK := fun v H2 => v = .non ∧ Q (.ref x) H2
def makG (C : Addr) (sp : Sp) (ws : List V) (E : XK) (H : Hp) (Q : VK) : Prop := ∀ x dx, H x = none → H dx = none → dx ≠ x → sp (.ref x :: ws) (upd (upd H dx (.own x)) x (.ins C dx [])) (aftG Q x) E
section
variable {K : PySem.W.Frag} {M : List Addr} {F0 H0 F H : Hp} {L Rs : List Own} {σ : L2.St} {Q : VK} {ta : TE} {v : V} {nx bk ct : L2.St → Hp → Prop} {rt : VK} {C a dx : Addr} {f m : Str} {fs : List (Str × V)}
theorem n_fld (h : H a = some (.ins C dx fs)) (l : fs.lookup f = some v) (c : Cls K C) (n : NoAttr K C f) (q : Q v H) : gFld K f (.ref a) H Q := w_fld c n h l q
theorem n_sfld {Z : Hp → Prop} (w : W M F0 H0 F H L) (k : Pick L [mu a (.ins C dx fs)] Rs) (c : Cls K C) (n : NoAttr K C f) (l : fs.length < 1000) (q : ∀ H2, W M F0 H0 F H2 (mu a (.ins C dx (putF f v fs)) :: Rs) → Z H2) : gSFld K f (.ref a) v H Z :=
  w_sfld c n ((w.to k).at_ (List.mem_singleton.mpr rfl)) l (q _ (w.wr k))
theorem x_meth {sp : Sp} {dvs : List V} {E : XK} {t : TA} (q : ta σ H fun x H1 => mthG C m x H1 (t σ H1 fun vs H2 => sp (x :: (vs ++ dvs)) H2 Q E)) : tMeth C m sp dvs E ta t σ H Q := by
  refine w_meth ?_
  refine cast ?_ q
  congr 1
  funext x H1
  unfold mthG
  refine propext ⟨?_, ?_⟩
  · rintro ⟨⟨a, dx, fs, h1, h2, h3⟩, h4⟩
    exact ⟨a, dx, fs, h1, h2, h3, h4⟩
  · rintro ⟨a, dx, fs, h1, h2, h3, h4⟩
    exact ⟨⟨a, dx, fs, h1, h2, h3⟩, h4⟩
theorem n_meth {P : Prop} (h : H a = some (.ins C dx fs)) (l : fs.lookup m = none) (q : P) : mthG C m (.ref a) H P := ⟨⟨a, dx, fs, rfl, h, l⟩, q⟩
theorem x_make {sp : Sp} {dvs : List V} {E : XK} {t : TA} (q : t σ H fun vs H1 => makG C sp (vs ++ dvs) E H1 Q) : tMake C sp dvs E t σ H Q := q
theorem n_make {sp : Sp} {ws : List V} {E : XK} (w : W M F0 H0 F H L) (q : ∀ x dx H2, W M F0 H0 F H2 (mu x (.ins C dx []) :: mu dx (.own x) :: L) → H0 x = none → sp (.ref x :: ws) H2 (aftG Q x) E) : makG C sp ws E H Q := by
  intro x dx nx ndx hne
  have w1 := w.nw (u := .own x) ndx
  have nx1 : upd H dx (.own x) x = none := by rw [upd_ne hne.symm]; exact nx
  exact q x dx _ (w1.nw (u := .ins C dx []) nx1) (w.g.fresh nx)
end
/-! ### rows of a change -/
inductive CRow where
  | put (s : Str)
  | copy (a n : Nat)
def CRow.d : CRow → PyData
  | .put s => .tuple [.str "put", .str s]
  | .copy a n => .tuple [.str "copy", .int a, .int n]
def CRow.gives : CRow → Nat
  | .put s => s.length
  | .copy _ n => n
def CRow.hi : CRow → Nat
  | .put _ => 0
  | .copy a n => a + n
def CRow.sOk : CRow → Prop
  | .put s => okS s ∧ s.length ≤ 1000
  | .copy _ _ => True
structure CRowOk (size : Nat) (r : CRow) : Prop where
  s : r.sOk
  p : 1 ≤ r.gives
  h : r.hi ≤ size
abbrev givesL (rows : List CRow) : Nat := (rows.map CRow.gives).sum
structure RowsOk (size : Nat) (rows : List CRow) : Prop where
  ok : ∀ r ∈ rows, CRowOk size r
  sum : givesL rows ≤ 400
theorem rows_len : ∀ {rows : List CRow}, (∀ r ∈ rows, 1 ≤ r.gives) → rows.length ≤ givesL rows
  | [], _ => Nat.le_refl _
  | r :: rows, h => by
    have ih := rows_len (rows := rows) fun q hq => h q (List.mem_cons_of_mem _ hq)
    have h1 := h r (List.mem_cons_self ..)
    show rows.length + 1 ≤ r.gives + givesL rows
    omega
theorem RowsOk.len {size : Nat} {rows : List CRow} (h : RowsOk size rows) : rows.length ≤ 400 := Nat.le_trans (rows_len fun r hr => (h.ok r hr).p) h.sum
section
variable {K : PySem.W.Frag} {F : Hp} {x : V}
theorem dp_cput {s : Str} (h : Dp K F x (CRow.put s).d) : ∃ a, x = .ref a ∧ SqT K F a [.str "put", .str s] := by
  obtain ⟨a, vs, rfl, hs, h0⟩ := dp_tup h
  obtain ⟨v1, us, rfl, h1, h0⟩ := dpa_cons h0
  obtain ⟨v2, us, rfl, h2, h0⟩ := dpa_cons h0
  cases dpa_nil h0
  rw [dp_str h1, dp_str h2] at hs
  exact ⟨a, rfl, hs⟩
theorem dp_ccopy {a n : Nat} (h : Dp K F x (CRow.copy a n).d) : ∃ p, x = .ref p ∧ SqT K F p [.str "copy", .int a, .int n] := by
  obtain ⟨a, v1, v2, v3, rfl, hs, h1, h2, h3⟩ := dp_tup3 h
  rw [dp_str h1, dp_int h2, dp_int h3] at hs
  exact ⟨a, rfl, hs⟩
theorem dp_cput' {p : Addr} {s : Str} (h : SqT K F p [.str "put", .str s]) : Dp K F (.ref p) (CRow.put s).d := .tup h (.cons (.str _) (.cons (.str _) .nil))
theorem dp_ccopy' {p : Addr} {a n : Nat} (h : SqT K F p [.str "copy", .int a, .int n]) : Dp K F (.ref p) (CRow.copy a n).d := .tup h (.cons (.str _) (.cons (.int _) (.cons (.int _) .nil)))
end
theorem crow_good {m : CRow} (h : m.sOk) : good m.d = true ∧ m.d.depth ≤ 1 := by
  cases m with
  | put s =>
    constructor
    · refine good_tuple (by simp) fun d hd => ?_
      simp only [List.mem_cons, List.not_mem_nil, or_false] at hd
      rcases hd with rfl | rfl
      · decide +kernel
      · exact str_good h.1 (Nat.le_trans h.2 (by decide))
    · refine depth_tuple fun d hd => ?_
      simp only [List.mem_cons, List.not_mem_nil, or_false] at hd
      rcases hd with rfl | rfl <;> exact Nat.le_refl _
  | copy a n =>
    constructor
    · refine good_tuple (by simp) fun d hd => ?_
      simp only [List.mem_cons, List.not_mem_nil, or_false] at hd
      rcases hd with rfl | rfl | rfl
      · decide +kernel
      · rfl
      · rfl
    · refine depth_tuple fun d hd => ?_
      simp only [List.mem_cons, List.not_mem_nil, or_false] at hd
      rcases hd with rfl | rfl | rfl <;> exact Nat.le_refl _
theorem crows_good {ms : List CRow} (h : ∀ m ∈ ms, m.sOk) (hl : ms.length ≤ 100000) : good (.list (ms.map CRow.d)) = true ∧ (PyData.list (ms.map CRow.d)).depth ≤ 2 := by
  constructor
  · refine good_list (by rw [List.length_map]; exact hl) fun d hd => ?_
    obtain ⟨r, hr, rfl⟩ := List.mem_map.mp hd
    exact (crow_good (h r hr)).1
  · refine depth_list fun d hd => ?_
    obtain ⟨r, hr, rfl⟩ := List.mem_map.mp hd
    exact (crow_good (h r hr)).2
/-- a change that stays -/
def insC (C dx r : Addr) (n : Nat) : HO := .ins C dx [("size", .int (n : Nat)), ("rows", .ref r)]
def Chg (K : PySem.W.Frag) (F : Hp) (x : V) (n : Nat) (rows : List CRow) : Prop := ∃ c dx r vs, x = .ref c ∧ F c = some (insC (He.ga K "Change") dx r n) ∧ F r = some (.lst vs) ∧ DpAll K F vs (rows.map CRow.d)
theorem Chg.same {K : PySem.W.Frag} {F F2 : Hp} {x : V} {n : Nat} {rows : List CRow} (s : Same F F2) (h : Chg K F x n rows) : Chg K F2 x n rows := by
  obtain ⟨c, dx, r, vs, e, h1, h2, h3⟩ := h
  exact ⟨c, dx, r, vs, e, s _ _ h1, s _ _ h2, dpa_same s _ _ h3⟩
def chg (K : PySem.W.Frag) (x : V) (n : Nat) (rows : List CRow) : Own := pur (fun F => Chg K F x n rows) fun s h => h.same s
/-! ### moves of a change -/
def movesGo : Nat → List CRow → List Mv
  | _, [] => []
  | to, .put s :: r => .put to s :: movesGo (to + s.length) r
  | to, .copy a n :: r => if a = to then movesGo (to + n) r else .copy to a n :: movesGo (to + n) r
theorem moves_snoc : ∀ (l : List CRow) (to : Nat) (r : CRow), movesGo to (l ++ [r]) = movesGo to l ++ movesGo (to + givesL l) [r]
  | [], to, r => rfl
  | .put s :: l, to, r => by
    show Mv.put to s :: movesGo (to + s.length) (l ++ [r]) = Mv.put to s :: movesGo (to + s.length) l ++ movesGo (to + (s.length + givesL l)) [r]
    rw [moves_snoc l, List.cons_append, Nat.add_assoc]
  | .copy a n :: l, to, r => by
    show (if a = to then movesGo (to + n) (l ++ [r]) else .copy to a n :: movesGo (to + n) (l ++ [r])) = (if a = to then movesGo (to + n) l else .copy to a n :: movesGo (to + n) l) ++ movesGo (to + (n + givesL l)) [r]
    rw [moves_snoc l, Nat.add_assoc]
    split <;> rfl
theorem moves_take {rows : List CRow} {i : Nat} {r : CRow} (h : rows[i]? = some r) : movesGo 0 (rows.take (i + 1)) = movesGo 0 (rows.take i) ++ movesGo (givesL (rows.take i)) [r] := by
  rw [List.take_add_one, h]
  show movesGo 0 (rows.take i ++ [r]) = _
  rw [moves_snoc, Nat.zero_add]
theorem gives_take {rows : List CRow} {i : Nat} {r : CRow} (h : rows[i]? = some r) : givesL (rows.take (i + 1)) = givesL (rows.take i) + r.gives := by
  unfold givesL
  rw [List.take_add_one, h, List.map_append, List.sum_append]
  rfl
theorem gives_le (rows : List CRow) (i : Nat) : givesL (rows.take i) ≤ givesL rows := by
  have := List.sum_append (l₁ := (rows.take i).map CRow.gives) (l₂ := (rows.drop i).map CRow.gives)
  rw [← List.map_append, List.take_append_drop] at this
  show ((rows.take i).map CRow.gives).sum ≤ (rows.map CRow.gives).sum
  omega
theorem moves_len : ∀ (rows : List CRow) (to : Nat), (movesGo to rows).length ≤ rows.length
  | [], _ => Nat.le_refl _
  | .put s :: r, to => Nat.succ_le_succ (moves_len r _)
  | .copy a n :: r, to => by
    show (if a = to then movesGo (to + n) r else .copy to a n :: movesGo (to + n) r).length ≤ r.length + 1
    have := moves_len r (to + n)
    split
    · omega
    · exact Nat.succ_le_succ this
/-- the moves lie in a room as great as the greater text, no cell is written twice -/
theorem moves_ok {size : Nat} : ∀ (rows : List CRow) (to : Nat), (∀ r ∈ rows, CRowOk size r) → (∀ m ∈ movesGo to rows, MvOk (max size (to + givesL rows)) m ∧ to ≤ m.to) ∧ Apart (movesGo to rows)
  | [], to, _ => ⟨by simp [movesGo], .nil⟩
  | .put s :: r, to, h => by
    have h1 := h _ (List.mem_cons_self ..)
    obtain ⟨i1, i2⟩ := moves_ok r (to + s.length) fun q hq => h q (List.mem_cons_of_mem _ hq)
    have e : to + givesL (.put s :: r) = to + s.length + givesL r := by show to + (s.length + givesL r) = _; omega
    have hs : 1 ≤ s.length := h1.p
    rw [e]
    refine ⟨fun m hm => ?_, ?_⟩
    · rcases List.mem_cons.mp hm with rfl | hm
      · exact ⟨⟨h1.s, h1.p, by show to + s.length ≤ _; omega, Nat.zero_le _⟩, Nat.le_refl _⟩
      · exact ⟨(i1 m hm).1, by have := (i1 m hm).2; omega⟩
    · exact List.pairwise_cons.mpr ⟨fun m hm => .inl (i1 m hm).2, i2⟩
  | .copy a n :: r, to, h => by
    have h1 := h _ (List.mem_cons_self ..)
    obtain ⟨i1, i2⟩ := moves_ok r (to + n) fun q hq => h q (List.mem_cons_of_mem _ hq)
    have e : to + givesL (.copy a n :: r) = to + n + givesL r := by show to + (n + givesL r) = _; omega
    have hs : 1 ≤ n := h1.p
    have hh : a + n ≤ size := h1.h
    rw [e]
    show (∀ m ∈ (if a = to then movesGo (to + n) r else .copy to a n :: movesGo (to + n) r), _) ∧ Apart (if a = to then movesGo (to + n) r else .copy to a n :: movesGo (to + n) r)
    split
    · exact ⟨fun m hm => ⟨(i1 m hm).1, by have := (i1 m hm).2; omega⟩, i2⟩
    · rename_i hne
      refine ⟨fun m hm => ?_, List.pairwise_cons.mpr ⟨fun m hm => .inl (i1 m hm).2, i2⟩⟩
      rcases List.mem_cons.mp hm with rfl | hm
      · exact ⟨⟨Ne.symm hne, h1.p, by show to + n ≤ _; omega, by show a + n ≤ _; omega⟩, Nat.le_refl _⟩
      · exact ⟨(i1 m hm).1, by have := (i1 m hm).2; omega⟩
/-! ### promises -/
def φgives (K : PySem.W.Frag) : V → V → Hp → VK → Prop := fun x y H Q => ∃ (F : Hp) (r : CRow) (n : Nat), y = .int (n : Nat) ∧ Same F H ∧ Dp K F x r.d ∧ CRowOk n r ∧ ∀ F2 H2, W [] F H F2 H2 [] → Q (.int (r.gives : Nat)) H2
def φinit (K : PySem.W.Frag) : V → V → V → Hp → VK → Prop := fun x y z H Q => ∃ (F : Hp) (c dx a : Addr) (vs : List V) (n : Nat) (rows : List CRow), x = .ref c ∧ y = .int (n : Nat) ∧ z = .ref a ∧ St F H [mu c (.ins (He.ga K "Change") dx [])] ∧ SqL K F a vs ∧ DpAll K F vs (rows.map CRow.d) ∧ n ≤ 400 ∧ RowsOk n rows ∧
  ∀ r F2 H2, H r = none → W [c] F H F2 H2 [mu c (insC (He.ga K "Change") dx r n), mu r (.lst vs)] → Q .non H2
def φmoves_of (K : PySem.W.Frag) : V → Hp → VK → Prop := fun x H Q => ∃ (F : Hp) (n : Nat) (rows : List CRow), Same F H ∧ Chg K F x n rows ∧ RowsOk n rows ∧
  ∀ p ys F2 H2, H p = none → W [] F H F2 H2 [mu p (.lst ys), dpa K ys ((movesGo 0 rows).map Mv.d)] → Q (.ref p) H2
def φlmoves_of (K : PySem.W.Frag) : V → Hp → VK → Prop := fun x H Q => ∃ (F : Hp) (a : Addr) (vs : List V) (n : Nat) (rows : List CRow), x = .ref a ∧ Same F H ∧ SqL K F a vs ∧ DpAll K F vs (rows.map CRow.d) ∧ RowsOk n rows ∧
  ∀ p ys F2 H2, H p = none → W [] F H F2 H2 [mu p (.lst ys), dpa K ys ((movesGo 0 rows).map Mv.d)] → Q (.ref p) H2
/-- the making of a change -/
theorem c_init {K : PySem.W.Frag} {M : List Addr} {F0 H0 F H : Hp} {L Rs : List Own} {Q : VK} {E : XK} {c dx a : Addr} {vs : List V} {n : Nat} {rows : List CRow} (w : W M F0 H0 F H L) (k : Pick L [mu c (.ins (He.ga K "Change") dx [])] Rs) (hc : H0 c = none) (hs : SqL K F a vs) (hd : DpAll K F vs (rows.map CRow.d)) (hn : n ≤ 400) (ok : RowsOk n rows)
    (q : ∀ F2 H2, W M F0 H0 F2 H2 (chg K (.ref c) n rows :: Rs) → Q (.ref c) H2) : S3 (φinit K) [.ref c, .int (n : Nat), .ref a] H (aftG Q c) E := by
  refine ⟨F, c, dx, a, vs, n, rows, rfl, rfl, rfl, w.st k, hs, hd, hn, ok, fun r F2 H2 hr w2 => ⟨rfl, ?_⟩⟩
  have hr' := w.g.fresh hr
  have hd2 := dpa_same w2.ff _ _ hd
  have w := w.cal k w2 (.cons (.cons .nil)) rfl
  have m1 := w.mu (p := c) (List.mem_cons_self ..)
  have w := w.fz (.cons .here .nil) hc
  have hd2 := dpa_same (Same.new (o := insC (He.ga K "Change") dx r n) m1.n) _ _ hd2
  have m2 := w.mu (p := r) (List.mem_cons_self ..)
  have w := w.fz (.cons .here .nil) hr'
  have hd2 := dpa_same (Same.new (o := .lst vs) m2.n) _ _ hd2
  refine q _ _ (w.push _ ⟨c, dx, r, vs, rfl, ?_, upd_same, hd2⟩)
  have hne : c ≠ r := fun e => by
    subst e
    have := m2.n
    rw [upd_same] at this
    cases this
  rw [upd_ne hne, upd_same]
theorem crows_snoc {n : Nat} {rows : List CRow} {r : CRow} (h : ∀ q ∈ rows, CRowOk n q) (hr : CRowOk n r) : ∀ q ∈ rows ++ [r], CRowOk n q := by
  intro q hq
  rcases List.mem_append.mp hq with hq | hq
  · exact h q hq
  · rw [List.mem_singleton.mp hq]
    exact hr
theorem gives_snoc (rows : List CRow) (r : CRow) : givesL (rows ++ [r]) = givesL rows + r.gives := by
  unfold givesL
  rw [List.map_append, List.sum_append]
  rfl
def φcrows (K : PySem.W.Frag) : V → V → V → V → V → Hp → VK → Prop := fun x1 x2 x3 x4 x5 H Q => ∃ (F : Hp) (b : Addr) (n : Nat) (most many wide : Int), x1 = .ref b ∧ x2 = .int (n : Nat) ∧ x3 = .int most ∧ x4 = .int many ∧ x5 = .int wide ∧ St F H [bag K b] ∧ n ≤ 400 ∧ 0 ≤ most ∧ most ≤ 400 ∧ 0 ≤ many ∧ many ≤ 1000 ∧ 1 ≤ wide ∧ wide ≤ 400 ∧
  ∀ p ys rows F2 H2, H p = none → W [b] F H F2 H2 [mu p (.lst ys), dpa K ys (rows.map CRow.d), bag K b] → RowsOk n rows → Q (.ref p) H2
def φmrows (K : PySem.W.Frag) : V → V → V → V → Hp → VK → Prop := fun x1 x2 x3 x4 H Q => ∃ (F : Hp) (b : Addr) (n : Nat) (many other : Int), x1 = .ref b ∧ x2 = .int (n : Nat) ∧ x3 = .int many ∧ x4 = .int other ∧ St F H [bag K b] ∧ n ≤ 400 ∧ 0 ≤ many ∧ many ≤ 1000 ∧ 1 ≤ other ∧ other ≤ 400 ∧
  ∀ p ys rows F2 H2, H p = none → W [b] F H F2 H2 [mu p (.lst ys), dpa K ys (rows.map CRow.d), bag K b] → RowsOk n rows → Q (.ref p) H2
def φchange_of (K : PySem.W.Frag) : V → Hp → VK → Prop := fun x H Q => ∃ (F : Hp) (b : Addr), x = .ref b ∧ St F H [bag K b] ∧
  ∀ t p ys rows (n : Nat) F2 H2, H p = none → W [b] F H F2 H2 [fx t (.tup [.int (n : Nat), .ref p]), mu p (.lst ys), dpa K ys (rows.map CRow.d), bag K b] → n ≤ 400 → RowsOk n rows → Q (.ref t) H2
/-! ### the makers of k01 .. k16 -/
theorem cut_last (xs : List V) : cutV xs (some (-1)) none = xs.drop (xs.length - 1) := by
  unfold cutV
  rw [HT.sIx_none]
  have e : HT.sIx xs.length 0 (some (-1)) = xs.length - 1 := by
    unfold HT.sIx
    simp
    omega
  rw [e]
  exact List.take_of_length_le (by rw [List.length_drop]; exact Nat.le_refl _)
theorem cut_last_snoc (xs : List V) (v : V) : cutV (xs ++ [v]) (some (-1)) none = [v] := by
  rw [cut_last, List.length_append]
  show (xs ++ [v]).drop (xs.length + 1 - 1) = [v]
  rw [Nat.add_sub_cancel, List.drop_left]
def sig93 : Str := "!\"#$&'()*+,-./0123456789:;<=>?@ABCDEFGHIJKLMNOPQRSTUVWXYZ" ++ "[\\]^_`abcdefghijklmnopqrstuvwxyz{|}~"
theorem sig_len : sig93.length = 93 := by decide +kernel
theorem sig_ok : okS sig93 := by decide +kernel
def φsigns : Hp → VK → Prop := fun H Q => Q (.str sig93) H
def φwhole' : V → Hp → VK → Prop := fun x H Q => ∃ i, x = .int i ∧ Q (.bl true) H
/-- the last row at the end of a list, or none -/
def φrow1 (K : PySem.W.Frag) : V → V → V → V → Hp → VK → Prop := fun x1 x2 x3 x4 H Q => ∃ (F : Hp) (b l : Addr) (n : Nat) (left : Int) (zs : List V), x1 = .ref b ∧ x2 = .int (n : Nat) ∧ x3 = .int left ∧ x4 = .ref l ∧ St F H [bag K b] ∧ SqL K F l zs ∧ (zs = [] ∨ ∃ v r, zs = [v] ∧ Dp K F v (CRow.d r) ∧ CRowOk n r) ∧ n ≤ 400 ∧ 1 ≤ left ∧ left ≤ 400 ∧
  ∀ v r F2 H2, W [b] F H F2 H2 [dat K v (CRow.d r), bag K b] → CRowOk n r → (r.gives : Int) ≤ left → Q v H2
def φrows1 (K : PySem.W.Frag) : V → V → V → V → Hp → VK → Prop := fun x1 x2 x3 x4 H Q => ∃ (F : Hp) (b : Addr) (n : Nat) (many most : Int), x1 = .ref b ∧ x2 = .int (n : Nat) ∧ x3 = .int many ∧ x4 = .int most ∧ St F H [bag K b] ∧ n ≤ 400 ∧ 0 ≤ many ∧ many ≤ 1000 ∧ 0 ≤ most ∧ most ≤ 400 ∧
  ∀ p ys rows F2 H2, H p = none → W [b] F H F2 H2 [mu p (.lst ys), dpa K ys (rows.map CRow.d), bag K b] → RowsOk n rows → (givesL rows : Int) ≤ most → Q (.ref p) H2
def φsize1 (K : PySem.W.Frag) : V → Hp → VK → Prop := fun x H Q => ∃ (F : Hp) (b : Addr), x = .ref b ∧ St F H [bag K b] ∧ ∀ (n : Nat) F2 H2, W [b] F H F2 H2 [bag K b] → n ≤ 400 → Q (.int (n : Nat)) H2
/-- len(change) -/
def φclen (K : PySem.W.Frag) : V → Hp → VK → Prop := fun x H Q => ∃ (F : Hp) (n : Nat) (rows : List CRow), Same F H ∧ Chg K F x n rows ∧ rows.length ≤ 100000 ∧ ∀ F2 H2, W [] F H F2 H2 [] → Q (.int (rows.length : Nat)) H2
def CRow.puts : CRow → Nat
  | .put s => s.length
  | .copy _ _ => 0
def costL (p : Int) (rows : List CRow) : Int := p * (rows.length : Nat) + ((rows.map CRow.puts).sum : Nat)
def φcost (K : PySem.W.Frag) : V → V → Hp → VK → Prop := fun x y H Q => ∃ (F : Hp) (n : Nat) (p : Int) (rows : List CRow), y = .int p ∧ Same F H ∧ Chg K F x n rows ∧ RowsOk n rows ∧ 0 ≤ p ∧ p ≤ 1000 ∧ ∀ F2 H2, W [] F H F2 H2 [] → Q (.int (costL p rows)) H2
def φlcost (K : PySem.W.Frag) : V → V → Hp → VK → Prop := fun x y H Q => ∃ (F : Hp) (a : Addr) (vs : List V) (n : Nat) (p : Int) (rows : List CRow), x = .ref a ∧ y = .int p ∧ Same F H ∧ SqL K F a vs ∧ DpAll K F vs (rows.map CRow.d) ∧ RowsOk n rows ∧ 0 ≤ p ∧ p ≤ 1000 ∧ ∀ F2 H2, W [] F H F2 H2 [] → Q (.int (costL p rows)) H2
def φsame (K : PySem.W.Frag) : V → V → V → Hp → VK → Prop := fun x y z H Q => ∃ (F : Hp) (a : Addr) (vs : List V) (n : Nat) (rows : List CRow), y = .int (n : Nat) ∧ z = .ref a ∧ Same F H ∧ SqL K F a vs ∧ DpAll K F vs (rows.map CRow.d) ∧ Chg K F x n rows ∧ RowsOk n rows ∧ ∀ F2 H2, W [] F H F2 H2 [] → Q (.bl true) H2
theorem costL_take {p : Int} {rows : List CRow} {i : Nat} {r : CRow} (h : rows[i]? = some r) : costL p (rows.take (i + 1)) = costL p (rows.take i) + p + (r.puts : Nat) := by
  have hi := (List.getElem?_eq_some_iff.mp h).1
  unfold costL
  rw [List.length_take, List.length_take, Nat.min_eq_left (by omega), Nat.min_eq_left (by omega)]
  have e1 : ((rows.take (i + 1)).map CRow.puts).sum = ((rows.take i).map CRow.puts).sum + r.puts := by
    rw [List.take_add_one, h, List.map_append, List.sum_append]
    rfl
  rw [e1]
  have e : p * ((i + 1 : Nat) : Int) = p * (i : Nat) + p := by rw [Int.natCast_add, Int.mul_add]; simp
  rw [e]
  omega
theorem n_signs {H : Hp} {Q : VK} {E : XK} (q : Q (.str sig93) H) : S0 φsigns ([] ++ []) H Q E := q
end R

namespace R
open PySem PySem.StrLaws Builtin.Str L2
/-! ### stretches of a text, by its signs -/
def segL (N : List Nat) (i j : Nat) : List Nat := (N.drop i).take (j - i)
def inB (O x : List Nat) : Bool := (List.range (O.length + 1)).any fun a => decide (a + x.length ≤ O.length ∧ (O.drop a).take x.length = x)
theorem inB_iff {O x : List Nat} : inB O x = true ↔ ∃ a, a + x.length ≤ O.length ∧ (O.drop a).take x.length = x := by
  unfold inB
  rw [List.any_eq_true]
  constructor
  · rintro ⟨a, _, h⟩
    exact ⟨a, of_decide_eq_true h⟩
  · rintro ⟨a, h1, h2⟩
    exact ⟨a, List.mem_range.mpr (by omega), decide_eq_true ⟨h1, h2⟩⟩
theorem inB_take {O x : List Nat} (n : Nat) (h : inB O x = true) : inB O (x.take n) = true := by
  obtain ⟨a, h1, h2⟩ := inB_iff.mp h
  refine inB_iff.mpr ⟨a, by rw [List.length_take]; omega, ?_⟩
  conv => rhs; rw [← h2]
  rw [List.take_take, List.length_take]
theorem inB_drop {O x : List Nat} (n : Nat) (h : inB O x = true) : inB O (x.drop n) = true := by
  obtain ⟨a, h1, h2⟩ := inB_iff.mp h
  by_cases hn : n ≤ x.length
  · refine inB_iff.mpr ⟨a + n, by rw [List.length_drop]; omega, ?_⟩
    rw [List.length_drop]
    conv => rhs; rw [← h2]
    rw [List.drop_take, List.drop_drop]
  · rw [List.drop_eq_nil_of_le (by omega)]
    exact inB_iff.mpr ⟨0, by simp, rfl⟩
theorem seg_len {N : List Nat} {i j : Nat} (h : j ≤ N.length) : (segL N i j).length = j - i := by
  unfold segL
  rw [List.length_take, List.length_drop]
  omega
theorem in_less {O N : List Nat} {i j : Nat} (h : inB O (segL N i (j + 1)) = true) : inB O (segL N i j) = true := by
  have e : segL N i j = (segL N i (j + 1)).take (j - i) := by
    unfold segL
    rw [List.take_take]
    congr 1
    omega
  rw [e]
  exact inB_take _ h
theorem in_later {O N : List Nat} {i k j : Nat} (hk : i ≤ k) (h : inB O (segL N i j) = true) : inB O (segL N k j) = true := by
  have e : segL N k j = (segL N i j).drop (k - i) := by
    unfold segL
    rw [List.drop_take, List.drop_drop]
    congr 1
    · omega
    · congr 1
      omega
  rw [e]
  exact inB_drop _ h
/-! ### the least cost of each beginning -/
def minTo (f : Nat → Nat) : Nat → Nat
  | 0 => f 0
  | k + 1 => min (minTo f k) (f (k + 1))
theorem minTo_le {f : Nat → Nat} : ∀ {k i : Nat}, i ≤ k → minTo f k ≤ f i
  | 0, i, h => by
    have : i = 0 := by omega
    subst this
    exact Nat.le_refl _
  | k + 1, i, h => by
    rw [minTo]
    by_cases e : i = k + 1
    · subst e
      exact Nat.min_le_right _ _
    · exact Nat.le_trans (Nat.min_le_left _ _) (minTo_le (by omega))
theorem minTo_at {f : Nat → Nat} : ∀ k : Nat, ∃ i, i ≤ k ∧ minTo f k = f i
  | 0 => ⟨0, Nat.le_refl _, rfl⟩
  | k + 1 => by
    obtain ⟨i, hi, e⟩ := minTo_at (f := f) k
    rw [minTo]
    by_cases h : minTo f k ≤ f (k + 1)
    · exact ⟨i, by omega, by rw [Nat.min_eq_left h, e]⟩
    · exact ⟨k + 1, Nat.le_refl _, Nat.min_eq_right (by omega)⟩
theorem minTo_congr {f g : Nat → Nat} : ∀ {k : Nat}, (∀ i, i ≤ k → f i = g i) → minTo f k = minTo g k
  | 0, h => h 0 (Nat.le_refl _)
  | k + 1, h => by rw [minTo, minTo, minTo_congr fun i hi => h i (by omega), h (k + 1) (Nat.le_refl _)]
section
variable (p : Nat) (O N : List Nat)
def stepC (i j : Nat) : Nat := if inB O (segL N i j) = true then 0 else j - i
/-- the least costs of the beginnings up to j -/
def leastL : Nat → List Nat
  | 0 => [0]
  | j + 1 => leastL j ++ [minTo (fun i => (leastL j).getD i 0 + p + stepC O N i (j + 1)) j]
def lea (j : Nat) : Nat := (leastL p O N j).getD j 0
theorem least_len : ∀ j, (leastL p O N j).length = j + 1
  | 0 => rfl
  | j + 1 => by rw [leastL, List.length_append, least_len j]; rfl
theorem least_get : ∀ {j i : Nat}, i ≤ j → (leastL p O N j)[i]? = some (lea p O N i)
  | 0, i, h => by
    have : i = 0 := by omega
    subst this
    rfl
  | j + 1, i, h => by
    by_cases e : i = j + 1
    · subst e
      unfold lea
      rw [List.getD_eq_getElem?_getD]
      have hl := least_len p O N (j + 1)
      rw [List.getElem?_eq_getElem (by omega)]
      rfl
    · rw [leastL, List.getElem?_append_left (by rw [least_len]; omega)]
      exact least_get (by omega)
theorem lea_succ (j : Nat) : lea p O N (j + 1) = minTo (fun i => lea p O N i + p + stepC O N i (j + 1)) j := by
  have e : lea p O N (j + 1) = minTo (fun i => (leastL p O N j).getD i 0 + p + stepC O N i (j + 1)) j := by
    unfold lea
    rw [leastL, List.getD_eq_getElem?_getD, List.getElem?_append_right (by rw [least_len]; omega), least_len]
    simp
  rw [e]
  refine minTo_congr fun i hi => ?_
  rw [List.getD_eq_getElem?_getD, least_get p O N hi]
  rfl
theorem lea_le {i j : Nat} (h : i ≤ j) : lea p O N (j + 1) ≤ lea p O N i + p + stepC O N i (j + 1) := by
  rw [lea_succ]
  exact minTo_le (f := fun i => lea p O N i + p + stepC O N i (j + 1)) h
theorem lea_at (j : Nat) : ∃ i, i ≤ j ∧ lea p O N (j + 1) = lea p O N i + p + stepC O N i (j + 1) := by
  rw [lea_succ]
  exact minTo_at (f := fun i => lea p O N i + p + stepC O N i (j + 1)) j
theorem lea_mono1 (j : Nat) : lea p O N j ≤ lea p O N (j + 1) := by
  obtain ⟨i, hi, e⟩ := lea_at p O N j
  rw [e]
  by_cases hij : i = j
  · subst hij
    omega
  · obtain ⟨k, rfl⟩ : ∃ k, j = k + 1 := ⟨j - 1, by omega⟩
    have h1 := lea_le p O N (i := i) (j := k) (by omega)
    have h2 : stepC O N i (k + 1) ≤ stepC O N i (k + 1 + 1) := by
      unfold stepC
      by_cases h : inB O (segL N i (k + 1 + 1)) = true
      · rw [if_pos h, if_pos (in_less h)]
        exact Nat.le_refl _
      · rw [if_neg h]
        split <;> omega
    omega
theorem lea_mono {i j : Nat} (h : i ≤ j) : lea p O N i ≤ lea p O N j := by
  obtain ⟨d, rfl⟩ := Nat.le.dest h
  clear h
  induction d with
  | zero => exact Nat.le_refl _
  | succ d ih => exact Nat.le_trans ih (lea_mono1 p O N (i + d))
/-- what the table's row tells of the beginning of j signs -/
def TabOk (j : Nat) (t : Int) : Prop := j = 0 ∨ (∃ i : Nat, t = (i : Int) ∧ i < j ∧ inB O (segL N i j) = true ∧ lea p O N j = lea p O N i + p) ∨ ∃ i : Nat, t = -1 - (i : Int) ∧ i < j ∧ lea p O N j = lea p O N i + p + (j - i)
/-- the least put behind j signs -/
structure PutOk (j pc pf : Nat) : Prop where
  lt : pf < j
  at_ : pc = lea p O N pf + p + (j - pf)
  le : ∀ i, i < j → pc ≤ lea p O N i + p + (j - i)
theorem put_new {j pc pf : Nat} (h : PutOk p O N j pc pf) (hc : lea p O N j + p < pc) : PutOk p O N (j + 1) (lea p O N j + p + 1) j := by
  refine ⟨Nat.lt_succ_self j, by omega, fun i hi => ?_⟩
  by_cases e : i = j
  · subst e
    omega
  · have := h.le i (by omega)
    omega
theorem put_first : PutOk p O N 1 (lea p O N 0 + p + 1) 0 := by
  refine ⟨by omega, by omega, fun i hi => ?_⟩
  have : i = 0 := by omega
  subst this
  omega
theorem put_old {j pc pf : Nat} (h : PutOk p O N j pc pf) (hc : ¬ lea p O N j + p < pc) : PutOk p O N (j + 1) (pc + 1) pf := by
  refine ⟨by have := h.lt; omega, by have := h.at_; have := h.lt; omega, fun i hi => ?_⟩
  by_cases e : i = j
  · subst e
    omega
  · have := h.le i (by omega)
    omega
theorem tab_copy {j pc pf cf : Nat} (h : PutOk p O N (j + 1) pc pf) (h1 : cf < j + 1) (h2 : ∀ i, i < cf → inB O (segL N i (j + 1)) = false) (h3 : inB O (segL N cf (j + 1)) = true) (hc : lea p O N cf + p ≤ pc) : lea p O N (j + 1) = lea p O N cf + p := by
  have a := lea_le p O N (i := cf) (j := j) (by omega)
  have e : stepC O N cf (j + 1) = 0 := by unfold stepC; rw [if_pos h3]
  obtain ⟨i, hi, b⟩ := lea_at p O N j
  have c : lea p O N cf + p ≤ lea p O N i + p + stepC O N i (j + 1) := by
    by_cases hl : i < cf
    · have z := h.le i (by omega)
      have e2 : stepC O N i (j + 1) = j + 1 - i := by unfold stepC; rw [if_neg (by rw [h2 i hl]; decide)]
      omega
    · have := lea_mono p O N (i := cf) (j := i) (by omega)
      omega
  omega
theorem tab_put {j pc pf cf : Nat} (h : PutOk p O N (j + 1) pc pf) (h2 : ∀ i, i < cf → inB O (segL N i (j + 1)) = false) (hc : ¬ (cf < j + 1 ∧ lea p O N cf + p ≤ pc)) : lea p O N (j + 1) = pc := by
  obtain ⟨i, hi, b⟩ := lea_at p O N j
  have a := lea_le p O N (i := pf) (j := j) (by have := h.lt; omega)
  have e : stepC O N pf (j + 1) ≤ j + 1 - pf := by unfold stepC; split <;> omega
  have e0 := h.at_
  have c : pc ≤ lea p O N i + p + stepC O N i (j + 1) := by
    by_cases hl : i < cf
    · have z := h.le i (by omega)
      have e2 : stepC O N i (j + 1) = j + 1 - i := by unfold stepC; rw [if_neg (by rw [h2 i hl]; decide)]
      omega
    · have := lea_mono p O N (i := cf) (j := i) (by omega)
      have : ¬ lea p O N cf + p ≤ pc := fun z => hc ⟨by omega, z⟩
      omega
  omega
theorem lea_bound : ∀ j, lea p O N j ≤ j * (p + 1)
  | 0 => by show (0 : Nat) ≤ _; omega
  | j + 1 => by
    have h := lea_le p O N (i := j) (j := j) (Nat.le_refl _)
    have e : stepC O N j (j + 1) ≤ 1 := by unfold stepC; split <;> omega
    have ih := lea_bound j
    rw [Nat.succ_mul]
    omega
/-- any rows that make the new text cost at least so much -/
def CRow.mk (O : List Nat) : CRow → List Nat
  | .put s => s.cps.toList
  | .copy a n => (O.drop a).take n
def CRow.cst (p : Nat) (r : CRow) : Nat := p + r.puts
theorem least_any {n : Nat} (hO : O.length = n) : ∀ (rows : List CRow), (∀ r ∈ rows, CRowOk n r) → ∀ j, j ≤ N.length → rows.flatMap (CRow.mk O) = N.take j → lea p O N j ≤ (rows.map (CRow.cst p)).sum := by
  have key : ∀ (k : Nat) (rows : List CRow), rows.length = k → (∀ r ∈ rows, CRowOk n r) → ∀ j, j ≤ N.length → rows.flatMap (CRow.mk O) = N.take j → lea p O N j ≤ (rows.map (CRow.cst p)).sum := by
   intro k
   induction k with
   | zero =>
    intro rows hz _ j hj h
    rw [List.eq_nil_of_length_eq_zero hz] at h ⊢
    have : j = 0 := by
      have e := congrArg List.length h
      rw [List.length_take] at e
      simp at e
      omega
    subst this
    exact Nat.zero_le _
   | succ k ih =>
    intro rows' hz hok j hj h
    rcases List.eq_nil_or_concat rows' with rfl | ⟨rows, r, rfl⟩
    · cases hz
    rw [List.concat_eq_append] at hz hok h ⊢
    rw [List.length_append] at hz
    have ro := hok r (List.mem_append_right _ (List.mem_singleton.mpr rfl))
    have hl : (CRow.mk O r).length = r.gives := by
      cases r with
      | put s => simp [CRow.mk, CRow.gives, Str.length]
      | copy a k =>
        have := ro.h
        show ((O.drop a).take k).length = k
        rw [List.length_take, List.length_drop]
        have h2 : a + k ≤ n := this
        omega
    rw [List.flatMap_append, List.flatMap_cons, List.flatMap_nil, List.append_nil] at h
    have hlen := congrArg List.length h
    rw [List.length_append, hl, List.length_take, Nat.min_eq_left hj] at hlen
    have hp := ro.p
    obtain ⟨i, hi⟩ : ∃ i, i = (rows.flatMap (CRow.mk O)).length := ⟨_, rfl⟩
    rw [← hi] at hlen
    have h1 : rows.flatMap (CRow.mk O) = N.take i := by
      have e := congrArg (List.take i) h
      rw [hi, List.take_left, ← hi, List.take_take, Nat.min_eq_left (by omega)] at e
      exact e
    have h2 : CRow.mk O r = segL N i j := by
      have e := congrArg (List.drop i) h
      rw [hi, List.drop_left, ← hi, List.drop_take] at e
      exact e
    have ih' := ih rows (by simpa using hz) (fun q hq => hok q (List.mem_append_left _ hq)) i (by omega) h1
    obtain ⟨k, rfl⟩ : ∃ k, j = k + 1 := ⟨j - 1, by omega⟩
    have hle := lea_le p O N (i := i) (j := k) (by omega)
    rw [List.map_append, List.sum_append]
    show _ ≤ _ + ((p + r.puts) + 0)
    have hs : stepC O N i (k + 1) ≤ r.puts := by
      unfold stepC
      cases r with
      | put s =>
        have e : s.length = k + 1 - i := by
          have : (CRow.put s).gives = s.length := rfl
          omega
        show (if _ then 0 else _) ≤ s.length
        split <;> omega
      | copy a m =>
        rw [if_pos]
        · exact Nat.zero_le _
        · rw [← h2]
          have hh : a + m ≤ n := ro.h
          refine inB_iff.mpr ⟨a, ?_, ?_⟩
          · show a + ((O.drop a).take m).length ≤ O.length
            rw [List.length_take, List.length_drop]
            omega
          · show (O.drop a).take ((O.drop a).take m).length = (O.drop a).take m
            rw [List.length_take, List.length_drop]
            congr 1
            omega
    omega
  exact fun rows => key rows.length rows rfl
end
theorem cost_sum (p : Nat) (rows : List CRow) : costL (p : Int) rows = (((rows.map (CRow.cst p)).sum : Nat) : Int) := by
  unfold costL
  have key : ∀ rows : List CRow, (rows.map (CRow.cst p)).sum = p * rows.length + (rows.map CRow.puts).sum := by
    intro rows
    induction rows with
    | nil => rfl
    | cons r rows ih =>
      rw [List.map_cons, List.sum_cons, ih, List.length_cons, List.map_cons, List.sum_cons, Nat.mul_succ]
      unfold CRow.cst
      omega
  rw [key]
  simp
/-! ### texts by their signs -/
abbrev cd (z : Str) : List Nat := z.cps.toList
theorem cd_len (z : Str) : (cd z).length = z.length := by simp [Str.length]
theorem cd_inj {a b : Str} (h : cd a = cd b) : a = b := by
  obtain ⟨x⟩ := a
  obtain ⟨y⟩ := b
  have e : x = y := Array.toList_inj.mp h
  rw [e]
theorem cut_cd (z : Str) (i j : Nat) : cd (cutS z (some (i : Int)) (some (j : Int))) = segL (cd z) i j := by
  unfold cutS segL
  rw [HT.sIx_nat, HT.sIx_nat]
  show ((z.cps.toList.drop _).take _).toArray.toList = _
  rw [List.toList_toArray]
  have hl : z.cps.toList.length = z.length := cd_len z
  have hl2 := cd_len z
  by_cases h : i ≤ z.length
  · rw [Nat.min_eq_left h]
    by_cases h2 : j ≤ z.length
    · rw [Nat.min_eq_left h2]
    · rw [Nat.min_eq_right (by omega), List.take_of_length_le (by rw [List.length_drop]; omega), List.take_of_length_le (by rw [List.length_drop]; omega)]
  · rw [Nat.min_eq_right (show z.length ≤ i by omega), List.drop_eq_nil_of_le (by omega), List.drop_eq_nil_of_le (by omega), List.take_nil, List.take_nil]
theorem subAt_cd {x y : Str} {i : Nat} : subAt x y i = true ↔ ((cd x).drop i).take y.length = cd y := by
  unfold subAt
  rw [beq_iff_eq, ← Array.toList_inj, Array.toList_extract]
  show (x.cps.toList.drop i).take (i + y.length - i) = _ ↔ _
  rw [Nat.add_sub_cancel_left]
theorem found_inB (x y : Str) : (!(occurrences x y 0 x.length 1).isEmpty) = inB (cd x) (cd y) := by
  rw [Bool.eq_iff_iff, found_iff, inB_iff]
  constructor
  · rintro ⟨i, h1, h2⟩
    exact ⟨i, by rw [cd_len, cd_len]; exact h1, by rw [cd_len]; exact subAt_cd.mp h2⟩
  · rintro ⟨i, h1, h2⟩
    rw [cd_len] at h1 h2
    rw [cd_len] at h1
    exact ⟨i, h1, subAt_cd.mpr h2⟩
theorem find_cd {x y : Str} (h : inB (cd x) (cd y) = true) : ∃ a : Nat, Txt.find x y = (a : Int) ∧ a + y.length ≤ x.length ∧ ((cd x).drop a).take y.length = cd y := by
  rcases occ_head x y 1 (Nat.le_refl _) with ⟨h0, _⟩ | ⟨i, r, h0, ⟨h1, h2⟩, _⟩
  · rw [← found_inB, h0] at h
    cases h
  · refine ⟨i, ?_, h1, subAt_cd.mp h2⟩
    unfold Txt.find
    rw [h0]
def notinG : R2 := fun x y H Q => ∃ a b, x = .str a ∧ y = .str b ∧ Q (.bl (!inB (cd b) (cd a))) H
def inG : R2 := fun x y H Q => ∃ a b, x = .str a ∧ y = .str b ∧ Q (.bl (inB (cd b) (cd a))) H
section
variable {X : Cx} {H : Hp} {Q : VK} {a b : Str}
theorem opNotInS : OpR X (compareOp .NotIn) notinG := by
  intro pins s σ H x y v u Q I rx ry h
  obtain ⟨a, b, h1, h2, q⟩ := h
  exact op_notin_str pins s σ H x y v u Q I rx ry ⟨a, b, h1, h2, by rw [found_inB]; exact q⟩
theorem opInS : OpR X (compareOp .In) inG := by
  intro pins s σ H x y v u Q I rx ry h
  obtain ⟨a, b, h1, h2, q⟩ := h
  exact op_in_str pins s σ H x y v u Q I rx ry ⟨a, b, h1, h2, by rw [found_inB]; exact q⟩
theorem n_notin (q : Q (.bl (!inB (cd b) (cd a))) H) : notinG (.str a) (.str b) H Q := ⟨a, b, rfl, rfl, q⟩
theorem n_in (q : Q (.bl (inB (cd b) (cd a))) H) : inG (.str a) (.str b) H Q := ⟨a, b, rfl, rfl, q⟩
def findG : V → List V → Hp → VK → Prop := fun x xs H Q => ∃ a b, x = .str a ∧ xs = [.str b] ∧ Q (.int (Txt.find a b)) H
theorem mtFind : MtR X "str.find" findG := mt_find
theorem n_find (q : Q (.int (Txt.find a b)) H) : findG (.str a) [.str b] H Q := ⟨a, b, rfl, rfl, q⟩
end
/-! ### the table -/
def prD (c : Nat × Int) : PyData := .tuple [.int (c.1 : Nat), .int c.2]
theorem dp_pr {K : PySem.W.Frag} {F : Hp} {x : V} {p : Nat × Int} (h : Dp K F x (prD p)) : ∃ a, x = .ref a ∧ SqT K F a [.int (p.1 : Nat), .int p.2] := by
  obtain ⟨a, vs, rfl, hs, h0⟩ := dp_tup h
  obtain ⟨v1, us, rfl, h1, h0⟩ := dpa_cons h0
  obtain ⟨v2, us, rfl, h2, h0⟩ := dpa_cons h0
  cases dpa_nil h0
  rw [dp_int h1, dp_int h2] at hs
  exact ⟨a, rfl, hs⟩
def TabAll (p : Nat) (O N : List Nat) (ps : List (Nat × Int)) : Prop := ∀ k c t, ps[k]? = some (c, t) → c = lea p O N k ∧ TabOk p O N k t
def φtable (K : PySem.W.Frag) : V → V → V → Hp → VK → Prop := fun x y z H Q => ∃ (F : Hp) (o nw : Str) (p : Nat), x = .str o ∧ y = .str nw ∧ z = .int (p : Nat) ∧ Same F H ∧ o.length ≤ 1000 ∧ nw.length ≤ 1000 ∧ p ≤ 1000 ∧
  ∀ a ys ps F2 H2, H a = none → W [] F H F2 H2 [mu a (.lst ys), dpa K ys (ps.map prD)] → ps.length = nw.length + 1 → TabAll p (cd o) (cd nw) ps → Q (.ref a) H2
/-- rows that make the new text at the least cost -/
structure Made (p : Nat) (o nw : Str) (rows : List CRow) : Prop where
  ok : RowsOk o.length rows
  mkN : rows.flatMap (CRow.mk (cd o)) = cd nw
  cst : (rows.map (CRow.cst p)).sum = lea p (cd o) (cd nw) nw.length
def φfound (K : PySem.W.Frag) : V → V → V → Hp → VK → Prop := fun x y z H Q => ∃ (F : Hp) (o nw : Str) (p : Nat), x = .str o ∧ y = .str nw ∧ z = .int (p : Nat) ∧ Same F H ∧ o.length ≤ 400 ∧ nw.length ≤ 400 ∧ okS o ∧ okS nw ∧ p ≤ 1000 ∧
  ∀ v rows F2 H2, W [] F H F2 H2 [chg K v o.length rows] → Made p o nw rows → Q v H2
theorem ok_codes {z : Str} : okS z ↔ ∀ c ∈ cd z, c < 0x110000 := by
  show (z.cps.all (· < 0x110000)) = true ↔ _
  rw [← Array.all_toList, List.all_eq_true]
  exact ⟨fun h c hc => of_decide_eq_true (h c hc), fun h c hc => decide_eq_true (h c hc)⟩
theorem ok_cut {z : Str} (h : okS z) (i j : Nat) : okS (cutS z (some (i : Int)) (some (j : Int))) := by
  rw [ok_codes, cut_cd]
  intro c hc
  exact ok_codes.mp h c (List.mem_of_mem_drop (List.mem_of_mem_take hc))
theorem seg_drop {N : List Nat} {i j : Nat} (h : i ≤ j) : segL N i j ++ N.drop j = N.drop i := by
  unfold segL
  have e : N.drop j = (N.drop i).drop (j - i) := by
    rw [List.drop_drop]
    congr 1
    omega
  rw [e, List.take_append_drop]
theorem dpa_rev {K : PySem.W.Frag} {F : Hp} : ∀ {vs : List V} {ds : List PyData}, DpAll K F vs ds → DpAll K F vs.reverse ds.reverse
  | _, _, .nil => .nil
  | _, _, .cons h t => by
    rw [List.reverse_cons, List.reverse_cons]
    exact dpa_app (dpa_rev t) (.cons h .nil)
theorem mk_len {O : List Nat} {n : Nat} (hO : O.length = n) {r : CRow} (ro : CRowOk n r) : (CRow.mk O r).length = r.gives := by
  cases r with
  | put s => simp [CRow.mk, CRow.gives, Str.length]
  | copy a k =>
    have h2 : a + k ≤ n := ro.h
    show ((O.drop a).take k).length = k
    rw [List.length_take, List.length_drop]
    omega
theorem mks_len {O : List Nat} {n : Nat} (hO : O.length = n) : ∀ {rows : List CRow}, (∀ r ∈ rows, CRowOk n r) → (rows.flatMap (CRow.mk O)).length = givesL rows
  | [], _ => rfl
  | r :: rows, h => by
    rw [List.flatMap_cons, List.length_append, mk_len hO (h r (List.mem_cons_self ..)), mks_len hO fun q hq => h q (List.mem_cons_of_mem _ hq)]
    rfl
/-! ### cells -/
def CRow.cellV : CRow → List V
  | .put s => chars s
  | .copy a n => (List.range n).map fun k => V.int ((a + k : Nat) : Int)
abbrev cellsV (rows : List CRow) : List V := rows.flatMap CRow.cellV
theorem cellV_len (r : CRow) : r.cellV.length = r.gives := by
  cases r with
  | put s => exact chars_len s
  | copy a n => simp [CRow.cellV, CRow.gives]
theorem cells_len : ∀ rows : List CRow, (cellsV rows).length = givesL rows
  | [] => rfl
  | r :: rows => by
    show (r.cellV ++ cellsV rows).length = r.gives + givesL rows
    rw [List.length_append, cellV_len, cells_len rows]
/-- a cell of a change of this size: a place or a sign -/
def CellOk (n : Nat) (v : V) : Prop := (∃ i : Nat, v = .int (i : Nat) ∧ i < n) ∨ ∃ c : Nat, v = .str ⟨#[c]⟩ ∧ c < 0x110000
theorem chars_get' {z : Str} {v : V} (h : v ∈ chars z) : ∃ c ∈ cd z, v = .str ⟨#[c]⟩ := by
  unfold chars at h
  obtain ⟨c, hc, rfl⟩ := List.mem_map.mp h
  exact ⟨c, hc, rfl⟩
theorem cells_ok {n : Nat} {rows : List CRow} (h : ∀ r ∈ rows, CRowOk n r) : ∀ v ∈ cellsV rows, CellOk n v := by
  intro v hv
  obtain ⟨r, hr, hv⟩ := List.mem_flatMap.mp hv
  have ro := h r hr
  cases r with
  | put s =>
    obtain ⟨c, hc, rfl⟩ := chars_get' hv
    exact .inr ⟨c, rfl, ok_codes.mp ro.s.1 c hc⟩
  | copy a k =>
    obtain ⟨j, hj, rfl⟩ := List.mem_map.mp hv
    have := List.mem_range.mp hj
    have hh : a + k ≤ n := ro.h
    exact .inl ⟨a + j, rfl, by omega⟩
theorem CellOk.flat {n : Nat} {v : V} (h : CellOk n v) : FlatV v := by
  rcases h with ⟨i, rfl, _⟩ | ⟨c, rfl, hc⟩
  · exact .inr (.inl ⟨_, rfl⟩)
  · refine .inr (.inr ⟨_, rfl, ok_codes.mpr fun d hd => ?_, by show 1 ≤ 100; decide⟩)
    have : d = c := by simpa using hd
    rw [this]
    exact hc
/-- the sign that a cell gives of an old text -/
def outS (o : Str) : V → Str
  | .int i => ⟨#[(cd o).getD i.toNat 0]⟩
  | .str z => z
  | _ => ⟨#[]⟩
theorem outs_chars (o : Str) (l : List Nat) : ((l.map fun c => V.str ⟨#[c]⟩).map (outS o)).flatMap cd = l := by
  induction l with
  | nil => rfl
  | cons c l ih =>
    rw [List.map_cons, List.map_cons, List.flatMap_cons, ih]
    rfl
theorem outs_range (o : Str) (a : Nat) : ∀ n, a + n ≤ (cd o).length → (((List.range n).map fun k => V.int ((a + k : Nat) : Int)).map (outS o)).flatMap cd = ((cd o).drop a).take n
  | 0, _ => by simp
  | n + 1, h => by
    rw [List.range_succ, List.map_append, List.map_append, List.flatMap_append, outs_range o a n (by omega)]
    have e : ((cd o).drop a)[n]? = some ((cd o).getD (a + n) 0) := by
      rw [List.getElem?_drop, List.getD_eq_getElem?_getD, List.getElem?_eq_getElem (by omega)]
      rfl
    rw [List.take_add_one, e]
    rfl
theorem outs_rows (o : Str) {rows : List CRow} (h : ∀ r ∈ rows, CRowOk o.length r) : ((cellsV rows).map (outS o)).flatMap cd = rows.flatMap (CRow.mk (cd o)) := by
  induction rows with
  | nil => rfl
  | cons r rows ih =>
    show ((r.cellV ++ cellsV rows).map (outS o)).flatMap cd = CRow.mk (cd o) r ++ _
    rw [List.map_append, List.flatMap_append, ih fun q hq => h q (List.mem_cons_of_mem _ hq)]
    congr 1
    cases r with
    | put s => exact outs_chars o _
    | copy a n =>
      have hh : a + n ≤ o.length := (h _ (List.mem_cons_self ..)).h
      exact outs_range o a n (by rw [cd_len]; exact hh)
theorem join_cd (ys : List Str) : cd (Txt.join ⟨#[]⟩ ys) = ys.flatMap cd := by
  have e : TL.tl (Txt.join ⟨#[]⟩ ys) = (ys.map TL.tl).flatten := by
    rw [TL.join_eq, TL.tl_join]
    have key : ∀ l : List (List Nat), TL.joinL [] l = l.flatten := by
      intro l
      induction l with
      | nil => rfl
      | cons a l ih =>
        cases l with
        | nil => simp [TL.joinL]
        | cons b l =>
          rw [TL.joinL, ih]
          simp
    exact key _
  exact e.trans (by rw [List.flatMap_def])
theorem outS_ok {o : Str} {n : Nat} {v : V} (hn : o.length = n) (ok : okS o) (h : CellOk n v) : (outS o v).length = 1 ∧ okS (outS o v) := by
  rcases h with ⟨i, rfl, hi⟩ | ⟨c, rfl, hc⟩
  · refine ⟨rfl, ?_⟩
    show okS ⟨#[(cd o).getD i 0]⟩
    exact ok_sign ok (by omega)
  · exact ⟨rfl, ok_codes.mpr fun d hd => by
      have hd' : d ∈ [c] := hd
      rw [List.mem_singleton.mp hd']
      exact hc⟩
/-! ### promises -/
def φcells (K : PySem.W.Frag) : V → Hp → VK → Prop := fun x H Q => ∃ (F : Hp) (n : Nat) (rows : List CRow), Same F H ∧ Chg K F x n rows ∧ RowsOk n rows ∧ n ≤ 1000 ∧ ∀ p F2 H2, H p = none → W [] F H F2 H2 [mu p (.lst (cellsV rows))] → Q (.ref p) H2
def φlcells (K : PySem.W.Frag) : V → Hp → VK → Prop := fun x H Q => ∃ (F : Hp) (a : Addr) (vs : List V) (n : Nat) (rows : List CRow), x = .ref a ∧ Same F H ∧ SqL K F a vs ∧ DpAll K F vs (rows.map CRow.d) ∧ RowsOk n rows ∧ ∀ p F2 H2, H p = none → W [] F H F2 H2 [mu p (.lst (cellsV rows))] → Q (.ref p) H2
def φdoneC (K : PySem.W.Frag) : V → V → Hp → VK → Prop := fun x y H Q => ∃ (F : Hp) (o : Str) (rows : List CRow), y = .str o ∧ Same F H ∧ Chg K F x o.length rows ∧ RowsOk o.length rows ∧ okS o ∧ o.length ≤ 1000 ∧ ∀ s F2 H2, W [] F H F2 H2 [] → cd s = rows.flatMap (CRow.mk (cd o)) → okS s → Q (.str s) H2
def φldone (K : PySem.W.Frag) : V → V → Hp → VK → Prop := fun x y H Q => ∃ (F : Hp) (a : Addr) (cs : List V) (o : Str), x = .ref a ∧ y = .str o ∧ Same F H ∧ SqL K F a cs ∧ (∀ v ∈ cs, CellOk o.length v) ∧ cs.length ≤ 1000 ∧ okS o ∧ o.length ≤ 1000 ∧ ∀ s F2 H2, W [] F H F2 H2 [] → cd s = (cs.map (outS o)).flatMap cd → okS s → Q (.str s) H2
theorem cut_cd_to (z : Str) (j : Nat) : cd (cutS z none (some (j : Int))) = (cd z).take j := by
  have hl : z.cps.toList.length = z.length := cd_len z
  unfold cutS
  rw [HT.sIx_none, HT.sIx_nat]
  show ((z.cps.toList.drop 0).take _).toArray.toList = z.cps.toList.take j
  rw [List.toList_toArray, List.drop_zero, Nat.sub_zero]
  by_cases h : j ≤ z.length
  · rw [Nat.min_eq_left h]
  · rw [Nat.min_eq_right (by omega), List.take_of_length_le (by omega), List.take_of_length_le (by omega)]
theorem cut_cd_from (z : Str) (i : Nat) : cd (cutS z (some (i : Int)) none) = (cd z).drop i := by
  have hl : z.cps.toList.length = z.length := cd_len z
  unfold cutS
  rw [HT.sIx_none, HT.sIx_nat]
  show ((z.cps.toList.drop _).take _).toArray.toList = z.cps.toList.drop i
  rw [List.toList_toArray]
  by_cases h : i ≤ z.length
  · rw [Nat.min_eq_left h]
    exact List.take_of_length_le (by rw [List.length_drop]; omega)
  · rw [Nat.min_eq_right (by omega), Nat.sub_self, List.take_zero, List.drop_eq_nil_of_le (by omega)]
theorem ok_to {z : Str} (h : okS z) (j : Nat) : okS (cutS z none (some (j : Int))) := by
  rw [ok_codes, cut_cd_to]
  exact fun c hc => ok_codes.mp h c (List.mem_of_mem_take hc)
theorem ok_from {z : Str} (h : okS z) (j : Nat) : okS (cutS z (some (j : Int)) none) := by
  rw [ok_codes, cut_cd_from]
  exact fun c hc => ok_codes.mp h c (List.mem_of_mem_drop hc)
theorem len_to (z : Str) (j : Nat) : (cutS z none (some (j : Int))).length = min j z.length := by rw [← cd_len, cut_cd_to, List.length_take, cd_len]
theorem len_from (z : Str) (j : Nat) : (cutS z (some (j : Int)) none).length = z.length - j := by rw [← cd_len, cut_cd_from, List.length_drop, cd_len]
theorem len_app (a b : Str) : (a ++ b).length = a.length + b.length := by
  rw [← cd_len, ← cd_len, ← cd_len, ← List.length_append]
  congr 1
  exact TL.tl_append a b
theorem least_succ (p : Nat) (O N : List Nat) (j : Nat) : leastL p O N (j + 1) = leastL p O N j ++ [lea p O N (j + 1)] := by
  have h := least_get p O N (j := j + 1) (i := j + 1) (Nat.le_refl _)
  rw [leastL, List.getElem?_append_right (by rw [least_len]; omega), least_len, Nat.sub_self] at h
  rw [leastL]
  congr 2
  exact Option.some.inj h
theorem least_last (p : Nat) (O N : List Nat) (j : Nat) : ∃ l, leastL p O N j = l ++ [lea p O N j] := by
  cases j with
  | zero => exact ⟨[], rfl⟩
  | succ j => exact ⟨_, least_succ p O N j⟩
def φwholeI : V → Hp → VK → Prop := fun x H Q => ∃ i, x = .int i ∧ Q (.bl true) H
def φmakes (K : PySem.W.Frag) : V → V → V → Hp → VK → Prop := fun x y z H Q => ∃ (F : Hp) (o l : Str) (rows : List CRow), y = .str o ∧ z = .str l ∧ Same F H ∧ Chg K F x o.length rows ∧ RowsOk o.length rows ∧ okS o ∧ okS l ∧ o.length ≤ 1000 ∧ l.length ≤ 1000 ∧ rows.flatMap (CRow.mk (cd o)) = cd l ∧ ∀ F2 H2, W [] F H F2 H2 [] → Q (.bl true) H2
def φold_new (K : PySem.W.Frag) : V → Hp → VK → Prop := fun x H Q => ∃ (F : Hp) (b : Addr), x = .ref b ∧ St F H [bag K b] ∧ ∀ t o l F2 H2, W [b] F H F2 H2 [fx t (.tup [.str o, .str l]), bag K b] → okS o → okS l → o.length ≤ 60 → l.length ≤ 63 → Q (.ref t) H2
def φleast (K : PySem.W.Frag) : V → V → V → Hp → VK → Prop := fun x y z H Q => ∃ (F : Hp) (o l : Str) (p : Nat), x = .str o ∧ y = .str l ∧ z = .int (p : Nat) ∧ Same F H ∧ o.length ≤ 1000 ∧ l.length ≤ 1000 ∧ p ≤ 1000 ∧ ∀ F2 H2, W [] F H F2 H2 [] → Q (.int ((lea p (cd o) (cd l) l.length : Nat) : Int)) H2
/-! ### plain finds -/
theorem seg_all (N : List Nat) : segL N 0 N.length = N := by
  unfold segL
  rw [List.drop_zero, Nat.sub_zero, List.take_length]
theorem lea_zero (p : Nat) (O N : List Nat) : lea p O N 0 = 0 := rfl
theorem lea_copy {p : Nat} {O N : List Nat} (h : inB O N = true) (hn : N ≠ []) : lea p O N N.length ≤ p := by
  have hl : 1 ≤ N.length := List.length_pos_iff.mpr hn
  obtain ⟨k, ek⟩ : ∃ k, N.length = k + 1 := ⟨N.length - 1, by omega⟩
  have h1 := lea_le p O N (i := 0) (j := k) (Nat.zero_le _)
  have h2 : stepC O N 0 (k + 1) = 0 := by unfold stepC; rw [← ek, seg_all, if_pos h]
  rw [h2, lea_zero] at h1
  rw [ek]
  omega
theorem lea_put {p : Nat} {O N : List Nat} (hn : N ≠ []) : lea p O N N.length ≤ p + N.length := by
  have hl : 1 ≤ N.length := List.length_pos_iff.mpr hn
  obtain ⟨k, ek⟩ : ∃ k, N.length = k + 1 := ⟨N.length - 1, by omega⟩
  have h1 := lea_le p O N (i := 0) (j := k) (Nat.zero_le _)
  have h2 : stepC O N 0 (k + 1) ≤ k + 1 := by unfold stepC; split <;> omega
  rw [lea_zero] at h1
  rw [ek]
  omega
theorem cst_cons {p : Nat} {r : CRow} {rows : List CRow} : ((r :: rows).map (CRow.cst p)).sum = (p + r.puts) + (rows.map (CRow.cst p)).sum := by
  rw [List.map_cons, List.sum_cons]
  rfl
theorem no_rows {p : Nat} {o l : Str} {rows : List CRow} (m : Made p o l rows) (h : cd l = []) : rows = [] := by
  have h1 := mks_len (cd_len o) m.ok.ok
  rw [m.mkN, h] at h1
  have h2 := rows_len (rows := rows) fun r hr => (m.ok.ok r hr).p
  exact List.eq_nil_of_length_eq_zero (by rw [← h1] at h2; exact Nat.le_zero.mp h2)
theorem one_copy {p : Nat} {o l : Str} {rows : List CRow} (m : Made p o l rows) (hp : 1 ≤ p) (h : inB (cd o) (cd l) = true) (hn : cd l ≠ []) : ∃ a n, rows = [.copy a n] := by
  have h1 := m.cst
  have h2 := lea_copy (p := p) h hn
  rw [cd_len] at h2
  cases rows with
  | nil =>
    have := m.mkN
    exact absurd this.symm hn
  | cons r rows =>
    rw [cst_cons] at h1
    cases rows with
    | cons r2 rows =>
      rw [cst_cons] at h1
      omega
    | nil =>
      cases r with
      | copy a n => exact ⟨a, n, rfl⟩
      | put s =>
        have h3 : 1 ≤ s.length := (m.ok.ok _ (List.mem_cons_self ..)).p
        have h4 : (CRow.put s).puts = s.length := rfl
        omega
theorem puts_all {p : Nat} {O : List Nat} {n : Nat} (hO : O.length = n) : ∀ {rows : List CRow}, (∀ r ∈ rows, CRowOk n r) → (∀ c ∈ rows.flatMap (CRow.mk O), inB O [c] = false) → (rows.map (CRow.cst p)).sum = p * rows.length + (rows.flatMap (CRow.mk O)).length ∧ ∀ r ∈ rows, ∃ s, r = .put s
  | [], _, _ => ⟨rfl, fun r h => by cases h⟩
  | r :: rows, hok, h => by
    have ro := hok r (List.mem_cons_self ..)
    obtain ⟨i1, i2⟩ := puts_all (p := p) hO (rows := rows) (fun q hq => hok q (List.mem_cons_of_mem _ hq)) fun c hc => h c (by rw [List.flatMap_cons]; exact List.mem_append_right _ hc)
    cases r with
    | put s =>
      refine ⟨?_, fun q hq => ?_⟩
      · rw [cst_cons, i1, List.flatMap_cons, List.length_append, List.length_cons, Nat.mul_succ]
        have e1 : (CRow.mk O (.put s)).length = s.length := cd_len s
        have e2 : (CRow.put s).puts = s.length := rfl
        omega
      · rcases List.mem_cons.mp hq with rfl | hq
        · exact ⟨s, rfl⟩
        · exact i2 q hq
    | copy a k =>
      exfalso
      have h1 : 1 ≤ k := ro.p
      have h2 : a + k ≤ n := ro.h
      have h3 : a < O.length := by omega
      have hm : O[a] ∈ CRow.mk O (.copy a k) := by
        show O[a] ∈ (O.drop a).take k
        refine List.mem_take_iff_getElem.mpr ⟨0, by rw [List.length_drop]; omega, ?_⟩
        simp
      have h4 := h _ (by rw [List.flatMap_cons]; exact List.mem_append_left _ hm)
      have h5 : inB O [O[a]] = true := by
        refine inB_iff.mpr ⟨a, by show a + 1 ≤ O.length; omega, ?_⟩
        show (O.drop a).take 1 = [O[a]]
        rw [List.drop_eq_getElem_cons h3]
        rfl
      rw [h4] at h5
      cases h5
theorem one_put {p : Nat} {o l : Str} {rows : List CRow} (m : Made p o l rows) (hp : 1 ≤ p) (h : ∀ c ∈ cd l, inB (cd o) [c] = false) (hn : cd l ≠ []) : rows = [.put l] := by
  have h1 := m.cst
  have h2 := lea_put (p := p) (O := cd o) hn
  rw [cd_len] at h2
  obtain ⟨h3, h4⟩ := puts_all (p := p) (cd_len o) m.ok.ok (fun c hc => h c (by rw [← m.mkN]; exact hc))
  rw [m.mkN, cd_len] at h3
  have h5 : p * rows.length ≤ p := by omega
  match rows, h4, h5, m.mkN with
  | [], _, _, e => exact absurd e.symm hn
  | [r], h4, _, e =>
    obtain ⟨s, rfl⟩ := h4 _ (List.mem_singleton.mpr rfl)
    have e2 : cd s = cd l := by
      rw [List.flatMap_cons, List.flatMap_nil, List.append_nil] at e
      exact e
    rw [cd_inj e2]
  | r1 :: r2 :: rows, _, h5, _ =>
    rw [List.length_cons, List.length_cons, Nat.mul_succ, Nat.mul_succ] at h5
    omega
theorem in_seg (O : List Nat) (i j : Nat) : inB O (segL O i j) = true := by
  by_cases h : i ≤ O.length
  · refine inB_iff.mpr ⟨i, ?_, ?_⟩
    · unfold segL
      rw [List.length_take, List.length_drop]
      omega
    · unfold segL
      rw [List.length_take, List.length_drop]
      by_cases h2 : j - i ≤ O.length - i
      · rw [Nat.min_eq_left h2]
      · rw [Nat.min_eq_right (by omega), List.take_of_length_le (by rw [List.length_drop]; exact Nat.le_refl _), List.take_of_length_le (by rw [List.length_drop]; omega)]
  · unfold segL
    rw [List.drop_eq_nil_of_le (by omega), List.take_nil]
    exact inB_iff.mpr ⟨0, by simp, rfl⟩
theorem in_nil (O : List Nat) : inB O [] = true := inB_iff.mpr ⟨0, by simp, rfl⟩
def φone_copy (K : PySem.W.Frag) : V → V → V → Hp → VK → Prop := fun x y z H Q => ∃ (F : Hp) (o l : Str) (p : Nat) (rows : List CRow), y = .str o ∧ z = .str l ∧ Same F H ∧ Chg K F x o.length rows ∧ Made p o l rows ∧ 1 ≤ p ∧ okS o ∧ okS l ∧ o.length ≤ 400 ∧ l.length ≤ 400 ∧ inB (cd o) (cd l) = true ∧ ∀ F2 H2, W [] F H F2 H2 [] → Q (.bl true) H2
end R

namespace R
open PySem PySem.StrLaws Builtin.Str L2
/-! ### cells of a change, and the fewest rows that give them -/
inductive Cel where
  | pl (i : Nat)
  | sg (c : Nat)
  deriving DecidableEq
def Cel.v : Cel → V
  | .pl i => .int (i : Nat)
  | .sg c => .str ⟨#[c]⟩
def Cel.ok (n : Nat) : Cel → Prop
  | .pl i => i < n
  | .sg c => c < 0x110000
def Cel.out (O : List Nat) : Cel → Nat
  | .pl i => O.getD i 0
  | .sg c => c
def Cel.w : Cel → Nat
  | .pl _ => 0
  | .sg _ => 1
def CRow.cels : CRow → List Cel
  | .put s => (cd s).map Cel.sg
  | .copy a n => (List.range n).map fun k => .pl (a + k)
abbrev celsL (rows : List CRow) : List Cel := rows.flatMap CRow.cels
theorem cels_v : ∀ rows : List CRow, cellsV rows = (celsL rows).map Cel.v
  | [] => rfl
  | r :: rows => by
    show r.cellV ++ cellsV rows = (r.cels ++ celsL rows).map Cel.v
    rw [List.map_append, ← cels_v rows]
    congr 1
    cases r with
    | put s =>
      show chars s = ((cd s).map Cel.sg).map Cel.v
      rw [List.map_map]
      rfl
    | copy a n =>
      show (List.range n).map _ = ((List.range n).map _).map Cel.v
      rw [List.map_map]
      rfl
theorem celsL_app (a b : List CRow) : celsL (a ++ b) = celsL a ++ celsL b := List.flatMap_append
theorem celsL_one (r : CRow) : celsL [r] = r.cels := List.append_nil _
theorem cels_len (rows : List CRow) : (celsL rows).length = givesL rows := by
  have h := cells_len rows
  rw [cels_v, List.length_map] at h
  exact h
theorem cel_cellok {n : Nat} {c : Cel} (h : c.ok n) : CellOk n c.v := by
  cases c with
  | pl i => exact .inl ⟨i, rfl, h⟩
  | sg c => exact .inr ⟨c, rfl, h⟩
theorem cels_ok {n : Nat} {rows : List CRow} (h : ∀ r ∈ rows, CRowOk n r) : ∀ c ∈ celsL rows, c.ok n := by
  intro c hc
  obtain ⟨r, hr, hc⟩ := List.mem_flatMap.mp hc
  have ro := h r hr
  cases r with
  | put s =>
    obtain ⟨d, hd, rfl⟩ := List.mem_map.mp hc
    exact ok_codes.mp ro.s.1 d hd
  | copy a k =>
    obtain ⟨j, hj, rfl⟩ := List.mem_map.mp hc
    have := List.mem_range.mp hj
    have hh : a + k ≤ n := ro.h
    show a + j < n
    omega
theorem out_cel (o : Str) (c : Cel) : outS o c.v = ⟨#[c.out (cd o)]⟩ := by
  cases c with
  | pl i => rfl
  | sg c => rfl
theorem outs_cels (o : Str) : ∀ cs : List Cel, ((cs.map Cel.v).map (outS o)).flatMap cd = cs.map (Cel.out (cd o))
  | [] => rfl
  | c :: cs => by
    rw [List.map_cons, List.map_cons, List.flatMap_cons, outs_cels o cs, out_cel]
    rfl
theorem mk_cels {o : Str} {rows : List CRow} (h : ∀ r ∈ rows, CRowOk o.length r) : rows.flatMap (CRow.mk (cd o)) = (celsL rows).map (Cel.out (cd o)) := by
  rw [← outs_rows o h, cels_v, outs_cels]
theorem cd_app (a b : Str) : cd (a ++ b) = cd a ++ cd b := TL.tl_append a b
def CRow.add : CRow → Cel → Option CRow
  | .copy a n, .pl i => if a + n = i then some (.copy a (n + 1)) else none
  | .put s, .sg c => some (.put (s ++ ⟨#[c]⟩))
  | _, _ => none
def CRow.one : Cel → CRow
  | .pl i => .copy i 1
  | .sg c => .put ⟨#[c]⟩
/-- one cell more, the last row ahead -/
def addC (rs : List CRow) (c : Cel) : List CRow :=
  match rs with
  | [] => [CRow.one c]
  | r :: t => match r.add c with
    | some q => q :: t
    | none => CRow.one c :: r :: t
def plainR (cs : List Cel) : List CRow := cs.foldl addC []
def plainL (cs : List Cel) : List CRow := (plainR cs).reverse
theorem plainR_snoc (cs : List Cel) (c : Cel) : plainR (cs ++ [c]) = addC (plainR cs) c := by
  unfold plainR
  rw [List.foldl_append]
  rfl
theorem plainR_take {cs : List Cel} {i : Nat} {c : Cel} (h : cs[i]? = some c) : plainR (cs.take (i + 1)) = addC (plainR (cs.take i)) c := by
  rw [List.take_add_one, h]
  exact plainR_snoc _ _
theorem one_cels (c : Cel) : (CRow.one c).cels = [c] := by
  cases c <;> rfl
theorem add_cels {r q : CRow} {c : Cel} (h : r.add c = some q) : q.cels = r.cels ++ [c] := by
  cases r with
  | put s =>
    cases c with
    | pl i => cases h
    | sg c =>
      have e := Option.some.inj h
      subst e
      show (cd (s ++ ⟨#[c]⟩)).map Cel.sg = _
      rw [cd_app, List.map_append]
      rfl
  | copy a n =>
    cases c with
    | sg c => cases h
    | pl i =>
      unfold CRow.add at h
      by_cases e : a + n = i
      · simp only [if_pos e] at h
        have e2 := Option.some.inj h
        subst e2
        subst e
        show (List.range (n + 1)).map _ = _
        rw [List.range_succ, List.map_append]
        rfl
      · simp only [if_neg e] at h
        cases h
theorem add_gives {r q : CRow} {c : Cel} (h : r.add c = some q) : 1 ≤ q.gives := by
  have e := congrArg List.length (add_cels h)
  have e2 := cels_len [q]
  rw [celsL_one] at e2
  have e3 : givesL [q] = q.gives + 0 := rfl
  rw [List.length_append] at e
  have e4 : [c].length = 1 := rfl
  omega
theorem addC_cels (rs : List CRow) (c : Cel) : celsL (addC rs c).reverse = celsL rs.reverse ++ [c] := by
  cases rs with
  | nil =>
    show (CRow.one c).cels ++ [] = [] ++ [c]
    rw [one_cels]
    rfl
  | cons r t =>
    show celsL (match r.add c with | some q => q :: t | none => CRow.one c :: r :: t).reverse = _
    cases h : r.add c with
    | some q =>
      show celsL (q :: t).reverse = _
      rw [List.reverse_cons, List.reverse_cons, celsL_app, celsL_app, List.append_assoc, celsL_one, celsL_one, add_cels h]
    | none =>
      show celsL (CRow.one c :: r :: t).reverse = _
      rw [List.reverse_cons, celsL_app, celsL_one, one_cels]
theorem addC_gives {rs : List CRow} (c : Cel) (h : ∀ r ∈ rs, 1 ≤ r.gives) : ∀ r ∈ addC rs c, 1 ≤ r.gives := by
  have h1 : 1 ≤ (CRow.one c).gives := by
    cases c <;> exact Nat.le_refl _
  cases rs with
  | nil =>
    intro r hr
    rw [List.mem_singleton.mp (show r ∈ [CRow.one c] from hr)]
    exact h1
  | cons r t =>
    intro x hx
    have hx : x ∈ (match r.add c with | some q => q :: t | none => CRow.one c :: r :: t) := hx
    cases e : r.add c with
    | some q =>
      rw [e] at hx
      rcases List.mem_cons.mp hx with rfl | hx
      · exact add_gives e
      · exact h x (List.mem_cons_of_mem _ hx)
    | none =>
      rw [e] at hx
      rcases List.mem_cons.mp hx with rfl | hx
      · exact h1
      · exact h x hx
theorem foldC : ∀ (cs : List Cel) (rs : List CRow), (∀ r ∈ rs, 1 ≤ r.gives) → celsL (cs.foldl addC rs).reverse = celsL rs.reverse ++ cs ∧ ∀ r ∈ cs.foldl addC rs, 1 ≤ r.gives
  | [], rs, h => ⟨(List.append_nil _).symm, h⟩
  | c :: cs, rs, h => by
    obtain ⟨h1, h2⟩ := foldC cs (addC rs c) (addC_gives c h)
    refine ⟨?_, h2⟩
    show celsL (cs.foldl addC (addC rs c)).reverse = _
    rw [h1, addC_cels, List.append_assoc]
    rfl
/-- the same cells -/
theorem plain_cels (cs : List Cel) : celsL (plainL cs) = cs := (foldC cs [] (fun _ h => nomatch h)).1
theorem plain_gives (cs : List Cel) : ∀ r ∈ plainL cs, 1 ≤ r.gives := fun r hr => (foldC cs [] (fun _ h => nomatch h)).2 r (List.mem_reverse.mp hr)
theorem row_le {rows : List CRow} {r : CRow} (h : r ∈ rows) : r.gives ≤ givesL rows := by
  induction rows with
  | nil => cases h
  | cons q rows ih =>
    show r.gives ≤ q.gives + givesL rows
    rcases List.mem_cons.mp h with rfl | h
    · omega
    · have := ih h
      omega
theorem rowsOk_of {n : Nat} {rows : List CRow} (h1 : ∀ r ∈ rows, 1 ≤ r.gives) (h2 : ∀ c ∈ celsL rows, c.ok n) (h3 : (celsL rows).length ≤ 400) : RowsOk n rows := by
  rw [cels_len] at h3
  refine ⟨fun r hr => ?_, h3⟩
  have g1 := h1 r hr
  have g2 := row_le hr
  have hc : ∀ c ∈ r.cels, c.ok n := fun c hc => h2 c (List.mem_flatMap.mpr ⟨r, hr, hc⟩)
  cases r with
  | put s =>
    refine ⟨⟨ok_codes.mpr fun c hd => hc (.sg c) (List.mem_map.mpr ⟨c, hd, rfl⟩), ?_⟩, g1, Nat.zero_le _⟩
    have : (CRow.put s).gives = s.length := rfl
    omega
  | copy a k =>
    refine ⟨trivial, g1, ?_⟩
    have g3 : 1 ≤ k := g1
    have := hc (.pl (a + (k - 1))) (List.mem_map.mpr ⟨k - 1, List.mem_range.mpr (by omega), rfl⟩)
    have h4 : a + (k - 1) < n := this
    show a + k ≤ n
    omega
theorem plain_ok {n : Nat} {cs : List Cel} (h : ∀ c ∈ cs, c.ok n) (hl : cs.length ≤ 400) : RowsOk n (plainL cs) := rowsOk_of (plain_gives cs) (by rw [plain_cels]; exact h) (by rw [plain_cels]; exact hl)
/-- no rows are fewer -/
theorem puts_go : ∀ (l : List Nat) (s : Str) (t : List CRow), ∃ s', (l.map Cel.sg).foldl addC (.put s :: t) = .put s' :: t
  | [], s, t => ⟨s, rfl⟩
  | c :: l, s, t => by
    have e : addC (.put s :: t) (.sg c) = .put (s ++ ⟨#[c]⟩) :: t := rfl
    show ∃ s', (l.map Cel.sg).foldl addC (addC (.put s :: t) (.sg c)) = .put s' :: t
    rw [e]
    exact puts_go l _ t
theorem first_len (rs : List CRow) (c : Cel) : (addC rs c).length ≤ rs.length + 1 ∧ ∃ q t, addC rs c = q :: t ∧ (∃ x, q.cels = x ++ [c]) ∧ t.length ≤ rs.length := by
  cases rs with
  | nil => exact ⟨Nat.le_refl _, _, _, rfl, ⟨[], one_cels c⟩, Nat.le_refl _⟩
  | cons r t =>
    cases e : r.add c with
    | some q =>
      have e2 : addC (r :: t) c = q :: t := by
        show (match r.add c with | some q => q :: t | none => CRow.one c :: r :: t) = _
        rw [e]
      rw [e2]
      exact ⟨by show t.length + 1 ≤ t.length + 1 + 1; omega, q, t, rfl, ⟨_, add_cels e⟩, by show t.length ≤ t.length + 1; omega⟩
    | none =>
      have e2 : addC (r :: t) c = CRow.one c :: r :: t := by
        show (match r.add c with | some q => q :: t | none => CRow.one c :: r :: t) = _
        rw [e]
      rw [e2]
      exact ⟨Nat.le_refl _, _, _, rfl, ⟨[], one_cels c⟩, Nat.le_refl _⟩
theorem addC_pl (rs : List CRow) (i : Nat) : ∃ a n t, addC rs (.pl i) = .copy a n :: t ∧ a + n = i + 1 ∧ t.length ≤ rs.length := by
  cases rs with
  | nil => exact ⟨i, 1, [], rfl, rfl, Nat.le_refl _⟩
  | cons r t =>
    cases r with
    | put s => exact ⟨i, 1, _, rfl, rfl, Nat.le_refl _⟩
    | copy a n =>
      by_cases e : a + n = i
      · refine ⟨a, n + 1, t, ?_, by omega, by show t.length ≤ t.length + 1; omega⟩
        show (match (if a + n = i then some (CRow.copy a (n + 1)) else none) with | some q => q :: t | none => CRow.one (.pl i) :: .copy a n :: t) = _
        rw [if_pos e]
      · refine ⟨i, 1, .copy a n :: t, ?_, rfl, Nat.le_refl _⟩
        show (match (if a + n = i then some (CRow.copy a (n + 1)) else none) with | some q => q :: t | none => CRow.one (.pl i) :: .copy a n :: t) = _
        rw [if_neg e]
        rfl
theorem addC_next {a n i : Nat} {t : List CRow} (e : a + n = i) : addC (.copy a n :: t) (.pl i) = .copy a (n + 1) :: t := by
  show (match (if a + n = i then some (CRow.copy a (n + 1)) else none) with | some q => q :: t | none => CRow.one (.pl i) :: .copy a n :: t) = _
  rw [if_pos e]
theorem addC_sg (rs : List CRow) (c : Nat) : ∃ s t, addC rs (.sg c) = .put s :: t ∧ t.length ≤ rs.length := by
  cases rs with
  | nil => exact ⟨_, [], rfl, Nat.le_refl _⟩
  | cons r t =>
    cases r with
    | put s => exact ⟨_, t, rfl, by show t.length ≤ t.length + 1; omega⟩
    | copy a n => exact ⟨_, .copy a n :: t, rfl, Nat.le_refl _⟩
theorem copy_go (rs : List CRow) (b : Nat) : ∀ k, ∃ a n t, ((List.range (k + 1)).map fun j => Cel.pl (b + j)).foldl addC rs = .copy a n :: t ∧ a + n = b + k + 1 ∧ t.length ≤ rs.length
  | 0 => addC_pl rs b
  | k + 1 => by
    obtain ⟨a, n, t, h1, h2, h3⟩ := copy_go rs b k
    refine ⟨a, n + 1, t, ?_, by omega, h3⟩
    rw [List.range_succ, List.map_append, List.foldl_append, h1]
    exact addC_next (by omega)
theorem row_go (r : CRow) (h : 1 ≤ r.gives) (rs : List CRow) : (r.cels.foldl addC rs).length ≤ rs.length + 1 := by
  cases r with
  | put s =>
    have hl : 1 ≤ s.length := h
    rw [← cd_len] at hl
    show (((cd s).map Cel.sg).foldl addC rs).length ≤ _
    cases e : cd s with
    | nil => rw [e] at hl; cases hl
    | cons c l =>
      obtain ⟨z, t, h1, h2⟩ := addC_sg rs c
      obtain ⟨z', h3⟩ := puts_go l z t
      show ((l.map Cel.sg).foldl addC (addC rs (.sg c))).length ≤ _
      rw [h1, h3]
      exact Nat.succ_le_succ h2
  | copy a k =>
    have hk : 1 ≤ k := h
    obtain ⟨m, rfl⟩ : ∃ m, k = m + 1 := ⟨k - 1, by omega⟩
    obtain ⟨_, _, t, h1, _, h3⟩ := copy_go rs a m
    show (((List.range (m + 1)).map fun j => Cel.pl (a + j)).foldl addC rs).length ≤ _
    rw [h1]
    exact Nat.succ_le_succ h3
theorem rows_go : ∀ (rows : List CRow), (∀ r ∈ rows, 1 ≤ r.gives) → ∀ rs, ((celsL rows).foldl addC rs).length ≤ rs.length + rows.length
  | [], _, rs => Nat.le_refl _
  | r :: rows, h, rs => by
    show ((r.cels ++ celsL rows).foldl addC rs).length ≤ rs.length + (rows.length + 1)
    rw [List.foldl_append]
    have h1 := rows_go rows (fun q hq => h q (List.mem_cons_of_mem _ hq)) (r.cels.foldl addC rs)
    have h2 := row_go r (h r (List.mem_cons_self ..)) rs
    omega
theorem plain_few {rows : List CRow} (h : ∀ r ∈ rows, 1 ≤ r.gives) : (plainL (celsL rows)).length ≤ rows.length := by
  have := rows_go rows h []
  unfold plainL
  rw [List.length_reverse]
  have e : ([] : List CRow).length = 0 := rfl
  unfold plainR
  omega
theorem cels_w : ∀ rows : List CRow, (rows.map CRow.puts).sum = ((celsL rows).map Cel.w).sum
  | [] => rfl
  | r :: rows => by
    show r.puts + (rows.map CRow.puts).sum = ((r.cels ++ celsL rows).map Cel.w).sum
    rw [List.map_append, List.sum_append, cels_w rows]
    congr 1
    cases r with
    | put s =>
      show s.length = (((cd s).map Cel.sg).map Cel.w).sum
      rw [List.map_map, ← cd_len]
      generalize cd s = l
      induction l with
      | nil => rfl
      | cons c l ih =>
        show l.length + 1 = 1 + (l.map (Cel.w ∘ Cel.sg)).sum
        omega
    | copy a n =>
      show 0 = (((List.range n).map fun k => Cel.pl (a + k)).map Cel.w).sum
      rw [List.map_map]
      generalize List.range n = l
      induction l with
      | nil => rfl
      | cons c l ih =>
        show 0 = 0 + (l.map (Cel.w ∘ fun k => Cel.pl (a + k))).sum
        omega
theorem cst_eq (p : Nat) : ∀ rows : List CRow, (rows.map (CRow.cst p)).sum = p * rows.length + (rows.map CRow.puts).sum
  | [] => rfl
  | r :: rows => by
    rw [List.map_cons, List.sum_cons, cst_eq p rows, List.length_cons, List.map_cons, List.sum_cons, Nat.mul_succ]
    unfold CRow.cst
    omega
theorem plain_cst (p : Nat) {rows : List CRow} (h : ∀ r ∈ rows, 1 ≤ r.gives) : ((plainL (celsL rows)).map (CRow.cst p)).sum ≤ (rows.map (CRow.cst p)).sum := by
  rw [cst_eq, cst_eq, cels_w, plain_cels, ← cels_w]
  exact Nat.add_le_add_right (Nat.mul_le_mul_left p (plain_few h)) _
theorem plain_mk {o : Str} {cs : List Cel} (h : ∀ c ∈ cs, c.ok o.length) (hl : cs.length ≤ 400) : (plainL cs).flatMap (CRow.mk (cd o)) = cs.map (Cel.out (cd o)) := by
  rw [mk_cels (plain_ok h hl).ok, plain_cels]
theorem least_cost {p : Nat} {o l : Str} {rows1 rows : List CRow} (m : Made p o l rows1) (ok : RowsOk o.length rows) (h : rows.flatMap (CRow.mk (cd o)) = cd l) : costL (p : Int) rows1 ≤ costL (p : Int) rows := by
  rw [cost_sum, cost_sum]
  refine Int.ofNat_le.mpr ?_
  rw [m.cst]
  refine least_any p (cd o) (cd l) (cd_len o) rows ok.ok l.length (by rw [cd_len]; exact Nat.le_refl _) ?_
  rw [h, ← cd_len, List.take_length]
theorem plain_same {o : Str} {rows : List CRow} (ok : RowsOk o.length rows) : (plainL (celsL rows)).flatMap (CRow.mk (cd o)) = rows.flatMap (CRow.mk (cd o)) := by
  rw [plain_mk (cels_ok ok.ok) (by rw [cels_len]; exact ok.sum), mk_cels ok.ok]
theorem least_whole {p : Nat} {o l : Str} {rows1 : List CRow} (m : Made p o l rows1) : costL (p : Int) rows1 ≤ (((p : Nat) : Int) + (l.length : Nat)) * (if (!decide (l = Str.ofString "")) = true then 1 else 0) := by
  by_cases h : cd l = []
  · have e : l = Str.ofString "" := cd_inj h
    rw [no_rows m h, decide_eq_true e]
    show (p : Int) * ((0 : Nat) : Int) + ((0 : Nat) : Int) ≤ (_ : Int) * 0
    simp
  · have e : ¬ l = Str.ofString "" := fun e => h (by rw [e]; rfl)
    rw [decide_eq_false e]
    show _ ≤ (_ : Int) * 1
    rw [Int.mul_one, cost_sum, m.cst]
    have := lea_put (p := p) (O := cd o) h
    rw [cd_len] at this
    omega
theorem least_plain {p : Nat} {o l : Str} {rows1 : List CRow} (m : Made p o l rows1) : costL (p : Int) (plainL (celsL rows1)) = costL (p : Int) rows1 := by
  have h1 := least_cost m (plain_ok (cels_ok m.ok.ok) (by rw [cels_len]; exact m.ok.sum)) (by rw [plain_same m.ok, m.mkN])
  have h2 : costL (p : Int) (plainL (celsL rows1)) ≤ costL (p : Int) rows1 := by
    rw [cost_sum, cost_sum]
    exact Int.ofNat_le.mpr (plain_cst p fun r hr => (m.ok.ok r hr).p)
  omega
/-! ### back, and one behind the other -/
def firstTo (cs : List Cel) : Nat → Nat → Option Nat
  | 0, _ => none
  | k + 1, i => match firstTo cs k i with
    | some j => some j
    | none => if cs[k]? = some (.pl i) then some k else none
theorem first_at {cs : List Cel} : ∀ {k i j : Nat}, firstTo cs k i = some j → j < k ∧ cs[j]? = some (.pl i)
  | 0, _, _, h => nomatch h
  | k + 1, i, j, h => by
    unfold firstTo at h
    cases e : firstTo cs k i with
    | some m =>
      rw [e] at h
      cases h
      obtain ⟨h1, h2⟩ := first_at e
      exact ⟨by omega, h2⟩
    | none =>
      rw [e] at h
      have h : (if cs[k]? = some (.pl i) then some k else none) = some j := h
      by_cases e2 : cs[k]? = some (.pl i)
      · rw [if_pos e2] at h
        cases h
        exact ⟨by omega, e2⟩
      · rw [if_neg e2] at h
        cases h
theorem first_sg {cs : List Cel} {k c m : Nat} (h : cs[k]? = some (.sg c)) : firstTo cs (k + 1) m = firstTo cs k m := by
  show (match firstTo cs k m with | some j => some j | none => if cs[k]? = some (Cel.pl m) then some k else none) = _
  cases e : firstTo cs k m with
  | some j => rfl
  | none =>
    show (if cs[k]? = some (Cel.pl m) then some k else none) = none
    rw [h, if_neg (fun z => by cases z)]
theorem first_old {cs : List Cel} {k j m : Nat} (h : cs[k]? = some (.pl j)) (hs : firstTo cs k j ≠ none) : firstTo cs (k + 1) m = firstTo cs k m := by
  show (match firstTo cs k m with | some j => some j | none => if cs[k]? = some (Cel.pl m) then some k else none) = _
  cases e : firstTo cs k m with
  | some j => rfl
  | none =>
    show (if cs[k]? = some (Cel.pl m) then some k else none) = none
    rw [h, if_neg]
    intro z
    cases z
    exact hs e
theorem first_new {cs : List Cel} {k j m : Nat} (h : cs[k]? = some (.pl j)) (hn : firstTo cs k j = none) : firstTo cs (k + 1) m = if m = j then some k else firstTo cs k m := by
  show (match firstTo cs k m with | some j => some j | none => if cs[k]? = some (Cel.pl m) then some k else none) = _
  by_cases e : m = j
  · subst e
    rw [hn, if_pos rfl]
    show (if cs[k]? = some (Cel.pl m) then some k else none) = some k
    rw [if_pos h]
  · rw [if_neg e]
    cases e2 : firstTo cs k m with
    | some q => rfl
    | none =>
      show (if cs[k]? = some (Cel.pl m) then some k else none) = none
      rw [h, if_neg]
      intro z
      cases z
      exact e rfl
def backC (cs : List Cel) (O : List Nat) (i : Nat) : Cel := match firstTo cs cs.length i with
  | some j => .pl j
  | none => .sg (O.getD i 0)
def backs (cs : List Cel) (O : List Nat) : List Cel := (List.range O.length).map (backC cs O)
theorem back_v (cs : List Cel) (O : List Nat) (i : Nat) : ((firstTo cs cs.length i).map fun m => V.int (m : Nat)).getD (.str ⟨#[O.getD i 0]⟩) = (backC cs O i).v := by
  unfold backC
  cases firstTo cs cs.length i <;> rfl
theorem back_ok {cs : List Cel} {o : Str} (ok : okS o) : ∀ c ∈ backs cs (cd o), c.ok cs.length := by
  intro c hc
  obtain ⟨i, hi, rfl⟩ := List.mem_map.mp hc
  have hi := List.mem_range.mp hi
  unfold backC
  cases e : firstTo cs cs.length i with
  | some j => exact (first_at e).1
  | none =>
    show (cd o).getD i 0 < _
    rw [List.getD_eq_getElem?_getD, List.getElem?_eq_getElem hi]
    exact ok_codes.mp ok _ (List.getElem_mem _)
theorem backs_len (cs : List Cel) (O : List Nat) : (backs cs O).length = O.length := by
  unfold backs
  rw [List.length_map, List.length_range]
theorem back_out (cs : List Cel) (O : List Nat) : (backs cs O).map (Cel.out (cs.map (Cel.out O))) = O := by
  refine List.ext_getElem? fun i => ?_
  unfold backs
  rw [List.map_map, List.getElem?_map]
  by_cases hi : i < O.length
  · rw [List.getElem?_range hi, List.getElem?_eq_getElem hi]
    show some ((backC cs O i).out _) = some O[i]
    congr 1
    have e0 : O.getD i 0 = O[i] := by
      rw [List.getD_eq_getElem?_getD, List.getElem?_eq_getElem hi]
      rfl
    unfold backC
    cases e : firstTo cs cs.length i with
    | some j =>
      obtain ⟨h1, h2⟩ := first_at e
      show (cs.map (Cel.out O)).getD j 0 = _
      rw [List.getD_eq_getElem?_getD, List.getElem?_map, h2]
      exact e0
    | none => exact e0
  · rw [List.getElem?_eq_none (by rw [List.length_range]; omega), List.getElem?_eq_none (by omega)]
    rfl
theorem back_rows {o l : Str} {rows : List CRow} (ok : RowsOk o.length rows) (oko : okS o) (ho : o.length ≤ 400) (hl : rows.flatMap (CRow.mk (cd o)) = cd l) : RowsOk l.length (plainL (backs (celsL rows) (cd o))) ∧ (plainL (backs (celsL rows) (cd o))).flatMap (CRow.mk (cd l)) = cd o := by
  have e1 : (celsL rows).map (Cel.out (cd o)) = cd l := by rw [← mk_cels ok.ok, hl]
  have e2 : (celsL rows).length = l.length := by rw [← cd_len l, ← e1, List.length_map]
  have h1 : ∀ c ∈ backs (celsL rows) (cd o), c.ok l.length := by rw [← e2]; exact back_ok oko
  have h2 : (backs (celsL rows) (cd o)).length ≤ 400 := by rw [backs_len, cd_len]; exact ho
  refine ⟨plain_ok h1 h2, ?_⟩
  rw [plain_mk h1 h2, ← e1, back_out]
def midC (cs : List Cel) : Cel → Cel
  | .pl k => cs.getD k (.sg 0)
  | .sg c => .sg c
theorem mid_ok {cs ds : List Cel} {n : Nat} (h : ∀ c ∈ cs, c.ok n) (h2 : ∀ d ∈ ds, d.ok cs.length) : ∀ c ∈ ds.map (midC cs), c.ok n := by
  intro c hc
  obtain ⟨d, hd, rfl⟩ := List.mem_map.mp hc
  have := h2 d hd
  cases d with
  | pl k =>
    have hk : k < cs.length := this
    show (cs.getD k (.sg 0)).ok n
    rw [List.getD_eq_getElem?_getD, List.getElem?_eq_getElem hk]
    exact h _ (List.getElem_mem _)
  | sg c => exact this
theorem mid_out {cs ds : List Cel} {O : List Nat} (h2 : ∀ d ∈ ds, d.ok cs.length) : (ds.map (midC cs)).map (Cel.out O) = ds.map (Cel.out (cs.map (Cel.out O))) := by
  rw [List.map_map]
  refine List.map_congr_left fun d hd => ?_
  have := h2 d hd
  cases d with
  | pl k =>
    have hk : k < cs.length := this
    show (cs.getD k (.sg 0)).out O = (cs.map (Cel.out O)).getD k 0
    rw [List.getD_eq_getElem?_getD, List.getD_eq_getElem?_getD, List.getElem?_map, List.getElem?_eq_getElem hk]
    rfl
  | sg c => rfl
theorem addC_some {r q : CRow} {t : List CRow} {c : Cel} (h : r.add c = some q) : addC (r :: t) c = q :: t := by
  show (match r.add c with | some q => q :: t | none => CRow.one c :: r :: t) = _
  rw [h]
theorem addC_none {r : CRow} {t : List CRow} {c : Cel} (h : r.add c = none) : addC (r :: t) c = CRow.one c :: r :: t := by
  show (match r.add c with | some q => q :: t | none => CRow.one c :: r :: t) = _
  rw [h]
theorem dpa_init {K : PySem.W.Frag} {F : Hp} {v : V} {d : PyData} : ∀ {us : List V} {ds : List PyData}, DpAll K F (us ++ [v]) (ds ++ [d]) → DpAll K F us ds
  | [], [], _ => .nil
  | [], d2 :: ds, h => by
    have := dpa_len h
    simp at this
  | u :: us, [], h => by
    have := dpa_len h
    simp at this
  | u :: us, d2 :: ds, h => by
    cases h with
    | cons h1 h2 => exact .cons h1 (dpa_init h2)
theorem mid_rows {o l t : Str} {rows1 rows2 : List CRow} (ok1 : RowsOk o.length rows1) (ok2 : RowsOk l.length rows2) (h1 : rows1.flatMap (CRow.mk (cd o)) = cd l) (h2 : rows2.flatMap (CRow.mk (cd l)) = cd t) : RowsOk o.length (plainL ((celsL rows2).map (midC (celsL rows1)))) ∧ (plainL ((celsL rows2).map (midC (celsL rows1)))).flatMap (CRow.mk (cd o)) = cd t := by
  have e1 : (celsL rows1).map (Cel.out (cd o)) = cd l := by rw [← mk_cels ok1.ok, h1]
  have e2 : (celsL rows1).length = l.length := by rw [← cd_len l, ← e1, List.length_map]
  have g2 : ∀ c ∈ celsL rows2, c.ok (celsL rows1).length := by rw [e2]; exact cels_ok ok2.ok
  have g3 := mid_ok (cels_ok ok1.ok) g2
  have g4 : ((celsL rows2).map (midC (celsL rows1))).length ≤ 400 := by rw [List.length_map, cels_len]; exact ok2.sum
  refine ⟨plain_ok g3 g4, ?_⟩
  rw [plain_mk g3 g4, mid_out g2, e1, ← mk_cels ok2.ok, h2]
theorem same_cost {p : Nat} {z : Str} {rows : List CRow} (m : Made p z z rows) (hp : 1 ≤ p) : costL (p : Int) rows = ((p : Nat) : Int) * (if (!decide (z = Str.ofString "")) = true then 1 else 0) := by
  by_cases h : cd z = []
  · have e : z = Str.ofString "" := cd_inj h
    rw [no_rows m h, decide_eq_true e]
    show (p : Int) * ((0 : Nat) : Int) + ((0 : Nat) : Int) = (_ : Int) * 0
    simp
  · have e : ¬ z = Str.ofString "" := fun e => h (by rw [e]; rfl)
    rw [decide_eq_false e]
    obtain ⟨a, n, rfl⟩ := one_copy m hp (by have := in_seg (cd z) 0 (cd z).length; rwa [seg_all] at this) h
    show (p : Int) * ((1 : Nat) : Int) + ((0 + 0 : Nat) : Int) = (_ : Int) * 1
    simp
theorem last_of {cs : List Cel} {i : Nat} {pc : Cel} (h : cs[i]? = some pc) : ∃ r t, plainR (cs.take (i + 1)) = r :: t ∧ ((∃ b m j, r = .copy b m ∧ pc = .pl j ∧ b + m = j + 1) ∨ ∃ s c, r = .put s ∧ pc = .sg c) := by
  obtain ⟨_, q, t, h1, ⟨x, h2⟩, _⟩ := first_len (plainR (cs.take i)) pc
  refine ⟨q, t, (plainR_take h).trans h1, ?_⟩
  cases q with
  | put s =>
    cases pc with
    | sg c => exact .inr ⟨s, c, rfl, rfl⟩
    | pl j =>
      exfalso
      have hm : Cel.pl j ∈ (CRow.put s).cels := by rw [h2]; simp
      obtain ⟨d, _, e⟩ := List.mem_map.mp hm
      cases e
  | copy b m =>
    cases pc with
    | sg c =>
      exfalso
      have hm : Cel.sg c ∈ (CRow.copy b m).cels := by rw [h2]; simp
      obtain ⟨d, _, e⟩ := List.mem_map.mp hm
      cases e
    | pl j =>
      refine .inl ⟨b, m, j, rfl, rfl, ?_⟩
      cases m with
      | zero =>
        have := congrArg List.length h2
        rw [List.length_append] at this
        cases this
      | succ m =>
        have e : (CRow.copy b (m + 1)).cels = (CRow.copy b m).cels ++ [Cel.pl (b + m)] := by
          show (List.range (m + 1)).map _ = _
          rw [List.range_succ, List.map_append]
          rfl
        rw [e] at h2
        have e2 := List.append_inj_right' h2 rfl
        cases e2
        omega
theorem ix_last (us : List V) (x : V) : ixN (us ++ [x]).length (-1) = some us.length := by
  rw [List.length_append]
  show ixN (us.length + 1) (-1) = _
  unfold ixN
  simp
  try omega
theorem set_last (us : List V) (x y : V) : (us ++ [x]).set us.length y = us ++ [y] := by
  rw [List.set_append_right _ _ (Nat.le_refl _), Nat.sub_self]
  rfl
theorem dpa_lastD {K : PySem.W.Frag} {F : Hp} {v : V} {d : PyData} : ∀ {us : List V} {ds : List PyData}, DpAll K F (us ++ [v]) (ds ++ [d]) → Dp K F v d
  | [], [], h => by
    cases h with
    | cons h1 h2 => exact h1
  | [], d2 :: ds, h => by
    have := dpa_len h
    simp at this
  | u :: us, [], h => by
    have := dpa_len h
    simp at this
  | u :: us, d2 :: ds, h => by
    cases h with
    | cons h1 h2 => exact dpa_lastD h2
/-- the rows so far and the cell ahead -/
def LastP (cs : List Cel) (i : Nat) (us : List V) : Prop := (i = 0 ∧ plainR (cs.take i) = []) ∨ ∃ pc r t us' la, 0 < i ∧ cs[i - 1]? = some pc ∧ plainR (cs.take i) = r :: t ∧ us = us' ++ [la] ∧ ((∃ b m j, r = .copy b m ∧ pc = .pl j ∧ b + m = j + 1) ∨ ∃ s c, r = .put s ∧ pc = .sg c)
theorem lastP_mk {cs : List Cel} {i : Nat} {c : Cel} {us' : List V} {p : Addr} (h : cs[i]? = some c) : LastP cs (i + 1) (us' ++ [.ref p]) := by
  obtain ⟨r, t, h1, h2⟩ := last_of h
  exact .inr ⟨c, r, t, us', .ref p, Nat.succ_pos i, h, h1, rfl, h2⟩
theorem cut_to_V (xs : List V) (k : Nat) : cutV xs none (some (k : Int)) = xs.take k := by
  unfold cutV
  rw [HT.sIx_none, HT.sIx_nat, List.drop_zero, Nat.sub_zero]
  by_cases h : k ≤ xs.length
  · rw [Nat.min_eq_left h]
  · rw [Nat.min_eq_right (by omega), List.take_of_length_le (by omega), List.take_of_length_le (by omega)]
theorem cut_from_V (xs : List V) (k : Nat) : cutV xs (some (k : Int)) none = xs.drop k := by
  unfold cutV
  rw [HT.sIx_none, HT.sIx_nat]
  by_cases h : k ≤ xs.length
  · rw [Nat.min_eq_left h]
    exact List.take_of_length_le (by rw [List.length_drop]; exact Nat.le_refl _)
  · rw [Nat.min_eq_right (by omega), Nat.sub_self, List.take_zero, List.drop_eq_nil_of_le (by omega)]
/-- a row as two -/
theorem split_put (s : Str) (k : Nat) : (CRow.put (cutS s none (some (k : Int)))).cels ++ (CRow.put (cutS s (some (k : Int)) none)).cels = (CRow.put s).cels := by
  show (cd _).map Cel.sg ++ (cd _).map Cel.sg = _
  rw [cut_cd_to, cut_cd_from, ← List.map_append, List.take_append_drop]
  rfl
theorem split_copy (a k m : Nat) : (CRow.copy a k).cels ++ (CRow.copy (a + k) m).cels = (CRow.copy a (k + m)).cels := by
  show (List.range k).map _ ++ (List.range m).map _ = (List.range (k + m)).map _
  rw [List.range_add, List.map_append, List.map_map]
  congr 1
  refine List.map_congr_left fun x _ => ?_
  show Cel.pl (a + k + x) = Cel.pl (a + (k + x))
  rw [Nat.add_assoc]
theorem split_rows {n k : Nat} {rows : List CRow} {r r1 r2 : CRow} (hr : rows[k]? = some r) (ok : RowsOk n rows) (h1 : 1 ≤ r1.gives) (h2 : 1 ≤ r2.gives) (he : r1.cels ++ r2.cels = r.cels) : RowsOk n (rows.take k ++ [r1, r2] ++ rows.drop (k + 1)) ∧ celsL (rows.take k ++ [r1, r2] ++ rows.drop (k + 1)) = celsL rows := by
  have e1 : rows = rows.take k ++ [r] ++ rows.drop (k + 1) := by
    have hk := (List.getElem?_eq_some_iff.mp hr).1
    have h3 := List.take_append_drop (k + 1) rows
    rw [List.take_add_one, hr] at h3
    exact h3.symm
  have e2 : celsL (rows.take k ++ [r1, r2] ++ rows.drop (k + 1)) = celsL rows := by
    conv => rhs; rw [e1]
    rw [celsL_app, celsL_app, celsL_app, celsL_app, celsL_one]
    congr 2
    rw [← he]
    show r1.cels ++ (r2.cels ++ []) = _
    rw [List.append_nil]
  refine ⟨rowsOk_of (fun q hq => ?_) (by rw [e2]; exact cels_ok ok.ok) (by rw [e2, cels_len]; exact ok.sum), e2⟩
  rcases List.mem_append.mp hq with hq | hq
  · rcases List.mem_append.mp hq with hq | hq
    · exact (ok.ok q (List.mem_of_mem_take hq)).p
    · simp only [List.mem_cons, List.not_mem_nil, or_false] at hq
      rcases hq with rfl | rfl
      · exact h1
      · exact h2
  · exact (ok.ok q (List.mem_of_mem_drop hq)).p
theorem dpa_takeN {K : PySem.W.Frag} {F : Hp} : ∀ {vs : List V} {ds : List PyData} (n : Nat), DpAll K F vs ds → DpAll K F (vs.take n) (ds.take n)
  | _, _, 0, _ => by rw [List.take_zero, List.take_zero]; exact .nil
  | _, _, n + 1, .nil => by rw [List.take_nil, List.take_nil]; exact .nil
  | _, _, n + 1, .cons h t => .cons h (dpa_takeN n t)
theorem dpa_dropN {K : PySem.W.Frag} {F : Hp} : ∀ {vs : List V} {ds : List PyData} (n : Nat), DpAll K F vs ds → DpAll K F (vs.drop n) (ds.drop n)
  | _, _, 0, h => h
  | _, _, n + 1, .nil => by rw [List.drop_nil, List.drop_nil]; exact .nil
  | _, _, n + 1, .cons h t => dpa_dropN n t
def Cel.d : Cel → PyData
  | .pl i => .int (i : Nat)
  | .sg c => .str ⟨#[c]⟩
theorem dpa_cels {K : PySem.W.Frag} {F : Hp} : ∀ cs : List Cel, DpAll K F (cs.map Cel.v) (cs.map Cel.d)
  | [] => .nil
  | .pl i :: cs => .cons (.int _) (dpa_cels cs)
  | .sg c :: cs => .cons (.str _) (dpa_cels cs)
theorem cels_good {cs : List Cel} {n : Nat} (h : ∀ c ∈ cs, c.ok n) (hl : cs.length ≤ 100000) : good (.list (cs.map Cel.d)) = true ∧ (PyData.list (cs.map Cel.d)).depth ≤ 1 := by
  constructor
  · refine good_list (by rw [List.length_map]; exact hl) fun d hd => ?_
    obtain ⟨c, hc, rfl⟩ := List.mem_map.mp hd
    cases c with
    | pl i => rfl
    | sg c =>
      refine str_good (ok_codes.mpr fun e he => ?_) (by show 1 ≤ _; decide)
      have he' : e ∈ [c] := he
      rw [List.mem_singleton.mp he']
      exact h _ hc
  · refine depth_list fun d hd => ?_
    obtain ⟨c, hc, rfl⟩ := List.mem_map.mp hd
    cases c <;> exact Nat.le_refl _
/-! ### promises -/
def CRow.vals : CRow → List V
  | .put s => [.str "put", .str s]
  | .copy a n => [.str "copy", .int (a : Nat), .int (n : Nat)]
/-- the last row in hand: the one at the end, or a sham one -/
def LastIs (rs : List CRow) (us : List V) (la : Addr) (lv : List V) : Prop := (rs = [] ∧ us = [] ∧ lv = [.str "", .int 0, .int 0]) ∨ ∃ r t us', rs = r :: t ∧ us = us' ++ [.ref la] ∧ lv = r.vals
def φrows_of (K : PySem.W.Frag) : V → Hp → VK → Prop := fun x H Q => ∃ (F : Hp) (a : Addr) (cs : List Cel) (n : Nat), x = .ref a ∧ Same F H ∧ SqL K F a (cs.map Cel.v) ∧ (∀ c ∈ cs, c.ok n) ∧ n ≤ 1000 ∧ cs.length ≤ 400 ∧ ∀ p ys F2 H2, H p = none → W [] F H F2 H2 [mu p (.lst ys), dpa K ys ((plainL cs).map CRow.d)] → Q (.ref p) H2
def φplainest (K : PySem.W.Frag) : V → Hp → VK → Prop := fun x H Q => ∃ (F : Hp) (n : Nat) (rows : List CRow), Same F H ∧ Chg K F x n rows ∧ RowsOk n rows ∧ n ≤ 400 ∧ ∀ v F2 H2, W [] F H F2 H2 [chg K v n (plainL (celsL rows))] → Q v H2
def φundone (K : PySem.W.Frag) : V → V → Hp → VK → Prop := fun x y H Q => ∃ (F : Hp) (o : Str) (rows : List CRow), y = .str o ∧ Same F H ∧ Chg K F x o.length rows ∧ RowsOk o.length rows ∧ okS o ∧ o.length ≤ 400 ∧ ∀ v F2 H2, W [] F H F2 H2 [chg K v (givesL rows) (plainL (backs (celsL rows) (cd o)))] → Q v H2
def φbehind (K : PySem.W.Frag) : V → V → Hp → VK → Prop := fun x y H Q => ∃ (F : Hp) (n : Nat) (rows1 rows2 : List CRow), Same F H ∧ Chg K F x n rows1 ∧ Chg K F y (givesL rows1) rows2 ∧ RowsOk n rows1 ∧ RowsOk (givesL rows1) rows2 ∧ n ≤ 400 ∧ ∀ v F2 H2, W [] F H F2 H2 [chg K v n (plainL ((celsL rows2).map (midC (celsL rows1))))] → Q v H2
def φright14 (K : PySem.W.Frag) : V → V → V → Hp → VK → Prop := fun x y z H Q => ∃ (F : Hp) (o : Str) (a : Addr) (vs : List V) (rows : List CRow) (p : Nat), x = .str o ∧ y = .ref a ∧ z = .int (p : Nat) ∧ Same F H ∧ SqL K F a vs ∧ DpAll K F vs (rows.map CRow.d) ∧ RowsOk o.length rows ∧ okS o ∧ o.length ≤ 400 ∧ 1 ≤ p ∧ p ≤ 20 ∧ ∀ F2 H2, W [] F H F2 H2 [] → Q (.bl true) H2
/-! d.setdefault(k, x), d.get(k, x) with keys that are numbers -/
section
variable {td ty tx : TE} {σ : L2.St} {H : Hp} {Q : VK}
theorem w_dsetK (q : td σ H fun x H1 => ∃ a, x = .ref a ∧ IsD H1 a ∧ ty σ H1 fun y H2 => tx σ H2 fun z H3 => ∃ (kvs : List (Key × V)) (k : Key), H3 a = some (.dK kvs) ∧ y = kV k ∧ kvs.length < sizeLine ∧
  (∀ v, valV kvs k = some v → Q v H3) ∧ (valV kvs k = none → Q z (upd H3 a (.dK (putK kvs k z))))) : tDSetd td ty tx σ H Q := q
theorem w_dget2 (q : td σ H fun x H1 => ∃ a, x = .ref a ∧ IsD H1 a ∧ ty σ H1 fun y H2 => tx σ H2 fun z H3 => ∃ o, DGet H3 a y o ∧ Q (o.getD z) H3) : tDGet2 td ty tx σ H Q := q
end
def φlplain (K : PySem.W.Frag) : V → Hp → VK → Prop := φrows_of K
def φceq (K : PySem.W.Frag) : V → V → Hp → VK → Prop := fun x y H Q => ∃ (F : Hp) (n : Nat) (rows : List CRow), Same F H ∧ Chg K F x n rows ∧ Chg K F y n rows ∧ RowsOk n rows ∧ ∀ F2 H2, W [] F H F2 H2 [] → Q (.bl true) H2
/-- the same cells by rows of which one is split -/
def φsplit (K : PySem.W.Frag) : V → V → Hp → VK → Prop := fun x y H Q => ∃ (F : Hp) (b a : Addr) (vs : List V) (n : Nat) (rows : List CRow), x = .ref b ∧ y = .ref a ∧ St F H [bag K b] ∧ SqL K F a vs ∧ DpAll K F vs (rows.map CRow.d) ∧ RowsOk n rows ∧
  ∀ p ys rows2 F2 H2, H p = none → W [b] F H F2 H2 [mu p (.lst ys), dpa K ys (rows2.map CRow.d), bag K b] → RowsOk n rows2 → celsL rows2 = celsL rows → Q (.ref p) H2
end R

namespace R
open PySem PySem.StrLaws Builtin.Str L2
/-! ### a sign so many times -/
theorem fold_rep (c : Nat) : ∀ (n : Nat) (a : Array Nat), ((List.replicate n #[c]).foldl (· ++ ·) a).toList = a.toList ++ List.replicate n c
  | 0, a => by simp
  | n + 1, a => by
    rw [List.replicate_succ, List.foldl_cons, fold_rep c n, Array.toList_append, List.append_assoc]
    rfl
def mulSG : R2 := fun x y H Q => ∃ (c n : Nat), x = .str ⟨#[c]⟩ ∧ y = .int (n : Nat) ∧ n ≤ 100000 ∧ ∀ s : Str, cd s = List.replicate n c → Q (.str s) H
theorem opMulS {X : Cx} : OpR X (binaryOp .Mult) mulSG := by
  intro pins s σ H x y v u Q I rx ry h
  obtain ⟨c, n, rfl, rfl, hn, q⟩ := h
  obtain ⟨t, rfl⟩ := rx
  obtain ⟨t', rfl⟩ := ry
  refine P.mul_str ?_ (fun h1 _ => ?_) (fun _ _ => ?_) ?_
  · rw [Bool.or_eq_false_iff]
    exact ⟨decide_eq_false (by omega), decide_eq_false (by omega)⟩
  · have : (1 : Int) ≤ (2 ^ 63 - 1) / ((n : Nat) : Int) := Int.le_ediv_of_mul_le (by omega) (by omega)
    show ¬ ((1 : Nat) : Int) > _
    omega
  · show tooLong (1 * ((n : Nat) : Int).toNat) = false
    unfold tooLong
    have e := small_lt (n := n) (by omega)
    have e2 : 1 * ((n : Nat) : Int).toNat = n := by simp
    rw [e2]
    exact decide_eq_false (by omega)
  · by_cases h1 : ((n : Nat) : Int) < 1
    · rw [if_pos h1]
      have e : n = 0 := by omega
      subst e
      exact ⟨by decide, .str Str.empty, H, I.tok _, ⟨_, rfl⟩, q _ rfl⟩
    · rw [if_neg h1]
      by_cases h2 : n = 1
      · subst h2
        exact ⟨.str ⟨#[c]⟩, H, I.tok _, ⟨_, rfl⟩, q _ rfl⟩
      · rw [if_neg (by
          show ¬ ((((n : Nat) : Int) == 1) || ((1 : Nat) == 0)) = true
          simp
          omega)]
        refine ⟨?_, .str _, H, I.tok _, ⟨_, rfl⟩, q _ ?_⟩
        · have e : (⟨(List.replicate ((n : Nat) : Int).toNat #[c]).foldl (· ++ ·) #[]⟩ : Str).length = n := by
            rw [← cd_len]
            show ((List.replicate ((n : Nat) : Int).toNat #[c]).foldl (· ++ ·) #[]).toList.length = n
            rw [fold_rep]
            simp
          have e2 := small_lt (n := n) (by omega)
          show (⟨(List.replicate ((n : Nat) : Int).toNat #[c]).foldl (· ++ ·) #[]⟩ : Str).length ≤ sizeLine
          omega
        · show ((List.replicate ((n : Nat) : Int).toNat #[c]).foldl (· ++ ·) #[]).toList = _
          rw [fold_rep]
          rfl
/-! ### == of cells -/
theorem eqv_cel (a b : Cel) : PyData.eqv a.d b.d = decide (a = b) := by
  cases a with
  | pl i =>
    cases b with
    | pl j =>
      show (((i : Nat) : Int) == ((j : Nat) : Int)) = _
      rw [Bool.eq_iff_iff, beq_iff_eq, decide_eq_true_eq]
      constructor
      · intro h
        rw [show i = j by omega]
      · intro h
        cases h
        rfl
    | sg c => exact (decide_eq_false (fun h => by cases h)).symm
  | sg c =>
    cases b with
    | pl j => exact (decide_eq_false (fun h => by cases h)).symm
    | sg d =>
      show ((⟨#[c]⟩ : Str) == ⟨#[d]⟩) = _
      rw [Bool.eq_iff_iff, beq_iff_eq, decide_eq_true_eq]
      constructor
      · intro h
        cases h
        rfl
      · intro h
        cases h
        rfl
theorem eqv_cels : ∀ cs ds : List Cel, PyData.eqvAll (cs.map Cel.d) (ds.map Cel.d) = decide (cs = ds)
  | [], [] => rfl
  | [], _ :: _ => rfl
  | _ :: _, [] => rfl
  | a :: cs, b :: ds => by
    show (PyData.eqv a.d b.d && PyData.eqvAll (cs.map Cel.d) (ds.map Cel.d)) = _
    rw [eqv_cel, eqv_cels cs ds, Bool.eq_iff_iff, Bool.and_eq_true, decide_eq_true_eq, decide_eq_true_eq, decide_eq_true_eq, List.cons.injEq]
theorem dp_cel {K : PySem.W.Frag} {F : Hp} (c : Cel) : Dp K F c.v c.d := by
  cases c with
  | pl i => exact .int _
  | sg c => exact .str _
theorem cel_good {c : Cel} {n : Nat} (h : c.ok n) : SeqAt.shaped c.d = true := by
  cases c with
  | pl i => exact good_shaped rfl (by show (0 : Nat) ≤ 64; decide)
  | sg c =>
    refine good_shaped (str_good (ok_codes.mpr fun e he => ?_) (by show 1 ≤ _; decide)) (by show (0 : Nat) ≤ 64; decide)
    have he' : e ∈ [c] := he
    rw [List.mem_singleton.mp he']
    exact h
section
variable {K : PySem.W.Frag} {H : Hp} {Q : VK}
theorem n_eqC {a b : Cel} {n m : Nat} (ha : a.ok n) (hb : b.ok m) (q : Q (.bl (decide (a = b))) H) : rEqD K a.v b.v H Q := ⟨a.d, b.d, dp_cel a, dp_cel b, cel_good ha, cel_good hb, by rw [eqv_cel]; exact q⟩
theorem n_neC {a b : Cel} {n m : Nat} (ha : a.ok n) (hb : b.ok m) (q : Q (.bl (!decide (a = b))) H) : rNeD K a.v b.v H Q := ⟨a.d, b.d, dp_cel a, dp_cel b, cel_good ha, cel_good hb, by rw [eqv_cel]; exact q⟩
theorem n_eqCs {p r : Addr} {cs ds : List Cel} {n m : Nat} (hp : SqL K H p (cs.map Cel.v)) (hr : SqL K H r (ds.map Cel.v)) (ha : ∀ c ∈ cs, c.ok n) (hb : ∀ c ∈ ds, c.ok m) (la : cs.length ≤ 100000) (lb : ds.length ≤ 100000) (q : Q (.bl (decide (cs = ds))) H) : rEqD K (.ref p) (.ref r) H Q := by
  have g1 := cels_good ha la
  have g2 := cels_good hb lb
  refine ⟨_, _, .lst hp (dpa_cels cs), .lst hr (dpa_cels ds), good_shaped g1.1 (Nat.le_trans g1.2 (by decide)), good_shaped g2.1 (Nat.le_trans g2.2 (by decide)), ?_⟩
  show Q (.bl (PyData.eqvAll (cs.map Cel.d) (ds.map Cel.d))) H
  rw [eqv_cels]
  exact q
end
theorem sA : Str.ofString "a" = ⟨#[97]⟩ := by decide +kernel
theorem sB : Str.ofString "b" = ⟨#[98]⟩ := by decide +kernel
/-- a's, a b at some place -/
def partL (n : Nat) (k : Option Nat) : List Nat := match k with
  | none => List.replicate n 97
  | some i => (List.replicate n 97).set i 98
theorem part_len (n : Nat) (k : Option Nat) : (partL n k).length = n := by
  cases k <;> simp [partL]
theorem part_ab (n : Nat) (k : Option Nat) : ∀ c ∈ partL n k, c = 97 ∨ c = 98 := by
  intro c hc
  cases k with
  | none => exact .inl (List.eq_of_mem_replicate hc)
  | some i =>
    rcases List.mem_or_eq_of_mem_set hc with h | h
    · exact .inl (List.eq_of_mem_replicate h)
    · exact .inr h
theorem part_at {n : Nat} {k : Option Nat} {i : Nat} (h : i < n) : (partL n k).getD i 0 = if k = some i then 98 else 97 := by
  cases k with
  | none =>
    rw [if_neg (by simp)]
    show (List.replicate n 97).getD i 0 = 97
    rw [List.getD_eq_getElem?_getD, List.getElem?_replicate, if_pos h]
    rfl
  | some j =>
    show ((List.replicate n 97).set j 98).getD i 0 = _
    rw [List.getD_eq_getElem?_getD, List.getElem?_set]
    by_cases e : j = i
    · subst e
      rw [if_pos rfl, if_pos (by rw [List.length_replicate]; exact h), if_pos rfl]
      rfl
    · rw [if_neg e, List.getElem?_replicate, if_pos h, if_neg (by simp [e])]
      rfl
def pickK : Cel → Cel → Option Nat
  | .pl i, .pl _ => some i
  | .pl i, .sg c => if c = 97 then some i else none
  | .sg c, .pl j => if c = 97 then some j else none
  | .sg _, .sg _ => none
def firstK : Cel → Cel → Option Nat
  | .sg _, _ => none
  | .pl i, b => pickK (.pl i) b
theorem pick_parts {n : Nat} {a b : Cel} (ha : a.ok n) (hb : b.ok n) (h : a ≠ b) : a.out (partL n (pickK a b)) ≠ b.out (partL n (pickK a b)) := by
  cases a with
  | pl i =>
    cases b with
    | pl j =>
      show (partL n (some i)).getD i 0 ≠ (partL n (some i)).getD j 0
      rw [part_at ha, part_at hb, if_pos rfl, if_neg (by intro e; cases e; exact h rfl)]
      decide
    | sg c =>
      show (partL n (if c = 97 then some i else none)).getD i 0 ≠ c
      rw [part_at ha]
      by_cases e : c = 97
      · rw [if_pos e, if_pos rfl, e]
        decide
      · rw [if_neg e, if_neg (by simp)]
        exact fun z => e z.symm
  | sg c =>
    cases b with
    | pl j =>
      show c ≠ (partL n (if c = 97 then some j else none)).getD j 0
      rw [part_at hb]
      by_cases e : c = 97
      · rw [if_pos e, if_pos rfl, e]
        decide
      · rw [if_neg e, if_neg (by simp)]
        exact e
    | sg d =>
      show c ≠ d
      intro e
      rw [e] at h
      exact h rfl
/-- a text that parts these cells -/
structure Parts (n : Nat) (s : Str) (cs ds : List Cel) : Prop where
  len : s.length = n
  ab : ∀ c ∈ cd s, c = 97 ∨ c = 98
  ne : cs.map (Cel.out (cd s)) ≠ ds.map (Cel.out (cd s))
theorem parts_at {n k : Nat} {s : Str} {cs ds : List Cel} {a b : Cel} (hl : s.length = n) (hab : ∀ c ∈ cd s, c = 97 ∨ c = 98) (ha : cs[k]? = some a) (hb : ds[k]? = some b) (h : a.out (cd s) ≠ b.out (cd s)) : Parts n s cs ds := by
  refine ⟨hl, hab, fun e => h ?_⟩
  have e2 := congrArg (fun l => l[k]?) e
  simp only [List.getElem?_map, ha, hb, Option.map_some, Option.some.injEq] at e2
  exact e2
theorem parts_len {n : Nat} {s : Str} {cs ds : List Cel} (hl : s.length = n) (hab : ∀ c ∈ cd s, c = 97 ∨ c = 98) (h : cs.length ≠ ds.length) : Parts n s cs ds := by
  refine ⟨hl, hab, fun e => h ?_⟩
  have e2 := congrArg List.length e
  rwa [List.length_map, List.length_map] at e2
theorem ab_ok {s : Str} (h : ∀ c ∈ cd s, c = 97 ∨ c = 98) : okS s := ok_codes.mpr fun c hc => by
  rcases h c hc with rfl | rfl <;> decide
theorem ab_in {c : Nat} (h : c = 97 ∨ c = 98) : inB (cd sig93) (cd ⟨#[c]⟩) = true := by
  rcases h with rfl | rfl <;> decide +kernel
theorem rep_as (n : Nat) : (List.replicate n [V.str ⟨#[97]⟩]).flatten = (List.replicate n 97).map fun c => V.str ⟨#[c]⟩ := by
  induction n with
  | zero => rfl
  | succ n ih =>
    rw [List.replicate_succ, List.flatten_cons, ih, List.replicate_succ, List.map_cons]
    rfl
theorem flat_ones : ∀ l : List Nat, (l.map fun c => (⟨#[c]⟩ : Str)).flatMap cd = l
  | [] => rfl
  | c :: l => by
    rw [List.map_cons, List.flatMap_cons, flat_ones l]
    rfl
theorem part_ones (n : Nat) (k : Option Nat) : ∀ y ∈ (partL n k).map fun c => (⟨#[c]⟩ : Str), y.length = 1 ∧ okS y := by
  intro y hy
  obtain ⟨c, hc, rfl⟩ := List.mem_map.mp hy
  refine ⟨rfl, ok_codes.mpr fun d hd => ?_⟩
  have hd' : d ∈ [c] := hd
  rw [List.mem_singleton.mp hd']
  rcases part_ab n k c hc with rfl | rfl <;> decide
theorem part_set {n i : Nat} : ((partL n none).map fun c => V.str ⟨#[c]⟩).set i (V.str ⟨#[98]⟩) = (partL n (some i)).map fun c => V.str ⟨#[c]⟩ := by
  show ((List.replicate n 97).map _).set i _ = ((List.replicate n 97).set i 98).map _
  rw [List.map_set]
theorem ok97 : (Cel.sg 97).ok 0 := by show 97 < 0x110000; decide
theorem ix_nat {n i : Nat} (h : i < n) : ixN n (i : Int) = some i := by
  unfold ixN
  rw [if_pos (by omega), if_pos (by omega)]
  simp
theorem cut_init (xs : List V) : cutV xs none (some (-1)) = xs.take (xs.length - 1) := by
  unfold cutV
  rw [HT.sIx_none, List.drop_zero, Nat.sub_zero]
  congr 1
  unfold HT.sIx
  simp
  omega
theorem one_sign {s : Str} (h : s.length = 1) (ok : okS s) : ∃ c, s = ⟨#[c]⟩ ∧ (Cel.sg c).ok 0 := by
  rw [← cd_len] at h
  match e : cd s, h with
  | [c], _ =>
    have e2 : s = ⟨#[c]⟩ := cd_inj e
    exact ⟨c, e2, ok_codes.mp ok c (by rw [e]; exact List.mem_singleton.mpr rfl)⟩
/-- one cell put anew -/
theorem bent_ok {n k : Nat} {cs : List Cel} {c : Cel} (h : ∀ x ∈ cs, x.ok n) (hc : c.ok n) : ∀ x ∈ cs.take k ++ [c] ++ cs.drop (k + 1), x.ok n := by
  intro x hx
  rcases List.mem_append.mp hx with hx | hx
  · rcases List.mem_append.mp hx with hx | hx
    · exact h x (List.mem_of_mem_take hx)
    · rw [List.mem_singleton.mp hx]
      exact hc
  · exact h x (List.mem_of_mem_drop hx)
/-! ### promises -/
def φpt (K : PySem.W.Frag) : V → V → V → Hp → VK → Prop := fun x y z H Q => ∃ (F : Hp) (n : Nat) (a b : Cel), x = .int (n : Nat) ∧ y = a.v ∧ z = b.v ∧ Same F H ∧ a.ok n ∧ b.ok n ∧ a ≠ b ∧ n ≤ 400 ∧
  ∀ (s : Str) F2 H2, W [] F H F2 H2 [] → s.length = n → (∀ c ∈ cd s, c = 97 ∨ c = 98) → a.out (cd s) ≠ b.out (cd s) → Q (.str s) H2
def φparting (K : PySem.W.Frag) : V → V → Hp → VK → Prop := fun x y H Q => ∃ (F : Hp) (n : Nat) (rows1 rows2 : List CRow), Same F H ∧ Chg K F x n rows1 ∧ Chg K F y n rows2 ∧ RowsOk n rows1 ∧ RowsOk n rows2 ∧ n ≤ 400 ∧
  ∀ v F2 H2, W [] F H F2 H2 [] → ((celsL rows1 = celsL rows2 ∧ v = .non) ∨ (celsL rows1 ≠ celsL rows2 ∧ ∃ s, v = .str s ∧ Parts n s (celsL rows1) (celsL rows2))) → Q v H2
def φbent (K : PySem.W.Frag) : V → V → V → Hp → VK → Prop := fun x y z H Q => ∃ (F : Hp) (b a : Addr) (n : Nat) (cs : List Cel), x = .ref b ∧ y = .int (n : Nat) ∧ z = .ref a ∧ St F H [bag K b] ∧ SqL K F a (cs.map Cel.v) ∧ (∀ c ∈ cs, c.ok n) ∧ n ≤ 400 ∧ cs.length ≤ 400 ∧
  ∀ p (ds : List Cel) F2 H2, H p = none → W [b] F H F2 H2 [mu p (.lst (ds.map Cel.v)), bag K b] → (∀ c ∈ ds, c.ok n) → ds.length ≤ 400 → Q (.ref p) H2
def φparted (K : PySem.W.Frag) : V → V → Hp → VK → Prop := fun x y H Q => ∃ (F : Hp) (b a : Addr) (n : Nat) (cs : List Cel), x = .ref b ∧ y = .ref a ∧ St F H [bag K b] ∧ SqL K F a (cs.map Cel.v) ∧ (∀ c ∈ cs, c.ok n) ∧ n ≤ 400 ∧ cs.length ≤ 400 ∧
  ∀ p ys rows F2 H2, H p = none → W [b] F H F2 H2 [mu p (.lst ys), dpa K ys (rows.map CRow.d), bag K b] → RowsOk n rows → celsL rows = cs → Q (.ref p) H2
def φright06 (K : PySem.W.Frag) : V → V → V → V → Hp → VK → Prop := fun x y z u H Q => ∃ (F : Hp) (a1 a2 : Addr) (n : Nat) (cs ds : List Cel), y = .int (n : Nat) ∧ z = .ref a1 ∧ u = .ref a2 ∧ Same F H ∧ SqL K F a1 (cs.map Cel.v) ∧ SqL K F a2 (ds.map Cel.v) ∧ (∀ c ∈ cs, c.ok n) ∧ (∀ c ∈ ds, c.ok n) ∧ n ≤ 400 ∧ cs.length ≤ 400 ∧ ds.length ≤ 400 ∧
  ((cs = ds ∧ x = .non) ∨ (cs ≠ ds ∧ ∃ s, x = .str s ∧ Parts n s cs ds)) ∧ ∀ F2 H2, W [] F H F2 H2 [] → Q (.bl true) H2
theorem ones_cels : ∀ cs : List Cel, celsL (cs.map CRow.one) = cs
  | [] => rfl
  | c :: cs => by
    show (CRow.one c).cels ++ celsL (cs.map CRow.one) = _
    rw [one_cels, ones_cels cs]
    rfl
theorem ones_ok {n : Nat} {cs : List Cel} (h : ∀ c ∈ cs, c.ok n) (hl : cs.length ≤ 400) : RowsOk n (cs.map CRow.one) := rowsOk_of (fun r hr => by
    obtain ⟨c, hc, rfl⟩ := List.mem_map.mp hr
    cases c <;> exact Nat.le_refl _) (by rw [ones_cels]; exact h) (by rw [ones_cels]; exact hl)
end R

namespace R
open PySem PySem.Spec PyProof.Rows L2
/-! ### defs that raise an own exception, caught by except of its class -/
def SX1 (φ : V → Hp → VK → XK → Prop) : Sp := fun vs H Q E => match vs with | [x] => φ x H Q E | _ => False
def SX2 (φ : V → V → Hp → VK → XK → Prop) : Sp := fun vs H Q E => match vs with | [x, y] => φ x y H Q E | _ => False
def SX3 (φ : V → V → V → Hp → VK → XK → Prop) : Sp := fun vs H Q E => match vs with | [x, y, z] => φ x y z H Q E | _ => False
theorem SX1.len {φ : V → Hp → VK → XK → Prop} {vs : List V} {H : Hp} {Q : VK} {E : XK} (h : SX1 φ vs H Q E) : vs.length = 1 := by
  match vs, h with
  | [_], _ => rfl
theorem SX2.len {φ : V → V → Hp → VK → XK → Prop} {vs : List V} {H : Hp} {Q : VK} {E : XK} (h : SX2 φ vs H Q E) : vs.length = 2 := by
  match vs, h with
  | [_, _], _ => rfl
theorem SX3.len {φ : V → V → V → Hp → VK → XK → Prop} {vs : List V} {H : Hp} {Q : VK} {E : XK} (h : SX3 φ vs H Q E) : vs.length = 3 := by
  match vs, h with
  | [_, _, _], _ => rfl
structure DOX (P : Program) (w : World) (K : PySem.W.Frag) (mg : Str → Option Value) (base : Heap) (k : Nat) (x : Str) (ps : List Str) (sp : Sp) : Prop where
  ex : ∃ (f : Addr) (fd : FuncData), FnOk P w K mg base (L2.CX P w) k f fd ps sp ∧ mg x = some (.ref f) ∧ PySem.W.keepIn K (.ref f) = true ∧ Binds K fd ps []
structure DMX (P : Program) (w : World) (K : PySem.W.Frag) (mg : Str → Option Value) (base : Heap) (k : Nat) (C m : Str) (ps : List Str) (sp : Sp) : Prop where
  ex : ∃ (fd : FuncData), FnOk P w K mg base (L2.CX P w) k (He.ma K (He.ga K C) m) fd ps sp ∧ Meth K (He.ga K C) m (He.ma K (He.ga K C) m) ∧ Cls K (He.ga K C) ∧ Binds K fd ps []
/-- an own class of exceptions over ValueError, without own __init__ -/
structure EC (K : PySem.W.Frag) (mg : Str → Option Value) (C : Str) : Prop where
  g : mg C = some (.ref (He.ga K C))
  x : PySem.W.excIn K (He.ga K C) He.veBase "ValueError.__new__" = true
  k : PySem.W.keepIn K (.ref (He.ga K C)) = true
  s : PySem.W.subIn K (.ref (He.ga K C)) (.type "BaseException") = some true
  t : PySem.W.typeIn K (.ref (He.ga K C)) = some (.type "type")
  m : PySem.W.exmOne K (.ref (He.ga K C)) (.ref (He.ga K C)) = some true
theorem ec_ok {K : PySem.W.Frag} {mg : Str → Option Value} {C : Str} (g : mg C = some (.ref (He.ga K C)))
    (h : PySem.W.excIn K (He.ga K C) He.veBase "ValueError.__new__" = true ∧ PySem.W.keepIn K (.ref (He.ga K C)) = true ∧ PySem.W.subIn K (.ref (He.ga K C)) (.type "BaseException") = some true ∧ PySem.W.typeIn K (.ref (He.ga K C)) = some (.type "type"))
    (m : PySem.W.exmOne K (.ref (He.ga K C)) (.ref (He.ga K C)) = some true) : EC K mg C := ⟨g, h.1, h.2.1, h.2.2.1, h.2.2.2, m⟩
theorem PS.nox {X : Cx} {st : Stmt} {t : TS} (h : PS X.nox st t) : PS X st t := ⟨fun pins s σ H D I hw =>
  wpAny_mono (h.run pins s σ H D (I.wish _) hw) (fun _ _ q => q.unwish) fun _ _ z => False.elim z⟩
section
variable {X : Cx} {CX : CXT} {k j : Nat} {f C : Addr} {fd : FuncData} {ps : List Str} {sp : Sp} {E : L2.St → XK} {x m : Str} {p pos apos : Pos} {e o : Expr} {es : List Expr} {ta : TE} {t : TA} {W : WX} {pl : Sem Bool}
theorem pcallX (D : DOX X.prog X.w X.K X.mg X.base k x ps sp) (hr : Room j X.A) (tk : Takes X W) (ha : PA X (e :: es) t) (hj : k ≤ j := by first | decide | exact Nat.le_refl _ | omega) (hg : Gl X x := by rfl) (hdb : (x == ("__debug__" : Str)) = false := by decide)
    (he : starEach (e :: es) X.env = (false, eval e X.env) :: starEach es X.env := by rfl) (hpl : (backTo pos (starEach es X.env)).any (·.1) = false := by rfl) :
    PE X (.Call (.Name x p) (e :: es) [] pos) (tCallS sp (WE W) t) := by
  obtain ⟨f, fd, F, hm, hk, hb⟩ := D.ex
  exact pe_callS F (hr.mono hj) hg hm hk hb (fun σ => passAt tk σ) ha hdb he hpl
def tMethS (C : Addr) (m : Str) (sp : Sp) (E : L2.St → XK) (ta : TE) (t : TA) : TE := fun σ H Q => ta σ H fun x H1 => ∃ a dx fs, x = .ref a ∧ H1 a = some (.ins C dx fs) ∧ fs.lookup m = none ∧ t σ H1 fun vs H2 => sp (x :: vs) H2 Q (E σ)
theorem pe_methS2 (he : PE X o ta) (c : Cls X.K C) (hm : Meth X.K C m f) (F : FnOk X.prog X.w X.K X.mg X.base CX k f fd ps sp) (hr : Room k X.A) (hb : Binds X.K fd ps []) (hx : ∀ σ, PassesAt CX X σ (E σ)) (ha : PA X (e :: es) t)
    (hst : starEach (e :: es) X.env = (false, eval e X.env) :: starEach es X.env := by rfl) (hpl : (backTo pos (starEach es X.env)).any (·.1) = false := by rfl)
    (ht : eval (.Call (.Attribute o m apos) (e :: es) [] pos) X.env = (do
      let ov ← eval o X.env
      standAt apos.atName
      let (f, first) ← holding [ov] (getMethod ov m pl)
      callWith pos f first (backTo pos (starEach (e :: es) X.env)) (backToKw pos (keywordEach [] X.env))) := by rfl) :
    PE X (.Call (.Attribute o m apos) (e :: es) [] pos) (tMethS C m sp E ta t) := by
  refine ⟨fun pins s σ H Q I h => ?_⟩
  refine PySem.W.methodCall_KW (pl := pl) (thn (he.run pins s σ H _ I h) fun u s1 ⟨x, H1, I1, rx, a, dx, fs, ex, ea, l, q⟩ => ?_) ht
  subst ex
  obtain rfl : u = Value.ref a := rx
  refine getmeth_ok I1 ea c hm l ?_
  refine PySem.W.callWith_K (first := [.ref a]) (h₀ := X.base) I.ok.mod.kin hm.kp (thn (ha.run pos pins s1 σ H1 _ I1 q) fun us s2 ⟨vs, H2, I2, r, q2⟩ => ⟨I2.kIn, ?_⟩) hst hpl
  exact run_fnS (us := .ref a :: us) (vs := .ref a :: vs) F hr hb (hx σ) I2 (.cons rfl r) q2
theorem pmethX {K : PySem.W.Frag} (D : DMX X.prog X.w K X.mg X.base k x m ps sp) (hr : Room j X.A) (tk : Takes X W) (he : PE X o ta) (ha : PA X (e :: es) t) (hj : k ≤ j := by first | decide | exact Nat.le_refl _ | omega)
    (h1 : starEach (e :: es) X.env = (false, eval e X.env) :: starEach es X.env := by rfl) (h2 : (backTo pos (starEach es X.env)).any (·.1) = false := by rfl)
    (h3 : eval (.Call (.Attribute o m apos) (e :: es) [] pos) X.env = (eval o X.env >>= fun ov => standAt apos.atName >>= fun _ => holding [ov] (getMethod ov m pl) >>= fun q =>
      callWith pos q.1 q.2 (backTo pos (starEach (e :: es) X.env)) (backToKw pos (keywordEach [] X.env))) := by rfl) (hK : X.K = K := by rfl) :
    PE X (.Call (.Attribute o m apos) (e :: es) [] pos) (tMethS (He.ga K x) m sp (WE W) ta t) := by
  subst hK
  obtain ⟨fd, F, M, c, hb⟩ := D.ex
  exact pe_methS2 he c M F (hr.mono hj) hb (fun σ => passAt tk σ) ha h1 h2 h3
/-- raise C('..') -/
def tRaiseO (K : PySem.W.Frag) (C : Str) (W : WX) : TS := fun _ σ H => W (.ref (He.ga K C)) none σ H
theorem ps_raiseO {C : Str} {z : Str} {jj : Nat} {p2 pos3 : Pos} (c : EC X.K X.mg C) (tk : Takes X W) (hc : X.calm = true) (hg : Gl X C := by rfl) (hdb : (C == ("__debug__" : Str)) = false := by decide) :
    PS X (.Raise (some (.Call (.Name C p) [.Constant (.str z) jj p2] [] pos)) none pos3) (tRaiseO X.K C W) :=
  ps_raise hc tk (pmk_own PySem.F.excBase_ValueError c.x c.g c.k (raises_own c.s c.t) hg hdb)
/-- try: .. except C: .. -/
def wTry (K : PySem.W.Frag) (C : Addr) (ts : TS) (D : Ends) : WX := wOnly K (.ref C) (fun _ _ _ => ts) (fun _ _ _ _ => False) D
def tTry (K : PySem.W.Frag) (C : Addr) (tb : WX → TS) (ts : TS) : TS := fun D σ H => tb (wTry K C ts D) D σ H
theorem ps_tryO {C : Str} {body suite : List Stmt} {b₀ : Stmt} {np pos' : Pos} {tb : WX → TS} {ts : TS} (c : EC X.K X.mg C) (hs : X.stack = X.env :: X.outer) (hf : X.env.frame = some X.env.locals) (hg : Gl X C)
    (hb : ∀ (W : WX) (pn : List (Addr × Obj)) (xe : Value → Shared → Prop), Takes (X.tr pn xe) W → PSs (X.tr pn xe) body (tb W))
    (hsu : ∀ (a : Addr) (pn : List (Addr × Obj)), PSs (X.suite a pn) (b₀ :: suite) ts) (hdb : (C == ("__debug__" : Str)) = false := by decide) :
    PS X (.Try body [.ExceptHandler (some (.Name C np)) none (b₀ :: suite) pos'] [] [] pos) (tTry X.K (He.ga X.K C) tb ts) :=
  ps_try_only (Wout := fun _ _ _ _ => False) hs hf ⟨hg, hdb, .inl c.g⟩ takes0 (fun W pn xe tk _ => hb W pn xe tk) (fun a oe cls d pn _ _ => hsu a ((a, oe) :: pn))
end
section
variable {K : PySem.W.Frag} {mg : Str → Option Value} {σ : L2.St} {H : Hp} {Q : VK} {E : XK} {C : Str} {D : Ends} {W : WX} {tb : WX → TS} {ts : TS} {sp : Sp} {m : Str} {ta : TE} {t : TA} {Cc : Addr} {EE : L2.St → XK}
theorem x_try (q : tb (wTry K Cc ts D) D σ H) : tTry K Cc tb ts D σ H := q
theorem w_caught (c : EC K mg C) (q : ts D σ H) : wTry K (He.ga K C) ts D (.ref (He.ga K C)) none σ H := ⟨true, c.m, fun _ _ _ => q, fun z => nomatch z⟩
theorem x_callS (q : t σ H fun vs H1 => sp vs H1 Q (EE σ)) : tCallS sp EE t σ H Q := q
theorem x_methS (q : ta σ H fun x H1 => mthG Cc m x H1 (t σ H1 fun vs H2 => sp (x :: vs) H2 Q (EE σ))) : tMethS Cc m sp EE ta t σ H Q := by
  unfold tMethS
  refine cast ?_ q
  congr 1
  funext x H1
  unfold mthG
  refine propext ⟨?_, ?_⟩
  · rintro ⟨⟨a, dx, fs, h1, h2, h3⟩, h4⟩
    exact ⟨a, dx, fs, h1, h2, h3, h4⟩
  · rintro ⟨a, dx, fs, h1, h2, h3, h4⟩
    exact ⟨⟨a, dx, fs, h1, h2, h3⟩, h4⟩
theorem x_raise (q : W (.ref (He.ga K C)) none σ H) : tRaiseO K C W D σ H := q
end
/-! ### promises -/
/-- a text of another size -/
def φdoneX (K : PySem.W.Frag) : V → V → Hp → VK → XK → Prop := fun x y H Q E => ∃ (F : Hp) (n : Nat) (rows : List CRow) (o : Str), y = .str o ∧ Same F H ∧ Chg K F x n rows ∧ n ≤ 1000 ∧ o.length ≤ 1000000 ∧ o.length ≠ n ∧
  ∀ F2 H2, W [] F H F2 H2 [] → E (.ref (He.ga K "BadSize")) none H2
def φrefD (K : PySem.W.Frag) : V → V → Hp → VK → Prop := fun x y H Q => ∃ (F : Hp) (n : Nat) (rows : List CRow) (o : Str), y = .str o ∧ Same F H ∧ Chg K F x n rows ∧ n ≤ 1000 ∧ o.length ≤ 1000000 ∧ o.length ≠ n ∧
  ∀ F2 H2, W [] F H F2 H2 [] → Q (.bl true) H2
/-- a change of another size -/
def φbehindX (K : PySem.W.Frag) : V → V → Hp → VK → XK → Prop := fun x y H Q E => ∃ (F : Hp) (n m : Nat) (rows1 rows2 : List CRow), Same F H ∧ Chg K F x n rows1 ∧ Chg K F y m rows2 ∧ RowsOk n rows1 ∧ n ≤ 1000 ∧ m ≤ 1000 ∧ m ≠ givesL rows1 ∧
  ∀ F2 H2, W [] F H F2 H2 [] → E (.ref (He.ga K "BadSize")) none H2
def φrefB (K : PySem.W.Frag) : V → V → Hp → VK → Prop := fun x y H Q => ∃ (F : Hp) (n m : Nat) (rows1 rows2 : List CRow), Same F H ∧ Chg K F x n rows1 ∧ Chg K F y m rows2 ∧ RowsOk n rows1 ∧ n ≤ 1000 ∧ m ≤ 1000 ∧ m ≠ givesL rows1 ∧
  ∀ F2 H2, W [] F H F2 H2 [] → Q (.bl true) H2
end R

namespace R
open PySem L2
theorem clip400 (o : Int) : ∃ m : Nat, (if (if o < 400 then o else 400) > 0 then (if o < 400 then o else 400) else 0) = (m : Int) ∧ m ≤ 400 := by
  by_cases h : o < 400
  · rw [if_pos h]
    by_cases h2 : o > 0
    · rw [if_pos h2]
      exact ⟨o.toNat, by omega, by omega⟩
    · rw [if_neg h2]
      exact ⟨0, rfl, by omega⟩
  · rw [if_neg h, if_pos (by decide)]
    exact ⟨400, rfl, by omega⟩
/-! ### the first place of a cell -/
theorem eqV_cel (c : Cel) (i : Nat) : eqV c.v (.int (i : Nat)) = decide (c = .pl i) := by
  cases c with
  | pl j =>
    show (((j : Nat) : Int) == ((i : Nat) : Int)) = _
    rw [Bool.eq_iff_iff, beq_iff_eq, decide_eq_true_eq]
    constructor
    · intro h
      rw [show j = i by omega]
    · intro h
      cases h
      rfl
  | sg c => exact (decide_eq_false (fun h => by cases h)).symm
theorem cels_flat (cs : List Cel) : (cs.map Cel.v).all flatV = true := by
  rw [List.all_eq_true]
  intro v hv
  obtain ⟨c, _, rfl⟩ := List.mem_map.mp hv
  cases c <;> rfl
theorem first_none {cs : List Cel} : ∀ {k i : Nat}, firstTo cs k i = none → ∀ m, m < k → cs[m]? ≠ some (.pl i)
  | 0, _, _, m, h => absurd h (Nat.not_lt_zero m)
  | k + 1, i, h, m, hm => by
    unfold firstTo at h
    cases e : firstTo cs k i with
    | some j => rw [e] at h; cases h
    | none =>
      rw [e] at h
      by_cases e2 : m = k
      · subst e2
        intro z
        rw [if_pos z] at h
        cases h
      · exact first_none e m (by omega)
theorem first_min {cs : List Cel} : ∀ {k i j : Nat}, firstTo cs k i = some j → ∀ m, m < j → cs[m]? ≠ some (.pl i)
  | 0, _, _, h, _, _ => nomatch h
  | k + 1, i, j, h, m, hm => by
    unfold firstTo at h
    cases e : firstTo cs k i with
    | some j2 =>
      rw [e] at h
      have h2 : j2 = j := Option.some.inj h
      subst h2
      exact first_min e m hm
    | none =>
      rw [e] at h
      by_cases e2 : cs[k]? = some (.pl i)
      · rw [if_pos e2] at h
        have h2 : k = j := Option.some.inj h
        subst h2
        exact first_none e m hm
      · rw [if_neg e2] at h
        cases h
theorem in_first (cs : List Cel) (i : Nat) : inV (.int (i : Nat)) (cs.map Cel.v) = (firstTo cs cs.length i).isSome := by
  unfold inV
  rw [Bool.eq_iff_iff, List.any_eq_true]
  constructor
  · rintro ⟨v, hv, he⟩
    obtain ⟨c, hc, rfl⟩ := List.mem_map.mp hv
    rw [eqV_cel, decide_eq_true_eq] at he
    subst he
    obtain ⟨m, hm, e⟩ := List.mem_iff_getElem.mp hc
    cases ef : firstTo cs cs.length i with
    | some j => rfl
    | none => exact absurd (by rw [List.getElem?_eq_getElem hm, e]) (first_none ef m hm)
  · intro h
    obtain ⟨j, hj⟩ := Option.isSome_iff_exists.mp h
    obtain ⟨_, h2⟩ := first_at hj
    exact ⟨Cel.v (.pl i), List.mem_map.mpr ⟨_, List.mem_of_getElem? h2, rfl⟩, by rw [eqV_cel]; exact decide_eq_true rfl⟩
section
variable {X : Cx} {K : PySem.W.Frag}
theorem mtIndex (h : X.K = K := by rfl) : MtR X "list.index" (rIndex K) := by subst h; exact mt_index
end
theorem n_index {K : PySem.W.Frag} {H : Hp} {Q : VK} {a : Addr} {cs : List Cel} {i j : Nat} (hs : SqL K H a (cs.map Cel.v)) (h : firstTo cs cs.length i = some j) (q : Q (.int (j : Nat)) H) : rIndex K (.ref a) [.int (i : Nat)] H Q := by
  obtain ⟨_, h2⟩ := first_at h
  refine ⟨a, _, _, j, Cel.v (.pl i), rfl, rfl, hs, rfl, cels_flat cs, by rw [List.getElem?_map, h2]; rfl, by rw [eqV_cel]; exact decide_eq_true rfl, fun m z hm hz => ?_, q⟩
  rw [List.getElem?_map] at hz
  cases e : cs[m]? with
  | none => rw [e] at hz; cases hz
  | some c =>
    rw [e] at hz
    have hz2 : c.v = z := Option.some.inj hz
    subst hz2
    rw [eqV_cel]
    exact decide_eq_false fun e2 => first_min h m hm (by rw [e, e2])
/-! ### promises of the laws that catch BadSize -/
def φlback (K : PySem.W.Frag) : V → V → Hp → VK → Prop := fun x y H Q => ∃ (F : Hp) (a : Addr) (cs : List Cel) (o : Str), x = .ref a ∧ y = .str o ∧ Same F H ∧ SqL K F a (cs.map Cel.v) ∧ o.length ≤ 400 ∧
  ∀ p F2 H2, H p = none → W [] F H F2 H2 [mu p (.lst ((backs cs (cd o)).map Cel.v))] → Q (.ref p) H2
def φcells_of (K : PySem.W.Frag) : V → V → Hp → VK → Prop := fun x y H Q => ∃ (F : Hp) (a1 a2 : Addr) (cs ds : List Cel), x = .ref a1 ∧ y = .ref a2 ∧ Same F H ∧ SqL K F a1 (cs.map Cel.v) ∧ SqL K F a2 (ds.map Cel.v) ∧ (∀ d ∈ ds, d.ok cs.length) ∧ ds.length ≤ 400 ∧
  ∀ p F2 H2, H p = none → W [] F H F2 H2 [mu p (.lst ((ds.map (midC cs)).map Cel.v))] → Q (.ref p) H2
def φright07 (K : PySem.W.Frag) : V → V → V → V → V → V → Hp → VK → Prop := fun x1 x2 x3 x4 x5 x6 H Q => ∃ (F : Hp) (b : Addr) (n : Nat) (a1 : Addr) (vs1 : List V) (rows1 : List CRow) (a2 : Addr) (vs2 : List V) (rows2 : List CRow), x1 = .ref b ∧ x4 = .int (n : Nat) ∧ x5 = .ref a1 ∧ x6 = .ref a2 ∧ St F H [bag K b] ∧
  SqL K F a1 vs1 ∧ DpAll K F vs1 (rows1.map CRow.d) ∧ SqL K F a2 vs2 ∧ DpAll K F vs2 (rows2.map CRow.d) ∧ Chg K F x2 n rows1 ∧ Chg K F x3 (givesL rows1) rows2 ∧ RowsOk n rows1 ∧ RowsOk (givesL rows1) rows2 ∧ n ≤ 400 ∧ ∀ F2 H2, W [b] F H F2 H2 [bag K b] → Q (.bl true) H2
end R

namespace R
open PySem L2
/-! ### told lists of cells, each beside what was due -/
def twinD (cs : List Cel) : PyData := .tuple [.list (cs.map Cel.d), .list (cs.map Cel.d)]
structure Told (css : List (List Cel)) : Prop where
  ok : ∀ cs ∈ css, ∀ c ∈ cs, c.ok 401
  len : ∀ cs ∈ css, cs.length ≤ 402
theorem told_nil : Told [] := ⟨fun _ h => (nomatch h), fun _ h => (nomatch h)⟩
theorem told_snoc {css : List (List Cel)} {cs : List Cel} (h : Told css) (ok : ∀ c ∈ cs, c.ok 401) (l : cs.length ≤ 402) : Told (css ++ [cs]) := by
  refine ⟨fun ds m => ?_, fun ds m => ?_⟩
  · rcases List.mem_append.mp m with m | m
    · exact h.ok ds m
    · rw [List.mem_singleton.mp m]
      exact ok
  · rcases List.mem_append.mp m with m | m
    · exact h.len ds m
    · rw [List.mem_singleton.mp m]
      exact l
theorem more_ok {cs : List Cel} {n : Nat} (h : ∀ c ∈ cs, c.ok n) (hn : n ≤ 401) : ∀ c ∈ cs ++ [.pl 0], c.ok 401 := by
  intro c hc
  rcases List.mem_append.mp hc with hc | hc
  · have := h c hc
    cases c with
    | pl i => exact Nat.lt_of_lt_of_le this hn
    | sg c => exact this
  · rw [List.mem_singleton.mp hc]
    show 0 < 401
    decide
theorem twin_new {K : PySem.W.Frag} {F : Hp} {t p q : Addr} {cs : List Cel} (ht : F t = some (.tup [.ref p, .ref q])) (hp : F p = some (.lst (cs.map Cel.v))) (hq : F q = some (.lst (cs.map Cel.v))) : Dp K F (.ref t) (twinD cs) :=
  .tup (sqT_of ht) (.cons (.lst (sqL_of hp) (dpa_cels cs)) (.cons (.lst (sqL_of hq) (dpa_cels cs)) .nil))
theorem twin_open {K : PySem.W.Frag} {F : Hp} {v : V} {cs : List Cel} (h : Dp K F v (twinD cs)) : ∃ t v1 v2, v = .ref t ∧ SqT K F t [v1, v2] ∧ Dp K F v1 (.list (cs.map Cel.d)) ∧ Dp K F v2 (.list (cs.map Cel.d)) := by
  obtain ⟨a, vs, rfl, hs, h0⟩ := dp_tup h
  obtain ⟨v1, us, rfl, h1, h0⟩ := dpa_cons h0
  obtain ⟨v2, us, rfl, h2, h0⟩ := dpa_cons h0
  cases h0
  exact ⟨a, v1, v2, rfl, hs, h1, h2⟩
theorem clip400b (o : Int) : ∃ m : Nat, (if (if o > 0 then o else 0) < 400 then (if o > 0 then o else 0) else 400) = (m : Int) ∧ m ≤ 400 := by
  by_cases h : o > 0
  · rw [if_pos h]
    by_cases h2 : o < 400
    · rw [if_pos h2]
      exact ⟨o.toNat, by omega, by omega⟩
    · rw [if_neg h2]
      exact ⟨400, rfl, by omega⟩
  · rw [if_neg h, if_pos (by decide)]
    exact ⟨0, rfl, by omega⟩
/-! ### promises of k02 -/
def φnewsize (K : PySem.W.Frag) : V → Hp → VK → Prop := fun x H Q => ∃ (F : Hp) (n : Nat) (rows : List CRow), Same F H ∧ Chg K F x n rows ∧ RowsOk n rows ∧ n ≤ 1000 ∧ ∀ F2 H2, W [] F H F2 H2 [] → Q (.int ((celsL rows).length : Nat)) H2
def φother02 (K : PySem.W.Frag) : V → V → Hp → VK → Prop := fun x y H Q => ∃ (F : Hp) (b : Addr) (n : Nat), x = .ref b ∧ y = .int (n : Nat) ∧ St F H [bag K b] ∧ n ≤ 400 ∧ ∀ o F2 H2, W [b] F H F2 H2 [bag K b] → o.length ≤ 400 → okS o → Q (.str o) H2
def φright02 (K : PySem.W.Frag) : V → V → V → V → V → Hp → VK → Prop := fun x1 x2 x3 x4 x5 H Q => ∃ (F : Hp) (a : Addr) (vs : List V) (rows : List CRow) (o : Str) (bn : Bool) (t : Addr) (ts : List V) (css : List (List Cel)), x2 = .ref a ∧ x3 = .str o ∧ x4 = .bl bn ∧ x5 = .ref t ∧ St F H [mu t (.lst ts)] ∧
  DpAll K F ts (css.map twinD) ∧ Told css ∧ ts.length ≤ 1000 ∧ SqL K F a vs ∧ DpAll K F vs (rows.map CRow.d) ∧ Chg K F x1 o.length rows ∧ RowsOk o.length rows ∧ o.length ≤ 400 ∧ okS o ∧
  ∀ ts2 css2 F2 H2, W [t] F H F2 H2 [mu t (.lst ts2), dpa K ts2 (css2.map twinD)] → Told css2 → ts2.length = ts.length + 1 → Q (.bl true) H2
end R

namespace R
open PySem PySem.Spec PyProof.Rows L2 PySem.W
/-! ### str(x) by an own __str__ -/
section
variable {prog : Program} {w : World} {A : Around} {E : Value → Shared → Prop} {s : Shared} {K : PySem.W.Frag} {x C f : Addr} {ox : Obj} {od : Option Obj}
theorem plain_str_new : plainId "str.__new__" = true := by decide +kernel
theorem strOf_K {Q : Value → Shared → Prop} (hu : A.units < cLine) (X : K.In s.heap) (I : InstAt s.heap x ox C od) (hs : findIn K (.ref C) "__str__" = some (some (.ref f))) (hf : isFn K (.ref f) = true)
    (h : wpAny (model prog w) A (call (.ref f) [.ref x]) (StrBack Q) E s) : wpAny (model prog w) A (Builtin.Str.strOf (.ref x)) Q E s := by
  unfold Builtin.Str.strOf
  rw [show Builtin.Str.isExactStr (.ref x) = false from rfl]
  show wpAny _ _ (cRoomFor "str" [.ref x] >>= _) _ _ _
  refine wpAny_bind (wpAny_cRoomFor hu ?_)
  refine wpAny_bind (m := callSpecial? (.ref x) (Str.ofString "__str__")) (special_fn X I hs (beq_iff_eq.mp hf) (wpAny_mono h (fun r s' hr => ?_) fun _ _ y => y))
  cases r <;> first | exact hr.elim | skip
  exact wpAny_pure hr
theorem code_str_new {Q₁ : Value → Shared → Prop} (hu : A.units + 1 < cLine) (X : K.In s.heap) (I : InstAt s.heap x ox C od) (hs : findIn K (.ref C) "__str__" = some (some (.ref f))) (hf : isFn K (.ref f) = true)
    (h : wpAny (model prog w) A.in1 (call (.ref f) [.ref x]) (StrBack Q₁) E s) : codeAny (model prog w) A (.call (.builtin "str.__new__") ⟨[.type "str", .ref x], []⟩) (wants Q₁ E) s := by
  refine codeAny_of_tree ?_
  show wpAny _ A.in1 (do checkBuiltinCall "str.__new__" ⟨[.type "str", .ref x], []⟩; again (.builtin "str.__new__" ⟨[.type "str", .ref x], []⟩)) _ _ s
  refine wpAny_bind (wpAny_of_eq (F.newCall_str_1 _) (wpAny_pure ⟨plainId_quiet plain_str_new _, codeAny_builtin F.entry_str_new ?_⟩))
  rw [Around.under_plainId plain_str_new _]
  rw [str_new_tree]
  refine wpAny_bind (wpAny_pure ?_)
  refine wpAny_bind (wpAny_of_eq isSubtype_str_str ?_)
  refine wpAny_bind (wpAny_mono (strOf_K (A := A.in1) hu X I hs hf h) (fun r s' h' => wpAny_pure ?_) fun _ _ e => e)
  exact h'
theorem str_own {Q : Value → Shared → Prop} (hu : A.units + 2 < cLine) (X : K.In s.heap) (I : InstAt s.heap x ox C od) (hs : findIn K (.ref C) "__str__" = some (some (.ref f))) (hf : isFn K (.ref f) = true)
    (h : wpAny (model prog w) A.in1.in1 (call (.ref f) [.ref x]) (StrBack Q) E s) : wpAny (model prog w) A (call (.type "str") [.ref x]) Q E s := by
  refine callType_codes (Q₁ := fun obj s₁ => s₁.TypeIs obj "str" ∧ Q obj s₁) F.called_str (F.typeCall_str_1 _) F.entry_object_init
    (code_str_new (A := A.in1) hu X I hs hf (wpAny_mono h (fun r s' hr => ?_) fun _ _ e => e)) fun obj s₁ h₁ => ?_
  · cases r <;> first | exact hr.elim | skip
    exact ⟨typeIs_str _ _ _, hr⟩
  · exact ⟨h₁.1, F.args_object_init_2 obj _, object_init_meets F.called_str.init.lookup F.called_str.made (by decide) prog w A.in1 _ s₁ ⟨h₁.1, rfl, h₁.2⟩⟩
theorem check_method {M : Model} {i owner n : String} {self : Value} {rest : List Value} {kw : List (Str × Value)} {Q : Unit → Shared → Prop}
    (hk : builtinKind i = some .method) (hs : splitId i = some (owner, n)) (hi : Looks M s.heap (isInstance self (.type owner)) true) (ha : argsOk i ⟨self :: rest, kw⟩) (q : Q () s) :
    wpAny M A (checkBuiltinCall i ⟨self :: rest, kw⟩) Q E s := by
  simp only [checkBuiltinCall, hk, hs]
  refine wpAny_bind (hi.here ?_)
  simp only [Bool.not_true, Bool.false_eq_true, if_false]
  cases hsig : Manifest.signature? i with
  | none => exact wpAny_pure q
  | some sig =>
    simp only [argsOk, hsig] at ha
    have h2 : Bind.checkArgs i sig ⟨self :: rest, kw⟩ = pure () := ha
    show wpAny M A (Bind.checkArgs i sig ⟨self :: rest, kw⟩) Q E s
    rw [h2]; exact wpAny_pure q
theorem plain_obj_fmt : plainId "object.__format__" = true := by decide +kernel
theorem kind_obj_fmt : builtinKind "object.__format__" = some .method := by decide +kernel
theorem split_obj_fmt : splitId "object.__format__" = some ("object", "__format__") := by decide +kernel
theorem fmt_bind (self : Value) : bindSpecial (.builtin "object.__format__") self = pure (.builtin "object.__format__", [self]) := F.slot_NoneType_format.bind self
theorem pyStrObj_K {Q : Value → Shared → Prop} (hu : A.units < cLine) (X : K.In s.heap) (I : InstAt s.heap x ox C od) (hs : findIn K (.ref C) "__str__" = some (some (.ref f))) (hf : isFn K (.ref f) = true)
    (h : wpAny (model prog w) A (call (.ref f) [.ref x]) (StrBack Q) E s) : wpAny (model prog w) A (pyStrObj (.ref x)) Q E s := by
  unfold pyStrObj
  show wpAny _ _ (cRoomFor "str" [.ref x] >>= _) _ _ _
  refine wpAny_bind (wpAny_cRoomFor hu ?_)
  refine wpAny_bind (m := callSpecial? (.ref x) (Str.ofString "__str__")) (special_fn X I hs (beq_iff_eq.mp hf) (wpAny_mono h (fun r s' hr => ?_) fun _ _ y => y))
  cases r <;> first | exact hr.elim | skip
  refine wpAny_bind (wpAny_isInstance (typeIs_str _ _ _) isSubtype_str_str ?_)
  first
    | exact wpAny_pure hr
    | (rw [if_pos rfl]; exact wpAny_pure hr)
    | (simp only [if_true]; exact wpAny_pure hr)
theorem objFmt_K {Q : Fin → Shared → Prop} {tk : Tok} (hu : A.units < cLine) (X : K.In s.heap) (I : InstAt s.heap x ox C od) (hs : findIn K (.ref C) "__str__" = some (some (.ref f))) (hf : isFn K (.ref f) = true)
    (h : wpAny (model prog w) A (call (.ref f) [.ref x]) (StrBack fun v s' => Q (.done (.ret v)) s') E s) :
    wpAny (model prog w) A (Builtin.«object.__format__» ⟨[.ref x, .str Str.empty tk], []⟩) Q E s := by
  show wpAny _ _ (do let _shown ← typeNameOf (.str Str.empty tk); (do ret (← pyStrObj (.ref x)))) _ _ _
  refine wpAny_bind (wpAny_typeNameOf (T := "str") (typeIs_str _ _ _) (by decide) fun _ => ?_)
  refine wpAny_bind (pyStrObj_K hu X I hs hf (wpAny_mono h (fun r s' hr => ?_) fun _ _ y => y))
  cases r <;> first | exact hr.elim | skip
  exact wpAny_pure hr
theorem callFmt_K {Q : Value → Shared → Prop} {tk : Tok} (hu : A.units + 1 < cLine) (X : K.In s.heap) (I : InstAt s.heap x ox C od) (hs : findIn K (.ref C) "__str__" = some (some (.ref f))) (hf : isFn K (.ref f) = true)
    (hob : mroIn K C (.type "object") = some true) (h : wpAny (model prog w) A.in1 (call (.ref f) [.ref x]) (StrBack Q) E s) :
    wpAny (model prog w) A (call (.builtin "object.__format__") [.ref x, .str Str.empty tk]) (fun r s' => ∃ z t, r = .str z t ∧ Q (.str z t) s') E s := by
  have body : wpAny (model prog w) A.in1 (Builtin.«object.__format__» ⟨[.ref x, .str Str.empty tk], []⟩) (fun fin s' => ∃ v, fin = .done (.ret v) ∧ ∃ z t, v = .str z t ∧ Q (.str z t) s') E s :=
    objFmt_K (A := A.in1) (Q := fun fin s' => ∃ v, fin = .done (.ret v) ∧ ∃ z t, v = .str z t ∧ Q (.str z t) s') hu X I hs hf (wpAny_mono h (fun r s' hr => by
      cases r <;> first | exact hr.elim | skip
      exact ⟨_, rfl, _, _, rfl, hr⟩) fun _ _ e => e)
  refine wpAny_call (codeAny_call_builtin plain_obj_fmt F.entry_object_format
      (check_method (i := "object.__format__") (owner := "object") (n := "__format__") (self := .ref x) (rest := [.str Str.empty tk]) (kw := []) kind_obj_fmt split_obj_fmt (I.type.andThen (looks_mroIn X hob)) (F.args_object_format_2 _ _) ?_))
  exact wpAny_mono body (fun fin s' hv => by obtain ⟨v, rfl, q⟩ := hv; exact q) fun _ _ z => z
theorem fmt_K {Q : Value → Shared → Prop} (hu : A.units + 1 < cLine) (X : K.In s.heap) (I : InstAt s.heap x ox C od) (hs : findIn K (.ref C) "__str__" = some (some (.ref f))) (hf : isFn K (.ref f) = true)
    (hfm : findIn K (.ref C) "__format__" = some (some (.builtin "object.__format__"))) (hob : mroIn K C (.type "object") = some true)
    (h : wpAny (model prog w) A.in1 (call (.ref f) [.ref x]) (StrBack Q) E { s with toks := s.toks + 1 }) : wpAny (model prog w) A (formatField (.ref x) Str.empty) Q E s := by
  show wpAny _ _ (holding [.ref x] (pyFormat (.ref x) Str.empty)) _ _ _
  refine wpAny_holding ?_
  unfold pyFormat
  refine wpAny_bind (wpAny_mkStr ?_ (by decide))
  have I2 : InstAt ({ s with toks := s.toks + 1 } : Shared).heap x ox C od := I
  have X2 : K.In ({ s with toks := s.toks + 1 } : Shared).heap := X
  have one : wpAny (model prog w) A (callSpecial? (.ref x) (Str.ofString "__format__") [.str Str.empty s.toks]) (fun r s' => ∃ z t, r = some (.str z t) ∧ Q (.str z t) s') E { s with toks := s.toks + 1 } := by
    simp only [callSpecial?]
    refine wpAny_bind ?_
    unfold specialOf
    refine wpAny_bind (I2.type.here ((looks_findIn X2 hfm).here ?_))
    simp only [fmt_bind]
    refine wpAny_holding (wpAny_bind (wpAny_pure (wpAny_bind (wpAny_mono (callFmt_K (Q := Q) hu X2 I2 hs hf hob h) (fun v s' h' => wpAny_pure ?_) fun _ _ h' => h'))))
    obtain ⟨z, t, rfl, q⟩ := h'
    exact ⟨z, t, rfl, q⟩
  refine wpAny_bind (wpAny_mono one (fun r s' hr => ?_) fun _ _ e => e)
  obtain ⟨z, t, rfl, hq⟩ := hr
  refine wpAny_bind (wpAny_isInstance (typeIs_str _ _ _) isSubtype_str_str ?_)
  first
    | exact wpAny_pure hq
    | (rw [if_pos rfl]; exact wpAny_pure hq)
    | (simp only [if_true]; exact wpAny_pure hq)
end
/-- what str(x), f'{x}' ask of an own class -/
def strB (K : PySem.W.Frag) (C : Str) : Bool := spcB K C "__str__" && (eqV2 (PySem.W.findIn K (.ref (He.ga K C)) "__format__") (some (some (.builtin "object.__format__"))) && decide (PySem.W.mroIn K (He.ga K C) (.type "object") = some true))
structure StrC (K : PySem.W.Frag) (C : Str) : Prop where
  f : PySem.W.findIn K (.ref (He.ga K C)) "__format__" = some (some (.builtin "object.__format__"))
  o : PySem.W.mroIn K (He.ga K C) (.type "object") = some true
theorem strB_ok {K : PySem.W.Frag} {C : Str} (h : strB K C = true) : StrC K C := by
  unfold strB at h
  simp only [Bool.and_eq_true, eqV2, decide_eq_true_eq] at h
  exact ⟨h.2.1, h.2.2⟩
section
variable {X : Cx} {K : PySem.W.Frag} {k : Nat} {C : Str} {ps : List Str} {sp : Sp}
def aftS (Q : VK) : VK := fun v H2 => ∃ z : Str, v = .str z ∧ Q (.str z) H2
/-- str(x) by an own __str__ -/
def rStrO (C : Addr) (sp : Sp) : List V → Hp → VK → Prop := fun xs H Q => ∃ a dx fs, xs = [.ref a] ∧ H a = some (.ins C dx fs) ∧ sp [.ref a] H (aftS Q) E0
theorem clStrO (D : DM X.prog X.w X.K X.mg X.base k C "__str__" ps [] sp) {j : Nat} (hr : Room j X.A) (hj : k + 2 ≤ j) : CallR X (.type "str") (rStrO (He.ga X.K C) sp) := by
  obtain ⟨fd, ds, F, c, _, hb, hv⟩ := D.ex
  cases hv
  intro pins s σ H xs us Q I r h
  obtain ⟨a, dx, fs, rfl, ha, q⟩ := h
  rw [Vals.ref1 r]
  obtain ⟨mA, J, _⟩ := ins_get I.hok ha
  obtain ⟨od, J, _⟩ := J.look
  have e0 : Env0 X.prog X.w X.K X.mg X.base X.A.in1.in1 X.stack s H := by
    have e := I.env0
    exact ⟨e.frames, e.mod, e.bs, e.bsz, e.funs, e.frf, e.hok, e.bare⟩
  have hl := F.len _ _ _ _ q
  refine str_own (by have := hr.un; omega) I.kIn J c.at_ c.fn ?_
  refine wpAny_call (codeAny_mono (F.run X.A.in1.in1 X.stack s H ⟨[.ref a], []⟩ [.ref a] [.ref a] _ E0 (hr.mono hj).in1.in1 e0 (by
    have := hb s [.ref a] I.kIn (by simpa using hl)
    simpa using this) (.cons rfl .nil) q) fun r s' hq => ?_)
  cases r with
  | error e => exact pass0 pins σ H s e s' I hq
  | ok fl =>
    cases fl with
    | ret w =>
      obtain ⟨z, H', I', rz, n, ez, q⟩ := I.after hq
      subst ez
      obtain ⟨t, rfl⟩ := rz
      exact ⟨.str n, H', I', ⟨_, rfl⟩, q⟩
    | next => exact False.elim hq
    | brk => exact False.elim hq
    | cont => exact False.elim hq
/-- {x} of an own instance -/
def tFmtO (C : Addr) (sp : Sp) (te : TE) : TE := fun σ H Q => te σ H fun x H1 => ∃ a dx fs, x = .ref a ∧ H1 a = some (.ins C dx fs) ∧ sp [.ref a] H1 (aftS Q) E0
theorem pe_fmtO (D : DM X.prog X.w X.K X.mg X.base k C "__str__" ps [] sp) (st : StrC X.K C) {j : Nat} (hr : Room j X.A) (hj : k + 1 ≤ j) {e : Expr} {te : TE} {pos : Pos} (he : PE X e te) : PE X (.FormattedValue e (-1) none pos) (tFmtO (He.ga X.K C) sp te) := by
  obtain ⟨fd, ds, F, c, _, hb, hv⟩ := D.ex
  cases hv
  refine ⟨fun pins s σ H Q I h => ?_⟩
  refine wpAny_FormattedValue_plain (thn (he.run pins s σ H _ I h) fun v s1 hv => ?_)
  obtain ⟨x, H1, I1, r1, a, dx, fs, rfl, ha, q⟩ := hv
  obtain rfl : v = Value.ref a := r1
  obtain ⟨mA, J, _⟩ := ins_get I1.hok ha
  obtain ⟨od, J, _⟩ := J.look
  have I2 : Inv X pins σ H1 { s1 with toks := s1.toks + 1 } := I1.tok _
  have e0 : Env0 X.prog X.w X.K X.mg X.base X.A.in1 X.stack { s1 with toks := s1.toks + 1 } H1 := by
    have e := I2.env0
    exact ⟨e.frames, e.mod, e.bs, e.bsz, e.funs, e.frf, e.hok, e.bare⟩
  have hl := F.len _ _ _ _ q
  refine fmt_K (by have := hr.un; omega) I1.kIn J c.at_ c.fn st.f st.o ?_
  refine wpAny_call (codeAny_mono (F.run X.A.in1 X.stack _ H1 ⟨[.ref a], []⟩ [.ref a] [.ref a] _ E0 (hr.mono hj).in1 e0 (by
    have := hb { s1 with toks := s1.toks + 1 } [.ref a] I2.kIn (by simpa using hl)
    simpa using this) (.cons rfl .nil) q) fun r s' hq => ?_)
  cases r with
  | error e => exact pass0 pins σ H1 _ e s' I2 hq
  | ok fl =>
    cases fl with
    | ret w =>
      obtain ⟨z, H', I', rz, n, ez, q⟩ := I2.after hq
      subst ez
      obtain ⟨t, rfl⟩ := rz
      exact ⟨.str n, H', I', ⟨_, rfl⟩, q⟩
    | next => exact False.elim hq
    | brk => exact False.elim hq
    | cont => exact False.elim hq
end
section
variable {σ : L2.St} {H : Hp} {Q : VK} {te : TE} {C : Addr} {m : Nat} {sp : Sp} {gV : List V → List V → List V} {E : XK} {tk : TA} {ts : List TE} {acc y : Str} {x : V} {R : Str → Hp → Prop} {i : Int}
def fmtG (x : V) (H1 : Hp) (Q : VK) : Prop := (∃ y : Str, x = .str y ∧ y.length ≤ sizeLine ∧ Q (.str y) H1) ∨ ∃ i : Int, x = .int i ∧ i.natAbs.log2 < 1920 ∧ Q (.str (toString i)) H1
theorem x_fmt (q : te σ H fun x H1 => fmtG x H1 Q) : tFmt te σ H Q := q
theorem n_fmtI (h : i.natAbs.log2 < 1920) (q : Q (.str (toString i)) H) : fmtG (.int i) H Q := .inr ⟨i, rfl, h, q⟩
def fmtGO (C : Addr) (sp : Sp) (x : V) (H1 : Hp) (Q : VK) : Prop := ∃ a dx fs, x = .ref a ∧ H1 a = some (.ins C dx fs) ∧ sp [.ref a] H1 (aftS Q) E0
theorem x_fmtO (q : te σ H fun x H1 => fmtGO C sp x H1 Q) : tFmtO C sp te σ H Q := q
theorem n_fmtO {a dx : Addr} {fs : List (Str × V)} (h : H a = some (.ins C dx fs)) (q : sp [.ref a] H (aftS Q) E0) : fmtGO C sp (.ref a) H Q := ⟨a, dx, fs, rfl, h, q⟩
def rStrG (C : Addr) (sp : Sp) (xs : List V) (H : Hp) (Q : VK) : Prop := rStrO C sp xs H Q
theorem n_strO {a dx : Addr} {fs : List (Str × V)} (h : H a = some (.ins C dx fs)) (q : sp [.ref a] H (aftS Q) E0) : rStrO C sp [.ref a] H Q := ⟨a, dx, fs, rfl, h, q⟩
/-- the parts of an f-string -/
def tJsQ (ts : List TE) (acc : Str) : TE := fun σ H Q => tJs ts acc σ H fun out H' => Q (.str out) H'
def jsG (ts : List TE) (acc : Str) (σ : L2.St) (x : V) (H1 : Hp) (R : Str → Hp → Prop) : Prop := ∃ y : Str, x = .str y ∧ (acc ++ y).length ≤ sizeLine ∧ tJs ts (acc ++ y) σ H1 R
theorem x_js (q : te σ H fun x H1 => jsG ts acc σ x H1 R) : tJs (te :: ts) acc σ H R := q
theorem x_js0 (q : R acc H) : tJs [] acc σ H R := q
theorem n_js (h : (acc ++ y).length ≤ sizeLine) (q : tJs ts (acc ++ y) σ H R) : jsG ts acc σ (.str y) H R := ⟨y, rfl, h, q⟩
/-- an instance made by keywords alone -/
def makKG (C : Addr) (sp : Sp) (gV : List V → List V → List V) (zs : List V) (E : XK) (H : Hp) (Q : VK) : Prop := ∀ x dx, H x = none → H dx = none → dx ≠ x → sp (gV [.ref x] zs) (upd (upd H dx (.own x)) x (.ins C dx [])) (aftG Q x) E
theorem x_makeK0 (q : tk σ H fun zs H2 => zs.length = m ∧ makKG C sp gV zs E H2 Q) : tMakeK C 0 m sp gV E tNil tk σ H Q := by
  show tk σ H _
  refine cast ?_ q
  congr 1
  funext zs H2
  refine propext ⟨?_, ?_⟩
  · rintro ⟨h1, h3⟩
    exact ⟨rfl, h1, fun x dx a b c => h3 x dx a b c⟩
  · rintro ⟨_, h1, h3⟩
    exact ⟨h1, fun x dx a b c => h3 x dx a b c⟩
end
theorem n_makeK {M : List Addr} {F0 H0 F H : Hp} {L : List Own} {Q : VK} {C : Addr} {sp : Sp} {gV : List V → List V → List V} {zs : List V} {E : XK} (w : W M F0 H0 F H L) (q : ∀ x dx H2, W M F0 H0 F H2 (mu x (.ins C dx []) :: mu dx (.own x) :: L) → H0 x = none → sp (gV [.ref x] zs) H2 (aftG Q x) E) : makKG C sp gV zs E H Q := by
  intro x dx nx ndx hne
  have w1 := w.nw (u := .own x) ndx
  have nx1 : upd H dx (.own x) x = none := by rw [upd_ne hne.symm]; exact nx
  exact q x dx _ (w1.nw (u := .ins C dx []) nx1) (w.g.fresh nx)
end R

namespace R
open PySem L2
/-! ### the writing of a change -/
def numS (n : Nat) : Str := Str.ofString (toString ((n : Nat) : Int))
def smallNum (n : Nat) : Bool := (numS n).cps.all (· < 0x110000) && decide ((numS n).length ≤ 3)
theorem nums_small : ∀ n, n < 401 → smallNum n = true := by decide +kernel
theorem num_ok {n : Nat} (h : n ≤ 400) : okS (numS n) ∧ (numS n).length ≤ 3 := by
  have := nums_small n (by omega)
  unfold smallNum at this
  rw [Bool.and_eq_true, decide_eq_true_eq] at this
  exact this
theorem num_log {n : Nat} (h : n ≤ 400) : ((n : Nat) : Int).natAbs.log2 < 1920 := by
  have : ((n : Nat) : Int).natAbs = n := by simp
  rw [this]
  by_cases h0 : n = 0
  · rw [h0]
    decide
  · exact (Nat.log2_lt h0).mpr (Nat.lt_of_le_of_lt h (by decide +kernel : 400 < 2 ^ 1920))
def rowW : CRow → List Nat
  | .put s => cd (Str.ofString "put ") ++ cd s
  | .copy a n => cd (Str.ofString "copy ") ++ cd (numS a) ++ cd (Str.ofString " ") ++ cd (numS n)
def rowsW (rows : List CRow) : List Nat := rows.flatMap fun r => 10 :: rowW r
def writL (n : Nat) (rows : List CRow) : List Nat := (cd (Str.ofString "size ") ++ cd (numS n)) ++ rowsW rows
theorem len_put : (cd (Str.ofString "put ")).length = 4 := by decide +kernel
theorem len_copy : (cd (Str.ofString "copy ")).length = 5 := by decide +kernel
theorem len_size : (cd (Str.ofString "size ")).length = 5 := by decide +kernel
theorem len_sp : (cd (Str.ofString " ")).length = 1 := by decide +kernel
theorem nl_cd : cd (Str.ofString "\n") = [10] := by decide +kernel
theorem row_len {r : CRow} {n : Nat} (h : CRowOk n r) (hn : n ≤ 400) : (rowW r).length ≤ 12 + r.gives := by
  cases r with
  | put s =>
    show (cd (Str.ofString "put ") ++ cd s).length ≤ 12 + s.length
    rw [List.length_append, len_put, cd_len]
    omega
  | copy a m =>
    have h1 : a + m ≤ n := h.h
    have h2 := (num_ok (n := a) (by omega)).2
    have h3 := (num_ok (n := m) (by omega)).2
    show (cd (Str.ofString "copy ") ++ cd (numS a) ++ cd (Str.ofString " ") ++ cd (numS m)).length ≤ _
    rw [List.length_append, List.length_append, List.length_append, len_copy, len_sp, cd_len, cd_len]
    omega
theorem okc {z : Str} (h : okS z) : ∀ c ∈ cd z, c < 0x110000 := ok_codes.mp h
theorem ok_lit1 : ∀ c ∈ cd (Str.ofString "put "), c < 0x110000 := by decide +kernel
theorem ok_lit2 : ∀ c ∈ cd (Str.ofString "copy "), c < 0x110000 := by decide +kernel
theorem ok_lit3 : ∀ c ∈ cd (Str.ofString "size "), c < 0x110000 := by decide +kernel
theorem ok_lit4 : ∀ c ∈ cd (Str.ofString " "), c < 0x110000 := by decide +kernel
theorem row_okc {r : CRow} {n : Nat} (h : CRowOk n r) (hn : n ≤ 400) : ∀ c ∈ rowW r, c < 0x110000 := by
  intro c hc
  cases r with
  | put s =>
    rcases List.mem_append.mp hc with hc | hc
    · exact ok_lit1 c hc
    · exact okc h.s.1 c hc
  | copy a m =>
    have h1 : a + m ≤ n := h.h
    rcases List.mem_append.mp hc with hc | hc
    · rcases List.mem_append.mp hc with hc | hc
      · rcases List.mem_append.mp hc with hc | hc
        · exact ok_lit2 c hc
        · exact okc (num_ok (n := a) (by omega)).1 c hc
      · exact ok_lit4 c hc
    · exact okc (num_ok (n := m) (by omega)).1 c hc
theorem wrows_len {n : Nat} (hn : n ≤ 400) : ∀ {rows : List CRow}, (∀ r ∈ rows, CRowOk n r) → (rowsW rows).length ≤ 13 * rows.length + givesL rows
  | [], _ => Nat.le_refl _
  | r :: rows, h => by
    have h1 := row_len (h r (List.mem_cons_self ..)) hn
    have h2 := wrows_len hn (rows := rows) fun q hq => h q (List.mem_cons_of_mem _ hq)
    show ((10 :: rowW r) ++ rowsW rows).length ≤ 13 * (rows.length + 1) + givesL (r :: rows)
    have h3 : givesL (r :: rows) = r.gives + givesL rows := rfl
    rw [List.length_append, List.length_cons, h3]
    omega
theorem wrows_okc {n : Nat} {rows : List CRow} (hn : n ≤ 400) (h : ∀ r ∈ rows, CRowOk n r) : ∀ c ∈ rowsW rows, c < 0x110000 := by
  intro c hc
  obtain ⟨r, hr, hc⟩ := List.mem_flatMap.mp hc
  rcases List.mem_cons.mp hc with rfl | hc
  · decide
  · exact row_okc (h r hr) hn c hc
theorem writ_len {n : Nat} {rows : List CRow} (hn : n ≤ 400) (ok : RowsOk n rows) : (writL n rows).length ≤ 6000 := by
  have h1 := wrows_len hn ok.ok
  have h2 := ok.len
  have h3 := ok.sum
  have h4 := (num_ok hn).2
  unfold writL
  rw [List.length_append, List.length_append, len_size, cd_len]
  omega
theorem writ_ok {n : Nat} {rows : List CRow} {s : Str} (hn : n ≤ 400) (ok : RowsOk n rows) (h : cd s = writL n rows) : okS s ∧ s.length ≤ 6000 := by
  refine ⟨ok_codes.mpr fun c hc => ?_, by rw [← cd_len, h]; exact writ_len hn ok⟩
  rw [h] at hc
  rcases List.mem_append.mp hc with hc | hc
  · rcases List.mem_append.mp hc with hc | hc
    · exact ok_lit3 c hc
    · exact okc (num_ok hn).1 c hc
  · exact wrows_okc hn ok.ok c hc
theorem rowsW_take {rows : List CRow} {i : Nat} {r : CRow} (h : rows[i]? = some r) : rowsW (rows.take (i + 1)) = rowsW (rows.take i) ++ (10 :: rowW r) := by
  unfold rowsW
  rw [List.take_add_one, h, List.flatMap_append]
  show _ ++ ((10 :: rowW r) ++ []) = _
  rw [List.append_nil]
theorem rowsW_le {n : Nat} {rows : List CRow} (hn : n ≤ 400) (ok : RowsOk n rows) (i : Nat) : (rowsW (rows.take i)).length ≤ 6000 := by
  have h1 := wrows_len hn (rows := rows.take i) fun r hr => ok.ok r (List.mem_of_mem_take hr)
  have h2 := ok.len
  have h3 := ok.sum
  have h4 := gives_le rows i
  have h5 : (rows.take i).length ≤ rows.length := by rw [List.length_take]; omega
  omega
theorem joinL_nl (a : List Nat) : ∀ l : List (List Nat), TL.joinL [10] (a :: l) = a ++ l.flatMap fun t => 10 :: t := by
  intro l
  induction l generalizing a with
  | nil => simp [TL.joinL]
  | cons b l ih =>
    rw [TL.joinL, ih]
    simp
theorem join_nl (t : Str) (ts : List Str) : cd (Txt.join (Str.ofString "\n") (t :: ts)) = cd t ++ (ts.map cd).flatMap fun c => 10 :: c := by
  have e : TL.tl (Txt.join (Str.ofString "\n") (t :: ts)) = TL.joinL [10] ((t :: ts).map TL.tl) := by
    rw [TL.join_eq, TL.tl_join]
    first | rfl | (congr 1; done) | (congr 1; exact nl_cd)
  refine e.trans ?_
  rw [List.map_cons, joinL_nl]
  try rfl
theorem sum_le {l : List Str} {m : Nat} (h : ∀ t ∈ l, t.length ≤ m) : (l.map (·.length)).sum ≤ l.length * m := by
  induction l with
  | nil => exact Nat.zero_le _
  | cons a l ih =>
    have h1 := h a (List.mem_cons_self ..)
    have h2 := ih fun t ht => h t (List.mem_cons_of_mem _ ht)
    rw [List.map_cons, List.sum_cons, List.length_cons, Nat.succ_mul]
    omega
theorem slen_put : (Str.ofString "put ").length = 4 := by decide +kernel
theorem slen_copy : (Str.ofString "copy ").length = 5 := by decide +kernel
theorem slen_size : (Str.ofString "size ").length = 5 := by decide +kernel
theorem slen_sp : (Str.ofString " ").length = 1 := by decide +kernel
theorem slen_nl : (Str.ofString "\n").length = 1 := by decide +kernel
theorem slen_e : Str.empty.length = 0 := rfl
theorem cd_e : cd Str.empty = [] := rfl
/-! ### promises -/
def φrowtext (K : PySem.W.Frag) : V → Hp → VK → Prop := fun x H Q => ∃ (F : Hp) (r : CRow) (n : Nat), Same F H ∧ Dp K F x r.d ∧ CRowOk n r ∧ n ≤ 400 ∧ ∀ s F2 H2, W [] F H F2 H2 [] → cd s = rowW r → Q (.str s) H2
def φstr (K : PySem.W.Frag) : V → Hp → VK → Prop := fun x H Q => ∃ (F : Hp) (n : Nat) (rows : List CRow), Same F H ∧ Chg K F x n rows ∧ RowsOk n rows ∧ n ≤ 400 ∧ ∀ s F2 H2, W [] F H F2 H2 [] → cd s = writL n rows → Q (.str s) H2
def φwritten (K : PySem.W.Frag) : V → V → Hp → VK → Prop := fun x y H Q => ∃ (F : Hp) (a : Addr) (vs : List V) (n : Nat) (rows : List CRow), x = .int (n : Nat) ∧ y = .ref a ∧ Same F H ∧ SqL K F a vs ∧ DpAll K F vs (rows.map CRow.d) ∧ RowsOk n rows ∧ n ≤ 400 ∧ ∀ s F2 H2, W [] F H F2 H2 [] → cd s = writL n rows → Q (.str s) H2
end R

namespace R
open PySem PySem.Spec PyProof.Rows L2
/-! ### list(reversed(a list)) -/
section
variable {prog : Program} {w : World} {A : Around} {E : Value → Shared → Prop} {s : Shared}
theorem extend_rev {it l : Addr} {items : Array Value} {R : Result → Shared → Prop} (hh : A.handled = none) (hit : s.heap.IsRevIter it l ((items.size : Int) - 1)) (hl : s.heap.IsList l items) (hne : l ≠ it) (hn : items.size ≤ sizeLine) (S : Addr) (res : Value) (c₀ : Nat)
    (hS : s.heap.get? S = some { cls := .type "list", data := .seq #[] c₀ }) (hSi : S ≠ it) (hSl : S ≠ l)
    (hR : ∀ h' tk acc' c', (∀ b o, b ≠ S → b ≠ it → s.heap.get? b = some o → h'.get? b = some o) → h'.get? S = some { cls := .type "list", dict := none, data := .seq acc' c', slots := #[] } →
      ItemsOf (fun i v => items[items.size - 1 - i]? = some v) acc' items.size → R (.ok (.ret res)) { s with heap := h', toks := tk }) :
    wpAny (model prog w) A.in1 (Builtin.List.listExtendWith (.ref S) (.ref it) res)
      (fun fin s' => match fin with | .done f => R (.ok f) s' | .again c' => c'.quiet = true ∧ codeAny (model prog w) A c' R s') (fun e s' => R (.error e) s') s := by
  have W := (Walks.listRev (prog := prog) (w := w) (A := A.in1) hh it l hne items).toS
  have hSf : S ∉ [it, l] := by simp only [List.mem_cons, List.not_mem_nil, or_false, not_or]; exact ⟨hSi, hSl⟩
  have hT : s.TypeIs (.ref it) "list_reverseiterator" := Heap.IsRevIter.typeIs hit
  have h1 : Builtin.List.listSameRef (.ref S) (.ref it) = false := by simp [Builtin.List.listSameRef, hSi]
  unfold Builtin.List.listExtendWith
  refine wpAny_bind (wpAny_typeOf hT ?_)
  rw [if_neg (by rw [h1]; decide)]
  refine wpAny_bind (wpAny_pyIter_revIter hit ?_)
  refine wpAny_bind (wpAny_holding ?_)
  unfold Builtin.List.listLengthHint
  refine wpAny_bind (wpAny_specialOf hT RT.nolen_lri ?_)
  show wpAny _ A.in1 (specialOf (Value.ref it) (Str.ofString "__length_hint__") >>= _) _ _ _
  refine wpAny_bind (wpAny_specialOf hT RT.hint_lri ?_)
  generalize hid : ("list_reverseiterator.__length_hint__" : String) = id0
  wp_delta
  rw [show splitId id0 = some ("list_reverseiterator", "__length_hint__") from by subst hid; decide +kernel]
  subst hid
  refine wpAny_bind (wpAny_isInstance (b := true) hT (by rw [isSubtype_type]; kernel_rfl) ?_)
  refine wpAny_pure ?_
  rw [if_neg (by decide)]
  have e0 : ((items.size : Nat) : Int) - 1 - ((0 : Nat) : Int) = (items.size : Int) - 1 := by omega
  refine wpAny_pure ⟨plainId_quiet F.plain_extend_loop _, codeAny_extend_loopS W hn _ hSf _ items.size 0 _ _ _ rfl (Nat.zero_le _) ⟨Nat.zero_le _, by rw [e0]; exact hit, hl⟩ hS (ItemsOf.nil _) fun s' acc' c' hm hS' hacc => ?_⟩
  rw [Moved.eq_with hm]
  refine hR s'.heap s'.toks acc' c' (fun b ob hb hi e => hm.heap b ob (fun hmem => ?_) e) hS' hacc
  rcases List.mem_cons.mp hmem with e' | hmem
  · exact hb e'
  · exact hi (List.mem_singleton.mp hmem)
theorem list_init_rev {it l : Addr} {items : Array Value} {R : Result → Shared → Prop} (hh : A.handled = none) (hit : s.heap.IsRevIter it l ((items.size : Int) - 1)) (hl : s.heap.IsList l items) (hne : l ≠ it) (hn : items.size ≤ sizeLine) (S : Addr)
    (hS : s.heap.get? S = some { cls := .type "list", data := .seq #[] }) (hSi : S ≠ it) (hSl : S ≠ l)
    (hR : ∀ h' tk acc' c', (∀ b o, b ≠ S → b ≠ it → s.heap.get? b = some o → h'.get? b = some o) → h'.get? S = some { cls := .type "list", dict := none, data := .seq acc' c', slots := #[] } →
      ItemsOf (fun i v => items[items.size - 1 - i]? = some v) acc' items.size → R (.ok (.ret .none)) { s with heap := h', toks := tk }) :
    wpAny (model prog w) A.in1 (Builtin.«list.__init__» ⟨[.ref S, .ref it], []⟩)
      (fun fin s' => match fin with | .done f => R (.ok f) s' | .again c' => c'.quiet = true ∧ codeAny (model prog w) A c' R s') (fun e s' => R (.error e) s') s := by
  show wpAny _ _ (do let old ← Builtin.List.listItems (.ref S); Builtin.List.listUpdate (.ref S) (fun _ => #[]); letGo old.toList.reverse; Builtin.List.listExtendWith (.ref S) (.ref it) .none) _ _ s
  refine wpAny_bind ?_
  unfold Builtin.List.listItems
  refine wpAny_bind (wpAny_seqItems hS rfl (wpAny_pure ?_))
  show wpAny _ _ (updateSeq S (fun _ => #[]) >>= fun _ => letGo (#[] : Array Value).toList.reverse >>= fun _ => Builtin.List.listExtendWith (.ref S) (.ref it) .none) _ _ s
  refine wpAny_bind (wpAny_updateSeq hS rfl ?_)
  have hS₂ := Heap.get?_update_self (Obj.mapSeq (fun _ => (#[] : Array Value))) hS rfl
  have oth : ∀ b o, b ≠ S → s.heap.get? b = some o → (s.heap.update S (Obj.mapSeq (fun _ => (#[] : Array Value)))).get? b = some o :=
    fun b o hb e => (Heap.get?_update_other _ _ (Ne.symm hb)).trans e
  refine wpAny_bind (wpAny_letGo ?_)
  have hl2 : (s.heap.update S (Obj.mapSeq (fun _ => (#[] : Array Value)))).IsList l items := by
    obtain ⟨o, ho, r⟩ := hl
    exact ⟨o, oth l o (Ne.symm hSl) ho, r⟩
  have hit2 : (s.heap.update S (Obj.mapSeq (fun _ => (#[] : Array Value)))).IsRevIter it l ((items.size : Int) - 1) := hit.at fun o e => oth it o (Ne.symm hSi) e
  refine extend_rev (s := { s with heap := s.heap.update S (Obj.mapSeq (fun _ => (#[] : Array Value))) }) hh hit2 hl2 hne hn S .none _ hS₂ hSi hSl fun h' tk acc' c' hk hS' hacc => ?_
  exact hR h' tk acc' c' (fun b o hb hi e => hk b o hb hi (oth b o hb e)) hS' hacc
theorem call_list_rev {it l : Addr} {items : Array Value} {Q : Value → Shared → Prop} (hh : A.handled = none) (hit : s.heap.IsRevIter it l ((items.size : Int) - 1)) (hl : s.heap.IsList l items) (hne : l ≠ it) (hn : items.size ≤ sizeLine)
    (hQ : ∀ h' tk acc' c', (∀ b o, b ≠ it → s.heap.get? b = some o → h'.get? b = some o) →
      h'.get? s.heap.objs.size = some { cls := .type "list", dict := none, data := .seq acc' c', slots := #[] } → ItemsOf (fun i v => items[items.size - 1 - i]? = some v) acc' items.size → Q (.ref s.heap.objs.size) { s with heap := h', toks := tk }) :
    wpAny (model prog w) A (call (.type "list") [.ref it]) Q E s := by
  refine callType_codes (Q₁ := fun obj s₁ => obj = .ref s.heap.objs.size ∧ s₁ = { s with heap := s.heap.push { cls := .type "list", data := .seq #[] } }) F.called_list (F.typeCall_list_1 _) F.entry_list_init
    (code_list_new _ ⟨rfl, rfl⟩) fun obj s₁ h₁ => ?_
  obtain ⟨rfl, rfl⟩ := h₁
  obtain ⟨oi, hoi, _⟩ := id hit
  obtain ⟨ol, hol, _⟩ := id hl
  have hSi : s.heap.objs.size ≠ it := Nat.ne_of_gt (Heap.lt_size hoi)
  have hSl : s.heap.objs.size ≠ l := Nat.ne_of_gt (Heap.lt_size hol)
  have hS : (s.heap.push { cls := .type "list", data := .seq #[] }).get? s.heap.objs.size = some { cls := .type "list", data := .seq #[] } := Heap.get?_push_size _ rfl
  have hit1 : (s.heap.push { cls := .type "list", data := .seq #[] }).IsRevIter it l ((items.size : Int) - 1) := hit.at fun o e => Heap.get?_push_of_some _ e
  refine ⟨⟨_, hS, rfl⟩, F.args_list_init_2 _ _, list_init_rev (A := A.in1) (s := { s with heap := s.heap.push { cls := .type "list", data := .seq #[] } }) hh hit1 (hl.push _) hne hn _ hS hSi hSl fun h' tk acc' c' hk hS' hacc => ?_⟩
  exact ⟨rfl, hQ h' tk acc' c' (fun b o hi e => hk b o (Nat.ne_of_lt (Heap.lt_size e)) hi (Heap.get?_push_of_some _ e)) hS' hacc⟩
end
section
variable {X : Cx} {K : PySem.W.Frag}
def tListRev (K : PySem.W.Frag) (te : TE) : TE := fun σ H Q => te σ H fun v H1 => ∃ (a : Addr) (xs : List V), v = .ref a ∧ SqL K H1 a xs ∧ ∀ q, H1 q = none → Q (.ref q) (upd H1 q (.lst xs.reverse))
theorem pe_listRev {e : Expr} {te : TE} {p p2 pos pos2 : Pos} (hm : X.mg "list" = none) (hm2 : X.mg "reversed" = none) (he : PE X e te) (hc : X.calm = true := by rfl) (hg : Gl X "list" := by rfl) (hg2 : Gl X "reversed" := by rfl) (h : X.K = K := by rfl)
    (hs : starEach [e] X.env = (false, eval e X.env) :: starEach [] X.env := by rfl)
    (hs2 : starEach [.Call (.Name "reversed" p2) [e] [] pos2] X.env = (false, eval (.Call (.Name "reversed" p2) [e] [] pos2) X.env) :: starEach [] X.env := by rfl) :
    PE X (.Call (.Name "list" p) [.Call (.Name "reversed" p2) [e] [] pos2] [] pos) (tListRev K te) := by
  subst h
  refine ⟨fun pins s σ H Q I h => ?_⟩
  refine Call_ (ld_blt I hg hm boot_list (PyProof.Rows.callWith_type1 (args_cons (Call_ (ld_blt I hg2 hm2 PyProof.Rows.boot_reversed (PyProof.Rows.callWith_type1 (args_cons (thn (he.run pins s σ H _ I h) fun u s1 ⟨v, H1, I1, r1, q1⟩ => args_nil ?_) hs) hs rfl))) hs2) hs2 rfl))
  obtain ⟨a, xs, ev, hq, q⟩ := q1
  subst ev
  obtain rfl : u = Value.ref a := r1
  obtain ⟨its, rv, p', hz⟩ := I1.list hq
  refine call_reversed_list p'.isList (args_nil ?_)
  have hl := p'.isList
  obtain ⟨ol, hol, _⟩ := id hl
  have hne : a ≠ s1.heap.objs.size := Nat.ne_of_lt (Heap.lt_size hol)
  have hn : its.toArray.size ≤ sizeLine := by rw [List.size_toArray, ← rv.length]; exact hz
  refine call_list_rev (s := { s1 with heap := s1.heap.push (revObj a ((its.toArray.size : Int) - 1)) }) (I1.ok.hd hc) ⟨_, Heap.get?_push_size _ rfl, rfl, rfl⟩ (hl.push _) hne hn fun h' tk acc c' hk hS hi => ?_
  have hk1 : ∀ b o, s1.heap.get? b = some o → h'.get? b = some o := fun b o e => hk b o (Nat.ne_of_lt (Heap.lt_size e)) (Heap.get?_push_of_some _ e)
  have hsz : (s1.heap.push (revObj a ((its.toArray.size : Int) - 1))).objs.size = s1.heap.objs.size + 1 := by
    first | rfl | simp [Heap.push] | exact Heap.size_push _ _
  have hle : s1.heap.objs.size ≤ (s1.heap.push (revObj a ((its.toArray.size : Int) - 1))).objs.size := by rw [hsz]; exact Nat.le_succ _
  refine ⟨.ref (s1.heap.push (revObj a ((its.toArray.size : Int) - 1))).objs.size, upd H1 (s1.heap.push (revObj a ((its.toArray.size : Int) - 1))).objs.size (.lst xs.reverse), I1.laid (t' := tk) hk1 hle ⟨by rw [List.length_reverse]; exact hz, acc.toList, c', RT.vals_rev rv hi, by rw [Array.toArray_toList]; exact hS⟩, rfl, q _ (I1.hok.fresh hle)⟩
end
section
variable {K : PySem.W.Frag} {M : List Addr} {F0 H0 F H : Hp} {L : List Own} {σ : L2.St} {Q : VK} {te : TE} {a : Addr} {xs : List V}
def lrvG (K : PySem.W.Frag) (v : V) (H1 : Hp) (Q : VK) : Prop := ∃ (a : Addr) (xs : List V), v = .ref a ∧ SqL K H1 a xs ∧ ∀ q, H1 q = none → Q (.ref q) (upd H1 q (.lst xs.reverse))
theorem x_lrv (q : te σ H fun v H1 => lrvG K v H1 Q) : tListRev K te σ H Q := q
theorem n_lrv (w : W M F0 H0 F H L) (hs : SqL K H a xs) (h : ∀ p F2 H2, W M F0 H0 F2 H2 (mu p (.lst xs.reverse) :: L) → H0 p = none → Q (.ref p) H2) : lrvG K (.ref a) H Q := ⟨a, xs, rfl, hs, n_new w h⟩
end
end R

namespace R
open PySem L2
/-! ### changes one behind the other -/
def ids (n : Nat) : List Cel := (List.range n).map Cel.pl
theorem ids_len (n : Nat) : (ids n).length = n := by unfold ids; rw [List.length_map, List.length_range]
theorem ids_get {n k : Nat} (h : k < n) : (ids n)[k]? = some (.pl k) := by
  unfold ids
  rw [List.getElem?_map, List.getElem?_range h]
  rfl
theorem ids_ok {n : Nat} : ∀ c ∈ ids n, c.ok n := by
  intro c hc
  obtain ⟨k, hk, rfl⟩ := List.mem_map.mp hc
  exact List.mem_range.mp hk
theorem mid_id {n : Nat} {c : Cel} (h : c.ok n) : midC (ids n) c = c := by
  cases c with
  | pl k =>
    show (ids n).getD k (.sg 0) = .pl k
    rw [List.getD_eq_getElem?_getD, ids_get h]
    rfl
  | sg c => rfl
theorem mids_id {n : Nat} {ds : List Cel} (h : ∀ d ∈ ds, d.ok n) : ds.map (midC (ids n)) = ds := by
  conv => rhs; rw [← List.map_id ds]
  exact List.map_congr_left fun d hd => mid_id (h d hd)
theorem ids_mid (cs : List Cel) : (ids cs.length).map (midC cs) = cs := by
  refine List.ext_getElem? fun k => ?_
  rw [List.getElem?_map]
  by_cases h : k < cs.length
  · rw [ids_get h, List.getElem?_eq_getElem h]
    show some (cs.getD k (.sg 0)) = _
    rw [List.getD_eq_getElem?_getD, List.getElem?_eq_getElem h]
    rfl
  · rw [List.getElem?_eq_none (by rw [ids_len]; omega), List.getElem?_eq_none (by omega)]
    rfl
theorem mid_mid {cs ds : List Cel} {e : Cel} (h : e.ok ds.length) : midC (ds.map (midC cs)) e = midC cs (midC ds e) := by
  cases e with
  | pl k =>
    have hk : k < ds.length := h
    show (ds.map (midC cs)).getD k (.sg 0) = midC cs (ds.getD k (.sg 0))
    rw [List.getD_eq_getElem?_getD, List.getD_eq_getElem?_getD, List.getElem?_map, List.getElem?_eq_getElem hk]
    rfl
  | sg c => rfl
theorem ids_out {O : List Nat} {n : Nat} (h : O.length = n) : (ids n).map (Cel.out O) = O := by
  refine List.ext_getElem? fun k => ?_
  rw [List.getElem?_map]
  by_cases hk : k < n
  · rw [ids_get hk, List.getElem?_eq_getElem (by omega)]
    show some (O.getD k 0) = _
    rw [List.getD_eq_getElem?_getD, List.getElem?_eq_getElem (by omega)]
    rfl
  · rw [List.getElem?_eq_none (by rw [ids_len]; omega), List.getElem?_eq_none (by omega)]
    rfl
def foldX : List (List CRow) → List Cel → List Cel
  | [], cs => cs
  | r :: l, cs => foldX l ((celsL r).map (midC cs))
theorem foldX_snoc (r : List CRow) : ∀ (l : List (List CRow)) (cs : List Cel), foldX (l ++ [r]) cs = (celsL r).map (midC (foldX l cs))
  | [], _ => rfl
  | _ :: l, _ => foldX_snoc r l _
inductive Vl : Nat → List (List CRow) → Nat → Prop
  | nil {n : Nat} : Vl n [] n
  | cons {n m : Nat} {r : List CRow} {l : List (List CRow)} : RowsOk n r → Vl (givesL r) l m → Vl n (r :: l) m
theorem foldX_ok {n m : Nat} {l : List (List CRow)} (v : Vl n l m) : ∀ {k : Nat} {cs : List Cel}, (∀ c ∈ cs, c.ok k) → cs.length = n → (∀ c ∈ foldX l cs, c.ok k) ∧ (foldX l cs).length = m := by
  induction v with
  | nil => exact fun h1 h2 => ⟨h1, h2⟩
  | @cons n m r l ok v ih =>
    intro k cs h1 h2
    exact ih (mid_ok h1 (by rw [h2]; exact cels_ok ok.ok)) (by rw [List.length_map, cels_len])
theorem foldX_mid {n m : Nat} {l : List (List CRow)} (v : Vl n l m) : ∀ {cs : List Cel}, cs.length = n → foldX l cs = (foldX l (ids n)).map (midC cs) := by
  induction v with
  | nil =>
    intro cs h
    subst h
    exact (ids_mid cs).symm
  | @cons n m r l ok v ih =>
    intro cs h
    have hr : ∀ c ∈ celsL r, c.ok n := cels_ok ok.ok
    have hl : (celsL r).length = givesL r := cels_len r
    show foldX l ((celsL r).map (midC cs)) = (foldX l ((celsL r).map (midC (ids n)))).map (midC cs)
    rw [mids_id hr, ih (cs := (celsL r).map (midC cs)) (by rw [List.length_map, hl]), ih (cs := celsL r) hl, List.map_map]
    have := (foldX_ok v (ids_ok (n := givesL r)) (ids_len _)).1
    exact List.map_congr_left fun e he => mid_mid (by rw [hl]; exact this e he)
structure Chain (txs : List Str) (rss : List (List CRow)) : Prop where
  len : txs.length = rss.length + 1
  ok : ∀ (i : Nat) (t : Str), txs[i]? = some t → okS t ∧ t.length ≤ 400
  st : ∀ (i : Nat) (t u : Str) (rs : List CRow), txs[i]? = some t → rss[i]? = some rs → txs[i + 1]? = some u → RowsOk t.length rs ∧ rs.flatMap (CRow.mk (cd t)) = cd u
theorem chain_one {t : Str} (ok : okS t) (l : t.length ≤ 400) : Chain [t] [] := by
  refine ⟨rfl, fun i u h => ?_, fun i t u rs _ h => nomatch h⟩
  cases i with
  | zero => cases h; exact ⟨ok, l⟩
  | succ i => cases h
theorem chain_snoc {txs : List Str} {rss : List (List CRow)} {t u : Str} {rs : List CRow} (c : Chain txs rss) (ht : txs[rss.length]? = some t) (ok : RowsOk t.length rs) (h : rs.flatMap (CRow.mk (cd t)) = cd u) (oku : okS u) : Chain (txs ++ [u]) (rss ++ [rs]) := by
  have hl := c.len
  have lu : u.length ≤ 400 := by
    rw [← cd_len, ← h, mks_len (cd_len t) ok.ok]
    exact ok.sum
  refine ⟨by rw [List.length_append, List.length_append, hl]; rfl, fun i v hv => ?_, fun i v v2 r hv hr hv2 => ?_⟩
  · by_cases hi : i < txs.length
    · rw [List.getElem?_append_left hi] at hv
      exact c.ok i v hv
    · rw [List.getElem?_append_right (by omega)] at hv
      cases e : i - txs.length with
      | zero => rw [e] at hv; cases hv; exact ⟨oku, lu⟩
      | succ k => rw [e] at hv; cases hv
  · by_cases hi : i < rss.length
    · rw [List.getElem?_append_left (by omega)] at hv hv2
      rw [List.getElem?_append_left hi] at hr
      exact c.st i v v2 r hv hr hv2
    · rw [List.getElem?_append_right (by omega)] at hr
      have hi2 : i = rss.length := by
        cases e : i - rss.length with
        | zero => omega
        | succ k => rw [e] at hr; cases hr
      subst hi2
      rw [Nat.sub_self] at hr
      cases hr
      rw [List.getElem?_append_left (by omega), ht] at hv
      cases hv
      rw [List.getElem?_append_right (by omega), hl, Nat.sub_self] at hv2
      cases hv2
      exact ⟨ok, h⟩
theorem chain_get {txs : List Str} {rss : List (List CRow)} (c : Chain txs rss) {i : Nat} (h : i ≤ rss.length) : ∃ t, txs[i]? = some t := ⟨_, List.getElem?_eq_getElem (by have := c.len; omega)⟩
theorem chain_gives {txs : List Str} {rss : List (List CRow)} (c : Chain txs rss) {i : Nat} {t u : Str} {rs : List CRow} (ht : txs[i]? = some t) (hr : rss[i]? = some rs) (hu : txs[i + 1]? = some u) : givesL rs = u.length := by
  obtain ⟨ok, h⟩ := c.st i t u rs ht hr hu
  rw [← mks_len (cd_len t) ok.ok, h, cd_len]
/-- the cells behind the first j changes -/
theorem chain_at {txs : List Str} {rss : List (List CRow)} {t0 : Str} (c : Chain txs rss) (h0 : txs[0]? = some t0) : ∀ (j : Nat) (t : Str), j ≤ rss.length → txs[j]? = some t →
    (∀ x ∈ foldX (rss.take j) (ids t0.length), x.ok t0.length) ∧ (foldX (rss.take j) (ids t0.length)).length = t.length ∧ (foldX (rss.take j) (ids t0.length)).map (Cel.out (cd t0)) = cd t
  | 0, t, _, ht => by
    rw [h0] at ht
    cases ht
    exact ⟨ids_ok, ids_len _, ids_out (cd_len t0)⟩
  | j + 1, t, hj, ht => by
    obtain ⟨u, hu⟩ := chain_get c (i := j) (by omega)
    obtain ⟨rs, hr⟩ : ∃ rs, rss[j]? = some rs := ⟨_, List.getElem?_eq_getElem (by omega)⟩
    obtain ⟨i1, i2, i3⟩ := chain_at c h0 j u (by omega) hu
    obtain ⟨ok, hm⟩ := c.st j u t rs hu hr ht
    have hg := chain_gives c hu hr ht
    have e : rss.take (j + 1) = rss.take j ++ [rs] := by rw [List.take_add_one, hr]; rfl
    have hc : ∀ d ∈ celsL rs, d.ok (foldX (rss.take j) (ids t0.length)).length := by rw [i2]; exact cels_ok ok.ok
    rw [e, foldX_snoc]
    refine ⟨mid_ok i1 hc, by rw [List.length_map, cels_len, hg], ?_⟩
    rw [mid_out hc, i3, ← mk_cels ok.ok, hm]
theorem chain_all {txs : List Str} {rss : List (List CRow)} {t0 t : Str} (c : Chain txs rss) (h0 : txs[0]? = some t0) (ht : txs[rss.length]? = some t) :
    (∀ x ∈ foldX rss (ids t0.length), x.ok t0.length) ∧ (foldX rss (ids t0.length)).length = t.length ∧ (foldX rss (ids t0.length)).map (Cel.out (cd t0)) = cd t := by
  have := chain_at c h0 rss.length t (Nat.le_refl _) ht
  rwa [List.take_length] at this
theorem chain_drop {txs : List Str} {rss : List (List CRow)} {tl : Str} (c : Chain txs rss) (hl : txs[rss.length]? = some tl) : ∀ (k : Nat) (t : Str), k ≤ rss.length → txs[rss.length - k]? = some t → Vl t.length (rss.drop (rss.length - k)) tl.length
  | 0, t, _, ht => by
    rw [Nat.sub_zero, hl] at ht
    cases ht
    rw [Nat.sub_zero, List.drop_length]
    exact .nil
  | k + 1, t, hk, ht => by
    obtain ⟨u, hu⟩ := chain_get c (i := rss.length - k) (by omega)
    have hj : rss.length - (k + 1) < rss.length := by omega
    have hj2 : rss.length - k = rss.length - (k + 1) + 1 := by omega
    obtain ⟨rs, hr⟩ : ∃ rs, rss[rss.length - (k + 1)]? = some rs := ⟨_, List.getElem?_eq_getElem hj⟩
    have ih := chain_drop c hl k u (by omega) hu
    rw [hj2] at hu ih
    obtain ⟨ok, _⟩ := c.st _ t u rs ht hr hu
    have hg := chain_gives c ht hr hu
    have e : rss.drop (rss.length - (k + 1)) = rs :: rss.drop (rss.length - (k + 1) + 1) := by
      rw [List.drop_eq_getElem_cons hj]
      rw [List.getElem?_eq_getElem hj] at hr
      cases hr
      rfl
    rw [e]
    exact .cons ok (by rw [hg]; exact ih)
/-- one more ahead -/
theorem fold_ahead {n m : Nat} {r : List CRow} {l : List (List CRow)} (ok : RowsOk n r) (v : Vl (givesL r) l m) : (foldX l (ids (givesL r))).map (midC (celsL r)) = foldX (r :: l) (ids n) := by
  show _ = foldX l ((celsL r).map (midC (ids n)))
  rw [mids_id (cels_ok ok.ok), foldX_mid v (cels_len r)]
/-! ### a list of changes -/
def ChgAll (K : PySem.W.Frag) (F : Hp) (vs : List V) (txs : List Str) (rss : List (List CRow)) : Prop := vs.length = rss.length ∧ ∀ (i : Nat) (v : V) (t : Str) (rs : List CRow), vs[i]? = some v → txs[i]? = some t → rss[i]? = some rs → Chg K F v t.length rs
theorem ChgAll.same {K : PySem.W.Frag} {F F2 : Hp} {vs : List V} {txs : List Str} {rss : List (List CRow)} (s : Same F F2) (h : ChgAll K F vs txs rss) : ChgAll K F2 vs txs rss := ⟨h.1, fun i v t rs h1 h2 h3 => (h.2 i v t rs h1 h2 h3).same s⟩
def chs (K : PySem.W.Frag) (vs : List V) (txs : List Str) (rss : List (List CRow)) : Own := pur (fun F => ChgAll K F vs txs rss) fun s h => h.same s
theorem chs_nil {K : PySem.W.Frag} {F : Hp} {txs : List Str} : ChgAll K F [] txs [] := ⟨rfl, fun i v t rs h => nomatch h⟩
theorem chs_snoc {K : PySem.W.Frag} {F : Hp} {vs : List V} {txs : List Str} {rss : List (List CRow)} {v : V} {t u : Str} {rs : List CRow} (h : ChgAll K F vs txs rss) (hl : txs.length = rss.length + 1) (ht : txs[rss.length]? = some t) (hc : Chg K F v t.length rs) : ChgAll K F (vs ++ [v]) (txs ++ [u]) (rss ++ [rs]) := by
  refine ⟨by rw [List.length_append, List.length_append, h.1]; rfl, fun i w t2 r2 h1 h2 h3 => ?_⟩
  have hv := h.1
  by_cases hi : i < rss.length
  · rw [List.getElem?_append_left (by omega)] at h1 h2 h3
    exact h.2 i w t2 r2 h1 h2 h3
  · have hi2 : i = rss.length := by
      rw [List.getElem?_append_right (by omega)] at h3
      cases e : i - rss.length with
      | zero => omega
      | succ k => rw [e] at h3; cases h3
    subst hi2
    rw [List.getElem?_append_right (by omega), hv, Nat.sub_self] at h1
    rw [List.getElem?_append_left (by omega), ht] at h2
    rw [List.getElem?_append_right (by omega), Nat.sub_self] at h3
    cases h1
    cases h2
    cases h3
    exact hc
def copyR (n : Nat) : List CRow := if n = 0 then [] else [.copy 0 n]
theorem copy_cels (n : Nat) : celsL (copyR n) = ids n := by
  unfold copyR
  by_cases h : n = 0
  · rw [if_pos h, h]
    rfl
  · rw [if_neg h]
    show ((List.range n).map fun i => Cel.pl (0 + i)) ++ [] = (List.range n).map Cel.pl
    rw [List.append_nil]
    exact List.map_congr_left fun i _ => by rw [Nat.zero_add]
theorem copy_ok {n : Nat} (h : n ≤ 400) : RowsOk n (copyR n) := by
  unfold copyR
  by_cases h0 : n = 0
  · rw [if_pos h0]
    exact ⟨fun _ h => (nomatch h), Nat.zero_le _⟩
  · rw [if_neg h0]
    refine ⟨fun r hr => ?_, by show n + 0 ≤ 400; omega⟩
    rw [List.mem_singleton.mp hr]
    exact ⟨trivial, by show 1 ≤ n; omega, by show 0 + n ≤ n; omega⟩
/-! ### loops over reversed(range(n)), is of bools -/
section
variable {K : PySem.W.Frag} {M : List Addr} {F0 H0 F H : Hp} {L L1 : List Own} {σ : L2.St} {g : TG} {tbody : TS} {nx bk ct : L2.St → Hp → Prop} {rt Q : VK}
theorem n_forC {lo c : Int} {n : Nat} (w : W M F0 H0 F H L) (Inv : Nat → L2.St → List Own → Prop) (h0 : Inv 0 σ L1)
    (hs : ∀ (i : Nat) σ L F H, i < n → Inv i σ L → W M F0 H0 F H L → g (.int (lo + (i : Nat) * c)) σ H fun σ2 H2 => tbody ⟨Nx M F0 H0 (Inv (i + 1)), rt, nx, Nx M F0 H0 (Inv (i + 1))⟩ σ2 H2)
    (hd : ∀ σ L F H, Inv n σ L → W M F0 H0 F H L → nx σ H) (k : Pk L L1 := by walk_at "pk") : forG g tbody ⟨nx, rt, bk, ct⟩ (Itc lo c n) σ H :=
  n_forJ (Itc lo c n) n w Inv h0 (fun i σ L F H hi _ _ => hi) (fun σ L F H _ _ => Nat.le_refl _) (fun i x σ L F H H' hi h w y => by obtain ⟨rfl, rfl⟩ := y; exact hs i σ L F _ hi h w) hd k
def rvG (a b : Int) (H1 : Hp) (R : It → Hp → Prop) : Prop := -(2 ^ 62) ≤ a ∧ a < 2 ^ 62 ∧ -(2 ^ 62) ≤ b ∧ b < 2 ^ 62 ∧ R (Itc (a + (((b - a).toNat : Nat) : Int) - 1) (-1) (b - a).toNat) H1
theorem x_revR {ta : TE} {R : It → Hp → Prop} (q : ta σ H fun x H1 => ∃ n, x = .int n ∧ rvG 0 n H1 R) : iRevR (tRg1 ta) σ H R := q
theorem n_revR {n : Nat} {R : It → Hp → Prop} (h : n ≤ 1000000) (q : R (Itc ((n : Nat) - 1 : Int) (-1) n) H) : ∃ m, V.int ((n : Nat) : Int) = .int m ∧ rvG 0 m H R := by
  refine ⟨_, rfl, by decide, by decide, by omega, by omega, ?_⟩
  rw [show (((n : Nat) : Int) - 0).toNat = n by omega, show (0 : Int) + ((n : Nat) : Int) - 1 = (n : Nat) - 1 by omega]
  exact q
theorem n_isB {a b : Bool} (q : Q (.bl (decide (a = b))) H) : rIsB (.bl a) (.bl b) H Q := ⟨a, b, rfl, rfl, q⟩
theorem n_notB {a b : Bool} (q : Q (.bl (!decide (a = b))) H) : rNotB (.bl a) (.bl b) H Q := ⟨a, b, rfl, rfl, q⟩
end
theorem atI_neg1 {α : Type} {xs : List α} {v : α} (h : xs[xs.length - 1]? = some v) : atI xs (-1) = some v := by
  have hl := (List.getElem?_eq_some_iff.mp h).1
  unfold atI ixN
  rw [if_neg (by decide)]
  first
    | (rw [if_pos (by omega)]; show xs[(((xs.length : Nat) : Int) + -1).toNat]? = some v; rw [show (((xs.length : Nat) : Int) + -1).toNat = xs.length - 1 by omega]; exact h)
    | (rw [if_pos (by omega)]; show xs[((-1 : Int) + ((xs.length : Nat) : Int)).toNat]? = some v; rw [show ((-1 : Int) + ((xs.length : Nat) : Int)).toNat = xs.length - 1 by omega]; exact h)
theorem rg_ids (n : Nat) : rgV 0 (n : Int) = (ids n).map Cel.v := by
  unfold rgV ids
  rw [List.map_map, show (((n : Nat) : Int) - 0).toNat = n by omega]
  exact List.map_congr_left fun i _ => by show V.int (0 + (i : Int)) = V.int (i : Nat); rw [Int.zero_add]
/-! ### promises of k09 -/
def φfirst (K : PySem.W.Frag) : V → Hp → VK → Prop := fun x H Q => ∃ (F : Hp) (a : Addr) (vs : List V) (txs : List Str) (rss : List (List CRow)) (t0 : Str), x = .ref a ∧ Same F H ∧ SqL K F a vs ∧ ChgAll K F vs txs rss ∧ Chain txs rss ∧ 1 ≤ rss.length ∧ rss.length ≤ 100 ∧ txs[0]? = some t0 ∧
  ∀ v F2 H2, W [] F H F2 H2 [chg K v t0.length (plainL (foldX rss (ids t0.length)))] → Q v H2
def φlback9 (K : PySem.W.Frag) : V → V → Hp → VK → Prop := fun x y H Q => ∃ (F : Hp) (a q : Addr) (vs : List V) (txs : List Str) (rss : List (List CRow)), x = .ref a ∧ y = .ref q ∧ Same F H ∧ SqL K F a vs ∧ SqL K F q (txs.map V.str) ∧ ChgAll K F vs txs rss ∧ Chain txs rss ∧ rss.length ≤ 100 ∧
  ∀ F2 H2, W [] F H F2 H2 [] → Q (.bl true) H2
def φcopied (K : PySem.W.Frag) : V → Hp → VK → Prop := fun x H Q => ∃ (F : Hp) (n : Nat), x = .int (n : Nat) ∧ Same F H ∧ n ≤ 400 ∧ ∀ v F2 H2, W [] F H F2 H2 [chg K v n (copyR n)] → Q v H2
def φdrawn9 (K : PySem.W.Frag) : V → V → V → Hp → VK → Prop := fun x y z H Q => ∃ (F : Hp) (b : Addr) (t0 : Str) (many : Nat), x = .ref b ∧ y = .str t0 ∧ z = .int (many : Nat) ∧ St F H [bag K b] ∧ many ≤ 100 ∧ okS t0 ∧ t0.length ≤ 400 ∧
  ∀ T p q r vs txs rss F2 H2, H p = none → H q = none → H r = none → W [b] F H F2 H2 [fx T (.tup [.ref p, .ref q, .ref r]), mu p (.lst vs), chs K vs txs rss, mu q (.lst (txs.map V.str)), mu r (.lst ((foldX rss (ids t0.length)).map Cel.v)), bag K b] → Chain txs rss → rss.length = many → txs[0]? = some t0 → Q (.ref T) H2
end R

namespace R
open PySem PySem.Spec PyProof.Rows L2
/-! ### xs.insert(i, y) -/
section
variable {X : Cx}
def rIns : V → List V → Hp → VK → Prop := fun x vs H Q => ∃ (l : Addr) (xs : List V) (i : Int) (y : V), x = .ref l ∧ vs = [.int i, y] ∧ H l = some (.lst xs) ∧ xs.length < sizeLine ∧ 0 ≤ i ∧ i < 2 ^ 63 ∧ Q .non (upd H l (.lst (xs.take i.toNat ++ [y] ++ xs.drop i.toNat)))
theorem mtIns : MtR X "list.insert" rIns := mt_insert
end
section
variable {K : PySem.W.Frag} {M : List Addr} {F0 H0 F H : Hp} {L L1 Rs : List Own} {Q : VK} {p : Addr} {xs : List V} {i : Int} {y : V}
theorem n_insert (w : W M F0 H0 F H L) (kk : Pick L [mu p (.lst xs)] Rs) (hl : xs.length < sizeLine) (h0 : 0 ≤ i) (h1 : i < 2 ^ 63) (h : ∀ H2, W M F0 H0 F H2 (mu p (.lst (xs.take i.toNat ++ [y] ++ xs.drop i.toNat)) :: Rs) → Q .non H2) : rIns (.ref p) [.int i, y] H Q :=
  ⟨p, xs, i, y, rfl, rfl, (w.to kk).at_ (List.mem_singleton.mpr rfl), hl, h0, h1, h _ (w.wr kk)⟩
end
end R

namespace R
open PySem PySem.Spec PyProof.Rows L2
/-! ### an instance made within a comprehension -/
theorem pmakeQ {X : Cx} {K : PySem.W.Frag} {k j : Nat} {ps : List Str} {sp : Sp} {dvs : List V} {x : Str} {p pos : Pos} {e : Expr} {es : List Expr} {t : TA} (D : DN X.prog X.w K X.mg X.base k x ps dvs sp) (hr : Room j X.A) (ha : PA X (e :: es) t) (hj : k + 1 ≤ j := by first | decide | exact Nat.le_refl _ | omega) (hg : Gl X x := by rfl) (hdb : (x == ("__debug__" : Str)) = false := by decide)
    (he : starEach (e :: es) X.env = (false, eval e X.env) :: starEach es X.env := by rfl) (hpl : (backTo pos (starEach es X.env)).any (·.1) = false := by rfl) (hK : X.K = K := by rfl) :
    PE X (.Call (.Name x p) (e :: es) [] pos) (tMake (He.ga K x) sp dvs E0 t) := by
  subst hK
  exact pmake D hr ha hj hg hdb he hpl
/-! ### a change made of a list that may change -/
theorem c_initM {K : PySem.W.Frag} {M : List Addr} {F0 H0 F H : Hp} {L Rs Rs2 : List Own} {Q : VK} {E : XK} {c dx a : Addr} {vs : List V} {n : Nat} {rows : List CRow} (w : W M F0 H0 F H L) (k : Pick L [mu c (.ins (He.ga K "Change") dx [])] Rs) (ka : Pick L [mu a (.lst vs)] Rs2) (hc : H0 c = none) (hd : DpAll K F vs (rows.map CRow.d)) (hn : n ≤ 400) (ok : RowsOk n rows)
    (q : ∀ F2 H2, W M F0 H0 F2 H2 (chg K (.ref c) n rows :: Rs) → Q (.ref c) H2) : S3 (φinit K) [.ref c, .int (n : Nat), .ref a] H (aftG Q c) E := by
  have ma : Mu F H a (.lst vs) := (w.to ka).mu (List.mem_singleton.mpr rfl)
  have mc : Mu F H c (.ins (He.ga K "Change") dx []) := (w.to k).mu (List.mem_singleton.mpr rfl)
  have hne : c ≠ a := fun e => by
    have h1 := mc.h
    rw [e, ma.h] at h1
    cases h1
  have sF : Same F (upd F a (.lst vs)) := Same.new ma.n
  have sH : Same (upd F a (.lst vs)) H := fun b o e => by
    by_cases hb : b = a
    · subst hb
      rw [upd_same] at e
      rw [ma.h]
      exact e
    · rw [upd_ne hb] at e
      exact w.fh b o e
  have s0 : St (upd F a (.lst vs)) H [mu c (.ins (He.ga K "Change") dx [])] := by
    refine ⟨sH, fun o m => ?_, (w.st k).d⟩
    rw [List.mem_singleton.mp m]
    exact ⟨by rw [upd_ne hne]; exact mc.n, mc.h⟩
  refine ⟨upd F a (.lst vs), c, dx, a, vs, n, rows, rfl, rfl, rfl, s0, sqL_of upd_same, dpa_same sF _ _ hd, hn, ok, fun r F2 H2 hr w2 => ⟨rfl, ?_⟩⟩
  have m1 := w2.mu (p := c) (List.mem_cons_self ..)
  have m2 := w2.mu (p := r) (List.mem_cons_of_mem _ (List.mem_cons_self ..))
  have w3 : W [c] F H F H2 [mu c (insC (He.ga K "Change") dx r n), mu r (.lst vs)] := by
    refine ⟨w2.g.back sF, fun o m => ?_, w2.d, w2.o⟩
    rcases List.mem_cons.mp m with rfl | m
    · exact ⟨mc.n, m1.h⟩
    · rw [List.mem_singleton.mp m]
      exact ⟨w.fh.free hr, m2.h⟩
  have hr' := w.g.fresh hr
  have w := w.cal k w3 (.cons (.cons .nil)) rfl
  have m1 := w.mu (p := c) (List.mem_cons_self ..)
  have w := w.fz (.cons .here .nil) hc
  have hd2 := dpa_same (Same.new (o := insC (He.ga K "Change") dx r n) m1.n) _ _ hd
  have m2 := w.mu (p := r) (List.mem_cons_self ..)
  have w := w.fz (.cons .here .nil) hr'
  have hd2 := dpa_same (Same.new (o := .lst vs) m2.n) _ _ hd2
  refine q _ _ (w.push _ ⟨c, dx, r, vs, rfl, ?_, upd_same, hd2⟩)
  have hne : c ≠ r := fun e => by
    subst e
    have := m2.n
    rw [upd_same] at this
    cases this
  rw [upd_ne hne, upd_same]
/-! ### xs.insert(i, y), str(x) of a text or a number, over a tuple -/
section
variable {X : Cx}
def rStrQ : List V → Hp → VK → Prop := fun xs H Q => (∃ a : Str, xs = [.str a] ∧ Q (.str a) H) ∨ ∃ i : Int, xs = [.int i] ∧ i.natAbs.log2 < 1920 ∧ Q (.str (toString i)) H
theorem clStrQ : CallR X (.type "str") rStrQ := by
  intro pins s σ H xs us Q I r h
  rcases h with ⟨a, e, q⟩ | ⟨i, e, hl, q⟩
  · exact SkE.call_str_str pins s σ H xs us Q I r ⟨a, e, q⟩
  · exact call_str_int pins s σ H xs us Q I r ⟨i, e, hl, q⟩
end
section
variable {K : PySem.W.Frag} {M : List Addr} {F0 H0 F H : Hp} {L L1 Rs : List Own} {σ : L2.St} {Q : VK} {g : TG} {tt : TT} {te : TE} {vs : List Nat} {a p : Addr} {xs : List V} {i : Int} {y : V}
theorem n_lcT (xs : List V) (w : W M F0 H0 F H L) (P : Nat → List V → List Own → Prop) (h0 : P 0 [] L1) (hl : ∀ i ys L F H D, P i ys L → W M F0 H0 F H (mu D (.lst ys) :: L) → SqT K H a xs)
    (hs : ∀ (i : Nat) x ys L F H D, xs[i]? = some x → P i ys L → W M F0 H0 F H (mu D (.lst ys) :: L) → H0 D = none → g x (wipe σ vs) H fun σ2 H2 => wipe σ2 vs = wipe σ vs ∧ tt σ2 H2 fun b H3 =>
      if b = true then te σ2 H3 (accG D (NxC M F0 H0 (P (i + 1)) D)) else NxC M F0 H0 (P (i + 1)) D H3)
    (hd : ∀ D ys L F H, P xs.length ys L → W M F0 H0 F H (mu D (.lst ys) :: L) → H0 D = none → Q (.ref D) H) (k : Pk L L1 := by walk_at "pk") : lcG g tt te vs (Itt K a) σ H Q := by
  refine n_lcJ (Itt K a) xs.length w P h0 (fun i ys L F H D hi h w => ⟨xs, xs[i], hl i ys L F H D h w, List.getElem?_eq_getElem hi⟩) (fun ys L F H D h w => ⟨xs, hl _ ys L F H D h w, Nat.le_refl _⟩) (fun i x ys L F H H' D hi h w y hD => ?_) hd k
  obtain ⟨rfl, y⟩ := y
  exact hs i x ys L F _ D (y xs (hl i ys L F _ D h w)) h w hD
end
/-! ### a row's words -/
def rowS : CRow → List Str
  | .put s => [Str.ofString "put", s]
  | .copy a n => [Str.ofString "copy", numS a, numS n]
theorem joinL_sp (a b : List Nat) : TL.joinL [32] [a, b] = a ++ 32 :: b := by simp [TL.joinL]
theorem joinL_sp3 (a b c : List Nat) : TL.joinL [32] [a, b, c] = a ++ 32 :: (b ++ 32 :: c) := by simp [TL.joinL]
theorem sp_tl : TL.tl (Str.ofString " ") = [32] := by decide +kernel
theorem put_sp : cd (Str.ofString "put ") = cd (Str.ofString "put") ++ [32] := by decide +kernel
theorem copy_sp : cd (Str.ofString "copy ") = cd (Str.ofString "copy") ++ [32] := by decide +kernel
theorem sp_cd : cd (Str.ofString " ") = [32] := by decide +kernel
theorem rowS_join (r : CRow) : cd (Txt.join (Str.ofString " ") (rowS r)) = rowW r := by
  have e : TL.tl (Txt.join (Str.ofString " ") (rowS r)) = TL.joinL [32] ((rowS r).map TL.tl) := by
    rw [TL.join_eq, TL.tl_join]
    first | rfl | (rw [sp_tl]) | (congr 1; done)
  refine e.trans ?_
  cases r with
  | put s =>
    show TL.joinL [32] [cd (Str.ofString "put"), cd s] = cd (Str.ofString "put ") ++ cd s
    rw [joinL_sp, put_sp, List.append_assoc]
    rfl
  | copy a n =>
    show TL.joinL [32] [cd (Str.ofString "copy"), cd (numS a), cd (numS n)] = cd (Str.ofString "copy ") ++ cd (numS a) ++ cd (Str.ofString " ") ++ cd (numS n)
    rw [joinL_sp3, copy_sp, sp_cd]
    simp
theorem slen_put0 : (Str.ofString "put").length = 3 := by decide +kernel
theorem slen_copy0 : (Str.ofString "copy").length = 4 := by decide +kernel
theorem rowS_len {r : CRow} {n : Nat} (h : CRowOk n r) (hn : n ≤ 400) (hg : r.gives ≤ 400) : ((rowS r).map (·.length)).sum + (rowS r).length * (Str.ofString " ").length ≤ 16777216 := by
  rw [slen_sp]
  cases r with
  | put s =>
    have hs : s.length ≤ 400 := hg
    show (Str.ofString "put").length + (s.length + 0) + 2 * 1 ≤ _
    rw [slen_put0]
    omega
  | copy a m =>
    have h1 : a + m ≤ n := h.h
    have h2 := (num_ok (n := a) (by omega)).2
    have h3 := (num_ok (n := m) (by omega)).2
    show (Str.ofString "copy").length + ((numS a).length + ((numS m).length + 0)) + 3 * 1 ≤ _
    rw [slen_copy0]
    omega
/-- the words of a row, one by one -/
theorem rowS_at {r : CRow} {n i : Nat} {x : V} (h : CRowOk n r) (hn : n ≤ 400) (hx : r.vals[i]? = some x) : ∃ s, (rowS r)[i]? = some s ∧ (x = .str s ∨ ∃ k : Nat, k ≤ 400 ∧ x = .int (k : Nat) ∧ s = numS k) := by
  cases r with
  | put z =>
    match i, hx with
    | 0, hx => cases hx; exact ⟨_, rfl, .inl rfl⟩
    | 1, hx => cases hx; exact ⟨_, rfl, .inl rfl⟩
  | copy a m =>
    have h1 : a + m ≤ n := h.h
    match i, hx with
    | 0, hx => cases hx; exact ⟨_, rfl, .inl rfl⟩
    | 1, hx => cases hx; exact ⟨_, rfl, .inr ⟨a, by omega, rfl, rfl⟩⟩
    | 2, hx => cases hx; exact ⟨_, rfl, .inr ⟨m, by omega, rfl, rfl⟩⟩
theorem rowS_vals (r : CRow) : (rowS r).length = r.vals.length := by cases r <;> rfl
theorem rowS_le (r : CRow) : (rowS r).length ≤ 3 := by
  cases r with
  | put s => exact (show (2 : Nat) ≤ 3 by decide)
  | copy a n => exact Nat.le_refl 3
theorem dp_row {K : PySem.W.Frag} {F : Hp} {v : V} {r : CRow} (h : Dp K F v r.d) : ∃ p, v = .ref p ∧ SqT K F p r.vals := by
  cases r with
  | put s =>
    obtain ⟨p, e, h⟩ := dp_cput h
    exact ⟨p, e, h⟩
  | copy a n =>
    obtain ⟨p, e, h⟩ := dp_ccopy h
    exact ⟨p, e, h⟩
/-! ### two changes of one size, and their rows -/
structure Pr (K : PySem.W.Frag) (F : Hp) (n : Nat) (x y : V) (cv : Nat → V) (rw : Nat → List CRow) (pv : Nat → Addr) (pvs : Nat → List V) : Prop where
  cl : ∃ ca, x = .ref ca ∧ SqL K F ca [cv 0, cv 1]
  rl : ∃ ra, y = .ref ra ∧ SqL K F ra [.ref (pv 0), .ref (pv 1)]
  it : ∀ i, i < 2 → SqL K F (pv i) (pvs i) ∧ DpAll K F (pvs i) ((rw i).map CRow.d) ∧ Chg K F (cv i) n (rw i) ∧ RowsOk n (rw i)
theorem Pr.same {K : PySem.W.Frag} {F F2 : Hp} {n : Nat} {x y : V} {cv : Nat → V} {rw : Nat → List CRow} {pv : Nat → Addr} {pvs : Nat → List V} (s : Same F F2) (h : Pr K F n x y cv rw pv pvs) : Pr K F2 n x y cv rw pv pvs := by
  obtain ⟨⟨ca, e, h1⟩, ⟨ra, e2, h2⟩, h3⟩ := h
  refine ⟨⟨ca, e, sqL_same s h1⟩, ⟨ra, e2, sqL_same s h2⟩, fun i hi => ?_⟩
  obtain ⟨a, b, c, d⟩ := h3 i hi
  exact ⟨sqL_same s a, dpa_same s _ _ b, c.same s, d⟩
theorem two_at {α : Type} (f : Nat → α) {i : Nat} (h : i < 2) : atI [f 0, f 1] (i : Int) = some (f i) := by
  match i, h with
  | 0, _ => rfl
  | 1, _ => rfl
def pr (K : PySem.W.Frag) (n : Nat) (x y : V) (cv : Nat → V) (rw : Nat → List CRow) (pv : Nat → Addr) (pvs : Nat → List V) : Own := pur (fun F => Pr K F n x y cv rw pv pvs) fun s h => h.same s
def two {α : Type} (x y : α) (i : Nat) : α := if i = 0 then x else y
theorem pr_mk {K : PySem.W.Frag} {F : Hp} {n : Nat} {ca ra : Addr} {c0 c1 : V} {p0 p1 : Addr} {rows0 rows1 : List CRow} {vs0 vs1 : List V} (h1 : F ca = some (.lst [c0, c1])) (h2 : F ra = some (.lst [.ref p0, .ref p1])) (a0 : F p0 = some (.lst vs0)) (a1 : F p1 = some (.lst vs1)) (d0 : DpAll K F vs0 (rows0.map CRow.d)) (d1 : DpAll K F vs1 (rows1.map CRow.d)) (k0 : Chg K F c0 n rows0) (k1 : Chg K F c1 n rows1) (o0 : RowsOk n rows0) (o1 : RowsOk n rows1) :
    Pr K F n (.ref ca) (.ref ra) (two c0 c1) (two rows0 rows1) (two p0 p1) (two vs0 vs1) := by
  refine ⟨⟨ca, rfl, sqL_of h1⟩, ⟨ra, rfl, sqL_of h2⟩, fun i hi => ?_⟩
  match i, hi with
  | 0, _ => exact ⟨sqL_of a0, d0, k0, o0⟩
  | 1, _ => exact ⟨sqL_of a1, d1, k1, o1⟩
/-! ### promises of k10 -/
def φrefX (K : PySem.W.Frag) : V → V → V → V → Hp → VK → Prop := fun x1 x2 x3 x4 H Q => ∃ (F : Hp) (n : Nat) (rows : List CRow) (way : Int), x2 = .int way ∧ Same F H ∧ Chg K F x1 n rows ∧ RowsOk n rows ∧ n ≤ 400 ∧
  (((way = 0 ∨ way = 1) ∧ ∃ o, x3 = .str o ∧ o.length ≤ 1000 ∧ o.length ≠ n) ∨ (way = 2 ∧ ∃ m rows2, Chg K F x4 m rows2 ∧ m ≤ 400 ∧ m ≠ givesL rows)) ∧ ∀ F2 H2, W [] F H F2 H2 [] → Q (.bl true) H2
def φparted10 (K : PySem.W.Frag) : V → V → V → V → Hp → VK → Prop := fun x1 x2 x3 x4 H Q => ∃ (F : Hp) (b : Addr) (n : Nat) (cv : Nat → V) (rw : Nat → List CRow) (pv : Nat → Addr) (pvs : Nat → List V), x1 = .ref b ∧ x4 = .int (n : Nat) ∧ St F H [bag K b] ∧ Pr K F n x2 x3 cv rw pv pvs ∧ n ≤ 400 ∧
  ∀ F2 H2, W [b] F H F2 H2 [bag K b] → Q (.bl true) H2
def φbehind10 (K : PySem.W.Frag) : V → V → V → V → Hp → VK → Prop := fun x1 x2 x3 x4 H Q => ∃ (F : Hp) (b a : Addr) (n : Nat) (rows : List CRow), x1 = .ref b ∧ x3 = .int (n : Nat) ∧ x4 = .ref a ∧ St F H [bag K b] ∧ Chg K F x2 n rows ∧ RowsOk n rows ∧ n ≤ 400 ∧ SqL K F a ((celsL rows).map Cel.v) ∧
  ∀ F2 H2, W [b] F H F2 H2 [bag K b] → Q (.bl true) H2
def φstays10 (K : PySem.W.Frag) : V → V → V → V → Hp → VK → Prop := fun x1 x2 x3 x4 H Q => ∃ (F : Hp) (b a : Addr) (n : Nat) (vs : List V) (rows : List CRow), x1 = .ref b ∧ x3 = .int (n : Nat) ∧ x4 = .ref a ∧ St F H [bag K b] ∧ Chg K F x2 n rows ∧ RowsOk n rows ∧ n ≤ 400 ∧ SqL K F a vs ∧ DpAll K F vs (rows.map CRow.d) ∧
  ∀ F2 H2, W [b] F H F2 H2 [bag K b] → Q (.bl true) H2
def φdeed10 (K : PySem.W.Frag) : V → V → V → V → V → Hp → VK → Prop := fun x1 x2 x3 x4 x5 H Q => ∃ (F : Hp) (b t : Addr) (n : Nat) (ts : List V) (css : List (List Cel)) (cv : Nat → V) (rw : Nat → List CRow) (pv : Nat → Addr) (pvs : Nat → List V), x1 = .ref b ∧ x4 = .int (n : Nat) ∧ x5 = .ref t ∧ St F H [mu t (.lst ts), bag K b] ∧ DpAll K F ts (css.map twinD) ∧ Told css ∧ ts.length ≤ 1000 ∧ Pr K F n x2 x3 cv rw pv pvs ∧ n ≤ 400 ∧
  ∀ ts2 css2 F2 H2, W [t, b] F H F2 H2 [mu t (.lst ts2), dpa K ts2 (css2.map twinD), bag K b] → Told css2 → ts2.length ≤ ts.length + 1 → Q (.bl true) H2
end R

namespace Z
open PySem PySem.Spec PyProof.Rows L2 R

local macro_rules | `(tactic| walk_at "osq") => `(tactic| first
  | assumption
  | exact sqL_of upd_same
  | exact sqL_of (by assumption)
  | exact sqL_same (by assumption) (by assumption)
  | exact Mu.sq (by assumption)
  | exact sqL_same (Gr.ws (by assumption)) (by assumption)
  | exact sqL_same (Gr.fh (by assumption)) (by assumption))
local macro_rules | `(tactic| walk_at "ost") => `(tactic| first
  | assumption
  | exact sqT_of upd_same
  | exact sqT_of (by assumption)
  | exact sqT_same (by assumption) (by assumption)
  | exact sqT_same (Gr.ws (by assumption)) (by assumption)
  | exact sqT_same (Gr.fh (by assumption)) (by assumption))
local macro_rules | `(tactic| walk_at "owp") => `(tactic| dsimp only [wipe, List.map, List.set_cons_succ, List.set_cons_zero])
local macro_rules | `(tactic| walk_at "og1") => `(tactic| first
  | with_reducible refine w_seq ?_
  | with_reducible refine w_asg ?_
  | with_reducible refine w_v0 ?_ | with_reducible refine w_v1 ?_ | with_reducible refine w_v2 ?_ | with_reducible refine w_v3 ?_
  | with_reducible refine w_v4 ?_ | with_reducible refine w_v5 ?_ | with_reducible refine w_v6 ?_ | with_reducible refine w_v7 ?_
  | with_reducible refine w_v8 ?_ | with_reducible refine w_v9 ?_ | with_reducible refine w_v10 ?_ | with_reducible refine w_v11 ?_
  | with_reducible refine w_v12 ?_ | with_reducible refine w_v13 ?_
  | with_reducible refine w_n0 ?_ | with_reducible refine w_n1 ?_ | with_reducible refine w_n2 ?_ | with_reducible refine w_n3 ?_
  | with_reducible refine w_n4 ?_ | with_reducible refine w_n5 ?_ | with_reducible refine w_n6 ?_ | with_reducible refine w_n7 ?_
  | with_reducible refine w_n8 ?_ | with_reducible refine w_n9 ?_ | with_reducible refine w_n10 ?_ | with_reducible refine w_n11 ?_
  | with_reducible refine w_n12 ?_ | with_reducible refine w_n13 ?_
  | with_reducible refine w_c ?_ | with_reducible refine w_op ?_ | with_reducible refine w_un ?_
  | with_reducible refine w_add ?_ | with_reducible refine w_subt ?_
  | with_reducible refine w_lt ?_ | with_reducible refine w_le ?_ | with_reducible refine w_gt ?_ | with_reducible refine w_ge ?_
  | ((with_reducible refine w_mul ?c ?_); (case c => first | exact .inl ⟨by omega, by omega⟩ | exact .inr ⟨by omega, by omega⟩))
  | ((with_reducible refine w_mod ?c ?_); (case c => first | omega | decide))
  | ((with_reducible refine w_fdiv ?c ?_); (case c => exact divw_ok (by omega) (by omega)))
  | ((with_reducible refine w_pow ?c ?_); (case c => exact ⟨by omega, by omega, by omega⟩))
  | with_reducible refine w_neg ?_ | with_reducible refine w_bits ?_
  | with_reducible refine w_eqI ?_ | with_reducible refine w_neI ?_ | with_reducible refine w_eqS ?_ | with_reducible refine w_neS ?_
  | with_reducible refine w_eqB ?_ | with_reducible refine w_neB ?_ | with_reducible refine w_isN ?_ | with_reducible refine w_notN ?_
  | with_reducible refine w_test ?_ | with_reducible refine w_tB ?_ | with_reducible refine w_asBl ?_
  | with_reducible refine w_and ?_ | with_reducible refine w_or ?_ | with_reducible refine w_not ?_ | with_reducible refine w_if ?_
  | with_reducible refine w_truth ?_ | with_reducible refine w_yes ?_
  | with_reducible refine w_andV ?_ | with_reducible refine w_orV ?_ | with_reducible refine w_notV ?_
  | with_reducible refine w_nil ?_ | with_reducible refine w_cons ?_ | with_reducible refine w_call ?_ | with_reducible refine w_callN ?_
  | with_reducible refine w_CB ?_ | with_reducible refine w_tup ?_ | with_reducible refine w_lst ?_ | with_reducible refine w_sl ?_
  | with_reducible refine w_nop ?_ | with_reducible refine w_part ?_ | with_reducible refine w_asInt ?_
  | with_reducible refine w_BM0 ?_ | with_reducible refine w_BM ?_ | with_reducible refine w_M0 ?_ | with_reducible refine w_M1 ?_
  | with_reducible refine w_asStr ?_ | with_reducible refine w_sub ?_
  | with_reducible refine w_ret ?_ | with_reducible refine w_retN ?_ | with_reducible refine w_drop ?_ | with_reducible refine w_ifS ?_
  | with_reducible refine w_nx ?_ | with_reducible refine w_cont ?_ | with_reducible refine w_brk ?_
  | with_reducible refine w_for ?_ | with_reducible refine w_rng1 ?_ | with_reducible refine w_rng2 ?_ | with_reducible refine w_ilist ?_ | with_reducible refine w_itup ?_ | with_reducible refine w_istr ?_
  | with_reducible refine w_lc ?_
  | with_reducible refine w_tt ?_ | with_reducible refine w_ff ?_ | with_reducible refine w_ntt ?_ | with_reducible refine w_nff ?_
  | with_reducible refine w_int1 ?_ | with_reducible refine w_int1b ?_ | with_reducible refine w_abs ?_
  | with_reducible refine w_min2 ?_ | with_reducible refine w_max2 ?_ | with_reducible refine w_min3 ?_
  | ((with_reducible apply w_ixL _ _ ?c ?d); (case c => walk_at "osq"); (case d => rfl))
  | ((with_reducible apply w_b1 _ _ _ _ _ ?c); (case c => first | exact upd_same | assumption))
  | ((with_reducible apply w_b2 _ _ _ _ _ ?c); (case c => first | exact upd_same | assumption))
  | ((with_reducible apply w_b3 _ _ _ _ _ ?c); (case c => first | exact upd_same | assumption))
  | ((with_reducible apply w_b4 _ _ _ _ _ ?c); (case c => first | exact upd_same | assumption))
  | ((with_reducible apply w_setL _ _ ?c ?d); (case c => first | exact upd_same | assumption); (case d => rfl))
  | ((with_reducible apply w_lenQ _ ?c); (case c => walk_at "osq"))
  | ((with_reducible apply w_ixT _ _ ?c ?d); (case c => walk_at "ost"); (case d => rfl))
  | ((with_reducible apply w_lenS ?c); (case c => first | assumption | exact szle (by omega)))
  | ((with_reducible apply w_tgt _ ?c ?d); (case c => walk_at "ost"); (case d => rfl)) | with_reducible refine w_gc ?_ | with_reducible refine w_gn ?_
  | with_reducible refine w_self ?_ | with_reducible refine w_nself ?_
  | ((with_reducible refine w_iteF ?c ?_); (case c => decide +kernel))
  | ((with_reducible refine w_iteT ?c ?_); (case c => decide +kernel))
  | with_reducible refine w_lstRg ?_ | with_reducible refine w_rg1 ?_ | with_reducible refine w_revL ?_
  | ((with_reducible apply w_app _ ?c ?d); (case c => first | exact upd_same | assumption | exact Mu.h (by assumption)); (case d => first | exact small_lt (by omega) | assumption))
  | ((with_reducible apply w_tyL _ ?c); (case c => walk_at "osq"))
  | ((with_reducible apply w_slL _ ?c); (case c => walk_at "osq"))
  | ((with_reducible apply w_listOf _ ?c); (case c => walk_at "osq")))
local macro_rules | `(tactic| walk_at "og") => `(tactic| repeat walk_at "og1")

local macro_rules | `(tactic| walk_at "memr") => `(tactic| first | with_reducible exact List.mem_cons_self .. | ((with_reducible refine List.mem_cons_of_mem _ ?_); walk_at "memr"))
local macro_rules | `(tactic| walk_at "memd") => `(tactic| first | exact List.mem_cons_self .. | ((with_reducible refine List.mem_cons_of_mem _ ?_); walk_at "memd"))
local macro_rules | `(tactic| walk_at "mem") => `(tactic| first | walk_at "memr" | walk_at "memd")
local macro_rules | `(tactic| walk_at "rm") => `(tactic| first | with_reducible exact Rm.here | ((with_reducible apply Rm.there); walk_at "rm"))
local macro_rules | `(tactic| walk_at "rmd") => `(tactic| first | exact Rm.here | ((with_reducible apply Rm.there); walk_at "rmd"))
local macro_rules | `(tactic| walk_at "pick") => `(tactic| first | with_reducible exact Pick.nil | ((with_reducible apply Pick.cons); (first | walk_at "rm" | walk_at "rmd"); walk_at "pick"))
local macro_rules | `(tactic| walk_at "pk") => `(tactic| exact ⟨_, by walk_at "pick"⟩)
local macro_rules | `(tactic| walk_at "app") => `(tactic| first | with_reducible exact App.nil | ((with_reducible apply App.cons); walk_at "app"))
local macro_rules | `(tactic| walk_at "w") => `(tactic| first | assumption | exact W.to (by assumption) (by walk_at "pick"))
local macro_rules | `(tactic| walk_at "lb") => `(tactic| first | assumption | omega | exact szle (by simp) | exact szle (by omega) | exact szle (by simp; omega) | exact small_lt (by omega) | exact small_lt (by simp; omega))
local macro_rules | `(tactic| walk_at "sq") => `(tactic| first
  | assumption
  | exact W.sqM (by assumption) (by walk_at "mem")
  | exact W.sqF (by assumption) (by walk_at "mem")
  | exact W.sqI (by assumption) (by walk_at "mem")
  | exact W.sq0 (by assumption) (by assumption))
local macro_rules | `(tactic| walk_at "st") => `(tactic| first
  | assumption
  | exact W.stF (by assumption) (by walk_at "mem")
  | exact W.stI (by assumption) (by walk_at "mem")
  | exact W.st0 (by assumption) (by assumption))
local macro_rules | `(tactic| walk_at "at") => `(tactic| first
  | assumption
  | exact W.at_ (by assumption) (by walk_at "mem")
  | exact W.fx (by assumption) (by walk_at "mem"))
local macro_rules | `(tactic| walk_at "wp") => `(tactic| dsimp only [wipe, List.map, List.set_cons_succ, List.set_cons_zero])
local macro_rules | `(tactic| walk_at "go1") => `(tactic| first
  | with_reducible refine w_seq ?_
  | with_reducible refine w_asg ?_
  | with_reducible refine w_v0 ?_ | with_reducible refine w_v1 ?_ | with_reducible refine w_v2 ?_ | with_reducible refine w_v3 ?_
  | with_reducible refine w_v4 ?_ | with_reducible refine w_v5 ?_ | with_reducible refine w_v6 ?_ | with_reducible refine w_v7 ?_
  | with_reducible refine w_v8 ?_ | with_reducible refine w_v9 ?_ | with_reducible refine w_v10 ?_ | with_reducible refine w_v11 ?_
  | with_reducible refine w_v12 ?_ | with_reducible refine w_v13 ?_
  | with_reducible refine w_n0 ?_ | with_reducible refine w_n1 ?_ | with_reducible refine w_n2 ?_ | with_reducible refine w_n3 ?_
  | with_reducible refine w_n4 ?_ | with_reducible refine w_n5 ?_ | with_reducible refine w_n6 ?_ | with_reducible refine w_n7 ?_
  | with_reducible refine w_n8 ?_ | with_reducible refine w_n9 ?_ | with_reducible refine w_n10 ?_ | with_reducible refine w_n11 ?_
  | with_reducible refine w_n12 ?_ | with_reducible refine w_n13 ?_
  | with_reducible refine w_c ?_ | with_reducible refine w_op ?_ | with_reducible refine w_un ?_
  | with_reducible refine w_add ?_ | with_reducible refine w_subt ?_
  | with_reducible refine w_lt ?_ | with_reducible refine w_le ?_ | with_reducible refine w_gt ?_ | with_reducible refine w_ge ?_
  | ((with_reducible refine w_mul ?c ?_); (case c => first | exact .inl ⟨by omega, by omega⟩ | exact .inr ⟨by omega, by omega⟩))
  | ((with_reducible refine w_mod ?c ?_); (case c => first | omega | decide))
  | ((with_reducible refine w_fdiv ?c ?_); (case c => exact divw_ok (by omega) (by omega)))
  | ((with_reducible refine w_pow ?c ?_); (case c => exact ⟨by omega, by omega, by omega⟩))
  | with_reducible refine w_neg ?_ | with_reducible refine w_bits ?_
  | with_reducible refine w_eqI ?_ | with_reducible refine w_neI ?_ | with_reducible refine w_eqS ?_ | with_reducible refine w_neS ?_
  | with_reducible refine w_eqB ?_ | with_reducible refine w_neB ?_ | with_reducible refine w_isN ?_ | with_reducible refine w_notN ?_
  | with_reducible refine w_test ?_ | with_reducible refine w_tB ?_ | with_reducible refine w_asBl ?_
  | with_reducible refine w_and ?_ | with_reducible refine w_or ?_ | with_reducible refine w_not ?_ | with_reducible refine w_if ?_
  | with_reducible refine w_truth ?_ | with_reducible refine w_yes ?_
  | with_reducible refine w_andV ?_ | with_reducible refine w_orV ?_ | with_reducible refine w_notV ?_
  | with_reducible refine w_nil ?_ | with_reducible refine w_cons ?_ | with_reducible refine w_call ?_ | with_reducible refine w_callN ?_
  | with_reducible refine w_CB ?_ | with_reducible refine w_sl ?_
  | with_reducible refine w_nop ?_ | with_reducible refine w_part ?_ | with_reducible refine w_asInt ?_
  | with_reducible refine w_BM0 ?_ | with_reducible refine w_BM ?_ | with_reducible refine w_M0 ?_ | with_reducible refine w_M1 ?_
  | with_reducible refine w_asStr ?_ | with_reducible refine w_sub ?_
  | with_reducible refine w_ret ?_ | with_reducible refine w_retN ?_ | with_reducible refine w_drop ?_ | with_reducible refine w_ifS ?_
  | with_reducible refine w_nx ?_ | with_reducible refine w_cont ?_ | with_reducible refine w_brk ?_
 
 
  | ((with_reducible refine n_adds ?c ?_); (case c => first | exact szle (by decide +kernel) | exact szle (by omega)))
  | ((with_reducible apply x_aug ?c ?_); (case c => rfl))
  | ((with_reducible refine n_ipI ?_); (try dsimp only [List.set_cons_succ, List.set_cons_zero]))
  | with_reducible refine w_fldE ?_ | with_reducible refine w_sfldE ?_ | with_reducible refine x_meth ?_ | with_reducible refine x_make ?_
  | ((with_reducible apply n_fld ?c ?d ?a ?b); (case c => walk_at "at"); (case d => rfl); (case a => assumption); (case b => assumption))
  | ((with_reducible apply n_meth ?c ?d); (case c => walk_at "at"); (case d => rfl))
  | with_reducible refine x_tup ?_ | with_reducible refine x_lst ?_ | with_reducible refine x_for ?_ | with_reducible refine x_lc ?_ | with_reducible refine x_revL ?_ | with_reducible refine x_lstRg ?_
  | with_reducible refine w_dnewT ?_ | with_reducible refine w_dnewK ?_ | with_reducible refine w_dget ?_ | with_reducible refine w_din ?_
  | with_reducible refine w_dnotin ?_ | with_reducible refine w_dput ?_ | with_reducible refine w_dsetT ?_ | with_reducible refine w_rg2 ?_
  | with_reducible refine w_chain3 ?_ | with_reducible refine w_chain ?_
  | with_reducible refine x_rng1 ?_ | with_reducible refine x_rng2 ?_ | with_reducible refine x_il ?_ | with_reducible refine x_it ?_ | with_reducible refine x_is ?_
  | ((with_reducible refine n_rng1 ?c ?d ?_); (case c => omega); (case d => omega))
  | ((with_reducible refine n_rng2 ?c ?d ?e ?f ?_); (case c => omega); (case d => omega); (case e => omega); (case f => omega))
  | ((with_reducible apply n_il ?c ?_); (case c => walk_at "sq"))
  | ((with_reducible apply n_it ?c ?_); (case c => walk_at "st"))
  | with_reducible refine n_is ?_
  | ((with_reducible apply w_lenQT _ ?c); (case c => walk_at "st"))
  | ((with_reducible refine x_wp ?c ?_); (case c => rfl))
  | with_reducible refine w_tt ?_ | with_reducible refine w_ff ?_ | with_reducible refine w_ntt ?_ | with_reducible refine w_nff ?_
  | with_reducible refine w_int1 ?_ | with_reducible refine w_int1b ?_ | with_reducible refine w_abs ?_
  | with_reducible refine w_min2 ?_ | with_reducible refine w_max2 ?_ | with_reducible refine w_min3 ?_
  | ((with_reducible apply w_ixL _ _ ?c ?d); (case c => walk_at "sq"); (case d => rfl))
  | ((with_reducible apply w_lenQ _ ?c); (case c => walk_at "sq"))
  | ((with_reducible apply w_ixT _ _ ?c ?d); (case c => walk_at "st"); (case d => rfl))
  | ((with_reducible apply w_lenS ?c); (case c => first | assumption | exact szle (by omega)))
  | ((with_reducible apply w_tgt _ ?c ?d); (case c => walk_at "st"); (case d => rfl)) | with_reducible refine w_gc ?_ | with_reducible refine w_gn ?_
  | with_reducible refine w_self ?_ | with_reducible refine w_nself ?_
  | ((with_reducible refine w_iteF ?c ?_); (case c => decide +kernel))
  | ((with_reducible refine w_iteT ?c ?_); (case c => decide +kernel))
  | with_reducible refine w_rg1 ?_
  | ((with_reducible apply w_tyL _ ?c); (case c => walk_at "sq")))
local macro_rules | `(tactic| walk_at "go") => `(tactic| repeat walk_at "go1")

local macro_rules | `(tactic| walk_at "go1") => `(tactic| first | with_reducible refine x_try ?_ | with_reducible refine x_raise ?_ | with_reducible refine x_callS ?_ | with_reducible refine x_methS ?_)

local macro_rules | `(tactic| walk_at "go1") => `(tactic| first
  | with_reducible refine x_fmt ?_ | with_reducible refine x_fmtO ?_ | with_reducible refine x_js ?_ | with_reducible refine x_js0 ?_ | with_reducible refine x_makeK0 ?_)

local macro_rules | `(tactic| walk_at "go1") => `(tactic| first
  | with_reducible refine x_lrv ?_ | with_reducible refine n_isB ?_ | with_reducible refine n_notB ?_)

def topS (i : Nat) : Stmt := PySem.Challenge.pw_remadehere_k10_whole_changes_stay.main.body.getD i (.Pass ⟨0, 0, 0, 0⟩)
abbrev s_gives : Stmt := topS 5
theorem sc_gives : FnScope ["row", "size"] ["row", "size"] (defScope s_gives) := ⟨rfl, rfl, rfl, by decide +kernel, rfl, by decide +kernel, by decide +kernel⟩
abbrev s_row_text : Stmt := topS 6
theorem sc_row_text : FnScope ["row"] ["row"] (defScope s_row_text) := ⟨rfl, rfl, rfl, by decide +kernel, rfl, by decide +kernel, by decide +kernel⟩
abbrev s_ChangeX_initX : Stmt := inClass (topS 7) 0
theorem sc_ChangeX_initX : FnScope ["self", "size", "rows", "many", "k", "more"] ["self", "size", "rows"] (defScope s_ChangeX_initX) := ⟨rfl, rfl, rfl, by decide +kernel, rfl, by decide +kernel, by decide +kernel⟩
abbrev s_ChangeX_strX : Stmt := inClass (topS 7) 3
theorem sc_ChangeX_strX : FnScope ["self", "row"] ["self"] (defScope s_ChangeX_strX) := ⟨rfl, rfl, rfl, by decide +kernel, rfl, by decide +kernel, by decide +kernel⟩
abbrev s_Change_cells : Stmt := inClass (topS 7) 4
theorem sc_Change_cells : FnScope ["self", "found", "row"] ["self"] (defScope s_Change_cells) := ⟨rfl, rfl, rfl, by decide +kernel, rfl, by decide +kernel, by decide +kernel⟩
abbrev s_Change_new_size : Stmt := inClass (topS 7) 5
theorem sc_Change_new_size : FnScope ["self"] ["self"] (defScope s_Change_new_size) := ⟨rfl, rfl, rfl, by decide +kernel, rfl, by decide +kernel, by decide +kernel⟩
abbrev s_Change_done : Stmt := inClass (topS 7) 6
theorem sc_Change_done : FnScope ["self", "old", "cell"] ["self", "old"] (defScope s_Change_done) := ⟨rfl, rfl, rfl, by decide +kernel, rfl, by decide +kernel, by decide +kernel⟩
abbrev s_Change_done_r : Stmt := inClass (topS 7) 6
theorem sc_Change_done_r : FnScope ["self", "old", "cell"] ["self", "old"] (defScope s_Change_done_r) := ⟨rfl, rfl, rfl, by decide +kernel, rfl, by decide +kernel, by decide +kernel⟩
abbrev s_rows_of : Stmt := topS 8
theorem sc_rows_of : FnScope ["cells", "rows", "last", "cell"] ["cells"] (defScope s_rows_of) := ⟨rfl, rfl, rfl, by decide +kernel, rfl, by decide +kernel, by decide +kernel⟩
abbrev s_plainest : Stmt := topS 9
theorem sc_plainest : FnScope ["change"] ["change"] (defScope s_plainest) := ⟨rfl, rfl, rfl, by decide +kernel, rfl, by decide +kernel, by decide +kernel⟩
abbrev s_parting_text : Stmt := topS 10
theorem sc_parting_text : FnScope ["size", "cell", "other", "signs"] ["size", "cell", "other"] (defScope s_parting_text) := ⟨rfl, rfl, rfl, by decide +kernel, rfl, by decide +kernel, by decide +kernel⟩
abbrev s_parting : Stmt := topS 11
theorem sc_parting : FnScope ["one", "two", "here", "there", "k"] ["one", "two"] (defScope s_parting) := ⟨rfl, rfl, rfl, by decide +kernel, rfl, by decide +kernel, by decide +kernel⟩
abbrev s_behind : Stmt := topS 12
theorem sc_behind : FnScope ["first", "second", "cells", "cell"] ["first", "second"] (defScope s_behind) := ⟨rfl, rfl, rfl, by decide +kernel, rfl, by decide +kernel, by decide +kernel⟩
abbrev s_behind_r : Stmt := topS 12
theorem sc_behind_r : FnScope ["first", "second", "cells", "cell"] ["first", "second"] (defScope s_behind_r) := ⟨rfl, rfl, rfl, by decide +kernel, rfl, by decide +kernel, by decide +kernel⟩
abbrev s_undone : Stmt := topS 13
theorem sc_undone : FnScope ["change", "old", "cells", "where", "k", "place"] ["change", "old"] (defScope s_undone) := ⟨rfl, rfl, rfl, by decide +kernel, rfl, by decide +kernel, by decide +kernel⟩
abbrev s_undone_r : Stmt := topS 13
theorem sc_undone_r : FnScope ["change", "old", "cells", "where", "k", "place"] ["change", "old"] (defScope s_undone_r) := ⟨rfl, rfl, rfl, by decide +kernel, rfl, by decide +kernel, by decide +kernel⟩
abbrev s_law_bag : Stmt := topS 15
theorem sc_law_bag : FnScope ["script", "stir", "cell"] ["script"] (defScope s_law_bag) := ⟨rfl, rfl, rfl, by decide +kernel, rfl, by decide +kernel, by decide +kernel⟩
abbrev s_law_stirred : Stmt := topS 16
theorem sc_law_stirred : FnScope ["bag", "many", "found", "k"] ["bag", "many"] (defScope s_law_stirred) := ⟨rfl, rfl, rfl, by decide +kernel, rfl, by decide +kernel, by decide +kernel⟩
abbrev s_law_draw : Stmt := topS 17
theorem sc_law_draw : FnScope ["bag", "many", "found"] ["bag", "many"] (defScope s_law_draw) := ⟨rfl, rfl, rfl, by decide +kernel, rfl, by decide +kernel, by decide +kernel⟩
abbrev s_law_alike : Stmt := topS 19
theorem sc_law_alike : FnScope ["found", "due", "k"] ["found", "due"] (defScope s_law_alike) := ⟨rfl, rfl, rfl, by decide +kernel, rfl, by decide +kernel, by decide +kernel⟩
abbrev s_law_signs : Stmt := topS 20
theorem sc_law_signs : FnScope ["some"] [] (defScope s_law_signs) := ⟨rfl, rfl, rfl, by decide +kernel, rfl, by decide +kernel, by decide +kernel⟩
abbrev s_law_text : Stmt := topS 21
theorem sc_law_text : FnScope ["bag", "size", "few", "first", "some", "k"] ["bag", "size"] (defScope s_law_text) := ⟨rfl, rfl, rfl, by decide +kernel, rfl, by decide +kernel, by decide +kernel⟩
abbrev s_law_row : Stmt := topS 22
theorem sc_law_row : FnScope ["bag", "size", "left", "last", "way", "wide", "at"] ["bag", "size", "left", "last"] (defScope s_law_row) := ⟨rfl, rfl, rfl, by decide +kernel, rfl, by decide +kernel, by decide +kernel⟩
abbrev s_law_rows : Stmt := topS 23
theorem sc_law_rows : FnScope ["bag", "size", "many", "most", "rows", "left", "cap", "k"] ["bag", "size", "many", "most"] (defScope s_law_rows) := ⟨rfl, rfl, rfl, by decide +kernel, rfl, by decide +kernel, by decide +kernel⟩
abbrev s_law_cells : Stmt := topS 24
theorem sc_law_cells : FnScope ["rows", "found", "row", "k"] ["rows"] (defScope s_law_cells) := ⟨rfl, rfl, rfl, by decide +kernel, rfl, by decide +kernel, by decide +kernel⟩
abbrev s_law_done : Stmt := topS 25
theorem sc_law_done : FnScope ["cells", "old", "cell"] ["cells", "old"] (defScope s_law_done) := ⟨rfl, rfl, rfl, by decide +kernel, rfl, by decide +kernel, by decide +kernel⟩
abbrev s_law_plain : Stmt := topS 26
theorem sc_law_plain : FnScope ["cells", "rows", "k", "cell", "ahead"] ["cells"] (defScope s_law_plain) := ⟨rfl, rfl, rfl, by decide +kernel, rfl, by decide +kernel, by decide +kernel⟩
abbrev s_law_size : Stmt := topS 27
theorem sc_law_size : FnScope ["bag"] ["bag"] (defScope s_law_size) := ⟨rfl, rfl, rfl, by decide +kernel, rfl, by decide +kernel, by decide +kernel⟩
abbrev s_law_same : Stmt := topS 28
theorem sc_law_same : FnScope ["found", "size", "rows"] ["found", "size", "rows"] (defScope s_law_same) := ⟨rfl, rfl, rfl, by decide +kernel, rfl, by decide +kernel, by decide +kernel⟩
abbrev s_law_written : Stmt := topS 29
theorem sc_law_written : FnScope ["size", "rows", "found", "row", "part"] ["size", "rows"] (defScope s_law_written) := ⟨rfl, rfl, rfl, by decide +kernel, rfl, by decide +kernel, by decide +kernel⟩
abbrev s_law_refused : Stmt := topS 30
theorem sc_law_refused : FnScope ["change", "way", "text", "strange", "refused"] ["change", "way", "text", "strange"] (defScope s_law_refused) := ⟨rfl, rfl, rfl, by decide +kernel, rfl, by decide +kernel, by decide +kernel⟩
abbrev s_law_parted : Stmt := topS 31
theorem sc_law_parted : FnScope ["bag", "changes", "rows", "size", "at", "here", "there", "found"] ["bag", "changes", "rows", "size"] (defScope s_law_parted) := ⟨rfl, rfl, rfl, by decide +kernel, rfl, by decide +kernel, by decide +kernel⟩
abbrev s_law_behind : Stmt := topS 32
theorem sc_law_behind : FnScope ["bag", "change", "size", "cells", "fits", "other", "rows", "due", "cell"] ["bag", "change", "size", "cells"] (defScope s_law_behind) := ⟨rfl, rfl, rfl, by decide +kernel, rfl, by decide +kernel, by decide +kernel⟩
abbrev s_law_undone : Stmt := topS 33
theorem sc_law_undone : FnScope ["bag", "change", "size", "cells", "old", "due", "place"] ["bag", "change", "size", "cells"] (defScope s_law_undone) := ⟨rfl, rfl, rfl, by decide +kernel, rfl, by decide +kernel, by decide +kernel⟩
abbrev s_law_deed : Stmt := topS 34
theorem sc_law_deed : FnScope ["bag", "changes", "rows", "size", "told_lists", "way", "at", "cells", "found", "old"] ["bag", "changes", "rows", "size", "told_lists"] (defScope s_law_deed) := ⟨rfl, rfl, rfl, by decide +kernel, rfl, by decide +kernel, by decide +kernel⟩
abbrev s_law_stays : Stmt := topS 35
theorem sc_law_stays : FnScope ["bag", "change", "size", "rows", "cells", "old"] ["bag", "change", "size", "rows"] (defScope s_law_stays) := ⟨rfl, rfl, rfl, by decide +kernel, rfl, by decide +kernel, by decide +kernel⟩
abbrev s_law : Stmt := topS 36
theorem sc_law : FnScope ["script", "bag", "same_one", "size", "rows", "lists", "changes", "some", "told_lists", "k", "at", "j", "row", "one"] ["script"] (defScope s_law) := ⟨rfl, rfl, rfl, by decide +kernel, rfl, by decide +kernel, by decide +kernel⟩
structure Txt (K : PySem.W.Frag) (mg : Str → Option Value) : Prop where
  b_abs : mg "abs" = none
  b_all : mg "all" = none
  b_bool : mg "bool" = none
  b_int : mg "int" = none
  b_isinstance : mg "isinstance" = none
  b_len : mg "len" = none
  b_list : mg "list" = none
  b_min : mg "min" = none
  b_range : mg "range" = none
  b_str : mg "str" = none
  b_tuple : mg "tuple" = none
  c_MOST : ∃ t, mg "MOST" = some (.int 400 t)
  k_Change : Cls K (He.ga K "Change")
  na_Change_size : NoAttr K (He.ga K "Change") "size"
  na_Change_rows : NoAttr K (He.ga K "Change") "rows"
  g_Change : mg "Change" = some (.ref (He.ga K "Change"))
  i_Change : C8.InsC K (He.ga K "Change")
  s_Change : StrC K "Change"
  e_BadSize : EC K mg "BadSize"
section
variable {P : Program} {w : World} {K : PySem.W.Frag} {mg : Str → Option Value} {base : Heap}
-- gives
theorem ok_gives {f : Addr} {fd : FuncData} (F : FunD K "gives" "gives" (defArgs s_gives) (defBody s_gives) (defScope s_gives) [] [] f fd) (T : Txt K mg)  : FnOk P w K mg base CX0 1 f fd ["row", "size"] (S2 (φgives K)) := by
  refine F.ok sc_gives (fun vs H Q E h => ?_) (fun cdv A outer s H vs Q E hr h => ?_)
  · exact S2.len h
  · match vs, h with
    | [v0, v1], h =>
    have hu := hu_of hr
    refine ⟨_, PSs.nox (pss_cons (ps_if (pt_cmpR op_eq (pe_ix (ixT (K := K)) (pv 0) pe_int (fun _ _ => rfl)) pe_str (nomark _)) (pss_one (ps_ret (pe_callB clLenS (by rfl) T.b_len (by decide +kernel) (pa_cons (pe_ix (ixT (K := K)) (pv 0) pe_int (fun _ _ => rfl)) pa_nil)))) pss_nil)
      (pss_cons (ps_if (PW.pt (pw_or (pt_cmpR op_lt (pe_ix (ixT (K := K)) (pv 0) pe_int (fun _ _ => rfl)) pe_int (nomark _)) (pw_or (pt_cmpR op_lt (pe_ix (ixT (K := K)) (pv 0) pe_int (fun _ _ => rfl)) pe_int (nomark _)) (pw_or1 (pt_cmpR op_gt (pe_op op_add (pe_ix (ixT (K := K)) (pv 0) pe_int (fun _ _ => rfl)) (pe_ix (ixT (K := K)) (pv 0) pe_int (fun _ _ => rfl))) (pv 1) (nomark _)))))) (pss_one (ps_ret pe_int)) pss_nil)
      (pss_one (ps_ret (pe_ix (ixT (K := K)) (pv 0) pe_int (fun _ _ => rfl)))))), ?_⟩
    rw [show start ["row", "size"] [v0, v1] = [some v0, some v1] from rfl]
    obtain ⟨F, r, n, rfl, hw, hx, hok, q⟩ := h
    have w := W.start (M := []) hw
    cases r with
    | put s =>
      obtain ⟨a, rfl, hT⟩ := dp_cput hx
      have hl := hok.s.2
      walk_at "go"
      exact q _ _ w
    | copy a k =>
      obtain ⟨p, rfl, hT⟩ := dp_ccopy hx
      have hp : 1 ≤ k := hok.p
      have hh : a + k ≤ n := hok.h
      walk_at "go"
      refine w_iteF (by omega) ?_
      walk_at "go"
      refine w_iteF (by omega) ?_
      walk_at "go"
      refine w_iteF (by omega) ?_
      walk_at "go"
      exact q _ _ w
-- row_text
theorem ok_row_text {f : Addr} {fd : FuncData} (F : FunD K "row_text" "row_text" (defArgs s_row_text) (defBody s_row_text) (defScope s_row_text) [] [] f fd) (T : Txt K mg)  : FnOk P w K mg base CX0 1 f fd ["row"] (S1 (φrowtext K)) := by
  refine F.ok sc_row_text (fun vs H Q E h => ?_) (fun cdv A outer s H vs Q E hr h => ?_)
  · exact S1.len h
  · match vs, h with
    | [v0], h =>
    have hu := hu_of hr
    refine ⟨_, PSs.nox (pss_cons (ps_if (pt_cmpR op_eq (pe_ix (ixT (K := K)) (pv 0) pe_int (fun _ _ => rfl)) pe_str (nomark _)) (pss_one (ps_ret (pe_op opAddS pe_str (pe_ix (ixT (K := K)) (pv 0) pe_int (fun _ _ => rfl))))) pss_nil)
      (pss_one (ps_ret (pe_joined (.cons pe_str (.cons (pe_fmt (pe_ix (ixT (K := K)) (pv 0) pe_int (fun _ _ => rfl))) (.cons pe_str (.cons (pe_fmt (pe_ix (ixT (K := K)) (pv 0) pe_int (fun _ _ => rfl))) .nil)))))))), ?_⟩
    rw [show start ["row"] [v0] = [some v0] from rfl]
    obtain ⟨F, r, n, hw, hx, hok, hn, q⟩ := h
    have w := W.start (M := []) hw
    cases r with
    | put s =>
      obtain ⟨a, rfl, hT⟩ := dp_cput hx
      have hl := hok.s.2
      walk_at "go"
      refine n_adds (szle (by show 4 + s.length ≤ 1000000; omega)) ?_
      exact q _ _ _ (by walk_at "w") (by rw [cd_app]; rfl)
    | copy a k =>
      obtain ⟨p, rfl, hT⟩ := dp_ccopy hx
      have hp : 1 ≤ k := hok.p
      have hh : a + k ≤ n := hok.h
      have na := num_ok (n := a) (by omega)
      have nk := num_ok (n := k) (by omega)
      have la := na.2
      have lk := nk.2
      walk_at "go"
      refine n_js (szle (by rw [len_app, slen_e, slen_copy]; decide)) ?_
      walk_at "go"
      refine n_fmtI (num_log (by omega)) ?_
      refine n_js (y := numS a) (szle (by rw [len_app, len_app, slen_e, slen_copy]; omega)) ?_
      walk_at "go"
      refine n_js (szle (by rw [len_app, len_app, len_app, slen_e, slen_copy, slen_sp]; omega)) ?_
      walk_at "go"
      refine n_fmtI (num_log (by omega)) ?_
      refine n_js (y := numS k) (szle (by rw [len_app, len_app, len_app, len_app, slen_e, slen_copy, slen_sp]; omega)) ?_
      walk_at "go"
      exact q _ _ _ (by walk_at "w") (by rw [cd_app, cd_app, cd_app, cd_app, cd_e]; rfl)
-- Change.__init__
theorem ok_ChangeX_initX {f : Addr} {fd : FuncData} (F : FunD K "__init__" "Change.__init__" (defArgs s_ChangeX_initX) (defBody s_ChangeX_initX) (defScope s_ChangeX_initX) [] [] f fd) (T : Txt K mg) (D_gives : DO P w K mg base 1 "gives" ["row", "size"] [] (S2 (φgives K))) : FnOk P w K mg base CX0 2 f fd ["self", "size", "rows"] (S3 (φinit K)) := by
  refine F.ok sc_ChangeX_initX (fun vs H Q E h => ?_) (fun cdv A outer s H vs Q E hr h => ?_)
  · exact S3.len h
  · match vs, h with
    | [v0, v1, v2], h =>
    have hu := hu_of hr
    refine ⟨_, PSs.nox (pss_cons (ps_if (PW.pt (pw_or (pt_cmpR op_lt (pv 1) pe_int (nomark _)) (pw_or1 (pt_cmpR op_gt (pv 1) (pe_gint (by rfl) T.c_MOST) (nomark _))))) (pss_one ps_never) pss_nil)
      (pss_cons (ps_set (i := 3) sc_ChangeX_initX.nd rfl (.inl rfl) pe_int)
      (pss_cons (ps_for PassesOwn.never rfl (pi_range1 rfl T.b_range (pa_cons (pe_callB (clLenQ (K := K)) (by rfl) T.b_len (by decide +kernel) (pa_cons (pv 2) pa_nil)) pa_nil)) (pg_name (i := 4) sc_ChangeX_initX.nd rfl (.inl rfl)) (pss_cons (ps_set (i := 5) sc_ChangeX_initX.nd rfl (.inl rfl) (pcall D_gives hr (pa_cons (pe_ix (ixL (K := K)) (pv 2) (pv 4) (fun _ _ => rfl)) (pa_cons (pv 1) pa_nil))))
      (pss_cons (ps_set (i := 3) sc_ChangeX_initX.nd rfl (.inl rfl) (pe_op op_add (pv 3) (pv 5)))
      (pss_one (ps_if (PW.pt (pw_or (pt_cmpR op_eq (pv 5) pe_int (nomark _)) (pw_or1 (pt_cmpR op_gt (pv 3) (pe_gint (by rfl) T.c_MOST) (nomark _))))) (pss_one ps_never) pss_nil)))))
      (pss_cons (psFld (K := K) (pv 0) (pv 1) rfl)
      (pss_one (psFld (K := K) (pv 0) (pe_callTy (clListOf (K := K)) (by rfl) T.b_list (by decide +kernel) (pa_cons (pv 2) pa_nil)) rfl)))))), ?_⟩
    rw [show start ["self", "size", "rows", "many", "k", "more"] [v0, v1, v2] = [some v0, some v1, some v2, none, none, none] from rfl]
    have kC := T.k_Change
    have kS := T.na_Change_size
    have kR := T.na_Change_rows
    
    obtain ⟨F, c, dx, a, vs, n, rows, rfl, rfl, rfl, s0, hS, hD, hn, hok, q⟩ := h
    have w := s0.w (M := [c])
    have hrl := hok.len
    have hvl : vs.length = rows.length := by rw [dpa_len hD, List.length_map]
    obtain ⟨tM, eM⟩ := T.c_MOST
    walk_at "go"
    refine w_iteF (by omega) ?_
    walk_at "go"
    refine w_iteF (by omega) ?_
    walk_at "go"
    refine n_forR w (fun i σ L => ∃ y4 y5, σ = [some (.ref c), some (.int (n : Nat)), some (.ref a), some (.int ((givesL (rows.take i) : Nat) : Int)), y4, y5] ∧ L = [mu c (.ins (He.ga K "Change") dx [])]) ⟨none, none, rfl, rfl⟩ (fun i σ L F' H' hi hp w => ?_) (fun σ L F' H' hp w => ?_)
    · obtain ⟨y4, y5, rfl, rfl⟩ := hp
      have hi2 : i < vs.length := by omega
      obtain ⟨r, hr, dr⟩ := dpa_at hD (getD_of hi2)
      have ro := hok.ok r (List.mem_of_getElem? hr)
      have g1 := gives_take hr
      have g2 := gives_le rows (i + 1)
      have g3 := hok.sum
      have g4 := ro.p
      walk_at "go"
      refine w_ixL _ _ (by walk_at "sq") (atI_nat (getD_of hi2)) ?_
      walk_at "go"
      refine ⟨F', r, n, rfl, w.fh, w.dp0 dr, ro, fun F2 H2 w2 => ?_⟩
      replace w := w.cal .nil w2 (by walk_at "app")
      walk_at "go"
      refine w_iteF (by omega) ?_
      walk_at "go"
      refine w_iteF (by omega) ?_
      walk_at "go"
      exact nx_mk w ⟨_, _, by rw [g1]; rfl, rfl⟩ (by walk_at "pk")
    · obtain ⟨y4, y5, rfl, rfl⟩ := hp
      walk_at "go"
      refine n_sfld w (by walk_at "pick") kC kS (by show (0 : Nat) < 1000; decide) fun H2 w => ?_
      walk_at "go"
      refine n_listOf w (by walk_at "sq") fun r F3 H3 w hr => ?_
      walk_at "go"
      refine n_sfld w (by walk_at "pick") kC kR (by show (1 : Nat) < 1000; decide) fun H4 w => ?_
      exact q r F3 H4 hr (by walk_at "w")
-- Change.__str__
theorem ok_ChangeX_strX {f : Addr} {fd : FuncData} (F : FunD K "__str__" "Change.__str__" (defArgs s_ChangeX_strX) (defBody s_ChangeX_strX) (defScope s_ChangeX_strX) [] [] f fd) (T : Txt K mg) (D_row_text : DO P w K mg base 1 "row_text" ["row"] [] (S1 (φrowtext K))) : FnOk P w K mg base CX0 2 f fd ["self"] (S1 (φstr K)) := by
  refine F.ok sc_ChangeX_strX (fun vs H Q E h => ?_) (fun cdv A outer s H vs Q E hr h => ?_)
  · exact S1.len h
  · match vs, h with
    | [v0], h =>
    have hu := hu_of hr
    refine ⟨_, PSs.nox (pss_one (ps_ret (peJoin (K := K) pe_str (pe_op op_cat (pe_lst (pa_cons (pe_joined (.cons pe_str (.cons (pe_fmt (peFld (K := K) (pv 0))) .nil))) pa_nil)) (pe_lc (own := [("row", 1)]) (g := gName 1) rfl sc_ChangeX_strX.nd (pi_list (peFld (K := K) (pv 0))) (blkOk_by (own := [("row", 1)]) (N := ["self", "row"]) (sc := defScope s_ChangeX_strX) (by decide +kernel)) (fun _ _ _ _ _ => pg_name (i := 1) sc_ChangeX_strX.nd rfl (Or.inl rfl)) (fun _ _ _ _ _ => pts_nil) (fun _ _ _ _ _ => (pcall D_row_text hr (pa_cons (pv 1) pa_nil)))))))), ?_⟩
    rw [show start ["self", "row"] [v0] = [some v0, none] from rfl]
    have kC := T.k_Change
    have kS := T.na_Change_size
    have kR := T.na_Change_rows
    
    obtain ⟨F, n, rows, hw, hC, hok, hn, q⟩ := h
    obtain ⟨c, dx, r, vs, rfl, hc, hr', hD⟩ := hC
    have w := (((W.start (M := []) hw).push (fx c _) hc).push (fx r (.lst vs)) hr').push (dpa K vs (rows.map CRow.d)) hD
    unfold insC at w
    have hrl := hok.len
    have hvl : vs.length = rows.length := by rw [dpa_len hD, List.length_map]
    have nn := num_ok hn
    have ln := nn.2
    walk_at "go"
    refine n_js (szle (by rw [len_app, slen_e, slen_size]; decide)) ?_
    walk_at "go"
    refine n_fmtI (num_log hn) ?_
    refine n_js (y := numS n) (szle (by rw [len_app, len_app, slen_e, slen_size]; omega)) ?_
    walk_at "go"
    refine n_lst w (szle (by simp)) fun p1 F1 H1 w hp1 => ?_
    walk_at "go"
    refine n_lcL vs w (fun i ys L => ∃ ts : List Str, ys = ts.map V.str ∧ ts.map cd = (rows.take i).map rowW ∧ L = [mu p1 (.lst [V.str (Str.empty ++ Str.ofString "size " ++ numS n)]), fx r (.lst vs), dpa K vs (rows.map CRow.d)]) ⟨[], rfl, rfl, rfl⟩ (fun i ys L F' H' D hp w => ?_) (fun i x ys L F' H' D hx hp w hDn => ?_) (fun D ys L F' H' hp w hDn => ?_)
    · obtain ⟨ts, rfl, ht, rfl⟩ := hp
      walk_at "sq"
    · obtain ⟨ts, rfl, ht, rfl⟩ := hp
      obtain ⟨m, hm, dm⟩ := dpa_at (w.dpa (K := K) (xs := vs) (ds := rows.map CRow.d) (by walk_at "mem")) hx
      have hi := (List.getElem?_eq_some_iff.mp hm).1
      have lt : ts.length = i := by
        have := congrArg List.length ht
        rw [List.length_map, List.length_map, List.length_take] at this
        omega
      walk_at "wp"
      walk_at "go"
      refine ⟨_, m, n, w.fh, dm, hok.ok m (List.mem_of_getElem? hm), hn, fun s F5 H5 w5 hs => ?_⟩
      replace w := w.cal .nil w5 (by walk_at "app")
      refine n_acc _ w ⟨ts ++ [s], by rw [List.map_append]; rfl, ?_, rfl⟩ (by walk_at "pk") (small_lt (by rw [List.length_map]; omega))
      rw [List.map_append, ht, List.take_add_one, hm, List.map_append, List.map_cons, hs]
      rfl
    · obtain ⟨ts, rfl, ht, rfl⟩ := hp
      rw [hvl, List.take_length] at ht
      have lt : ts.length = rows.length := by
        have := congrArg List.length ht
        rwa [List.length_map, List.length_map] at this
      walk_at "go"
      refine n_cat w (by walk_at "at") (by walk_at "at") (szle (by rw [List.length_map]; show 1 + _ ≤ _; omega)) fun p4 F6 H6 w hp4 => ?_
      walk_at "go"
      refine ⟨_, p4, (Str.empty ++ Str.ofString "size " ++ numS n) :: ts, rfl, rfl, .inl (by walk_at "sq"), ?_, ?_⟩
      · have hb : ∀ t ∈ (Str.empty ++ Str.ofString "size " ++ numS n) :: ts, t.length ≤ 1000 := by
          intro t ht2
          rcases List.mem_cons.mp ht2 with rfl | ht2
          · rw [len_app, len_app, slen_e, slen_size]
            omega
          · have hm2 : cd t ∈ rows.map rowW := by rw [← ht]; exact List.mem_map.mpr ⟨t, ht2, rfl⟩
            obtain ⟨m, hm, e⟩ := List.mem_map.mp hm2
            have h1 := row_len (hok.ok m hm) hn
            have h2 := row_le hm
            have h3 := hok.sum
            rw [← cd_len, ← e]
            omega
        have hs := sum_le hb
        rw [slen_nl]
        rw [List.length_cons] at hs ⊢
        omega
      · refine q _ _ _ (by walk_at "w") ?_
        rw [join_nl, ht, cd_app, cd_app, cd_e]
        show _ ++ ((rows.map rowW).flatMap fun c => 10 :: c) = _
        rw [List.flatMap_map]
        rfl
-- Change.cells
theorem ok_Change_cells {f : Addr} {fd : FuncData} (F : FunD K "cells" "Change.cells" (defArgs s_Change_cells) (defBody s_Change_cells) (defScope s_Change_cells) [] [] f fd) (T : Txt K mg)  : FnOk P w K mg base CX0 1 f fd ["self"] (S1 (φcells K)) := by
  refine F.ok sc_Change_cells (fun vs H Q E h => ?_) (fun cdv A outer s H vs Q E hr h => ?_)
  · exact S1.len h
  · match vs, h with
    | [v0], h =>
    have hu := hu_of hr
    refine ⟨_, PSs.nox (pss_cons (ps_set (i := 1) sc_Change_cells.nd rfl (.inl rfl) (pe_lst pa_nil))
      (pss_cons (ps_for PassesOwn.never rfl (pi_list (peFld (K := K) (pv 0))) (pg_name (i := 2) sc_Change_cells.nd rfl (.inl rfl)) (pss_one (ps_if (pt_cmpR op_eq (pe_ix (ixT (K := K)) (pv 2) pe_int (fun _ _ => rfl)) pe_str (nomark _)) (pss_one (ps_expr (peBM (K := K) PySem.F.plainAttrs_list PySem.F.slot_list_extend PySem.F.type_list_extend mt_extend (pv 1) (pa_cons (pe_callTy clListS (by rfl) T.b_list (by decide +kernel) (pa_cons (pe_ix (ixT (K := K)) (pv 2) pe_int (fun _ _ => rfl)) pa_nil)) pa_nil)))) (pss_one (ps_expr (peBM (K := K) PySem.F.plainAttrs_list PySem.F.slot_list_extend PySem.F.type_list_extend mt_extend (pv 1) (pa_cons (pe_listRg rfl (by rfl) T.b_list (prg_2 (by rfl) T.b_range (pe_ix (ixT (K := K)) (pv 2) pe_int (fun _ _ => rfl)) (pe_op op_add (pe_ix (ixT (K := K)) (pv 2) pe_int (fun _ _ => rfl)) (pe_ix (ixT (K := K)) (pv 2) pe_int (fun _ _ => rfl))))) pa_nil)))))))
      (pss_one (ps_ret (pv 1))))), ?_⟩
    rw [show start ["self", "found", "row"] [v0] = [some v0, none, none] from rfl]
    have kC := T.k_Change
    have kS := T.na_Change_size
    have kR := T.na_Change_rows
    
    obtain ⟨F, n, rows, hw, hC, hok, hn, q⟩ := h
    obtain ⟨c, dx, r, vs, rfl, hc, hr, hD⟩ := hC
    have w := ((W.start (M := []) hw).push (fx c _) hc).push (fx r (.lst vs)) hr
    unfold insC at w
    walk_at "go"
    refine n_lst w (szle (by simp)) fun f F1 H1 w hf => ?_
    walk_at "go"
    refine n_forL vs w (fun i σ L => ∃ y2, σ = [some (.ref c), some (.ref f), y2] ∧ L = [mu f (.lst (cellsV (rows.take i))), fx r (.lst vs)]) ⟨none, rfl, rfl⟩ (fun i σ L F' H' hp w => ?_) (fun i x σ L F' H' hx hp w => ?_) (fun σ L F' H' hp w => ?_)
    · obtain ⟨y2, rfl, rfl⟩ := hp
      walk_at "sq"
    · obtain ⟨y2, rfl, rfl⟩ := hp
      obtain ⟨m, hm, dm⟩ := dpa_at hD hx
      have mo := hok.ok m (List.mem_of_getElem? hm)
      have e1 : cellsV (rows.take (i + 1)) = cellsV (rows.take i) ++ m.cellV := by
        unfold cellsV
        rw [List.take_add_one, hm, List.flatMap_append]
        simp
      have l1 := cells_len (rows.take i)
      have l2 := gives_le rows i
      have l3 := hok.sum
      cases m with
      | put s =>
        obtain ⟨pm, rfl, hT⟩ := dp_cput dm
        have hT := sqT_same (K := K) w.ws hT
        have hsl := mo.s.2
        walk_at "go"
        refine n_listS w (szle (by omega)) fun p2 F2 H2 w hp2 => ?_
        walk_at "go"
        refine n_ext w (by walk_at "at") (by walk_at "pick") (szle (by rw [chars_len]; omega)) fun H3 w => ?_
        rw [show chars s = (CRow.put s).cellV from rfl] at w
        rw [← e1] at w
        exact nx_mk w ⟨_, rfl, rfl⟩ (by walk_at "pk")
      | copy a k =>
        obtain ⟨pm, rfl, hT⟩ := dp_ccopy dm
        have hT := sqT_same (K := K) w.ws hT
        have hh : a + k ≤ n := mo.h
        have hk : 1 ≤ k := mo.p
        have hk2 := gives_take hm
        have hk3 := gives_le rows (i + 1)
        replace hk2 : givesL (rows.take (i + 1)) = givesL (rows.take i) + k := hk2
        walk_at "go"
        refine ⟨_, _, rfl, rfl, ?_⟩
        refine n_lstRg w (RgOk.of_le (by omega) (by omega) (by omega) (by omega)) fun p2 F2 H2 w hp2 => ?_
        rw [show rgV (a : Int) ((a : Int) + (k : Nat)) = CRow.cellV (.copy a k) by unfold rgV CRow.cellV; rw [show ((a : Int) + (k : Nat) - (a : Int)).toNat = k by omega]; rfl] at w
        walk_at "go"
        refine n_ext w (by walk_at "at") (by walk_at "pick") (szle (by rw [cellV_len]; show _ + k ≤ _; omega)) fun H3 w => ?_
        rw [← e1] at w
        exact nx_mk w ⟨_, rfl, rfl⟩ (by walk_at "pk")
    · obtain ⟨y2, rfl, rfl⟩ := hp
      rw [List.take_of_length_le (by rw [dpa_len hD, List.length_map]; exact Nat.le_refl _)] at w
      walk_at "go"
      exact q f F' H' hf (by walk_at "w")
-- Change.new_size
theorem ok_Change_new_size {f : Addr} {fd : FuncData} (F : FunD K "new_size" "Change.new_size" (defArgs s_Change_new_size) (defBody s_Change_new_size) (defScope s_Change_new_size) [] [] f fd) (T : Txt K mg)  (DM_Change_cells : DM P w K mg base 1 "Change" "cells" ["self"] [] (S1 (φcells K))) : FnOk P w K mg base CX0 2 f fd ["self"] (S1 (φnewsize K)) := by
  refine F.ok sc_Change_new_size (fun vs H Q E h => ?_) (fun cdv A outer s H vs Q E hr h => ?_)
  · exact S1.len h
  · match vs, h with
    | [v0], h =>
    have hu := hu_of hr
    refine ⟨_, PSs.nox (pss_one (ps_ret (pe_callB (clLenQ (K := K)) (by rfl) T.b_len (by decide +kernel) (pa_cons (pmeth0 DM_Change_cells hr (pv 0)) pa_nil)))), ?_⟩
    rw [show start ["self"] [v0] = [some v0] from rfl]
    have kC := T.k_Change
    have kS := T.na_Change_size
    have kR := T.na_Change_rows
    
    obtain ⟨F, n, rows, hw, hC, hok, hn, q⟩ := h
    have hC0 := hC
    obtain ⟨c, dx, r, vs, rfl, hc, hr', hD⟩ := hC
    have w := (W.start (M := []) hw).push (fx c _) hc
    unfold insC at w
    have hcs := hok.sum
    walk_at "go"
    refine ⟨F, n, rows, w.fh, hC0, hok, hn, fun p1 F1 H1 hp1 w1 => ?_⟩
    replace w := w.cal .nil w1 (by walk_at "app")
    rw [cels_v] at w
    walk_at "go"
    rw [List.length_map]
    exact q _ _ (by walk_at "w")
-- Change.done
theorem ok_Change_done {f : Addr} {fd : FuncData} (F : FunD K "done" "Change.done" (defArgs s_Change_done) (defBody s_Change_done) (defScope s_Change_done) [] [] f fd) (T : Txt K mg)  (DM_Change_cells : DM P w K mg base 1 "Change" "cells" ["self"] [] (S1 (φcells K))) : FnOk P w K mg base CX0 2 f fd ["self", "old"] (S2 (φdoneC K)) := by
  refine F.ok sc_Change_done (fun vs H Q E h => ?_) (fun cdv A outer s H vs Q E hr h => ?_)
  · exact S2.len h
  · match vs, h with
    | [v0, v1], h =>
    have hu := hu_of hr
    refine ⟨_, PSs.nox (pss_cons (ps_if (pt_cmpR op_ne (pe_callB clLenS (by rfl) T.b_len (by decide +kernel) (pa_cons (pv 1) pa_nil)) (peFld (K := K) (pv 0)) (nomark _)) (pss_one ps_never) pss_nil)
      (pss_one (ps_ret (peJoin (K := K) pe_str (pe_lc (own := [("cell", 2)]) (g := gName 2) rfl sc_Change_done.nd (pi_list (pmeth0 DM_Change_cells hr (pv 0))) (blkOk_by (own := [("cell", 2)]) (N := ["self", "old", "cell"]) (sc := defScope s_Change_done) (by decide +kernel)) (fun _ _ _ _ _ => pg_name (i := 2) sc_Change_done.nd rfl (Or.inl rfl)) (fun _ _ _ _ _ => pts_nil) (fun _ _ _ _ _ => (pe_ifExp (pt_val (pe_callB (clIsi (K := K)) (by rfl) T.b_isinstance (by decide +kernel) (pa_cons (pv 2) (pa_cons (pe_bltn (v := .ty "int") (by rfl) T.b_int (by decide +kernel) rfl) pa_nil)))) (pe_ix ix_str (pv 1) (pv 2) (fun _ _ => rfl)) (pv 2)))))))), ?_⟩
    rw [show start ["self", "old", "cell"] [v0, v1] = [some v0, some v1, none] from rfl]
    have kC := T.k_Change
    have kS := T.na_Change_size
    have kR := T.na_Change_rows
    
    obtain ⟨F, o, rows, rfl, hw, hC, hok, oko, ho, q⟩ := h
    have hC0 := hC
    obtain ⟨c, dx, r, vs, rfl, hc, hr, hD⟩ := hC
    have w := (W.start (M := []) hw).push (fx c _) hc
    unfold insC at w
    have hcs := cells_ok hok.ok
    have hcl : (cellsV rows).length ≤ 400 := by rw [cells_len]; exact hok.sum
    walk_at "go"
    refine ⟨F, o.length, rows, w.fh, hC0, hok, ho, fun p1 F1 H1 hp1 w1 => ?_⟩
    have hp1' := w.g.fresh hp1
    replace w := w.cal .nil w1 (by walk_at "app")
    walk_at "go"
    
    refine n_lcL (cellsV rows) w (fun i ys L => ys = ((cellsV rows).take i).map (fun v => V.str (outS o v)) ∧ L = [mu p1 (.lst (cellsV rows))]) ⟨rfl, rfl⟩ (fun i ys L F' H' D hp w => ?_) (fun i x ys L F' H' D hx hp w hDn => ?_) (fun D ys L F' H' hp w hDn => ?_)
    · obtain ⟨rfl, rfl⟩ := hp
      walk_at "sq"
    · obtain ⟨rfl, rfl⟩ := hp
      have hi := (List.getElem?_eq_some_iff.mp hx).1
      have e1 : ((cellsV rows).take (i + 1)).map (fun v => V.str (outS o v)) = ((cellsV rows).take i).map (fun v => V.str (outS o v)) ++ [V.str (outS o x)] := by
        rw [List.take_add_one, hx, List.map_append]
        rfl
      have hl : (((cellsV rows).take i).map (fun v => V.str (outS o v))).length ≤ 1000 := by
        rw [List.length_map, List.length_take]
        omega
      walk_at "wp"
      walk_at "go"
      rcases hcs x (List.mem_of_getElem? hx) with ⟨k, rfl, hk⟩ | ⟨c, rfl, hc⟩
      · refine u_isi (F := F') (d := .int (k : Nat)) (.int _) w.fh (k_int _) ?_
        walk_at "go"
        refine w_is (c := true) rfl ?_
        walk_at "go"
        refine w_ixS (szle (by omega)) (sign_get hk) ?_
        exact n_acc _ w ⟨e1.symm, rfl⟩ (by walk_at "pk") (small_lt (by omega))
      · refine u_isi (F := F') (d := .str ⟨#[c]⟩) (.str _) w.fh (k_int _) ?_
        walk_at "go"
        refine w_is (c := false) rfl ?_
        walk_at "go"
        exact n_acc _ w ⟨e1.symm, rfl⟩ (by walk_at "pk") (small_lt (by omega))
    · obtain ⟨rfl, rfl⟩ := hp
      rw [List.take_of_length_le (Nat.le_refl _)] at w
      obtain ⟨zs, ezs⟩ : ∃ zs, zs = (cellsV rows).map (outS o) := ⟨_, rfl⟩
      have hzs : ∀ z ∈ zs, z.length = 1 ∧ okS z := fun z hz => by
        rw [ezs] at hz
        obtain ⟨v, hv, rfl⟩ := List.mem_map.mp hz
        exact outS_ok rfl oko (hcs v hv)
      rw [show (cellsV rows).map (fun v => V.str (outS o v)) = zs.map V.str by rw [ezs, List.map_map]; rfl] at w
      refine ⟨_, D, zs, rfl, rfl, .inl (by walk_at "sq"), ?_, ?_⟩
      · rw [sum_ones zs hzs]
        have : zs.length = (cellsV rows).length := by rw [ezs, List.length_map]
        show zs.length + zs.length * 0 ≤ 16777216
        omega
      · refine q _ F' H' (by walk_at "w") ?_ (joined zs hzs).2
        show cd (Txt.join ⟨#[]⟩ zs) = _
        rw [join_cd, ezs]
        exact outs_rows o hok.ok
-- Change.done!
theorem ok_Change_done_r {f : Addr} {fd : FuncData} (F : FunD K "done" "Change.done" (defArgs s_Change_done_r) (defBody s_Change_done_r) (defScope s_Change_done_r) [] [] f fd) (T : Txt K mg)  : FnOk P w K mg base (L2.CX P w) 1 f fd ["self", "old"] (SX2 (φdoneX K)) := by
  refine F.ok sc_Change_done_r (fun vs H Q E h => ?_) (fun cdv A outer s H vs Q E hr h => ?_)
  · exact SX2.len h
  · match vs, h with
    | [v0, v1], h =>
    have hu := hu_of hr
    refine ⟨_, (pss_cons (ps_if (PT.nox (pt_cmpR op_ne (pe_callB clLenS (by rfl) T.b_len (by decide +kernel) (pa_cons (pv 1) pa_nil)) (peFld (K := K) (pv 0)) (nomark _))) (pss_one (ps_raiseO T.e_BadSize (takes_of rfl rfl rfl rfl) rfl)) pss_nil)
      pss_never), ?_⟩
    rw [show start ["self", "old", "cell"] [v0, v1] = [some v0, some v1, none] from rfl]
    have kC := T.k_Change
    have kS := T.na_Change_size
    have kR := T.na_Change_rows
    
    obtain ⟨F, n, rows, o, rfl, hw, hC, hn, ho, hne, q⟩ := h
    obtain ⟨c, dx, r, vs, rfl, hc, hr, hD⟩ := hC
    have w := (W.start (M := []) hw).push (fx c _) hc
    unfold insC at w
    walk_at "go"
    refine w_iteN (fun hd => ?_) (fun hd => (hne (by omega)).elim)
    walk_at "go"
    exact q F H (by walk_at "w")
-- rows_of
theorem ok_rows_of {f : Addr} {fd : FuncData} (F : FunD K "rows_of" "rows_of" (defArgs s_rows_of) (defBody s_rows_of) (defScope s_rows_of) [] [] f fd) (T : Txt K mg)  : FnOk P w K mg base CX0 1 f fd ["cells"] (S1 (φrows_of K)) := by
  refine F.ok sc_rows_of (fun vs H Q E h => ?_) (fun cdv A outer s H vs Q E hr h => ?_)
  · exact S1.len h
  · match vs, h with
    | [v0], h =>
    have hu := hu_of hr
    refine ⟨_, PSs.nox (pss_cons (ps_set (i := 1) sc_rows_of.nd rfl (.inl rfl) (pe_lst pa_nil))
      (pss_cons (ps_set (i := 2) sc_rows_of.nd rfl (.inl rfl) (pe_tup (pa_cons pe_str (pa_cons pe_int (pa_cons pe_int pa_nil)))))
      (pss_cons (ps_for PassesOwn.never rfl (pi_list (pv 0)) (pg_name (i := 3) sc_rows_of.nd rfl (.inl rfl)) (pss_one (ps_if (PW.pt (pw_and (pt_val (pe_callB (clIsi (K := K)) (by rfl) T.b_isinstance (by decide +kernel) (pa_cons (pv 3) (pa_cons (pe_bltn (v := .ty "int") (by rfl) T.b_int (by decide +kernel) rfl) pa_nil)))) (pw_and (pt_cmpR op_eq (pe_ix (ixT (K := K)) (pv 2) pe_int (fun _ _ => rfl)) pe_str (nomark _)) (pw_and1 (pt_cmpR op_eq (pe_op op_add (pe_ix (ixT (K := K)) (pv 2) pe_int (fun _ _ => rfl)) (pe_ix (ixT (K := K)) (pv 2) pe_int (fun _ _ => rfl))) (pv 3) (nomark _)))))) (pss_cons (ps_set (i := 2) sc_rows_of.nd rfl (.inl rfl) (pe_tup (pa_cons pe_str (pa_cons (pe_ix (ixT (K := K)) (pv 2) pe_int (fun _ _ => rfl)) (pa_cons (pe_op op_add (pe_ix (ixT (K := K)) (pv 2) pe_int (fun _ _ => rfl)) pe_int) pa_nil)))))
      (pss_one (ps_asg (pv 2) (pg_sub (pv 1) (pe_un un_neg pe_int) set_list)))) (pss_one (ps_if (PW.pt (pw_and (pt_not (pt_val (pe_callB (clIsi (K := K)) (by rfl) T.b_isinstance (by decide +kernel) (pa_cons (pv 3) (pa_cons (pe_bltn (v := .ty "int") (by rfl) T.b_int (by decide +kernel) rfl) pa_nil))))) (pw_and1 (pt_cmpR op_eq (pe_ix (ixT (K := K)) (pv 2) pe_int (fun _ _ => rfl)) pe_str (nomark _))))) (pss_cons (ps_set (i := 2) sc_rows_of.nd rfl (.inl rfl) (pe_tup (pa_cons pe_str (pa_cons (pe_op opAddS (pe_ix (ixT (K := K)) (pv 2) pe_int (fun _ _ => rfl)) (pv 3)) pa_nil))))
      (pss_one (ps_asg (pv 2) (pg_sub (pv 1) (pe_un un_neg pe_int) set_list)))) (pss_cons (ps_set (i := 2) sc_rows_of.nd rfl (.inl rfl) (pe_ifExp (pt_val (pe_callB (clIsi (K := K)) (by rfl) T.b_isinstance (by decide +kernel) (pa_cons (pv 3) (pa_cons (pe_bltn (v := .ty "int") (by rfl) T.b_int (by decide +kernel) rfl) pa_nil)))) (pe_tup (pa_cons pe_str (pa_cons (pv 3) (pa_cons pe_int pa_nil)))) (pe_tup (pa_cons pe_str (pa_cons (pv 3) pa_nil)))))
      (pss_one (ps_expr (peBM (K := K) PySem.F.plainAttrs_list PySem.F.slot_list_append PySem.F.type_list_append mt_append (pv 1) (pa_cons (pv 2) pa_nil))))))))))
      (pss_one (ps_ret (pv 1)))))), ?_⟩
    rw [show start ["cells", "rows", "last", "cell"] [v0] = [some v0, none, none, none] from rfl]
    obtain ⟨F, a, cs, n, rfl, hw, hS, hok, hn, hl, q⟩ := h
    have w := W.start (M := []) hw
    walk_at "go"
    refine n_lst w (szle (by simp)) fun f F1 H1 w hf => ?_
    walk_at "go"
    refine n_tup w (szle (by simp)) fun t0 F2 H2 w => ?_
    replace w := w.push (dpa K [] (([] : List CRow).map CRow.d)) .nil
    walk_at "go"
    refine n_forL (cs.map Cel.v) w (fun i σ L => ∃ (us : List V) (la : Addr) (lv : List V) (y3 : Option V), σ = [some (.ref a), some (.ref f), some (.ref la), y3] ∧ LastIs (plainR (cs.take i)) us la lv ∧
      L = [mu f (.lst us), dpa K us ((plainR (cs.take i)).reverse.map CRow.d), fx la (.tup lv)]) ⟨[], t0, _, none, rfl, .inl ⟨rfl, rfl, rfl⟩, rfl⟩ (fun i σ L F' H' hp w => ?_) (fun i x σ L F' H' hx hp w => ?_) (fun σ L F' H' hp w => ?_)
    · obtain ⟨us, la, lv, y3, rfl, hla, rfl⟩ := hp
      walk_at "sq"
    · obtain ⟨us, la, lv, y3, rfl, hla, rfl⟩ := hp
      rw [List.getElem?_map] at hx
      obtain ⟨c, hc, rfl⟩ : ∃ c, cs[i]? = some c ∧ x = c.v := by
        cases e : cs[i]? with
        | none => rw [e] at hx; cases hx
        | some c => rw [e] at hx; exact ⟨c, rfl, (Option.some.inj hx).symm⟩
      have e1 := plainR_take hc
      have hi := (List.getElem?_eq_some_iff.mp hc).1
      have co := hok c (List.mem_of_getElem? hc)
      have tok : ∀ d ∈ cs.take i, d.ok n := fun d hd => hok d (List.mem_of_mem_take hd)
      have tl : (cs.take i).length ≤ 400 := by rw [List.length_take]; omega
      have ro := plain_ok tok tl
      have rl := ro.len
      obtain ⟨rs, ers⟩ : ∃ rs, rs = plainR (cs.take i) := ⟨_, rfl⟩
      have ro' : RowsOk n rs.reverse := by rw [ers]; exact ro
      have rl' : rs.length ≤ 400 := by rw [ers]; have := rl; unfold plainL at this; rwa [List.length_reverse] at this
      rw [← ers] at hla e1 w
      have hul : us.length = rs.length := by rw [dpa_len (w.dpa (K := K) (xs := us) (ds := rs.reverse.map CRow.d) (by walk_at "mem")), List.length_map, List.length_reverse]
      clear hx
      have fin_new : ∀ {F2 H2 L} (p : Addr) (z : Option V), W [] F H F2 H2 L → Pk L [mu f (.lst (us ++ [.ref p])), dpa K us (rs.reverse.map CRow.d), fx p (.tup (CRow.one c).vals)] → addC rs c = CRow.one c :: rs → Nx [] F H (fun σ L => ∃ (us : List V) (la : Addr) (lv : List V) (y3 : Option V), σ = [some (.ref a), some (.ref f), some (.ref la), y3] ∧ LastIs (plainR (cs.take (i + 1))) us la lv ∧
          L = [mu f (.lst us), dpa K us ((plainR (cs.take (i + 1))).reverse.map CRow.d), fx la (.tup lv)]) [some (.ref a), some (.ref f), some (.ref p), z] H2 := by
        intro F2 H2 L p z w k ea
        have w := w.pk k
        have d1 : DpAll K F2 us (rs.reverse.map CRow.d) := w.dpa (by walk_at "mem")
        have d2 : F2 p = some (.tup (CRow.one c).vals) := w.i (fx p _) (by walk_at "mem")
        have d3 : Dp K F2 (.ref p) (CRow.one c).d := by
          cases c with
          | pl i => exact dp_ccopy' (sqT_of (K := K) d2)
          | sg c => exact dp_cput' (sqT_of (K := K) d2)
        have d4 := dpa_snoc d1 d3
        rw [show rs.reverse.map CRow.d ++ [(CRow.one c).d] = (plainR (cs.take (i + 1))).reverse.map CRow.d by rw [e1, ea, List.reverse_cons, List.map_append]; rfl] at d4
        exact nx_mk (w.push (dpa K _ _) d4) ⟨us ++ [.ref p], p, _, z, rfl, .inr ⟨CRow.one c, rs, us, by rw [e1, ea], rfl, rfl⟩, rfl⟩ (by walk_at "pk")
      have fin_old : ∀ {F2 H2 L} (p : Addr) (z : Option V) (r q : CRow) (t : List CRow) (us' : List V) (la : Addr), rs = r :: t → us = us' ++ [.ref la] → r.add c = some q → W [] F H F2 H2 L → Pk L [mu f (.lst (us' ++ [.ref p])), dpa K us (rs.reverse.map CRow.d), fx p (.tup q.vals)] → Nx [] F H (fun σ L => ∃ (us : List V) (la : Addr) (lv : List V) (y3 : Option V), σ = [some (.ref a), some (.ref f), some (.ref la), y3] ∧ LastIs (plainR (cs.take (i + 1))) us la lv ∧
          L = [mu f (.lst us), dpa K us ((plainR (cs.take (i + 1))).reverse.map CRow.d), fx la (.tup lv)]) [some (.ref a), some (.ref f), some (.ref p), z] H2 := by
        intro F2 H2 L p z r q t us' la er eu ea w k
        have w := w.pk k
        have d1 : DpAll K F2 us (rs.reverse.map CRow.d) := w.dpa (by walk_at "mem")
        rw [eu, er, List.reverse_cons, List.map_append] at d1
        have d1' := dpa_init d1
        have d2 : F2 p = some (.tup q.vals) := w.i (fx p _) (by walk_at "mem")
        have d3 : Dp K F2 (.ref p) q.d := by
          cases q with
          | copy a n => exact dp_ccopy' (sqT_of (K := K) d2)
          | put s => exact dp_cput' (sqT_of (K := K) d2)
        have d4 := dpa_snoc d1' d3
        have ee : addC rs c = q :: t := by rw [er]; exact addC_some ea
        rw [show t.reverse.map CRow.d ++ [q.d] = (plainR (cs.take (i + 1))).reverse.map CRow.d by rw [e1, ee, List.reverse_cons, List.map_append]; rfl] at d4
        exact nx_mk (w.push (dpa K _ _) d4) ⟨us' ++ [.ref p], p, _, z, rfl, .inr ⟨q, t, us', by rw [e1, ee], rfl, rfl⟩, rfl⟩ (by walk_at "pk")
      cases c with
      | pl j =>
        have hj : j < n := co
        dsimp only [Cel.v]
        walk_at "go"
        refine u_isi (F := F') (d := .int (j : Nat)) (.int _) w.fh (k_int _) ?_
        walk_at "go"
        refine w_is (c := true) rfl ?_
        walk_at "go"
        rcases hla with ⟨e0, rfl, rfl⟩ | ⟨r, t, us', er, eu, rfl⟩
        · walk_at "go"
          refine u_isi (F := F') (d := .int (j : Nat)) (.int _) w.fh (k_int _) ?_
          walk_at "go"
          refine w_is (c := false) rfl ?_
          walk_at "go"
          refine u_isi (F := F') (d := .int (j : Nat)) (.int _) w.fh (k_int _) ?_
          walk_at "go"
          refine w_is (c := true) rfl ?_
          walk_at "go"
          refine n_tup w (szle (by simp)) fun p F2 H2 w => ?_
          walk_at "go"
          refine n_app w (by walk_at "pick") (small_lt (by omega)) fun H3 w => ?_
          walk_at "go"
          exact fin_new p _ w (by walk_at "pk") (by rw [e0]; rfl)
        · cases r with
          | put s =>
            unfold CRow.vals at w
            walk_at "go"
            refine u_isi (F := F') (d := .int (j : Nat)) (.int _) w.fh (k_int _) ?_
            walk_at "go"
            refine w_is (c := false) rfl ?_
            walk_at "go"
            refine u_isi (F := F') (d := .int (j : Nat)) (.int _) w.fh (k_int _) ?_
            walk_at "go"
            refine w_is (c := true) rfl ?_
            walk_at "go"
            refine n_tup w (szle (by simp)) fun p F2 H2 w => ?_
            walk_at "go"
            refine n_app w (by walk_at "pick") (small_lt (by omega)) fun H3 w => ?_
            walk_at "go"
            exact fin_new p _ w (by walk_at "pk") (by rw [er]; exact addC_none rfl)
          | copy b m =>
            have bm : b + m ≤ n := (ro'.ok (.copy b m) (by rw [er]; simp)).h
            unfold CRow.vals at w
            walk_at "go"
            by_cases e : b + m = j
            · rw [decide_eq_true (show (b : Int) + (m : Nat) = (j : Nat) by omega)]
              walk_at "go"
              refine n_tup w (szle (by simp)) fun p F2 H2 w => ?_
              walk_at "go"
              subst eu
              refine n_setL w (by walk_at "pick") us'.length (ix_last _ _) fun H3 w => ?_
              rw [set_last] at w
              walk_at "go"
              exact fin_old p _ (.copy b m) (.copy b (m + 1)) t us' la er rfl (by show (if _ then _ else _) = _; rw [if_pos e]) w (by walk_at "pk")
            · rw [decide_eq_false (show ¬ (b : Int) + (m : Nat) = (j : Nat) by omega)]
              walk_at "go"
              refine u_isi (F := F') (d := .int (j : Nat)) (.int _) w.fh (k_int _) ?_
              walk_at "go"
              refine w_is (c := false) rfl ?_
              walk_at "go"
              refine u_isi (F := F') (d := .int (j : Nat)) (.int _) w.fh (k_int _) ?_
              walk_at "go"
              refine w_is (c := true) rfl ?_
              walk_at "go"
              refine n_tup w (szle (by simp)) fun p F2 H2 w => ?_
              walk_at "go"
              refine n_app w (by walk_at "pick") (small_lt (by omega)) fun H3 w => ?_
              walk_at "go"
              exact fin_new p _ w (by walk_at "pk") (by rw [er]; exact addC_none (by show (if _ then _ else _) = _; rw [if_neg e]))
      | sg j =>
        dsimp only [Cel.v]
        walk_at "go"
        refine u_isi (F := F') (d := .str ⟨#[j]⟩) (.str _) w.fh (k_int _) ?_
        walk_at "go"
        refine w_is (c := false) rfl ?_
        walk_at "go"
        refine u_isi (F := F') (d := .str ⟨#[j]⟩) (.str _) w.fh (k_int _) ?_
        walk_at "go"
        refine w_is (c := true) rfl ?_
        walk_at "go"
        rcases hla with ⟨e0, rfl, rfl⟩ | ⟨r, t, us', er, eu, rfl⟩
        · walk_at "go"
          refine u_isi (F := F') (d := .str ⟨#[j]⟩) (.str _) w.fh (k_int _) ?_
          walk_at "go"
          refine w_is (c := false) rfl ?_
          walk_at "go"
          refine n_tup w (szle (by simp)) fun p F2 H2 w => ?_
          walk_at "go"
          refine n_app w (by walk_at "pick") (small_lt (by omega)) fun H3 w => ?_
          walk_at "go"
          exact fin_new p _ w (by walk_at "pk") (by rw [e0]; rfl)
        · cases r with
          | put s =>
            have hsl := (ro'.ok (.put s) (by rw [er]; simp)).s.2
            unfold CRow.vals at w
            walk_at "go"
            refine n_adds (szle (by show s.length + 1 ≤ 1000000; omega)) ?_
            walk_at "go"
            refine n_tup w (szle (by simp)) fun p F2 H2 w => ?_
            walk_at "go"
            subst eu
            refine n_setL w (by walk_at "pick") us'.length (ix_last _ _) fun H3 w => ?_
            rw [set_last] at w
            walk_at "go"
            exact fin_old p _ (.put s) (.put (s ++ ⟨#[j]⟩)) t us' la er rfl (rfl) w (by walk_at "pk")
          | copy b m =>
            unfold CRow.vals at w
            walk_at "go"
            refine u_isi (F := F') (d := .str ⟨#[j]⟩) (.str _) w.fh (k_int _) ?_
            walk_at "go"
            refine w_is (c := false) rfl ?_
            walk_at "go"
            refine n_tup w (szle (by simp)) fun p F2 H2 w => ?_
            walk_at "go"
            refine n_app w (by walk_at "pick") (small_lt (by omega)) fun H3 w => ?_
            walk_at "go"
            exact fin_new p _ w (by walk_at "pk") (by rw [er]; exact addC_none rfl)
    · obtain ⟨us, la, lv, y3, rfl, hla, rfl⟩ := hp
      rw [List.take_of_length_le (by rw [List.length_map]; exact Nat.le_refl _)] at w
      walk_at "go"
      exact q f us F' H' hf (by walk_at "w")
-- plainest
theorem ok_plainest {f : Addr} {fd : FuncData} (F : FunD K "plainest" "plainest" (defArgs s_plainest) (defBody s_plainest) (defScope s_plainest) [] [] f fd) (T : Txt K mg) (D_rows_of : DO P w K mg base 1 "rows_of" ["cells"] [] (S1 (φrows_of K))) (DM_Change_cells : DM P w K mg base 1 "Change" "cells" ["self"] [] (S1 (φcells K))) (DN_Change_2 : DN P w K mg base 2 "Change" ["self", "size", "rows"] [] (S3 (φinit K))) : FnOk P w K mg base CX0 4 f fd ["change"] (S1 (φplainest K)) := by
  refine F.ok sc_plainest (fun vs H Q E h => ?_) (fun cdv A outer s H vs Q E hr h => ?_)
  · exact S1.len h
  · match vs, h with
    | [v0], h =>
    have hu := hu_of hr
    refine ⟨_, PSs.nox (pss_one (ps_ret (pmake DN_Change_2 hr (pa_cons (peFld (K := K) (pv 0)) (pa_cons (pcall D_rows_of hr (pa_cons (pmeth0 DM_Change_cells hr (pv 0)) pa_nil)) pa_nil))))), ?_⟩
    rw [show start ["change"] [v0] = [some v0] from rfl]
    have kC := T.k_Change
    have kS := T.na_Change_size
    have kR := T.na_Change_rows
    
    obtain ⟨F, n, rows, hw, hC, hok, hn, q⟩ := h
    have hC0 := hC
    obtain ⟨c, dx, r, vs, rfl, hc, hr, hD⟩ := hC
    have w := (W.start (M := []) hw).push (fx c _) hc
    unfold insC at w
    have hcl : (celsL rows).length ≤ 400 := by rw [cels_len]; exact hok.sum
    walk_at "go"
    refine ⟨F, n, rows, w.fh, hC0, hok, by omega, fun p1 F1 H1 hp1 w1 => ?_⟩
    have hp1' := w.g.fresh hp1
    replace w := w.cal .nil w1 (by walk_at "app")
    obtain ⟨F1, w⟩ := w.fzL (p := p1) (by walk_at "pick") hp1'
    walk_at "go"
    refine ⟨F1, p1, celsL rows, n, rfl, w.fh, by rw [← cels_v]; exact sqL_of (w.i (fx p1 _) (by walk_at "mem")), cels_ok hok.ok, by omega, hcl, fun p2 ys F2 H2 hp2 w2 => ?_⟩
    have hp2' := w.g.fresh hp2
    replace w := w.cal .nil w2 (by walk_at "app")
    obtain ⟨F2, w⟩ := w.fzL (p := p2) (by walk_at "pick") hp2'
    walk_at "go"
    refine n_make w fun c2 dx2 H3 w hc2 => ?_
    refine c_init w (by walk_at "pick") hc2 (sqL_of (w.i (fx p2 (.lst ys)) (by walk_at "mem"))) (w.dpa (by walk_at "mem")) hn (plain_ok (cels_ok hok.ok) hcl) fun F3 H3 w => ?_
    walk_at "go"
    exact q _ _ _ (by walk_at "w")
-- parting_text
theorem ok_parting_text {f : Addr} {fd : FuncData} (F : FunD K "parting_text" "parting_text" (defArgs s_parting_text) (defBody s_parting_text) (defScope s_parting_text) [] [] f fd) (T : Txt K mg)  : FnOk P w K mg base CX0 1 f fd ["size", "cell", "other"] (S3 (φpt K)) := by
  refine F.ok sc_parting_text (fun vs H Q E h => ?_) (fun cdv A outer s H vs Q E hr h => ?_)
  · exact S3.len h
  · match vs, h with
    | [v0, v1, v2], h =>
    have hu := hu_of hr
    refine ⟨_, PSs.nox (pss_cons (ps_set (i := 3) sc_parting_text.nd rfl (.inl rfl) (pe_op op_rep (pe_lst (pa_cons pe_str pa_nil)) (pv 0)))
      (C8.pss_cut (ps_if (PW.pt (pw_and (pt_val (pe_callB (clIsi (K := K)) (by rfl) T.b_isinstance (by decide +kernel) (pa_cons (pv 1) (pa_cons (pe_bltn (v := .ty "int") (by rfl) T.b_int (by decide +kernel) rfl) pa_nil)))) (pw_and1 (PW.pt (pw_or (pt_val (pe_callB (clIsi (K := K)) (by rfl) T.b_isinstance (by decide +kernel) (pa_cons (pv 2) (pa_cons (pe_bltn (v := .ty "int") (by rfl) T.b_int (by decide +kernel) rfl) pa_nil)))) (pw_or1 (pt_cmpR (opEqD (K := K) hr.units) (pv 2) pe_str (nomark _)))))))) (pss_one (ps_asg pe_str (pg_sub (pv 3) (pv 1) set_list))) pss_nil)
      (C8.pss_cut (ps_if (PW.pt (pw_and (pt_val (pe_callB (clIsi (K := K)) (by rfl) T.b_isinstance (by decide +kernel) (pa_cons (pv 2) (pa_cons (pe_bltn (v := .ty "int") (by rfl) T.b_int (by decide +kernel) rfl) pa_nil)))) (pw_and1 (pt_cmpR (opEqD (K := K) hr.units) (pv 1) pe_str (nomark _))))) (pss_one (ps_asg pe_str (pg_sub (pv 3) (pv 2) set_list))) pss_nil)
      (pss_one (ps_ret (peJoin (K := K) pe_str (pv 3))))))), ?_⟩
    rw [show start ["size", "cell", "other", "signs"] [v0, v1, v2] = [some v0, some v1, some v2, none] from rfl]
    obtain ⟨F, n, a, b, rfl, rfl, rfl, hw, ha, hb, hab, hn, q⟩ := h
    have w := W.start (M := []) hw
    walk_at "go"
    refine n_lst w (szle (by simp)) fun p1 F1 H1 w hp1 => ?_
    walk_at "go"
    refine n_rep w (by walk_at "at") (by omega) (by omega) (szle (by show 1 * _ ≤ _; omega)) fun sg F2 H2 w hsg => ?_
    rw [show (List.replicate ((n : Nat) : Int).toNat [V.str (Str.ofString "a")]).flatten = (partL n none).map fun c => V.str ⟨#[c]⟩ by rw [sA]; exact rep_as n] at w
    walk_at "go"
    refine n_cut (w.to (D := [mu sg (.lst ((partL n none).map fun c => V.str ⟨#[c]⟩))]) (by walk_at "pick")) (fun σ L => σ = [some (.int (n : Nat)), some a.v, some b.v, some (.ref sg)] ∧ L = [mu sg (.lst ((partL n (firstK a b)).map fun c => V.str ⟨#[c]⟩))]) ?_ (fun σ L F' H' hp w => ?_)
    · have fin : ∀ {F1 H1 L} (k : Option Nat), k = firstK a b → W [] F H F1 H1 L → Pk L [mu sg (.lst ((partL n k).map fun c => V.str ⟨#[c]⟩))] → Nx [] F H (fun σ L => σ = [some (.int (n : Nat)), some a.v, some b.v, some (.ref sg)] ∧ L = [mu sg (.lst ((partL n (firstK a b)).map fun c => V.str ⟨#[c]⟩))]) [some (.int (n : Nat)), some a.v, some b.v, some (.ref sg)] H1 := by
        intro F1 H1 L k hk w kk
        rw [hk] at kk
        exact nx_mk w ⟨rfl, rfl⟩ kk
      cases a with
      | pl i =>
        have hi : i < n := ha
        dsimp only [Cel.v] at fin ⊢
        walk_at "go"
        refine u_isi (F := _) (d := .int (i : Nat)) (.int _) w.fh (k_int _) ?_
        walk_at "go"
        refine w_is (c := true) rfl ?_
        walk_at "go"
        cases b with
        | pl j =>
          dsimp only [Cel.v] at fin ⊢
          refine u_isi (F := _) (d := .int (j : Nat)) (.int _) w.fh (k_int _) ?_
          walk_at "go"
          refine w_is (c := true) rfl ?_
          walk_at "go"
          refine n_setL w (by walk_at "pick") i (ix_nat (by rw [List.length_map, part_len]; exact hi)) fun H3 w => ?_
          rw [sB, part_set] at w
          exact fin (some i) (rfl) w (by walk_at "pk")
        | sg c =>
          dsimp only [Cel.v] at fin ⊢
          refine u_isi (F := _) (d := .str ⟨#[c]⟩) (.str _) w.fh (k_int _) ?_
          walk_at "go"
          refine w_is (c := false) rfl ?_
          walk_at "go"
          rw [sA]
          refine n_eqC (a := .sg c) (b := .sg 97) hb ok97 ?_
          walk_at "go"
          by_cases e : c = 97
          · rw [decide_eq_true (show Cel.sg c = .sg 97 by rw [e])]
            walk_at "go"
            refine n_setL w (by walk_at "pick") i (ix_nat (by rw [List.length_map, part_len]; exact hi)) fun H3 w => ?_
            rw [sB, part_set] at w
            exact fin (some i) (by show some i = if c = 97 then some i else none; rw [if_pos e]) w (by walk_at "pk")
          · rw [decide_eq_false (show ¬ Cel.sg c = .sg 97 by intro z; cases z; exact e rfl)]
            walk_at "go"
            exact fin none (by show none = if c = 97 then some i else none; rw [if_neg e]) w (by walk_at "pk")
      | sg c =>
        dsimp only [Cel.v] at fin ⊢
        walk_at "go"
        refine u_isi (F := _) (d := .str ⟨#[c]⟩) (.str _) w.fh (k_int _) ?_
        walk_at "go"
        refine w_is (c := false) rfl ?_
        walk_at "go"
        exact fin none rfl w (by walk_at "pk")
    obtain ⟨rfl, rfl⟩ := hp
    refine n_cut w (fun σ L => σ = [some (.int (n : Nat)), some a.v, some b.v, some (.ref sg)] ∧ L = [mu sg (.lst ((partL n (pickK a b)).map fun c => V.str ⟨#[c]⟩))]) ?_ (fun σ L F' H' hp w => ?_)
    · have fin : ∀ {F1 H1 L} (k : Option Nat), k = pickK a b → W [] F H F1 H1 L → Pk L [mu sg (.lst ((partL n k).map fun c => V.str ⟨#[c]⟩))] → Nx [] F H (fun σ L => σ = [some (.int (n : Nat)), some a.v, some b.v, some (.ref sg)] ∧ L = [mu sg (.lst ((partL n (pickK a b)).map fun c => V.str ⟨#[c]⟩))]) [some (.int (n : Nat)), some a.v, some b.v, some (.ref sg)] H1 := by
        intro F1 H1 L k hk w kk
        rw [hk] at kk
        exact nx_mk w ⟨rfl, rfl⟩ kk
      cases b with
      | pl j =>
        have hj : j < n := hb
        dsimp only [Cel.v] at fin ⊢
        walk_at "go"
        refine u_isi (F := _) (d := .int (j : Nat)) (.int _) w.fh (k_int _) ?_
        walk_at "go"
        refine w_is (c := true) rfl ?_
        walk_at "go"
        rw [sA]
        cases a with
        | pl i =>
          refine n_eqC (a := .pl i) (b := .sg 97) ha ok97 ?_
          dsimp only [Cel.v] at fin ⊢
          walk_at "go"
          rw [decide_eq_false (show ¬ Cel.pl i = .sg 97 by intro z; cases z)]
          walk_at "go"
          exact fin (some i) rfl w (by walk_at "pk")
        | sg c =>
          refine n_eqC (a := .sg c) (b := .sg 97) ha ok97 ?_
          dsimp only [Cel.v] at fin ⊢
          walk_at "go"
          by_cases e : c = 97
          · rw [decide_eq_true (show Cel.sg c = .sg 97 by rw [e])]
            walk_at "go"
            refine n_setL w (by walk_at "pick") j (ix_nat (by rw [List.length_map, part_len]; exact hj)) fun H3 w => ?_
            rw [sB, show firstK (.sg c) (.pl j) = none from rfl, part_set] at w
            exact fin (some j) (by show some j = if c = 97 then some j else none; rw [if_pos e]) w (by walk_at "pk")
          · rw [decide_eq_false (show ¬ Cel.sg c = .sg 97 by intro z; cases z; exact e rfl)]
            walk_at "go"
            exact fin none (by show none = if c = 97 then some j else none; rw [if_neg e]) w (by walk_at "pk")
      | sg c =>
        dsimp only [Cel.v] at fin ⊢
        walk_at "go"
        refine u_isi (F := _) (d := .str ⟨#[c]⟩) (.str _) w.fh (k_int _) ?_
        walk_at "go"
        refine w_is (c := false) rfl ?_
        walk_at "go"
        cases a with
        | pl i => exact fin _ rfl w (by walk_at "pk")
        | sg d => exact fin none rfl w (by walk_at "pk")
    obtain ⟨rfl, rfl⟩ := hp
    walk_at "go"
    refine ⟨_, sg, (partL n (pickK a b)).map fun c => (⟨#[c]⟩ : Str), rfl, rfl, .inl (by rw [List.map_map]; walk_at "sq"), ?_, ?_⟩
    · rw [sum_ones _ (part_ones n _), List.length_map, part_len]
      show n + n * 0 ≤ 16777216
      omega
    have ej : cd (Txt.join ⟨#[]⟩ ((partL n (pickK a b)).map fun c => (⟨#[c]⟩ : Str))) = partL n (pickK a b) := by rw [join_cd]; exact flat_ones _
    refine q _ F' H' (by walk_at "w") ?_ ?_ ?_
    · show (Txt.join ⟨#[]⟩ ((partL n (pickK a b)).map fun c => (⟨#[c]⟩ : Str))).length = n
      rw [← cd_len, ej, part_len]
    · show ∀ c ∈ cd (Txt.join ⟨#[]⟩ ((partL n (pickK a b)).map fun c => (⟨#[c]⟩ : Str))), _
      rw [ej]
      exact part_ab n _
    · show a.out (cd (Txt.join ⟨#[]⟩ ((partL n (pickK a b)).map fun c => (⟨#[c]⟩ : Str)))) ≠ b.out (cd (Txt.join ⟨#[]⟩ ((partL n (pickK a b)).map fun c => (⟨#[c]⟩ : Str))))
      rw [ej]
      exact pick_parts ha hb hab
-- parting
theorem ok_parting {f : Addr} {fd : FuncData} (F : FunD K "parting" "parting" (defArgs s_parting) (defBody s_parting) (defScope s_parting) [] [] f fd) (T : Txt K mg) (D_parting_text : DO P w K mg base 1 "parting_text" ["size", "cell", "other"] [] (S3 (φpt K))) (DM_Change_cells : DM P w K mg base 1 "Change" "cells" ["self"] [] (S1 (φcells K))) : FnOk P w K mg base CX0 3 f fd ["one", "two"] (S2 (φparting K)) := by
  refine F.ok sc_parting (fun vs H Q E h => ?_) (fun cdv A outer s H vs Q E hr h => ?_)
  · exact S2.len h
  · match vs, h with
    | [v0, v1], h =>
    have hu := hu_of hr
    refine ⟨_, PSs.nox (pss_cons (ps_set (i := 2) sc_parting.nd rfl (.inl rfl) (pmeth0 DM_Change_cells hr (pv 0)))
      (pss_cons (ps_set (i := 3) sc_parting.nd rfl (.inl rfl) (pmeth0 DM_Change_cells hr (pv 1)))
      (pss_cons (ps_if (pt_cmpR op_ne (pe_callB (clLenQ (K := K)) (by rfl) T.b_len (by decide +kernel) (pa_cons (pv 2) pa_nil)) (pe_callB (clLenQ (K := K)) (by rfl) T.b_len (by decide +kernel) (pa_cons (pv 3) pa_nil)) (nomark _)) (pss_one (ps_ret (pe_op opMulS pe_str (peFld (K := K) (pv 0))))) pss_nil)
      (pss_cons (ps_for PassesOwn.never rfl (pi_range1 rfl T.b_range (pa_cons (pe_callB (clLenQ (K := K)) (by rfl) T.b_len (by decide +kernel) (pa_cons (pv 2) pa_nil)) pa_nil)) (pg_name (i := 4) sc_parting.nd rfl (.inl rfl)) (pss_one (ps_if (pt_cmpR (opNeD (K := K) hr.units) (pe_ix (ixL (K := K)) (pv 2) (pv 4) (fun _ _ => rfl)) (pe_ix (ixL (K := K)) (pv 3) (pv 4) (fun _ _ => rfl)) (nomark _)) (pss_one (ps_ret (pcall D_parting_text hr (pa_cons (peFld (K := K) (pv 0)) (pa_cons (pe_ix (ixL (K := K)) (pv 2) (pv 4) (fun _ _ => rfl)) (pa_cons (pe_ix (ixL (K := K)) (pv 3) (pv 4) (fun _ _ => rfl)) pa_nil)))))) pss_nil)))
      (pss_one (ps_ret pe_non)))))), ?_⟩
    rw [show start ["one", "two", "here", "there", "k"] [v0, v1] = [some v0, some v1, none, none, none] from rfl]
    have kC := T.k_Change
    have kS := T.na_Change_size
    have kR := T.na_Change_rows
    
    obtain ⟨F, n, rows1, rows2, hw, hC1, hC2, hok1, hok2, hn, q⟩ := h
    have q1 : celsL rows1 = celsL rows2 → ∀ F2 H2, W [] F H F2 H2 [] → Q .non H2 := fun e F2 H2 w => q _ _ _ w (.inl ⟨e, rfl⟩)
    have q2 : celsL rows1 ≠ celsL rows2 → ∀ s F2 H2, W [] F H F2 H2 [] → Parts n s (celsL rows1) (celsL rows2) → Q (.str s) H2 := fun e s F2 H2 w hp => q _ _ _ w (.inr ⟨e, s, rfl, hp⟩)
    have hC10 := hC1
    have hC20 := hC2
    obtain ⟨c1, dx1, r1, vs1, rfl, hc1, hr1, hD1⟩ := hC1
    obtain ⟨c2, dx2, r2, vs2, rfl, hc2, hr2, hD2⟩ := hC2
    have w := ((W.start (M := []) hw).push (fx c1 _) hc1).push (fx c2 _) hc2
    unfold insC at w
    obtain ⟨cs, ecs⟩ : ∃ cs, cs = celsL rows1 := ⟨_, rfl⟩
    obtain ⟨ds, eds⟩ : ∃ ds, ds = celsL rows2 := ⟨_, rfl⟩
    have csl : cs.length ≤ 400 := by rw [ecs, cels_len]; exact hok1.sum
    have dsl : ds.length ≤ 400 := by rw [eds, cels_len]; exact hok2.sum
    have ok1 : ∀ c ∈ cs, c.ok n := by rw [ecs]; exact cels_ok hok1.ok
    have ok2 : ∀ c ∈ ds, c.ok n := by rw [eds]; exact cels_ok hok2.ok
    walk_at "go"
    refine ⟨F, n, rows1, w.fh, hC10, hok1, by omega, fun p1 F1 H1 hp1 w1 => ?_⟩
    have hp1' := w.g.fresh hp1
    replace w := w.cal .nil w1 (by walk_at "app")
    rw [cels_v, ← ecs] at w
    obtain ⟨F1, w⟩ := w.fzL (p := p1) (by walk_at "pick") hp1'
    walk_at "go"
    refine ⟨F1, n, rows2, w.fh, hC20.same w.ff, hok2, by omega, fun p2 F2 H2 hp2 w2 => ?_⟩
    have hp2' := w.g.fresh hp2
    replace w := w.cal .nil w2 (by walk_at "app")
    rw [cels_v, ← eds] at w
    obtain ⟨F2, w⟩ := w.fzL (p := p2) (by walk_at "pick") hp2'
    rw [← ecs, ← eds] at q1 q2
    walk_at "go"
    rw [List.length_map, List.length_map]
    refine w_iteN (fun hne => ?_) (fun hle => ?_)
    · have hne2 : cs.length ≠ ds.length := fun e => hne (by rw [e])
      walk_at "go"
      rw [sA]
      refine ⟨97, n, rfl, rfl, by omega, fun s hs => ?_⟩
      refine q2 (fun e => hne2 (by rw [e])) s F2 H2 (by walk_at "w") (parts_len ?_ ?_ hne2)
      · rw [← cd_len, hs, List.length_replicate]
      · rw [hs]
        exact fun c hc => .inl (List.eq_of_mem_replicate hc)
    · have hle2 : cs.length = ds.length := by omega
      walk_at "go"
      rw [List.length_map]
      walk_at "go"
      refine n_forR w (fun i σ L => ∃ y4, σ = [some (.ref c1), some (.ref c2), some (.ref p1), some (.ref p2), y4] ∧ (∀ k, k < i → cs[k]? = ds[k]?) ∧ L = [fx p1 (.lst (cs.map Cel.v)), fx p2 (.lst (ds.map Cel.v)), fx c1 (.ins (He.ga K "Change") dx1 [("size", .int (n : Nat)), ("rows", .ref r1)])]) ⟨none, rfl, (fun k hk => absurd hk (Nat.not_lt_zero k)), rfl⟩ (fun i σ L F' H' hi hp w => ?_) (fun σ L F' H' hp w => ?_)
      · obtain ⟨y4, rfl, hs, rfl⟩ := hp
        have hi : i < cs.length := by omega
        obtain ⟨a, ha⟩ : ∃ a, cs[i]? = some a := ⟨_, List.getElem?_eq_getElem hi⟩
        obtain ⟨b, hb⟩ : ∃ b, ds[i]? = some b := ⟨_, List.getElem?_eq_getElem (by omega)⟩
        have ga : atI (cs.map Cel.v) (i : Int) = some a.v := atI_nat (by rw [List.getElem?_map, ha]; rfl)
        have gb : atI (ds.map Cel.v) (i : Int) = some b.v := atI_nat (by rw [List.getElem?_map, hb]; rfl)
        have oa := ok1 a (List.mem_of_getElem? ha)
        have ob := ok2 b (List.mem_of_getElem? hb)
        walk_at "go"
        refine w_ixL _ _ (by walk_at "sq") ga ?_
        walk_at "go"
        refine w_ixL _ _ (by walk_at "sq") gb ?_
        walk_at "go"
        refine n_neC oa ob ?_
        walk_at "go"
        refine w_iteN (fun hne => ?_) (fun heq => ?_)
        · walk_at "go"
          refine w_ixL _ _ (by walk_at "sq") ga ?_
          walk_at "go"
          refine w_ixL _ _ (by walk_at "sq") gb ?_
          walk_at "go"
          refine ⟨F', n, a, b, rfl, rfl, rfl, w.fh, oa, ob, hne, hn, fun s F3 H3 w3 hl hab hpt => ?_⟩
          replace w := w.cal .nil w3 (by walk_at "app")
          exact q2 (fun e => hne (by rw [e, hb] at ha; exact (Option.some.inj ha).symm)) s F3 H3 (by walk_at "w") (parts_at hl hab ha hb hpt)
        · walk_at "go"
          refine nx_mk w ⟨_, rfl, fun k hk => ?_, rfl⟩ (by walk_at "pk")
          by_cases e : k = i
          · rw [e, ha, hb, heq]
          · exact hs k (by omega)
      · obtain ⟨y4, rfl, hs, rfl⟩ := hp
        walk_at "go"
        refine q1 (List.ext_getElem? fun k => ?_) F' H' (by walk_at "w")
        by_cases hk : k < cs.length
        · exact hs k (by omega)
        · rw [List.getElem?_eq_none (by omega), List.getElem?_eq_none (by omega)]
-- behind
theorem ok_behind {f : Addr} {fd : FuncData} (F : FunD K "behind" "behind" (defArgs s_behind) (defBody s_behind) (defScope s_behind) [] [] f fd) (T : Txt K mg) (D_rows_of : DO P w K mg base 1 "rows_of" ["cells"] [] (S1 (φrows_of K))) (DM_Change_cells : DM P w K mg base 1 "Change" "cells" ["self"] [] (S1 (φcells K))) (DN_Change_2 : DN P w K mg base 2 "Change" ["self", "size", "rows"] [] (S3 (φinit K))) : FnOk P w K mg base CX0 4 f fd ["first", "second"] (S2 (φbehind K)) := by
  refine F.ok sc_behind (fun vs H Q E h => ?_) (fun cdv A outer s H vs Q E hr h => ?_)
  · exact S2.len h
  · match vs, h with
    | [v0, v1], h =>
    have hu := hu_of hr
    refine ⟨_, PSs.nox (pss_cons (ps_set (i := 2) sc_behind.nd rfl (.inr rfl) (pmeth0 DM_Change_cells hr (pv 0)))
      (pss_cons (ps_if (pt_cmpR op_ne (peFld (K := K) (pv 1)) (pe_callB (clLenQ (K := K)) (by rfl) T.b_len (by decide +kernel) (pa_cons (pv 2) pa_nil)) (nomark _)) (pss_one ps_never) pss_nil)
      (pss_one (ps_ret (pmake DN_Change_2 hr (pa_cons (peFld (K := K) (pv 0)) (pa_cons (pcall D_rows_of hr (pa_cons (pe_lc (own := [("cell", 3)]) (g := gName 3) rfl sc_behind.nd (pi_list (pmeth0 DM_Change_cells hr (pv 1))) (blkOk_by (own := [("cell", 3)]) (N := ["first", "second", "cells", "cell"]) (sc := defScope s_behind) (by decide +kernel)) (fun _ _ _ _ _ => pg_name (i := 3) sc_behind.nd rfl (Or.inl rfl)) (fun _ _ _ _ _ => pts_nil) (fun _ _ _ _ _ => (pe_ifExp (pt_val (pe_callB (clIsi (K := K)) (by rfl) T.b_isinstance (by decide +kernel) (pa_cons (pv 3) (pa_cons (pe_bltn (v := .ty "int") (by rfl) T.b_int (by decide +kernel) rfl) pa_nil)))) (pe_ix (ixL (K := K)) (pv 2) (pv 3) (fun _ _ => rfl)) (pv 3)))) pa_nil)) pa_nil))))))), ?_⟩
    rw [show start ["first", "second", "cells", "cell"] [v0, v1] = [some v0, some v1, none, none] from rfl]
    have kC := T.k_Change
    have kS := T.na_Change_size
    have kR := T.na_Change_rows
    
    obtain ⟨F, n, rows1, rows2, hw, hC1, hC2, hok1, hok2, hn, q⟩ := h
    have hC10 := hC1
    have hC20 := hC2
    obtain ⟨c1, dx1, r1, vs1, rfl, hc1, hr1, hD1⟩ := hC1
    obtain ⟨c2, dx2, r2, vs2, rfl, hc2, hr2, hD2⟩ := hC2
    have w := ((W.start (M := []) hw).push (fx c1 _) hc1).push (fx c2 _) hc2
    unfold insC at w
    obtain ⟨cs, ecs⟩ : ∃ cs, cs = celsL rows1 := ⟨_, rfl⟩
    obtain ⟨ds, eds⟩ : ∃ ds, ds = celsL rows2 := ⟨_, rfl⟩
    have hcl : cs.length = givesL rows1 := by rw [ecs]; exact cels_len rows1
    have hdl : ds.length = givesL rows2 := by rw [eds]; exact cels_len rows2
    have hcl2 := hok1.sum
    have hdl2 := hok2.sum
    have ok1 : ∀ c ∈ cs, c.ok n := by rw [ecs]; exact cels_ok hok1.ok
    have ok2 : ∀ c ∈ ds, c.ok cs.length := by rw [eds, hcl]; exact cels_ok hok2.ok
    walk_at "go"
    refine ⟨F, n, rows1, w.fh, hC10, hok1, by omega, fun p1 F1 H1 hp1 w1 => ?_⟩
    have hp1' := w.g.fresh hp1
    replace w := w.cal .nil w1 (by walk_at "app")
    rw [cels_v, ← ecs] at w
    obtain ⟨F1, w⟩ := w.fzL (p := p1) (by walk_at "pick") hp1'
    walk_at "go"
    rw [List.length_map, hcl]
    walk_at "go"
    refine ⟨F1, _, rows2, w.fh, hC20.same w.ff, hok2, by omega, fun p2 F2 H2 hp2 w2 => ?_⟩
    have hp2' := w.g.fresh hp2
    replace w := w.cal .nil w2 (by walk_at "app")
    rw [cels_v, ← eds] at w
    obtain ⟨F2, w⟩ := w.fzL (p := p2) (by walk_at "pick") hp2'
    walk_at "go"
    refine n_lcL (ds.map Cel.v) w (fun i ys L => ys = ((ds.take i).map (midC cs)).map Cel.v ∧ L = [fx p2 (.lst (ds.map Cel.v)), fx p1 (.lst (cs.map Cel.v))]) ⟨rfl, rfl⟩ (fun i ys L F' H' D hp w => ?_) (fun i x ys L F' H' D hx hp w hDn => ?_) (fun D ys L F' H' hp w hDn => ?_)
    · obtain ⟨rfl, rfl⟩ := hp
      walk_at "sq"
    · obtain ⟨rfl, rfl⟩ := hp
      rw [List.getElem?_map] at hx
      obtain ⟨d, hd, rfl⟩ : ∃ d, ds[i]? = some d ∧ x = d.v := by
        cases e : ds[i]? with
        | none => rw [e] at hx; cases hx
        | some d => rw [e] at hx; exact ⟨d, rfl, (Option.some.inj hx).symm⟩
      have hi := (List.getElem?_eq_some_iff.mp hd).1
      have dok := ok2 d (List.mem_of_getElem? hd)
      have e1 : ((ds.take (i + 1)).map (midC cs)).map Cel.v = ((ds.take i).map (midC cs)).map Cel.v ++ [(midC cs d).v] := by
        rw [List.take_add_one, hd, List.map_append, List.map_append]
        rfl
      have hl : (((ds.take i).map (midC cs)).map Cel.v).length ≤ 1000 := by
        rw [List.length_map, List.length_map, List.length_take]
        omega
      clear hx
      cases d with
      | pl j =>
        have hj : j < cs.length := dok
        dsimp only [Cel.v]
        walk_at "wp"
        walk_at "go"
        refine u_isi (F := F') (d := .int (j : Nat)) (.int _) w.fh (k_int _) ?_
        walk_at "go"
        refine w_is (c := true) rfl ?_
        walk_at "go"
        have hx2 : (cs.map Cel.v)[j]? = some (midC cs (.pl j)).v := by
          rw [List.getElem?_map, List.getElem?_eq_getElem hj]
          show some (cs[j].v) = some (cs.getD j (.sg 0)).v
          rw [List.getD_eq_getElem?_getD, List.getElem?_eq_getElem hj]
          rfl
        refine w_ixL _ _ (by walk_at "sq") (atI_nat hx2) ?_
        exact n_acc _ w ⟨e1.symm, rfl⟩ (by walk_at "pk") (small_lt (by omega))
      | sg j =>
        dsimp only [Cel.v]
        walk_at "wp"
        walk_at "go"
        refine u_isi (F := F') (d := .str ⟨#[j]⟩) (.str _) w.fh (k_int _) ?_
        walk_at "go"
        refine w_is (c := false) rfl ?_
        walk_at "go"
        exact n_acc _ w ⟨e1.symm, rfl⟩ (by walk_at "pk") (small_lt (by omega))
    · obtain ⟨rfl, rfl⟩ := hp
      rw [List.take_of_length_le (by rw [List.length_map]; exact Nat.le_refl _)] at w
      obtain ⟨F', w⟩ := w.fzL (p := D) (by walk_at "pick") hDn
      walk_at "go"
      refine ⟨F', D, ds.map (midC cs), n, rfl, w.fh, sqL_of (w.i (fx D _) (by walk_at "mem")), mid_ok ok1 ok2, by omega, by rw [List.length_map]; omega, fun p3 ys F3 H3 hp3 w3 => ?_⟩
      have hp3' := w.g.fresh hp3
      replace w := w.cal .nil w3 (by walk_at "app")
      obtain ⟨F3, w⟩ := w.fzL (p := p3) (by walk_at "pick") hp3'
      walk_at "go"
      refine n_make w fun c3 dx3 H4 w hc3 => ?_
      refine c_init w (by walk_at "pick") hc3 (sqL_of (w.i (fx p3 (.lst ys)) (by walk_at "mem"))) (w.dpa (by walk_at "mem")) hn (plain_ok (mid_ok ok1 ok2) (by rw [List.length_map]; omega)) fun F5 H5 w => ?_
      rw [ecs, eds] at w
      exact q _ _ _ (by walk_at "w")
-- behind!
theorem ok_behind_r {f : Addr} {fd : FuncData} (F : FunD K "behind" "behind" (defArgs s_behind_r) (defBody s_behind_r) (defScope s_behind_r) [] [] f fd) (T : Txt K mg)  (DM_Change_cells : DM P w K mg base 1 "Change" "cells" ["self"] [] (S1 (φcells K))) : FnOk P w K mg base (L2.CX P w) 2 f fd ["first", "second"] (SX2 (φbehindX K)) := by
  refine F.ok sc_behind_r (fun vs H Q E h => ?_) (fun cdv A outer s H vs Q E hr h => ?_)
  · exact SX2.len h
  · match vs, h with
    | [v0, v1], h =>
    have hu := hu_of hr
    refine ⟨_, (pss_cons (PS.nox (ps_set (i := 2) sc_behind_r.nd rfl (.inr rfl) (pmeth0 DM_Change_cells hr (pv 0))))
      (pss_cons (ps_if (PT.nox (pt_cmpR op_ne (peFld (K := K) (pv 1)) (pe_callB (clLenQ (K := K)) (by rfl) T.b_len (by decide +kernel) (pa_cons (pv 2) pa_nil)) (nomark _))) (pss_one (ps_raiseO T.e_BadSize (takes_of rfl rfl rfl rfl) rfl)) pss_nil)
      pss_never)), ?_⟩
    rw [show start ["first", "second", "cells", "cell"] [v0, v1] = [some v0, some v1, none, none] from rfl]
    have kC := T.k_Change
    have kS := T.na_Change_size
    have kR := T.na_Change_rows
    
    obtain ⟨F, n, m, rows1, rows2, hw, hC1, hC2, hok1, hn, hm, hne, q⟩ := h
    have hC10 := hC1
    obtain ⟨c1, dx1, r1, vs1, rfl, hc1, hr1, hD1⟩ := hC1
    obtain ⟨c2, dx2, r2, vs2, rfl, hc2, hr2, hD2⟩ := hC2
    have w := ((W.start (M := []) hw).push (fx c1 _) hc1).push (fx c2 _) hc2
    unfold insC at w
    have hcl : (celsL rows1).length = givesL rows1 := cels_len rows1
    have hcl2 := hok1.sum
    walk_at "go"
    refine ⟨F, n, rows1, w.fh, hC10, hok1, by omega, fun p1 F1 H1 hp1 w1 => ?_⟩
    have hp1' := w.g.fresh hp1
    replace w := w.cal .nil w1 (by walk_at "app")
    rw [cels_v] at w
    walk_at "go"
    rw [List.length_map, hcl]
    walk_at "go"
    refine w_iteN (fun hd => ?_) (fun hd => (hne (by omega)).elim)
    walk_at "go"
    exact q _ _ (by walk_at "w")
-- undone
theorem ok_undone {f : Addr} {fd : FuncData} (F : FunD K "undone" "undone" (defArgs s_undone) (defBody s_undone) (defScope s_undone) [] [] f fd) (T : Txt K mg) (D_rows_of : DO P w K mg base 1 "rows_of" ["cells"] [] (S1 (φrows_of K))) (DM_Change_cells : DM P w K mg base 1 "Change" "cells" ["self"] [] (S1 (φcells K))) (DN_Change_2 : DN P w K mg base 2 "Change" ["self", "size", "rows"] [] (S3 (φinit K))) : FnOk P w K mg base CX0 4 f fd ["change", "old"] (S2 (φundone K)) := by
  refine F.ok sc_undone (fun vs H Q E h => ?_) (fun cdv A outer s H vs Q E hr h => ?_)
  · exact S2.len h
  · match vs, h with
    | [v0, v1], h =>
    have hu := hu_of hr
    refine ⟨_, PSs.nox (pss_cons (ps_if (pt_cmpR op_ne (pe_callB clLenS (by rfl) T.b_len (by decide +kernel) (pa_cons (pv 1) pa_nil)) (peFld (K := K) (pv 0)) (nomark _)) (pss_one ps_never) pss_nil)
      (pss_cons (ps_set (i := 2) sc_undone.nd rfl (.inl rfl) (pmeth0 DM_Change_cells hr (pv 0)))
      (pss_cons (ps_set (i := 3) sc_undone.nd rfl (.inr rfl) pe_dnewK)
      (pss_cons (ps_for PassesOwn.never rfl (pi_range1 rfl T.b_range (pa_cons (pe_callB (clLenQ (K := K)) (by rfl) T.b_len (by decide +kernel) (pa_cons (pv 2) pa_nil)) pa_nil)) (pg_name (i := 4) sc_undone.nd rfl (.inl rfl)) (pss_one (ps_if (pt_val (pe_callB (clIsi (K := K)) (by rfl) T.b_isinstance (by decide +kernel) (pa_cons (pe_ix (ixL (K := K)) (pv 2) (pv 4) (fun _ _ => rfl)) (pa_cons (pe_bltn (v := .ty "int") (by rfl) T.b_int (by decide +kernel) rfl) pa_nil)))) (pss_one (ps_expr (pe_dsetd (pv 3) (pe_ix (ixL (K := K)) (pv 2) (pv 4) (fun _ _ => rfl)) (pv 4) ⟨rfl, rfl, rfl, rfl⟩))) pss_nil)))
      (pss_one (ps_ret (pmake DN_Change_2 hr (pa_cons (pe_callB (clLenQ (K := K)) (by rfl) T.b_len (by decide +kernel) (pa_cons (pv 2) pa_nil)) (pa_cons (pcall D_rows_of hr (pa_cons (pe_lc (own := [("place", 5)]) (g := gName 5) rfl sc_undone.nd (pi_range1 rfl T.b_range (pa_cons (pe_callB clLenS (by rfl) T.b_len (by decide +kernel) (pa_cons (pv 1) pa_nil)) pa_nil)) (blkOk_by (own := [("place", 5)]) (N := ["change", "old", "cells", "where", "k", "place"]) (sc := defScope s_undone) (by decide +kernel)) (fun _ _ _ _ _ => pg_name (i := 5) sc_undone.nd rfl (Or.inl rfl)) (fun _ _ _ _ _ => pts_nil) (fun _ _ _ _ _ => (pe_dget2 hu (pv 3) (pv 5) (pe_ix ix_str (pv 1) (pv 5) (fun _ _ => rfl)) ⟨rfl, rfl, rfl, rfl⟩))) pa_nil)) pa_nil))))))))), ?_⟩
    rw [show start ["change", "old", "cells", "where", "k", "place"] [v0, v1] = [some v0, some v1, none, none, none, none] from rfl]
    have kC := T.k_Change
    have kS := T.na_Change_size
    have kR := T.na_Change_rows
    
    obtain ⟨F, o, rows, rfl, hw, hC, hok, oko, ho, q⟩ := h
    have hC0 := hC
    obtain ⟨c, dx, r, vs, rfl, hc, hr, hD⟩ := hC
    have w := (W.start (M := []) hw).push (fx c _) hc
    unfold insC at w
    obtain ⟨cs, ecs⟩ : ∃ cs, cs = celsL rows := ⟨_, rfl⟩
    have hcl : cs.length = givesL rows := by rw [ecs]; exact cels_len rows
    have hcl2 := hok.sum
    walk_at "go"
    refine ⟨F, o.length, rows, w.fh, hC0, hok, by omega, fun p1 F1 H1 hp1 w1 => ?_⟩
    have hp1' := w.g.fresh hp1
    replace w := w.cal .nil w1 (by walk_at "app")
    rw [cels_v, ← ecs] at w
    obtain ⟨F1, w⟩ := w.fzL (p := p1) (by walk_at "pick") hp1'
    walk_at "go"
    intro D nD
    have hD := w.g.fresh nD
    replace w := w.nw (u := .dK []) nD
    walk_at "go"
    rw [List.length_map]
    walk_at "go"
    refine n_forR w (fun i σ L => ∃ (kvs : List (Key × V)) (y4 : Option V), σ = [some (.ref c), some (.str o), some (.ref p1), some (.ref D), y4, none] ∧ kvs.length ≤ i ∧ (∀ j : Nat, valV kvs (.inl (j : Int)) = (firstTo cs i j).map fun m => V.int (m : Nat)) ∧
      L = [mu D (.dK kvs), fx p1 (.lst (cs.map Cel.v)), fx c (.ins (He.ga K "Change") dx [("size", .int (o.length : Nat)), ("rows", .ref r)])]) ⟨[], none, rfl, Nat.le_refl _, fun j => rfl, rfl⟩ (fun i σ L F' H' hi hp w => ?_) (fun σ L F' H' hp w => ?_)
    · obtain ⟨kvs, y4, rfl, hkl, hkv, rfl⟩ := hp
      obtain ⟨ce, hce⟩ : ∃ ce, cs[i]? = some ce := ⟨cs[i], List.getElem?_eq_getElem (by omega)⟩
      have hx : (cs.map Cel.v)[i]? = some ce.v := by rw [List.getElem?_map, hce]; rfl
      walk_at "go"
      refine w_ixL _ _ (by walk_at "sq") (atI_nat hx) ?_
      walk_at "go"
      cases ce with
      | pl j =>
        dsimp only [Cel.v] at hx ⊢
        refine u_isi (F := F') (d := .int (j : Nat)) (.int _) w.fh (k_int _) ?_
        walk_at "go"
        refine w_is (c := true) rfl ?_
        walk_at "go"
        refine w_dsetK ?_
        walk_at "go"
        refine ⟨D, rfl, .inl ⟨kvs, .inl (by walk_at "at")⟩, ?_⟩
        walk_at "go"
        refine w_ixL _ _ (by walk_at "sq") (atI_nat hx) ?_
        walk_at "go"
        refine ⟨kvs, .inl (j : Int), by walk_at "at", rfl, small_lt (by omega), fun v hv => ?_, fun hn => ?_⟩
        · refine nx_mk w ⟨kvs, _, rfl, by omega, fun m => ?_, rfl⟩ (by walk_at "pk")
          rw [first_old hce, hkv]
          intro z
          rw [hkv, z] at hv
          cases hv
        · replace w := w.wr (u := .dK (putK kvs (.inl (j : Int)) (.int (i : Nat)))) (k := by walk_at "pick")
          refine nx_mk w ⟨putK kvs (.inl (j : Int)) (.int (i : Nat)), _, rfl, Nat.le_trans (length_putK _ _ _) (by omega), fun m => ?_, rfl⟩ (by walk_at "pk")
          have hn2 : firstTo cs i j = none := by
            rw [hkv] at hn
            cases e : firstTo cs i j with
            | none => rfl
            | some q => rw [e] at hn; cases hn
          rw [valV_put, first_new hce hn2, hkv]
          by_cases e : m = j
          · rw [if_pos (by rw [e]), if_pos e]
            rfl
          · rw [if_neg (by intro z; exact e (by have := Sum.inl.inj z; omega)), if_neg e]
      | sg j =>
        dsimp only [Cel.v] at hx ⊢
        refine u_isi (F := F') (d := .str ⟨#[j]⟩) (.str _) w.fh (k_int _) ?_
        walk_at "go"
        refine w_is (c := false) rfl ?_
        walk_at "go"
        exact nx_mk w ⟨kvs, _, rfl, by omega, fun m => by rw [first_sg hce, hkv], rfl⟩ (by walk_at "pk")
    · obtain ⟨kvs, y4, rfl, hkl, hkv, rfl⟩ := hp
      walk_at "go"
      have hlo : (cd o).length = o.length := cd_len o
      have hkv2 : ∀ j : Nat, valV kvs (.inl (j : Int)) = (firstTo cs cs.length j).map fun m => V.int (m : Nat) := hkv
      refine n_lcR w (fun i ys L => ys = ((List.range i).map (backC cs (cd o))).map Cel.v ∧ L = [mu D (.dK kvs), fx p1 (.lst (cs.map Cel.v)), fx c (.ins (He.ga K "Change") dx [("size", .int (o.length : Nat)), ("rows", .ref r)])]) ⟨rfl, rfl⟩ (fun i ys L F' H' D2 hi hp w hDn => ?_) (fun D2 ys L F' H' hp w hDn => ?_)
      · obtain ⟨rfl, rfl⟩ := hp
        have hi2 : i < o.length := by omega
        walk_at "wp"
        walk_at "go"
        refine w_dget2 ?_
        walk_at "go"
        refine ⟨D, rfl, .inl ⟨kvs, .inl (by walk_at "at")⟩, ?_⟩
        walk_at "go"
        refine w_ixS (szle (by omega)) (sign_get hi2) ?_
        walk_at "go"
        refine ⟨_, DGet.k (k := Sum.inl (i : Int)) (by walk_at "at"), ?_⟩
        rw [hkv2, back_v]
        refine n_acc _ w ⟨?_, rfl⟩ (by walk_at "pk") (small_lt (by rw [List.length_map, List.length_map, List.length_range]; omega))
        rw [List.range_succ, List.map_append, List.map_append]
        rfl
      · obtain ⟨rfl, rfl⟩ := hp
        rw [show (List.range ((o.length : Nat) : Int).toNat).map (backC cs (cd o)) = backs cs (cd o) by unfold backs; rw [hlo]; rfl] at w
        obtain ⟨F', w⟩ := w.fzL (p := D2) (by walk_at "pick") hDn
        walk_at "go"
        refine ⟨F', D2, backs cs (cd o), cs.length, rfl, w.fh, sqL_of (w.i (fx D2 _) (by walk_at "mem")), back_ok oko, by omega, by rw [backs_len]; omega, fun p3 ys F3 H3 hp3 w3 => ?_⟩
        have hp3' := w.g.fresh hp3
        replace w := w.cal .nil w3 (by walk_at "app")
        obtain ⟨F3, w⟩ := w.fzL (p := p3) (by walk_at "pick") hp3'
        walk_at "go"
        rw [List.length_map]
        refine n_make w fun c2 dx2 H4 w hc2 => ?_
        refine c_init w (by walk_at "pick") hc2 (sqL_of (w.i (fx p3 (.lst ys)) (by walk_at "mem"))) (w.dpa (by walk_at "mem")) (by omega) (plain_ok (back_ok oko) (by rw [backs_len]; omega)) fun F5 H5 w => ?_
        rw [ecs, cels_len] at w
        exact q _ _ _ (by walk_at "w")
-- undone!
theorem ok_undone_r {f : Addr} {fd : FuncData} (F : FunD K "undone" "undone" (defArgs s_undone_r) (defBody s_undone_r) (defScope s_undone_r) [] [] f fd) (T : Txt K mg)  : FnOk P w K mg base (L2.CX P w) 1 f fd ["change", "old"] (SX2 (φdoneX K)) := by
  refine F.ok sc_undone_r (fun vs H Q E h => ?_) (fun cdv A outer s H vs Q E hr h => ?_)
  · exact SX2.len h
  · match vs, h with
    | [v0, v1], h =>
    have hu := hu_of hr
    refine ⟨_, (pss_cons (ps_if (PT.nox (pt_cmpR op_ne (pe_callB clLenS (by rfl) T.b_len (by decide +kernel) (pa_cons (pv 1) pa_nil)) (peFld (K := K) (pv 0)) (nomark _))) (pss_one (ps_raiseO T.e_BadSize (takes_of rfl rfl rfl rfl) rfl)) pss_nil)
      pss_never), ?_⟩
    rw [show start ["change", "old", "cells", "where", "k", "place"] [v0, v1] = [some v0, some v1, none, none, none, none] from rfl]
    have kC := T.k_Change
    have kS := T.na_Change_size
    have kR := T.na_Change_rows
    
    obtain ⟨F, n, rows, o, rfl, hw, hC, hn, ho, hne, q⟩ := h
    obtain ⟨c, dx, r, vs, rfl, hc, hr, hD⟩ := hC
    have w := (W.start (M := []) hw).push (fx c _) hc
    unfold insC at w
    walk_at "go"
    refine w_iteN (fun hd => ?_) (fun hd => (hne (by omega)).elim)
    walk_at "go"
    exact q F H (by walk_at "w")
-- _law_bag
theorem ok_law_bag {f : Addr} {fd : FuncData} (F : FunD K "_law_bag" "_law_bag" (defArgs s_law_bag) (defBody s_law_bag) (defScope s_law_bag) [] [] f fd) (T : Txt K mg)  : FnOk P w K mg base CX0 1 f fd ["script"] (S1 (φbag K)) := by
  refine F.ok sc_law_bag (fun vs H Q E h => ?_) (fun cdv A outer s H vs Q E hr h => ?_)
  · exact S1.len h
  · match vs, h with
    | [v0], h =>
    have hu := hu_of hr
    refine ⟨_, PSs.nox (pss_cons (ps_set (i := 1) sc_law_bag.nd rfl (.inl rfl) pe_int)
      (pss_cons (ps_for PassesOwn.never rfl (pi_list (pe_slice (slL (K := K)) (pv 0) po_none (po_some pe_int))) (pg_name (i := 2) sc_law_bag.nd rfl (.inl rfl)) (pss_one (ps_set (i := 1) sc_law_bag.nd rfl (.inl rfl) (pe_op op_mod (pe_op op_add (pe_op op_add (pe_op op_mul (pv 1) pe_int) (pe_op op_mod (pv 2) pe_int)) pe_int) pe_int))))
      (pss_one (ps_ret (pe_lst (pa_cons (pe_lc (own := [("cell", 2)]) (g := gName 2) rfl sc_law_bag.nd (pi_list (pe_slice (slL (K := K)) (pv 0) po_none (po_some pe_int))) (blkOk_by (own := [("cell", 2)]) (N := ["script", "stir", "cell"]) (sc := defScope s_law_bag) (by decide +kernel)) (fun _ _ _ _ _ => pg_name (i := 2) sc_law_bag.nd rfl (Or.inl rfl)) (fun _ _ _ _ _ => pts_nil) (fun _ _ _ _ _ => (pe_op op_mod (pe_callB clAbs (by rfl) T.b_abs (by decide +kernel) (pa_cons (pv 2) pa_nil)) (pe_op op_pow pe_int pe_int)))) (pa_cons pe_int (pa_cons pe_int (pa_cons (pv 1) (pa_cons pe_int pa_nil)))))))))), ?_⟩
    rw [show start ["script", "stir", "cell"] [v0] = [some v0, none, none] from rfl]
    obtain ⟨a, ns, rfl, hS, hl, q⟩ := h
    walk_at "og"
    intro l nl
    rw [cut63 hl]
    refine ⟨l, rfl, ⟨_, sqL_of upd_same⟩, f_list (xs := ns.map V.int) (fun i σ H' => ∃ (st : Int) (y : Option V), σ = [some (.ref a), some (.int st), y] ∧ 0 ≤ st ∧ st < 2147483647 ∧ H' = upd H l (.lst (ns.map V.int))) ⟨19, none, rfl, by decide, by decide, rfl⟩ (fun i σ H' _ hp => ?_) (fun i x σ H' hx hp => ?_) (fun σ H' hp => ?_)⟩
    · obtain ⟨st, y, _, _, _, rfl⟩ := hp
      exact sqL_of upd_same
    · obtain ⟨st, y, rfl, s0, s1, rfl⟩ := hp
      obtain ⟨z, rfl⟩ := map_get hx
      walk_at "og"
      exact ⟨_, _, rfl, mod_nn (by decide), mod_lt (by decide), rfl⟩
    · obtain ⟨st, y, rfl, s0, s1, rfl⟩ := hp
      have hS2 : SqL K (upd H l (.lst (ns.map V.int))) a (ns.map V.int) := sqL_same (Same.new nl) hS
      walk_at "og"
      intro l2 nl2
      rw [cut63 hl]
      have g0 : Gr [] H H H (upd H l (.lst (ns.map V.int))) := .new (Same.refl H) nl
      have g1 := g0.add (o := .lst (ns.map V.int)) nl2
      refine ⟨l2, rfl, ⟨_, sqL_of upd_same⟩, fun D nD => ?_⟩
      have g2 := g1.addm (o := .lst []) nD
      refine lc_list (xs := ns.map V.int) (fun i H' => ∃ vs : List Int, Gr [] H H (upd H l2 (.lst (ns.map V.int))) H' ∧ Mu (upd H l2 (.lst (ns.map V.int))) H' D (.lst (vs.map V.int)) ∧ (∀ x ∈ vs, 0 ≤ x ∧ x < 10 ^ 60) ∧ vs.length = i) ⟨[], g2, Mu.new g1.fh nD, by simp, rfl⟩ (fun i H' _ hp => ?_) (fun i x H' hx hp => ?_) (fun H' hp => ?_)
      · obtain ⟨vs, g, _⟩ := hp
        exact sqL_same g.fh (sqL_of upd_same)
      · obtain ⟨vs, g, mu, hv, hn⟩ := hp
        obtain ⟨z, rfl⟩ := map_get hx
        have hi : i < ns.length := by
          have := (List.getElem?_eq_some_iff.mp hx).1
          rwa [List.length_map] at this
        show gName 2 _ [some (.ref a), some (.int st), none] H' _
        walk_at "og"
        refine ⟨rfl, ?_⟩
        walk_at "og"
        refine ⟨_, mu.h, small1000 (by rw [List.length_map]; omega), vs ++ [_], g.wrn mu.n (g1.fresh nD), by rw [List.map_append]; exact mu.wr, ?_, by simp [hn]⟩
        intro x hx
        rcases List.mem_append.mp hx with hx | hx
        · exact hv x hx
        · rw [List.mem_singleton.mp hx]
          exact ⟨mod_nn (by decide), mod_lt (by decide)⟩
      · obtain ⟨vs, g, mu, hv, hn⟩ := hp
        walk_at "og"
        refine ⟨le1000 (by simp), fun p np => ?_⟩
        have g5 := (g.frz (g1.fresh nD) mu).addm (o := .lst [.ref D, .int 0, .int 0, .int st, .int 0]) np
        refine q p _ _ g5 ⟨D, vs, 0, 0, st, 0, ?_, upd_same, sqL_of upd_same, by rw [hn, List.length_map]; exact hl, hv, by decide, by decide, by decide, s0, s1⟩
        have nF := g.fh.free np
        rw [upd_ne (mu.ne_new np).symm]
        exact nF
-- _law_stirred
theorem ok_law_stirred {f : Addr} {fd : FuncData} (F : FunD K "_law_stirred" "_law_stirred" (defArgs s_law_stirred) (defBody s_law_stirred) (defScope s_law_stirred) [] [] f fd) (T : Txt K mg)  : FnOk P w K mg base CX0 1 f fd ["bag", "many"] (S2 (φdraw K)) := by
  refine F.ok sc_law_stirred (fun vs H Q E h => ?_) (fun cdv A outer s H vs Q E hr h => ?_)
  · exact S2.len h
  · match vs, h with
    | [v0, v1], h =>
    have hu := hu_of hr
    refine ⟨_, PSs.nox (pss_cons (ps_set (i := 2) sc_law_stirred.nd rfl (.inl rfl) pe_int)
      (pss_cons (ps_for PassesOwn.never rfl (pi_range1 rfl T.b_range (pa_cons (pe_op op_add pe_int (pe_op op_fdivW (pe_bits (pv 1)) pe_int)) pa_nil)) (pg_name (i := 3) sc_law_stirred.nd rfl (.inl rfl)) (pss_cons (ps_asg (pe_op op_add (pe_ix (ixL (K := K)) (pv 0) pe_int (fun _ _ => rfl)) pe_int) (pg_sub (pv 0) pe_int set_list))
      (pss_cons (ps_asg (pe_op op_mod (pe_op op_add (pe_op op_add (pe_op op_add (pe_op op_pow (pe_ix (ixL (K := K)) (pv 0) pe_int (fun _ _ => rfl)) pe_int) (pe_op op_mul pe_int (pe_ix (ixL (K := K)) (pv 0) pe_int (fun _ _ => rfl)))) (pe_op op_mul pe_int (pe_ix (ixL (K := K)) (pv 0) pe_int (fun _ _ => rfl)))) pe_int) pe_int) (pg_sub (pv 0) pe_int set_list))
      (pss_one (ps_set (i := 2) sc_law_stirred.nd rfl (.inl rfl) (pe_op op_add (pe_op op_mul (pv 2) pe_int) (pe_op op_fdivW (pe_ix (ixL (K := K)) (pv 0) pe_int (fun _ _ => rfl)) pe_int)))))))
      (pss_one (ps_ret (pe_op op_mod (pv 2) (pv 1)))))), ?_⟩
    rw [show start ["bag", "many", "found", "k"] [v0, v1] = [some v0, some v1, none, none] from rfl]
    obtain ⟨b, m, F, rfl, rfl, hw, hb, h0, h1, q⟩ := h
    have hbits := bits_le h0 h1
    have hb0 : (0 : Int) ≤ (Builtin.Int.intBits m : Nat) := Int.natCast_nonneg _
    have hd0 : (0 : Int) ≤ (Builtin.Int.intBits m : Nat) / 27 := div_nn hb0 (by decide)
    have hd1 : (Builtin.Int.intBits m : Int) / 27 ≤ (Builtin.Int.intBits m : Nat) := div_le' hb0 (by decide)
    walk_at "og"
    refine ⟨_, rfl, by omega, by omega, f_range0 (fun i σ H' => ∃ (f : Int) (y : Option V) (F2 : Hp), σ = [some (.ref b), some (.int m), some (.int f), y] ∧ Gr [b] F H F2 H' ∧ Bag K F2 H' b) ⟨0, none, F, rfl, .refl hw, hb⟩ (fun i σ H' hi hp => ?_) (fun σ H' hp => ?_)⟩
    · obtain ⟨f, y, F2, rfl, g, hB⟩ := hp
      obtain ⟨c, cells, i1, cur, st, n, e1, e2, e3, e4, e5, e6, e7, e8, e9, e10⟩ := hB.ex
      walk_at "og"
      exact ⟨_, _, F2, rfl, (g.put e1 (by simp)).put e1 (by simp), ⟨c, cells, i1, cur, _, _, e1, upd_same, e3, e4, e5, e6, e7, e8, mod_nn (by decide), mod_lt (by decide)⟩⟩
    · obtain ⟨f, y, F2, rfl, g, hB⟩ := hp
      walk_at "og"
      exact q _ F2 H' g hB (mod_nn h0) (mod_lt h0)
-- _law_draw
theorem ok_law_draw {f : Addr} {fd : FuncData} (F : FunD K "_law_draw" "_law_draw" (defArgs s_law_draw) (defBody s_law_draw) (defScope s_law_draw) [] [] f fd) (T : Txt K mg) (D_law_stirred : DO P w K mg base 1 "_law_stirred" ["bag", "many"] [] (S2 (φdraw K))) : FnOk P w K mg base CX0 2 f fd ["bag", "many"] (S2 (φdraw K)) := by
  refine F.ok sc_law_draw (fun vs H Q E h => ?_) (fun cdv A outer s H vs Q E hr h => ?_)
  · exact S2.len h
  · match vs, h with
    | [v0, v1], h =>
    have hu := hu_of hr
    refine ⟨_, PSs.nox (pss_cons (ps_if (PW.pt (pw_and (pt_cmpR op_eq (pe_ix (ixL (K := K)) (pv 0) pe_int (fun _ _ => rfl)) pe_int (nomark _)) (pw_and1 (pt_cmpR op_lt (pe_ix (ixL (K := K)) (pv 0) pe_int (fun _ _ => rfl)) (pe_callB (clLenQ (K := K)) (by rfl) T.b_len (by decide +kernel) (pa_cons (pe_ix (ixL (K := K)) (pv 0) pe_int (fun _ _ => rfl)) pa_nil)) (nomark _))))) (pss_cons (ps_asg (pe_ix (ixL (K := K)) (pe_ix (ixL (K := K)) (pv 0) pe_int (fun _ _ => rfl)) (pe_ix (ixL (K := K)) (pv 0) pe_int (fun _ _ => rfl)) (fun _ _ => rfl)) (pg_sub (pv 0) pe_int set_list))
      (pss_one (ps_asg (pe_op op_add (pe_ix (ixL (K := K)) (pv 0) pe_int (fun _ _ => rfl)) pe_int) (pg_sub (pv 0) pe_int set_list)))) (pss_one (ps_if (pt_cmpR op_eq (pe_ix (ixL (K := K)) (pv 0) pe_int (fun _ _ => rfl)) pe_int (nomark _)) (pss_one (ps_ret (pcall D_law_stirred hr (pa_cons (pv 0) (pa_cons (pv 1) pa_nil))))) pss_nil)))
      (pss_cons (ps_set (i := 2) sc_law_draw.nd rfl (.inl rfl) (pe_op op_mod (pe_ix (ixL (K := K)) (pv 0) pe_int (fun _ _ => rfl)) (pv 1)))
      (pss_cons (ps_asg (pe_op op_fdivW (pe_ix (ixL (K := K)) (pv 0) pe_int (fun _ _ => rfl)) (pv 1)) (pg_sub (pv 0) pe_int set_list))
      (pss_one (ps_ret (pv 2)))))), ?_⟩
    rw [show start ["bag", "many", "found"] [v0, v1] = [some v0, some v1, none] from rfl]
    obtain ⟨b, m, F, rfl, rfl, hw, hb, h0, h1, q⟩ := h
    obtain ⟨c, cells, i1, cur, st, n, e1, e2, e3, e4, e5, e6, e7, e8, e9, e10⟩ := hb.ex
    have e3' := sqL_same hw e3
    have gr := Gr.refl (M := [b]) hw
    walk_at "og"
    refine w_ite (fun hc => ?_) (fun hc => ?_)
    · walk_at "og"
      refine w_ite (fun hd => ?_) (fun hd => ?_)
      · obtain ⟨x, hx, ex⟩ := cell_at e6 hd
        have bx := e5 x hx
        walk_at "og"
        refine w_ixL _ _ e3' ex ?_
        walk_at "og"
        exact q _ F _ (((gr.put e1 (by simp)).put e1 (by simp)).put e1 (by simp)) ⟨c, cells, i1 + 1, x / m, st, n, e1, upd_same, e3, e4, e5, by omega, div_nn bx.1 h0, Int.lt_of_le_of_lt (div_le' bx.1 h0) bx.2, e9, e10⟩ (mod_nn h0) (mod_lt h0)
      · walk_at "og"
        refine w_iteT hc ?_
        walk_at "og"
        exact ⟨b, m, F, rfl, rfl, hw, hb, h0, h1, q⟩
    · walk_at "og"
      refine w_iteF hc ?_
      walk_at "og"
      exact q _ F _ (gr.put e1 (by simp)) ⟨c, cells, i1, cur / m, st, n, e1, upd_same, e3, e4, e5, e6, div_nn e7 h0, Int.lt_of_le_of_lt (div_le' e7 h0) e8, e9, e10⟩ (mod_nn h0) (mod_lt h0)
-- _law_alike
theorem ok_law_alike {f : Addr} {fd : FuncData} (F : FunD K "_law_alike" "_law_alike" (defArgs s_law_alike) (defBody s_law_alike) (defScope s_law_alike) [] [] f fd) (T : Txt K mg) {n : Nat} (D_law_alike : DO P w K mg base n "_law_alike" ["found", "due"] [] (S2 (φalike K n))) : FnOk P w K mg base CX0 (n + 1) f fd ["found", "due"] (S2 (φalike K (n + 1))) := by
  refine F.ok sc_law_alike (fun vs H Q E h => ?_) (fun cdv A outer s H vs Q E hr h => ?_)
  · exact S2.len h
  · match vs, h with
    | [v0, v1], h =>
    have hu := hu_of hr
    refine ⟨_, PSs.nox (pss_cons (ps_if (pt_val (pe_callB (clIsiT (K := K)) (by rfl) T.b_isinstance (by decide +kernel) (pa_cons (pv 1) (pa_cons (pe_tup (pa_cons (pe_bltn (v := .ty "list") (by rfl) T.b_list (by decide +kernel) rfl) (pa_cons (pe_bltn (v := .ty "tuple") (by rfl) T.b_tuple (by decide +kernel) rfl) pa_nil))) pa_nil)))) (pss_cons (ps_if (PW.pt (pw_or (pt_not (pt_val (pe_callB (clIsiT (K := K)) (by rfl) T.b_isinstance (by decide +kernel) (pa_cons (pv 0) (pa_cons (pe_tup (pa_cons (pe_bltn (v := .ty "list") (by rfl) T.b_list (by decide +kernel) rfl) (pa_cons (pe_bltn (v := .ty "tuple") (by rfl) T.b_tuple (by decide +kernel) rfl) pa_nil))) pa_nil))))) (pw_or1 (pt_cmpR op_ne (pe_callB (clIsi (K := K)) (by rfl) T.b_isinstance (by decide +kernel) (pa_cons (pv 0) (pa_cons (pe_bltn (v := .ty "list") (by rfl) T.b_list (by decide +kernel) rfl) pa_nil))) (pe_callB (clIsi (K := K)) (by rfl) T.b_isinstance (by decide +kernel) (pa_cons (pv 1) (pa_cons (pe_bltn (v := .ty "list") (by rfl) T.b_list (by decide +kernel) rfl) pa_nil))) (nomark _))))) (pss_one (ps_ret pe_bl)) pss_nil)
      (pss_cons (ps_if (pt_cmpR op_ne (pe_callB (clLenQ (K := K)) (by rfl) T.b_len (by decide +kernel) (pa_cons (pv 0) pa_nil)) (pe_callB (clLenQ (K := K)) (by rfl) T.b_len (by decide +kernel) (pa_cons (pv 1) pa_nil)) (nomark _)) (pss_one (ps_ret pe_bl)) pss_nil)
      (pss_one (ps_ret (pe_callB (clAll (K := K)) (by rfl) T.b_all (by decide +kernel) (pa_cons (pe_lc (own := [("k", 2)]) (g := gName 2) rfl sc_law_alike.nd (pi_range1 rfl T.b_range (pa_cons (pe_callB (clLenQ (K := K)) (by rfl) T.b_len (by decide +kernel) (pa_cons (pv 1) pa_nil)) pa_nil)) (blkOk_by (own := [("k", 2)]) (N := ["found", "due", "k"]) (sc := defScope s_law_alike) (by decide +kernel)) (fun _ _ _ _ _ => pg_name (i := 2) sc_law_alike.nd rfl (Or.inl rfl)) (fun _ _ _ _ _ => pts_nil) (fun _ _ _ _ _ => (pcall D_law_alike hr (pa_cons (pe_ix (ixQ (K := K)) (pv 0) (pv 2) (fun _ _ => rfl)) (pa_cons (pe_ix (ixQ (K := K)) (pv 1) (pv 2) (fun _ _ => rfl)) pa_nil))))) pa_nil)))))) pss_nil)
      (pss_cons (ps_if (PW.pt (pw_or (pt_cmpR op_ne (pe_callB (clIsi (K := K)) (by rfl) T.b_isinstance (by decide +kernel) (pa_cons (pv 0) (pa_cons (pe_bltn (v := .ty "bool") (by rfl) T.b_bool (by decide +kernel) rfl) pa_nil))) (pe_callB (clIsi (K := K)) (by rfl) T.b_isinstance (by decide +kernel) (pa_cons (pv 1) (pa_cons (pe_bltn (v := .ty "bool") (by rfl) T.b_bool (by decide +kernel) rfl) pa_nil))) (nomark _)) (pw_or1 (pt_cmpR op_ne (pe_callB (clIsi (K := K)) (by rfl) T.b_isinstance (by decide +kernel) (pa_cons (pv 0) (pa_cons (pe_bltn (v := .ty "int") (by rfl) T.b_int (by decide +kernel) rfl) pa_nil))) (pe_callB (clIsi (K := K)) (by rfl) T.b_isinstance (by decide +kernel) (pa_cons (pv 1) (pa_cons (pe_bltn (v := .ty "int") (by rfl) T.b_int (by decide +kernel) rfl) pa_nil))) (nomark _))))) (pss_one (ps_ret pe_bl)) pss_nil)
      (pss_one (ps_ret (pe_and (pe_cmpR op_eq (pe_callB (clIsi (K := K)) (by rfl) T.b_isinstance (by decide +kernel) (pa_cons (pv 0) (pa_cons (pe_bltn (v := .ty "str") (by rfl) T.b_str (by decide +kernel) rfl) pa_nil))) (pe_callB (clIsi (K := K)) (by rfl) T.b_isinstance (by decide +kernel) (pa_cons (pv 1) (pa_cons (pe_bltn (v := .ty "str") (by rfl) T.b_str (by decide +kernel) rfl) pa_nil))) (nomark _)) (pe_one (pe_cmpR op_eq (pv 0) (pv 1) (nomark _)))))))), ?_⟩
    rw [show start ["found", "due", "k"] [v0, v1] = [some v0, some v1, none] from rfl]
    obtain ⟨F, d, hw, hx, hy, hn, hgd, q⟩ := h
    walk_at "og"
    refine ⟨le1000 (by simp), fun p np => ?_⟩
    have g1 : Gr [] F H F (upd H p (.tup [.ty "list", .ty "tuple"])) := .new hw np
    walk_at "og"
    refine u_isiT hy g1.fh upd_same (k_list d) (k_tuple d) ?_
    walk_at "og"
    cases hs : isSeq d with
    | false =>
      have e1 : isLst d = false := by cases d <;> first | rfl | cases hs
      have e2 : isTup d = false := by cases d <;> first | rfl | cases hs
      refine w_is (c := false) (by rw [e1, e2]; rfl) ?_
      obtain ⟨rfl, hsc⟩ := sca_of hx hy hs
      walk_at "og"
      refine u_isi hx g1.fh (k_bool d) ?_
      walk_at "og"
      refine u_isi hy g1.fh (k_bool d) ?_
      walk_at "og"
      refine u_isi hx g1.fh (k_int d) ?_
      walk_at "og"
      refine u_isi hy g1.fh (k_int d) ?_
      walk_at "og"
      refine u_isi hx g1.fh (k_str d) ?_
      walk_at "og"
      refine u_isi hy g1.fh (k_str d) ?_
      walk_at "og"
      refine ⟨hsc, ?_⟩
      rw [decide_eq_true rfl]
      exact q F _ g1
    | true =>
      refine w_is (c := true) (by cases d <;> first | rfl | cases hs) ?_
      obtain ⟨a, vs, rfl, ha, das⟩ := seq_of hx hs
      obtain ⟨b, us, rfl, hb, dbs⟩ := seq_of hy hs
      have hl : (itemsD d).length ≤ 100000 := good_len hgd
      walk_at "og"
      refine ⟨le1000 (by simp), fun p2 np2 => ?_⟩
      have g2 := g1.addm (o := .tup [.ty "list", .ty "tuple"]) np2
      walk_at "og"
      refine u_isiT hx g2.fh upd_same (k_list d) (k_tuple d) ?_
      walk_at "og"
      refine w_is (c := false) (by cases d <;> first | rfl | cases hs) ?_
      walk_at "og"
      refine u_isi hx g2.fh (k_list d) ?_
      walk_at "og"
      refine u_isi hy g2.fh (k_list d) ?_
      walk_at "og"
      refine ⟨a, vs, rfl, sq_same g2.fh ha, ?_⟩
      walk_at "og"
      refine ⟨b, us, rfl, sq_same g2.fh hb, ?_⟩
      walk_at "og"
      have el : vs.length = us.length := (dpa_len das).trans (dpa_len dbs).symm
      have lv : vs.length = (itemsD d).length := dpa_len das
      rw [el]
      refine w_nself ?_
      walk_at "og"
      refine ⟨b, us, rfl, sq_same g2.fh hb, ?_⟩
      walk_at "og"
      refine ⟨_, rfl, by omega, by omega, fun D nD => ?_⟩
      have g3 := g2.addm (o := .lst []) nD
      refine lc_rng (fun i H' => ∃ F2, Gr [] F H F2 H' ∧ Mu F2 H' D (.lst ((List.replicate i true).map V.bl))) ⟨F, g3, Mu.new g2.fh nD⟩ (fun i H' hi hp => ?_) (fun H' hp => ?_)
      · obtain ⟨F2, g, mu⟩ := hp
        have hi' : i < us.length := by omega
        have hid : (itemsD d)[i]? = some (itemsD d)[i] := List.getElem?_eq_getElem (by omega)
        obtain ⟨v, gv, dv⟩ := dpa_get das hid
        obtain ⟨u, gu, du⟩ := dpa_get dbs hid
        have hdep := depth_item hs hid
        show gName 2 _ [some (.ref a), some (.ref b), none] H' _
        walk_at "og"
        refine ⟨rfl, ?_⟩
        walk_at "og"
        have wF : Same F H' := g.ff.trans g.fh
        refine w_ixQ _ _ (sq_same wF ha) (atI_nat gv) ?_
        walk_at "og"
        refine w_ixQ _ _ (sq_same wF hb) (atI_nat gu) ?_
        walk_at "og"
        refine ⟨F2, _, g.fh, dp_same g.ff _ _ dv, dp_same g.ff _ _ du, by omega, good_item hgd hid, fun F3 H3 g3 => ?_⟩
        have mu3 := g3.mu0 mu
        refine ⟨_, mu3.h, small_lt (by rw [List.length_map, List.length_replicate]; omega), F3, (g.trans g3).wrn mu3.n (g2.fresh nD), ?_⟩
        rw [List.replicate_succ', List.map_append]
        exact mu3.wr
      · obtain ⟨F2, g, mu⟩ := hp
        walk_at "og"
        refine ⟨D, _, rfl, mu.sq, ?_⟩
        rw [all_rep]
        exact q F2 H' g
-- _law_signs
theorem ok_law_signs {f : Addr} {fd : FuncData} (F : FunD K "_law_signs" "_law_signs" (defArgs s_law_signs) (defBody s_law_signs) (defScope s_law_signs) [] [] f fd) (T : Txt K mg)  : FnOk P w K mg base CX0 1 f fd [] (S0 φsigns) := by
  refine F.ok sc_law_signs (fun vs H Q E h => ?_) (fun cdv A outer s H vs Q E hr h => ?_)
  · exact S0.len h
  · match vs, h with
    | [], h =>
    have hu := hu_of hr
    refine ⟨_, PSs.nox (pss_cons (ps_set (i := 0) sc_law_signs.nd rfl (.inl rfl) pe_str)
      (pss_one (ps_ret (pe_op opAddS (pv 0) pe_str)))), ?_⟩
    rw [show start ["some"] [] = [none] from rfl]
    have q : Q (.str sig93) H := h
    walk_at "go"
    exact q
-- _law_text
theorem ok_law_text {f : Addr} {fd : FuncData} (F : FunD K "_law_text" "_law_text" (defArgs s_law_text) (defBody s_law_text) (defScope s_law_text) [] [] f fd) (T : Txt K mg) (D_law_draw : DO P w K mg base 2 "_law_draw" ["bag", "many"] [] (S2 (φdraw K))) (D_law_signs : DO P w K mg base 1 "_law_signs" [] [] (S0 φsigns)) : FnOk P w K mg base CX0 3 f fd ["bag", "size"] (S2 (φtextN K)) := by
  refine F.ok sc_law_text (fun vs H Q E h => ?_) (fun cdv A outer s H vs Q E hr h => ?_)
  · exact S2.len h
  · match vs, h with
    | [v0, v1], h =>
    have hu := hu_of hr
    refine ⟨_, PSs.nox (pss_cons (ps_set (i := 2) sc_law_text.nd rfl (.inr rfl) (pe_ix (ixL (K := K)) (pe_lst (pa_cons pe_int (pa_cons pe_int (pa_cons pe_int (pa_cons pe_int pa_nil))))) (pcall D_law_draw hr (pa_cons (pv 0) (pa_cons pe_int pa_nil))) (fun _ _ => rfl)))
      (pss_cons (ps_set (i := 3) sc_law_text.nd rfl (.inr rfl) (pcall D_law_draw hr (pa_cons (pv 0) (pa_cons pe_int pa_nil))))
      (pss_cons (ps_set (i := 4) sc_law_text.nd rfl (.inr rfl) (pcall0 D_law_signs hr))
      (pss_one (ps_ret (peJoin (K := K) pe_str (pe_lc (own := [("k", 5)]) (g := gName 5) rfl sc_law_text.nd (pi_range1 rfl T.b_range (pa_cons (pv 1) pa_nil)) (blkOk_by (own := [("k", 5)]) (N := ["bag", "size", "few", "first", "some", "k"]) (sc := defScope s_law_text) (by decide +kernel)) (fun _ _ _ _ _ => pg_name (i := 5) sc_law_text.nd rfl (Or.inl rfl)) (fun _ _ _ _ _ => pts_nil) (fun _ _ _ _ _ => (pe_ix ix_str (pv 4) (pe_op op_mod (pe_op op_add (pv 3) (pcall D_law_draw hr (pa_cons (pv 0) (pa_cons (pv 2) pa_nil)))) pe_int) (fun _ _ => rfl)))))))))), ?_⟩
    rw [show start ["bag", "size", "few", "first", "some", "k"] [v0, v1] = [some v0, some v1, none, none, none, none] from rfl]
    obtain ⟨F, b, n, rfl, rfl, s0, n0, n1, q⟩ := h
    have w := s0.w (M := [b])
    walk_at "go"
    refine n_lst w (szle (by simp)) fun p1 F1 H1 w hp1 => ?_
    walk_at "go"
    refine n_draw w (by walk_at "pick") (by decide) (by decide) fun r F1 H1 w r0 r1 => ?_
    obtain ⟨wd, ew, wd0, wd1⟩ := pick_ix (ns := [93, 93, 2, 3]) (lo := 2) (hi := 93) r0 r1 (by decide)
    walk_at "go"
    refine w_ixL _ _ (by walk_at "sq") ew ?_
    walk_at "go"
    refine n_draw w (by walk_at "pick") (by omega) (by omega) fun first F1 H1 w f0 f1 => ?_
    walk_at "go"
    refine n_signs ?_
    walk_at "go"
    refine n_lcR w (fun i ys L => ∃ zs : List Str, ys = zs.map V.str ∧ zs.length = i ∧ (∀ y ∈ zs, y.length = 1 ∧ okS y) ∧ L = [bag K b]) ⟨[], rfl, rfl, by simp, rfl⟩ (fun i ys L F' H' D hi hp w hD => ?_) (fun D ys L F' H' hp w hD => ?_)
    · obtain ⟨zs, rfl, hz, hy, rfl⟩ := hp
      walk_at "wp"
      walk_at "go"
      refine n_draw w (by walk_at "pick") (by omega) (by omega) fun r F1 H1 w r0 r1 => ?_
      walk_at "go"
      have m0 := mod_nn (a := first + r) (b := 93) (by decide)
      have m1 := mod_lt (a := first + r) (b := 93) (by decide)
      refine w_ixL1 (n := 93) sig_ok (by rw [sig_len]; rfl) (by rw [sig_len]; decide) m0 m1 fun s hs oks => ?_
      refine n_acc _ w ⟨zs ++ [s], by rw [List.map_append]; rfl, by simp [hz], ?_, rfl⟩ (by walk_at "pk") (small_lt (by rw [List.length_map]; omega))
      intro y hy'
      rcases List.mem_append.mp hy' with h | h
      · exact hy y h
      · rw [List.mem_singleton.mp h]
        exact ⟨hs, oks⟩
    · obtain ⟨zs, rfl, hz, hy, rfl⟩ := hp
      refine ⟨_, D, zs, rfl, rfl, .inl (by walk_at "sq"), ?_, ?_⟩
      · rw [sum_ones zs hy]
        show zs.length + zs.length * 0 ≤ 16777216
        omega
      · obtain ⟨j1, j2⟩ := joined zs hy
        exact q _ F' H' (by walk_at "w") (by
          show (((Txt.join ⟨#[]⟩ zs).length : Nat) : Int) = n
          rw [j1, hz]
          omega) j2
-- _law_row
theorem ok_law_row {f : Addr} {fd : FuncData} (F : FunD K "_law_row" "_law_row" (defArgs s_law_row) (defBody s_law_row) (defScope s_law_row) [] [] f fd) (T : Txt K mg) (D_law_draw : DO P w K mg base 2 "_law_draw" ["bag", "many"] [] (S2 (φdraw K))) (D_law_text : DO P w K mg base 3 "_law_text" ["bag", "size"] [] (S2 (φtextN K))) : FnOk P w K mg base CX0 4 f fd ["bag", "size", "left", "last"] (S4 (φrow1 K)) := by
  refine F.ok sc_law_row (fun vs H Q E h => ?_) (fun cdv A outer s H vs Q E hr h => ?_)
  · exact S4.len h
  · match vs, h with
    | [v0, v1, v2, v3], h =>
    have hu := hu_of hr
    refine ⟨_, PSs.nox (pss_cons (ps_set (i := 4) sc_law_row.nd rfl (.inl rfl) (pcall D_law_draw hr (pa_cons (pv 0) (pa_cons pe_int pa_nil))))
      (pss_cons (ps_set (i := 5) sc_law_row.nd rfl (.inl rfl) (pe_ix (ixL (K := K)) (pe_lst (pa_cons pe_int (pa_cons pe_int (pa_cons pe_int pa_nil)))) (pcall D_law_draw hr (pa_cons (pv 0) (pa_cons pe_int pa_nil))) (fun _ _ => rfl)))
      (pss_cons (ps_if (PW.pt (pw_or (pt_cmpR op_eq (pv 4) pe_int (nomark _)) (pw_or1 (pt_cmpR op_eq (pv 1) pe_int (nomark _))))) (pss_one (ps_ret (pe_tup (pa_cons pe_str (pa_cons (pcall D_law_text hr (pa_cons (pv 0) (pa_cons (pe_op op_add pe_int (pcall D_law_draw hr (pa_cons (pv 0) (pa_cons (pe_callB clMin2 (by rfl) T.b_min (by decide +kernel) (pa_cons (pv 2) (pa_cons (pv 5) pa_nil))) pa_nil)))) pa_nil))) pa_nil))))) pss_nil)
      (pss_cons (ps_set (i := 6) sc_law_row.nd rfl (.inl rfl) (pcall D_law_draw hr (pa_cons (pv 0) (pa_cons (pv 1) pa_nil))))
      (C8.pss_cut (ps_if (PW.pt (pw_and (pt_cmpR op_eq (pv 4) pe_int (nomark _)) (pw_and (pt_cmpR (opNeD (K := K) hr.units) (pv 3) (pe_lst pa_nil) (nomark _)) (pw_and (pt_cmpR op_eq (pe_ix (ixT (K := K)) (pe_ix (ixL (K := K)) (pv 3) pe_int (fun _ _ => rfl)) pe_int (fun _ _ => rfl)) pe_str (nomark _)) (pw_and1 (pt_cmpR op_lt (pe_op op_add (pe_ix (ixT (K := K)) (pe_ix (ixL (K := K)) (pv 3) pe_int (fun _ _ => rfl)) pe_int (fun _ _ => rfl)) (pe_ix (ixT (K := K)) (pe_ix (ixL (K := K)) (pv 3) pe_int (fun _ _ => rfl)) pe_int (fun _ _ => rfl))) (pv 1) (nomark _))))))) (pss_one (ps_set (i := 6) sc_law_row.nd rfl (.inl rfl) (pe_op op_add (pe_ix (ixT (K := K)) (pe_ix (ixL (K := K)) (pv 3) pe_int (fun _ _ => rfl)) pe_int (fun _ _ => rfl)) (pe_ix (ixT (K := K)) (pe_ix (ixL (K := K)) (pv 3) pe_int (fun _ _ => rfl)) pe_int (fun _ _ => rfl))))) pss_nil)
      (pss_one (ps_ret (pe_tup (pa_cons pe_str (pa_cons (pv 6) (pa_cons (pe_op op_add pe_int (pcall D_law_draw hr (pa_cons (pv 0) (pa_cons (pe_callB (call_min3Nu rfl) (by rfl) T.b_min (by decide +kernel) (pa_cons (pv 2) (pa_cons (pe_op op_sub (pv 1) (pv 6)) (pa_cons (pv 5) pa_nil)))) pa_nil)))) pa_nil))))))))))), ?_⟩
    rw [show start ["bag", "size", "left", "last", "way", "wide", "at"] [v0, v1, v2, v3] = [some v0, some v1, some v2, some v3, none, none, none] from rfl]
    obtain ⟨F, b, l, n, left, zs, rfl, rfl, rfl, rfl, s0, hS, hz, hn, l0, l1, q⟩ := h
    have w := (s0.w (M := [b])).push (imL K l zs) hS
    walk_at "go"
    refine n_draw w (by walk_at "pick") (by decide) (by decide) fun way F1 H1 w wy0 wy1 => ?_
    walk_at "go"
    refine n_lst w (szle (by simp)) fun p1 F1 H1 w hp1 => ?_
    walk_at "go"
    refine n_draw w (by walk_at "pick") (by decide) (by decide) fun r F1 H1 w r0 r1 => ?_
    obtain ⟨wd, ew, wd0, wd1⟩ := pick_ix (ns := [3, 9, 400]) (lo := 3) (hi := 400) r0 r1 (by decide)
    walk_at "go"
    refine w_ixL _ _ (by walk_at "sq") ew ?_
    walk_at "go"
    refine w_ite (fun h1 => ?_) (fun h1 => ?_)
    · skip
      walk_at "go"
      obtain ⟨m1, em1⟩ : ∃ m1 : Int, m1 = (if wd < left then wd else left) := ⟨_, rfl⟩
      rw [← em1]
      have hm1 : 1 ≤ m1 ∧ m1 ≤ left := by split at em1 <;> omega
      refine n_draw w (by walk_at "pick") (by omega) (by omega) fun k F1 H1 w k0 k1 => ?_
      walk_at "go"
      refine ⟨_, b, 1 + k, rfl, rfl, w.st (by walk_at "pick"), by omega, by omega, fun s F2 H2 w2 hs oks => ?_⟩
      replace w := w.calB (by walk_at "pick") w2 (by walk_at "app")
      walk_at "go"
      refine n_tup w (szle (by simp)) fun t F3 H3 w => ?_
      have d2 : F3 t = some (.tup [.str "put", .str s]) := w.i (fx t _) (by walk_at "mem")
      have d3 := dp_cput' (sqT_of (K := K) d2)
      exact q _ (.put s) F3 H3 ((w.push (dat K _ _) d3).to (by walk_at "pick")) ⟨⟨oks, by omega⟩, by show 1 ≤ s.length; omega, Nat.zero_le _⟩ (by show (s.length : Int) ≤ left; omega)
    · walk_at "go"
      refine w_ite (fun h2 => ?_) (fun h2 => ?_)
      · skip
        walk_at "go"
        obtain ⟨m1, em1⟩ : ∃ m1 : Int, m1 = (if wd < left then wd else left) := ⟨_, rfl⟩
        rw [← em1]
        have hm1 : 1 ≤ m1 ∧ m1 ≤ left := by split at em1 <;> omega
        refine n_draw w (by walk_at "pick") (by omega) (by omega) fun k F1 H1 w k0 k1 => ?_
        walk_at "go"
        refine ⟨_, b, 1 + k, rfl, rfl, w.st (by walk_at "pick"), by omega, by omega, fun s F2 H2 w2 hs oks => ?_⟩
        replace w := w.calB (by walk_at "pick") w2 (by walk_at "app")
        walk_at "go"
        refine n_tup w (szle (by simp)) fun t F3 H3 w => ?_
        have d2 : F3 t = some (.tup [.str "put", .str s]) := w.i (fx t _) (by walk_at "mem")
        have d3 := dp_cput' (sqT_of (K := K) d2)
        exact q _ (.put s) F3 H3 ((w.push (dat K _ _) d3).to (by walk_at "pick")) ⟨⟨oks, by omega⟩, by show 1 ≤ s.length; omega, Nat.zero_le _⟩ (by show (s.length : Int) ≤ left; omega)
      · walk_at "go"
        refine n_draw w (by walk_at "pick") (by omega) (by omega) fun a' F1 H1 w a0 a1 => ?_
        obtain ⟨an, rfl⟩ : ∃ an : Nat, a' = (an : Int) := ⟨a'.toNat, by omega⟩
        walk_at "go"
        refine n_cut (w.to (D := [imL K l zs, bag K b]) (by walk_at "pick")) (fun σ L => ∃ (a : Nat), σ = [some (.ref b), some (.int (n : Nat)), some (.int left), some (.ref l), some (.int way), some (.int wd), some (.int (a : Nat))] ∧ a < n ∧ L = [imL K l zs, bag K b]) ?_ (fun σ L F' H' hp w => ?_)
        · have fin : ∀ {F1 H1 L}, W [b] F H F1 H1 L → Pk L [imL K l zs, bag K b] → Nx [b] F H (fun σ L => ∃ (a : Nat), σ = [some (.ref b), some (.int (n : Nat)), some (.int left), some (.ref l), some (.int way), some (.int wd), some (.int (a : Nat))] ∧ a < n ∧ L = [imL K l zs, bag K b]) [some (.ref b), some (.int (n : Nat)), some (.int left), some (.ref l), some (.int way), some (.int wd), some (.int (an : Nat))] H1 := fun w k => nx_mk w ⟨an, rfl, by omega, rfl⟩ k
          walk_at "go"
          refine w_ite (fun h3 => ?_) (fun h3 => ?_)
          · walk_at "go"
            refine n_lst w (szle (by simp)) fun p2 F2 H2 w hp2 => ?_
            walk_at "go"
            rcases hz with rfl | ⟨v, rw_, rfl, dr, ro⟩
            · refine u_neD (Same.refl _) (d := .list []) (.lst (by walk_at "sq") .nil) (.lst (by walk_at "sq") .nil) rfl (by decide) ?_
              walk_at "go"
              exact fin w (by walk_at "pk")
            · have d1 : Dp K H2 v rw_.d := dp_same w.ws _ _ dr
              refine ⟨.list [rw_.d], .list [], .lst (by walk_at "sq") (.cons d1 .nil), .lst (by walk_at "sq") .nil, ?_, good_shaped rfl (by decide), ?_⟩
              · have g := crow_good ro.s
                exact good_shaped (good_list (by simp) fun d hd => by rw [List.mem_singleton.mp hd]; exact g.1) (Nat.le_trans (depth_list (n := 1) fun d hd => by rw [List.mem_singleton.mp hd]; exact g.2) (by decide))
              rw [show PyData.eqv (.list [rw_.d]) (.list []) = false from rfl]
              walk_at "go"
              cases rw_ with
              | put s =>
                obtain ⟨pm, rfl, hT⟩ := dp_cput dr
                have hT := sqT_same (K := K) w.ws hT
                walk_at "go"
                exact fin w (by walk_at "pk")
              | copy a k =>
                obtain ⟨pm, rfl, hT⟩ := dp_ccopy dr
                have hT := sqT_same (K := K) w.ws hT
                walk_at "go"
                refine w_ite (fun h4 => ?_) (fun h4 => ?_)
                · walk_at "go"
                  exact nx_mk w ⟨a + k, rfl, by omega, rfl⟩ (by walk_at "pk")
                · walk_at "go"
                  exact fin w (by walk_at "pk")
          · walk_at "go"
            exact fin w (by walk_at "pk")
        obtain ⟨a, rfl, ha, rfl⟩ := hp
        walk_at "go"
        obtain ⟨m1, em1⟩ : ∃ m1 : Int, m1 = min (min left ((n : Int) - (a : Nat))) wd := ⟨_, rfl⟩
        rw [← em1]
        refine n_draw w (by walk_at "pick") (by omega) (by omega) fun k' F1 H1 w k0 k1 => ?_
        obtain ⟨k, ek⟩ : ∃ k : Nat, (k : Int) = 1 + k' := ⟨(1 + k').toNat, by omega⟩
        walk_at "go"
        rw [← ek]
        refine n_tup w (szle (by simp)) fun t F2 H2 w => ?_
        have d2 : F2 t = some (.tup [.str "copy", .int (a : Nat), .int (k : Nat)]) := w.i (fx t _) (by walk_at "mem")
        have d3 := dp_ccopy' (sqT_of (K := K) d2)
        exact q _ (.copy a k) F2 H2 ((w.push (dat K _ _) d3).to (by walk_at "pick")) ⟨trivial, by show 1 ≤ k; omega, by show a + k ≤ n; omega⟩ (by show (k : Int) ≤ left; omega)
-- _law_rows
theorem ok_law_rows {f : Addr} {fd : FuncData} (F : FunD K "_law_rows" "_law_rows" (defArgs s_law_rows) (defBody s_law_rows) (defScope s_law_rows) [] [] f fd) (T : Txt K mg) (D_law_draw : DO P w K mg base 2 "_law_draw" ["bag", "many"] [] (S2 (φdraw K))) (D_law_row : DO P w K mg base 4 "_law_row" ["bag", "size", "left", "last"] [] (S4 (φrow1 K))) : FnOk P w K mg base CX0 5 f fd ["bag", "size", "many", "most"] (S4 (φrows1 K)) := by
  refine F.ok sc_law_rows (fun vs H Q E h => ?_) (fun cdv A outer s H vs Q E hr h => ?_)
  · exact S4.len h
  · match vs, h with
    | [v0, v1, v2, v3], h =>
    have hu := hu_of hr
    refine ⟨_, PSs.nox (pss_cons (ps_set (i := 4) sc_law_rows.nd rfl (.inl rfl) (pe_lst pa_nil))
      (pss_cons (ps_set (i := 5) sc_law_rows.nd rfl (.inl rfl) (pv 3))
      (pss_cons (ps_set (i := 6) sc_law_rows.nd rfl (.inl rfl) (pe_ix (ixL (K := K)) (pe_lst (pa_cons pe_int (pa_cons pe_int (pa_cons pe_int (pa_cons pe_int pa_nil))))) (pe_op op_mul (pcall D_law_draw hr (pa_cons (pv 0) (pa_cons pe_int pa_nil))) (pe_callTy clInt1 (by rfl) T.b_int (by decide +kernel) (pa_cons (pe_cmpR op_gt (pv 2) pe_int (nomark _)) pa_nil))) (fun _ _ => rfl)))
      (pss_cons (ps_for PassesOwn.never rfl (pi_range1 rfl T.b_range (pa_cons (pv 2) pa_nil)) (pg_name (i := 7) sc_law_rows.nd rfl (.inl rfl)) (pss_one (ps_if (pt_cmpR op_gt (pv 5) pe_int (nomark _)) (pss_cons (ps_expr (peBM (K := K) PySem.F.plainAttrs_list PySem.F.slot_list_append PySem.F.type_list_append mt_append (pv 4) (pa_cons (pcall D_law_row hr (pa_cons (pv 0) (pa_cons (pv 1) (pa_cons (pe_callB clMin2 (by rfl) T.b_min (by decide +kernel) (pa_cons (pv 5) (pa_cons (pv 6) pa_nil))) (pa_cons (pe_slice (slL (K := K)) (pv 4) (po_some (pe_un un_neg pe_int)) po_none) pa_nil))))) pa_nil)))
      (pss_one (ps_set (i := 5) sc_law_rows.nd rfl (.inl rfl) (pe_op op_sub (pv 5) (pe_ifExp (pt_cmpR op_eq (pe_ix (ixT (K := K)) (pe_ix (ixL (K := K)) (pv 4) (pe_un un_neg pe_int) (fun _ _ => rfl)) pe_int (fun _ _ => rfl)) pe_str (nomark _)) (pe_callB clLenS (by rfl) T.b_len (by decide +kernel) (pa_cons (pe_ix (ixT (K := K)) (pe_ix (ixL (K := K)) (pv 4) (pe_un un_neg pe_int) (fun _ _ => rfl)) pe_int (fun _ _ => rfl)) pa_nil)) (pe_ix (ixT (K := K)) (pe_ix (ixL (K := K)) (pv 4) (pe_un un_neg pe_int) (fun _ _ => rfl)) pe_int (fun _ _ => rfl))))))) pss_nil)))
      (pss_one (ps_ret (pv 4))))))), ?_⟩
    rw [show start ["bag", "size", "many", "most", "rows", "left", "cap", "k"] [v0, v1, v2, v3] = [some v0, some v1, some v2, some v3, none, none, none, none] from rfl]
    obtain ⟨F, b, n, many, most, rfl, rfl, rfl, rfl, s0, hn, y0, y1, m0, m1, q⟩ := h
    have w := s0.w (M := [b])
    walk_at "go"
    refine n_lst w (szle (by simp)) fun f F1 H1 w hf => ?_
    walk_at "go"
    refine n_lst w (szle (by simp)) fun p1 F1 H1 w hp1 => ?_
    walk_at "go"
    refine n_draw w (by walk_at "pick") (by decide) (by decide) fun r F1 H1 w r0 r1 => ?_
    obtain ⟨e, he, e0, e1⟩ : ∃ e : Int, e = (if decide (20 < many) = true then 1 else 0) ∧ 0 ≤ e ∧ e ≤ 1 := ⟨_, rfl, by split <;> omega, by split <;> omega⟩
    walk_at "go"
    rw [← he]
    have hre : 0 ≤ r * e ∧ r * e < 4 := by
      rcases (show e = 0 ∨ e = 1 by omega) with rfl | rfl
      · rw [Int.mul_zero]; omega
      · rw [Int.mul_one]; omega
    walk_at "go"
    obtain ⟨cp, ec, cp0, cp1⟩ := pick_ix (ns := [400, 400, 1, 2]) (i := r * e) (lo := 1) (hi := 400) hre.1 (by show r * e < 4; exact hre.2) (by decide)
    refine w_ixL _ _ (by walk_at "sq") ec ?_
    replace w := w.push (dpa K [] (([] : List CRow).map CRow.d)) .nil
    walk_at "go"
    refine n_forR w (fun i σ L => ∃ (rows : List CRow) (ys : List V) (y7 : Option V), σ = [some (.ref b), some (.int (n : Nat)), some (.int many), some (.int most), some (.ref f), some (.int (most - ((givesL rows : Nat) : Int))), some (.int cp), y7] ∧ (∀ r ∈ rows, CRowOk n r) ∧ (givesL rows : Int) ≤ most ∧ ys.length = rows.length ∧
      L = [mu f (.lst ys), dpa K ys (rows.map CRow.d), bag K b]) ⟨[], [], none, by show _ = [_, _, _, _, _, some (V.int (most - ((0 : Nat) : Int))), _, _]; rw [show most - ((0 : Nat) : Int) = most by omega], by simp, by show ((0 : Nat) : Int) ≤ most; omega, rfl, rfl⟩ (fun i σ L F' H' hi hp w => ?_) (fun σ L F' H' hp w => ?_)
    · obtain ⟨rows, ys, y7, rfl, hok, hg, hyl, rfl⟩ := hp
      have hrl := rows_len (rows := rows) (fun r hr => (hok r hr).p)
      walk_at "go"
      refine w_ite (fun hpos => ?_) (fun hpos => ?_)
      · walk_at "go"
        obtain ⟨m2, em2⟩ : ∃ m2 : Int, m2 = (if cp < most - ((givesL rows : Nat) : Int) then cp else most - ((givesL rows : Nat) : Int)) := ⟨_, rfl⟩
        rw [← em2]
        have hm2 : 1 ≤ m2 ∧ m2 ≤ 400 ∧ m2 ≤ most - ((givesL rows : Nat) : Int) := by split at em2 <;> omega
        clear em2
        have d0 : DpAll K F' ys (rows.map CRow.d) := w.dpa (by walk_at "mem")
        refine n_slL w (by walk_at "sq") fun pl F1 H1 w hpl => ?_
        obtain ⟨F2, w⟩ := w.fzL (p := pl) (by walk_at "pick") hpl
        have d1 : DpAll K F2 ys (rows.map CRow.d) := w.dpa (by walk_at "mem")
        walk_at "go"
        refine ⟨F2, b, pl, n, m2, _, rfl, rfl, rfl, rfl, w.st (by walk_at "pick"), sqL_of (w.i (fx pl _) (by walk_at "mem")), ?_, hn, hm2.1, hm2.2.1, fun v r F3 H3 w3 ro hgl => ?_⟩
        · rcases List.eq_nil_or_concat ys with rfl | ⟨us, u, rfl⟩
          · exact .inl (by rw [cut_last]; rfl)
          · refine .inr ⟨u, ?_⟩
            rw [List.concat_eq_append] at d1 hyl ⊢
            rw [cut_last_snoc]
            obtain ⟨r, hr, dr⟩ := dpa_at (i := us.length) (y := u) d1 (by rw [List.getElem?_append_right (Nat.le_refl _), Nat.sub_self]; rfl)
            exact ⟨r, rfl, dr, hok r (List.mem_of_getElem? hr)⟩
        replace w := w.calB (by walk_at "pick") w3 (by walk_at "app")
        walk_at "go"
        refine n_app w (by walk_at "pick") (small_lt (by omega)) fun H4 w => ?_
        walk_at "go"
        have d1 : DpAll K F3 ys (rows.map CRow.d) := w.dpa (by walk_at "mem")
        have d2 : Dp K F3 v r.d := w.dat (by walk_at "mem")
        have d3 := dpa_snoc d1 d2
        rw [show rows.map CRow.d ++ [r.d] = (rows ++ [r]).map CRow.d by rw [List.map_append]; rfl] at d3
        replace w := w.push (dpa K _ _) d3
        have fin : ∀ {g : Int} {H5}, g = (r.gives : Int) → W [b] F H F3 H5 [dpa K (ys ++ [v]) ((rows ++ [r]).map CRow.d), mu f (.lst (ys ++ [v])), bag K b] → Nx [b] F H (fun σ L => ∃ (rows : List CRow) (ys : List V) (y7 : Option V), σ = [some (.ref b), some (.int (n : Nat)), some (.int many), some (.int most), some (.ref f), some (.int (most - ((givesL rows : Nat) : Int))), some (.int cp), y7] ∧ (∀ r ∈ rows, CRowOk n r) ∧ (givesL rows : Int) ≤ most ∧ ys.length = rows.length ∧
            L = [mu f (.lst ys), dpa K ys (rows.map CRow.d), bag K b]) [some (.ref b), some (.int (n : Nat)), some (.int many), some (.int most), some (.ref f), some (.int (most - ((givesL rows : Nat) : Int) - g)), some (.int cp), some (.int (i : Nat))] H5 := by
          intro g H5 hgi w
          have e2 : most - ((givesL rows : Nat) : Int) - g = most - ((givesL (rows ++ [r]) : Nat) : Int) := by rw [gives_snoc, hgi]; omega
          rw [e2]
          exact nx_mk w ⟨rows ++ [r], ys ++ [v], _, rfl, crows_snoc hok ro, by rw [gives_snoc]; omega, by rw [List.length_append, List.length_append, hyl]; rfl, rfl⟩ (by walk_at "pk")
        cases r with
        | put s =>
          obtain ⟨pm, rfl, hT⟩ := dp_cput d2
          have hT := sqT_same (K := K) w.fh hT
          have hsl := ro.s.2
          refine w_ixL _ _ (by walk_at "sq") (atI_last _ _) ?_
          walk_at "go"
          refine w_ixL _ _ (by walk_at "sq") (atI_last _ _) ?_
          walk_at "go"
          exact fin rfl (by walk_at "w")
        | copy a k =>
          obtain ⟨pm, rfl, hT⟩ := dp_ccopy d2
          have hT := sqT_same (K := K) w.fh hT
          refine w_ixL _ _ (by walk_at "sq") (atI_last _ _) ?_
          walk_at "go"
          refine w_ixL _ _ (by walk_at "sq") (atI_last _ _) ?_
          walk_at "go"
          exact fin rfl (by walk_at "w")
      · walk_at "go"
        exact nx_mk w ⟨rows, ys, _, rfl, hok, hg, hyl, rfl⟩ (by walk_at "pk")
    · obtain ⟨rows, ys, y7, rfl, hok, hg, hyl, rfl⟩ := hp
      walk_at "go"
      exact q f ys rows F' H' hf (by walk_at "w") ⟨hok, by omega⟩ hg
-- _law_cells
theorem ok_law_cells {f : Addr} {fd : FuncData} (F : FunD K "_law_cells" "_law_cells" (defArgs s_law_cells) (defBody s_law_cells) (defScope s_law_cells) [] [] f fd) (T : Txt K mg)  : FnOk P w K mg base CX0 1 f fd ["rows"] (S1 (φlcells K)) := by
  refine F.ok sc_law_cells (fun vs H Q E h => ?_) (fun cdv A outer s H vs Q E hr h => ?_)
  · exact S1.len h
  · match vs, h with
    | [v0], h =>
    have hu := hu_of hr
    refine ⟨_, PSs.nox (pss_cons (ps_set (i := 1) sc_law_cells.nd rfl (.inl rfl) (pe_lst pa_nil))
      (pss_cons (ps_for PassesOwn.never rfl (pi_list (pv 0)) (pg_name (i := 2) sc_law_cells.nd rfl (.inr rfl)) (pss_one (ps_if (pt_cmpR op_eq (pe_ix (ixT (K := K)) (pv 2) pe_int (fun _ _ => rfl)) pe_str (nomark _)) (pss_one (ps_set (i := 1) sc_law_cells.nd rfl (.inl rfl) (pe_op op_cat (pv 1) (pe_callTy clListS (by rfl) T.b_list (by decide +kernel) (pa_cons (pe_ix (ixT (K := K)) (pv 2) pe_int (fun _ _ => rfl)) pa_nil))))) (pss_one (ps_set (i := 1) sc_law_cells.nd rfl (.inl rfl) (pe_op op_cat (pv 1) (pe_lc (own := [("k", 3)]) (g := gName 3) rfl sc_law_cells.nd (pi_range1 rfl T.b_range (pa_cons (pe_ix (ixT (K := K)) (pv 2) pe_int (fun _ _ => rfl)) pa_nil)) (blkOk_by (own := [("k", 3)]) (N := ["rows", "found", "row", "k"]) (sc := defScope s_law_cells) (by decide +kernel)) (fun _ _ _ _ _ => pg_name (i := 3) sc_law_cells.nd rfl (Or.inl rfl)) (fun _ _ _ _ _ => pts_nil) (fun _ _ _ _ _ => (pe_op op_add (pe_ix (ixT (K := K)) (pv 2) pe_int (fun _ _ => rfl)) (pv 3))))))))))
      (pss_one (ps_ret (pv 1))))), ?_⟩
    rw [show start ["rows", "found", "row", "k"] [v0] = [some v0, none, none, none] from rfl]
    obtain ⟨F, a, vs, n, rows, rfl, hw, hS, hD, hok, q⟩ := h
    have w := W.start (M := []) hw
    have hrl := hok.len
    walk_at "go"
    refine n_lst w (szle (by simp)) fun f F1 H1 w hf => ?_
    walk_at "go"
    refine n_forL vs w (fun i σ L => ∃ f y2 y3, H f = none ∧ σ = [some (.ref a), some (.ref f), y2, y3] ∧ L = [mu f (.lst (cellsV (rows.take i)))]) ⟨f, none, none, hf, rfl, rfl⟩ (fun i σ L F' H' hp w => ?_) (fun i x σ L F' H' hx hp w => ?_) (fun σ L F' H' hp w => ?_)
    · obtain ⟨f, y2, y3, hf, rfl, rfl⟩ := hp
      walk_at "sq"
    · obtain ⟨f, y2, y3, hf, rfl, rfl⟩ := hp
      obtain ⟨m, hm, dm⟩ := dpa_at hD hx
      have mo := hok.ok m (List.mem_of_getElem? hm)
      have e1 : cellsV (rows.take (i + 1)) = cellsV (rows.take i) ++ m.cellV := by
        unfold cellsV
        rw [List.take_add_one, hm, List.flatMap_append]
        simp
      have l1 := cells_len (rows.take i)
      have l2 := gives_le rows i
      have l3 := hok.sum
      cases m with
      | put s =>
        obtain ⟨pm, rfl, hT⟩ := dp_cput dm
        have hT := sqT_same (K := K) w.ws hT
        have hsl := mo.s.2
        walk_at "go"
        refine n_listS w (szle (by omega)) fun p2 F2 H2 w hp2 => ?_
        walk_at "go"
        refine n_cat w (by walk_at "at") (by walk_at "at") (szle (by rw [chars_len]; omega)) fun p3 F3 H3 w hp3 => ?_
        walk_at "go"
        rw [show cellsV (rows.take i) ++ chars s = cellsV (rows.take (i + 1)) from e1.symm] at w
        exact nx_mk w ⟨p3, _, _, hp3, rfl, rfl⟩ (by walk_at "pk")
      | copy b k =>
        obtain ⟨pm, rfl, hT0⟩ := dp_ccopy dm
        have hT := hT0
        have hT := sqT_same (K := K) w.ws hT
        have hk2 := gives_take hm
        have hk3 := gives_le rows (i + 1)
        replace hk2 : givesL (rows.take (i + 1)) = givesL (rows.take i) + k := hk2
        walk_at "go"
        refine n_lcR w (fun j ys L => ys = (List.range j).map (fun t => V.int ((b + t : Nat) : Int)) ∧ L = [mu f (.lst (cellsV (rows.take i)))]) ⟨rfl, rfl⟩ (fun j ys L F' H' D hj hp w hD => ?_) (fun D ys L F' H' hp w hD => ?_)
        · obtain ⟨rfl, rfl⟩ := hp
          have hT := sqT_same (K := K) w.ws hT0
          walk_at "wp"
          walk_at "go"
          refine n_acc _ w ⟨?_, rfl⟩ (by walk_at "pk") (small_lt (by rw [List.length_map, List.length_range]; omega))
          rw [List.range_succ, List.map_append]
          rfl
        obtain ⟨rfl, rfl⟩ := hp
        walk_at "go"
        refine n_cat w (by walk_at "at") (by walk_at "at") (szle (by rw [List.length_map, List.length_range]; omega)) fun p3 F3 H3 w hp3 => ?_
        walk_at "go"
        rw [show cellsV (rows.take i) ++ (List.range ((k : Nat) : Int).toNat).map (fun t => V.int ((b + t : Nat) : Int)) = cellsV (rows.take (i + 1)) by rw [e1]; rfl] at w
        exact nx_mk w ⟨p3, _, _, hp3, rfl, rfl⟩ (by walk_at "pk")
    · obtain ⟨f, y2, y3, hf, rfl, rfl⟩ := hp
      rw [List.take_of_length_le (by rw [dpa_len hD, List.length_map]; exact Nat.le_refl _)] at w
      walk_at "go"
      exact q f F' H' hf (by walk_at "w")
-- _law_done
theorem ok_law_done {f : Addr} {fd : FuncData} (F : FunD K "_law_done" "_law_done" (defArgs s_law_done) (defBody s_law_done) (defScope s_law_done) [] [] f fd) (T : Txt K mg)  : FnOk P w K mg base CX0 1 f fd ["cells", "old"] (S2 (φldone K)) := by
  refine F.ok sc_law_done (fun vs H Q E h => ?_) (fun cdv A outer s H vs Q E hr h => ?_)
  · exact S2.len h
  · match vs, h with
    | [v0, v1], h =>
    have hu := hu_of hr
    refine ⟨_, PSs.nox (pss_one (ps_ret (peJoin (K := K) pe_str (pe_lc (own := [("cell", 2)]) (g := gName 2) rfl sc_law_done.nd (pi_list (pv 0)) (blkOk_by (own := [("cell", 2)]) (N := ["cells", "old", "cell"]) (sc := defScope s_law_done) (by decide +kernel)) (fun _ _ _ _ _ => pg_name (i := 2) sc_law_done.nd rfl (Or.inl rfl)) (fun _ _ _ _ _ => pts_nil) (fun _ _ _ _ _ => (pe_ifExp (pt_val (pe_callB (clIsi (K := K)) (by rfl) T.b_isinstance (by decide +kernel) (pa_cons (pv 2) (pa_cons (pe_bltn (v := .ty "int") (by rfl) T.b_int (by decide +kernel) rfl) pa_nil)))) (pe_ix ix_str (pv 1) (pv 2) (fun _ _ => rfl)) (pv 2))))))), ?_⟩
    rw [show start ["cells", "old", "cell"] [v0, v1] = [some v0, some v1, none] from rfl]
    obtain ⟨F, a, cs, o, rfl, rfl, hw, hS, hcs, hcl, oko, ho, q⟩ := h
    have w := W.start (M := []) hw
    walk_at "go"
    
    refine n_lcL (cs) w (fun i ys L => ys = ((cs).take i).map (fun v => V.str (outS o v)) ∧ L = []) ⟨rfl, rfl⟩ (fun i ys L F' H' D hp w => ?_) (fun i x ys L F' H' D hx hp w hDn => ?_) (fun D ys L F' H' hp w hDn => ?_)
    · obtain ⟨rfl, rfl⟩ := hp
      walk_at "sq"
    · obtain ⟨rfl, rfl⟩ := hp
      have hi := (List.getElem?_eq_some_iff.mp hx).1
      have e1 : ((cs).take (i + 1)).map (fun v => V.str (outS o v)) = ((cs).take i).map (fun v => V.str (outS o v)) ++ [V.str (outS o x)] := by
        rw [List.take_add_one, hx, List.map_append]
        rfl
      have hl : (((cs).take i).map (fun v => V.str (outS o v))).length ≤ 1000 := by
        rw [List.length_map, List.length_take]
        omega
      walk_at "wp"
      walk_at "go"
      rcases hcs x (List.mem_of_getElem? hx) with ⟨k, rfl, hk⟩ | ⟨c, rfl, hc⟩
      · refine u_isi (F := F') (d := .int (k : Nat)) (.int _) w.fh (k_int _) ?_
        walk_at "go"
        refine w_is (c := true) rfl ?_
        walk_at "go"
        refine w_ixS (szle (by omega)) (sign_get hk) ?_
        exact n_acc _ w ⟨e1.symm, rfl⟩ (by walk_at "pk") (small_lt (by omega))
      · refine u_isi (F := F') (d := .str ⟨#[c]⟩) (.str _) w.fh (k_int _) ?_
        walk_at "go"
        refine w_is (c := false) rfl ?_
        walk_at "go"
        exact n_acc _ w ⟨e1.symm, rfl⟩ (by walk_at "pk") (small_lt (by omega))
    · obtain ⟨rfl, rfl⟩ := hp
      rw [List.take_of_length_le (Nat.le_refl _)] at w
      obtain ⟨zs, ezs⟩ : ∃ zs, zs = (cs).map (outS o) := ⟨_, rfl⟩
      have hzs : ∀ z ∈ zs, z.length = 1 ∧ okS z := fun z hz => by
        rw [ezs] at hz
        obtain ⟨v, hv, rfl⟩ := List.mem_map.mp hz
        exact outS_ok rfl oko (hcs v hv)
      rw [show (cs).map (fun v => V.str (outS o v)) = zs.map V.str by rw [ezs, List.map_map]; rfl] at w
      refine ⟨_, D, zs, rfl, rfl, .inl (by walk_at "sq"), ?_, ?_⟩
      · rw [sum_ones zs hzs]
        have : zs.length = (cs).length := by rw [ezs, List.length_map]
        show zs.length + zs.length * 0 ≤ 16777216
        omega
      · refine q _ F' H' (by walk_at "w") ?_ (joined zs hzs).2
        show cd (Txt.join ⟨#[]⟩ zs) = _
        rw [join_cd, ezs]
-- _law_plain
theorem ok_law_plain {f : Addr} {fd : FuncData} (F : FunD K "_law_plain" "_law_plain" (defArgs s_law_plain) (defBody s_law_plain) (defScope s_law_plain) [] [] f fd) (T : Txt K mg)  : FnOk P w K mg base CX0 1 f fd ["cells"] (S1 (φlplain K)) := by
  refine F.ok sc_law_plain (fun vs H Q E h => ?_) (fun cdv A outer s H vs Q E hr h => ?_)
  · exact S1.len h
  · match vs, h with
    | [v0], h =>
    have hu := hu_of hr
    refine ⟨_, PSs.nox (pss_cons (ps_set (i := 1) sc_law_plain.nd rfl (.inl rfl) (pe_lst pa_nil))
      (pss_cons (ps_for PassesOwn.never rfl (pi_range1 rfl T.b_range (pa_cons (pe_callB (clLenQ (K := K)) (by rfl) T.b_len (by decide +kernel) (pa_cons (pv 0) pa_nil)) pa_nil)) (pg_name (i := 2) sc_law_plain.nd rfl (.inl rfl)) (pss_cons (ps_set (i := 3) sc_law_plain.nd rfl (.inl rfl) (pe_ix (ixL (K := K)) (pv 0) (pv 2) (fun _ _ => rfl)))
      (pss_cons (ps_set (i := 4) sc_law_plain.nd rfl (.inl rfl) (pe_ifExp (pt_cmpR op_gt (pv 2) pe_int (nomark _)) (pe_ix (ixL (K := K)) (pv 0) (pe_op op_sub (pv 2) pe_int) (fun _ _ => rfl)) pe_non))
      (pss_one (ps_if (PW.pt (pw_and (pt_val (pe_callB (clIsi (K := K)) (by rfl) T.b_isinstance (by decide +kernel) (pa_cons (pv 3) (pa_cons (pe_bltn (v := .ty "int") (by rfl) T.b_int (by decide +kernel) rfl) pa_nil)))) (pw_and (pt_val (pe_callB (clIsi (K := K)) (by rfl) T.b_isinstance (by decide +kernel) (pa_cons (pv 4) (pa_cons (pe_bltn (v := .ty "int") (by rfl) T.b_int (by decide +kernel) rfl) pa_nil)))) (pw_and1 (pt_cmpR op_eq (pv 3) (pe_op op_add (pv 4) pe_int) (nomark _)))))) (pss_one (ps_asg (pe_tup (pa_cons pe_str (pa_cons (pe_ix (ixT (K := K)) (pe_ix (ixL (K := K)) (pv 1) (pe_un un_neg pe_int) (fun _ _ => rfl)) pe_int (fun _ _ => rfl)) (pa_cons (pe_op op_add (pe_ix (ixT (K := K)) (pe_ix (ixL (K := K)) (pv 1) (pe_un un_neg pe_int) (fun _ _ => rfl)) pe_int (fun _ _ => rfl)) pe_int) pa_nil)))) (pg_sub (pv 1) (pe_un un_neg pe_int) set_list))) (pss_one (ps_if (PW.pt (pw_and (pt_val (pe_callB (clIsi (K := K)) (by rfl) T.b_isinstance (by decide +kernel) (pa_cons (pv 3) (pa_cons (pe_bltn (v := .ty "str") (by rfl) T.b_str (by decide +kernel) rfl) pa_nil)))) (pw_and1 (pt_val (pe_callB (clIsi (K := K)) (by rfl) T.b_isinstance (by decide +kernel) (pa_cons (pv 4) (pa_cons (pe_bltn (v := .ty "str") (by rfl) T.b_str (by decide +kernel) rfl) pa_nil))))))) (pss_one (ps_asg (pe_tup (pa_cons pe_str (pa_cons (pe_op opAddS (pe_ix (ixT (K := K)) (pe_ix (ixL (K := K)) (pv 1) (pe_un un_neg pe_int) (fun _ _ => rfl)) pe_int (fun _ _ => rfl)) (pv 3)) pa_nil))) (pg_sub (pv 1) (pe_un un_neg pe_int) set_list))) (pss_one (ps_if (pt_val (pe_callB (clIsi (K := K)) (by rfl) T.b_isinstance (by decide +kernel) (pa_cons (pv 3) (pa_cons (pe_bltn (v := .ty "str") (by rfl) T.b_str (by decide +kernel) rfl) pa_nil)))) (pss_one (ps_expr (peBM (K := K) PySem.F.plainAttrs_list PySem.F.slot_list_append PySem.F.type_list_append mt_append (pv 1) (pa_cons (pe_tup (pa_cons pe_str (pa_cons (pv 3) pa_nil))) pa_nil)))) (pss_one (ps_expr (peBM (K := K) PySem.F.plainAttrs_list PySem.F.slot_list_append PySem.F.type_list_append mt_append (pv 1) (pa_cons (pe_tup (pa_cons pe_str (pa_cons (pv 3) (pa_cons pe_int pa_nil)))) pa_nil)))))))))))))
      (pss_one (ps_ret (pv 1))))), ?_⟩
    rw [show start ["cells", "rows", "k", "cell", "ahead"] [v0] = [some v0, none, none, none, none] from rfl]
    obtain ⟨F, a, cs, n, rfl, hw, hS, hok, hn, hl, q⟩ := h
    have w := W.start (M := []) hw
    walk_at "go"
    refine n_lst w (szle (by simp)) fun f F1 H1 w hf => ?_
    walk_at "go"
    rw [List.length_map]
    walk_at "go"
    replace w := w.push (dpa K [] (([] : List CRow).map CRow.d)) .nil
    refine n_forR w (fun i σ L => ∃ (us : List V) (y2 y3 y4 : Option V), σ = [some (.ref a), some (.ref f), y2, y3, y4] ∧ LastP cs i us ∧
          L = [mu f (.lst us), dpa K us ((plainR (cs.take i)).reverse.map CRow.d)]) ⟨[], none, none, none, rfl, .inl ⟨rfl, rfl⟩, rfl⟩ (fun i σ L F' H' hi hp w => ?_) (fun σ L F' H' hp w => ?_)
    · obtain ⟨us, y2, y3, y4, rfl, hla, rfl⟩ := hp
      have hi : i < cs.length := by omega
      obtain ⟨c, hc⟩ : ∃ c, cs[i]? = some c := ⟨_, List.getElem?_eq_getElem hi⟩
      have hx : (cs.map Cel.v)[i]? = some c.v := by rw [List.getElem?_map, hc]; rfl
      have e1 := plainR_take hc
      have co := hok c (List.mem_of_getElem? hc)
      have tok : ∀ d ∈ cs.take i, d.ok n := fun d hd => hok d (List.mem_of_mem_take hd)
      have tl : (cs.take i).length ≤ 400 := by rw [List.length_take]; omega
      have ro := plain_ok tok tl
      have rl := ro.len
      obtain ⟨rs, ers⟩ : ∃ rs, rs = plainR (cs.take i) := ⟨_, rfl⟩
      have ro' : RowsOk n rs.reverse := by rw [ers]; exact ro
      have rl' : rs.length ≤ 400 := by rw [ers]; have := rl; unfold plainL at this; rwa [List.length_reverse] at this
      have hla' := hla
      unfold LastP at hla
      rw [← ers] at hla e1 w
      have hul : us.length = rs.length := by rw [dpa_len (w.dpa (K := K) (xs := us) (ds := rs.reverse.map CRow.d) (by walk_at "mem")), List.length_map, List.length_reverse]
      have fin_new : ∀ {F2 H2 L} (p : Addr) (z1 z2 : Option V), W [] F H F2 H2 L → Pk L [mu f (.lst (us ++ [.ref p])), dpa K us (rs.reverse.map CRow.d), fx p (.tup (CRow.one c).vals)] → addC rs c = CRow.one c :: rs → Nx [] F H (fun σ L => ∃ (us : List V) (y2 y3 y4 : Option V), σ = [some (.ref a), some (.ref f), y2, y3, y4] ∧ LastP cs (i + 1) us ∧
          L = [mu f (.lst us), dpa K us ((plainR (cs.take (i + 1))).reverse.map CRow.d)]) [some (.ref a), some (.ref f), some (.int (i : Nat)), z1, z2] H2 := by
        intro F2 H2 L p z1 z2 w k ea
        have w := w.pk k
        have d1 : DpAll K F2 us (rs.reverse.map CRow.d) := w.dpa (by walk_at "mem")
        have d2 : F2 p = some (.tup (CRow.one c).vals) := w.i (fx p _) (by walk_at "mem")
        have d3 : Dp K F2 (.ref p) (CRow.one c).d := by
          cases c with
          | pl i => exact dp_ccopy' (sqT_of (K := K) d2)
          | sg c => exact dp_cput' (sqT_of (K := K) d2)
        have d4 := dpa_snoc d1 d3
        rw [show rs.reverse.map CRow.d ++ [(CRow.one c).d] = (plainR (cs.take (i + 1))).reverse.map CRow.d by rw [e1, ea, List.reverse_cons, List.map_append]; rfl] at d4
        exact nx_mk (w.push (dpa K _ _) d4) ⟨us ++ [.ref p], _, z1, z2, rfl, lastP_mk hc (p := p), rfl⟩ (by walk_at "pk")
      have fin_old : ∀ {F2 H2 L} (p : Addr) (z1 z2 : Option V) (r q : CRow) (t : List CRow) (us' : List V) (la : V), rs = r :: t → us = us' ++ [la] → r.add c = some q → W [] F H F2 H2 L → Pk L [mu f (.lst (us' ++ [.ref p])), dpa K us (rs.reverse.map CRow.d), fx p (.tup q.vals)] → Nx [] F H (fun σ L => ∃ (us : List V) (y2 y3 y4 : Option V), σ = [some (.ref a), some (.ref f), y2, y3, y4] ∧ LastP cs (i + 1) us ∧
          L = [mu f (.lst us), dpa K us ((plainR (cs.take (i + 1))).reverse.map CRow.d)]) [some (.ref a), some (.ref f), some (.int (i : Nat)), z1, z2] H2 := by
        intro F2 H2 L p z1 z2 r q t us' la er eu ea w k
        have w := w.pk k
        have d1 : DpAll K F2 us (rs.reverse.map CRow.d) := w.dpa (by walk_at "mem")
        rw [eu, er, List.reverse_cons, List.map_append] at d1
        have d1' := dpa_init d1
        have d2 : F2 p = some (.tup q.vals) := w.i (fx p _) (by walk_at "mem")
        have d3 : Dp K F2 (.ref p) q.d := by
          cases q with
          | copy a n => exact dp_ccopy' (sqT_of (K := K) d2)
          | put s => exact dp_cput' (sqT_of (K := K) d2)
        have d4 := dpa_snoc d1' d3
        have ee : addC rs c = q :: t := by rw [er]; exact addC_some ea
        rw [show t.reverse.map CRow.d ++ [q.d] = (plainR (cs.take (i + 1))).reverse.map CRow.d by rw [e1, ee, List.reverse_cons, List.map_append]; rfl] at d4
        exact nx_mk (w.push (dpa K _ _) d4) ⟨us' ++ [.ref p], _, z1, z2, rfl, lastP_mk hc (p := p), rfl⟩ (by walk_at "pk")
      walk_at "go"
      refine w_ixL _ _ (by walk_at "sq") (atI_nat hx) ?_
      walk_at "go"
      rcases hla with ⟨rfl, e0⟩ | ⟨pc, r, t, us', la, hi0, hpc, er, eu, hlr⟩
      · rw [decide_eq_false (show ¬ ((0 : Nat) : Int) > 0 by omega)]
        walk_at "go"
        cases c with
        | pl j =>
          dsimp only [Cel.v] at hx ⊢
          walk_at "go"
          refine u_isi (F := F') (d := .int (j : Nat)) (.int _) w.fh (k_int _) ?_
          walk_at "go"
          refine w_is (c := true) rfl ?_
          walk_at "go"
          refine u_isi (F := F') (d := .none) (.non) w.fh (k_int _) ?_
          walk_at "go"
          refine w_is (c := false) rfl ?_
          walk_at "go"
          refine u_isi (F := F') (d := .int (j : Nat)) (.int _) w.fh (k_str _) ?_
          walk_at "go"
          refine w_is (c := false) rfl ?_
          walk_at "go"
          refine u_isi (F := F') (d := .int (j : Nat)) (.int _) w.fh (k_str _) ?_
          walk_at "go"
          refine w_is (c := false) rfl ?_
          walk_at "go"
          refine n_tup w (szle (by simp)) fun p F2 H2 w => ?_
          walk_at "go"
          refine n_app w (by walk_at "pick") (small_lt (by omega)) fun H3 w => ?_
          walk_at "go"
          exact fin_new p _ _ w (by walk_at "pk") (by rw [e0]; rfl)
        | sg j =>
          dsimp only [Cel.v] at hx ⊢
          walk_at "go"
          refine u_isi (F := F') (d := .str ⟨#[j]⟩) (.str _) w.fh (k_int _) ?_
          walk_at "go"
          refine w_is (c := false) rfl ?_
          walk_at "go"
          refine u_isi (F := F') (d := .str ⟨#[j]⟩) (.str _) w.fh (k_str _) ?_
          walk_at "go"
          refine w_is (c := true) rfl ?_
          walk_at "go"
          refine u_isi (F := F') (d := .none) (.non) w.fh (k_str _) ?_
          walk_at "go"
          refine w_is (c := false) rfl ?_
          walk_at "go"
          refine u_isi (F := F') (d := .str ⟨#[j]⟩) (.str _) w.fh (k_str _) ?_
          walk_at "go"
          refine w_is (c := true) rfl ?_
          walk_at "go"
          refine n_tup w (szle (by simp)) fun p F2 H2 w => ?_
          walk_at "go"
          refine n_app w (by walk_at "pick") (small_lt (by omega)) fun H3 w => ?_
          walk_at "go"
          exact fin_new p _ _ w (by walk_at "pk") (by rw [e0]; rfl)
      · rw [decide_eq_true (show ((i : Nat) : Int) > 0 by omega)]
        have hy : (cs.map Cel.v)[i - 1]? = some pc.v := by rw [List.getElem?_map, hpc]; rfl
        have gy : atI (cs.map Cel.v) ((i : Nat) - 1 : Int) = some pc.v := by rw [show ((i : Nat) - 1 : Int) = ((i - 1 : Nat) : Int) by omega]; exact atI_nat hy
        have dla : Dp K F' la r.d := by
          have d1 : DpAll K F' us (rs.reverse.map CRow.d) := w.dpa (by walk_at "mem")
          rw [eu, er, List.reverse_cons, List.map_append] at d1
          exact dpa_lastD d1
        have atla : atI us (-1) = some la := by rw [eu]; exact atI_last _ _
        walk_at "go"
        refine w_ixL _ _ (by walk_at "sq") gy ?_
        walk_at "go"
        rcases hlr with ⟨b, m, g, rfl, rfl, hg⟩ | ⟨s, g, rfl, rfl⟩
        · obtain ⟨pm, rfl, hT⟩ := dp_ccopy dla
          have hT := sqT_same (K := K) w.fh hT
          have bm : b + m ≤ n := (ro'.ok (.copy b m) (by rw [er]; simp)).h
          cases c with
          | pl j =>
            dsimp only [Cel.v] at hx hy gy ⊢
            refine u_isi (F := F') (d := .int (j : Nat)) (.int _) w.fh (k_int _) ?_
            walk_at "go"
            refine w_is (c := true) rfl ?_
            walk_at "go"
            refine u_isi (F := F') (d := .int (g : Nat)) (.int _) w.fh (k_int _) ?_
            walk_at "go"
            refine w_is (c := true) rfl ?_
            walk_at "go"
            by_cases e : b + m = j
            · rw [decide_eq_true (show (j : Int) = (g : Int) + 1 by omega)]
              walk_at "go"
              refine w_ixL _ _ (by walk_at "sq") atla ?_
              walk_at "go"
              refine w_ixL _ _ (by walk_at "sq") atla ?_
              walk_at "go"
              refine n_tup w (szle (by simp)) fun p F2 H2 w => ?_
              walk_at "go"
              subst eu
              refine n_setL w (by walk_at "pick") us'.length (ix_last _ _) fun H3 w => ?_
              rw [set_last] at w
              walk_at "go"
              exact fin_old p _ _ (.copy b m) (.copy b (m + 1)) t us' _ er rfl (by show (if _ then _ else _) = _; rw [if_pos e]) w (by walk_at "pk")
            · rw [decide_eq_false (show ¬ (j : Int) = (g : Int) + 1 by omega)]
              walk_at "go"
              refine u_isi (F := F') (d := .int (j : Nat)) (.int _) w.fh (k_str _) ?_
              walk_at "go"
              refine w_is (c := false) rfl ?_
              walk_at "go"
              refine u_isi (F := F') (d := .int (j : Nat)) (.int _) w.fh (k_str _) ?_
              walk_at "go"
              refine w_is (c := false) rfl ?_
              walk_at "go"
              refine n_tup w (szle (by simp)) fun p F2 H2 w => ?_
              walk_at "go"
              refine n_app w (by walk_at "pick") (small_lt (by omega)) fun H3 w => ?_
              walk_at "go"
              exact fin_new p _ _ w (by walk_at "pk") (by rw [er]; exact addC_none (by show (if _ then _ else _) = _; rw [if_neg e]))
          | sg j =>
            dsimp only [Cel.v] at hx hy gy ⊢
            refine u_isi (F := F') (d := .str ⟨#[j]⟩) (.str _) w.fh (k_int _) ?_
            walk_at "go"
            refine w_is (c := false) rfl ?_
            walk_at "go"
            refine u_isi (F := F') (d := .str ⟨#[j]⟩) (.str _) w.fh (k_str _) ?_
            walk_at "go"
            refine w_is (c := true) rfl ?_
            walk_at "go"
            refine u_isi (F := F') (d := .int (g : Nat)) (.int _) w.fh (k_str _) ?_
            walk_at "go"
            refine w_is (c := false) rfl ?_
            walk_at "go"
            refine u_isi (F := F') (d := .str ⟨#[j]⟩) (.str _) w.fh (k_str _) ?_
            walk_at "go"
            refine w_is (c := true) rfl ?_
            walk_at "go"
            refine n_tup w (szle (by simp)) fun p F2 H2 w => ?_
            walk_at "go"
            refine n_app w (by walk_at "pick") (small_lt (by omega)) fun H3 w => ?_
            walk_at "go"
            exact fin_new p _ _ w (by walk_at "pk") (by rw [er]; exact addC_none rfl)
        · obtain ⟨pm, rfl, hT⟩ := dp_cput dla
          have hT := sqT_same (K := K) w.fh hT
          have hsl := (ro'.ok (.put s) (by rw [er]; simp)).s.2
          cases c with
          | pl j =>
            dsimp only [Cel.v] at hx hy gy ⊢
            refine u_isi (F := F') (d := .int (j : Nat)) (.int _) w.fh (k_int _) ?_
            walk_at "go"
            refine w_is (c := true) rfl ?_
            walk_at "go"
            refine u_isi (F := F') (d := .str ⟨#[g]⟩) (.str _) w.fh (k_int _) ?_
            walk_at "go"
            refine w_is (c := false) rfl ?_
            walk_at "go"
            refine u_isi (F := F') (d := .int (j : Nat)) (.int _) w.fh (k_str _) ?_
            walk_at "go"
            refine w_is (c := false) rfl ?_
            walk_at "go"
            refine u_isi (F := F') (d := .int (j : Nat)) (.int _) w.fh (k_str _) ?_
            walk_at "go"
            refine w_is (c := false) rfl ?_
            walk_at "go"
            refine n_tup w (szle (by simp)) fun p F2 H2 w => ?_
            walk_at "go"
            refine n_app w (by walk_at "pick") (small_lt (by omega)) fun H3 w => ?_
            walk_at "go"
            exact fin_new p _ _ w (by walk_at "pk") (by rw [er]; exact addC_none rfl)
          | sg j =>
            dsimp only [Cel.v] at hx hy gy ⊢
            refine u_isi (F := F') (d := .str ⟨#[j]⟩) (.str _) w.fh (k_int _) ?_
            walk_at "go"
            refine w_is (c := false) rfl ?_
            walk_at "go"
            refine u_isi (F := F') (d := .str ⟨#[j]⟩) (.str _) w.fh (k_str _) ?_
            walk_at "go"
            refine w_is (c := true) rfl ?_
            walk_at "go"
            refine u_isi (F := F') (d := .str ⟨#[g]⟩) (.str _) w.fh (k_str _) ?_
            walk_at "go"
            refine w_is (c := true) rfl ?_
            walk_at "go"
            refine w_ixL _ _ (by walk_at "sq") atla ?_
            walk_at "go"
            refine n_adds (szle (by show s.length + 1 ≤ 1000000; omega)) ?_
            walk_at "go"
            refine n_tup w (szle (by simp)) fun p F2 H2 w => ?_
            walk_at "go"
            subst eu
            refine n_setL w (by walk_at "pick") us'.length (ix_last _ _) fun H3 w => ?_
            rw [set_last] at w
            walk_at "go"
            exact fin_old p _ _ (.put s) (.put (s ++ ⟨#[j]⟩)) t us' _ er rfl (rfl) w (by walk_at "pk")
    · obtain ⟨us, y2, y3, y4, rfl, hla, rfl⟩ := hp
      rw [List.take_of_length_le (by omega)] at w
      walk_at "go"
      exact q f us F' H' hf (by walk_at "w")
-- _law_size
theorem ok_law_size {f : Addr} {fd : FuncData} (F : FunD K "_law_size" "_law_size" (defArgs s_law_size) (defBody s_law_size) (defScope s_law_size) [] [] f fd) (T : Txt K mg) (D_law_draw : DO P w K mg base 2 "_law_draw" ["bag", "many"] [] (S2 (φdraw K))) : FnOk P w K mg base CX0 3 f fd ["bag"] (S1 (φsize1 K)) := by
  refine F.ok sc_law_size (fun vs H Q E h => ?_) (fun cdv A outer s H vs Q E hr h => ?_)
  · exact S1.len h
  · match vs, h with
    | [v0], h =>
    have hu := hu_of hr
    refine ⟨_, PSs.nox (pss_one (ps_ret (pcall D_law_draw hr (pa_cons (pv 0) (pa_cons (pe_ix (ixL (K := K)) (pe_lst (pa_cons pe_int (pa_cons pe_int (pa_cons pe_int (pa_cons pe_int (pa_cons pe_int (pa_cons pe_int (pa_cons pe_int (pa_cons pe_int pa_nil))))))))) (pcall D_law_draw hr (pa_cons (pv 0) (pa_cons pe_int pa_nil))) (fun _ _ => rfl)) pa_nil))))), ?_⟩
    rw [show start ["bag"] [v0] = [some v0] from rfl]
    obtain ⟨F, b, rfl, s0, q⟩ := h
    have w := s0.w (M := [b])
    walk_at "go"
    refine n_lst w (szle (by simp)) fun p1 F1 H1 w hp1 => ?_
    walk_at "go"
    refine n_draw w (by walk_at "pick") (by decide) (by decide) fun r F1 H1 w r0 r1 => ?_
    obtain ⟨sz, es, sz0, sz1⟩ := pick_ix (ns := [9, 9, 9, 3, 41, 41, 121, 401]) (lo := 3) (hi := 401) r0 r1 (by decide)
    walk_at "go"
    refine w_ixL _ _ (by walk_at "sq") es ?_
    walk_at "go"
    refine n_draw w (by walk_at "pick") (by omega) (by omega) fun n' F1 H1 w n0 n1 => ?_
    obtain ⟨n, rfl⟩ : ∃ n : Nat, n' = (n : Int) := ⟨n'.toNat, by omega⟩
    exact q n F1 H1 (by walk_at "w") (by omega)
-- _law_same
theorem ok_law_same {f : Addr} {fd : FuncData} (F : FunD K "_law_same" "_law_same" (defArgs s_law_same) (defBody s_law_same) (defScope s_law_same) [] [] f fd) (T : Txt K mg) (D_law_alike : DO P w K mg base 6 "_law_alike" ["found", "due"] [] (S2 (φalike K 6))) : FnOk P w K mg base CX0 10 f fd ["found", "size", "rows"] (S3 (φsame K)) := by
  refine F.ok sc_law_same (fun vs H Q E h => ?_) (fun cdv A outer s H vs Q E hr h => ?_)
  · exact S3.len h
  · match vs, h with
    | [v0, v1, v2], h =>
    have hu := hu_of hr
    refine ⟨_, PSs.nox (pss_cons (ps_if (PW.pt (pw_or (pt_not (pt_val (pe_callB (clIsC T.i_Change) (by rfl) T.b_isinstance (by decide +kernel) (pa_cons (pv 0) (pa_cons (C8.pe_gc (v := .ref (He.ga K "Change")) (by rfl) ⟨_, T.g_Change, rfl⟩) pa_nil))))) (pw_or1 (pt_not (pt_val (pcall D_law_alike hr (pa_cons (peFld (K := K) (pv 0)) (pa_cons (pv 1) pa_nil)))))))) (pss_one (ps_ret pe_bl)) pss_nil)
      (pss_one (ps_ret (pcall D_law_alike hr (pa_cons (peFld (K := K) (pv 0)) (pa_cons (pv 2) pa_nil)))))), ?_⟩
    rw [show start ["found", "size", "rows"] [v0, v1, v2] = [some v0, some v1, some v2] from rfl]
    have kC := T.k_Change
    have kS := T.na_Change_size
    have kR := T.na_Change_rows
    
    obtain ⟨F, a, vs, n, rows, rfl, rfl, hw, hS, hDv, hC, hok, q⟩ := h
    obtain ⟨c, dx, r, us, rfl, hc, hr, hD⟩ := hC
    have w := ((W.start (M := []) hw).push (fx c _) hc).push (fx r (.lst us)) hr
    unfold insC at w
    have gok := crows_good (fun m hm => (hok.ok m hm).s) (show rows.length ≤ 100000 by have := hok.len; omega)
    walk_at "go"
    refine n_isC (by walk_at "at") ?_
    walk_at "go"
    refine ⟨F, .int (n : Nat), w.fh, .int _, .int _, by show (0 : Nat) < 6; decide, rfl, fun F2 H2 g => ?_⟩
    replace w := w.gr0 g
    walk_at "go"
    refine ⟨F2, .list (rows.map CRow.d), w.fh, .lst (sqL_of (w.i (fx r (.lst us)) (by walk_at "mem"))) (w.dpa0 hD), .lst (sqL_same w.ff hS) (w.dpa0 hDv), by have := gok.2; omega, gok.1, fun F3 H3 g3 => ?_⟩
    replace w := w.gr0 g3
    exact q _ _ (by walk_at "w")
-- _law_written
theorem ok_law_written {f : Addr} {fd : FuncData} (F : FunD K "_law_written" "_law_written" (defArgs s_law_written) (defBody s_law_written) (defScope s_law_written) [] [] f fd) (T : Txt K mg)  : FnOk P w K mg base CX0 1 f fd ["size", "rows"] (S2 (φwritten K)) := by
  refine F.ok sc_law_written (fun vs H Q E h => ?_) (fun cdv A outer s H vs Q E hr h => ?_)
  · exact S2.len h
  · match vs, h with
    | [v0, v1], h =>
    have hu := hu_of hr
    refine ⟨_, PSs.nox (pss_cons (ps_set (i := 2) sc_law_written.nd rfl (.inl rfl) (pe_op opAddS pe_str (pe_callTy call_str_int (by rfl) T.b_str (by decide +kernel) (pa_cons (pv 0) pa_nil))))
      (pss_cons (ps_for PassesOwn.never rfl (pi_list (pv 1)) (pg_name (i := 3) sc_law_written.nd rfl (.inl rfl)) (pss_one (ps_set (i := 2) sc_law_written.nd rfl (.inl rfl) (pe_op opAddS (pe_op opAddS (pv 2) pe_str) (peJoin (K := K) pe_str (pe_lc (own := [("part", 4)]) (g := gName 4) rfl sc_law_written.nd (pi_tup (pv 3)) (blkOk_by (own := [("part", 4)]) (N := ["size", "rows", "found", "row", "part"]) (sc := defScope s_law_written) (by decide +kernel)) (fun _ _ _ _ _ => pg_name (i := 4) sc_law_written.nd rfl (Or.inl rfl)) (fun _ _ _ _ _ => pts_nil) (fun _ _ _ _ _ => (pe_callTy clStrQ (by rfl) T.b_str (by decide +kernel) (pa_cons (pv 4) pa_nil)))))))))
      (pss_one (ps_ret (pv 2))))), ?_⟩
    rw [show start ["size", "rows", "found", "row", "part"] [v0, v1] = [some v0, some v1, none, none, none] from rfl]
    obtain ⟨F, a, vs, n, rows, rfl, rfl, hw, hS, hD, hok, hn, q⟩ := h
    have w := ((W.start (M := []) hw).push (imL K a vs) hS).push (dpa K vs (rows.map CRow.d)) hD
    have hrl := hok.len
    have hvl : vs.length = rows.length := by rw [dpa_len hD, List.length_map]
    have nn := num_ok hn
    have ln := nn.2
    walk_at "go"
    refine ⟨_, rfl, num_log hn, ?_⟩
    refine n_adds (szle (show (Str.ofString "size ").length + (numS n).length ≤ 1000000 by rw [slen_size]; omega)) ?_
    walk_at "go"
    refine n_forL vs w (fun i σ L => ∃ f y3, σ = [some (.int (n : Nat)), some (.ref a), some (.str f), y3, none] ∧ cd f = (cd (Str.ofString "size ") ++ cd (numS n)) ++ rowsW (rows.take i) ∧ L = [imL K a vs, dpa K vs (rows.map CRow.d)]) ⟨_, none, rfl, ?_, rfl⟩ (fun i σ L F' H' hp w => ?_) (fun i x σ L F' H' hx hp w => ?_) (fun σ L F' H' hp w => ?_)
    · rw [cd_app]
      show _ = _ ++ []
      rw [List.append_nil]
      rfl
    · obtain ⟨f, y3, rfl, hf, rfl⟩ := hp
      walk_at "sq"
    · obtain ⟨f, y3, rfl, hf, rfl⟩ := hp
      obtain ⟨m, hm, dm⟩ := dpa_at (w.dpa (K := K) (xs := vs) (ds := rows.map CRow.d) (by walk_at "mem")) hx
      have mo := hok.ok m (List.mem_of_getElem? hm)
      have hg : m.gives ≤ 400 := Nat.le_trans (row_le (List.mem_of_getElem? hm)) hok.sum
      have lf : f.length ≤ 6100 := by
        rw [← cd_len, hf, List.length_append, List.length_append, len_size, cd_len]
        have := rowsW_le hn hok i
        omega
      obtain ⟨pm, rfl, hT⟩ := dp_row dm
      have hT := sqT_same (K := K) w.fh hT
      replace w := w.push (imT K pm m.vals) (by obtain ⟨pm2, e, hT2⟩ := dp_row dm; cases e; exact hT2)
      walk_at "go"
      refine n_adds (szle (show f.length + (Str.ofString "\n").length ≤ 1000000 by rw [slen_nl]; omega)) ?_
      walk_at "go"
      refine n_lcT m.vals w (fun j ys L => ys = ((rowS m).take j).map V.str ∧ L = [imT K pm m.vals, imL K a vs, dpa K vs (rows.map CRow.d)]) ⟨rfl, rfl⟩ (fun j ys L F H D h w => by obtain ⟨rfl, rfl⟩ := h; walk_at "st") (fun j x ys L F2 H2 D hx2 hp w hDn => ?_) (fun D ys L F2 H2 hp w hDn => ?_)
      · obtain ⟨rfl, rfl⟩ := hp
        obtain ⟨s, hs, hk⟩ := rowS_at mo hn hx2
        walk_at "wp"
        walk_at "go"
        have fin : accG D (NxC [] F H (fun ys L => ys = ((rowS m).take (j + 1)).map V.str ∧ L = [imT K pm m.vals, imL K a vs, dpa K vs (rows.map CRow.d)]) D) (.str s) H2 := by
          refine n_acc _ w ⟨?_, rfl⟩ (by walk_at "pk") (small_lt (by rw [List.length_map, List.length_take]; have := (List.getElem?_eq_some_iff.mp hs).1; have h9 := rowS_le m; omega))
          rw [List.take_add_one, hs, List.map_append]
          rfl
        rcases hk with rfl | ⟨k, hk, rfl, rfl⟩
        · refine .inl ⟨s, rfl, ?_⟩
          exact fin
        · refine .inr ⟨_, rfl, num_log hk, ?_⟩
          exact fin
      · obtain ⟨rfl, rfl⟩ := hp
        rw [List.take_of_length_le (by rw [rowS_vals]; exact Nat.le_refl _)] at w
        refine ⟨_, D, rowS m, rfl, rfl, .inl (by walk_at "sq"), rowS_len mo hn hg, ?_⟩
        have ej := rowS_join m
        have lj : (Txt.join (Str.ofString " ") (rowS m)).length ≤ 412 := by
          rw [← cd_len, ej]
          have := row_len mo hn
          omega
        refine n_adds (szle (by rw [len_app, slen_nl]; omega)) ?_
        walk_at "go"
        refine nx_mk w ⟨_, _, rfl, ?_, rfl⟩ (by walk_at "pk")
        rw [cd_app, cd_app, hf, rowsW_take hm, nl_cd, ej]
        simp
    · obtain ⟨f, y3, rfl, hf, rfl⟩ := hp
      rw [hvl, List.take_length] at hf
      walk_at "go"
      exact q _ _ _ (by walk_at "w") hf
-- _law_refused
theorem ok_law_refused {f : Addr} {fd : FuncData} (F : FunD K "_law_refused" "_law_refused" (defArgs s_law_refused) (defBody s_law_refused) (defScope s_law_refused) [] [] f fd) (T : Txt K mg)  (DX_Change_done_r : DMX P w K mg base 1 "Change" "done" ["self", "old"] (SX2 (φdoneX K))) (DX_behind_r : DOX P w K mg base 2 "behind" ["first", "second"] (SX2 (φbehindX K))) (DX_undone_r : DOX P w K mg base 1 "undone" ["change", "old"] (SX2 (φdoneX K))) : FnOk P w K mg base CX0 3 f fd ["change", "way", "text", "strange"] (S4 (φrefX K)) := by
  refine F.ok sc_law_refused (fun vs H Q E h => ?_) (fun cdv A outer s H vs Q E hr h => ?_)
  · exact S4.len h
  · match vs, h with
    | [v0, v1, v2, v3], h =>
    have hu := hu_of hr
    refine' ⟨_, PSs.nox (pss_cons (ps_set (i := 4) sc_law_refused.nd rfl (.inl rfl) pe_bl)
      (pss_cons (ps_tryO T.e_BadSize rfl rfl rfl ?tr1 (fun _ _ => (pss_one (ps_set (i := 4) sc_law_refused.nd rfl (.inl rfl) pe_bl))))
      (pss_one (ps_ret (pv 4))))), ?_⟩
    case tr1 => exact fun _ _ _ tk => (pss_one (ps_if (PT.nox (pt_cmpR op_eq (pv 1) pe_int (nomark _))) (pss_one (ps_expr (pmethX DX_Change_done_r hr tk (pv 0) (pa_cons (PE.nox (pv 2)) pa_nil)))) (pss_one (ps_if (PT.nox (pt_cmpR op_eq (pv 1) pe_int (nomark _))) (pss_one (ps_expr (pcallX DX_undone_r hr tk (pa_cons (PE.nox (pv 0)) (pa_cons (PE.nox (pv 2)) pa_nil))))) (pss_one (ps_expr (pcallX DX_behind_r hr tk (pa_cons (PE.nox (pv 0)) (pa_cons (PE.nox (pv 3)) pa_nil)))))))))
    rw [show start ["change", "way", "text", "strange", "refused"] [v0, v1, v2, v3] = [some v0, some v1, some v2, some v3, none] from rfl]
    have kC := T.k_Change
    have kS := T.na_Change_size
    have kR := T.na_Change_rows
    
    obtain ⟨F, n, rows, way, rfl, hw, hC, hok, hn, hk, q⟩ := h
    have hC0 := hC
    obtain ⟨c, dx, r, vs, rfl, hc, hr', hD⟩ := hC
    have w := (W.start (M := []) hw).push (fx c _) hc
    unfold insC at w
    rcases hk with ⟨rfl | rfl, o, rfl, ho, hne⟩ | ⟨rfl, m, rows2, hC2, hm, hne⟩
    · walk_at "go"
      refine ⟨F, n, rows, o, rfl, w.fh, hC0, by omega, by omega, hne, fun F2 H2 w2 => ?_⟩
      replace w := w.cal .nil w2 (by walk_at "app")
      refine w_caught T.e_BadSize ?_
      walk_at "go"
      exact q _ _ (by walk_at "w")
    · walk_at "go"
      refine ⟨F, n, rows, o, rfl, w.fh, hC0, by omega, by omega, hne, fun F2 H2 w2 => ?_⟩
      replace w := w.cal .nil w2 (by walk_at "app")
      refine w_caught T.e_BadSize ?_
      walk_at "go"
      exact q _ _ (by walk_at "w")
    · walk_at "go"
      refine ⟨F, n, m, rows, rows2, w.fh, hC0, hC2, hok, by omega, by omega, hne, fun F2 H2 w2 => ?_⟩
      replace w := w.cal .nil w2 (by walk_at "app")
      refine w_caught T.e_BadSize ?_
      walk_at "go"
      exact q _ _ (by walk_at "w")
-- _law_parted
theorem ok_law_parted {f : Addr} {fd : FuncData} (F : FunD K "_law_parted" "_law_parted" (defArgs s_law_parted) (defBody s_law_parted) (defScope s_law_parted) [] [] f fd) (T : Txt K mg) (D_law_cells : DO P w K mg base 1 "_law_cells" ["rows"] [] (S1 (φlcells K))) (D_law_done : DO P w K mg base 1 "_law_done" ["cells", "old"] [] (S2 (φldone K))) (D_law_draw : DO P w K mg base 2 "_law_draw" ["bag", "many"] [] (S2 (φdraw K))) (D_parting : DO P w K mg base 3 "parting" ["one", "two"] [] (S2 (φparting K))) : FnOk P w K mg base CX0 4 f fd ["bag", "changes", "rows", "size"] (S4 (φparted10 K)) := by
  refine F.ok sc_law_parted (fun vs H Q E h => ?_) (fun cdv A outer s H vs Q E hr h => ?_)
  · exact S4.len h
  · match vs, h with
    | [v0, v1, v2, v3], h =>
    have hu := hu_of hr
    refine ⟨_, PSs.nox (pss_cons (ps_set (i := 4) sc_law_parted.nd rfl (.inl rfl) (pcall D_law_draw hr (pa_cons (pv 0) (pa_cons pe_int pa_nil))))
      (pss_cons (ps_set (i := 5) sc_law_parted.nd rfl (.inl rfl) (pcall D_law_cells hr (pa_cons (pe_ix (ixL (K := K)) (pv 2) (pv 4) (fun _ _ => rfl)) pa_nil)))
      (pss_cons (ps_set (i := 6) sc_law_parted.nd rfl (.inl rfl) (pcall D_law_cells hr (pa_cons (pe_ix (ixL (K := K)) (pv 2) (pe_op op_sub pe_int (pv 4)) (fun _ _ => rfl)) pa_nil)))
      (pss_cons (ps_set (i := 7) sc_law_parted.nd rfl (.inl rfl) (pcall D_parting hr (pa_cons (pe_ix (ixL (K := K)) (pv 1) (pv 4) (fun _ _ => rfl)) (pa_cons (pe_ix (ixL (K := K)) (pv 1) (pe_op op_sub pe_int (pv 4)) (fun _ _ => rfl)) pa_nil))))
      (pss_cons (ps_if (pt_cmpR (opEqD (K := K) hr.units) (pv 5) (pv 6) (nomark _)) (pss_one (ps_ret (pe_cmp (pc_isN (pv 7)) (by rfl)))) pss_nil)
      (pss_cons (ps_if (PW.pt (pw_or (pt_not (pt_val (pe_callB (clIsi (K := K)) (by rfl) T.b_isinstance (by decide +kernel) (pa_cons (pv 7) (pa_cons (pe_bltn (v := .ty "str") (by rfl) T.b_str (by decide +kernel) rfl) pa_nil))))) (pw_or1 (pt_cmpR op_ne (pe_callB clLenS (by rfl) T.b_len (by decide +kernel) (pa_cons (pv 7) pa_nil)) (pv 3) (nomark _))))) (pss_one (ps_ret pe_bl)) pss_nil)
      (pss_one (ps_ret (pe_cmpR op_ne (pcall D_law_done hr (pa_cons (pv 5) (pa_cons (pv 7) pa_nil))) (pcall D_law_done hr (pa_cons (pv 6) (pa_cons (pv 7) pa_nil))) (nomark _)))))))))), ?_⟩
    rw [show start ["bag", "changes", "rows", "size", "at", "here", "there", "found"] [v0, v1, v2, v3] = [some v0, some v1, some v2, some v3, none, none, none, none] from rfl]
    have kC := T.k_Change
    have kS := T.na_Change_size
    have kR := T.na_Change_rows
    
    obtain ⟨F, b, n, cv, rw_, pv, pvs, rfl, rfl, s0, hP, hn, q⟩ := h
    have hP0 := hP
    obtain ⟨⟨ca, rfl, hca⟩, ⟨ra, rfl, hra⟩, hit⟩ := hP
    have w := ((s0.w (M := [b])).push (imL K ca [cv 0, cv 1]) hca).push (imL K ra [.ref (pv 0), .ref (pv 1)]) hra
    walk_at "go"
    refine n_draw w (by walk_at "pick") (by decide) (by decide) fun r F1 H1 w r0 r1 => ?_
    obtain ⟨i, rfl⟩ : ∃ i : Nat, r = (i : Int) := ⟨r.toNat, by omega⟩
    have hi : i < 2 := by omega
    have hj : 1 - i < 2 := by omega
    have ej : (1 : Int) - (i : Nat) = ((1 - i : Nat) : Int) := by omega
    obtain ⟨a1, a2, a3, a4⟩ := hit i hi
    obtain ⟨b1, b2, b3, b4⟩ := hit (1 - i) hj
    have gr := two_at (fun k => V.ref (pv k)) hi
    have gr2 := two_at (fun k => V.ref (pv k)) hj
    have gc := two_at cv hi
    have gc2 := two_at cv hj
    walk_at "go"
    refine w_ixL _ _ (by walk_at "sq") gr ?_
    walk_at "go"
    refine ⟨_, (pv i), (pvs i), n, (rw_ i), rfl, w.fh, sqL_same w.ff a1, dpa_same w.ff _ _ a2, a4, fun p1 F6 H6 h_p1 w6 => ?_⟩
    have h_p1' := w.g.fresh h_p1
    replace w := w.cal .nil w6 (by walk_at "app")
    rw [cels_v] at w
    obtain ⟨F6, w⟩ := w.fzL (p := p1) (by walk_at "pick") h_p1'
    walk_at "go"
    rw [ej]
    refine w_ixL _ _ (by walk_at "sq") gr2 ?_
    walk_at "go"
    refine ⟨_, (pv (1 - i)), (pvs (1 - i)), n, (rw_ (1 - i)), rfl, w.fh, sqL_same w.ff b1, dpa_same w.ff _ _ b2, b4, fun p2 F6 H6 h_p2 w6 => ?_⟩
    have h_p2' := w.g.fresh h_p2
    replace w := w.cal .nil w6 (by walk_at "app")
    rw [cels_v] at w
    obtain ⟨F6, w⟩ := w.fzL (p := p2) (by walk_at "pick") h_p2'
    walk_at "go"
    obtain ⟨cs, ecs⟩ : ∃ cs, cs = celsL (rw_ i) := ⟨_, rfl⟩
    obtain ⟨ds, eds⟩ : ∃ ds, ds = celsL (rw_ (1 - i)) := ⟨_, rfl⟩
    have ok1 : ∀ c ∈ cs, c.ok n := by rw [ecs]; exact cels_ok a4.ok
    have ok2 : ∀ c ∈ ds, c.ok n := by rw [eds]; exact cels_ok b4.ok
    have hl1 : cs.length ≤ 400 := by rw [ecs, cels_len]; exact a4.sum
    have hl2 : ds.length ≤ 400 := by rw [eds, cels_len]; exact b4.sum
    rw [← ecs, ← eds] at w
    refine w_ixL _ _ (by walk_at "sq") gc ?_
    walk_at "go"
    rw [ej]
    refine w_ixL _ _ (by walk_at "sq") gc2 ?_
    walk_at "go"
    refine ⟨_, n, rw_ i, rw_ (1 - i), w.fh, a3.same w.ff, b3.same w.ff, a4, b4, hn, fun v F3 H3 w3 hf => ?_⟩
    replace w := w.cal .nil w3 (by walk_at "app")
    rw [← ecs, ← eds] at hf
    walk_at "go"
    refine n_eqCs (by walk_at "sq") (by walk_at "sq") ok1 ok2 (by omega) (by omega) ?_
    walk_at "go"
    rcases hf with ⟨e, rfl⟩ | ⟨hne, s, rfl, hp⟩
    · rw [decide_eq_true e]
      walk_at "go"
      exact q _ _ (by walk_at "w")
    · rw [decide_eq_false hne]
      have hls := hp.len
      have hab := hp.ab
      walk_at "go"
      refine u_isi (F := _) (d := .str s) (.str _) w.fh (k_str _) ?_
      walk_at "go"
      refine w_is (c := false) rfl ?_
      walk_at "go"
      subst hls
      rw [decide_eq_true rfl]
      walk_at "go"
      refine ⟨_, p1, cs.map Cel.v, s, rfl, rfl, w.fh, sqL_of (w.i (fx p1 _) (by walk_at "mem")), fun v hv => ?_, by rw [List.length_map]; omega, (ab_ok hab), by omega, fun s1 F5 H5 w5 h_s1 ok_s1 => ?_⟩
      · obtain ⟨c, hc, rfl⟩ := List.mem_map.mp hv
        exact cel_cellok (ok1 c hc)
      replace w := w.cal .nil w5 (by walk_at "app")
      walk_at "go"
      refine ⟨_, p2, ds.map Cel.v, s, rfl, rfl, w.fh, sqL_of (w.i (fx p2 _) (by walk_at "mem")), fun v hv => ?_, by rw [List.length_map]; omega, (ab_ok hab), by omega, fun s2 F5 H5 w5 h_s2 ok_s2 => ?_⟩
      · obtain ⟨c, hc, rfl⟩ := List.mem_map.mp hv
        exact cel_cellok (ok2 c hc)
      replace w := w.cal .nil w5 (by walk_at "app")
      walk_at "go"
      have e1 : cd s1 = cs.map (Cel.out (cd s)) := h_s1.trans (outs_cels s cs)
      have e2 : cd s2 = ds.map (Cel.out (cd s)) := h_s2.trans (outs_cels s ds)
      rw [decide_eq_false (show ¬ s1 = s2 from fun e => hp.ne (by rw [← e1, ← e2, e]))]
      walk_at "go"
      exact q _ _ (by walk_at "w")
-- _law_behind
theorem ok_law_behind {f : Addr} {fd : FuncData} (F : FunD K "_law_behind" "_law_behind" (defArgs s_law_behind) (defBody s_law_behind) (defScope s_law_behind) [] [] f fd) (T : Txt K mg) (D_law_cells : DO P w K mg base 1 "_law_cells" ["rows"] [] (S1 (φlcells K))) (D_law_draw : DO P w K mg base 2 "_law_draw" ["bag", "many"] [] (S2 (φdraw K))) (D_law_plain : DO P w K mg base 1 "_law_plain" ["cells"] [] (S1 (φlplain K))) (D_law_refused : DO P w K mg base 3 "_law_refused" ["change", "way", "text", "strange"] [] (S4 (φrefX K))) (D_law_rows : DO P w K mg base 5 "_law_rows" ["bag", "size", "many", "most"] [] (S4 (φrows1 K))) (D_law_same : DO P w K mg base 10 "_law_same" ["found", "size", "rows"] [] (S3 (φsame K))) (D_behind : DO P w K mg base 4 "behind" ["first", "second"] [] (S2 (φbehind K))) (DN_Change_2 : DN P w K mg base 2 "Change" ["self", "size", "rows"] [] (S3 (φinit K))) : FnOk P w K mg base CX0 11 f fd ["bag", "change", "size", "cells"] (S4 (φbehind10 K)) := by
  refine F.ok sc_law_behind (fun vs H Q E h => ?_) (fun cdv A outer s H vs Q E hr h => ?_)
  · exact S4.len h
  · match vs, h with
    | [v0, v1, v2, v3], h =>
    have hu := hu_of hr
    refine ⟨_, PSs.nox (pss_cons (ps_set (i := 4) sc_law_behind.nd rfl (.inl rfl) (pe_cmpR op_eq (pcall D_law_draw hr (pa_cons (pv 0) (pa_cons pe_int pa_nil))) pe_int (nomark _)))
      (C8.pss_cut (ps_set (i := 5) sc_law_behind.nd rfl (.inl rfl) (pe_ifExp (pt_val (pv 4)) (pe_callB (clLenQ (K := K)) (by rfl) T.b_len (by decide +kernel) (pa_cons (pv 3) pa_nil)) (pcall D_law_draw hr (pa_cons (pv 0) (pa_cons pe_int pa_nil)))))
      (pss_cons (ps_set (i := 6) sc_law_behind.nd rfl (.inl rfl) (pcall D_law_rows hr (pa_cons (pv 0) (pa_cons (pv 5) (pa_cons (pcall D_law_draw hr (pa_cons (pv 0) (pa_cons pe_int pa_nil))) (pa_cons pe_int pa_nil))))))
      (pss_cons (ps_if (pt_cmpR op_ne (pv 5) (pe_callB (clLenQ (K := K)) (by rfl) T.b_len (by decide +kernel) (pa_cons (pv 3) pa_nil)) (nomark _)) (pss_one (ps_ret (pcall D_law_refused hr (pa_cons (pv 1) (pa_cons pe_int (pa_cons pe_str (pa_cons (pmake DN_Change_2 hr (pa_cons (pv 5) (pa_cons (pv 6) pa_nil))) pa_nil))))))) pss_nil)
      (pss_cons (ps_setLc (i := 7) (own := [("cell", 8)]) (g := gName 8) rfl sc_law_behind.nd rfl rfl (sw_true rfl rfl rfl (by decide +kernel)) (pi_list (pcall D_law_cells hr (pa_cons (pv 6) pa_nil))) (blkOk_by (own := [("cell", 8)]) (N := ["bag", "change", "size", "cells", "fits", "other", "rows", "due", "cell"]) (sc := defScope s_law_behind) (by decide +kernel)) (fun _ _ _ _ _ => pg_name (i := 8) sc_law_behind.nd rfl (Or.inl rfl)) (fun _ _ _ _ _ => pts_nil) (fun _ _ _ _ _ => (pe_ifExp (pt_val (pe_callB (clIsi (K := K)) (by rfl) T.b_isinstance (by decide +kernel) (pa_cons (pv 8) (pa_cons (pe_bltn (v := .ty "int") (by rfl) T.b_int (by decide +kernel) rfl) pa_nil)))) (pe_ix (ixL (K := K)) (pv 3) (pv 8) (fun _ _ => rfl)) (pv 8))))
      (pss_one (ps_ret (pcall D_law_same hr (pa_cons (pcall D_behind hr (pa_cons (pv 1) (pa_cons (pmake DN_Change_2 hr (pa_cons (pv 5) (pa_cons (pv 6) pa_nil))) pa_nil))) (pa_cons (pv 2) (pa_cons (pcall D_law_plain hr (pa_cons (pv 7) pa_nil)) pa_nil))))))))))), ?_⟩
    rw [show start ["bag", "change", "size", "cells", "fits", "other", "rows", "due", "cell"] [v0, v1, v2, v3] = [some v0, some v1, some v2, some v3, none, none, none, none, none] from rfl]
    have kC := T.k_Change
    have kS := T.na_Change_size
    have kR := T.na_Change_rows
    
    obtain ⟨F, b, a, n, rows, rfl, rfl, rfl, s0, hC, hok, hn, hS, q⟩ := h
    have w := (s0.w (M := [b])).push (imL K a ((celsL rows).map Cel.v)) hS
    obtain ⟨cs, ecs⟩ : ∃ cs, cs = celsL rows := ⟨_, rfl⟩
    have hcl : cs.length = givesL rows := by rw [ecs]; exact cels_len rows
    have hcs := hok.sum
    have oc : ∀ c ∈ cs, c.ok n := by rw [ecs]; exact cels_ok hok.ok
    rw [← ecs] at w
    walk_at "go"
    refine n_draw w (by walk_at "pick") (by decide) (by decide) fun r F1 H1 w r0 r1 => ?_
    walk_at "go"
    refine n_cut w (fun σ L => ∃ om : Nat, om ≤ 400 ∧ σ = [some (.ref b), some v1, some (.int (n : Nat)), some (.ref a), some (.bl (decide (r = 0))), some (.int (om : Nat)), none, none, none] ∧ L = [imL K a (cs.map Cel.v), bag K b]) ?_ (fun σ L F' H' hp w => ?_)
    · walk_at "go"
      cases decide (r = 0) with
      | true =>
        walk_at "go"
        rw [List.length_map]
        exact nx_mk w ⟨cs.length, by omega, rfl, rfl⟩ (by walk_at "pk")
      | false =>
        walk_at "go"
        refine n_draw w (by walk_at "pick") (by decide) (by decide) fun r2 F1 H1 w r20 r21 => ?_
        obtain ⟨om, rfl⟩ : ∃ om : Nat, r2 = (om : Int) := ⟨r2.toNat, by omega⟩
        exact nx_mk w ⟨om, by omega, rfl, rfl⟩ (by walk_at "pk")
    obtain ⟨om, hom, rfl, rfl⟩ := hp
    walk_at "go"
    refine n_draw w (by walk_at "pick") (by decide) (by decide) fun many F1 H1 w y0 y1 => ?_
    walk_at "go"
    refine ⟨_, b, om, many, 400, rfl, rfl, rfl, rfl, w.st (by walk_at "pick"), by omega, by omega, by omega, by omega, by omega, fun p5 ys5 more F2 H2 h_p5 w2 mok hgm => ?_⟩
    have h_p5' := w.g.fresh h_p5
    replace w := w.calB (by walk_at "pick") w2 (by walk_at "app")
    obtain ⟨F2, w⟩ := w.fzL (p := p5) (by walk_at "pick") h_p5'
    walk_at "go"
    rw [List.length_map]
    by_cases e : om = cs.length
    · rw [decide_eq_true (show ((om : Nat) : Int) = (cs.length : Nat) by rw [e])]
      subst e
      walk_at "go"
      refine ⟨_, p5, ys5, cs.length, more, rfl, w.fh, sqL_of (w.i (fx p5 (.lst ys5)) (by walk_at "mem")), w.dpa (by walk_at "mem"), mok, fun p6 F6 H6 h_p6 w6 => ?_⟩
      have h_p6' := w.g.fresh h_p6
      replace w := w.cal .nil w6 (by walk_at "app")
      rw [cels_v] at w
      obtain ⟨F6, w⟩ := w.fzL (p := p6) (by walk_at "pick") h_p6'
      walk_at "go"
      obtain ⟨ds, eds⟩ : ∃ ds, ds = celsL more := ⟨_, rfl⟩
      have ok2 : ∀ d ∈ ds, d.ok cs.length := by rw [eds]; exact cels_ok mok.ok
      have hdl : ds.length ≤ 400 := by rw [eds, cels_len]; exact mok.sum
      have om_ := mid_ok oc ok2
      have lm : (ds.map (midC cs)).length ≤ 400 := by rw [List.length_map]; exact hdl
      rw [← eds] at w
      refine n_lcL (ds.map Cel.v) w (fun i ys L => ys = ((ds.take i).map (midC cs)).map Cel.v ∧ L = [fx p6 (.lst (ds.map Cel.v)), imL K a (cs.map Cel.v), fx p5 (.lst ys5), dpa K ys5 (more.map CRow.d), bag K b]) ⟨rfl, rfl⟩ (fun i ys L F' H' D hp w => ?_) (fun i x ys L F' H' D hx hp w hDn => ?_) (fun D ys L F' H' hp w hDn => ?_)
      · obtain ⟨rfl, rfl⟩ := hp
        walk_at "sq"
      · obtain ⟨rfl, rfl⟩ := hp
        rw [List.getElem?_map] at hx
        obtain ⟨d, hd, rfl⟩ : ∃ d, ds[i]? = some d ∧ x = d.v := by
          cases e : ds[i]? with
          | none => rw [e] at hx; cases hx
          | some d => rw [e] at hx; exact ⟨d, rfl, (Option.some.inj hx).symm⟩
        have hi := (List.getElem?_eq_some_iff.mp hd).1
        have dok := ok2 d (List.mem_of_getElem? hd)
        have e1 : ((ds.take (i + 1)).map (midC cs)).map Cel.v = ((ds.take i).map (midC cs)).map Cel.v ++ [(midC cs d).v] := by
          rw [List.take_add_one, hd, List.map_append, List.map_append]
          rfl
        have hl : (((ds.take i).map (midC cs)).map Cel.v).length ≤ 1000 := by
          rw [List.length_map, List.length_map, List.length_take]
          omega
        clear hx
        cases d with
        | pl j =>
          have hj : j < cs.length := dok
          dsimp only [Cel.v]
          walk_at "wp"
          walk_at "go"
          refine u_isi (F := F') (d := .int (j : Nat)) (.int _) w.fh (k_int _) ?_
          walk_at "go"
          refine w_is (c := true) rfl ?_
          walk_at "go"
          have hx2 : (cs.map Cel.v)[j]? = some (midC cs (.pl j)).v := by
            rw [List.getElem?_map, List.getElem?_eq_getElem hj]
            show some (cs[j].v) = some (cs.getD j (.sg 0)).v
            rw [List.getD_eq_getElem?_getD, List.getElem?_eq_getElem hj]
            rfl
          refine w_ixL _ _ (by walk_at "sq") (atI_nat hx2) ?_
          exact n_acc _ w ⟨e1.symm, rfl⟩ (by walk_at "pk") (small_lt (by omega))
        | sg j =>
          dsimp only [Cel.v]
          walk_at "wp"
          walk_at "go"
          refine u_isi (F := F') (d := .str ⟨#[j]⟩) (.str _) w.fh (k_int _) ?_
          walk_at "go"
          refine w_is (c := false) rfl ?_
          walk_at "go"
          exact n_acc _ w ⟨e1.symm, rfl⟩ (by walk_at "pk") (small_lt (by omega))
      · obtain ⟨rfl, rfl⟩ := hp
        rw [List.take_of_length_le (by rw [List.length_map]; exact Nat.le_refl _)] at w
        obtain ⟨F', w⟩ := w.fzL (p := D) (by walk_at "pick") hDn
        walk_at "go"
        refine n_make w fun c3 dxc3 H5 w h_c3 => ?_
        refine c_init w (by walk_at "pick") h_c3 (sqL_of (w.i (fx p5 (.lst ys5)) (by walk_at "mem"))) (w.dpa (by walk_at "mem")) (by omega) mok fun F5 H5 w => ?_
        walk_at "go"
        refine ⟨_, n, rows, more, w.fh, hC.same w.ff, by rw [← hcl]; exact w.i (chg K (.ref c3) cs.length more) (by walk_at "mem"), hok, by rw [← hcl]; exact mok, hn, fun v4 F6 H6 w6 => ?_⟩
        replace w := w.cal .nil w6 (by walk_at "app")
        rw [← ecs, ← eds] at w
        walk_at "go"
        refine ⟨_, D, (ds.map (midC cs)), n, rfl, w.fh, sqL_of (w.i (fx D _) (by walk_at "mem")), om_, by omega, lm, fun p9 ys9 F6 H6 h_p9 w6 => ?_⟩
        have h_p9' := w.g.fresh h_p9
        replace w := w.cal .nil w6 (by walk_at "app")
        obtain ⟨F6, w⟩ := w.fzL (p := p9) (by walk_at "pick") h_p9'
        walk_at "go"
        refine ⟨_, p9, ys9, n, (plainL (ds.map (midC cs))), rfl, rfl, w.fh, sqL_of (w.i (fx p9 (.lst ys9)) (by walk_at "mem")), w.dpa (by walk_at "mem"), w.i (chg K v4 n (plainL (ds.map (midC cs)))) (by walk_at "mem"), (plain_ok om_ lm), fun F9 H9 w9 => ?_⟩
        replace w := w.cal .nil w9 (by walk_at "app")
        walk_at "go"
        exact q _ _ (by walk_at "w")
    · rw [decide_eq_false (show ¬ ((om : Nat) : Int) = (cs.length : Nat) by omega)]
      walk_at "go"
      refine n_make w fun c3 dxc3 H5 w h_c3 => ?_
      refine c_init w (by walk_at "pick") h_c3 (sqL_of (w.i (fx p5 (.lst ys5)) (by walk_at "mem"))) (w.dpa (by walk_at "mem")) (by omega) mok fun F5 H5 w => ?_
      walk_at "go"
      refine ⟨_, n, rows, 2, rfl, w.fh, hC.same w.ff, hok, hn, .inr ⟨rfl, om, more, w.i (chg K (.ref c3) om more) (by walk_at "mem"), hom, by omega⟩, fun F6 H6 w6 => ?_⟩
      replace w := w.cal .nil w6 (by walk_at "app")
      exact q _ _ (by walk_at "w")
-- _law_undone
theorem ok_law_undone {f : Addr} {fd : FuncData} (F : FunD K "_law_undone" "_law_undone" (defArgs s_law_undone) (defBody s_law_undone) (defScope s_law_undone) [] [] f fd) (T : Txt K mg) (D_law_draw : DO P w K mg base 2 "_law_draw" ["bag", "many"] [] (S2 (φdraw K))) (D_law_plain : DO P w K mg base 1 "_law_plain" ["cells"] [] (S1 (φlplain K))) (D_law_refused : DO P w K mg base 3 "_law_refused" ["change", "way", "text", "strange"] [] (S4 (φrefX K))) (D_law_same : DO P w K mg base 10 "_law_same" ["found", "size", "rows"] [] (S3 (φsame K))) (D_law_text : DO P w K mg base 3 "_law_text" ["bag", "size"] [] (S2 (φtextN K))) (D_undone : DO P w K mg base 4 "undone" ["change", "old"] [] (S2 (φundone K))) : FnOk P w K mg base CX0 11 f fd ["bag", "change", "size", "cells"] (S4 (φbehind10 K)) := by
  refine F.ok sc_law_undone (fun vs H Q E h => ?_) (fun cdv A outer s H vs Q E hr h => ?_)
  · exact S4.len h
  · match vs, h with
    | [v0, v1, v2, v3], h =>
    have hu := hu_of hr
    refine ⟨_, PSs.nox (pss_cons (ps_set (i := 4) sc_law_undone.nd rfl (.inr rfl) (pcall D_law_text hr (pa_cons (pv 0) (pa_cons (pe_ifExp (pt_cmpR op_eq (pcall D_law_draw hr (pa_cons (pv 0) (pa_cons pe_int pa_nil))) pe_int (nomark _)) (pcall D_law_draw hr (pa_cons (pv 0) (pa_cons pe_int pa_nil))) (pv 2)) pa_nil))))
      (pss_cons (ps_if (pt_cmpR op_ne (pe_callB clLenS (by rfl) T.b_len (by decide +kernel) (pa_cons (pv 4) pa_nil)) (pv 2) (nomark _)) (pss_one (ps_ret (pcall D_law_refused hr (pa_cons (pv 1) (pa_cons pe_int (pa_cons (pv 4) (pa_cons pe_non pa_nil))))))) pss_nil)
      (pss_cons (ps_setLc (i := 5) (own := [("place", 6)]) (g := gName 6) rfl sc_law_undone.nd rfl rfl (sw_true rfl rfl rfl (by decide +kernel)) (pi_range1 rfl T.b_range (pa_cons (pv 2) pa_nil)) (blkOk_by (own := [("place", 6)]) (N := ["bag", "change", "size", "cells", "old", "due", "place"]) (sc := defScope s_law_undone) (by decide +kernel)) (fun _ _ _ _ _ => pg_name (i := 6) sc_law_undone.nd rfl (Or.inl rfl)) (fun _ _ _ _ _ => pts_nil) (fun _ _ _ _ _ => (pe_ifExp (pt_cmpR (opIn (K := K)) (pv 6) (pv 3) (by rfl)) (peBM (K := K) PySem.F.plainAttrs_list PySem.F.slot_list_index PySem.F.type_list_index mtIndex (pv 3) (pa_cons (pv 6) pa_nil)) (pe_ix ix_str (pv 4) (pv 6) (fun _ _ => rfl)))))
      (pss_one (ps_ret (pcall D_law_same hr (pa_cons (pcall D_undone hr (pa_cons (pv 1) (pa_cons (pv 4) pa_nil))) (pa_cons (pe_callB (clLenQ (K := K)) (by rfl) T.b_len (by decide +kernel) (pa_cons (pv 3) pa_nil)) (pa_cons (pcall D_law_plain hr (pa_cons (pv 5) pa_nil)) pa_nil))))))))), ?_⟩
    rw [show start ["bag", "change", "size", "cells", "old", "due", "place"] [v0, v1, v2, v3] = [some v0, some v1, some v2, some v3, none, none, none] from rfl]
    have kC := T.k_Change
    have kS := T.na_Change_size
    have kR := T.na_Change_rows
    
    obtain ⟨F, b, a, n, rows, rfl, rfl, rfl, s0, hC, hok, hn, hS, q⟩ := h
    have w := (s0.w (M := [b])).push (imL K a ((celsL rows).map Cel.v)) hS
    obtain ⟨cs, ecs⟩ : ∃ cs, cs = celsL rows := ⟨_, rfl⟩
    have hcl : cs.length = givesL rows := by rw [ecs]; exact cels_len rows
    have hcs := hok.sum
    rw [← ecs] at w
    walk_at "go"
    refine n_draw w (by walk_at "pick") (by decide) (by decide) fun r F1 H1 w r0 r1 => ?_
    walk_at "go"
    refine w_ite (fun h0 => ?_) (fun h0 => ?_)
    · walk_at "go"
      refine n_draw w (by walk_at "pick") (by decide) (by decide) fun r2 F1 H1 w r20 r21 => ?_
      obtain ⟨om, rfl⟩ : ∃ om : Nat, r2 = (om : Int) := ⟨r2.toNat, by omega⟩
      have hom : om ≤ 400 := by omega
      walk_at "go"
      refine ⟨_, b, (om : Nat), rfl, rfl, w.st (by walk_at "pick"), by omega, by omega, fun o F2 H2 w2 ho oko => ?_⟩
      replace w := w.calB (by walk_at "pick") w2 (by walk_at "app")
      walk_at "go"
      by_cases e : o.length = n
      · subst e
        rw [decide_eq_true (show ((o.length : Nat) : Int) = (o.length : Nat) from rfl)]
        have hlo : (cd o).length = o.length := cd_len o
        walk_at "go"
        refine n_lcR w (fun i ys L => ys = ((List.range i).map (backC cs (cd o))).map Cel.v ∧ L = [imL K a (cs.map Cel.v), bag K b]) ⟨rfl, rfl⟩ (fun i ys L F' H' D2 hi hp w hDn => ?_) (fun D2 ys L F' H' hp w hDn => ?_)
        · obtain ⟨rfl, rfl⟩ := hp
          have hi2 : i < o.length := by omega
          walk_at "wp"
          walk_at "go"
          have fin : ∀ {v : V}, v = (backC cs (cd o) i).v → accG D2 (NxC [b] F H (fun ys L => ys = ((List.range (i + 1)).map (backC cs (cd o))).map Cel.v ∧ L = [imL K a (cs.map Cel.v), bag K b]) D2) v H' := by
            intro v hv
            subst hv
            refine n_acc _ w ⟨?_, rfl⟩ (by walk_at "pk") (small_lt (by rw [List.length_map, List.length_map, List.length_range]; omega))
            rw [List.range_succ, List.map_append, List.map_append]
            rfl
          refine ⟨a, cs.map Cel.v, rfl, .inl (by walk_at "sq"), rfl, cels_flat cs, ?_⟩
          rw [in_first]
          cases e : firstTo cs cs.length i with
          | some j =>
            rw [show (if false = true then !(some j).isSome else (some j).isSome) = true from rfl]
            walk_at "go"
            refine n_index (by walk_at "sq") e ?_
            exact fin (by unfold backC; rw [e]; rfl)
          | none =>
            rw [show (if false = true then !(none : Option Nat).isSome else (none : Option Nat).isSome) = false from rfl]
            walk_at "go"
            refine w_ixS (szle (by omega)) (sign_get hi2) ?_
            exact fin (by unfold backC; rw [e]; rfl)
        · obtain ⟨rfl, rfl⟩ := hp
          rw [show (List.range ((o.length : Nat) : Int).toNat).map (backC cs (cd o)) = backs cs (cd o) by unfold backs; rw [hlo]; rfl] at w
          obtain ⟨F', w⟩ := w.fzL (p := D2) (by walk_at "pick") hDn
          walk_at "go"
          refine ⟨_, o, rows, rfl, w.fh, hC.same w.ff, hok, oko, hn, fun v4 F6 H6 w6 => ?_⟩
          replace w := w.cal .nil w6 (by walk_at "app")
          rw [← ecs, ← hcl] at w
          walk_at "go"
          rw [List.length_map]
          refine ⟨_, D2, (backs cs (cd o)), cs.length, rfl, w.fh, sqL_of (w.i (fx D2 _) (by walk_at "mem")), (back_ok oko), by omega, by rw [backs_len, hlo]; omega, fun p9 ys9 F6 H6 h_p9 w6 => ?_⟩
          have h_p9' := w.g.fresh h_p9
          replace w := w.cal .nil w6 (by walk_at "app")
          obtain ⟨F6, w⟩ := w.fzL (p := p9) (by walk_at "pick") h_p9'
          walk_at "go"
          refine ⟨_, p9, ys9, cs.length, (plainL (backs cs (cd o))), rfl, rfl, w.fh, sqL_of (w.i (fx p9 (.lst ys9)) (by walk_at "mem")), w.dpa (by walk_at "mem"), w.i (chg K v4 cs.length (plainL (backs cs (cd o)))) (by walk_at "mem"), (plain_ok (back_ok oko) (by rw [backs_len, hlo]; omega)), fun F9 H9 w9 => ?_⟩
          replace w := w.cal .nil w9 (by walk_at "app")
          walk_at "go"
          exact q _ _ (by walk_at "w")
      · rw [decide_eq_false (show ¬ ((o.length : Nat) : Int) = (n : Nat) by omega)]
        walk_at "go"
        refine ⟨_, n, rows, 1, rfl, w.fh, hC.same w.ff, hok, hn, .inl ⟨.inr rfl, o, rfl, by omega, e⟩, fun F6 H6 w6 => ?_⟩
        replace w := w.cal .nil w6 (by walk_at "app")
        exact q _ _ (by walk_at "w")
    · walk_at "go"
      refine ⟨_, b, (n : Nat), rfl, rfl, w.st (by walk_at "pick"), by omega, by omega, fun o F2 H2 w2 ho oko => ?_⟩
      replace w := w.calB (by walk_at "pick") w2 (by walk_at "app")
      walk_at "go"
      by_cases e : o.length = n
      · subst e
        rw [decide_eq_true (show ((o.length : Nat) : Int) = (o.length : Nat) from rfl)]
        have hlo : (cd o).length = o.length := cd_len o
        walk_at "go"
        refine n_lcR w (fun i ys L => ys = ((List.range i).map (backC cs (cd o))).map Cel.v ∧ L = [imL K a (cs.map Cel.v), bag K b]) ⟨rfl, rfl⟩ (fun i ys L F' H' D2 hi hp w hDn => ?_) (fun D2 ys L F' H' hp w hDn => ?_)
        · obtain ⟨rfl, rfl⟩ := hp
          have hi2 : i < o.length := by omega
          walk_at "wp"
          walk_at "go"
          have fin : ∀ {v : V}, v = (backC cs (cd o) i).v → accG D2 (NxC [b] F H (fun ys L => ys = ((List.range (i + 1)).map (backC cs (cd o))).map Cel.v ∧ L = [imL K a (cs.map Cel.v), bag K b]) D2) v H' := by
            intro v hv
            subst hv
            refine n_acc _ w ⟨?_, rfl⟩ (by walk_at "pk") (small_lt (by rw [List.length_map, List.length_map, List.length_range]; omega))
            rw [List.range_succ, List.map_append, List.map_append]
            rfl
          refine ⟨a, cs.map Cel.v, rfl, .inl (by walk_at "sq"), rfl, cels_flat cs, ?_⟩
          rw [in_first]
          cases e : firstTo cs cs.length i with
          | some j =>
            rw [show (if false = true then !(some j).isSome else (some j).isSome) = true from rfl]
            walk_at "go"
            refine n_index (by walk_at "sq") e ?_
            exact fin (by unfold backC; rw [e]; rfl)
          | none =>
            rw [show (if false = true then !(none : Option Nat).isSome else (none : Option Nat).isSome) = false from rfl]
            walk_at "go"
            refine w_ixS (szle (by omega)) (sign_get hi2) ?_
            exact fin (by unfold backC; rw [e]; rfl)
        · obtain ⟨rfl, rfl⟩ := hp
          rw [show (List.range ((o.length : Nat) : Int).toNat).map (backC cs (cd o)) = backs cs (cd o) by unfold backs; rw [hlo]; rfl] at w
          obtain ⟨F', w⟩ := w.fzL (p := D2) (by walk_at "pick") hDn
          walk_at "go"
          refine ⟨_, o, rows, rfl, w.fh, hC.same w.ff, hok, oko, hn, fun v4 F6 H6 w6 => ?_⟩
          replace w := w.cal .nil w6 (by walk_at "app")
          rw [← ecs, ← hcl] at w
          walk_at "go"
          rw [List.length_map]
          refine ⟨_, D2, (backs cs (cd o)), cs.length, rfl, w.fh, sqL_of (w.i (fx D2 _) (by walk_at "mem")), (back_ok oko), by omega, by rw [backs_len, hlo]; omega, fun p9 ys9 F6 H6 h_p9 w6 => ?_⟩
          have h_p9' := w.g.fresh h_p9
          replace w := w.cal .nil w6 (by walk_at "app")
          obtain ⟨F6, w⟩ := w.fzL (p := p9) (by walk_at "pick") h_p9'
          walk_at "go"
          refine ⟨_, p9, ys9, cs.length, (plainL (backs cs (cd o))), rfl, rfl, w.fh, sqL_of (w.i (fx p9 (.lst ys9)) (by walk_at "mem")), w.dpa (by walk_at "mem"), w.i (chg K v4 cs.length (plainL (backs cs (cd o)))) (by walk_at "mem"), (plain_ok (back_ok oko) (by rw [backs_len, hlo]; omega)), fun F9 H9 w9 => ?_⟩
          replace w := w.cal .nil w9 (by walk_at "app")
          walk_at "go"
          exact q _ _ (by walk_at "w")
      · rw [decide_eq_false (show ¬ ((o.length : Nat) : Int) = (n : Nat) by omega)]
        walk_at "go"
        refine ⟨_, n, rows, 1, rfl, w.fh, hC.same w.ff, hok, hn, .inl ⟨.inr rfl, o, rfl, by omega, e⟩, fun F6 H6 w6 => ?_⟩
        replace w := w.cal .nil w6 (by walk_at "app")
        exact q _ _ (by walk_at "w")
-- _law_deed
theorem ok_law_deed {f : Addr} {fd : FuncData} (F : FunD K "_law_deed" "_law_deed" (defArgs s_law_deed) (defBody s_law_deed) (defScope s_law_deed) [] [] f fd) (T : Txt K mg) (D_law_alike : DO P w K mg base 6 "_law_alike" ["found", "due"] [] (S2 (φalike K 6))) (D_law_behind : DO P w K mg base 11 "_law_behind" ["bag", "change", "size", "cells"] [] (S4 (φbehind10 K))) (D_law_cells : DO P w K mg base 1 "_law_cells" ["rows"] [] (S1 (φlcells K))) (D_law_done : DO P w K mg base 1 "_law_done" ["cells", "old"] [] (S2 (φldone K))) (D_law_draw : DO P w K mg base 2 "_law_draw" ["bag", "many"] [] (S2 (φdraw K))) (D_law_parted : DO P w K mg base 4 "_law_parted" ["bag", "changes", "rows", "size"] [] (S4 (φparted10 K))) (D_law_plain : DO P w K mg base 1 "_law_plain" ["cells"] [] (S1 (φlplain K))) (D_law_refused : DO P w K mg base 3 "_law_refused" ["change", "way", "text", "strange"] [] (S4 (φrefX K))) (D_law_same : DO P w K mg base 10 "_law_same" ["found", "size", "rows"] [] (S3 (φsame K))) (D_law_text : DO P w K mg base 3 "_law_text" ["bag", "size"] [] (S2 (φtextN K))) (D_law_undone : DO P w K mg base 11 "_law_undone" ["bag", "change", "size", "cells"] [] (S4 (φbehind10 K))) (D_law_written : DO P w K mg base 1 "_law_written" ["size", "rows"] [] (S2 (φwritten K))) (D_plainest : DO P w K mg base 4 "plainest" ["change"] [] (S1 (φplainest K))) (DM_ChangeX_strX : DM P w K mg base 2 "Change" "__str__" ["self"] [] (S1 (φstr K))) (DM_Change_cells : DM P w K mg base 1 "Change" "cells" ["self"] [] (S1 (φcells K))) (DM_Change_done : DM P w K mg base 2 "Change" "done" ["self", "old"] [] (S2 (φdoneC K))) : FnOk P w K mg base CX0 12 f fd ["bag", "changes", "rows", "size", "told_lists"] (S5 (φdeed10 K)) := by
  refine F.ok sc_law_deed (fun vs H Q E h => ?_) (fun cdv A outer s H vs Q E hr h => ?_)
  · exact S5.len h
  · match vs, h with
    | [v0, v1, v2, v3, v4], h =>
    have hu := hu_of hr
    refine ⟨_, PSs.nox (pss_cons (ps_set (i := 5) sc_law_deed.nd rfl (.inl rfl) (pcall D_law_draw hr (pa_cons (pv 0) (pa_cons pe_int pa_nil))))
      (pss_cons (ps_set (i := 6) sc_law_deed.nd rfl (.inl rfl) (pcall D_law_draw hr (pa_cons (pv 0) (pa_cons pe_int pa_nil))))
      (pss_cons (ps_set (i := 7) sc_law_deed.nd rfl (.inl rfl) (pcall D_law_cells hr (pa_cons (pe_ix (ixL (K := K)) (pv 2) (pv 6) (fun _ _ => rfl)) pa_nil)))
      (C8.pss_cut (ps_if (pt_cmpR op_eq (pv 5) pe_int (nomark _)) (pss_cons (ps_set (i := 8) sc_law_deed.nd rfl (.inl rfl) (pmeth0 DM_Change_cells hr (pe_ix (ixL (K := K)) (pv 1) (pv 6) (fun _ _ => rfl))))
      (pss_cons (ps_if (pt_not (pt_val (pcall D_law_alike hr (pa_cons (pv 8) (pa_cons (pv 7) pa_nil))))) (pss_one (ps_ret pe_bl)) pss_nil)
      (C8.pss_cut (ps_if (pt_cmpR op_eq (pcall D_law_draw hr (pa_cons (pv 0) (pa_cons pe_int pa_nil))) pe_int (nomark _)) (pss_one (ps_expr (peBM (K := K) PySem.F.plainAttrs_list PySem.F.slot_list_append PySem.F.type_list_append mt_append (pv 8) (pa_cons pe_int pa_nil)))) pss_nil)
      (pss_one (ps_expr (peBM (K := K) PySem.F.plainAttrs_list PySem.F.slot_list_append PySem.F.type_list_append mt_append (pv 4) (pa_cons (pe_tup (pa_cons (pv 8) (pa_cons (pe_callTy (clListOf (K := K)) (by rfl) T.b_list (by decide +kernel) (pa_cons (pv 8) pa_nil)) pa_nil))) pa_nil))))))) pss_nil)
      (C8.pss_cut (ps_set (i := 9) sc_law_deed.nd rfl (.inl rfl) (pcall D_law_text hr (pa_cons (pv 0) (pa_cons (pe_ifExp (pt_cmpR op_eq (pv 5) pe_int (nomark _)) (pcall D_law_draw hr (pa_cons (pv 0) (pa_cons pe_int pa_nil))) (pv 3)) pa_nil))))
      (C8.pss_cut (ps_if (PW.pt (pw_and (pt_cmpR op_eq (pv 5) pe_int (nomark _)) (pw_and1 (pt_cmpR op_ne (pe_callB clLenS (by rfl) T.b_len (by decide +kernel) (pa_cons (pv 9) pa_nil)) (pv 3) (nomark _))))) (pss_one (ps_ret (pcall D_law_refused hr (pa_cons (pe_ix (ixL (K := K)) (pv 1) (pv 6) (fun _ _ => rfl)) (pa_cons pe_int (pa_cons (pv 9) (pa_cons pe_non pa_nil))))))) pss_nil)
      (pss_cons (ps_if (pt_cmpR op_eq (pv 5) pe_int (nomark _)) (pss_one (ps_ret (pcall D_law_alike hr (pa_cons (pmeth DM_Change_done hr (pe_ix (ixL (K := K)) (pv 1) (pv 6) (fun _ _ => rfl)) (pa_cons (pv 9) pa_nil)) (pa_cons (pcall D_law_done hr (pa_cons (pv 7) (pa_cons (pv 9) pa_nil))) pa_nil))))) pss_nil)
      (pss_cons (ps_if (pt_cmpR op_eq (pv 5) pe_int (nomark _)) (pss_one (ps_ret (pcall D_law_parted hr (pa_cons (pv 0) (pa_cons (pv 1) (pa_cons (pv 2) (pa_cons (pv 3) pa_nil))))))) pss_nil)
      (pss_cons (ps_if (pt_cmpR op_eq (pv 5) pe_int (nomark _)) (pss_one (ps_ret (pcall D_law_behind hr (pa_cons (pv 0) (pa_cons (pe_ix (ixL (K := K)) (pv 1) (pv 6) (fun _ _ => rfl)) (pa_cons (pv 3) (pa_cons (pv 7) pa_nil))))))) pss_nil)
      (pss_cons (ps_if (pt_cmpR op_eq (pv 5) pe_int (nomark _)) (pss_one (ps_ret (pcall D_law_undone hr (pa_cons (pv 0) (pa_cons (pe_ix (ixL (K := K)) (pv 1) (pv 6) (fun _ _ => rfl)) (pa_cons (pv 3) (pa_cons (pv 7) pa_nil))))))) pss_nil)
      (pss_cons (ps_if (pt_cmpR op_eq (pv 5) pe_int (nomark _)) (pss_one (ps_ret (pcall D_law_same hr (pa_cons (pcall D_plainest hr (pa_cons (pe_ix (ixL (K := K)) (pv 1) (pv 6) (fun _ _ => rfl)) pa_nil)) (pa_cons (pv 3) (pa_cons (pcall D_law_plain hr (pa_cons (pv 7) pa_nil)) pa_nil)))))) pss_nil)
      (pss_one (ps_ret (pcall D_law_alike hr (pa_cons (pe_callTy (clStrO DM_ChangeX_strX hr (by decide)) (by rfl) T.b_str (by decide +kernel) (pa_cons (pe_ix (ixL (K := K)) (pv 1) (pv 6) (fun _ _ => rfl)) pa_nil)) (pa_cons (pcall D_law_written hr (pa_cons (pv 3) (pa_cons (pe_ix (ixL (K := K)) (pv 2) (pv 6) (fun _ _ => rfl)) pa_nil))) pa_nil)))))))))))))))), ?_⟩
    rw [show start ["bag", "changes", "rows", "size", "told_lists", "way", "at", "cells", "found", "old"] [v0, v1, v2, v3, v4] = [some v0, some v1, some v2, some v3, some v4, none, none, none, none, none] from rfl]
    have kC := T.k_Change
    have kS := T.na_Change_size
    have kR := T.na_Change_rows
    
    obtain ⟨F, b, t, n, ts, css, cv, rw_, pv, pvs, rfl, rfl, rfl, s0, hT, htd, htl, hP, hn, q⟩ := h
    have hP0 := hP
    obtain ⟨⟨ca, rfl, hca⟩, ⟨ra, rfl, hra⟩, hit⟩ := hP
    have w := (((s0.w (M := [t, b])).push (imL K ca [cv 0, cv 1]) hca).push (imL K ra [.ref (pv 0), .ref (pv 1)]) hra).push (dpa K ts (css.map twinD)) hT
    walk_at "go"
    refine n_draw w (by walk_at "pick") (by decide) (by decide) fun way F1 H1 w y0 y1 => ?_
    walk_at "go"
    refine n_draw w (by walk_at "pick") (by decide) (by decide) fun r F1 H1 w r0 r1 => ?_
    obtain ⟨i, rfl⟩ : ∃ i : Nat, r = (i : Int) := ⟨r.toNat, by omega⟩
    have hi : i < 2 := by omega
    obtain ⟨a1, a2, a3, a4⟩ := hit i hi
    have gr := two_at (fun k => V.ref (pv k)) hi
    have gc := two_at cv hi
    have a30 := a3
    obtain ⟨c1, dx1, r1, us1, ec1, hc1, hr1, hE1⟩ := a3
    rw [ec1] at gc a30
    replace w := w.push (fx c1 _) (w.ff _ _ hc1)
    unfold insC at w
    walk_at "go"
    refine w_ixL _ _ (by walk_at "sq") gr ?_
    walk_at "go"
    refine ⟨_, (pv i), (pvs i), n, (rw_ i), rfl, w.fh, sqL_same w.ff a1, dpa_same w.ff _ _ a2, a4, fun p1 F6 H6 h_p1 w6 => ?_⟩
    have h_p1' := w.g.fresh h_p1
    replace w := w.cal .nil w6 (by walk_at "app")
    rw [cels_v] at w
    obtain ⟨F6, w⟩ := w.fzL (p := p1) (by walk_at "pick") h_p1'
    walk_at "go"
    obtain ⟨cs, ecs⟩ : ∃ cs, cs = celsL (rw_ i) := ⟨_, rfl⟩
    have csk : ∀ c ∈ cs, c.ok n := by rw [ecs]; exact cels_ok a4.ok
    have csl : cs.length ≤ 400 := by rw [ecs, cels_len]; exact a4.sum
    have hcl : cs.length = givesL (rw_ i) := by rw [ecs]; exact cels_len _
    have cg := cels_good csk (by omega)
    have okP := plain_ok csk csl
    rw [← ecs] at w
    refine n_cut w (fun σ L => ∃ (ts2 : List V) (css2 : List (List Cel)) (y8 : Option V), σ = [some (.ref b), some (.ref ca), some (.ref ra), some (.int (n : Nat)), some (.ref t), some (.int way), some (.int (i : Nat)), some (.ref p1), y8, none] ∧ Told css2 ∧ ts2.length ≤ ts.length + 1 ∧ L = [mu t (.lst ts2), dpa K ts2 (css2.map twinD), fx p1 (.lst (cs.map Cel.v)), imL K ca [cv 0, cv 1], imL K ra [.ref (pv 0), .ref (pv 1)], fx c1 (.ins (He.ga K "Change") dx1 [("size", .int (n : Nat)), ("rows", .ref r1)]), bag K b]) ?_ (fun σ L F' H' hp w => ?_)
    · walk_at "go"
      refine w_ite (fun h0 => ?_) (fun h0 => ?_)
      · walk_at "go"
        refine w_ixL _ _ (by walk_at "sq") gc ?_
        walk_at "go"
        refine ⟨_, n, rw_ i, w.fh, a30.same w.ff, a4, by omega, fun p2 F5 H5 hp2 w5 => ?_⟩
        have hp2' := w.g.fresh hp2
        replace w := w.cal .nil w5 (by walk_at "app")
        rw [cels_v, ← ecs] at w
        walk_at "go"
        refine ⟨_, .list (cs.map Cel.d), Same.refl _, .lst (by walk_at "sq") (dpa_cels cs), .lst (by walk_at "sq") (dpa_cels cs), Nat.lt_of_le_of_lt cg.2 (by decide), cg.1, fun F9 H9 g9 => ?_⟩
        replace w := w.ro0' g9
        walk_at "go"
        refine n_cut w (fun σ L => ∃ cx : List Cel, σ = [some (.ref b), some (.ref ca), some (.ref ra), some (.int (n : Nat)), some (.ref t), some (.int way), some (.int (i : Nat)), some (.ref p1), some (.ref p2), none] ∧ (∀ c ∈ cx, c.ok 401) ∧ cx.length ≤ 401 ∧ L = [mu p2 (.lst (cx.map Cel.v)), mu t (.lst ts), dpa K ts (css.map twinD), fx p1 (.lst (cs.map Cel.v)), imL K ca [cv 0, cv 1], imL K ra [.ref (pv 0), .ref (pv 1)], fx c1 (.ins (He.ga K "Change") dx1 [("size", .int (n : Nat)), ("rows", .ref r1)]), bag K b]) ?_ (fun σ L F' H' hp w => ?_)
        · walk_at "go"
          refine n_draw w (by walk_at "pick") (by decide) (by decide) fun r2 F1 H1 w r20 r21 => ?_
          walk_at "go"
          refine w_ite (fun h1 => ?_) (fun h1 => ?_)
          · walk_at "go"
            refine n_app w (by walk_at "pick") (small_lt (by rw [List.length_map]; omega)) fun H5 w => ?_
            rw [show cs.map Cel.v ++ [V.int 0] = (cs ++ [Cel.pl 0]).map Cel.v by rw [List.map_append]; rfl] at w
            walk_at "go"
            exact nx_mk w ⟨cs ++ [Cel.pl 0], rfl, more_ok csk (by omega), by rw [List.length_append]; show _ + 1 ≤ _; omega, rfl⟩ (by walk_at "pk")
          · walk_at "go"
            refine nx_mk w ⟨cs, rfl, fun c hc => ?_, by omega, rfl⟩ (by walk_at "pk")
            have := more_ok csk (by omega) c (List.mem_append_left _ hc)
            exact this
        obtain ⟨cx, rfl, okx, lx, rfl⟩ := hp
        walk_at "go"
        refine n_listOf w (by walk_at "sq") fun p3 F6 H6 w hp3 => ?_
        walk_at "go"
        refine n_tup w (szle (by simp)) fun tt F6 H6 w => ?_
        walk_at "go"
        refine n_app w (by walk_at "pick") (small_lt (by omega)) fun H6 w => ?_
        obtain ⟨F6, w⟩ := w.fzL (p := p2) (by walk_at "pick") hp2'
        obtain ⟨F6, w⟩ := w.fzL (p := p3) (by walk_at "pick") hp3
        have dT : Dp K F6 (.ref tt) (twinD cx) := twin_new (w.i (fx tt _) (by walk_at "mem")) (w.i (fx p2 _) (by walk_at "mem")) (w.i (fx p3 _) (by walk_at "mem"))
        have dA := dpa_snoc (w.dpa (K := K) (xs := ts) (ds := css.map twinD) (by walk_at "mem")) dT
        rw [show css.map twinD ++ [twinD cx] = (css ++ [cx]).map twinD by rw [List.map_append]; rfl] at dA
        replace w := w.push (dpa K _ _) dA
        walk_at "go"
        exact nx_mk w ⟨ts ++ [.ref tt], css ++ [cx], _, rfl, told_snoc htd okx (by omega), by rw [List.length_append]; exact Nat.le_refl _, rfl⟩ (by walk_at "pk")
      · walk_at "go"
        exact nx_mk w ⟨ts, css, _, rfl, htd, Nat.le_succ _, rfl⟩ (by walk_at "pk")
    obtain ⟨ts2, css2, y8, rfl, htd2, hts2, rfl⟩ := hp
    refine n_cut w (fun σ L => ∃ o : Str, σ = [some (.ref b), some (.ref ca), some (.ref ra), some (.int (n : Nat)), some (.ref t), some (.int way), some (.int (i : Nat)), some (.ref p1), y8, some (.str o)] ∧ okS o ∧ o.length ≤ 400 ∧ (way ≠ 1 → o.length = n) ∧ L = [mu t (.lst ts2), dpa K ts2 (css2.map twinD), fx p1 (.lst (cs.map Cel.v)), imL K ca [cv 0, cv 1], imL K ra [.ref (pv 0), .ref (pv 1)], fx c1 (.ins (He.ga K "Change") dx1 [("size", .int (n : Nat)), ("rows", .ref r1)]), bag K b]) ?_ (fun σ L F' H' hp w => ?_)
    · walk_at "go"
      refine w_ite (fun h0 => ?_) (fun h0 => ?_)
      · walk_at "go"
        refine n_draw w (by walk_at "pick") (by decide) (by decide) fun r2 F1 H1 w r20 r21 => ?_
        obtain ⟨om, rfl⟩ : ∃ om : Nat, r2 = (om : Int) := ⟨r2.toNat, by omega⟩
        have hom : om ≤ 400 := by omega
        walk_at "go"
        refine ⟨_, b, (om : Nat), rfl, rfl, w.st (by walk_at "pick"), by omega, by omega, fun o F2 H2 w2 ho oko => ?_⟩
        replace w := w.calB (by walk_at "pick") w2 (by walk_at "app")
        walk_at "go"
        exact nx_mk w ⟨o, rfl, oko, by omega, fun z => absurd h0 z, rfl⟩ (by walk_at "pk")
      · walk_at "go"
        refine ⟨_, b, (n : Nat), rfl, rfl, w.st (by walk_at "pick"), by omega, by omega, fun o F2 H2 w2 ho oko => ?_⟩
        replace w := w.calB (by walk_at "pick") w2 (by walk_at "app")
        walk_at "go"
        exact nx_mk w ⟨o, rfl, oko, by omega, fun _ => by omega, rfl⟩ (by walk_at "pk")
    obtain ⟨o, rfl, oko, lo, hon, rfl⟩ := hp
    have done : ∀ {F3 H3 L}, W [t, b] F H F3 H3 L → Pk L [mu t (.lst ts2), dpa K ts2 (css2.map twinD), bag K b] → Q (.bl true) H3 := fun w k => q ts2 css2 _ _ (w.pk k) htd2 hts2
    refine n_cut w (fun σ L => o.length = n ∧ σ = [some (.ref b), some (.ref ca), some (.ref ra), some (.int (n : Nat)), some (.ref t), some (.int way), some (.int (i : Nat)), some (.ref p1), y8, some (.str o)] ∧ L = [mu t (.lst ts2), dpa K ts2 (css2.map twinD), fx p1 (.lst (cs.map Cel.v)), imL K ca [cv 0, cv 1], imL K ra [.ref (pv 0), .ref (pv 1)], fx c1 (.ins (He.ga K "Change") dx1 [("size", .int (n : Nat)), ("rows", .ref r1)]), bag K b]) ?_ (fun σ L F' H' hp w => ?_)
    · walk_at "go"
      refine w_ite (fun h1 => ?_) (fun h1 => ?_)
      · by_cases e : o.length = n
        · walk_at "go"
          rw [decide_eq_true (show ((o.length : Nat) : Int) = (n : Nat) by rw [e])]
          walk_at "go"
          exact nx_mk w ⟨e, rfl, rfl⟩ (by walk_at "pk")
        · walk_at "go"
          rw [decide_eq_false (show ¬ ((o.length : Nat) : Int) = (n : Nat) by omega)]
          walk_at "go"
          refine w_ixL _ _ (by walk_at "sq") gc ?_
          walk_at "go"
          refine ⟨_, n, rw_ i, 0, rfl, w.fh, a30.same w.ff, a4, hn, .inl ⟨.inl rfl, o, rfl, by omega, e⟩, fun F6 H6 w6 => ?_⟩
          replace w := w.cal .nil w6 (by walk_at "app")
          exact done w (by walk_at "pk")
      · walk_at "go"
        exact nx_mk w ⟨hon h1, rfl, rfl⟩ (by walk_at "pk")
    obtain ⟨e, rfl, rfl⟩ := hp
    subst e
    walk_at "go"
    refine w_ite (fun h2 => ?_) (fun h2 => ?_)
    · walk_at "go"
      refine w_ixL _ _ (by walk_at "sq") gc ?_
      walk_at "go"
      refine ⟨_, o, (rw_ i), rfl, w.fh, a30.same w.ff, a4, oko, by omega, fun s1 F5 H5 w5 h_s1 ok_s1 => ?_⟩
      replace w := w.cal .nil w5 (by walk_at "app")
      walk_at "go"
      refine ⟨_, p1, cs.map Cel.v, o, rfl, rfl, w.fh, sqL_of (w.i (fx p1 _) (by walk_at "mem")), fun v hv => ?_, by rw [List.length_map]; omega, oko, by omega, fun s2 F5 H5 w5 h_s2 ok_s2 => ?_⟩
      · obtain ⟨c, hc, rfl⟩ := List.mem_map.mp hv
        exact cel_cellok (csk c hc)
      replace w := w.cal .nil w5 (by walk_at "app")
      walk_at "go"
      have es : s1 = s2 := cd_inj (by rw [h_s1, h_s2, outs_cels, mk_cels a4.ok, ecs])
      subst es
      refine ⟨_, .str s1, w.fh, .str _, .str _, by show (0 : Nat) < 6; decide, str_good ok_s1 (Nat.le_trans (show s1.length ≤ 400 by rw [← cd_len, h_s1, mks_len (cd_len o) a4.ok]; exact a4.sum) (by decide)), fun F9 H9 g9 => ?_⟩
      replace w := w.gr0 g9
      exact done w (by walk_at "pk")
    walk_at "go"
    refine w_ite (fun h3 => ?_) (fun h3 => ?_)
    · walk_at "go"
      refine ⟨_, b, o.length, cv, rw_, pv, pvs, rfl, rfl, w.st (by walk_at "pick"), hP0.same w.ff, hn, fun F6 H6 w6 => ?_⟩
      replace w := w.calB (by walk_at "pick") w6 (by walk_at "app")
      exact done w (by walk_at "pk")
    walk_at "go"
    refine w_ite (fun h4 => ?_) (fun h4 => ?_)
    · walk_at "go"
      refine w_ixL _ _ (by walk_at "sq") gc ?_
      walk_at "go"
      refine ⟨_, b, p1, o.length, rw_ i, rfl, rfl, rfl, w.st (by walk_at "pick"), a30.same w.ff, a4, hn, by rw [← ecs]; exact sqL_of (w.i (fx p1 _) (by walk_at "mem")), fun F6 H6 w6 => ?_⟩
      replace w := w.calB (by walk_at "pick") w6 (by walk_at "app")
      exact done w (by walk_at "pk")
    walk_at "go"
    refine w_ite (fun h5 => ?_) (fun h5 => ?_)
    · walk_at "go"
      refine w_ixL _ _ (by walk_at "sq") gc ?_
      walk_at "go"
      refine ⟨_, b, p1, o.length, rw_ i, rfl, rfl, rfl, w.st (by walk_at "pick"), a30.same w.ff, a4, hn, by rw [← ecs]; exact sqL_of (w.i (fx p1 _) (by walk_at "mem")), fun F6 H6 w6 => ?_⟩
      replace w := w.calB (by walk_at "pick") w6 (by walk_at "app")
      exact done w (by walk_at "pk")
    walk_at "go"
    refine w_ite (fun h6 => ?_) (fun h6 => ?_)
    · walk_at "go"
      refine w_ixL _ _ (by walk_at "sq") gc ?_
      walk_at "go"
      refine ⟨_, o.length, rw_ i, w.fh, a30.same w.ff, a4, hn, fun v4 F3 H3 w3 => ?_⟩
      replace w := w.cal .nil w3 (by walk_at "app")
      rw [← ecs] at w
      walk_at "go"
      refine ⟨_, p1, cs, o.length, rfl, w.fh, sqL_of (w.i (fx p1 _) (by walk_at "mem")), csk, by omega, csl, fun p9 ys9 F6 H6 h_p9 w6 => ?_⟩
      have h_p9' := w.g.fresh h_p9
      replace w := w.cal .nil w6 (by walk_at "app")
      obtain ⟨F6, w⟩ := w.fzL (p := p9) (by walk_at "pick") h_p9'
      walk_at "go"
      refine ⟨_, p9, ys9, o.length, (plainL cs), rfl, rfl, w.fh, sqL_of (w.i (fx p9 (.lst ys9)) (by walk_at "mem")), w.dpa (by walk_at "mem"), w.i (chg K v4 o.length (plainL cs)) (by walk_at "mem"), okP, fun F9 H9 w9 => ?_⟩
      replace w := w.cal .nil w9 (by walk_at "app")
      exact done w (by walk_at "pk")
    walk_at "go"
    refine w_ixL _ _ (by walk_at "sq") gc ?_
    walk_at "go"
    refine n_strO (by walk_at "at") ?_
    refine ⟨_, o.length, (rw_ i), w.fh, a30.same w.ff, a4, hn, fun z1 F5 H5 w5 hz1 => ⟨z1, rfl, ?_⟩⟩
    replace w := w.cal .nil w5 (by walk_at "app")
    walk_at "go"
    refine w_ixL _ _ (by walk_at "sq") gr ?_
    walk_at "go"
    refine ⟨_, (pv i), (pvs i), o.length, (rw_ i), rfl, rfl, w.fh, sqL_same w.ff a1, dpa_same w.ff _ _ a2, a4, hn, fun z2 F5 H5 w5 hz2 => ?_⟩
    replace w := w.cal .nil w5 (by walk_at "app")
    have ez : z1 = z2 := cd_inj (hz1.trans hz2.symm)
    subst ez
    have okz := writ_ok hn a4 hz1
    walk_at "go"
    refine ⟨_, .str z1, w.fh, .str _, .str _, by show (0 : Nat) < 6; decide, str_good okz.1 (Nat.le_trans okz.2 (by decide)), fun F9 H9 g9 => ?_⟩
    replace w := w.gr0 g9
    exact done w (by walk_at "pk")
-- _law_stays
theorem ok_law_stays {f : Addr} {fd : FuncData} (F : FunD K "_law_stays" "_law_stays" (defArgs s_law_stays) (defBody s_law_stays) (defScope s_law_stays) [] [] f fd) (T : Txt K mg) (D_law_alike : DO P w K mg base 6 "_law_alike" ["found", "due"] [] (S2 (φalike K 6))) (D_law_cells : DO P w K mg base 1 "_law_cells" ["rows"] [] (S1 (φlcells K))) (D_law_done : DO P w K mg base 1 "_law_done" ["cells", "old"] [] (S2 (φldone K))) (D_law_plain : DO P w K mg base 1 "_law_plain" ["cells"] [] (S1 (φlplain K))) (D_law_same : DO P w K mg base 10 "_law_same" ["found", "size", "rows"] [] (S3 (φsame K))) (D_law_text : DO P w K mg base 3 "_law_text" ["bag", "size"] [] (S2 (φtextN K))) (D_law_written : DO P w K mg base 1 "_law_written" ["size", "rows"] [] (S2 (φwritten K))) (D_plainest : DO P w K mg base 4 "plainest" ["change"] [] (S1 (φplainest K))) (DM_ChangeX_strX : DM P w K mg base 2 "Change" "__str__" ["self"] [] (S1 (φstr K))) (DM_Change_cells : DM P w K mg base 1 "Change" "cells" ["self"] [] (S1 (φcells K))) (DM_Change_done : DM P w K mg base 2 "Change" "done" ["self", "old"] [] (S2 (φdoneC K))) (DM_Change_new_size : DM P w K mg base 2 "Change" "new_size" ["self"] [] (S1 (φnewsize K))) : FnOk P w K mg base CX0 11 f fd ["bag", "change", "size", "rows"] (S4 (φstays10 K)) := by
  refine F.ok sc_law_stays (fun vs H Q E h => ?_) (fun cdv A outer s H vs Q E hr h => ?_)
  · exact S4.len h
  · match vs, h with
    | [v0, v1, v2, v3], h =>
    have hu := hu_of hr
    refine ⟨_, PSs.nox (pss_cons (ps_set (i := 4) sc_law_stays.nd rfl (.inl rfl) (pcall D_law_cells hr (pa_cons (pv 3) pa_nil)))
      (pss_cons (ps_set (i := 5) sc_law_stays.nd rfl (.inl rfl) (pcall D_law_text hr (pa_cons (pv 0) (pa_cons (pv 2) pa_nil))))
      (pss_cons (ps_if (PW.pt (pw_or (pt_not (pt_val (pcall D_law_same hr (pa_cons (pv 1) (pa_cons (pv 2) (pa_cons (pv 3) pa_nil)))))) (pw_or1 (pt_not (pt_val (pcall D_law_alike hr (pa_cons (pmeth0 DM_Change_cells hr (pv 1)) (pa_cons (pv 4) pa_nil)))))))) (pss_one (ps_ret pe_bl)) pss_nil)
      (pss_cons (ps_if (PW.pt (pw_or (pt_not (pt_val (pcall D_law_alike hr (pa_cons (pmeth DM_Change_done hr (pv 1) (pa_cons (pv 5) pa_nil)) (pa_cons (pcall D_law_done hr (pa_cons (pv 4) (pa_cons (pv 5) pa_nil))) pa_nil))))) (pw_or1 (pt_not (pt_val (pcall D_law_alike hr (pa_cons (pe_callTy (clStrO DM_ChangeX_strX hr (by decide)) (by rfl) T.b_str (by decide +kernel) (pa_cons (pv 1) pa_nil)) (pa_cons (pcall D_law_written hr (pa_cons (pv 2) (pa_cons (pv 3) pa_nil))) pa_nil)))))))) (pss_one (ps_ret pe_bl)) pss_nil)
      (pss_one (ps_ret (pe_and (pcall D_law_alike hr (pa_cons (pmeth0 DM_Change_new_size hr (pv 1)) (pa_cons (pe_callB (clLenQ (K := K)) (by rfl) T.b_len (by decide +kernel) (pa_cons (pv 4) pa_nil)) pa_nil))) (pe_one (pcall D_law_same hr (pa_cons (pcall D_plainest hr (pa_cons (pv 1) pa_nil)) (pa_cons (pv 2) (pa_cons (pcall D_law_plain hr (pa_cons (pv 4) pa_nil)) pa_nil)))))))))))), ?_⟩
    rw [show start ["bag", "change", "size", "rows", "cells", "old"] [v0, v1, v2, v3] = [some v0, some v1, some v2, some v3, none, none] from rfl]
    have kC := T.k_Change
    have kS := T.na_Change_size
    have kR := T.na_Change_rows
    
    obtain ⟨F, b, a, n, vs, rows, rfl, rfl, rfl, s0, hC, hok, hn, hS, hD, q⟩ := h
    have hC0 := hC
    obtain ⟨c, dx, r, us, rfl, hc, hr', hE⟩ := hC
    have w := (s0.w (M := [b])).push (fx c _) hc
    unfold insC at w
    obtain ⟨cs, ecs⟩ : ∃ cs, cs = celsL rows := ⟨_, rfl⟩
    have csk : ∀ c ∈ cs, c.ok n := by rw [ecs]; exact cels_ok hok.ok
    have csl : cs.length ≤ 400 := by rw [ecs, cels_len]; exact hok.sum
    have cg := cels_good csk (by omega)
    have okP := plain_ok csk csl
    walk_at "go"
    refine ⟨_, a, vs, n, rows, rfl, w.fh, sqL_same w.ff hS, dpa_same w.ff _ _ hD, hok, fun p1 F6 H6 h_p1 w6 => ?_⟩
    have h_p1' := w.g.fresh h_p1
    replace w := w.cal .nil w6 (by walk_at "app")
    rw [cels_v] at w
    obtain ⟨F6, w⟩ := w.fzL (p := p1) (by walk_at "pick") h_p1'
    walk_at "go"
    rw [← ecs] at w
    refine ⟨_, b, (n : Nat), rfl, rfl, w.st (by walk_at "pick"), by omega, by omega, fun o F2 H2 w2 ho oko => ?_⟩
    replace w := w.calB (by walk_at "pick") w2 (by walk_at "app")
    walk_at "go"
    have ho : o.length = n := by omega
    subst ho
    refine ⟨_, a, vs, o.length, rows, rfl, rfl, w.fh, sqL_same w.ff hS, dpa_same w.ff _ _ hD, hC0.same w.ff, hok, fun F9 H9 w9 => ?_⟩
    replace w := w.cal .nil w9 (by walk_at "app")
    walk_at "go"
    refine ⟨_, o.length, rows, w.fh, hC0.same w.ff, hok, by omega, fun p5 F5 H5 hp5 w5 => ?_⟩
    replace w := w.cal .nil w5 (by walk_at "app")
    rw [cels_v, ← ecs] at w
    walk_at "go"
    refine ⟨_, .list (cs.map Cel.d), Same.refl _, .lst (by walk_at "sq") (dpa_cels cs), .lst (by walk_at "sq") (dpa_cels cs), Nat.lt_of_le_of_lt cg.2 (by decide), cg.1, fun F9 H9 g9 => ?_⟩
    replace w := w.ro0' g9
    walk_at "go"
    refine ⟨_, o, rows, rfl, w.fh, hC0.same w.ff, hok, oko, by omega, fun s1 F5 H5 w5 h_s1 ok_s1 => ?_⟩
    replace w := w.cal .nil w5 (by walk_at "app")
    walk_at "go"
    refine ⟨_, p1, cs.map Cel.v, o, rfl, rfl, w.fh, sqL_of (w.i (fx p1 _) (by walk_at "mem")), fun v hv => ?_, by rw [List.length_map]; omega, oko, by omega, fun s2 F5 H5 w5 h_s2 ok_s2 => ?_⟩
    · obtain ⟨c, hc, rfl⟩ := List.mem_map.mp hv
      exact cel_cellok (csk c hc)
    replace w := w.cal .nil w5 (by walk_at "app")
    walk_at "go"
    have es : s1 = s2 := cd_inj (by rw [h_s1, h_s2, outs_cels, mk_cels hok.ok, ecs])
    subst es
    refine ⟨_, .str s1, w.fh, .str _, .str _, by show (0 : Nat) < 6; decide, str_good ok_s1 (Nat.le_trans (show s1.length ≤ 400 by rw [← cd_len, h_s1, mks_len (cd_len o) hok.ok]; exact hok.sum) (by decide)), fun F9 H9 g9 => ?_⟩
    replace w := w.gr0 g9
    walk_at "go"
    refine n_strO (by walk_at "at") ?_
    refine ⟨_, o.length, rows, w.fh, hC0.same w.ff, hok, hn, fun z1 F5 H5 w5 hz1 => ⟨z1, rfl, ?_⟩⟩
    replace w := w.cal .nil w5 (by walk_at "app")
    walk_at "go"
    refine ⟨_, a, vs, o.length, rows, rfl, rfl, w.fh, sqL_same w.ff hS, dpa_same w.ff _ _ hD, hok, hn, fun z2 F5 H5 w5 hz2 => ?_⟩
    replace w := w.cal .nil w5 (by walk_at "app")
    have ez : z1 = z2 := cd_inj (hz1.trans hz2.symm)
    subst ez
    have okz := writ_ok hn hok hz1
    walk_at "go"
    refine ⟨_, .str z1, w.fh, .str _, .str _, by show (0 : Nat) < 6; decide, str_good okz.1 (Nat.le_trans okz.2 (by decide)), fun F9 H9 g9 => ?_⟩
    replace w := w.gr0 g9
    walk_at "go"
    refine ⟨_, o.length, rows, w.fh, hC0.same w.ff, hok, by omega, fun F5 H5 w5 => ?_⟩
    replace w := w.cal .nil w5 (by walk_at "app")
    walk_at "go"
    rw [List.length_map, ← ecs]
    refine ⟨_, .int (cs.length : Nat), w.fh, .int _, .int _, by show (0 : Nat) < 6; decide, rfl, fun F9 H9 g9 => ?_⟩
    replace w := w.gr0 g9
    walk_at "go"
    refine ⟨_, o.length, rows, w.fh, hC0.same w.ff, hok, hn, fun v4 F3 H3 w3 => ?_⟩
    replace w := w.cal .nil w3 (by walk_at "app")
    rw [← ecs] at w
    walk_at "go"
    refine ⟨_, p1, cs, o.length, rfl, w.fh, sqL_of (w.i (fx p1 _) (by walk_at "mem")), csk, by omega, csl, fun p9 ys9 F6 H6 h_p9 w6 => ?_⟩
    have h_p9' := w.g.fresh h_p9
    replace w := w.cal .nil w6 (by walk_at "app")
    obtain ⟨F6, w⟩ := w.fzL (p := p9) (by walk_at "pick") h_p9'
    walk_at "go"
    refine ⟨_, p9, ys9, o.length, (plainL cs), rfl, rfl, w.fh, sqL_of (w.i (fx p9 (.lst ys9)) (by walk_at "mem")), w.dpa (by walk_at "mem"), w.i (chg K v4 o.length (plainL cs)) (by walk_at "mem"), okP, fun F9 H9 w9 => ?_⟩
    replace w := w.cal .nil w9 (by walk_at "app")
    walk_at "go"
    exact q _ _ (by walk_at "w")
-- law
theorem ok_law {f : Addr} {fd : FuncData} (F : FunD K "law" "law" (defArgs s_law) (defBody s_law) (defScope s_law) [] [] f fd) (T : Txt K mg) (D_law_alike : DO P w K mg base 6 "_law_alike" ["found", "due"] [] (S2 (φalike K 6))) (D_law_bag : DO P w K mg base 1 "_law_bag" ["script"] [] (S1 (φbag K))) (D_law_deed : DO P w K mg base 12 "_law_deed" ["bag", "changes", "rows", "size", "told_lists"] [] (S5 (φdeed10 K))) (D_law_draw : DO P w K mg base 2 "_law_draw" ["bag", "many"] [] (S2 (φdraw K))) (D_law_rows : DO P w K mg base 5 "_law_rows" ["bag", "size", "many", "most"] [] (S4 (φrows1 K))) (D_law_size : DO P w K mg base 3 "_law_size" ["bag"] [] (S1 (φsize1 K))) (D_law_stays : DO P w K mg base 11 "_law_stays" ["bag", "change", "size", "rows"] [] (S4 (φstays10 K))) (DN_Change_2 : DN P w K mg base 2 "Change" ["self", "size", "rows"] [] (S3 (φinit K))) : FnOk P w K mg base CX0 13 f fd ["script"] (S1 (φlaw K)) := by
  refine F.ok sc_law (fun vs H Q E h => ?_) (fun cdv A outer s H vs Q E hr h => ?_)
  · exact S1.len h
  · match vs, h with
    | [v0], h =>
    have hu := hu_of hr
    refine ⟨_, PSs.nox (pss_cons (ps_set (i := 1) sc_law.nd rfl (.inr rfl) (pcall D_law_bag hr (pa_cons (pv 0) pa_nil)))
      (pss_cons (ps_set (i := 2) sc_law.nd rfl (.inl rfl) (pe_cmpR op_eq (pcall D_law_draw hr (pa_cons (pv 1) (pa_cons pe_int pa_nil))) pe_int (nomark _)))
      (pss_cons (ps_set (i := 3) sc_law.nd rfl (.inr rfl) (pcall D_law_size hr (pa_cons (pv 1) pa_nil)))
      (pss_cons (ps_setLc (i := 4) (own := [("k", 9)]) (g := gName 9) rfl sc_law.nd rfl rfl (sw_true rfl rfl rfl (by decide +kernel)) (pi_range1 rfl T.b_range (pa_cons pe_int pa_nil)) (blkOk_by (own := [("k", 9)]) (N := ["script", "bag", "same_one", "size", "rows", "lists", "changes", "some", "told_lists", "k", "at", "j", "row", "one"]) (sc := defScope s_law) (by decide +kernel)) (fun _ _ _ _ _ => pg_name (i := 9) sc_law.nd rfl (Or.inl rfl)) (fun _ _ _ _ _ => pts_nil) (fun _ _ _ _ _ => (pcall D_law_rows hr (pa_cons (pv 1) (pa_cons (pv 3) (pa_cons (pcall D_law_draw hr (pa_cons (pv 1) (pa_cons (pe_ix (ixL (K := K)) (pe_lst (pa_cons pe_int (pa_cons pe_int (pa_cons pe_int (pa_cons pe_int pa_nil))))) (pcall D_law_draw hr (pa_cons (pv 1) (pa_cons pe_int pa_nil))) (fun _ _ => rfl)) pa_nil))) (pa_cons pe_int pa_nil)))))))
      (pss_cons (ps_setLc (i := 5) (own := [("row", 12)]) (g := gName 12) rfl sc_law.nd rfl rfl (sw_true rfl rfl rfl (by decide +kernel)) (pi_list (pv 4)) (blkOk_by (own := [("row", 12)]) (N := ["script", "bag", "same_one", "size", "rows", "lists", "changes", "some", "told_lists", "k", "at", "j", "row", "one"]) (sc := defScope s_law) (by decide +kernel)) (fun _ _ _ _ _ => pg_name (i := 12) sc_law.nd rfl (Or.inl rfl)) (fun _ _ _ _ _ => pts_nil) (fun _ _ _ _ _ => (pe_callTy (clListOf (K := K)) (by rfl) T.b_list (by decide +kernel) (pa_cons (pv 12) pa_nil))))
      (pss_cons (ps_setLc (i := 6) (own := [("some", 7)]) (g := gName 7) rfl sc_law.nd rfl rfl (sw_true rfl rfl rfl (by decide +kernel)) (pi_list (pv 5)) (blkOk_by (own := [("some", 7)]) (N := ["script", "bag", "same_one", "size", "rows", "lists", "changes", "some", "told_lists", "k", "at", "j", "row", "one"]) (sc := defScope s_law) (by decide +kernel)) (fun _ _ _ _ _ => pg_name (i := 7) sc_law.nd rfl (Or.inl rfl)) (fun _ _ _ _ _ => pts_nil) (fun _ _ _ _ _ => (pmakeQ DN_Change_2 hr (pa_cons (pv 3) (pa_cons (pv 7) pa_nil)))))
      (C8.pss_cut (ps_for PassesOwn.never rfl (pi_list (pv 5)) (pg_name (i := 7) sc_law.nd rfl (.inl rfl)) (pss_cons (ps_expr (peBM (K := K) PySem.F.plainAttrs_list PySem.F.slot_list_insert PySem.F.type_list_insert mtIns (pv 7) (pa_cons (pcall D_law_draw hr (pa_cons (pv 1) (pa_cons (pe_op op_add (pe_callB (clLenQ (K := K)) (by rfl) T.b_len (by decide +kernel) (pa_cons (pv 7) pa_nil)) pe_int) pa_nil))) (pa_cons (pe_tup (pa_cons pe_str (pa_cons pe_str pa_nil))) pa_nil))))
      (pss_one (ps_asg (pe_tup (pa_cons pe_str (pa_cons pe_str pa_nil))) (pg_sub (pv 7) (pcall D_law_draw hr (pa_cons (pv 1) (pa_cons (pe_callB (clLenQ (K := K)) (by rfl) T.b_len (by decide +kernel) (pa_cons (pv 7) pa_nil)) pa_nil))) set_list)))))
      (C8.pss_cut (ps_if (pt_val (pv 2)) (pss_cons (ps_set (i := 6) sc_law.nd rfl (.inl rfl) (pe_lst (pa_cons (pe_ix (ixL (K := K)) (pv 6) pe_int (fun _ _ => rfl)) (pa_cons (pe_ix (ixL (K := K)) (pv 6) pe_int (fun _ _ => rfl)) pa_nil))))
      (pss_one (ps_set (i := 4) sc_law.nd rfl (.inl rfl) (pe_lst (pa_cons (pe_ix (ixL (K := K)) (pv 4) pe_int (fun _ _ => rfl)) (pa_cons (pe_ix (ixL (K := K)) (pv 4) pe_int (fun _ _ => rfl)) pa_nil)))))) pss_nil)
      (pss_cons (ps_set (i := 8) sc_law.nd rfl (.inl rfl) (pe_lst pa_nil))
      (pss_cons (ps_for PassesOwn.never rfl (pi_range1 rfl T.b_range (pa_cons (pe_op op_add pe_int (pe_callB clMin2 (by rfl) T.b_min (by decide +kernel) (pa_cons pe_int (pa_cons (pe_callB (clLenQ (K := K)) (by rfl) T.b_len (by decide +kernel) (pa_cons (pv 0) pa_nil)) pa_nil)))) pa_nil)) (pg_name (i := 9) sc_law.nd rfl (.inl rfl)) (pss_cons (ps_if (pt_not (pt_val (pcall D_law_deed hr (pa_cons (pv 1) (pa_cons (pv 6) (pa_cons (pv 4) (pa_cons (pv 3) (pa_cons (pv 8) pa_nil)))))))) (pss_one (ps_ret pe_bl)) pss_nil)
      (pss_cons (ps_set (i := 10) sc_law.nd rfl (.inl rfl) (pcall D_law_draw hr (pa_cons (pv 1) (pa_cons pe_int pa_nil))))
      (pss_one (ps_for PassesOwn.never rfl (pi_list (pe_lst (pa_cons (pv 10) (pa_cons (pe_op op_sub pe_int (pv 10)) pa_nil)))) (pg_name (i := 11) sc_law.nd rfl (.inl rfl)) (pss_one (ps_if (pt_not (pt_val (pcall D_law_stays hr (pa_cons (pv 1) (pa_cons (pe_ix (ixL (K := K)) (pv 6) (pv 11) (fun _ _ => rfl)) (pa_cons (pv 3) (pa_cons (pe_ix (ixL (K := K)) (pv 4) (pv 11) (fun _ _ => rfl)) pa_nil))))))) (pss_one (ps_ret pe_bl)) pss_nil)))))))
      (pss_one (ps_ret (pe_cmpR (opEqD (K := K) hr.units) (pe_lc (own := [("one", 13)]) (g := gName 13) rfl sc_law.nd (pi_list (pv 8)) (blkOk_by (own := [("one", 13)]) (N := ["script", "bag", "same_one", "size", "rows", "lists", "changes", "some", "told_lists", "k", "at", "j", "row", "one"]) (sc := defScope s_law) (by decide +kernel)) (fun _ _ _ _ _ => pg_name (i := 13) sc_law.nd rfl (Or.inl rfl)) (fun _ _ _ _ _ => pts_one (pt_not (pt_val (pcall D_law_alike hr (pa_cons (pe_ix (ixT (K := K)) (pv 13) pe_int (fun _ _ => rfl)) (pa_cons (pe_ix (ixT (K := K)) (pv 13) pe_int (fun _ _ => rfl)) pa_nil)))))) (fun _ _ _ _ _ => (pv 13))) (pe_lst pa_nil) (nomark _)))))))))))))), ?_⟩
    rw [show start ["script", "bag", "same_one", "size", "rows", "lists", "changes", "some", "told_lists", "k", "at", "j", "row", "one"] [v0] = [some v0, none, none, none, none, none, none, none, none, none, none, none, none, none] from rfl]
    have kC := T.k_Change
    have kS := T.na_Change_size
    have kR := T.na_Change_rows
    
    obtain ⟨sc, ns, rfl, hS, hl, q⟩ := h
    walk_at "go"
    refine ⟨sc, ns, rfl, hS, hl, fun b F1 H1 g1 hb => ?_⟩
    have w := W.bag0 g1 hb
    walk_at "go"
    refine n_draw w (by walk_at "pick") (by decide) (by decide) fun r F1 H1 w r0 r1 => ?_
    walk_at "go"
    obtain ⟨bn, ebn⟩ : ∃ bn : Bool, bn = decide (r = 7) := ⟨_, rfl⟩
    rw [← ebn]
    refine ⟨_, b, rfl, w.st (by walk_at "pick"), fun n F2 H2 w2 hn => ?_⟩
    replace w := w.calB (by walk_at "pick") w2 (by walk_at "app")
    walk_at "go"
    refine n_lcR w (fun i ys L => (i = 0 ∧ ys = [] ∧ L = [bag K b]) ∨ (i = 1 ∧ ∃ p0 vs0 rows0, ys = [.ref p0] ∧ RowsOk n rows0 ∧ L = [fx p0 (.lst vs0), dpa K vs0 (rows0.map CRow.d), bag K b]) ∨ (i = 2 ∧ ∃ p0 vs0 rows0 p1 vs1 rows1, ys = [.ref p0, .ref p1] ∧ RowsOk n rows0 ∧ RowsOk n rows1 ∧ L = [fx p0 (.lst vs0), dpa K vs0 (rows0.map CRow.d), fx p1 (.lst vs1), dpa K vs1 (rows1.map CRow.d), bag K b])) (.inl ⟨rfl, rfl, rfl⟩) (fun i ys L F' H' D hi hp w hDn => ?_) (fun D ys L F' H' hp w hDn => ?_)
    · rcases hp with ⟨rfl, rfl, rfl⟩ | ⟨rfl, p0, vs0, rows0, rfl, ok0, rfl⟩ | ⟨rfl, _⟩
      · walk_at "wp"
        walk_at "go"
        refine n_lst w (szle (by simp)) fun pl F3 H3 w hpl => ?_
        walk_at "go"
        refine n_draw w (by walk_at "pick") (by decide) (by decide) fun r F1 H1 w r0 r1 => ?_
        obtain ⟨my, ey, my0, my1⟩ := pick_ix (ns := [7, 7, 7, 41]) (lo := 7) (hi := 401) r0 r1 (by decide)
        walk_at "go"
        refine w_ixL _ _ (by walk_at "sq") ey ?_
        walk_at "go"
        refine n_draw w (by walk_at "pick") (by omega) (by omega) fun many F1 H1 w y0 y1 => ?_
        walk_at "go"
        refine ⟨_, b, n, many, 400, rfl, rfl, rfl, rfl, w.st (by walk_at "pick"), by omega, by omega, by omega, by omega, by omega, fun p ys rows F2 H2 h_p w2 hok hgm => ?_⟩
        have h_p' := w.g.fresh h_p
        replace w := w.calB (by walk_at "pick") w2 (by walk_at "app")
        obtain ⟨F2, w⟩ := w.fzL (p := p) (by walk_at "pick") h_p'
        exact n_acc [] w (.inr (.inl ⟨rfl, p, ys, rows, rfl, hok, rfl⟩)) (by walk_at "pk") (small_lt (by decide))
      · walk_at "wp"
        walk_at "go"
        refine n_lst w (szle (by simp)) fun pl F3 H3 w hpl => ?_
        walk_at "go"
        refine n_draw w (by walk_at "pick") (by decide) (by decide) fun r F1 H1 w r0 r1 => ?_
        obtain ⟨my, ey, my0, my1⟩ := pick_ix (ns := [7, 7, 7, 41]) (lo := 7) (hi := 401) r0 r1 (by decide)
        walk_at "go"
        refine w_ixL _ _ (by walk_at "sq") ey ?_
        walk_at "go"
        refine n_draw w (by walk_at "pick") (by omega) (by omega) fun many F1 H1 w y0 y1 => ?_
        walk_at "go"
        refine ⟨_, b, n, many, 400, rfl, rfl, rfl, rfl, w.st (by walk_at "pick"), by omega, by omega, by omega, by omega, by omega, fun p ys rows F2 H2 h_p w2 hok hgm => ?_⟩
        have h_p' := w.g.fresh h_p
        replace w := w.calB (by walk_at "pick") w2 (by walk_at "app")
        obtain ⟨F2, w⟩ := w.fzL (p := p) (by walk_at "pick") h_p'
        exact n_acc [.ref p0] w (.inr (.inr ⟨rfl, p0, vs0, rows0, p, ys, rows, rfl, ok0, hok, rfl⟩)) (by walk_at "pk") (small_lt (by show (1 : Nat) ≤ 1000000; decide))
      · exact absurd hi (by decide)
    rcases hp with ⟨e, _⟩ | ⟨e, _⟩ | ⟨_, p0, vs0, rows0, p1, vs1, rows1, rfl, ok0, ok1, rfl⟩
    · exact absurd e (by decide)
    · exact absurd e (by decide)
    obtain ⟨F', w⟩ := w.fzL (p := D) (by walk_at "pick") hDn
    obtain ⟨dr, edr⟩ : ∃ dr, dr = D := ⟨_, rfl⟩
    rw [← edr] at w
    clear hDn
    rw [← edr]
    have hv0 : vs0.length ≤ 400 := by rw [dpa_len (w.dpa (K := K) (xs := vs0) (ds := rows0.map CRow.d) (by walk_at "mem")), List.length_map]; exact ok0.len
    have hv1 : vs1.length ≤ 400 := by rw [dpa_len (w.dpa (K := K) (xs := vs1) (ds := rows1.map CRow.d) (by walk_at "mem")), List.length_map]; exact ok1.len
    walk_at "go"
    refine n_lcL [.ref p0, .ref p1] w (fun i ys L => (i = 0 ∧ ys = [] ∧ L = [fx dr (.lst [.ref p0, .ref p1]), fx p0 (.lst vs0), dpa K vs0 (rows0.map CRow.d), fx p1 (.lst vs1), dpa K vs1 (rows1.map CRow.d), bag K b]) ∨ (i = 1 ∧ ∃ l0, ys = [.ref l0] ∧ L = [mu l0 (.lst vs0), fx dr (.lst [.ref p0, .ref p1]), fx p0 (.lst vs0), dpa K vs0 (rows0.map CRow.d), fx p1 (.lst vs1), dpa K vs1 (rows1.map CRow.d), bag K b]) ∨ (i = 2 ∧ ∃ l0 l1, ys = [.ref l0, .ref l1] ∧ L = [mu l0 (.lst vs0), mu l1 (.lst vs1), fx dr (.lst [.ref p0, .ref p1]), fx p0 (.lst vs0), dpa K vs0 (rows0.map CRow.d), fx p1 (.lst vs1), dpa K vs1 (rows1.map CRow.d), bag K b])) (.inl ⟨rfl, rfl, rfl⟩) (fun i ys L F' H' D hp w => ?_) (fun i x ys L F' H' D hx hp w hDn => ?_) (fun D ys L F' H' hp w hDn => ?_)
    · rcases hp with ⟨rfl, rfl, rfl⟩ | ⟨rfl, l0, rfl, rfl⟩ | ⟨rfl, l0, l1, rfl, rfl⟩ <;> walk_at "sq"
    · rcases hp with ⟨rfl, rfl, rfl⟩ | ⟨rfl, l0, rfl, rfl⟩ | ⟨rfl, l0, l1, rfl, rfl⟩
      · cases hx
        walk_at "wp"
        walk_at "go"
        refine n_listOf w (by walk_at "sq") fun l0 F4 H4 w h_l0 => ?_
        exact n_acc [] w (.inr (.inl ⟨rfl, l0, rfl, rfl⟩)) (by walk_at "pk") (small_lt (by decide))
      · cases hx
        walk_at "wp"
        walk_at "go"
        refine n_listOf w (by walk_at "sq") fun l1 F4 H4 w h_l1 => ?_
        exact n_acc [.ref l0] w (.inr (.inr ⟨rfl, l0, l1, rfl, rfl⟩)) (by walk_at "pk") (small_lt (by show (1 : Nat) ≤ 1000000; decide))
      · cases hx
    rcases hp with ⟨e, _⟩ | ⟨e, _⟩ | ⟨_, l0, l1, rfl, rfl⟩
    · exact absurd (show (2 : Nat) = 0 from e) (by decide)
    · exact absurd (show (2 : Nat) = 1 from e) (by decide)
    obtain ⟨F', w⟩ := w.fzL (p := D) (by walk_at "pick") hDn
    obtain ⟨dl, edl⟩ : ∃ dl, dl = D := ⟨_, rfl⟩
    rw [← edl] at w
    clear hDn
    rw [← edl]
    walk_at "go"
    refine n_lcL [.ref l0, .ref l1] w (fun i ys L => (i = 0 ∧ ys = [] ∧ L = [mu l0 (.lst vs0), mu l1 (.lst vs1), fx dl (.lst [.ref l0, .ref l1]), fx dr (.lst [.ref p0, .ref p1]), fx p0 (.lst vs0), dpa K vs0 (rows0.map CRow.d), fx p1 (.lst vs1), dpa K vs1 (rows1.map CRow.d), bag K b]) ∨ (i = 1 ∧ ∃ c0, ys = [.ref c0] ∧ L = [chg K (.ref c0) n rows0, mu l0 (.lst vs0), mu l1 (.lst vs1), fx dl (.lst [.ref l0, .ref l1]), fx dr (.lst [.ref p0, .ref p1]), fx p0 (.lst vs0), dpa K vs0 (rows0.map CRow.d), fx p1 (.lst vs1), dpa K vs1 (rows1.map CRow.d), bag K b]) ∨ (i = 2 ∧ ∃ c0 c1, ys = [.ref c0, .ref c1] ∧ L = [chg K (.ref c0) n rows0, chg K (.ref c1) n rows1, mu l0 (.lst vs0), mu l1 (.lst vs1), fx dl (.lst [.ref l0, .ref l1]), fx dr (.lst [.ref p0, .ref p1]), fx p0 (.lst vs0), dpa K vs0 (rows0.map CRow.d), fx p1 (.lst vs1), dpa K vs1 (rows1.map CRow.d), bag K b])) (.inl ⟨rfl, rfl, rfl⟩) (fun i ys L F' H' D hp w => ?_) (fun i x ys L F' H' D hx hp w hDn => ?_) (fun D ys L F' H' hp w hDn => ?_)
    · rcases hp with ⟨rfl, rfl, rfl⟩ | ⟨rfl, c0, rfl, rfl⟩ | ⟨rfl, c0, c1, rfl, rfl⟩ <;> walk_at "sq"
    · rcases hp with ⟨rfl, rfl, rfl⟩ | ⟨rfl, c0, rfl, rfl⟩ | ⟨rfl, c0, c1, rfl, rfl⟩
      · cases hx
        walk_at "wp"
        walk_at "go"
        refine n_make w fun c0 dx0 H5 w h_c0 => ?_
        refine c_initM w (by walk_at "pick") (vs := vs0) (by walk_at "pick") h_c0 (w.dpa (by walk_at "mem")) hn ok0 fun F5 H5 w => ?_
        exact n_acc [] w (.inr (.inl ⟨rfl, c0, rfl, rfl⟩)) (by walk_at "pk") (small_lt (by decide))
      · cases hx
        walk_at "wp"
        walk_at "go"
        refine n_make w fun c1 dx1 H5 w h_c1 => ?_
        refine c_initM w (by walk_at "pick") (vs := vs1) (by walk_at "pick") h_c1 (w.dpa (by walk_at "mem")) hn ok1 fun F5 H5 w => ?_
        exact n_acc [.ref c0] w (.inr (.inr ⟨rfl, c0, c1, rfl, rfl⟩)) (by walk_at "pk") (small_lt (by show (1 : Nat) ≤ 1000000; decide))
      · cases hx
    rcases hp with ⟨e, _⟩ | ⟨e, _⟩ | ⟨_, c0, c1, rfl, rfl⟩
    · exact absurd (show (2 : Nat) = 0 from e) (by decide)
    · exact absurd (show (2 : Nat) = 1 from e) (by decide)
    obtain ⟨F', w⟩ := w.fzL (p := D) (by walk_at "pick") hDn
    obtain ⟨dc, edc⟩ : ∃ dc, dc = D := ⟨_, rfl⟩
    rw [← edc] at w
    clear hDn
    rw [← edc]
    walk_at "go"
    refine n_cut w (fun σ L => ∃ y7, σ = [some (.ref sc), some (.ref b), some (.bl bn), some (.int (n : Nat)), some (.ref dr), some (.ref dl), some (.ref dc), y7, none, none, none, none, none, none] ∧ L = [chg K (.ref c0) n rows0, chg K (.ref c1) n rows1, fx dc (.lst [.ref c0, .ref c1]), fx dr (.lst [.ref p0, .ref p1]), fx p0 (.lst vs0), dpa K vs0 (rows0.map CRow.d), fx p1 (.lst vs1), dpa K vs1 (rows1.map CRow.d), bag K b]) ?_ (fun σ L F' H' hp w => ?_)
    · walk_at "go"
      refine n_forL [.ref l0, .ref l1] w (fun i σ L => ∃ xs0 xs1 y7, σ = [some (.ref sc), some (.ref b), some (.bl bn), some (.int (n : Nat)), some (.ref dr), some (.ref dl), some (.ref dc), y7, none, none, none, none, none, none] ∧ xs0.length + xs1.length ≤ 800 + i ∧ L = [mu l0 (.lst xs0), mu l1 (.lst xs1), fx dl (.lst [.ref l0, .ref l1]), chg K (.ref c0) n rows0, chg K (.ref c1) n rows1, fx dc (.lst [.ref c0, .ref c1]), fx dr (.lst [.ref p0, .ref p1]), fx p0 (.lst vs0), dpa K vs0 (rows0.map CRow.d), fx p1 (.lst vs1), dpa K vs1 (rows1.map CRow.d), bag K b]) ⟨vs0, vs1, none, rfl, by omega, rfl⟩ (fun i σ L F' H' hp w => ?_) (fun i x σ L F' H' hx hp w => ?_) (fun σ L F' H' hp w => ?_)
      · obtain ⟨xs0, xs1, y7, rfl, hb, rfl⟩ := hp
        walk_at "sq"
      · obtain ⟨xs0, xs1, y7, rfl, hb, rfl⟩ := hp
        match i, hx, hb with
        | 0, hx, hb =>
          cases hx
          walk_at "go"
          refine n_draw w (by walk_at "pick") (by omega) (by omega) fun d F1 H1 w d0 d1 => ?_
          walk_at "go"
          refine n_tup w (szle (by simp)) fun t1 F1 H1 w => ?_
          walk_at "go"
          refine n_insert w (by walk_at "pick") (small_lt (by omega)) d0 (by omega) fun H5 w => ?_
          obtain ⟨zs, ezs⟩ : ∃ zs, zs = xs0.take d.toNat ++ [V.ref t1] ++ xs0.drop d.toNat := ⟨_, rfl⟩
          have lzs : zs.length = xs0.length + 1 := by
            rw [ezs, List.length_append, List.length_append, List.length_take, List.length_drop]
            show min _ _ + 1 + _ = _
            omega
          rw [← ezs] at w
          walk_at "go"
          refine n_tup w (szle (by simp)) fun t2 F1 H1 w => ?_
          walk_at "go"
          refine n_draw w (by walk_at "pick") (by omega) (by omega) fun e F1 H1 w e0 e1 => ?_
          obtain ⟨e, rfl⟩ : ∃ e2 : Nat, e = (e2 : Int) := ⟨e.toNat, by omega⟩
          walk_at "go"
          refine n_setL w (by walk_at "pick") e (ix_nat (by omega)) fun H5 w => ?_
          exact nx_mk w ⟨zs.set e (.ref t2), xs1, _, rfl, by rw [List.length_set]; omega, rfl⟩ (by walk_at "pk")
        | 1, hx, hb =>
          cases hx
          walk_at "go"
          refine n_draw w (by walk_at "pick") (by omega) (by omega) fun d F1 H1 w d0 d1 => ?_
          walk_at "go"
          refine n_tup w (szle (by simp)) fun t1 F1 H1 w => ?_
          walk_at "go"
          refine n_insert w (by walk_at "pick") (small_lt (by omega)) d0 (by omega) fun H5 w => ?_
          obtain ⟨zs, ezs⟩ : ∃ zs, zs = xs1.take d.toNat ++ [V.ref t1] ++ xs1.drop d.toNat := ⟨_, rfl⟩
          have lzs : zs.length = xs1.length + 1 := by
            rw [ezs, List.length_append, List.length_append, List.length_take, List.length_drop]
            show min _ _ + 1 + _ = _
            omega
          rw [← ezs] at w
          walk_at "go"
          refine n_tup w (szle (by simp)) fun t2 F1 H1 w => ?_
          walk_at "go"
          refine n_draw w (by walk_at "pick") (by omega) (by omega) fun e F1 H1 w e0 e1 => ?_
          obtain ⟨e, rfl⟩ : ∃ e2 : Nat, e = (e2 : Int) := ⟨e.toNat, by omega⟩
          walk_at "go"
          refine n_setL w (by walk_at "pick") e (ix_nat (by omega)) fun H5 w => ?_
          exact nx_mk w ⟨xs0, zs.set e (.ref t2), _, rfl, by rw [List.length_set]; omega, rfl⟩ (by walk_at "pk")
        | k + 2, hx, hb => cases hx
      · obtain ⟨xs0, xs1, y7, rfl, hb, rfl⟩ := hp
        walk_at "go"
        exact nx_mk w ⟨_, rfl, rfl⟩ (by walk_at "pk")
    obtain ⟨y7, rfl, rfl⟩ := hp
    refine n_cut w (fun σ L => ∃ x y cv rw_ pv pvs y7, σ = [some (.ref sc), some (.ref b), some (.bl bn), some (.int (n : Nat)), some y, some (.ref dl), some x, y7, none, none, none, none, none, none] ∧ L = [pr K n x y cv rw_ pv pvs, bag K b]) ?_ (fun σ L F' H' hp w => ?_)
    · walk_at "go"
      cases bn with
      | false =>
        walk_at "go"
        replace w := w.push (pr K n _ _ _ _ _ _) (pr_mk (w.i (fx dc _) (by walk_at "mem")) (w.i (fx dr _) (by walk_at "mem")) (w.i (fx p0 _) (by walk_at "mem")) (w.i (fx p1 _) (by walk_at "mem")) (w.dpa (xs := vs0) (by walk_at "mem")) (w.dpa (xs := vs1) (by walk_at "mem")) (w.i (chg K (.ref c0) n rows0) (by walk_at "mem")) (w.i (chg K (.ref c1) n rows1) (by walk_at "mem")) ok0 ok1)
        exact nx_mk w ⟨_, _, _, _, _, _, _, rfl, rfl⟩ (by walk_at "pk")
      | true =>
        walk_at "go"
        refine n_lst w (szle (by simp)) fun dc2 F6 H6 w hdc2 => ?_
        obtain ⟨F6, w⟩ := w.fzL (p := dc2) (by walk_at "pick") hdc2
        walk_at "go"
        refine n_lst w (szle (by simp)) fun dr2 F6 H6 w hdr2 => ?_
        obtain ⟨F6, w⟩ := w.fzL (p := dr2) (by walk_at "pick") hdr2
        walk_at "go"
        replace w := w.push (pr K n _ _ _ _ _ _) (pr_mk (w.i (fx dc2 _) (by walk_at "mem")) (w.i (fx dr2 _) (by walk_at "mem")) (w.i (fx p0 _) (by walk_at "mem")) (w.i (fx p0 _) (by walk_at "mem")) (w.dpa (xs := vs0) (by walk_at "mem")) (w.dpa (xs := vs0) (by walk_at "mem")) (w.i (chg K (.ref c0) n rows0) (by walk_at "mem")) (w.i (chg K (.ref c0) n rows0) (by walk_at "mem")) ok0 ok0)
        exact nx_mk w ⟨_, _, _, _, _, _, _, rfl, rfl⟩ (by walk_at "pk")
    obtain ⟨x, y, cv, rw_, pv, pvs, y7, rfl, rfl⟩ := hp
    obtain ⟨⟨ca, rfl, hca⟩, ⟨ra, rfl, hra⟩, _⟩ : Pr K F' n x y cv rw_ pv pvs := w.i (pr K n x y cv rw_ pv pvs) (by walk_at "mem")
    replace w := (w.push (imL K ca _) hca).push (imL K ra _) hra
    walk_at "go"
    refine n_lst w (szle (by simp)) fun t F1 H1 w ht0 => ?_
    replace w := w.push (dpa K [] (([] : List (List Cel)).map twinD)) .nil
    walk_at "go"
    refine n_forR w (fun j σ L => ∃ ts css z9 z10 z11, σ = [some (.ref sc), some (.ref b), some (.bl bn), some (.int (n : Nat)), some (.ref ra), some (.ref dl), some (.ref ca), y7, some (.ref t), z9, z10, z11, none, none] ∧ Told css ∧ ts.length ≤ j ∧ L = [mu t (.lst ts), dpa K ts (css.map twinD), imL K ca [cv 0, cv 1], imL K ra [.ref (pv 0), .ref (pv 1)], pr K n (.ref ca) (.ref ra) cv rw_ pv pvs, bag K b]) ⟨[], [], none, none, none, rfl, told_nil, Nat.le_refl _, rfl⟩ (fun j σ L F' H' hj hp w => ?_) (fun σ L F' H' hp w => ?_)
    · obtain ⟨ts, css, z9, z10, z11, rfl, htd, hts, rfl⟩ := hp
      have hj2 : j < 28 := by split at hj <;> omega
      walk_at "go"
      refine ⟨_, b, t, n, ts, css, cv, rw_, pv, pvs, rfl, rfl, rfl, w.st (by walk_at "pick"), w.dpa (by walk_at "mem"), htd, by omega, w.i (pr K n (.ref ca) (.ref ra) cv rw_ pv pvs) (by walk_at "mem"), hn, fun ts2 css2 F6 H6 w6 htd2 hts2 => ?_⟩
      replace w := w.cal (D := [mu t (.lst ts), bag K b]) (by walk_at "pick") w6 (by walk_at "app")
      walk_at "go"
      refine n_draw w (by walk_at "pick") (by decide) (by decide) fun r F1 H1 w r0 r1 => ?_
      obtain ⟨e, rfl⟩ : ∃ e : Nat, r = (e : Int) := ⟨r.toNat, by omega⟩
      have he : e < 2 := by omega
      walk_at "go"
      refine n_lst w (szle (by simp)) fun pj F1 H1 w hpj => ?_
      rw [show (1 : Int) - (e : Nat) = ((1 - e : Nat) : Int) by omega] at w
      walk_at "go"
      refine n_forL [V.int (e : Nat), V.int ((1 - e : Nat) : Int)] w (fun i σ L => ∃ z11, σ = [some (.ref sc), some (.ref b), some (.bl bn), some (.int (n : Nat)), some (.ref ra), some (.ref dl), some (.ref ca), y7, some (.ref t), some (.int (j : Nat)), some (.int (e : Nat)), z11, none, none] ∧ L = [mu pj (.lst [V.int (e : Nat), V.int ((1 - e : Nat) : Int)]), mu t (.lst ts2), dpa K ts2 (css2.map twinD), imL K ca [cv 0, cv 1], imL K ra [.ref (pv 0), .ref (pv 1)], pr K n (.ref ca) (.ref ra) cv rw_ pv pvs, bag K b]) ⟨z11, rfl, rfl⟩ (fun i σ L F' H' hp w => ?_) (fun i x σ L F' H' hx hp w => ?_) (fun σ L F' H' hp w => ?_)
      · obtain ⟨z11, rfl, rfl⟩ := hp
        walk_at "sq"
      · obtain ⟨z11, rfl, rfl⟩ := hp
        obtain ⟨f, hf, rfl⟩ : ∃ f : Nat, f < 2 ∧ x = .int (f : Nat) := by
          match i, hx with
          | 0, hx => cases hx; exact ⟨e, he, rfl⟩
          | 1, hx => cases hx; exact ⟨1 - e, by omega, rfl⟩
          | k + 2, hx => cases hx
        have hP : Pr K F' n (.ref ca) (.ref ra) cv rw_ pv pvs := w.i (pr K n (.ref ca) (.ref ra) cv rw_ pv pvs) (by walk_at "mem")
        obtain ⟨a1, a2, a3, a4⟩ := hP.it f hf
        walk_at "go"
        refine w_ixL _ _ (by walk_at "sq") (two_at cv hf) ?_
        walk_at "go"
        refine w_ixL _ _ (by walk_at "sq") (two_at (fun k => V.ref (pv k)) hf) ?_
        walk_at "go"
        refine ⟨_, b, pv f, n, pvs f, rw_ f, rfl, rfl, rfl, w.st (by walk_at "pick"), a3, a4, hn, a1, a2, fun F6 H6 w6 => ?_⟩
        replace w := w.calB (by walk_at "pick") w6 (by walk_at "app")
        walk_at "go"
        exact nx_mk w ⟨_, rfl, rfl⟩ (by walk_at "pk")
      · obtain ⟨z11, rfl, rfl⟩ := hp
        exact nx_mk w ⟨ts2, css2, _, _, _, rfl, htd2, by omega, rfl⟩ (by walk_at "pk")
    · obtain ⟨ts, css, z9, z10, z11, rfl, htd, hts, rfl⟩ := hp
      walk_at "go"
      refine n_lcL ts w (fun i zs L => zs = [] ∧ L = [mu t (.lst ts), dpa K ts (css.map twinD), imL K ca [cv 0, cv 1], imL K ra [.ref (pv 0), .ref (pv 1)], pr K n (.ref ca) (.ref ra) cv rw_ pv pvs, bag K b]) ⟨rfl, rfl⟩ (fun i zs L F' H' D hp w => ?_) (fun i x zs L F' H' D hx hp w hD => ?_) (fun D zs L F' H' hp w hD => ?_)
      · obtain ⟨rfl, rfl⟩ := hp
        walk_at "sq"
      · obtain ⟨rfl, rfl⟩ := hp
        obtain ⟨cs, hcs, dx⟩ := dpa_at (w.dpa (K := K) (xs := ts) (ds := css.map twinD) (by walk_at "mem")) hx
        obtain ⟨t2, v1, v2, rfl, hT, d1, d2⟩ := twin_open dx
        have hcm := List.mem_of_getElem? hcs
        have cg := cels_good (htd.ok cs hcm) (by have := htd.len cs hcm; omega)
        walk_at "wp"
        walk_at "go"
        refine w_ixT _ _ (sqT_same w.fh hT) rfl ?_
        walk_at "go"
        refine w_ixT _ _ (sqT_same w.fh hT) rfl ?_
        walk_at "go"
        refine ⟨_, .list (cs.map Cel.d), w.fh, d1, d2, Nat.lt_of_le_of_lt cg.2 (by decide), cg.1, fun F9 H9 g9 => ?_⟩
        replace w := w.gr0 g9
        walk_at "go"
        exact ⟨_, _, _, ⟨rfl, rfl⟩, w⟩
      obtain ⟨rfl, rfl⟩ := hp
      walk_at "go"
      refine n_lst w (szle (by simp)) fun p8 F8 H8 w hp8 => ?_
      walk_at "go"
      refine ⟨.list [], .list [], .lst (by walk_at "sq") .nil, .lst (by walk_at "sq") .nil, good_shaped rfl (by decide), good_shaped rfl (by decide), ?_⟩
      rw [show PyData.eqv (.list []) (.list []) = true from rfl]
      walk_at "go"
      exact q _
end

def d_gives : He.DefD := ⟨("gives", none), "gives", "gives", defArgs s_gives, defBody s_gives, defScope s_gives, [], []⟩
def d_row_text : He.DefD := ⟨("row_text", none), "row_text", "row_text", defArgs s_row_text, defBody s_row_text, defScope s_row_text, [], []⟩
def d_ChangeX_initX : He.DefD := ⟨("Change", some "__init__"), "__init__", "Change.__init__", defArgs s_ChangeX_initX, defBody s_ChangeX_initX, defScope s_ChangeX_initX, [], []⟩
def d_ChangeX_strX : He.DefD := ⟨("Change", some "__str__"), "__str__", "Change.__str__", defArgs s_ChangeX_strX, defBody s_ChangeX_strX, defScope s_ChangeX_strX, [], []⟩
def d_Change_cells : He.DefD := ⟨("Change", some "cells"), "cells", "Change.cells", defArgs s_Change_cells, defBody s_Change_cells, defScope s_Change_cells, [], []⟩
def d_Change_new_size : He.DefD := ⟨("Change", some "new_size"), "new_size", "Change.new_size", defArgs s_Change_new_size, defBody s_Change_new_size, defScope s_Change_new_size, [], []⟩
def d_Change_done : He.DefD := ⟨("Change", some "done"), "done", "Change.done", defArgs s_Change_done, defBody s_Change_done, defScope s_Change_done, [], []⟩
def d_Change_done_r : He.DefD := ⟨("Change", some "done"), "done", "Change.done", defArgs s_Change_done_r, defBody s_Change_done_r, defScope s_Change_done_r, [], []⟩
def d_rows_of : He.DefD := ⟨("rows_of", none), "rows_of", "rows_of", defArgs s_rows_of, defBody s_rows_of, defScope s_rows_of, [], []⟩
def d_plainest : He.DefD := ⟨("plainest", none), "plainest", "plainest", defArgs s_plainest, defBody s_plainest, defScope s_plainest, [], []⟩
def d_parting_text : He.DefD := ⟨("parting_text", none), "parting_text", "parting_text", defArgs s_parting_text, defBody s_parting_text, defScope s_parting_text, [], []⟩
def d_parting : He.DefD := ⟨("parting", none), "parting", "parting", defArgs s_parting, defBody s_parting, defScope s_parting, [], []⟩
def d_behind : He.DefD := ⟨("behind", none), "behind", "behind", defArgs s_behind, defBody s_behind, defScope s_behind, [], []⟩
def d_behind_r : He.DefD := ⟨("behind", none), "behind", "behind", defArgs s_behind_r, defBody s_behind_r, defScope s_behind_r, [], []⟩
def d_undone : He.DefD := ⟨("undone", none), "undone", "undone", defArgs s_undone, defBody s_undone, defScope s_undone, [], []⟩
def d_undone_r : He.DefD := ⟨("undone", none), "undone", "undone", defArgs s_undone_r, defBody s_undone_r, defScope s_undone_r, [], []⟩
def d_law_bag : He.DefD := ⟨("_law_bag", none), "_law_bag", "_law_bag", defArgs s_law_bag, defBody s_law_bag, defScope s_law_bag, [], []⟩
def d_law_stirred : He.DefD := ⟨("_law_stirred", none), "_law_stirred", "_law_stirred", defArgs s_law_stirred, defBody s_law_stirred, defScope s_law_stirred, [], []⟩
def d_law_draw : He.DefD := ⟨("_law_draw", none), "_law_draw", "_law_draw", defArgs s_law_draw, defBody s_law_draw, defScope s_law_draw, [], []⟩
def d_law_alike : He.DefD := ⟨("_law_alike", none), "_law_alike", "_law_alike", defArgs s_law_alike, defBody s_law_alike, defScope s_law_alike, [], []⟩
def d_law_signs : He.DefD := ⟨("_law_signs", none), "_law_signs", "_law_signs", defArgs s_law_signs, defBody s_law_signs, defScope s_law_signs, [], []⟩
def d_law_text : He.DefD := ⟨("_law_text", none), "_law_text", "_law_text", defArgs s_law_text, defBody s_law_text, defScope s_law_text, [], []⟩
def d_law_row : He.DefD := ⟨("_law_row", none), "_law_row", "_law_row", defArgs s_law_row, defBody s_law_row, defScope s_law_row, [], []⟩
def d_law_rows : He.DefD := ⟨("_law_rows", none), "_law_rows", "_law_rows", defArgs s_law_rows, defBody s_law_rows, defScope s_law_rows, [], []⟩
def d_law_cells : He.DefD := ⟨("_law_cells", none), "_law_cells", "_law_cells", defArgs s_law_cells, defBody s_law_cells, defScope s_law_cells, [], []⟩
def d_law_done : He.DefD := ⟨("_law_done", none), "_law_done", "_law_done", defArgs s_law_done, defBody s_law_done, defScope s_law_done, [], []⟩
def d_law_plain : He.DefD := ⟨("_law_plain", none), "_law_plain", "_law_plain", defArgs s_law_plain, defBody s_law_plain, defScope s_law_plain, [], []⟩
def d_law_size : He.DefD := ⟨("_law_size", none), "_law_size", "_law_size", defArgs s_law_size, defBody s_law_size, defScope s_law_size, [], []⟩
def d_law_same : He.DefD := ⟨("_law_same", none), "_law_same", "_law_same", defArgs s_law_same, defBody s_law_same, defScope s_law_same, [], []⟩
def d_law_written : He.DefD := ⟨("_law_written", none), "_law_written", "_law_written", defArgs s_law_written, defBody s_law_written, defScope s_law_written, [], []⟩
def d_law_refused : He.DefD := ⟨("_law_refused", none), "_law_refused", "_law_refused", defArgs s_law_refused, defBody s_law_refused, defScope s_law_refused, [], []⟩
def d_law_parted : He.DefD := ⟨("_law_parted", none), "_law_parted", "_law_parted", defArgs s_law_parted, defBody s_law_parted, defScope s_law_parted, [], []⟩
def d_law_behind : He.DefD := ⟨("_law_behind", none), "_law_behind", "_law_behind", defArgs s_law_behind, defBody s_law_behind, defScope s_law_behind, [], []⟩
def d_law_undone : He.DefD := ⟨("_law_undone", none), "_law_undone", "_law_undone", defArgs s_law_undone, defBody s_law_undone, defScope s_law_undone, [], []⟩
def d_law_deed : He.DefD := ⟨("_law_deed", none), "_law_deed", "_law_deed", defArgs s_law_deed, defBody s_law_deed, defScope s_law_deed, [], []⟩
def d_law_stays : He.DefD := ⟨("_law_stays", none), "_law_stays", "_law_stays", defArgs s_law_stays, defBody s_law_stays, defScope s_law_stays, [], []⟩
def d_law : He.DefD := ⟨("law", none), "law", "law", defArgs s_law, defBody s_law, defScope s_law, [], []⟩
def fn : List He.DefD := [d_gives, d_row_text, d_ChangeX_initX, d_ChangeX_strX, d_Change_cells, d_Change_new_size, d_Change_done, d_Change_done_r, d_rows_of, d_plainest, d_parting_text, d_parting, d_behind, d_behind_r, d_undone, d_undone_r, d_law_bag, d_law_stirred, d_law_draw, d_law_alike, d_law_signs, d_law_text, d_law_row, d_law_rows, d_law_cells, d_law_done, d_law_plain, d_law_size, d_law_same, d_law_written, d_law_refused, d_law_parted, d_law_behind, d_law_undone, d_law_deed, d_law_stays, d_law]
def fa : List He.Fa := [.free "abs", .free "all", .free "bool", .free "int", .free "isinstance", .free "len", .free "list", .free "min", .free "range", .free "str", .free "tuple", .int "MOST" 400, .glo "gives", .glo "row_text", .glo "rows_of", .glo "plainest", .glo "parting_text", .glo "parting", .glo "behind", .glo "behind", .glo "undone", .glo "undone", .glo "_law_bag", .glo "_law_stirred", .glo "_law_draw", .glo "_law_alike", .glo "_law_signs", .glo "_law_text", .glo "_law_row", .glo "_law_rows", .glo "_law_cells", .glo "_law_done", .glo "_law_plain", .glo "_law_size", .glo "_law_same", .glo "_law_written", .glo "_law_refused", .glo "_law_parted", .glo "_law_behind", .glo "_law_undone", .glo "_law_deed", .glo "_law_stays", .glo "law", .glo "Change", .cls "Change", .mkr "Change", .noat "Change" "size", .noat "Change" "rows", .meth "Change" "__str__", .meth "Change" "cells", .meth "Change" "new_size", .meth "Change" "done", .meth "Change" "done", .glo "BadSize", .exc "BadSize", .exm "BadSize" "BadSize" true]
abbrev RR : PySem.W.OpenRow := PySem.W.OpenLaw.row PySem.Challenge.rw_remadehere_k10_whole_changes_stay
def exB (K : PySem.W.Frag) : Bool := (insB K "Change" && (strB K "Change" && true))
abbrev hk : PySem.W.Hook := hookE 4 fa fn exB
def ob (s : PySem.W.SharedT) : He.AlD × Bool := obsEG 4 fa fn exB (HandSHeadRun.getT s)
theorem ob_eq (s : PySem.W.SharedT) : ob s = hk.obs s.abs := obsEG_eq (HandSHeadRun.getT_eq s)
theorem run (w : World) : HandSHeadRun.RunEq RR (PySem.W.view RR.prog [36]) hk ob 3000 ("BadRow" :: "BadSize" :: "MOST" :: "gives" :: "row_text" :: "Change" :: "rows_of" :: "plainest" :: "parting_text" :: "parting" :: "behind" :: "undone" :: "_law_bag" :: "_law_stirred" :: "_law_draw" :: "_law_whole" :: "_law_alike" :: "_law_signs" :: "_law_text" :: "_law_row" :: "_law_rows" :: "_law_cells" :: "_law_done" :: "_law_plain" :: "_law_size" :: "_law_same" :: "_law_written" :: "_law_refused" :: "_law_parted" :: "_law_behind" :: "_law_undone" :: "_law_deed" :: "_law_stays" :: []) w := by
  intro os
  kernel_rfl
theorem facts {P : Program} {w : World} {K : PySem.W.Frag} {mg : Str → Option Value} {h : Heap} {f : Addr} (X : K.In h) (G : h.Ns mainGlobals mg) (hfa : mg ("law" : Str) = some (.ref f)) (c : He.SaysD fa fn K) (ex : exB K = true) :
    ∃ fd : FuncData, (∀ (s : Shared) (v : Value), BindsTo s fd ⟨[v], []⟩ [("script", v)]) ∧ ∀ base : Heap, K.In base → base.Ns mainGlobals mg → FnOk P w K mg base CX0 13 f fd ["script"] (S1 (φlaw K)) := by
  unfold exB at ex
  simp only [Bool.and_eq_true] at ex
  have T : Txt K mg := ⟨He.free_ok X G (c.fact 0 (f := .free "abs") rfl), He.free_ok X G (c.fact 1 (f := .free "all") rfl), He.free_ok X G (c.fact 2 (f := .free "bool") rfl), He.free_ok X G (c.fact 3 (f := .free "int") rfl), He.free_ok X G (c.fact 4 (f := .free "isinstance") rfl), He.free_ok X G (c.fact 5 (f := .free "len") rfl), He.free_ok X G (c.fact 6 (f := .free "list") rfl), He.free_ok X G (c.fact 7 (f := .free "min") rfl), He.free_ok X G (c.fact 8 (f := .free "range") rfl), He.free_ok X G (c.fact 9 (f := .free "str") rfl), He.free_ok X G (c.fact 10 (f := .free "tuple") rfl), He.int_ok X G (c.fact 11 (f := .int "MOST" 400) rfl), He.cls_ok (c.fact 44 (f := .cls "Change") rfl), He.noat_ok (c.fact 46 (f := .noat "Change" "size") rfl), He.noat_ok (c.fact 47 (f := .noat "Change" "rows") rfl), He.glo_ok X G (c.fact 43 (f := .glo "Change") rfl), insB_ok (He.cls_ok (c.fact 44 (f := .cls "Change") rfl)) ex.1, strB_ok ex.2.1, ec_ok (He.glo_ok X G (c.fact 53 (f := .glo "BadSize") rfl)) (He.exc_ok (c.fact 54 (f := .exc "BadSize") rfl)) (He.exm_ok (c.fact 55 (f := .exm "BadSize" "BadSize" true) rfl))⟩
  obtain ⟨fd_gives, F_gives⟩ := c.def_ 0 (d := d_gives) rfl
  obtain ⟨fd_row_text, F_row_text⟩ := c.def_ 1 (d := d_row_text) rfl
  obtain ⟨fd_ChangeX_initX, F_ChangeX_initX⟩ := c.def_ 2 (d := d_ChangeX_initX) rfl
  obtain ⟨fd_ChangeX_strX, F_ChangeX_strX⟩ := c.def_ 3 (d := d_ChangeX_strX) rfl
  obtain ⟨fd_Change_cells, F_Change_cells⟩ := c.def_ 4 (d := d_Change_cells) rfl
  obtain ⟨fd_Change_new_size, F_Change_new_size⟩ := c.def_ 5 (d := d_Change_new_size) rfl
  obtain ⟨fd_Change_done, F_Change_done⟩ := c.def_ 6 (d := d_Change_done) rfl
  obtain ⟨fd_Change_done_r, F_Change_done_r⟩ := c.def_ 7 (d := d_Change_done_r) rfl
  obtain ⟨fd_rows_of, F_rows_of⟩ := c.def_ 8 (d := d_rows_of) rfl
  obtain ⟨fd_plainest, F_plainest⟩ := c.def_ 9 (d := d_plainest) rfl
  obtain ⟨fd_parting_text, F_parting_text⟩ := c.def_ 10 (d := d_parting_text) rfl
  obtain ⟨fd_parting, F_parting⟩ := c.def_ 11 (d := d_parting) rfl
  obtain ⟨fd_behind, F_behind⟩ := c.def_ 12 (d := d_behind) rfl
  obtain ⟨fd_behind_r, F_behind_r⟩ := c.def_ 13 (d := d_behind_r) rfl
  obtain ⟨fd_undone, F_undone⟩ := c.def_ 14 (d := d_undone) rfl
  obtain ⟨fd_undone_r, F_undone_r⟩ := c.def_ 15 (d := d_undone_r) rfl
  obtain ⟨fd_law_bag, F_law_bag⟩ := c.def_ 16 (d := d_law_bag) rfl
  obtain ⟨fd_law_stirred, F_law_stirred⟩ := c.def_ 17 (d := d_law_stirred) rfl
  obtain ⟨fd_law_draw, F_law_draw⟩ := c.def_ 18 (d := d_law_draw) rfl
  obtain ⟨fd_law_alike, F_law_alike⟩ := c.def_ 19 (d := d_law_alike) rfl
  obtain ⟨fd_law_signs, F_law_signs⟩ := c.def_ 20 (d := d_law_signs) rfl
  obtain ⟨fd_law_text, F_law_text⟩ := c.def_ 21 (d := d_law_text) rfl
  obtain ⟨fd_law_row, F_law_row⟩ := c.def_ 22 (d := d_law_row) rfl
  obtain ⟨fd_law_rows, F_law_rows⟩ := c.def_ 23 (d := d_law_rows) rfl
  obtain ⟨fd_law_cells, F_law_cells⟩ := c.def_ 24 (d := d_law_cells) rfl
  obtain ⟨fd_law_done, F_law_done⟩ := c.def_ 25 (d := d_law_done) rfl
  obtain ⟨fd_law_plain, F_law_plain⟩ := c.def_ 26 (d := d_law_plain) rfl
  obtain ⟨fd_law_size, F_law_size⟩ := c.def_ 27 (d := d_law_size) rfl
  obtain ⟨fd_law_same, F_law_same⟩ := c.def_ 28 (d := d_law_same) rfl
  obtain ⟨fd_law_written, F_law_written⟩ := c.def_ 29 (d := d_law_written) rfl
  obtain ⟨fd_law_refused, F_law_refused⟩ := c.def_ 30 (d := d_law_refused) rfl
  obtain ⟨fd_law_parted, F_law_parted⟩ := c.def_ 31 (d := d_law_parted) rfl
  obtain ⟨fd_law_behind, F_law_behind⟩ := c.def_ 32 (d := d_law_behind) rfl
  obtain ⟨fd_law_undone, F_law_undone⟩ := c.def_ 33 (d := d_law_undone) rfl
  obtain ⟨fd_law_deed, F_law_deed⟩ := c.def_ 34 (d := d_law_deed) rfl
  obtain ⟨fd_law_stays, F_law_stays⟩ := c.def_ 35 (d := d_law_stays) rfl
  obtain ⟨fd_law, F_law⟩ := c.def_ 36 (d := d_law) rfl
  have D_gives : ∀ base, DO P w K mg base 1 "gives" ["row", "size"] [] (S2 (φgives K)) := fun base => ⟨_, _, [], ok_gives F_gives T , He.glo_ok X G (c.fact 12 (f := .glo "gives") rfl), F_gives.kp, F_gives.bindsN fun _ _ _ _ _ _ us hl => match us, hl with | [_, _], _ => rfl, .nil⟩
  have D_row_text : ∀ base, DO P w K mg base 1 "row_text" ["row"] [] (S1 (φrowtext K)) := fun base => ⟨_, _, [], ok_row_text F_row_text T , He.glo_ok X G (c.fact 13 (f := .glo "row_text") rfl), F_row_text.kp, F_row_text.bindsN fun _ _ _ _ _ _ us hl => match us, hl with | [_], _ => rfl, .nil⟩
  have DN_Change_2 : ∀ base, DN P w K mg base 2 "Change" ["self", "size", "rows"] [] (S3 (φinit K)) := fun base => ⟨_, [], ok_ChangeX_initX F_ChangeX_initX T (D_gives base), He.mkr_ok (c.fact 45 (f := .mkr "Change") rfl), He.glo_ok X G (c.fact 43 (f := .glo "Change") rfl), F_ChangeX_initX.bindsN fun _ _ _ _ _ _ us hl => match us, hl with | [_, _, _], _ => rfl, .nil⟩
  have DM_ChangeX_strX : ∀ base, DM P w K mg base 2 "Change" "__str__" ["self"] [] (S1 (φstr K)) := fun base => ⟨_, [], ok_ChangeX_strX F_ChangeX_strX T (D_row_text base), He.meth_ok (c.fact 48 (f := .meth "Change" "__str__") rfl), T.k_Change, F_ChangeX_strX.bindsN fun _ _ _ _ _ _ us hl => match us, hl with | [_], _ => rfl, .nil⟩
  have DM_Change_cells : ∀ base, DM P w K mg base 1 "Change" "cells" ["self"] [] (S1 (φcells K)) := fun base => ⟨_, [], ok_Change_cells F_Change_cells T , He.meth_ok (c.fact 49 (f := .meth "Change" "cells") rfl), T.k_Change, F_Change_cells.bindsN fun _ _ _ _ _ _ us hl => match us, hl with | [_], _ => rfl, .nil⟩
  have DM_Change_new_size : ∀ base, DM P w K mg base 2 "Change" "new_size" ["self"] [] (S1 (φnewsize K)) := fun base => ⟨_, [], ok_Change_new_size F_Change_new_size T (DM_Change_cells base), He.meth_ok (c.fact 50 (f := .meth "Change" "new_size") rfl), T.k_Change, F_Change_new_size.bindsN fun _ _ _ _ _ _ us hl => match us, hl with | [_], _ => rfl, .nil⟩
  have DM_Change_done : ∀ base, DM P w K mg base 2 "Change" "done" ["self", "old"] [] (S2 (φdoneC K)) := fun base => ⟨_, [], ok_Change_done F_Change_done T (DM_Change_cells base), He.meth_ok (c.fact 51 (f := .meth "Change" "done") rfl), T.k_Change, F_Change_done.bindsN fun _ _ _ _ _ _ us hl => match us, hl with | [_, _], _ => rfl, .nil⟩
  have DX_Change_done_r : ∀ base, DMX P w K mg base 1 "Change" "done" ["self", "old"] (SX2 (φdoneX K)) := fun base => ⟨_, ok_Change_done_r F_Change_done_r T , He.meth_ok (c.fact 52 (f := .meth "Change" "done") rfl), T.k_Change, F_Change_done_r.bindsN fun _ _ _ _ _ _ us hl => match us, hl with | [_, _], _ => rfl⟩
  have D_rows_of : ∀ base, DO P w K mg base 1 "rows_of" ["cells"] [] (S1 (φrows_of K)) := fun base => ⟨_, _, [], ok_rows_of F_rows_of T , He.glo_ok X G (c.fact 14 (f := .glo "rows_of") rfl), F_rows_of.kp, F_rows_of.bindsN fun _ _ _ _ _ _ us hl => match us, hl with | [_], _ => rfl, .nil⟩
  have D_plainest : ∀ base, DO P w K mg base 4 "plainest" ["change"] [] (S1 (φplainest K)) := fun base => ⟨_, _, [], ok_plainest F_plainest T (D_rows_of base) (DM_Change_cells base) (DN_Change_2 base), He.glo_ok X G (c.fact 15 (f := .glo "plainest") rfl), F_plainest.kp, F_plainest.bindsN fun _ _ _ _ _ _ us hl => match us, hl with | [_], _ => rfl, .nil⟩
  have D_parting_text : ∀ base, DO P w K mg base 1 "parting_text" ["size", "cell", "other"] [] (S3 (φpt K)) := fun base => ⟨_, _, [], ok_parting_text F_parting_text T , He.glo_ok X G (c.fact 16 (f := .glo "parting_text") rfl), F_parting_text.kp, F_parting_text.bindsN fun _ _ _ _ _ _ us hl => match us, hl with | [_, _, _], _ => rfl, .nil⟩
  have D_parting : ∀ base, DO P w K mg base 3 "parting" ["one", "two"] [] (S2 (φparting K)) := fun base => ⟨_, _, [], ok_parting F_parting T (D_parting_text base) (DM_Change_cells base), He.glo_ok X G (c.fact 17 (f := .glo "parting") rfl), F_parting.kp, F_parting.bindsN fun _ _ _ _ _ _ us hl => match us, hl with | [_, _], _ => rfl, .nil⟩
  have D_behind : ∀ base, DO P w K mg base 4 "behind" ["first", "second"] [] (S2 (φbehind K)) := fun base => ⟨_, _, [], ok_behind F_behind T (D_rows_of base) (DM_Change_cells base) (DN_Change_2 base), He.glo_ok X G (c.fact 18 (f := .glo "behind") rfl), F_behind.kp, F_behind.bindsN fun _ _ _ _ _ _ us hl => match us, hl with | [_, _], _ => rfl, .nil⟩
  have DX_behind_r : ∀ base, DOX P w K mg base 2 "behind" ["first", "second"] (SX2 (φbehindX K)) := fun base => ⟨_, _, ok_behind_r F_behind_r T (DM_Change_cells base), He.glo_ok X G (c.fact 19 (f := .glo "behind") rfl), F_behind_r.kp, F_behind_r.bindsN fun _ _ _ _ _ _ us hl => match us, hl with | [_, _], _ => rfl⟩
  have D_undone : ∀ base, DO P w K mg base 4 "undone" ["change", "old"] [] (S2 (φundone K)) := fun base => ⟨_, _, [], ok_undone F_undone T (D_rows_of base) (DM_Change_cells base) (DN_Change_2 base), He.glo_ok X G (c.fact 20 (f := .glo "undone") rfl), F_undone.kp, F_undone.bindsN fun _ _ _ _ _ _ us hl => match us, hl with | [_, _], _ => rfl, .nil⟩
  have DX_undone_r : ∀ base, DOX P w K mg base 1 "undone" ["change", "old"] (SX2 (φdoneX K)) := fun base => ⟨_, _, ok_undone_r F_undone_r T , He.glo_ok X G (c.fact 21 (f := .glo "undone") rfl), F_undone_r.kp, F_undone_r.bindsN fun _ _ _ _ _ _ us hl => match us, hl with | [_, _], _ => rfl⟩
  have D_law_bag : ∀ base, DO P w K mg base 1 "_law_bag" ["script"] [] (S1 (φbag K)) := fun base => ⟨_, _, [], ok_law_bag F_law_bag T , He.glo_ok X G (c.fact 22 (f := .glo "_law_bag") rfl), F_law_bag.kp, F_law_bag.bindsN fun _ _ _ _ _ _ us hl => match us, hl with | [_], _ => rfl, .nil⟩
  have D_law_stirred : ∀ base, DO P w K mg base 1 "_law_stirred" ["bag", "many"] [] (S2 (φdraw K)) := fun base => ⟨_, _, [], ok_law_stirred F_law_stirred T , He.glo_ok X G (c.fact 23 (f := .glo "_law_stirred") rfl), F_law_stirred.kp, F_law_stirred.bindsN fun _ _ _ _ _ _ us hl => match us, hl with | [_, _], _ => rfl, .nil⟩
  have D_law_draw : ∀ base, DO P w K mg base 2 "_law_draw" ["bag", "many"] [] (S2 (φdraw K)) := fun base => ⟨_, _, [], ok_law_draw F_law_draw T (D_law_stirred base), He.glo_ok X G (c.fact 24 (f := .glo "_law_draw") rfl), F_law_draw.kp, F_law_draw.bindsN fun _ _ _ _ _ _ us hl => match us, hl with | [_, _], _ => rfl, .nil⟩
  have D_law_alike : ∀ base, DO P w K mg base 6 "_law_alike" ["found", "due"] [] (S2 (φalike K 6)) := fun base => recDO (φ := fun n => (S2 (φalike K n))) (fun vs H Q E h => alike0 h) (He.glo_ok X G (c.fact 25 (f := .glo "_law_alike") rfl)) F_law_alike.kp (F_law_alike.bindsN fun _ _ _ _ _ _ us hl => match us, hl with | [_, _], _ => rfl) (fun n ih => ok_law_alike F_law_alike T ih) 6
  have D_law_signs : ∀ base, DO P w K mg base 1 "_law_signs" [] [] (S0 φsigns) := fun base => ⟨_, _, [], ok_law_signs F_law_signs T , He.glo_ok X G (c.fact 26 (f := .glo "_law_signs") rfl), F_law_signs.kp, F_law_signs.bindsN fun _ _ _ _ _ _ us hl => match us, hl with | [], _ => rfl, .nil⟩
  have D_law_text : ∀ base, DO P w K mg base 3 "_law_text" ["bag", "size"] [] (S2 (φtextN K)) := fun base => ⟨_, _, [], ok_law_text F_law_text T (D_law_draw base) (D_law_signs base), He.glo_ok X G (c.fact 27 (f := .glo "_law_text") rfl), F_law_text.kp, F_law_text.bindsN fun _ _ _ _ _ _ us hl => match us, hl with | [_, _], _ => rfl, .nil⟩
  have D_law_row : ∀ base, DO P w K mg base 4 "_law_row" ["bag", "size", "left", "last"] [] (S4 (φrow1 K)) := fun base => ⟨_, _, [], ok_law_row F_law_row T (D_law_draw base) (D_law_text base), He.glo_ok X G (c.fact 28 (f := .glo "_law_row") rfl), F_law_row.kp, F_law_row.bindsN fun _ _ _ _ _ _ us hl => match us, hl with | [_, _, _, _], _ => rfl, .nil⟩
  have D_law_rows : ∀ base, DO P w K mg base 5 "_law_rows" ["bag", "size", "many", "most"] [] (S4 (φrows1 K)) := fun base => ⟨_, _, [], ok_law_rows F_law_rows T (D_law_draw base) (D_law_row base), He.glo_ok X G (c.fact 29 (f := .glo "_law_rows") rfl), F_law_rows.kp, F_law_rows.bindsN fun _ _ _ _ _ _ us hl => match us, hl with | [_, _, _, _], _ => rfl, .nil⟩
  have D_law_cells : ∀ base, DO P w K mg base 1 "_law_cells" ["rows"] [] (S1 (φlcells K)) := fun base => ⟨_, _, [], ok_law_cells F_law_cells T , He.glo_ok X G (c.fact 30 (f := .glo "_law_cells") rfl), F_law_cells.kp, F_law_cells.bindsN fun _ _ _ _ _ _ us hl => match us, hl with | [_], _ => rfl, .nil⟩
  have D_law_done : ∀ base, DO P w K mg base 1 "_law_done" ["cells", "old"] [] (S2 (φldone K)) := fun base => ⟨_, _, [], ok_law_done F_law_done T , He.glo_ok X G (c.fact 31 (f := .glo "_law_done") rfl), F_law_done.kp, F_law_done.bindsN fun _ _ _ _ _ _ us hl => match us, hl with | [_, _], _ => rfl, .nil⟩
  have D_law_plain : ∀ base, DO P w K mg base 1 "_law_plain" ["cells"] [] (S1 (φlplain K)) := fun base => ⟨_, _, [], ok_law_plain F_law_plain T , He.glo_ok X G (c.fact 32 (f := .glo "_law_plain") rfl), F_law_plain.kp, F_law_plain.bindsN fun _ _ _ _ _ _ us hl => match us, hl with | [_], _ => rfl, .nil⟩
  have D_law_size : ∀ base, DO P w K mg base 3 "_law_size" ["bag"] [] (S1 (φsize1 K)) := fun base => ⟨_, _, [], ok_law_size F_law_size T (D_law_draw base), He.glo_ok X G (c.fact 33 (f := .glo "_law_size") rfl), F_law_size.kp, F_law_size.bindsN fun _ _ _ _ _ _ us hl => match us, hl with | [_], _ => rfl, .nil⟩
  have D_law_same : ∀ base, DO P w K mg base 10 "_law_same" ["found", "size", "rows"] [] (S3 (φsame K)) := fun base => ⟨_, _, [], ok_law_same F_law_same T (D_law_alike base), He.glo_ok X G (c.fact 34 (f := .glo "_law_same") rfl), F_law_same.kp, F_law_same.bindsN fun _ _ _ _ _ _ us hl => match us, hl with | [_, _, _], _ => rfl, .nil⟩
  have D_law_written : ∀ base, DO P w K mg base 1 "_law_written" ["size", "rows"] [] (S2 (φwritten K)) := fun base => ⟨_, _, [], ok_law_written F_law_written T , He.glo_ok X G (c.fact 35 (f := .glo "_law_written") rfl), F_law_written.kp, F_law_written.bindsN fun _ _ _ _ _ _ us hl => match us, hl with | [_, _], _ => rfl, .nil⟩
  have D_law_refused : ∀ base, DO P w K mg base 3 "_law_refused" ["change", "way", "text", "strange"] [] (S4 (φrefX K)) := fun base => ⟨_, _, [], ok_law_refused F_law_refused T (DX_Change_done_r base) (DX_behind_r base) (DX_undone_r base), He.glo_ok X G (c.fact 36 (f := .glo "_law_refused") rfl), F_law_refused.kp, F_law_refused.bindsN fun _ _ _ _ _ _ us hl => match us, hl with | [_, _, _, _], _ => rfl, .nil⟩
  have D_law_parted : ∀ base, DO P w K mg base 4 "_law_parted" ["bag", "changes", "rows", "size"] [] (S4 (φparted10 K)) := fun base => ⟨_, _, [], ok_law_parted F_law_parted T (D_law_cells base) (D_law_done base) (D_law_draw base) (D_parting base), He.glo_ok X G (c.fact 37 (f := .glo "_law_parted") rfl), F_law_parted.kp, F_law_parted.bindsN fun _ _ _ _ _ _ us hl => match us, hl with | [_, _, _, _], _ => rfl, .nil⟩
  have D_law_behind : ∀ base, DO P w K mg base 11 "_law_behind" ["bag", "change", "size", "cells"] [] (S4 (φbehind10 K)) := fun base => ⟨_, _, [], ok_law_behind F_law_behind T (D_law_cells base) (D_law_draw base) (D_law_plain base) (D_law_refused base) (D_law_rows base) (D_law_same base) (D_behind base) (DN_Change_2 base), He.glo_ok X G (c.fact 38 (f := .glo "_law_behind") rfl), F_law_behind.kp, F_law_behind.bindsN fun _ _ _ _ _ _ us hl => match us, hl with | [_, _, _, _], _ => rfl, .nil⟩
  have D_law_undone : ∀ base, DO P w K mg base 11 "_law_undone" ["bag", "change", "size", "cells"] [] (S4 (φbehind10 K)) := fun base => ⟨_, _, [], ok_law_undone F_law_undone T (D_law_draw base) (D_law_plain base) (D_law_refused base) (D_law_same base) (D_law_text base) (D_undone base), He.glo_ok X G (c.fact 39 (f := .glo "_law_undone") rfl), F_law_undone.kp, F_law_undone.bindsN fun _ _ _ _ _ _ us hl => match us, hl with | [_, _, _, _], _ => rfl, .nil⟩
  have D_law_deed : ∀ base, DO P w K mg base 12 "_law_deed" ["bag", "changes", "rows", "size", "told_lists"] [] (S5 (φdeed10 K)) := fun base => ⟨_, _, [], ok_law_deed F_law_deed T (D_law_alike base) (D_law_behind base) (D_law_cells base) (D_law_done base) (D_law_draw base) (D_law_parted base) (D_law_plain base) (D_law_refused base) (D_law_same base) (D_law_text base) (D_law_undone base) (D_law_written base) (D_plainest base) (DM_ChangeX_strX base) (DM_Change_cells base) (DM_Change_done base), He.glo_ok X G (c.fact 40 (f := .glo "_law_deed") rfl), F_law_deed.kp, F_law_deed.bindsN fun _ _ _ _ _ _ us hl => match us, hl with | [_, _, _, _, _], _ => rfl, .nil⟩
  have D_law_stays : ∀ base, DO P w K mg base 11 "_law_stays" ["bag", "change", "size", "rows"] [] (S4 (φstays10 K)) := fun base => ⟨_, _, [], ok_law_stays F_law_stays T (D_law_alike base) (D_law_cells base) (D_law_done base) (D_law_plain base) (D_law_same base) (D_law_text base) (D_law_written base) (D_plainest base) (DM_ChangeX_strX base) (DM_Change_cells base) (DM_Change_done base) (DM_Change_new_size base), He.glo_ok X G (c.fact 41 (f := .glo "_law_stays") rfl), F_law_stays.kp, F_law_stays.bindsN fun _ _ _ _ _ _ us hl => match us, hl with | [_, _, _, _], _ => rfl, .nil⟩
  have e := hfa.symm.trans (He.glo_ok X G (c.fact 42 (f := .glo "law") rfl))
  cases e
  have b := FunD.bindsA (ps := ["script"]) F_law fun _ _ _ _ _ _ us hl => match us, hl with | [_], _ => rfl
  exact ⟨fd_law, fun s v => b s [v] rfl, fun base _ _ => ok_law F_law T (D_law_alike base) (D_law_bag base) (D_law_deed base) (D_law_draw base) (D_law_rows base) (D_law_size base) (D_law_stays base) (DN_Change_2 base)⟩
end Z
open PySem PySem.W PySem.Calls PyProof.Rows
theorem PySem.Challenge.cw_remadehere_k10_whole_changes_stay_holds : PySem.Challenge.rw_remadehere_k10_whole_changes_stay.Holds := by
  w_on; o_law
  refine HandSHeadRun.head_any (r := OpenLaw.row PySem.Challenge.rw_remadehere_k10_whole_changes_stay) (q := view (OpenLaw.row PySem.Challenge.rw_remadehere_k10_whole_changes_stay).prog [36]) (H := Z.hk) (ob := Z.ob) (M := 3000) (loose := ("BadRow" :: "BadSize" :: "MOST" :: "gives" :: "row_text" :: "Change" :: "rows_of" :: "plainest" :: "parting_text" :: "parting" :: "behind" :: "undone" :: "_law_bag" :: "_law_stirred" :: "_law_draw" :: "_law_whole" :: "_law_alike" :: "_law_signs" :: "_law_text" :: "_law_row" :: "_law_rows" :: "_law_cells" :: "_law_done" :: "_law_plain" :: "_law_size" :: "_law_same" :: "_law_written" :: "_law_refused" :: "_law_parted" :: "_law_behind" :: "_law_undone" :: "_law_deed" :: "_law_stays" :: [])) (d := HandSHeadRun.topDef (OpenLaw.row PySem.Challenge.rw_remadehere_k10_whole_changes_stay).prog 36) (kwd := []) Z.ob_eq
    (by kernel_rfl) (fun s => by kernel_rfl) Z.run (by kernel_rfl) (by kernel_rfl) (by kernel_rfl) (by rfl) (by first | assumption | decide +kernel) (by decide +kernel) ⟨rfl, rfl, rfl, rfl, rfl, by decide +kernel⟩ ?hw ?hc
  case hw => w_witness2
  case hc =>
    refine L2.walk_ofE (l := PySem.Challenge.rw_remadehere_k10_whole_changes_stay) (n := 63) (k := 13) (x := "script") (CX := L2.CX0) rfl (by decide) (by kernel_rfl) ⟨rfl, by decide, by decide⟩ ?F (fun _ _ _ _ z => z)
    intro w mg fa h Y G hmg0
    obtain ⟨K, KX, c, ex⟩ := Y
    have hmg : mg ("law" : PySem.Str) = some (.ref fa) := by
      have e : (HandSHeadRun.topDef (OpenLaw.row PySem.Challenge.rw_remadehere_k10_whole_changes_stay).prog 36).name = ("law" : PySem.Str) := by kernel_rfl
      rw [← e]
      exact hmg0
    obtain ⟨fd, hb, hF⟩ := Z.facts (P := (PySem.Challenge.rw_remadehere_k10_whole_changes_stay).prog) (w := w) KX G hmg c ex
    exact ⟨K, fd, (R.S1 (R.φlaw K)), KX, hb, fun H a ns hl hO hS => R.law_start a ns hl hO hS, hF⟩
