import PyProof.Rows.All
import Wide.All
import OpenK.AllK
import Wide.FinOn
import KE.KStateDown
import Lean
import HandS.Base
import HandS.Call
import HandS.List
import HandS.Comp
import HandS.Ends
import HandS.Dict
import HandS.Iter
import HandS.Text
import HandS.Words
import HandS.WordsList
import HandS.Defaults
import HandS.IsInst
import HandS.Wide
import HandS.WideBits
import HandS.Conv
import HandS.Flow
import HandS.Style
import HandS.Flt
import HandS.SortInts
import HandS.SortRule
import HandS.Head0
import HandS.Head1
import HandS.Head2
import HandS.HeadEnd
import HandS.HeadHook1
import HandS.HeadHook2
import HandS.Codes
import PyProof.DictMoreH
import HandS.SetKeys
import HandS.More
import PySem.Challenge.RW_remadehere_k59_whole_all_marks_of_small
set_option Elab.async false
set_option linter.all false
set_option maxRecDepth 100000
set_option maxHeartbeats 8000000
namespace R
open PySem L2

/-! ### worlds: F the part that stays, H all that is tracked -/
theorem ne_none {α : Type} {o : Option α} {x : α} (h : o = some x) : o ≠ none := fun e => by rw [h] at e; cases e
theorem Same.new {H : Hp} {p : Addr} {o : HO} (h : H p = none) : Same H (upd H p o) := fun a u e => by
  rw [upd_ne (ne_of_none e h)]
  exact e
theorem rd_same {F H : Hp} {a : Addr} {u : HO} (e : Same F H) (h : Rd F a u) : Rd H a u := by
  rcases h with h | ⟨o, h⟩
  · exact .inl (e _ _ h)
  · exact .inr ⟨o, e _ _ h⟩
theorem sqL_same {K : PySem.W.Frag} {F H : Hp} {a : Addr} {xs : List V} (e : Same F H) (h : SqL K F a xs) : SqL K H a xs := by
  rcases h with h | h
  · exact .inl (rd_same e h)
  · exact .inr h
theorem sqT_same {K : PySem.W.Frag} {F H : Hp} {a : Addr} {xs : List V} (e : Same F H) (h : SqT K F a xs) : SqT K H a xs := by
  rcases h with h | h
  · exact .inl (rd_same e h)
  · exact .inr h
theorem sqL_of {K : PySem.W.Frag} {H : Hp} {a : Addr} {xs : List V} (h : H a = some (.lst xs)) : SqL K H a xs := .inl (.inl h)
theorem sqT_of {K : PySem.W.Frag} {H : Hp} {a : Addr} {xs : List V} (h : H a = some (.tup xs)) : SqT K H a xs := .inl (.inl h)
mutual
theorem dp_same {K : PySem.W.Frag} {F H : Hp} (e : Same F H) : ∀ (d : PyData) (v : V), Dp K F v d → Dp K H v d
  | .none, _, .non => .non
  | .bool _, _, .bl b => .bl b
  | .int _, _, .int i => .int i
  | .str _, _, .str x => .str x
  | .list ds, _, .lst h hs => .lst (sqL_same e h) (dpa_same e ds _ hs)
  | .tuple ds, _, .tup h hs => .tup (sqT_same e h) (dpa_same e ds _ hs)
theorem dpa_same {K : PySem.W.Frag} {F H : Hp} (e : Same F H) : ∀ (ds : List PyData) (vs : List V), DpAll K F vs ds → DpAll K H vs ds
  | [], _, .nil => .nil
  | d :: ds, _, .cons h hs => .cons (dp_same e d _ h) (dpa_same e ds _ hs)
end

/-- what a deed does: F grows to F2, H to H2; of what H has outside of F only the objects at M change -/
structure Gr (M : List Addr) (F H F2 H2 : Hp) : Prop where
  ff : Same F F2
  fh : Same F2 H2
  hh : ∀ a o, a ∉ M → H a = some o → H2 a = some o
  al : ∀ a, H a ≠ none → H2 a ≠ none
  nw : ∀ a, H a ≠ none → F a = none → F2 a = none
theorem Gr.refl {M : List Addr} {F H : Hp} (h : Same F H) : Gr M F H F H := ⟨Same.refl F, h, fun _ _ _ e => e, fun _ e => e, fun _ _ e => e⟩
theorem Gr.trans {M : List Addr} {F H F1 H1 F2 H2 : Hp} (a : Gr M F H F1 H1) (b : Gr M F1 H1 F2 H2) : Gr M F H F2 H2 :=
  ⟨a.ff.trans b.ff, b.fh, fun x o n e => b.hh x o n (a.hh x o n e), fun x e => b.al x (a.al x e), fun x e n => b.nw x (a.al x e) (a.nw x e n)⟩
theorem Gr.sub {M N : List Addr} {F H F2 H2 : Hp} (a : Gr M F H F2 H2) (h : ∀ x ∈ M, x ∈ N) : Gr N F H F2 H2 := ⟨a.ff, a.fh, fun x o n e => a.hh x o (fun m => n (h x m)) e, a.al, a.nw⟩
theorem Gr.up {M : List Addr} {F H F2 H2 : Hp} (a : Gr [] F H F2 H2) : Gr M F H F2 H2 := a.sub fun _ h => by cases h
/-- a new object that stays -/
theorem Gr.im {M : List Addr} {F H : Hp} {p : Addr} {o : HO} (w : Same F H) (h : H p = none) : Gr M F H (upd F p o) (upd H p o) := by
  have hF : F p = none := w.free h
  refine ⟨Same.new hF, fun a u e => ?_, fun a u _ e => ?_, fun a e => ?_, fun a e n => ?_⟩
  · by_cases q : a = p
    · subst q
      rw [upd_same] at e ⊢
      exact e
    · rw [upd_ne q] at e ⊢
      exact w a u e
  · rw [upd_ne (ne_of_none e h)]
    exact e
  · by_cases q : a = p
    · subst q
      rw [upd_same]
      exact fun z => nomatch z
    · rw [upd_ne q]
      exact e
  · have q : a ≠ p := fun z => by subst z; exact e h
    rw [upd_ne q]
    exact n
/-- a new object that may change -/
theorem Gr.new {M : List Addr} {F H : Hp} {p : Addr} {o : HO} (w : Same F H) (h : H p = none) : Gr M F H F (upd H p o) := by
  refine ⟨Same.refl F, w.trans (Same.new h), fun a u _ e => ?_, fun a e => ?_, fun a e n => n⟩
  · rw [upd_ne (ne_of_none e h)]
    exact e
  · by_cases q : a = p
    · subst q
      rw [upd_same]
      exact fun z => nomatch z
    · rw [upd_ne q]
      exact e
/-- a change of an object that may change -/
theorem Gr.wr {M : List Addr} {F H : Hp} {p : Addr} {o : HO} (w : Same F H) (h : F p = none) (hm : p ∈ M) : Gr M F H F (upd H p o) := by
  refine ⟨Same.refl F, fun a u e => ?_, fun a u n e => ?_, fun a e => ?_, fun a e n => n⟩
  · have q : a ≠ p := ne_of_none e h
    rw [upd_ne q]
    exact w a u e
  · have q : a ≠ p := fun z => by subst z; exact n hm
    rw [upd_ne q]
    exact e
  · by_cases q : a = p
    · subst q
      rw [upd_same]
      exact fun z => nomatch z
    · rw [upd_ne q]
      exact e
/-- .. of one that was new behind the start -/
theorem Gr.wrn {M : List Addr} {F0 H0 F H : Hp} {p : Addr} {o : HO} (g : Gr M F0 H0 F H) (h : F p = none) (hn : H0 p = none) : Gr M F0 H0 F (upd H p o) := by
  refine ⟨g.ff, fun a u e => ?_, fun a u n e => ?_, fun a e => ?_, g.nw⟩
  · have q : a ≠ p := ne_of_none e h
    rw [upd_ne q]
    exact g.fh a u e
  · have q : a ≠ p := fun z => by subst z; rw [hn] at e; cases e
    rw [upd_ne q]
    exact g.hh a u n e
  · by_cases q : a = p
    · subst q
      rw [upd_same]
      exact fun z => nomatch z
    · rw [upd_ne q]
      exact g.al a e
/-- an object that may change -/
structure Mu (F H : Hp) (p : Addr) (o : HO) : Prop where
  n : F p = none
  h : H p = some o
theorem Gr.mu {M : List Addr} {F H F2 H2 : Hp} {p : Addr} {o : HO} (g : Gr M F H F2 H2) (m : Mu F H p o) (hp : p ∉ M) : Mu F2 H2 p o := ⟨g.nw p (ne_none m.h) m.n, g.hh p o hp m.h⟩
theorem Gr.mu0 {F H F2 H2 : Hp} {p : Addr} {o : HO} (g : Gr [] F H F2 H2) (m : Mu F H p o) : Mu F2 H2 p o := g.mu m (fun h => nomatch h)
theorem Mu.new {F H : Hp} {p : Addr} {o : HO} (w : Same F H) (h : H p = none) : Mu F (upd H p o) p o := ⟨w.free h, upd_same⟩
theorem Mu.wr {F H : Hp} {p : Addr} {o u : HO} (m : Mu F H p o) : Mu F (upd H p u) p u := ⟨m.n, upd_same⟩
theorem Mu.oth {F H : Hp} {p q : Addr} {o u : HO} (m : Mu F H p o) (h : p ≠ q) : Mu F (upd H q u) p o := ⟨m.n, by rw [upd_ne h]; exact m.h⟩
theorem Mu.sq {K : PySem.W.Frag} {F H : Hp} {p : Addr} {xs : List V} (m : Mu F H p (.lst xs)) : SqL K H p xs := sqL_of m.h
theorem Mu.ne_new {F H : Hp} {p q : Addr} {o : HO} (m : Mu F H p o) (h : H q = none) : p ≠ q := ne_of_none m.h h
theorem upd_at {F : Hp} {p : Addr} {o : HO} : upd F p o p = some o := upd_same

/-! ### promises by the number of arguments -/
def S1 (φ : V → Hp → VK → Prop) : Sp := fun vs H Q _ => match vs with
  | [a] => φ a H Q
  | _ => False
def S2 (φ : V → V → Hp → VK → Prop) : Sp := fun vs H Q _ => match vs with
  | [a, b] => φ a b H Q
  | _ => False
def S3 (φ : V → V → V → Hp → VK → Prop) : Sp := fun vs H Q _ => match vs with
  | [a, b, c] => φ a b c H Q
  | _ => False
def S4 (φ : V → V → V → V → Hp → VK → Prop) : Sp := fun vs H Q _ => match vs with
  | [a, b, c, d] => φ a b c d H Q
  | _ => False
def S5 (φ : V → V → V → V → V → Hp → VK → Prop) : Sp := fun vs H Q _ => match vs with
  | [a, b, c, d, e] => φ a b c d e H Q
  | _ => False
def S6 (φ : V → V → V → V → V → V → Hp → VK → Prop) : Sp := fun vs H Q _ => match vs with
  | [a, b, c, d, e, f] => φ a b c d e f H Q
  | _ => False
def S7 (φ : V → V → V → V → V → V → V → Hp → VK → Prop) : Sp := fun vs H Q _ => match vs with
  | [a, b, c, d, e, f, g] => φ a b c d e f g H Q
  | _ => False
def S0 (φ : Hp → VK → Prop) : Sp := fun vs H Q _ => match vs with
  | [] => φ H Q
  | _ => False

theorem S0.len {φ : Hp → VK → Prop} {vs : List V} {H : Hp} {Q : VK} {E : XK} (h : S0 φ vs H Q E) : vs.length = 0 := by
  match vs, h with
  | [], _ => rfl
theorem S1.len {φ : V → Hp → VK → Prop} {vs : List V} {H : Hp} {Q : VK} {E : XK} (h : S1 φ vs H Q E) : vs.length = 1 := by
  match vs, h with
  | [_], _ => rfl
theorem S2.len {φ : V → V → Hp → VK → Prop} {vs : List V} {H : Hp} {Q : VK} {E : XK} (h : S2 φ vs H Q E) : vs.length = 2 := by
  match vs, h with
  | [_, _], _ => rfl
theorem S3.len {φ : V → V → V → Hp → VK → Prop} {vs : List V} {H : Hp} {Q : VK} {E : XK} (h : S3 φ vs H Q E) : vs.length = 3 := by
  match vs, h with
  | [_, _, _], _ => rfl
theorem S4.len {φ : V → V → V → V → Hp → VK → Prop} {vs : List V} {H : Hp} {Q : VK} {E : XK} (h : S4 φ vs H Q E) : vs.length = 4 := by
  match vs, h with
  | [_, _, _, _], _ => rfl
theorem S5.len {φ : V → V → V → V → V → Hp → VK → Prop} {vs : List V} {H : Hp} {Q : VK} {E : XK} (h : S5 φ vs H Q E) : vs.length = 5 := by
  match vs, h with
  | [_, _, _, _, _], _ => rfl
theorem S6.len {φ : V → V → V → V → V → V → Hp → VK → Prop} {vs : List V} {H : Hp} {Q : VK} {E : XK} (h : S6 φ vs H Q E) : vs.length = 6 := by
  match vs, h with
  | [_, _, _, _, _, _], _ => rfl
theorem S7.len {φ : V → V → V → V → V → V → V → Hp → VK → Prop} {vs : List V} {H : Hp} {Q : VK} {E : XK} (h : S7 φ vs H Q E) : vs.length = 7 := by
  match vs, h with
  | [_, _, _, _, _, _, _], _ => rfl

/-! ### a def as it stands, with its promise -/
structure DO (P : Program) (w : World) (K : PySem.W.Frag) (mg : Str → Option Value) (base : Heap) (k : Nat) (x : Str) (ps : List Str) (dvs : List V) (sp : Sp) : Prop where
  ex : ∃ (f : Addr) (fd : FuncData) (ds : List Value), FnOk P w K mg base CX0 k f fd ps sp ∧ mg x = some (.ref f) ∧ PySem.W.keepIn K (.ref f) = true ∧ Binds K fd ps ds ∧ Vals dvs ds
section
variable {X : Cx} {k j : Nat} {ps : List Str} {sp : Sp} {dvs : List V} {x : Str} {p pos : Pos} {e : Expr} {es : List Expr} {t : TA}
theorem pcall (D : DO X.prog X.w X.K X.mg X.base k x ps dvs sp) (hr : Room j X.A) (ha : PA X (e :: es) t) (hj : k ≤ j := by first | decide | exact Nat.le_refl _ | omega) (hg : Gl X x := by rfl) (hdb : (x == ("__debug__" : Str)) = false := by decide)
    (he : starEach (e :: es) X.env = (false, eval e X.env) :: starEach es X.env := by rfl) (hpl : (backTo pos (starEach es X.env)).any (·.1) = false := by rfl) :
    PE X (.Call (.Name x p) (e :: es) [] pos) (tCall sp dvs E0 t) := by
  obtain ⟨f, fd, ds, F, hm, hk, hb, hd⟩ := D.ex
  exact pe_call F (hr.mono hj) hg hm hk hb hd pass0 ha hdb he hpl
theorem pcall0 (D : DO X.prog X.w X.K X.mg X.base k x ps dvs sp) (hr : Room j X.A) (hj : k ≤ j := by first | decide | exact Nat.le_refl _ | omega) (hg : Gl X x := by rfl) (hdb : (x == ("__debug__" : Str)) = false := by decide) :
    PE X (.Call (.Name x p) [] [] pos) (tCall sp dvs E0 tNil) := by
  obtain ⟨f, fd, ds, F, hm, hk, hb, hd⟩ := D.ex
  exact pe_call0 F (hr.mono hj) hg hm hk hb hd pass0 hdb
end

theorem recDO {P : Program} {w : World} {K : PySem.W.Frag} {mg : Str → Option Value} {base : Heap} {x : Str} {f : Addr} {fd : FuncData} {ps : List Str} {φ : Nat → Sp} (h0 : ∀ vs H Q E, φ 0 vs H Q E → False) (hm : mg x = some (.ref f)) (hk : PySem.W.keepIn K (.ref f) = true) (hb : Binds K fd ps [])
    (hs : ∀ n, DO P w K mg base n x ps [] (φ n) → FnOk P w K mg base CX0 (n + 1) f fd ps (φ (n + 1))) : ∀ n, DO P w K mg base n x ps [] (φ n)
  | 0 => ⟨f, fd, [], ⟨fun vs H Q E h => (h0 vs H Q E h).elim, fun A outer s H args us vs Q E _ _ _ _ h => (h0 vs H Q E h).elim⟩, hm, hk, hb, .nil⟩
  | n + 1 => ⟨f, fd, [], hs n (recDO h0 hm hk hb hs n), hm, hk, hb, .nil⟩
/-! ### calls with keywords -/
/-- the parameters' values: by place (0), by a keyword's place (1), by a default's place (2) -/
def pick {α : Type} (d : α) (tp : List (Nat × Nat)) (vs zs ds : List α) : List α := tp.map fun p => if p.1 = 0 then vs.getD p.2 d else if p.1 = 1 then zs.getD p.2 d else ds.getD p.2 d
theorem vals_getD : ∀ {vs : List V} {us : List Value} (i : Nat), Vals vs us → RelV (vs.getD i .non) (us.getD i .none)
  | _, _, _, .nil => rfl
  | _, _, 0, .cons r _ => r
  | _, _, i + 1, .cons _ t => by
    show RelV ((_ :: _ : List V).getD (i + 1) .non) ((_ :: _ : List Value).getD (i + 1) .none)
    rw [List.getD_cons_succ, List.getD_cons_succ]
    exact vals_getD i t
theorem pick_rel {vs zs ds : List V} {us ws es : List Value} (r1 : Vals vs us) (r2 : Vals zs ws) (r3 : Vals ds es) : ∀ tp : List (Nat × Nat), Vals (pick .non tp vs zs ds) (pick .none tp us ws es)
  | [] => .nil
  | p :: tp => .cons (by
      show RelV (if p.1 = 0 then vs.getD p.2 .non else if p.1 = 1 then zs.getD p.2 .non else ds.getD p.2 .non) (if p.1 = 0 then us.getD p.2 .none else if p.1 = 1 then ws.getD p.2 .none else es.getD p.2 .none)
      by_cases h0 : p.1 = 0
      · rw [if_pos h0, if_pos h0]
        exact vals_getD _ r1
      · rw [if_neg h0, if_neg h0]
        by_cases h1 : p.1 = 1
        · rw [if_pos h1, if_pos h1]
          exact vals_getD _ r2
        · rw [if_neg h1, if_neg h1]
          exact vals_getD _ r3) (pick_rel r1 r2 r3 tp)
structure DK (P : Program) (w : World) (K : PySem.W.Frag) (mg : Str → Option Value) (base : Heap) (k : Nat) (x : Str) (ps : List Str) (n : Nat) (ks : List Str) (tp : List (Nat × Nat)) (dvs : List V) (sp : Sp) : Prop where
  ex : ∃ (f : Addr) (fd : FuncData) (ds : List Value), FnOk P w K mg base CX0 k f fd ps sp ∧ mg x = some (.ref f) ∧ PySem.W.keepIn K (.ref f) = true ∧ KBn K fd ps n ks (fun us ws => pick .none tp us ws ds) (fun vs zs => pick .non tp vs zs dvs)
theorem kbN {K : PySem.W.Frag} {x qual : Str} {params : Arguments} {body : List Stmt} {scope : Scope} {f : Addr} {fd : FuncData} {ps ks : List Str} {n : Nat} {tp : List (Nat × Nat)} (F : FunD K x qual params body scope [] [] f fd)
    (h : ∀ (kV doc pm : Value) (an : Option Addr) (cdv ct : Value) (us ws : List Value), us.length = n → ws.length = ks.length → bindArgs (PySem.W.fnOf x qual params body scope .none kV doc pm an cdv ct) ⟨us, ks.zip ws⟩ = pure (ps.zip (pick .none tp us ws []))) :
    KBn K fd ps n ks (fun us ws => pick .none tp us ws []) (fun vs zs => pick .non tp vs zs []) := by
  obtain ⟨oc, od, dV, kV, doc, pm, an, cdv, ct, osl, rfl, lk, hcd, hD, hK⟩ := F.ex
  rcases hD with ⟨_, rfl⟩ | ⟨e, _⟩
  · exact ⟨fun s us ws _ l1 l2 => .of_eq (h kV doc pm an cdv ct us ws l1 l2), fun r1 r2 => pick_rel r1 r2 .nil tp⟩
  · exact absurd rfl e
theorem kbD {K : PySem.W.Frag} {x qual : Str} {params : Arguments} {body : List Stmt} {scope : Scope} {dvs : List V} {f : Addr} {fd : FuncData} {ps ks : List Str} {n : Nat} {tp : List (Nat × Nat)} (F : FunD K x qual params body scope dvs [] f fd) (hd : dvs ≠ [])
    (h : ∀ (T : Addr) (kV doc pm : Value) (an : Option Addr) (cdv ct : Value) (us ws its : List Value), us.length = n → ws.length = ks.length → its.length = dvs.length →
      ∃ k, bindArgs (PySem.W.fnOf x qual params body scope (.ref T) kV doc pm an cdv ct) ⟨us, ks.zip ws⟩ = seqItems? (.ref T) >>= k ∧ k (some its.toArray) = pure (ps.zip (pick .none tp us ws its))) :
    ∃ its : List Value, KBn K fd ps n ks (fun us ws => pick .none tp us ws its) (fun vs zs => pick .non tp vs zs dvs) := by
  obtain ⟨oc, od, dV, kV, doc, pm, an, cdv, ct, osl, rfl, lk, hcd, hD, hK⟩ := F.ex
  rcases hD with ⟨e, _⟩ | ⟨_, T, o, its, m, rfl, lT, oT, rT⟩
  · exact absurd e hd
  · refine ⟨its, fun s us ws X l1 l2 => ?_, fun r1 r2 => pick_rel r1 r2 rT tp⟩
    obtain ⟨k, e1, e2⟩ := h T kV doc pm an cdv ct us ws its l1 l2 rT.length.symm
    refine BindsTo.of_looks fun M => ?_
    rw [e1]
    exact looks_items X lT oT (.of_pure e2)
section
variable {X : Cx} {k j n : Nat} {ps ks : List Str} {sp : Sp} {dvs : List V} {x : Str} {p pos : Pos} {e : Expr} {es : List Expr} {kws : List Keyword} {t tk : TA} {tp : List (Nat × Nat)}
theorem pcallK (D : DK X.prog X.w X.K X.mg X.base k x ps n ks tp dvs sp) (hr : Room j X.A) (ha : PA X (e :: es) t) (hkw : PK X kws tk) (hj : k ≤ j := by first | decide | exact Nat.le_refl _ | omega) (hg : Gl X x := by rfl)
    (hall : (backToKw pos (keywordEach kws X.env)).all (·.1.isSome) = true := by rfl) (hks : (backToKw pos (keywordEach kws X.env)).filterMap (·.1) = ks := by rfl)
    (hdb : (x == ("__debug__" : Str)) = false := by decide) (he : starEach (e :: es) X.env = (false, eval e X.env) :: starEach es X.env := by rfl)
    (hpl : ((backTo pos (starEach (e :: es) X.env)).any (·.1) || (backToKw pos (keywordEach kws X.env)).any (·.1.isNone)) = false := by rfl) :
    PE X (.Call (.Name x p) (e :: es) kws pos) (tCallN n ks.length sp (fun vs zs => pick .non tp vs zs dvs) E0 t tk) := by
  obtain ⟨f, fd, ds, F, hm, hk, hb⟩ := D.ex
  exact pe_callN F (hr.mono hj) hg hm hk hb pass0 ha hkw hall hks hdb he hpl
theorem pcallK0 (D : DK X.prog X.w X.K X.mg X.base k x ps 0 ks tp dvs sp) (hr : Room j X.A) (hkw : PK X kws tk) (hj : k ≤ j := by first | decide | exact Nat.le_refl _ | omega) (hg : Gl X x := by rfl)
    (hall : (backToKw pos (keywordEach kws X.env)).all (·.1.isSome) = true := by rfl) (hks : (backToKw pos (keywordEach kws X.env)).filterMap (·.1) = ks := by rfl)
    (hdb : (x == ("__debug__" : Str)) = false := by decide)
    (hpl : ((backTo pos (starEach [] X.env)).any (·.1) || (backToKw pos (keywordEach kws X.env)).any (·.1.isNone)) = false := by rfl) :
    PE X (.Call (.Name x p) [] kws pos) (tCallN 0 ks.length sp (fun vs zs => pick .non tp vs zs dvs) E0 tNil tk) := by
  obtain ⟨f, fd, ds, F, hm, hk, hb⟩ := D.ex
  refine ⟨fun pins s σ H Q I h => ?_⟩
  refine wpAny_Call_Name_kw (ld_glob I hg hm ?_ hdb)
  refine PySem.W.callWith_KW0 (h₀ := X.base) I.ok.mod.kin hk hall ?_ hpl
  refine thn (hkw.run pos pins s σ H _ I h) fun ws s2 ⟨zs, H2, I2, rz, l1, l2, q2⟩ => ⟨I2.kIn, ?_⟩
  rw [hks]
  exact run_fnN (us := []) (vs := []) F (hr.mono hj) hb pass0 I2 .nil rz l1 l2 q2
end
theorem pe_gint {X : Cx} {x : Str} {i : Int} {pos : Pos} (hg : Gl X x) (hm : ∃ t, X.mg x = some (.int i t)) (hd : (x == ("__debug__" : Str)) = false := by decide) : PE X (.Name x pos) (tC (.int i)) := by
  obtain ⟨t, h⟩ := hm
  exact pe_glob hg h ⟨_, rfl⟩ hd

/-! ### rules with the written part by its own name -/
section
variable {X : Cx} {K : PySem.W.Frag}
theorem ixL (h : X.K = K := by rfl) : IxR X (rIxL K) := by subst h; exact ix_list
theorem ixT (h : X.K = K := by rfl) : IxR X (rIxT K) := by subst h; exact ix_tup
theorem ixQ (h : X.K = K := by rfl) : IxR X (rIx K) := by subst h; exact ix_seq
theorem slL (h : X.K = K := by rfl) : SlR X (rSlL K) := by subst h; exact sl_list
theorem slT (h : X.K = K := by rfl) : SlR X (rSlT K) := by subst h; exact sl_tup
theorem opEqD (A : X.A.units + 64 < cLine) (h : X.K = K := by rfl) : OpR X (compareOp .Eq) (rEqD K) := by subst h; exact op_eqD A
theorem opNeD (A : X.A.units + 64 < cLine) (h : X.K = K := by rfl) : OpR X (compareOp .NotEq) (rNeD K) := by subst h; exact op_neD A
theorem opIn (h : X.K = K := by rfl) : OpR X (compareOp .In) (rIn K false) := by subst h; exact op_in_seq
theorem opNotIn (h : X.K = K := by rfl) : OpR X (compareOp .NotIn) (rIn K true) := by subst h; exact op_notIn_seq
def rLen (K : PySem.W.Frag) : List V → Hp → VK → Prop := fun xs H Q => ∃ x n, xs = [x] ∧ LenV K x H n ∧ Q (.int n) H
def rLenQ (K : PySem.W.Frag) : List V → Hp → VK → Prop := fun xs H Q => ∃ p ys, xs = [.ref p] ∧ (SqL K H p ys ∨ SqT K H p ys) ∧ Q (.int ys.length) H
def rListOf (K : PySem.W.Frag) : List V → Hp → VK → Prop := fun xs H Q => ∃ p ys, xs = [.ref p] ∧ (SqL K H p ys ∨ SqT K H p ys) ∧ ∀ l, H l = none → Q (.ref l) (upd H l (.lst ys))
def rLenS : List V → Hp → VK → Prop := fun xs H Q => ∃ z, xs = [.str z] ∧ z.length ≤ sizeLine ∧ Q (.int z.length) H
def rInt1 : List V → Hp → VK → Prop := fun xs H Q => (∃ i, xs = [.int i] ∧ Q (.int i) H) ∨ ∃ k, xs = [.bl k] ∧ Q (.int (if k then 1 else 0)) H
def rAbs : List V → Hp → VK → Prop := fun xs H Q => ∃ i, xs = [.int i] ∧ Q (.int (if i < 0 then -i else i)) H
def rMin2 : List V → Hp → VK → Prop := fun xs H Q => ∃ i j, xs = [.int i, .int j] ∧ Q (.int (if j < i then j else i)) H
def rMax2 : List V → Hp → VK → Prop := fun xs H Q => ∃ i j, xs = [.int i, .int j] ∧ Q (.int (if j > i then j else i)) H
def rStrI : List V → Hp → VK → Prop := fun xs H Q => ∃ n, xs = [.int n] ∧ n.natAbs.log2 < 1920 ∧ Q (.str (toString n)) H
theorem clLen (h : X.K = K := by rfl) : CallR X (.builtin "len") (rLen K) := by subst h; exact call_len
theorem clLenQ (h : X.K = K := by rfl) : CallR X (.builtin "len") (rLenQ K) := by subst h; exact call_len_seq
theorem clLenS : CallR X (.builtin "len") rLenS := call_len_str
theorem clListOf (h : X.K = K := by rfl) : CallR X (.type "list") (rListOf K) := by subst h; exact call_list_of
theorem clInt1 : CallR X (.type "int") rInt1 := call_int1
theorem clAbs : CallR X (.builtin "abs") rAbs := call_abs
theorem clMin2 (hc : X.calm = true := by rfl) : CallR X (.builtin "min") rMin2 := call_min2 hc
theorem clMax2 (hc : X.calm = true := by rfl) : CallR X (.builtin "max") rMax2 := call_max2 hc
theorem clSum (hc : X.calm = true := by rfl) (h : X.K = K := by rfl) : CallR X (.builtin "sum") (rSum K) := by subst h; exact cr_sum hc
theorem clAll (hc : X.calm = true := by rfl) (h : X.K = K := by rfl) : CallR X (.builtin "all") (rAll K) := by subst h; exact cr_all hc
theorem clAny (hc : X.calm = true := by rfl) (h : X.K = K := by rfl) : CallR X (.builtin "any") (rAny K) := by subst h; exact cr_any hc
theorem clMax (hc : X.calm = true := by rfl) (h : X.K = K := by rfl) : CallR X (.builtin "max") (rMax K) := by subst h; exact cr_max hc
theorem clMin (hc : X.calm = true := by rfl) (h : X.K = K := by rfl) : CallR X (.builtin "min") (rMin K) := by subst h; exact cr_min hc
theorem clIsi (h : X.K = K := by rfl) : CallR X (.builtin "isinstance") (rIsi K) := by subst h; exact call_isi
theorem clIsiT (h : X.K = K := by rfl) : CallR X (.builtin "isinstance") (rIsiT K) := by subst h; exact call_isiT
def tTruth (K : PySem.W.Frag) (ta : TE) : TT := fun σ H Q => ta σ H fun x H' => ∃ k, TruV K x H' k ∧ Q k H'
theorem ptTruth {a : Expr} {ta : TE} (ha : PE X a ta) (h : X.K = K := by rfl) (hs : ∀ whole, isTrue a X.env whole = (do let v ← whole; standAt a.pos; holding [v] (truthy v)) := by intro _; rfl) : PT X a (tTruth K ta) := by
  subst h
  exact pt_truth ha hs
variable {o e : Expr} {es : List Expr} {to te : TE} {t : TA} {name : Str} {apos cpos : Pos} {T id : String} {r : V → List V → Hp → VK → Prop}
theorem peBM0 (pa : PlainAttrs T) (slot : Slot T name id) (hty : typeOf (.builtin id) = pure (.type "method_descriptor")) (hm : MtR X id r) (ho : PE X o to) (h : X.K = K := by rfl)
    (hbase : attributeBase o name X.env (eval o X.env) = eval o X.env := by rfl) (hline : (apos.endLine == cpos.line) = true := by rfl) : PE X (.Call (.Attribute o name apos) [] [] cpos) (tBM0 K T r to) := by
  subst h
  exact pe_bm0 pa slot hty hm ho hbase hline
theorem peBM (pa : PlainAttrs T) (slot : Slot T name id) (hty : typeOf (.builtin id) = pure (.type "method_descriptor")) (hm : MtR X id r) (ho : PE X o to) (ha : PA X (e :: es) t) (h : X.K = K := by rfl)
    (hbase : attributeBase o name X.env (eval o X.env) = eval o X.env := by rfl)
    (hfew : ((backTo cpos (starEach (e :: es) X.env)).all (fun x => !x.1) && (backToKw cpos (keywordEach [] X.env)).all (fun x => x.1.isSome)
      && decide ((e :: es).length + ([] : List Keyword).length + (if ([] : List Keyword).isEmpty then 0 else 1) < 30)) = true := by rfl)
    (hline : (apos.endLine == cpos.line) = true := by rfl) (hs : starEach (e :: es) X.env = (false, eval e X.env) :: starEach es X.env := by rfl) (hplain : (backTo cpos (starEach es X.env)).any (·.1) = false := by rfl) :
    PE X (.Call (.Attribute o name apos) (e :: es) [] cpos) (tBM K T r to t) := by
  subst h
  exact pe_bm pa slot hty hm ho ha hbase hfew hline hs hplain
def rJoin (K : PySem.W.Frag) : V → List V → Hp → VK → Prop := fun x xs H Q => ∃ a p, ∃ ys : List Str, x = .str a ∧ xs = [.ref p] ∧ (SqL K H p (ys.map V.str) ∨ SqT K H p (ys.map V.str)) ∧
      (ys.map (·.length)).sum + ys.length * a.length ≤ 16777216 ∧ Q (.str (Txt.join a ys)) H
theorem peJoin (ho : PE X o to) (he : PE X e te) (h : X.K = K := by rfl) (hs : starEach [e] X.env = [(false, eval e X.env)] := by rfl) (hbase : attributeBase o "join" X.env (eval o X.env) = eval o X.env := by rfl) (hline : (apos.endLine == cpos.line) = true := by rfl) :
    PE X (.Call (.Attribute o "join" apos) [e] [] cpos) (tM1 (rJoin K) to te) := by
  subst h
  exact pe_join ho he hs hbase hline
theorem peFld {f : Str} {pos : Pos} (he : PE X o to) (h : X.K = K := by rfl) (hb : attributeBase o f X.env (eval o X.env) = eval o X.env := by rfl) : PE X (.Attribute o f pos) (tFld K to f) := by
  subst h
  exact pe_fld he hb
end

/-! ### steps of a reading -/
section
variable {K : PySem.W.Frag} {σ : L2.St} {H : Hp} {Q : VK} {ta tb te : TE} {x y v : V} {nx bk ct : L2.St → Hp → Prop} {rt : VK}
-- slots
section
variable {a0 a1 a2 a3 a4 a5 a6 a7 a8 a9 a10 a11 a12 a13 : Option V} {r : L2.St}
theorem w_v0 (q : Q v H) : tVar 0 (some v :: r) H Q := ⟨v, rfl, q⟩
theorem w_v1 (q : Q v H) : tVar 1 (a0 :: some v :: r) H Q := ⟨v, rfl, q⟩
theorem w_v2 (q : Q v H) : tVar 2 (a0 :: a1 :: some v :: r) H Q := ⟨v, rfl, q⟩
theorem w_v3 (q : Q v H) : tVar 3 (a0 :: a1 :: a2 :: some v :: r) H Q := ⟨v, rfl, q⟩
theorem w_v4 (q : Q v H) : tVar 4 (a0 :: a1 :: a2 :: a3 :: some v :: r) H Q := ⟨v, rfl, q⟩
theorem w_v5 (q : Q v H) : tVar 5 (a0 :: a1 :: a2 :: a3 :: a4 :: some v :: r) H Q := ⟨v, rfl, q⟩
theorem w_v6 (q : Q v H) : tVar 6 (a0 :: a1 :: a2 :: a3 :: a4 :: a5 :: some v :: r) H Q := ⟨v, rfl, q⟩
theorem w_v7 (q : Q v H) : tVar 7 (a0 :: a1 :: a2 :: a3 :: a4 :: a5 :: a6 :: some v :: r) H Q := ⟨v, rfl, q⟩
theorem w_v8 (q : Q v H) : tVar 8 (a0 :: a1 :: a2 :: a3 :: a4 :: a5 :: a6 :: a7 :: some v :: r) H Q := ⟨v, rfl, q⟩
theorem w_v9 (q : Q v H) : tVar 9 (a0 :: a1 :: a2 :: a3 :: a4 :: a5 :: a6 :: a7 :: a8 :: some v :: r) H Q := ⟨v, rfl, q⟩
theorem w_v10 (q : Q v H) : tVar 10 (a0 :: a1 :: a2 :: a3 :: a4 :: a5 :: a6 :: a7 :: a8 :: a9 :: some v :: r) H Q := ⟨v, rfl, q⟩
theorem w_v11 (q : Q v H) : tVar 11 (a0 :: a1 :: a2 :: a3 :: a4 :: a5 :: a6 :: a7 :: a8 :: a9 :: a10 :: some v :: r) H Q := ⟨v, rfl, q⟩
theorem w_v12 (q : Q v H) : tVar 12 (a0 :: a1 :: a2 :: a3 :: a4 :: a5 :: a6 :: a7 :: a8 :: a9 :: a10 :: a11 :: some v :: r) H Q := ⟨v, rfl, q⟩
theorem w_v13 (q : Q v H) : tVar 13 (a0 :: a1 :: a2 :: a3 :: a4 :: a5 :: a6 :: a7 :: a8 :: a9 :: a10 :: a11 :: a12 :: some v :: r) H Q := ⟨v, rfl, q⟩
variable {N : L2.St → Hp → Prop}
theorem w_n0 (q : N (some v :: r) H) : gName 0 v (a0 :: r) H N := q
theorem w_n1 (q : N (a0 :: some v :: r) H) : gName 1 v (a0 :: a1 :: r) H N := q
theorem w_n2 (q : N (a0 :: a1 :: some v :: r) H) : gName 2 v (a0 :: a1 :: a2 :: r) H N := q
theorem w_n3 (q : N (a0 :: a1 :: a2 :: some v :: r) H) : gName 3 v (a0 :: a1 :: a2 :: a3 :: r) H N := q
theorem w_n4 (q : N (a0 :: a1 :: a2 :: a3 :: some v :: r) H) : gName 4 v (a0 :: a1 :: a2 :: a3 :: a4 :: r) H N := q
theorem w_n5 (q : N (a0 :: a1 :: a2 :: a3 :: a4 :: some v :: r) H) : gName 5 v (a0 :: a1 :: a2 :: a3 :: a4 :: a5 :: r) H N := q
theorem w_n6 (q : N (a0 :: a1 :: a2 :: a3 :: a4 :: a5 :: some v :: r) H) : gName 6 v (a0 :: a1 :: a2 :: a3 :: a4 :: a5 :: a6 :: r) H N := q
theorem w_n7 (q : N (a0 :: a1 :: a2 :: a3 :: a4 :: a5 :: a6 :: some v :: r) H) : gName 7 v (a0 :: a1 :: a2 :: a3 :: a4 :: a5 :: a6 :: a7 :: r) H N := q
theorem w_n8 (q : N (a0 :: a1 :: a2 :: a3 :: a4 :: a5 :: a6 :: a7 :: some v :: r) H) : gName 8 v (a0 :: a1 :: a2 :: a3 :: a4 :: a5 :: a6 :: a7 :: a8 :: r) H N := q
theorem w_n9 (q : N (a0 :: a1 :: a2 :: a3 :: a4 :: a5 :: a6 :: a7 :: a8 :: some v :: r) H) : gName 9 v (a0 :: a1 :: a2 :: a3 :: a4 :: a5 :: a6 :: a7 :: a8 :: a9 :: r) H N := q
theorem w_n10 (q : N (a0 :: a1 :: a2 :: a3 :: a4 :: a5 :: a6 :: a7 :: a8 :: a9 :: some v :: r) H) : gName 10 v (a0 :: a1 :: a2 :: a3 :: a4 :: a5 :: a6 :: a7 :: a8 :: a9 :: a10 :: r) H N := q
theorem w_n11 (q : N (a0 :: a1 :: a2 :: a3 :: a4 :: a5 :: a6 :: a7 :: a8 :: a9 :: a10 :: some v :: r) H) : gName 11 v (a0 :: a1 :: a2 :: a3 :: a4 :: a5 :: a6 :: a7 :: a8 :: a9 :: a10 :: a11 :: r) H N := q
theorem w_n12 (q : N (a0 :: a1 :: a2 :: a3 :: a4 :: a5 :: a6 :: a7 :: a8 :: a9 :: a10 :: a11 :: some v :: r) H) : gName 12 v (a0 :: a1 :: a2 :: a3 :: a4 :: a5 :: a6 :: a7 :: a8 :: a9 :: a10 :: a11 :: a12 :: r) H N := q
theorem w_n13 (q : N (a0 :: a1 :: a2 :: a3 :: a4 :: a5 :: a6 :: a7 :: a8 :: a9 :: a10 :: a11 :: a12 :: some v :: r) H) : gName 13 v (a0 :: a1 :: a2 :: a3 :: a4 :: a5 :: a6 :: a7 :: a8 :: a9 :: a10 :: a11 :: a12 :: a13 :: r) H N := q
end
-- expressions
theorem w_c (q : Q v H) : tC v σ H Q := q
theorem w_op {r : R2} (q : ta σ H fun x H1 => tb σ H1 fun y H2 => r x y H2 Q) : tOp r ta tb σ H Q := q
theorem w_un {r : V → Hp → VK → Prop} (q : ta σ H fun x H1 => r x H1 Q) : tUn r ta σ H Q := q
theorem w_add {i j : Int} (q : Q (.int (i + j)) H) : rI0 (fun i j => V.int (i + j)) (.int i) (.int j) H Q := ⟨i, j, rfl, rfl, q⟩
theorem w_subt {i j : Int} (q : Q (.int (i - j)) H) : rI0 (fun i j => V.int (i - j)) (.int i) (.int j) H Q := ⟨i, j, rfl, rfl, q⟩
theorem w_lt {i j : Int} (q : Q (.bl (decide (i < j))) H) : rI0 (fun i j => V.bl (decide (i < j))) (.int i) (.int j) H Q := ⟨i, j, rfl, rfl, q⟩
theorem w_le {i j : Int} (q : Q (.bl (decide (i ≤ j))) H) : rI0 (fun i j => V.bl (decide (i ≤ j))) (.int i) (.int j) H Q := ⟨i, j, rfl, rfl, q⟩
theorem w_gt {i j : Int} (q : Q (.bl (decide (j < i))) H) : rI0 (fun i j => V.bl (decide (j < i))) (.int i) (.int j) H Q := ⟨i, j, rfl, rfl, q⟩
theorem w_ge {i j : Int} (q : Q (.bl (decide (j ≤ i))) H) : rI0 (fun i j => V.bl (decide (j ≤ i))) (.int i) (.int j) H Q := ⟨i, j, rfl, rfl, q⟩
theorem w_I0 {g : Int → Int → V} {i j : Int} (q : Q (g i j) H) : rI0 g (.int i) (.int j) H Q := ⟨i, j, rfl, rfl, q⟩
theorem w_mul {i j : Int} (c : CMul i j) (q : Q (.int (i * j)) H) : rI CMul (fun i j => V.int (i * j)) (.int i) (.int j) H Q := ⟨i, j, rfl, rfl, c, q⟩
theorem w_mod {i j : Int} (c : 0 < j) (q : Q (.int (i % j)) H) : rI (fun _ j => 0 < j) (fun i j => V.int (i % j)) (.int i) (.int j) H Q := ⟨i, j, rfl, rfl, c, q⟩
theorem w_fdiv {i j : Int} (c : CDivW i j) (q : Q (.int (i / j)) H) : rI CDivW (fun i j => V.int (i / j)) (.int i) (.int j) H Q := ⟨i, j, rfl, rfl, c, q⟩
theorem w_pow {i j : Int} (c : CPow i j) (q : Q (.int (i ^ j.toNat)) H) : rI CPow (fun i j => V.int (i ^ j.toNat)) (.int i) (.int j) H Q := ⟨i, j, rfl, rfl, c, q⟩
theorem w_I {C : Int → Int → Prop} {g : Int → Int → V} {i j : Int} (c : C i j) (q : Q (g i j) H) : rI C g (.int i) (.int j) H Q := ⟨i, j, rfl, rfl, c, q⟩
theorem w_neg {i : Int} (q : Q (.int (-i)) H) : rU (fun i => V.int (-i)) (.int i) H Q := ⟨i, rfl, q⟩
def asInt (x : V) (H : Hp) (Z : Int → Hp → Prop) : Prop := ∃ i, x = .int i ∧ Z i H
def asBl (x : V) (H : Hp) (T : Bool → Hp → Prop) : Prop := ∃ k, x = .bl k ∧ T k H
theorem w_asInt {i : Int} {Z : Int → Hp → Prop} (q : Z i H) : asInt (.int i) H Z := ⟨i, rfl, q⟩
theorem w_asBl {b : Bool} {T : Bool → Hp → Prop} (q : T b H) : asBl (.bl b) H T := ⟨b, rfl, q⟩
theorem w_bits {to : TE} (q : to σ H fun x H1 => asInt x H1 fun i H2 => Q (.int (Builtin.Int.intBits i : Nat)) H2) : tBits to σ H Q := q
theorem w_adds {a b : Str} (h : a.length + b.length ≤ sizeLine) (q : Q (.str (a ++ b)) H) : ∃ i j, V.str a = .str i ∧ V.str b = .str j ∧ i.length + j.length ≤ sizeLine ∧ Q (.str (i ++ j)) H := ⟨a, b, rfl, rfl, h, q⟩
theorem w_eqI {i j : Int} (q : Q (.bl (decide (i = j))) H) : rEq (.int i) (.int j) H Q := ⟨rfl, by
  have e : decide (V.int i = V.int j) = decide (i = j) := by
    by_cases h : i = j
    · subst h; simp
    · rw [decide_eq_false h, decide_eq_false fun z => h (V.int.inj z)]
  rw [e]
  exact q⟩
theorem w_neI {i j : Int} (q : Q (.bl (!decide (i = j))) H) : rNe (.int i) (.int j) H Q := ⟨rfl, by
  have e : decide (V.int i = V.int j) = decide (i = j) := by
    by_cases h : i = j
    · subst h; simp
    · rw [decide_eq_false h, decide_eq_false fun z => h (V.int.inj z)]
  rw [e]
  exact q⟩
theorem w_eqS {a b : Str} (q : Q (.bl (decide (a = b))) H) : rEq (.str a) (.str b) H Q := ⟨rfl, by
  have e : decide (V.str a = V.str b) = decide (a = b) := by
    by_cases h : a = b
    · subst h; simp
    · rw [decide_eq_false h, decide_eq_false fun z => h (V.str.inj z)]
  rw [e]
  exact q⟩
theorem w_neS {a b : Str} (q : Q (.bl (!decide (a = b))) H) : rNe (.str a) (.str b) H Q := ⟨rfl, by
  have e : decide (V.str a = V.str b) = decide (a = b) := by
    by_cases h : a = b
    · subst h; simp
    · rw [decide_eq_false h, decide_eq_false fun z => h (V.str.inj z)]
  rw [e]
  exact q⟩
theorem w_eqB {a b : Bool} (q : Q (.bl (decide (a = b))) H) : rEq (.bl a) (.bl b) H Q := ⟨rfl, by
  have e : decide (V.bl a = V.bl b) = decide (a = b) := by
    by_cases h : a = b
    · subst h; simp
    · rw [decide_eq_false h, decide_eq_false fun z => h (V.bl.inj z)]
  rw [e]
  exact q⟩
theorem w_neB {a b : Bool} (q : Q (.bl (!decide (a = b))) H) : rNe (.bl a) (.bl b) H Q := ⟨rfl, by
  have e : decide (V.bl a = V.bl b) = decide (a = b) := by
    by_cases h : a = b
    · subst h; simp
    · rw [decide_eq_false h, decide_eq_false fun z => h (V.bl.inj z)]
  rw [e]
  exact q⟩
theorem w_isN (q : ta σ H fun x H1 => Q (.bl (decide (x = .non))) H1) : tIsN ta σ H Q := q
theorem w_notN (q : ta σ H fun x H1 => Q (.bl (!decide (x = .non))) H1) : tNotN ta σ H Q := q
-- tests
section
variable {T : Bool → Hp → Prop} {t u : TT}
theorem w_test (q : te σ H fun x H1 => asBl x H1 T) : tTest te σ H T := q
theorem w_tB (q : te σ H fun x H1 => asBl x H1 T) : tB te σ H T := q
theorem w_and (q : t σ H fun c H1 => if c = true then u σ H1 T else T false H1) : tAnd t u σ H T := q
theorem w_or (q : t σ H fun c H1 => if c = true then T true H1 else u σ H1 T) : tOr t u σ H T := q
theorem w_not (q : t σ H fun c H1 => T (!c) H1) : tNot t σ H T := q
theorem w_yes (q : T true H) : tYes σ H T := q
theorem w_if (q : t σ H fun c H1 => if c = true then ta σ H1 Q else tb σ H1 Q) : tIf t ta tb σ H Q := q
theorem w_truth (q : ta σ H fun x H' => ∃ k, TruV K x H' k ∧ T k H') : tTruth K ta σ H T := q
end
theorem w_andV (q : ta σ H fun x H1 => asBl x H1 fun c H2 => if c = true then tb σ H2 Q else Q (.bl false) H2) : tAndV ta tb σ H Q := q
theorem w_orV (q : ta σ H fun x H1 => asBl x H1 fun c H2 => if c = true then Q (.bl true) H2 else tb σ H2 Q) : tOrV ta tb σ H Q := q
theorem w_notV (q : ta σ H fun x H1 => asBl x H1 fun c H2 => Q (.bl (!c)) H2) : tNotV ta σ H Q := q
-- arguments
theorem w_nil {L : List V → Hp → Prop} (q : L [] H) : tNil σ H L := q
theorem w_cons {tr : TA} {L : List V → Hp → Prop} (q : ta σ H fun x H1 => tr σ H1 fun xs H2 => L (x :: xs) H2) : tCons ta tr σ H L := q
theorem w_call {sp : Sp} {dvs : List V} {E : XK} {t : TA} (q : t σ H fun vs H1 => sp (vs ++ dvs) H1 Q E) : tCall sp dvs E t σ H Q := q
theorem w_callN {n m : Nat} {sp : Sp} {gV : List V → List V → List V} {E : XK} {t tk : TA} (q : t σ H fun vs H1 => tk σ H1 fun zs H2 => vs.length = n ∧ zs.length = m ∧ sp (gV vs zs) H2 Q E) : tCallN n m sp gV E t tk σ H Q := q
theorem w_CB {r : List V → Hp → VK → Prop} {t : TA} (q : t σ H fun vs H1 => r vs H1 Q) : tCB r t σ H Q := q
theorem w_tup {t : TA} (q : t σ H fun xs H1 => xs.length ≤ sizeLine ∧ ∀ p, H1 p = none → Q (.ref p) (upd H1 p (.tup xs))) : tTup t σ H Q := q
theorem w_lst {t : TA} (q : t σ H fun xs H1 => xs.length ≤ sizeLine ∧ ∀ p, H1 p = none → Q (.ref p) (upd H1 p (.lst xs))) : tLst t σ H Q := q
theorem w_sl {r : V → Option Int → Option Int → Hp → VK → Prop} {tl th : TO} (q : te σ H fun x H1 => tl σ H1 fun l H2 => th σ H2 fun u H3 => r x l u H3 Q) : tSl r te tl th σ H Q := q
theorem w_nop {Z : Option Int → Hp → Prop} (q : Z none H) : tNoPart σ H Z := q
theorem w_part {Z : Option Int → Hp → Prop} (q : te σ H fun x H1 => asInt x H1 fun i H2 => Z (some i) H2) : tPart te σ H Z := q
theorem w_BM0 {T : String} {r : V → List V → Hp → VK → Prop} (q : ta σ H fun x H1 => tyV K T x H1 ∧ r x [] H1 Q) : tBM0 K T r ta σ H Q := q
theorem w_BM {T : String} {r : V → List V → Hp → VK → Prop} {t : TA} (q : ta σ H fun x H1 => tyV K T x H1 ∧ t σ H1 fun xs H2 => r x xs H2 Q) : tBM K T r ta t σ H Q := q
def asStr (x : V) (P : Prop) : Prop := (∃ a, x = .str a) ∧ P
theorem w_M0 {r : V → List V → Hp → VK → Prop} (q : ta σ H fun x H1 => asStr x (r x [] H1 Q)) : tM0 r ta σ H Q := q
theorem w_M1 {r : V → List V → Hp → VK → Prop} (q : ta σ H fun x H1 => asStr x (te σ H1 fun y H2 => r x [y] H2 Q)) : tM1 r ta te σ H Q := q
theorem w_asStr {a : Str} {P : Prop} (q : P) : asStr (.str a) P := ⟨⟨a, rfl⟩, q⟩
theorem w_sub {to ti : TE} {t : TSet} {Z : L2.St → Hp → Prop} (q : to σ H fun o H1 => ti σ H1 fun i H2 => t o i v H2 fun H3 => Z σ H3) : gSub to ti t v σ H Z := q
-- statements
section
variable {t u tbody : TS} {c : TT} {g : TG}
theorem w_seq (q : t ⟨u ⟨nx, rt, bk, ct⟩, rt, bk, ct⟩ σ H) : tSeq t u ⟨nx, rt, bk, ct⟩ σ H := q
theorem w_cut (Mid : L2.St → Hp → Prop) (h1 : t ⟨Mid, rt, bk, ct⟩ σ H) (h2 : ∀ σ' H', Mid σ' H' → u ⟨nx, rt, bk, ct⟩ σ' H') : C8.tCut t u ⟨nx, rt, bk, ct⟩ σ H := ⟨Mid, h1, h2⟩
theorem w_asg (q : te σ H fun x H1 => g x σ H1 nx) : tAsg te g ⟨nx, rt, bk, ct⟩ σ H := q
theorem w_ret (q : te σ H rt) : tRet te ⟨nx, rt, bk, ct⟩ σ H := q
theorem w_retN (q : rt .non H) : tRetN ⟨nx, rt, bk, ct⟩ σ H := q
theorem w_drop (q : te σ H fun _ H1 => nx σ H1) : tDrop te ⟨nx, rt, bk, ct⟩ σ H := q
theorem w_ifS (q : c σ H fun b H1 => if b = true then t ⟨nx, rt, bk, ct⟩ σ H1 else u ⟨nx, rt, bk, ct⟩ σ H1) : tIfS c t u ⟨nx, rt, bk, ct⟩ σ H := q
theorem w_nx (q : nx σ H) : tNext ⟨nx, rt, bk, ct⟩ σ H := q
theorem w_cont (q : ct σ H) : tCont ⟨nx, rt, bk, ct⟩ σ H := q
theorem w_brk (q : bk σ H) : tBreak ⟨nx, rt, bk, ct⟩ σ H := q
theorem w_aug {i : Nat} {ti : TIp} (h : σ[i]? = some (some x)) (q : te σ H fun y H1 => ti x y H1 fun z H2 => nx (σ.set i (some z)) H2) : tAug i te ti ⟨nx, rt, bk, ct⟩ σ H := ⟨x, h, q⟩
theorem w_tgt {n : Nat} {ts : TGs} {Z : L2.St → Hp → Prop} {a : Addr} (xs : List V) (h : SqT K H a xs) (hn : xs.length = n) (q : ts xs σ H Z) : gTup K n ts (.ref a) σ H Z := ⟨a, xs, rfl, h, hn, q⟩
theorem w_gc {ts : TGs} {xs : List V} {Z : L2.St → Hp → Prop} (q : g v σ H fun σ' H' => ts xs σ' H' Z) : gCons g ts (v :: xs) σ H Z := ⟨v, xs, rfl, q⟩
theorem w_gn {Z : L2.St → Hp → Prop} (q : Z σ H) : gNil [] σ H Z := ⟨rfl, q⟩
/-- a while, by what holds and a number that falls -/
theorem w_while (W : Nat → L2.St → Hp → Prop) {m0 : Nat} (h0 : W m0 σ H)
    (hs : ∀ m σ H, W m σ H → c σ H fun b H1 => if b = true then ∃ N : L2.St → Hp → Prop, (∀ σ' H', N σ' H' → ∃ m', m' < m ∧ W m' σ' H') ∧ tbody ⟨N, rt, nx, N⟩ σ H1 else nx σ H1) : tWhile c tbody ⟨nx, rt, bk, ct⟩ σ H := ⟨W, ⟨m0, h0⟩, hs⟩
theorem w_turn {W : Nat → L2.St → Hp → Prop} {m : Nat} (h : tbody ⟨fun σ' H' => ∃ m', m' < m ∧ W m' σ' H', rt, nx, fun σ' H' => ∃ m', m' < m ∧ W m' σ' H'⟩ σ H) :
    ∃ N : L2.St → Hp → Prop, (∀ σ' H', N σ' H' → ∃ m', m' < m ∧ W m' σ' H') ∧ tbody ⟨N, rt, nx, N⟩ σ H := ⟨_, fun _ _ h => h, h⟩
/-- for k in range(n), range(a, b) -/
theorem w_for {wi : TI} (q : wi σ H fun J H1 => ∃ W : Nat → Nat → L2.St → Hp → Prop, (∃ m, W 0 m σ H1) ∧ ∀ i m σ H, W i m σ H →
      (J.stop i H ∧ nx σ H) ∨ (J.go i H ∧ ∃ N : L2.St → Hp → Prop, (∀ σ' H', N σ' H' → ∃ m', m' < m ∧ W (i + 1) m' σ' H') ∧ ∀ x H', J.yld i H x H' → g x σ H' fun σ2 H2 => tbody ⟨N, rt, nx, N⟩ σ2 H2)) : tFor wi g tbody ⟨nx, rt, bk, ct⟩ σ H := q
end
theorem w_rng1 {t : TA} {R : It → Hp → Prop} (q : t σ H fun vs H1 => ∃ j : Int, vs = [.int j] ∧ -(2 ^ 62) ≤ j ∧ j < 2 ^ 62 ∧ R (Itr 0 j.toNat) H1) : iRng1 t σ H R := q
theorem w_rng2 {t : TA} {R : It → Hp → Prop} (q : t σ H fun vs H1 => ∃ i j : Int, vs = [.int i, .int j] ∧ (-(2 ^ 62) ≤ i ∧ i < 2 ^ 62 ∧ -(2 ^ 62) ≤ j ∧ j < 2 ^ 62) ∧ R (Itr i (j - i).toNat) H1) : iRng2 t σ H R := q
theorem w_ilist {R : It → Hp → Prop} (q : te σ H fun x H1 => ∃ a, x = .ref a ∧ (∃ xs, SqL K H1 a xs) ∧ R (Itl K a) H1) : iList K te σ H R := q
theorem w_itup {R : It → Hp → Prop} (q : te σ H fun x H1 => ∃ a, x = .ref a ∧ (∃ xs, SqT K H1 a xs) ∧ R (Itt K a) H1) : iTup K te σ H R := q
theorem w_istr {R : It → Hp → Prop} (q : te σ H fun v H1 => ∃ x, v = .str x ∧ R (Its x) H1) : iStr te σ H R := q
theorem w_lc {wi : TI} {g : TG} {tt : TT} {vs : List Nat} (q : wi σ H fun J H1 => ∀ D, H1 D = none → ∃ W : Nat → Nat → Hp → Prop, (∃ m, W 0 m (upd H1 D (.lst []))) ∧ ∀ i m H, W i m H →
    (J.stop i H ∧ Q (.ref D) H) ∨ (J.go i H ∧ ∃ Nx : Hp → Prop, (∀ H', Nx H' → ∃ m', m' < m ∧ W (i + 1) m' H') ∧ ∀ x H', J.yld i H x H' → g x (wipe σ vs) H' fun σ2 H2 => wipe σ2 vs = wipe σ vs ∧ tt σ2 H2 fun b H3 =>
      if b = true then te σ2 H3 fun y H4 => ∃ acc, H4 D = some (.lst acc) ∧ acc.length < sizeLine ∧ Nx (upd H4 D (.lst (acc ++ [y]))) else Nx H3)) : tLc wi g tt te vs σ H Q := q
/-- a test that is open -/
theorem w_ite {p : Prop} [Decidable p] {A B : Prop} (h1 : p → A) (h2 : ¬ p → B) : if decide p = true then A else B := by
  by_cases h : p
  · rw [if_pos (decide_eq_true h)]
    exact h1 h
  · rw [if_neg (by simpa using h)]
    exact h2 h
theorem w_iteN {p : Prop} [Decidable p] {A B : Prop} (h1 : ¬ p → A) (h2 : p → B) : if (!decide p) = true then A else B := by
  by_cases h : p
  · rw [if_neg (by simpa using h)]
    exact h2 h
  · rw [if_pos (by simpa using h)]
    exact h1 h
theorem w_iteb {b : Bool} {A B : Prop} (h1 : b = true → A) (h2 : b = false → B) : if b = true then A else B := by
  cases b with
  | true => rw [if_pos rfl]; exact h1 rfl
  | false => rw [if_neg Bool.false_ne_true]; exact h2 rfl
theorem w_itebN {b : Bool} {A B : Prop} (h1 : b = false → A) (h2 : b = true → B) : if (!b) = true then A else B := by
  cases b with
  | false => rw [if_pos (by rfl)]; exact h1 rfl
  | true => rw [if_neg (by decide)]; exact h2 rfl
theorem w_iteT {p : Prop} [Decidable p] {A B : Prop} (hp : p) (h1 : A) : if decide p = true then A else B := by
  rw [if_pos (decide_eq_true hp)]
  exact h1
theorem w_iteF {p : Prop} [Decidable p] {A B : Prop} (hp : ¬ p) (h2 : B) : if decide p = true then A else B := by
  rw [if_neg (by simpa using hp)]
  exact h2
theorem w_tt {A B : Prop} (h : A) : if true = true then A else B := by rw [if_pos rfl]; exact h
theorem w_ff {A B : Prop} (h : B) : if false = true then A else B := by rw [if_neg Bool.false_ne_true]; exact h
theorem w_ntt {A B : Prop} (h : B) : if (!true) = true then A else B := by rw [if_neg (by decide)]; exact h
theorem w_nff {A B : Prop} (h : A) : if (!false) = true then A else B := by rw [if_pos (by rfl)]; exact h
/-- subscripts -/
theorem w_ixL {p : Addr} {i : Int} (xs : List V) (v : V) (h : SqL K H p xs) (a : atI xs i = some v) (q : Q v H) : rIxL K (.ref p) (.int i) H Q := ⟨p, xs, i, v, rfl, rfl, h, a, q⟩
theorem w_ixT {p : Addr} {i : Int} (xs : List V) (v : V) (h : SqT K H p xs) (a : atI xs i = some v) (q : Q v H) : rIxT K (.ref p) (.int i) H Q := ⟨p, xs, i, v, rfl, rfl, h, a, q⟩
theorem w_ixS {z : Str} {i : Int} {c : Nat} (h : z.length ≤ sizeLine) (a : atI z.cps.toList i = some c) (q : Q (.str ⟨#[c]⟩) H) : rIxS (.str z) (.int i) H Q := ⟨z, i, c, rfl, rfl, h, a, q⟩
theorem w_setL {p : Addr} {k : Int} {Z : Hp → Prop} (xs : List V) (j : Nat) (h : H p = some (.lst xs)) (a : ixN xs.length k = some j) (q : Z (upd H p (.lst (xs.set j v)))) : rSetL (.ref p) (.int k) v H Z := ⟨p, xs, k, j, rfl, rfl, h, a, q⟩
theorem w_b1 {p : Addr} (a0 a1 a2 a3 a4 : V) {Z : Hp → Prop} (h : H p = some (.lst [a0, a1, a2, a3, a4])) (q : Z (upd H p (.lst [a0, v, a2, a3, a4]))) : rSetL (.ref p) (.int 1) v H Z := ⟨p, _, 1, 1, rfl, rfl, h, rfl, q⟩
theorem w_b2 {p : Addr} (a0 a1 a2 a3 a4 : V) {Z : Hp → Prop} (h : H p = some (.lst [a0, a1, a2, a3, a4])) (q : Z (upd H p (.lst [a0, a1, v, a3, a4]))) : rSetL (.ref p) (.int 2) v H Z := ⟨p, _, 2, 2, rfl, rfl, h, rfl, q⟩
theorem w_b3 {p : Addr} (a0 a1 a2 a3 a4 : V) {Z : Hp → Prop} (h : H p = some (.lst [a0, a1, a2, a3, a4])) (q : Z (upd H p (.lst [a0, a1, a2, v, a4]))) : rSetL (.ref p) (.int 3) v H Z := ⟨p, _, 3, 3, rfl, rfl, h, rfl, q⟩
theorem w_b4 {p : Addr} (a0 a1 a2 a3 a4 : V) {Z : Hp → Prop} (h : H p = some (.lst [a0, a1, a2, a3, a4])) (q : Z (upd H p (.lst [a0, a1, a2, a3, v]))) : rSetL (.ref p) (.int 4) v H Z := ⟨p, _, 4, 4, rfl, rfl, h, rfl, q⟩
theorem w_app {l : Addr} (xs : List V) (h : H l = some (.lst xs)) (hn : xs.length < sizeLine) (q : Q .non (upd H l (.lst (xs ++ [y])))) : rAppend (.ref l) [y] H Q := ⟨l, xs, y, rfl, rfl, h, hn, q⟩
theorem w_tyL {l : Addr} {P : Prop} (xs : List V) (h : SqL K H l xs) (q : P) : tyV K "list" (.ref l) H ∧ P := ⟨.inl ⟨rfl, _, h⟩, q⟩
theorem w_lenQ {p : Addr} (xs : List V) (h : SqL K H p xs) (q : Q (.int xs.length) H) : rLenQ K [.ref p] H Q := ⟨p, xs, rfl, .inl h, q⟩
theorem w_lenQT {p : Addr} (xs : List V) (h : SqT K H p xs) (q : Q (.int xs.length) H) : rLenQ K [.ref p] H Q := ⟨p, xs, rfl, .inr h, q⟩
theorem w_lenS {z : Str} (h : z.length ≤ sizeLine) (q : Q (.int z.length) H) : rLenS [.str z] H Q := ⟨z, rfl, h, q⟩
theorem w_listOf {p : Addr} (xs : List V) (h : SqL K H p xs) (q : ∀ l, H l = none → Q (.ref l) (upd H l (.lst xs))) : rListOf K [.ref p] H Q := ⟨p, xs, rfl, .inl h, q⟩
theorem w_int1 {i : Int} (q : Q (.int i) H) : rInt1 [.int i] H Q := .inl ⟨i, rfl, q⟩
theorem w_int1b {b : Bool} (q : Q (.int (if b then 1 else 0)) H) : rInt1 [.bl b] H Q := .inr ⟨b, rfl, q⟩
theorem w_abs {i : Int} (q : Q (.int (if i < 0 then -i else i)) H) : rAbs [.int i] H Q := ⟨i, rfl, q⟩
theorem w_min2 {i j : Int} (q : Q (.int (if j < i then j else i)) H) : rMin2 [.int i, .int j] H Q := ⟨i, j, rfl, q⟩
theorem w_max2 {i j : Int} (q : Q (.int (if j > i then j else i)) H) : rMax2 [.int i, .int j] H Q := ⟨i, j, rfl, q⟩
theorem w_min3 {i j k : Int} (q : Q (.int (min (min i j) k)) H) : rNuC3 nuMin3 [.int i, .int j, .int k] H Q := by
  refine ⟨.int i, .int j, .int k, .int (min (min i j) k), rfl, ?_, q⟩
  have e1 : nuMin2 (.int i) (.int j) = some (.int (min i j)) := by
    show some (if decide (j < i) = true then V.int j else V.int i) = _
    by_cases h : j < i
    · rw [if_pos (decide_eq_true h)]
      congr 2
      omega
    · rw [if_neg (by simpa using h)]
      congr 2
      omega
  have e2 : nuMin2 (.int (min i j)) (.int k) = some (.int (min (min i j) k)) := by
    show some (if decide (k < min i j) = true then V.int k else V.int (min i j)) = _
    by_cases h : k < min i j
    · rw [if_pos (decide_eq_true h)]
      congr 2
      omega
    · rw [if_neg (by simpa using h)]
      congr 2
      omega
  show (nuMin2 (.int i) (.int j)).bind (fun m => nuMin2 m (.int k)) = _
  rw [e1]
  exact e2
theorem w_slL {p : Addr} {lo hi : Option Int} (xs : List V) (h : SqL K H p xs) (q : ∀ l, H l = none → Q (.ref l) (upd H l (.lst (cutV xs lo hi)))) : rSlL K (.ref p) lo hi H Q := ⟨p, xs, rfl, h, q⟩
theorem w_slS {z : Str} {lo hi : Option Int} (h : z.length ≤ sizeLine) (q : Q (.str (cutS z lo hi)) H) : rSlS (.str z) lo hi H Q := ⟨z, rfl, h, q⟩
end
end R

namespace R
open PySem L2
/-! ### the bag of a law: its cells (never changed), a place, what is left, the stirred number, a count -/
structure Bag (K : PySem.W.Frag) (F H : Hp) (b : Addr) : Prop where
  ex : ∃ (c : Addr) (cells : List Int) (i cur st n : Int), F b = none ∧ H b = some (.lst [.ref c, .int i, .int cur, .int st, .int n]) ∧ SqL K F c (cells.map V.int) ∧ cells.length ≤ 63 ∧
    (∀ x ∈ cells, 0 ≤ x ∧ x < 10 ^ 60) ∧ 0 ≤ i ∧ 0 ≤ cur ∧ cur < 10 ^ 60 ∧ 0 ≤ st ∧ st < 2147483647
theorem Bag.keep {K : PySem.W.Frag} {M : List Addr} {F H F2 H2 : Hp} {b : Addr} (g : Gr M F H F2 H2) (h : Bag K F H b) (hb : b ∉ M) : Bag K F2 H2 b := by
  obtain ⟨c, cells, i, cur, st, n, h1, h2, h3, h4⟩ := h.ex
  exact ⟨c, cells, i, cur, st, n, g.nw b (ne_none h2) h1, g.hh b _ hb h2, sqL_same g.ff h3, h4⟩
theorem Bag.keep0 {K : PySem.W.Frag} {F H F2 H2 : Hp} {b : Addr} (g : Gr [] F H F2 H2) (h : Bag K F H b) : Bag K F2 H2 b := h.keep g (fun z => nomatch z)
theorem Bag.ne_new {K : PySem.W.Frag} {F H : Hp} {b q : Addr} (h : Bag K F H b) (hq : H q = none) : b ≠ q := by
  obtain ⟨c, cells, i, cur, st, n, h1, h2, _⟩ := h.ex
  exact ne_of_none h2 hq
/-- a draw: a number from 0 on below n -/
def φdraw (K : PySem.W.Frag) : V → V → Hp → VK → Prop := fun x y H Q => ∃ (b : Addr) (m : Int) (F : Hp), x = .ref b ∧ y = .int m ∧ Same F H ∧ Bag K F H b ∧ 0 < m ∧ m < 2 ^ 200 ∧
  ∀ (r : Int) (F2 H2 : Hp), Gr [b] F H F2 H2 → Bag K F2 H2 b → 0 ≤ r → r < m → Q (.int r) H2
theorem u_draw {K : PySem.W.Frag} {b : Addr} {m : Int} {F H : Hp} {Q : VK} {E : XK} (w : Same F H) (hb : Bag K F H b) (h0 : 0 < m) (h1 : m < 2 ^ 200) (q : ∀ (r : Int) (F2 H2 : Hp), Gr [b] F H F2 H2 → Bag K F2 H2 b → 0 ≤ r → r < m → Q (.int r) H2) :
    S2 (φdraw K) ([.ref b, .int m] ++ []) H Q E := ⟨b, m, F, rfl, rfl, w, hb, h0, h1, q⟩
def φbag (K : PySem.W.Frag) : V → Hp → VK → Prop := fun x H Q => ∃ (a : Addr) (ns : List Int), x = .ref a ∧ SqL K H a (ns.map V.int) ∧ ns.length ≤ 63 ∧
  ∀ (b : Addr) (F2 H2 : Hp), Gr [] H H F2 H2 → Bag K F2 H2 b → Q (.ref b) H2
theorem bits_le {m : Int} (h0 : 0 < m) (h1 : m < 2 ^ 200) : (Builtin.Int.intBits m : Int) ≤ 200 := by
  have h : m.natAbs < 2 ^ 200 := by omega
  have e := PyProof.Rows.intBits_le h
  omega
theorem mod_nn {a b : Int} (h : 0 < b) : 0 ≤ a % b := Int.emod_nonneg a (by omega)
theorem mod_lt {a b : Int} (h : 0 < b) : a % b < b := Int.emod_lt_of_pos a h
theorem div_nn {a b : Int} (ha : 0 ≤ a) (hb : 0 < b) : 0 ≤ a / b := Int.ediv_nonneg ha (by omega)
theorem div_le' {a b : Int} (ha : 0 ≤ a) (hb : 0 < b) : a / b ≤ a := Int.ediv_le_self b ha
theorem log2_lt {j : Int} (h : j.natAbs < 2 ^ 8999) (h0 : 0 < j) : CDivW 0 j := by
  refine ⟨h0, ?_⟩
  have hp : j.natAbs ≠ 0 := by omega
  have := (Nat.log2_lt hp).mpr h
  omega
theorem divw_ok {i j : Int} (h0 : 0 < j) (h1 : j < 2 ^ 200) : CDivW i j := by
  refine ⟨h0, ?_⟩
  have hp : j.natAbs ≠ 0 := by omega
  have h : j.natAbs < 2 ^ 200 := by omega
  have := (Nat.log2_lt hp).mpr h
  omega
/-! ### loops by what holds at each turn -/
section
variable {K : PySem.W.Frag} {σ : L2.St} {H : Hp} {Q : VK} {nx bk ct : L2.St → Hp → Prop} {rt : VK} {g : TG} {tb : TS}
/-- what tFor asks of a range, by what holds ahead of turn i -/
theorem f_range {lo : Int} {n : Nat} (Pv : Nat → L2.St → Hp → Prop) (h0 : Pv 0 σ H) (hs : ∀ i σ H, i < n → Pv i σ H → g (.int (lo + i)) σ H fun σ2 H2 => tb ⟨Pv (i + 1), rt, nx, Pv (i + 1)⟩ σ2 H2) (hd : ∀ σ H, Pv n σ H → nx σ H) :
    ∃ W : Nat → Nat → L2.St → Hp → Prop, (∃ m, W 0 m σ H) ∧ ∀ i m σ H, W i m σ H →
      ((Itr lo n).stop i H ∧ nx σ H) ∨ ((Itr lo n).go i H ∧ ∃ N : L2.St → Hp → Prop, (∀ σ' H', N σ' H' → ∃ m', m' < m ∧ W (i + 1) m' σ' H') ∧ ∀ x H', (Itr lo n).yld i H x H' → g x σ H' fun σ2 H2 => tb ⟨N, rt, nx, N⟩ σ2 H2) := by
  refine ⟨fun i m σ H => m = n - i ∧ i ≤ n ∧ Pv i σ H, ⟨n, by simp, Nat.zero_le _, h0⟩, ?_⟩
  rintro i m σ H ⟨rfl, hi, p⟩
  by_cases hlt : i < n
  · refine .inr ⟨hlt, Pv (i + 1), fun σ' H' p' => ⟨n - (i + 1), by omega, rfl, hlt, p'⟩, fun x H' y => ?_⟩
    obtain ⟨e, y⟩ := y
    subst e y
    exact hs i σ _ hlt p
  · have e : i = n := by omega
    subst e
    exact .inl ⟨Nat.le_refl _, hd σ H p⟩
theorem f_range0 {n : Nat} (Pv : Nat → L2.St → Hp → Prop) (h0 : Pv 0 σ H) (hs : ∀ i σ H, i < n → Pv i σ H → g (.int (i : Int)) σ H fun σ2 H2 => tb ⟨Pv (i + 1), rt, nx, Pv (i + 1)⟩ σ2 H2) (hd : ∀ σ H, Pv n σ H → nx σ H) :
    ∃ W : Nat → Nat → L2.St → Hp → Prop, (∃ m, W 0 m σ H) ∧ ∀ i m σ H, W i m σ H →
      ((Itr 0 n).stop i H ∧ nx σ H) ∨ ((Itr 0 n).go i H ∧ ∃ N : L2.St → Hp → Prop, (∀ σ' H', N σ' H' → ∃ m', m' < m ∧ W (i + 1) m' σ' H') ∧ ∀ x H', (Itr 0 n).yld i H x H' → g x σ H' fun σ2 H2 => tb ⟨N, rt, nx, N⟩ σ2 H2) :=
  f_range Pv h0 (fun i σ H hi hp => by rw [Int.zero_add]; exact hs i σ H hi hp) hd
theorem f_list {a : Addr} {xs : List V} (Pv : Nat → L2.St → Hp → Prop) (h0 : Pv 0 σ H) (hl : ∀ i σ H, i ≤ xs.length → Pv i σ H → SqL K H a xs)
    (hs : ∀ i x σ H, xs[i]? = some x → Pv i σ H → g x σ H fun σ2 H2 => tb ⟨Pv (i + 1), rt, nx, Pv (i + 1)⟩ σ2 H2) (hd : ∀ σ H, Pv xs.length σ H → nx σ H) :
    ∃ W : Nat → Nat → L2.St → Hp → Prop, (∃ m, W 0 m σ H) ∧ ∀ i m σ H, W i m σ H →
      ((Itl K a).stop i H ∧ nx σ H) ∨ ((Itl K a).go i H ∧ ∃ N : L2.St → Hp → Prop, (∀ σ' H', N σ' H' → ∃ m', m' < m ∧ W (i + 1) m' σ' H') ∧ ∀ x H', (Itl K a).yld i H x H' → g x σ H' fun σ2 H2 => tb ⟨N, rt, nx, N⟩ σ2 H2) := by
  refine ⟨fun i m σ H => m = xs.length - i ∧ i ≤ xs.length ∧ Pv i σ H, ⟨xs.length, by simp, Nat.zero_le _, h0⟩, ?_⟩
  rintro i m σ H ⟨rfl, hi, p⟩
  have q := hl i σ H hi p
  by_cases hlt : i < xs.length
  · refine .inr ⟨⟨xs, xs[i], q, by simp [hlt]⟩, Pv (i + 1), fun σ' H' p' => ⟨xs.length - (i + 1), by omega, rfl, hlt, p'⟩, fun x H' y => ?_⟩
    obtain ⟨e, y⟩ := y
    subst e
    exact hs i x σ _ (y xs q) p
  · have e : i = xs.length := by omega
    subst e
    exact .inl ⟨⟨xs, q, Nat.le_refl _⟩, hd σ H p⟩
variable {tt : TT} {te : TE} {vs : List Nat} {D : Addr} {Qd : Hp → Prop}
theorem lc_rng {n : Nat} (Pv : Nat → Hp → Prop) (h0 : Pv 0 (upd H D (.lst []))) (hs : ∀ i H, i < n → Pv i H → g (.int (i : Int)) (wipe σ vs) H fun σ2 H2 => wipe σ2 vs = wipe σ vs ∧ tt σ2 H2 fun b H3 =>
      if b = true then te σ2 H3 fun y H4 => ∃ acc, H4 D = some (.lst acc) ∧ acc.length < sizeLine ∧ Pv (i + 1) (upd H4 D (.lst (acc ++ [y]))) else Pv (i + 1) H3) (hd : ∀ H, Pv n H → Qd H) :
    ∃ W : Nat → Nat → Hp → Prop, (∃ m, W 0 m (upd H D (.lst []))) ∧ ∀ i m H, W i m H →
      ((Itr 0 n).stop i H ∧ Qd H) ∨ ((Itr 0 n).go i H ∧ ∃ Nx : Hp → Prop, (∀ H', Nx H' → ∃ m', m' < m ∧ W (i + 1) m' H') ∧ ∀ x H', (Itr 0 n).yld i H x H' → g x (wipe σ vs) H' fun σ2 H2 => wipe σ2 vs = wipe σ vs ∧ tt σ2 H2 fun b H3 =>
        if b = true then te σ2 H3 fun y H4 => ∃ acc, H4 D = some (.lst acc) ∧ acc.length < sizeLine ∧ Nx (upd H4 D (.lst (acc ++ [y]))) else Nx H3) :=
  lc_range (lo := 0) Pv h0 (fun i H hi hp => by rw [Int.zero_add]; exact hs i H hi hp) hd
end
end R

namespace R
open PySem L2
theorem Gr.put {M : List Addr} {F0 H0 F H : Hp} {p : Addr} {o : HO} (g : Gr M F0 H0 F H) (h : F p = none) (hm : p ∈ M) : Gr M F0 H0 F (upd H p o) := g.trans (.wr g.fh h hm)
theorem Gr.add {M : List Addr} {F0 H0 F H : Hp} {p : Addr} {o : HO} (g : Gr M F0 H0 F H) (h : H p = none) : Gr M F0 H0 (upd F p o) (upd H p o) := g.trans (.im g.fh h)
theorem Gr.addm {M : List Addr} {F0 H0 F H : Hp} {p : Addr} {o : HO} (g : Gr M F0 H0 F H) (h : H p = none) : Gr M F0 H0 F (upd H p o) := g.trans (.new g.fh h)
theorem Gr.ws {M : List Addr} {F H F2 H2 : Hp} (g : Gr M F H F2 H2) : Same F H2 := g.ff.trans g.fh
theorem Gr.transN {M N : List Addr} {F H F1 H1 F2 H2 : Hp} (a : Gr M F H F1 H1) (b : Gr N F1 H1 F2 H2) (h : ∀ x ∈ N, x ∈ M ∨ H x = none) : Gr M F H F2 H2 :=
  ⟨a.ff.trans b.ff, b.fh, fun x o n e => b.hh x o (fun m => (h x m).elim n fun z => by rw [z] at e; cases e) (a.hh x o n e), fun x e => b.al x (a.al x e), fun x e n => b.nw x (a.al x e) (a.nw x e n)⟩
/-- back to a smaller part that stays -/
theorem Gr.back {M : List Addr} {F F' H F2 H2 : Hp} (g : Gr M F' H F2 H2) (s : Same F F') : Gr M F H F H2 := ⟨Same.refl F, (s.trans g.ff).trans g.fh, g.hh, g.al, fun _ _ n => n⟩
theorem Gr.fresh {M : List Addr} {F0 H0 F H : Hp} {p : Addr} (g : Gr M F0 H0 F H) (h : H p = none) : H0 p = none := by
  cases e : H0 p with
  | none => rfl
  | some o => exact absurd h (g.al p (ne_none e))
/-- an object that was new behind the start, and changes no more -/
theorem Gr.frz {M : List Addr} {F0 H0 F H : Hp} {p : Addr} {o : HO} (g : Gr M F0 H0 F H) (hn : H0 p = none) (m : Mu F H p o) : Gr M F0 H0 (upd F p o) H := by
  refine ⟨g.ff.trans (Same.new m.n), fun a u e => ?_, g.hh, g.al, fun a e n => ?_⟩
  · by_cases q : a = p
    · subst q
      rw [upd_same] at e
      exact m.h.trans e
    · rw [upd_ne q] at e
      exact g.fh a u e
  · have q : a ≠ p := fun z => by subst z; exact e hn
    rw [upd_ne q]
    exact g.nw a e n
theorem Mu.same {F H : Hp} {p : Addr} {o : HO} (m : Mu F H p o) (w : Same F H) : Same (upd F p o) H := fun a u e => by
  by_cases q : a = p
  · subst q
    rw [upd_same] at e
    exact m.h.trans e
  · rw [upd_ne q] at e
    exact w a u e
theorem Mu.frz {F H : Hp} {p q : Addr} {o u : HO} (m : Mu F H p o) (h : p ≠ q) : Mu (upd F q u) H p o := ⟨by rw [upd_ne h]; exact m.n, m.h⟩
theorem Bag.frz {K : PySem.W.Frag} {F H : Hp} {b q : Addr} {u : HO} (h : Bag K F H b) (hn : F q = none) (hq : b ≠ q) : Bag K (upd F q u) H b := by
  obtain ⟨c, cells, i, cur, st, n, h1, h2, h3, h4⟩ := h.ex
  exact ⟨c, cells, i, cur, st, n, by rw [upd_ne hq]; exact h1, h2, sqL_same (Same.new hn) h3, h4⟩
theorem Bag.put {K : PySem.W.Frag} {F H : Hp} {b q : Addr} {u : HO} (h : Bag K F H b) (hq : b ≠ q) : Bag K F (upd H q u) b := by
  obtain ⟨c, cells, i, cur, st, n, h1, h2, h3, h4⟩ := h.ex
  exact ⟨c, cells, i, cur, st, n, h1, by rw [upd_ne hq]; exact h2, h3, h4⟩
theorem Bag.addm {K : PySem.W.Frag} {F H : Hp} {b q : Addr} {u : HO} (h : Bag K F H b) (hq : H q = none) : Bag K F (upd H q u) b := h.put (h.ne_new hq)
theorem Bag.add {K : PySem.W.Frag} {F H : Hp} {b q : Addr} {u : HO} (w : Same F H) (h : Bag K F H b) (hq : H q = none) : Bag K (upd F q u) (upd H q u) b := (h.addm hq).frz (w.free hq) (h.ne_new hq)
theorem Mu.addm {F H : Hp} {p q : Addr} {o u : HO} (m : Mu F H p o) (hq : H q = none) : Mu F (upd H q u) p o := m.oth (m.ne_new hq)
theorem Mu.add {F H : Hp} {p q : Addr} {o u : HO} (m : Mu F H p o) (hq : H q = none) : Mu (upd F q u) (upd H q u) p o := (m.addm hq).frz (m.ne_new hq)
/-- a draw, the whole growth carried -/
theorem d_draw {K : PySem.W.Frag} {M : List Addr} {F0 H0 F H : Hp} {b : Addr} {m : Int} {Q : VK} {E : XK} (g : Gr M F0 H0 F H) (hb : Bag K F H b) (h0 : 0 < m) (h1 : m < 2 ^ 200)
    (q : ∀ (r : Int) (F2 H2 : Hp), Gr M F0 H0 F2 H2 → Gr [b] F H F2 H2 → Bag K F2 H2 b → 0 ≤ r → r < m → Q (.int r) H2) (hm : b ∈ M := by simp) :
    S2 (φdraw K) ([.ref b, .int m] ++ []) H Q E := ⟨b, m, F, rfl, rfl, g.fh, hb, h0, h1, fun r F2 H2 g2 hb2 hr0 hr1 => q r F2 H2 (g.trans (g2.sub fun x hx => by rw [List.mem_singleton.mp hx]; exact hm)) g2 hb2 hr0 hr1⟩
/-! ### data -/
theorem dpa_len {K : PySem.W.Frag} {F : Hp} : ∀ {vs : List V} {ds : List PyData}, DpAll K F vs ds → vs.length = ds.length
  | _, _, .nil => rfl
  | _, _, .cons _ t => congrArg (· + 1) (dpa_len t)
theorem dpa_get {K : PySem.W.Frag} {F : Hp} : ∀ {vs : List V} {ds : List PyData} {i : Nat} {d : PyData}, DpAll K F vs ds → ds[i]? = some d → ∃ v, vs[i]? = some v ∧ Dp K F v d
  | _, _, _, _, .nil, e => by simp at e
  | _, _, 0, _, .cons h _, e => by
    have e' := Option.some.inj e
    subst e'
    exact ⟨_, rfl, h⟩
  | _, _, i + 1, _, .cons _ t, e => dpa_get (i := i) t e
theorem dpa_app {K : PySem.W.Frag} {F : Hp} : ∀ {vs us : List V} {ds es : List PyData}, DpAll K F vs ds → DpAll K F us es → DpAll K F (vs ++ us) (ds ++ es)
  | _, _, _, _, .nil, h => h
  | _, _, _, _, .cons h t, u => .cons h (dpa_app t u)
theorem dpa_snoc {K : PySem.W.Frag} {F : Hp} {vs : List V} {ds : List PyData} {v : V} {d : PyData} (h : DpAll K F vs ds) (hd : Dp K F v d) : DpAll K F (vs ++ [v]) (ds ++ [d]) := dpa_app h (.cons hd .nil)
theorem dpa_mem {K : PySem.W.Frag} {F : Hp} : ∀ {vs : List V} {ds : List PyData} {v : V}, DpAll K F vs ds → v ∈ vs → ∃ d, d ∈ ds ∧ Dp K F v d
  | _, _, _, .nil, e => nomatch e
  | _, _, _, .cons h t, e => by
    rcases List.mem_cons.mp e with e | e
    · subst e
      exact ⟨_, List.mem_cons_self .., h⟩
    · obtain ⟨d, m, hd⟩ := dpa_mem t e
      exact ⟨d, List.mem_cons_of_mem _ m, hd⟩
def tyD : PyData → String
  | .none => "NoneType" | .bool _ => "bool" | .int _ => "int" | .str _ => "str" | .list _ => "list" | .tuple _ => "tuple" | .dict _ => "dict"
theorem tyx_of {K : PySem.W.Frag} {F H : Hp} {x : V} {d : PyData} (h : Dp K F x d) (w : Same F H) : TyX K H x (.type (tyD d)) := by
  cases h with
  | non => exact .base .non
  | bl b => exact .base (.bl b)
  | int i => exact .base (.int i)
  | str s => exact .base (.str s)
  | lst hs _ =>
    rcases hs with (h | ⟨o, h⟩) | ⟨o, its, n, e1, e2, _⟩
    · exact .base (.lst (w _ _ h))
    · exact .base (.frz (w _ _ h))
    · exact .kList e1 e2
  | tup hs _ =>
    rcases hs with (h | ⟨o, h⟩) | ⟨o, its, n, e1, e2, _⟩
    · exact .base (.tup (w _ _ h))
    · exact .fTuple (w _ _ h)
    · exact .kTuple e1 e2
section
variable {K : PySem.W.Frag} {F H : Hp} {x y : V} {d : PyData} {Q : VK} {n m : String} {p : Addr}
theorem u_isi {b : Bool} (h : Dp K F x d) (w : Same F H) (e : kitB (tyD d) n = some b) (q : Q (.bl b) H) : rIsi K [x, .ty n] H Q :=
  ⟨x, .ty n, _, _, b, rfl, .ty n, tyx_of h w, kit_ty e, q⟩
theorem u_isiT {b c : Bool} (h : Dp K F x d) (w : Same F H) (hp : H p = some (.tup [.ty n, .ty m])) (e1 : kitB (tyD d) n = some b) (e2 : kitB (tyD d) m = some c) (q : Q (.bl (b || c)) H) : rIsiT K [x, .ref p] H Q := by
  refine ⟨x, p, _, _, _, b || c, rfl, hp, .cons (.ty n) (.cons (.ty m) .nil), tyx_of h w, ?_, q⟩
  refine kitAny_cons (kit_ty e1) (fun hb => ?_) (fun hb => by rw [hb]; rfl)
  refine kitAny_cons (kit_ty e2) (fun hc => ?_) (fun hc => by rw [hc]; simp)
  rw [hb, hc]
  exact kitAny_nil
end
/-- the answers of isinstance for data -/
def isSeq : PyData → Bool
  | .list _ | .tuple _ => true
  | _ => false
def isLst : PyData → Bool
  | .list _ => true
  | _ => false
def isTup : PyData → Bool
  | .tuple _ => true
  | _ => false
def isBol : PyData → Bool
  | .bool _ => true
  | _ => false
def isInt : PyData → Bool
  | .bool _ | .int _ => true
  | _ => false
def isStr : PyData → Bool
  | .str _ => true
  | _ => false
theorem k_list : ∀ d : PyData, kitB (tyD d) "list" = some (isLst d) := by intro d; cases d <;> simp only [tyD, isLst, isTup, isBol, isInt, isStr] <;> decide +kernel
theorem k_tuple : ∀ d : PyData, kitB (tyD d) "tuple" = some (isTup d) := by intro d; cases d <;> simp only [tyD, isLst, isTup, isBol, isInt, isStr] <;> decide +kernel
theorem k_bool : ∀ d : PyData, kitB (tyD d) "bool" = some (isBol d) := by intro d; cases d <;> simp only [tyD, isLst, isTup, isBol, isInt, isStr] <;> decide +kernel
theorem k_int : ∀ d : PyData, kitB (tyD d) "int" = some (isInt d) := by intro d; cases d <;> simp only [tyD, isLst, isTup, isBol, isInt, isStr] <;> decide +kernel
theorem k_str : ∀ d : PyData, kitB (tyD d) "str" = some (isStr d) := by intro d; cases d <;> simp only [tyD, isLst, isTup, isBol, isInt, isStr] <;> decide +kernel
def itemsD : PyData → List PyData
  | .list ds | .tuple ds => ds
  | _ => []
theorem seq_of {K : PySem.W.Frag} {F : Hp} {x : V} {d : PyData} (h : Dp K F x d) (s : isSeq d = true) : ∃ (a : Addr) (vs : List V), x = .ref a ∧ (SqL K F a vs ∨ SqT K F a vs) ∧ DpAll K F vs (itemsD d) := by
  cases h with
  | lst hs ha => exact ⟨_, _, rfl, .inl hs, ha⟩
  | tup hs ha => exact ⟨_, _, rfl, .inr hs, ha⟩
  | _ => cases s
theorem sca_of {K : PySem.W.Frag} {F : Hp} {x y : V} {d : PyData} (h : Dp K F x d) (h' : Dp K F y d) (s : isSeq d = false) : y = x ∧ scal x x = true := by
  cases h with
  | lst hs ha => cases s
  | tup hs ha => cases s
  | non => cases h'; exact ⟨rfl, rfl⟩
  | bl => cases h'; exact ⟨rfl, rfl⟩
  | int => cases h'; exact ⟨rfl, rfl⟩
  | str => cases h'; exact ⟨rfl, rfl⟩
theorem depth_item : ∀ {d e : PyData} {i : Nat}, isSeq d = true → (itemsD d)[i]? = some e → e.depth < d.depth := by
  have key : ∀ (ds : List PyData) (i : Nat) (e : PyData), ds[i]? = some e → e.depth ≤ PyData.depthAll ds := by
    intro ds
    induction ds with
    | nil => intro i e h; simp at h
    | cons d ds ih =>
      intro i e h
      cases i with
      | zero =>
        have e' := Option.some.inj h
        subst e'
        rw [PyData.depthAll]
        exact Nat.le_max_left _ _
      | succ i =>
        have := ih i e h
        rw [PyData.depthAll]
        exact Nat.le_trans this (Nat.le_max_right _ _)
  intro d e i s h
  cases d with
  | list ds => rw [PyData.depth]; exact Nat.lt_succ_of_le (key ds i e h)
  | tuple ds => rw [PyData.depth]; exact Nat.lt_succ_of_le (key ds i e h)
  | _ => cases s
section
variable {K : PySem.W.Frag} {H : Hp} {Q : VK} {v : V} {A B : Prop}
theorem w_ixQ {a : Addr} {i : Int} (vs : List V) (v : V) (h : SqL K H a vs ∨ SqT K H a vs) (e : atI vs i = some v) (q : Q v H) : rIx K (.ref a) (.int i) H Q := by
  rcases h with h | h
  · exact .inl ⟨a, vs, i, v, rfl, rfl, h, e, q⟩
  · exact .inr (.inl ⟨a, vs, i, v, rfl, rfl, h, e, q⟩)
theorem sq_same {F : Hp} {a : Addr} {vs : List V} (w : Same F H) (h : SqL K F a vs ∨ SqT K F a vs) : SqL K H a vs ∨ SqT K H a vs := h.elim (fun h => .inl (sqL_same w h)) fun h => .inr (sqT_same w h)
theorem w_nself {α : Type} [DecidableEq α] {a : α} (h : B) : if (!decide (a = a)) = true then A else B := by
  rw [if_neg (by simp)]
  exact h
theorem w_self {α : Type} [DecidableEq α] {a : α} (h : A) : if decide (a = a) = true then A else B := by
  rw [if_pos (by simp)]
  exact h
theorem w_is {b c : Bool} (e : b = c) (h : if c = true then A else B) : if b = true then A else B := by rw [e]; exact h
end
theorem le1000 {n : Nat} (h : n ≤ 1000) : n ≤ sizeLine := Nat.le_of_lt (small1000 h)
theorem small_lt {n : Nat} (h : n ≤ 1000000) : n < sizeLine := by rw [sizeLine_eq]; omega
theorem all_rep (n : Nat) : (List.replicate n true).all id = true := by
  induction n with
  | zero => rfl
  | succ n ih => rw [List.replicate_succ, List.all_cons, ih]; rfl
theorem szle {n : Nat} (h : n ≤ 1000000) : n ≤ sizeLine := Nat.le_of_lt (by rw [sizeLine_eq]; omega)
section
variable {K : PySem.W.Frag} {σ : L2.St} {H : Hp} {Q : VK} {ta : TE}
theorem w_lstRg {te : L2.St → Hp → (Int → Int → Hp → Prop) → Prop} (q : te σ H fun a b H1 => RgOk a b ∧ ∀ q, H1 q = none → Q (.ref q) (upd H1 q (.lst (rgV a b)))) : tLstRg te σ H Q := q
theorem w_rg1 {R : Int → Int → Hp → Prop} (q : ta σ H fun x H1 => asInt x H1 fun n H2 => R 0 n H2) : tRg1 ta σ H R := q
theorem w_revL (q : ta σ H fun x H1 => ∃ a xs, x = .ref a ∧ SqL K H1 a xs ∧ ∀ p, H1 p = none → Q (.ref p) (upd H1 p (.lst xs.reverse))) : tRevL K ta σ H Q := q
end
def nV (l : List Nat) : List V := l.map fun k => V.int (k : Nat)
theorem rgV0 (n : Int) : rgV 0 n = nV (List.range n.toNat) := by
  unfold rgV nV
  rw [Int.sub_zero]
  refine List.map_congr_left fun k _ => ?_
  rw [Int.zero_add]
theorem nV_rev (l : List Nat) : (nV l).reverse = nV l.reverse := by
  unfold nV
  rw [List.map_reverse]
theorem nV_get {l : List Nat} {i : Nat} {x : V} (h : (nV l)[i]? = some x) : ∃ k, l[i]? = some k ∧ x = .int (k : Nat) := by
  unfold nV at h
  rw [List.getElem?_map] at h
  cases e : l[i]? with
  | none => rw [e] at h; cases h
  | some k =>
    rw [e] at h
    exact ⟨k, rfl, (Option.some.inj h).symm⟩
theorem pick_ix {ns : List Int} {i lo hi : Int} (h0 : 0 ≤ i) (h1 : i < (ns.length : Int)) (hb : ∀ x ∈ ns, lo ≤ x ∧ x ≤ hi) : ∃ m, atI (ns.map V.int) i = some (.int m) ∧ lo ≤ m ∧ m ≤ hi := by
  have hi : i.toNat < ns.length := by omega
  refine ⟨ns[i.toNat], ?_, hb _ (List.getElem_mem hi)⟩
  refine at_of (j := i.toNat) (by omega) ?_
  rw [List.getElem?_map, List.getElem?_eq_getElem hi]
  rfl
theorem rep_flat {α : Type} (n : Nat) (x : α) : (List.replicate n [x]).flatten = List.replicate n x := by
  induction n with
  | zero => rfl
  | succ n ih => rw [List.replicate_succ, List.flatten_cons, ih]; rfl
theorem cell_at {cells : List Int} {i : Int} (h0 : 0 ≤ i) (h1 : i < ((cells.map V.int).length : Nat)) : ∃ x, x ∈ cells ∧ atI (cells.map V.int) i = some (.int x) := by
  rw [List.length_map] at h1
  have hi : i.toNat < cells.length := by omega
  refine ⟨cells[i.toNat], List.getElem_mem hi, ?_⟩
  refine at_of (j := i.toNat) (by omega) ?_
  rw [List.getElem?_map, List.getElem?_eq_getElem hi]
  rfl
theorem cut63 {ns : List Int} (h : ns.length ≤ 63) : cutV (ns.map V.int) none (some 63) = ns.map V.int := by
  unfold cutV
  rw [HT.sIx_none, show HT.sIx (ns.map V.int).length (ns.map V.int).length (some 63) = min 63 (ns.map V.int).length from HT.sIx_nat _ _ 63, List.drop_zero, List.length_map]
  refine List.take_of_length_le ?_
  rw [List.length_map]
  omega
theorem map_get {ns : List Int} {i : Nat} {x : V} (h : (ns.map V.int)[i]? = some x) : ∃ c, x = .int c := by
  rw [List.getElem?_map] at h
  cases e : ns[i]? with
  | none => rw [e] at h; cases h
  | some c =>
    rw [e] at h
    exact ⟨c, (Option.some.inj h).symm⟩
/-! data of modest size, no dicts, plain signs -/
mutual
def good : PyData → Bool
  | .none | .bool _ | .int _ => true
  | .str x => PyData.strOk x && decide (x.length ≤ 100000)
  | .list ds | .tuple ds => decide (ds.length ≤ 100000) && goodAll ds
  | .dict _ => false
def goodAll : List PyData → Bool
  | [] => true
  | d :: ds => good d && goodAll ds
end
theorem goodAll_iff : ∀ {ds : List PyData}, goodAll ds = true ↔ ∀ d ∈ ds, good d = true
  | [] => by simp [goodAll]
  | d :: ds => by simp [goodAll, goodAll_iff (ds := ds)]
mutual
theorem lay_good : ∀ d : PyData, good d = true → d.canLay0 = true
  | .none, _ => rfl
  | .bool _, _ => rfl
  | .int _, _ => rfl
  | .str x, h => by
    rw [good, Bool.and_eq_true] at h
    exact h.1
  | .list ds, h => by
    rw [good, Bool.and_eq_true] at h
    exact lay_goodAll ds h.2
  | .tuple ds, h => by
    rw [good, Bool.and_eq_true] at h
    exact lay_goodAll ds h.2
  | .dict _, h => by cases h
theorem lay_goodAll : ∀ ds : List PyData, goodAll ds = true → PyData.canLayAll0 ds = true
  | [], _ => rfl
  | d :: ds, h => by
    rw [goodAll, Bool.and_eq_true] at h
    rw [PyData.canLayAll0, lay_good d h.1, lay_goodAll ds h.2]
    rfl
end
theorem good_item {d e : PyData} {i : Nat} (h : good d = true) (he : (itemsD d)[i]? = some e) : good e = true := by
  cases d with
  | list ds =>
    rw [good, Bool.and_eq_true] at h
    exact goodAll_iff.mp h.2 e (List.mem_of_getElem? he)
  | tuple ds =>
    rw [good, Bool.and_eq_true] at h
    exact goodAll_iff.mp h.2 e (List.mem_of_getElem? he)
  | _ => simp [itemsD] at he
theorem good_len {d : PyData} (h : good d = true) : (itemsD d).length ≤ 100000 := by
  cases d with
  | list ds =>
    rw [good, Bool.and_eq_true] at h
    exact of_decide_eq_true h.1
  | tuple ds =>
    rw [good, Bool.and_eq_true] at h
    exact of_decide_eq_true h.1
  | _ => exact Nat.zero_le _
theorem good_shaped {d : PyData} (h : good d = true) (hd : d.depth ≤ 64) : SeqAt.shaped d = true := by
  unfold SeqAt.shaped
  rw [lay_good d h, decide_eq_true hd]
  rfl
theorem good_refl {d : PyData} (h : good d = true) : PyData.eqv d d = true := SeqAt.eqv_refl d (lay_good d h)
theorem good_list {ds : List PyData} (hl : ds.length ≤ 100000) (h : ∀ d ∈ ds, good d = true) : good (.list ds) = true := by
  rw [good, Bool.and_eq_true]
  exact ⟨decide_eq_true hl, goodAll_iff.mpr h⟩
theorem good_tuple {ds : List PyData} (hl : ds.length ≤ 100000) (h : ∀ d ∈ ds, good d = true) : good (.tuple ds) = true := by
  rw [good, Bool.and_eq_true]
  exact ⟨decide_eq_true hl, goodAll_iff.mpr h⟩
theorem depth_list {ds : List PyData} {n : Nat} (h : ∀ d ∈ ds, d.depth ≤ n) : (PyData.list ds).depth ≤ n + 1 := by
  have key : ∀ ds : List PyData, (∀ d ∈ ds, d.depth ≤ n) → PyData.depthAll ds ≤ n := by
    intro ds
    induction ds with
    | nil => intro _; exact Nat.zero_le _
    | cons d ds ih =>
      intro h
      rw [PyData.depthAll]
      exact Nat.max_le.mpr ⟨h d (List.mem_cons_self ..), ih fun e he => h e (List.mem_cons_of_mem _ he)⟩
  rw [PyData.depth]
  exact Nat.succ_le_succ (key ds h)
theorem depth_tuple {ds : List PyData} {n : Nat} (h : ∀ d ∈ ds, d.depth ≤ n) : (PyData.tuple ds).depth ≤ n + 1 := depth_list (ds := ds) h
/-! == and != of equal data -/
section
variable {K : PySem.W.Frag} {F H : Hp} {x y : V} {d : PyData} {Q : VK}
theorem u_eqD (w : Same F H) (hx : Dp K F x d) (hy : Dp K F y d) (hg : good d = true) (hd : d.depth ≤ 64) (q : Q (.bl true) H) : rEqD K x y H Q :=
  ⟨d, d, dp_same w _ _ hx, dp_same w _ _ hy, good_shaped hg hd, good_shaped hg hd, by rw [good_refl hg]; exact q⟩
theorem u_neD (w : Same F H) (hx : Dp K F x d) (hy : Dp K F y d) (hg : good d = true) (hd : d.depth ≤ 64) (q : Q (.bl false) H) : rNeD K x y H Q :=
  ⟨d, d, dp_same w _ _ hx, dp_same w _ _ hy, good_shaped hg hd, good_shaped hg hd, by rw [good_refl hg]; exact q⟩
end
/-- two things of the same data -/
def φalike (K : PySem.W.Frag) (n : Nat) : V → V → Hp → VK → Prop := fun x y H Q => ∃ (F : Hp) (d : PyData), Same F H ∧ Dp K F x d ∧ Dp K F y d ∧ d.depth < n ∧ good d = true ∧
  ∀ F2 H2 : Hp, Gr [] F H F2 H2 → Q (.bl true) H2
theorem alike0 {K : PySem.W.Frag} {vs : List V} {H : Hp} {Q : VK} {E : XK} (h : S2 (φalike K 0) vs H Q E) : False := by
  match vs, h with
  | [_, _], h =>
    obtain ⟨F, d, _, _, _, hn, _⟩ := h
    exact absurd hn (Nat.not_lt_zero _)
end R

namespace R
open PySem L2
/-! ### data taken apart -/
section
variable {K : PySem.W.Frag} {F : Hp} {x v : V}
theorem dp_int {i : Int} (h : Dp K F x (.int i)) : x = .int i := by cases h; rfl
theorem dp_str {s : Str} (h : Dp K F x (.str s)) : x = .str s := by cases h; rfl
theorem dp_non (h : Dp K F x .none) : x = .non := by cases h; rfl
theorem dp_bool {b : Bool} (h : Dp K F x (.bool b)) : x = .bl b := by cases h; rfl
theorem dp_list {ds : List PyData} (h : Dp K F x (.list ds)) : ∃ (a : Addr) (vs : List V), x = .ref a ∧ SqL K F a vs ∧ DpAll K F vs ds := by
  cases h with
  | lst hs ha => exact ⟨_, _, rfl, hs, ha⟩
theorem dp_tup {ds : List PyData} (h : Dp K F x (.tuple ds)) : ∃ (a : Addr) (vs : List V), x = .ref a ∧ SqT K F a vs ∧ DpAll K F vs ds := by
  cases h with
  | tup hs ha => exact ⟨_, _, rfl, hs, ha⟩
theorem dpa_cons {vs : List V} {d : PyData} {ds : List PyData} (h : DpAll K F vs (d :: ds)) : ∃ v us, vs = v :: us ∧ Dp K F v d ∧ DpAll K F us ds := by
  cases h with
  | cons h t => exact ⟨_, _, rfl, h, t⟩
theorem dpa_nil {vs : List V} (h : DpAll K F vs []) : vs = [] := by cases h; rfl
theorem dp_tup3 {d1 d2 d3 : PyData} (h : Dp K F x (.tuple [d1, d2, d3])) : ∃ (a : Addr) (v1 v2 v3 : V), x = .ref a ∧ SqT K F a [v1, v2, v3] ∧ Dp K F v1 d1 ∧ Dp K F v2 d2 ∧ Dp K F v3 d3 := by
  obtain ⟨a, vs, rfl, hs, h0⟩ := dp_tup h
  obtain ⟨v1, us, rfl, h1, h0⟩ := dpa_cons h0
  obtain ⟨v2, us, rfl, h2, h0⟩ := dpa_cons h0
  obtain ⟨v3, us, rfl, h3, h0⟩ := dpa_cons h0
  cases dpa_nil h0
  exact ⟨a, v1, v2, v3, rfl, hs, h1, h2, h3⟩
theorem dp_tup4 {d1 d2 d3 d4 : PyData} (h : Dp K F x (.tuple [d1, d2, d3, d4])) : ∃ (a : Addr) (v1 v2 v3 v4 : V), x = .ref a ∧ SqT K F a [v1, v2, v3, v4] ∧ Dp K F v1 d1 ∧ Dp K F v2 d2 ∧ Dp K F v3 d3 ∧ Dp K F v4 d4 := by
  obtain ⟨a, vs, rfl, hs, h0⟩ := dp_tup h
  obtain ⟨v1, us, rfl, h1, h0⟩ := dpa_cons h0
  obtain ⟨v2, us, rfl, h2, h0⟩ := dpa_cons h0
  obtain ⟨v3, us, rfl, h3, h0⟩ := dpa_cons h0
  obtain ⟨v4, us, rfl, h4, h0⟩ := dpa_cons h0
  cases dpa_nil h0
  exact ⟨a, v1, v2, v3, v4, rfl, hs, h1, h2, h3, h4⟩
end
/-! ### texts -/
/-- a text of plain signs -/
def okS (z : Str) : Prop := PyData.strOk z = true
instance (z : Str) : Decidable (okS z) := inferInstanceAs (Decidable (PyData.strOk z = true))
theorem ok_cat {a b : Str} (h : okS a) (h' : okS b) : okS (a ++ b) := by
  have e : (a ++ b).cps.toList = a.cps.toList ++ b.cps.toList := TL.tl_append a b
  have h1 : a.cps.all (· < 0x110000) = true := h
  have h2 : b.cps.all (· < 0x110000) = true := h'
  show (a ++ b).cps.all (· < 0x110000) = true
  rw [← Array.all_toList] at h1 h2 ⊢
  rw [e, List.all_append, h1, h2]
  rfl
theorem joined (ys : List Str) (h : ∀ y ∈ ys, y.length = 1 ∧ okS y) : (Txt.join ⟨#[]⟩ ys).length = ys.length ∧ okS (Txt.join ⟨#[]⟩ ys) := by
  have e : TL.tl (Txt.join ⟨#[]⟩ ys) = (ys.map TL.tl).flatten := by
    rw [TL.join_eq, TL.tl_join]
    have key : ∀ l : List (List Nat), TL.joinL [] l = l.flatten := by
      intro l
      induction l with
      | nil => rfl
      | cons p r ih =>
        cases r with
        | nil => simp [TL.joinL]
        | cons q r =>
          show p ++ ([] ++ TL.joinL [] (q :: r)) = _
          rw [ih, List.nil_append]
          rfl
    exact key _
  have hl : ∀ z : Str, z.length = (TL.tl z).length := fun z => by simp [TL.tl, Str.length]
  constructor
  · rw [hl, e]
    clear e
    induction ys with
    | nil => rfl
    | cons y r ih =>
      rw [List.map_cons, List.flatten_cons, List.length_append, ih fun z hz => h z (List.mem_cons_of_mem _ hz), ← hl, (h y (List.mem_cons_self ..)).1, List.length_cons]
      omega
  · show (Txt.join ⟨#[]⟩ ys).cps.all (· < 0x110000) = true
    rw [← Array.all_toList]
    show (TL.tl (Txt.join ⟨#[]⟩ ys)).all _ = true
    rw [e, List.all_eq_true]
    intro c hc
    obtain ⟨l, hl1, hc⟩ := List.mem_flatten.mp hc
    obtain ⟨y, hy, rfl⟩ := List.mem_map.mp hl1
    have h2 : y.cps.all (· < 0x110000) = true := (h y hy).2
    rw [← Array.all_toList, List.all_eq_true] at h2
    exact h2 c hc
theorem sum_ones : ∀ (ys : List Str), (∀ y ∈ ys, y.length = 1 ∧ okS y) → (ys.map (·.length)).sum = ys.length
  | [], _ => rfl
  | y :: r, h => by
    rw [List.map_cons, List.sum_cons, sum_ones r fun z hz => h z (List.mem_cons_of_mem _ hz), (h y (List.mem_cons_self ..)).1, List.length_cons]
    omega
theorem at_of' {α : Type} {xs : List α} {z : Int} {j : Nat} {v : α} (e : z = (j : Int)) (h : xs[j]? = some v) : atI xs z = some v := by
  rw [e]
  exact atI_nat h
theorem sign_at {z : Str} {r : Int} (ok : okS z) (h0 : 0 ≤ r) (h1 : r < (z.length : Nat)) : ∃ c : Nat, atI z.cps.toList r = some c ∧ okS ⟨#[c]⟩ := by
  have hi : r.toNat < z.cps.toList.length := by
    have : z.cps.toList.length = z.length := by simp [Str.length]
    omega
  refine ⟨z.cps.toList[r.toNat], at_of' (by omega) (List.getElem?_eq_getElem hi), ?_⟩
  have h2 : z.cps.all (· < 0x110000) = true := ok
  rw [← Array.all_toList, List.all_eq_true] at h2
  have h3 := h2 _ (List.getElem_mem hi)
  show (#[z.cps.toList[r.toNat]] : Array Nat).all (· < 0x110000) = true
  simpa using h3
theorem sign_get {z : Str} {k : Nat} (h1 : k < z.length) : atI z.cps.toList (k : Int) = some (z.cps.toList.getD k 0) := by
  have hi : k < z.cps.toList.length := by
    have : z.cps.toList.length = z.length := by simp [Str.length]
    omega
  refine atI_nat ?_
  rw [List.getD_eq_getElem?_getD, List.getElem?_eq_getElem hi]
  rfl
theorem ok_sign {z : Str} {k : Nat} (ok : okS z) (h1 : k < z.length) : okS ⟨#[z.cps.toList.getD k 0]⟩ := by
  have hi : k < z.cps.toList.length := by
    have : z.cps.toList.length = z.length := by simp [Str.length]
    omega
  have h2 : z.cps.all (· < 0x110000) = true := ok
  rw [← Array.all_toList, List.all_eq_true] at h2
  have h3 := h2 _ (List.getElem_mem hi)
  rw [List.getD_eq_getElem?_getD, List.getElem?_eq_getElem hi]
  show (#[z.cps.toList[k]] : Array Nat).all (· < 0x110000) = true
  simpa using h3
/-! ### rows of a plan -/
inductive Wd where | copy | keep | lay
  deriving DecidableEq
def Wd.s : Wd → Str
  | .copy => "copy" | .keep => "keep" | .lay => "lay"
inductive PRow where
  | put (to : Int) (s : Str)
  | mv (w : Wd) (to at_ n : Int)
def PRow.d : PRow → PyData
  | .put to s => .tuple [.str "put", .int to, .str s]
  | .mv w to a n => .tuple [.str w.s, .int to, .int a, .int n]
def PRow.size : PRow → Nat
  | .put _ s => s.length
  | .mv _ _ _ n => n.toNat
def PRow.ok : PRow → Prop
  | .put _ s => okS s ∧ s.length ≤ 5000
  | .mv _ _ _ n => 0 ≤ n ∧ n ≤ 5000
def wr (a : Str) (i : Int) (b : Str) (x : PyData) : PyData := .tuple [.str a, .int i, .str b, x]
def Wd.cell (w : Wd) : Str := if w = .keep then "slot" else "cell"
def Wd.src (w : Wd) : Str := if w = .lay then "slot" else "cell"
def PRow.steps (w : Wd) (to a n : Int) : List Nat := if w = .copy ∧ a < to then (List.range n.toNat).reverse else List.range n.toNat
def PRow.writes : PRow → List PyData
  | .put to s => (List.range s.length).map fun (k : Nat) => wr "cell" (to + k) "sign" (.str ⟨#[s.cps.toList.getD k 0]⟩)
  | .mv w to a n => (PRow.steps w to a n).map fun (k : Nat) => wr w.cell (to + k) w.src (.int (a + k))
theorem PRow.steps_len (w : Wd) (to a n : Int) : (PRow.steps w to a n).length = n.toNat := by
  unfold PRow.steps
  split
  · rw [List.length_reverse, List.length_range]
  · rw [List.length_range]
theorem PRow.writes_len (r : PRow) : r.writes.length = r.size := by
  cases r with
  | put to s => simp [PRow.writes, PRow.size]
  | mv w to a n => simp [PRow.writes, PRow.size, PRow.steps_len]
section
variable {K : PySem.W.Frag} {F : Hp} {x : V}
theorem dp_put {to : Int} {s : Str} (h : Dp K F x (PRow.put to s).d) : ∃ a, x = .ref a ∧ SqT K F a [.str "put", .int to, .str s] := by
  obtain ⟨a, v1, v2, v3, rfl, hs, h1, h2, h3⟩ := dp_tup3 h
  rw [dp_str h1, dp_int h2, dp_str h3] at hs
  exact ⟨a, rfl, hs⟩
theorem dp_mv {w : Wd} {to a n : Int} (h : Dp K F x (PRow.mv w to a n).d) : ∃ p, x = .ref p ∧ SqT K F p [.str w.s, .int to, .int a, .int n] := by
  obtain ⟨p, v1, v2, v3, v4, rfl, hs, h1, h2, h3, h4⟩ := dp_tup4 h
  rw [dp_str h1, dp_int h2, dp_int h3, dp_int h4] at hs
  exact ⟨p, rfl, hs⟩
end
/-- a new list of these data -/
structure NewL (K : PySem.W.Frag) (H F2 H2 : Hp) (a : Addr) (ds : List PyData) : Prop where
  nw : H a = none
  ex : ∃ vs, Mu F2 H2 a (.lst vs) ∧ DpAll K F2 vs ds
def φrow_writes (K : PySem.W.Frag) : V → Hp → VK → Prop := fun x H Q => ∃ (F : Hp) (r : PRow), Same F H ∧ Dp K F x r.d ∧ r.ok ∧
  ∀ (a : Addr) (F2 H2 : Hp), Gr [] F H F2 H2 → NewL K H F2 H2 a r.writes → Q (.ref a) H2
def φwrites (K : PySem.W.Frag) : V → Hp → VK → Prop := fun x H Q => ∃ (F : Hp) (rs : List PRow), Same F H ∧ Dp K F x (.list (rs.map PRow.d)) ∧ (∀ r ∈ rs, r.ok) ∧ (rs.map PRow.size).sum ≤ 50000 ∧
  ∀ (a : Addr) (F2 H2 : Hp), Gr [] F H F2 H2 → NewL K H F2 H2 a (rs.flatMap PRow.writes) → Q (.ref a) H2
/-! ### the law's makers -/
def φsign (K : PySem.W.Frag) : V → V → Hp → VK → Prop := fun x y H Q => ∃ (b : Addr) (f : Bool) (F : Hp), x = .ref b ∧ y = .bl f ∧ Same F H ∧ Bag K F H b ∧
  ∀ (s : Str) (F2 H2 : Hp), Gr [b] F H F2 H2 → Bag K F2 H2 b → s.length = 1 → okS s → Q (.str s) H2
def φtext (K : PySem.W.Frag) : V → V → V → Hp → VK → Prop := fun x y z H Q => ∃ (b : Addr) (f : Bool) (n : Int) (F : Hp), x = .ref b ∧ y = .bl f ∧ z = .int n ∧ Same F H ∧ Bag K F H b ∧ 0 ≤ n ∧ n ≤ 5000 ∧
  ∀ (s : Str) (F2 H2 : Hp), Gr [b] F H F2 H2 → Bag K F2 H2 b → (s.length : Int) = n → okS s → Q (.str s) H2
theorem w_ixL1 {z : Str} {r : Int} {n : Int} {H : Hp} {Q : VK} (ok : okS z) (hn : (z.length : Int) = n) (hs : z.length ≤ 1000) (r0 : 0 ≤ r) (r1 : r < n) (q : ∀ s : Str, s.length = 1 → okS s → Q (.str s) H) : rIxS (.str z) (.int r) H Q := by
  obtain ⟨c, ec, oc⟩ := sign_at (z := z) ok r0 (by rw [hn]; exact r1)
  exact w_ixS (le1000 hs) ec (q _ rfl oc)
/-- a list of truths of this length, that may change -/
def Hs (F H : Hp) (t : Addr) (n : Nat) : Prop := ∃ bs : List Bool, bs.length = n ∧ Mu F H t (.lst (bs.map V.bl))
theorem Hs.keep {M : List Addr} {F H F2 H2 : Hp} {t : Addr} {n : Nat} (g : Gr M F H F2 H2) (h : Hs F H t n) (ht : t ∉ M) : Hs F2 H2 t n := by
  obtain ⟨bs, l, m⟩ := h
  exact ⟨bs, l, g.mu m ht⟩
theorem Hs.addm {F H : Hp} {t p : Addr} {n : Nat} {u : HO} (h : Hs F H t n) (hp : H p = none) : Hs F (upd H p u) t n := by
  obtain ⟨bs, l, m⟩ := h
  exact ⟨bs, l, m.addm hp⟩
theorem Hs.add {F H : Hp} {t p : Addr} {n : Nat} {u : HO} (h : Hs F H t n) (hp : H p = none) : Hs (upd F p u) (upd H p u) t n := by
  obtain ⟨bs, l, m⟩ := h
  exact ⟨bs, l, m.add hp⟩
theorem Hs.ne_new {F H : Hp} {t q : Addr} {n : Nat} (h : Hs F H t n) (hq : H q = none) : t ≠ q := by
  obtain ⟨_, _, m⟩ := h
  exact m.ne_new hq
theorem Hs.put {F H : Hp} {t q : Addr} {n : Nat} {u : HO} (h : Hs F H t n) (hq : t ≠ q) : Hs F (upd H q u) t n := by
  obtain ⟨bs, l, m⟩ := h
  exact ⟨bs, l, m.oth hq⟩
theorem Hs.set {F H : Hp} {t p : Addr} {n : Nat} {cs : List Bool} (h : Hs F H t n) (hp : t = p → cs.length = n) (m : Mu F H p (.lst (cs.map V.bl))) {j : Nat} : Hs F (upd H p (.lst ((cs.map V.bl).set j (V.bl true)))) t n := by
  by_cases e : t = p
  · subst e
    refine ⟨cs.set j true, by rw [List.length_set]; exact hp rfl, ?_⟩
    rw [List.map_set]
    exact m.wr
  · obtain ⟨bs, l, m'⟩ := h
    exact ⟨bs, l, m'.oth e⟩
theorem ixN_in {n : Nat} {i : Int} (h0 : 0 ≤ i) (h1 : i < (n : Int)) : ixN n i = some i.toNat := by
  unfold ixN
  rw [if_pos h0, if_pos h1]
theorem u_emp {K : PySem.W.Frag} {H : Hp} {a p : Addr} {bs : List Bool} {Q : VK} (ha : SqL K H a (bs.map V.bl)) (hp : SqL K H p []) (hl : bs.length ≤ 1000) (q : Q (.bl (decide (bs.length = 0))) H) : rEqD K (.ref a) (.ref p) H Q := by
  have key : ∀ bs : List Bool, DpAll K H (bs.map V.bl) (bs.map PyData.bool) := by
    intro bs
    induction bs with
    | nil => exact .nil
    | cons b bs ih => exact .cons (.bl b) ih
  refine ⟨.list (bs.map PyData.bool), .list [], .lst ha (key bs), .lst hp .nil, ?_, ?_, ?_⟩
  · refine good_shaped (good_list (by rw [List.length_map]; omega) fun d hd => ?_) (Nat.le_trans (depth_list (n := 0) fun d hd => ?_) (by decide))
    · obtain ⟨b, _, rfl⟩ := List.mem_map.mp hd
      rfl
    · obtain ⟨b, _, rfl⟩ := List.mem_map.mp hd
      exact Nat.le_refl _
  · exact good_shaped rfl (by decide)
  · have e : PyData.eqv (.list (bs.map PyData.bool)) (.list []) = decide (bs.length = 0) := by
      cases bs with
      | nil => rfl
      | cons b bs => rfl
    rw [e]
    exact q
def φany_row (K : PySem.W.Frag) : V → V → V → V → Hp → VK → Prop := fun x y z u H Q => ∃ (b hd t0 t1 : Addr) (n0 n1 : Nat) (f : Bool) (wd : Int) (F : Hp), x = .ref b ∧ y = .ref hd ∧ z = .bl f ∧ u = .int wd ∧ Same F H ∧ Bag K F H b ∧
  SqL K F hd [.ref t0, .ref t1] ∧ Hs F H t0 n0 ∧ Hs F H t1 n1 ∧ t0 ≠ t1 ∧ b ≠ t0 ∧ b ≠ t1 ∧ n0 ≤ 1000 ∧ n1 ≤ 1000 ∧ 0 ≤ wd ∧ wd ≤ 5000 ∧
  ∀ (v : V) (F2 H2 : Hp), Gr [b, t0, t1] F H F2 H2 → Bag K F2 H2 b → Hs F2 H2 t0 n0 → Hs F2 H2 t1 n1 → (v = .non ∨ ∃ r : PRow, Dp K F2 v r.d ∧ r.ok ∧ (r.size : Int) ≤ wd) → Q v H2
def φany_plan (K : PySem.W.Frag) : V → V → V → V → V → V → V → Hp → VK → Prop := fun x1 x2 x3 x4 x5 x6 x7 H Q => ∃ (b : Addr) (n big slots rows most : Int) (f : Bool) (F : Hp), x1 = .ref b ∧ x2 = .int n ∧ x3 = .int big ∧ x4 = .int slots ∧ x5 = .int rows ∧ x6 = .bl f ∧ x7 = .int most ∧ Same F H ∧ Bag K F H b ∧
  0 ≤ n ∧ n ≤ big ∧ big ≤ 400 ∧ 0 ≤ slots ∧ slots ≤ 400 ∧ 0 ≤ rows ∧ rows ≤ 1000 ∧ 0 ≤ most ∧ most ≤ 5000 ∧
  ∀ (a : Addr) (rs : List PRow) (F2 H2 : Hp), Gr [b] F H F2 H2 → Bag K F2 H2 b → NewL K H F2 H2 a (rs.map PRow.d) → (∀ r ∈ rs, r.ok) → (rs.map PRow.size).sum ≤ 6000 → rs.length ≤ 2000 → Q (.ref a) H2
/-- four numbers: n, big, slots, rows -/
def φshape (K : PySem.W.Frag) : V → Hp → VK → Prop := fun x H Q => ∃ (b : Addr) (F : Hp), x = .ref b ∧ Same F H ∧ Bag K F H b ∧
  ∀ (t : Addr) (n big slots rows : Int) (F2 H2 : Hp), Gr [b] F H F2 H2 → Bag K F2 H2 b → F2 t = some (.tup [.int n, .int big, .int slots, .int rows]) → 0 ≤ n → n ≤ big → big ≤ 400 → 0 ≤ slots → slots ≤ 400 → 0 ≤ rows → rows ≤ 1000 → Q (.ref t) H2
theorem size_snoc (rs : List PRow) (r : PRow) : ((rs ++ [r]).map PRow.size).sum = (rs.map PRow.size).sum + r.size := by
  rw [List.map_append, List.sum_append]
  rfl
theorem ok_snoc {rs : List PRow} {r : PRow} (h : ∀ x ∈ rs, x.ok) (hr : r.ok) : ∀ x ∈ rs ++ [r], x.ok := by
  intro x hx
  rcases List.mem_append.mp hx with h1 | h1
  · exact h x h1
  · rw [List.mem_singleton.mp h1]
    exact hr
theorem row_at {K : PySem.W.Frag} {F : Hp} {us : List V} {rs : List PRow} {i : Nat} {x : V} (h : DpAll K F us (rs.map PRow.d)) (hx : us[i]? = some x) : ∃ r, rs[i]? = some r ∧ Dp K F x r.d := by
  have hl := dpa_len h
  have hi := (List.getElem?_eq_some_iff.mp hx).1
  rw [List.length_map] at hl
  have hr : rs[i]? = some rs[i] := List.getElem?_eq_getElem (by omega)
  obtain ⟨v, hv, dv⟩ := dpa_get (i := i) (d := rs[i].d) h (by rw [List.getElem?_map, hr]; rfl)
  rw [hx] at hv
  rw [Option.some.inj hv]
  exact ⟨_, hr, dv⟩
theorem flat_len : ∀ (rs : List PRow) (i : Nat), ((rs.take i).flatMap PRow.writes).length ≤ (rs.map PRow.size).sum
  | [], i => by simp
  | r :: rs, 0 => by simp
  | r :: rs, i + 1 => by
    rw [List.take_succ_cons, List.flatMap_cons, List.length_append, PRow.writes_len, List.map_cons, List.sum_cons]
    exact Nat.add_le_add_left (flat_len rs i) _
theorem flat_take {rs : List PRow} {i : Nat} {r : PRow} (h : rs[i]? = some r) : (rs.take (i + 1)).flatMap PRow.writes = (rs.take i).flatMap PRow.writes ++ r.writes := by
  rw [List.take_add_one, h, List.flatMap_append]
  simp
theorem rev_get {n i : Nat} (h : i < n) : (List.range n).reverse[i]? = some (n - 1 - i) := by
  rw [List.getElem?_reverse (by rw [List.length_range]; exact h), List.length_range, List.getElem?_range (by omega)]
theorem wr_good {a b : Str} {i : Int} {x : PyData} (ha : okS a ∧ a.length ≤ 100) (hb : okS b ∧ b.length ≤ 100) (hx : good x = true) : good (wr a i b x) = true := by
  refine good_tuple (by simp) fun d hd => ?_
  simp only [List.mem_cons, List.not_mem_nil, or_false] at hd
  rcases hd with rfl | rfl | rfl | rfl
  · rw [good, ha.1, decide_eq_true (show a.length ≤ 100000 by omega)]
    rfl
  · rfl
  · rw [good, hb.1, decide_eq_true (show b.length ≤ 100000 by omega)]
    rfl
  · exact hx
theorem wr_depth {a b : Str} {i : Int} {x : PyData} (hx : x.depth = 0) : (wr a i b x).depth ≤ 1 := by
  refine depth_tuple fun d hd => ?_
  simp only [List.mem_cons, List.not_mem_nil, or_false] at hd
  rcases hd with rfl | rfl | rfl | rfl
  · exact Nat.le_refl _
  · exact Nat.le_refl _
  · exact Nat.le_refl _
  · omega
theorem cell_ok : okS "cell" ∧ ("cell" : Str).length ≤ 100 := by decide +kernel
theorem slot_ok : okS "slot" ∧ ("slot" : Str).length ≤ 100 := by decide +kernel
theorem sign_ok : okS "sign" ∧ ("sign" : Str).length ≤ 100 := by decide +kernel
theorem str_good {z : Str} (h : okS z) (hl : z.length ≤ 100000) : good (.str z) = true := by
  rw [good, h, decide_eq_true hl]
  rfl
theorem writes_good {r : PRow} (h : r.ok) : ∀ d ∈ r.writes, good d = true ∧ d.depth ≤ 1 := by
  intro d hd
  cases r with
  | put to s =>
    obtain ⟨k, hk, rfl⟩ := List.mem_map.mp hd
    have hk2 := List.mem_range.mp hk
    exact ⟨wr_good cell_ok sign_ok (str_good (ok_sign h.1 hk2) (by show 1 ≤ 100000; decide)), wr_depth rfl⟩
  | mv w to a n =>
    obtain ⟨k, hk, rfl⟩ := List.mem_map.mp hd
    refine ⟨wr_good ?_ ?_ rfl, wr_depth rfl⟩
    · cases w <;> first | exact cell_ok | exact slot_ok
    · cases w <;> first | exact cell_ok | exact slot_ok
theorem row_good {r : PRow} (h : r.ok) : good r.d = true ∧ r.d.depth ≤ 1 := by
  cases r with
  | put to s =>
    constructor
    · refine good_tuple (by simp) fun d hd => ?_
      simp only [List.mem_cons, List.not_mem_nil, or_false] at hd
      rcases hd with rfl | rfl | rfl
      · decide +kernel
      · rfl
      · exact str_good h.1 (Nat.le_trans h.2 (by decide))
    · refine depth_tuple fun d hd => ?_
      simp only [List.mem_cons, List.not_mem_nil, or_false] at hd
      rcases hd with rfl | rfl | rfl <;> exact Nat.le_refl _
  | mv w to a n =>
    constructor
    · refine good_tuple (by simp) fun d hd => ?_
      simp only [List.mem_cons, List.not_mem_nil, or_false] at hd
      rcases hd with rfl | rfl | rfl | rfl
      · cases w <;> decide +kernel
      · rfl
      · rfl
      · rfl
    · refine depth_tuple fun d hd => ?_
      simp only [List.mem_cons, List.not_mem_nil, or_false] at hd
      rcases hd with rfl | rfl | rfl | rfl <;> exact Nat.le_refl _
theorem all_good {rs : List PRow} (h : ∀ r ∈ rs, r.ok) (hl : rs.length ≤ 100000) : good (.list (rs.map PRow.d)) = true ∧ (PyData.list (rs.map PRow.d)).depth ≤ 2 := by
  constructor
  · refine good_list (by rw [List.length_map]; exact hl) fun d hd => ?_
    obtain ⟨r, hr, rfl⟩ := List.mem_map.mp hd
    exact (row_good (h r hr)).1
  · refine depth_list fun d hd => ?_
    obtain ⟨r, hr, rfl⟩ := List.mem_map.mp hd
    exact (row_good (h r hr)).2
theorem all_wgood {rs : List PRow} (h : ∀ r ∈ rs, r.ok) (hl : (rs.map PRow.size).sum ≤ 100000) : good (.list (rs.flatMap PRow.writes)) = true ∧ (PyData.list (rs.flatMap PRow.writes)).depth ≤ 2 := by
  constructor
  · refine good_list ?_ fun d hd => ?_
    · have := flat_len rs rs.length
      rw [List.take_length] at this
      omega
    · obtain ⟨r, hr, hd⟩ := List.mem_flatMap.mp hd
      exact (writes_good (h r hr) d hd).1
  · refine depth_list fun d hd => ?_
    obtain ⟨r, hr, hd⟩ := List.mem_flatMap.mp hd
    exact (writes_good (h r hr) d hd).2
def φlaw (K : PySem.W.Frag) : V → Hp → VK → Prop := fun x H Q => ∃ (a : Addr) (ns : List Int), x = .ref a ∧ SqL K H a (ns.map V.int) ∧ ns.length ≤ 63 ∧ ∀ H', Q (.bl true) H'
theorem law_start {K : PySem.W.Frag} {H : Hp} (a : Addr) (ns : List Int) (hl : ns.length ≤ 63) (hO : Only H) (hS : SqL K H a (ns.map V.int)) : (S1 (φlaw K)) [.ref a] H (fun v _ => v = .bl true) fun _ _ _ => False := ⟨a, ns, rfl, hS, hl, fun _ => rfl⟩
end R

namespace R
open PySem PySem.Spec PyProof.Rows L2
section
variable {X : Cx} {pins : List (Addr × Obj)} {σ : L2.St} {H : Hp} {s : Shared} {a b : Addr} {A : Around} {E : Value → Shared → Prop}
theorem d_setdT {kvs : List (List Key × V)} {k : List Key} {d : V} {r : Value} {Q : Value → Shared → Prop} (hu : A.units + 1 < cLine) (I : Inv X pins σ H s) (e : H a = some (.dT kvs)) (eb : H b = some (.tup (k.map kV))) (rd : RelV d r) (hl : kvs.length < sizeLine)
    (h1 : ∀ v, valV kvs k = some v → ∀ w' s', Inv X pins σ H s' → RelV v w' → Q w' s') (h2 : valV kvs k = none → ∀ w' s', Inv X pins σ (upd H a (.dT (putK kvs k d))) s' → RelV d w' → Q w' s') :
    wpAny (model X.prog X.w) A (call (.builtin "dict.setdefault") [.ref a, .ref b, r]) Q E s := by
  obtain ⟨z, hd, xs, rel, dd⟩ := dt_of I.hok e
  have hz : xs.length ≤ sizeLine := by rw [← Paired.length rel]; exact z
  have hl2 : (putK kvs k d).length ≤ sizeLine := by have := length_putK kvs k d; omega
  refine PySem.call_setdefault_heap (hsz := hz) (tupleKind_room_in1 hu) (key_of I.hok eb) hd dd (fun p hp => ?_) fun hn h' dd' hs => ?_
  · have q := rel.val k
    rw [hp] at q
    cases q0 : valV kvs k with
    | none =>
      rw [q0] at q
      exact (show False from q).elim
    | some v0 =>
      rw [q0] at q
      exact h1 v0 q0 _ _ (I.tok _) q
  · have q := rel.val k
    rw [hn] at q
    cases q0 : valV kvs k with
    | some v0 =>
      rw [q0] at q
      exact (show False from q).elim
    | none =>
      obtain ⟨q1, es, ep, hq, h2', h3, h4, h5', h5⟩ := dd'
      refine h2 q0 _ _ (d_write I (by rw [e]; exact True.intro) hs ⟨q1, hq⟩ ⟨hl2, hd, _, (rel.put k eb rd).keeps fun c ys ec => ?_, q1, es, ep, hq, h2', h3, h4, h5⟩) rd
      rw [upd_ne (ne_of ec e (fun z => nomatch z))]
      exact ec
end
/-- d.setdefault(t, z), t a tuple -/
def tDSetT (td ty tx : TE) : TE := fun σ H Q => td σ H fun x H1 => ∃ a, x = .ref a ∧ IsD H1 a ∧ ty σ H1 fun y H2 => tx σ H2 fun z H3 => ∃ (b : Addr) (kvs : List (List Key × V)) (k : List Key), H3 a = some (.dT kvs) ∧ y = .ref b ∧ H3 b = some (.tup (k.map kV)) ∧ kvs.length < sizeLine ∧
  (∀ v, valV kvs k = some v → Q v H3) ∧ (valV kvs k = none → Q z (upd H3 a (.dT (putK kvs k z))))
section
variable {X : Cx} {o e f : Expr} {td ty tx : TE} {apos cpos : Pos}
theorem pe_dsetT (hu : X.A.units + 1 < cLine) (ho : PE X o td) (he : PE X e ty) (hf : PE X f tx) (m : M2 X o "setdefault" apos e f cpos) : PE X (.Call (.Attribute o "setdefault" apos) [e, f] [] cpos) (tDSetT td ty tx) := by
  refine ⟨fun pins s σ H Q I h => ?_⟩
  refine wpAny_Call_method m.base m.few m.line PySem.F.plainAttrs_dict PySem.F.slot_dict_setdefault PySem.F.type_dict_setdefault (thn (ho.run pins s σ H _ I h) fun u s1 ⟨x, H1, I1, rx, a, ex, d, q1⟩ => ?_)
  subst ex
  obtain rfl : u = Value.ref a := rx
  obtain ⟨t1, t2, _⟩ := isD_at I1 d
  refine ⟨t1, t2, ?_⟩
  rw [m.trees]
  refine Calls.callWith_builtin rfl (Calls.evalArgs_plain (Calls.spliced_cons (thn (he.run pins s1 σ H1 _ I1 q1) fun iv s2 ⟨y, H2, I2, ry, q2⟩ =>
    Calls.spliced_cons (thn (hf.run pins s2 σ H2 _ I2 q2) fun fv s3 ⟨z, H3, I3, rz, b, kvs, k, ea, ey, eb, hl, q3, q4⟩ => Calls.spliced_nil ?_))))
  subst ey
  obtain rfl : iv = Value.ref b := ry
  exact d_setdT hu I3 ea eb rz hl (fun v hv w' s4 I4 rw' => ⟨v, _, I4, rw', q3 v hv⟩) fun hn w' s4 I4 rw' => ⟨z, _, I4, rw', q4 hn⟩
end
section
variable {X : Cx}
/-- sorted(d) of a dict of int keys, any number of them -/
def rSortD : List V → Hp → VK → Prop := fun xs H Q => ∃ (a : Addr) (kvs : List (Key × V)) (ks : List Int), xs = [.ref a] ∧ Rd H a (.dK kvs) ∧ kvs.map (·.1) = ks.map Sum.inl ∧
    ∀ (ys : List Int) (p : Addr), ys.Perm ks → ys.Pairwise (· ≤ ·) → H p = none → Q (.ref p) (upd H p (.lst (ys.map V.int)))
theorem clSortD (hcalm : X.calm = true := by rfl) : CallR X (.builtin "sorted") rSortD := by
  intro pins s σ H xs us Q I r q
  obtain ⟨a, kvs, ks, ex, hd, hks, q⟩ := q
  subst ex
  obtain ⟨u, eu, rx⟩ := vals1 r
  subst eu
  cases rx
  obtain ⟨z, lo, vs, rel, dd⟩ := dk_rd I.hok hd
  obtain ⟨ep, hat⟩ := dd.dictAt
  have hkeys : vs.map (·.1) = ks.map Sum.inl := rel.keys.symm.trans hks
  have hl : vs.length = ks.length := by
    have e := congrArg List.length hkeys
    rw [List.length_map, List.length_map] at e
    exact e
  have h16 : vs.length ≤ sizeLine := by rw [← rel.length]; exact z
  refine Calls.call_function_entry PyProof.Rows.kind_sorted PyProof.Rows.plain_sorted PyProof.Rows.entry_sorted (PyProof.Rows.args_sorted1 _) ?_
  unfold Builtin.«sorted»
  refine wpAny_bind (m := checkCount "sorted" 1 1 _) (wpAny_pure ?_)
  refine wpAny_bind (PySem.W.kdu_collect (A := X.A.in1) (PySem.W.kdl_dict (knd := mixKind X.prog X.w) (kvs := vs) (ep := ep) lo) (I.ok.hd hcalm) hat h16 fun h' tk acc hk hacc => ?_)
  have hal : acc.toList.length = ks.length := by rw [Array.length_toList, hacc.1, hl]
  have hS : IntsAre acc.toList ks := ints_each hal fun j v e => by
    obtain ⟨k, x, e1, e2⟩ := hacc.2 j v (by rw [← Array.getElem?_toList]; exact e)
    have e3 : (vs.map (·.1))[j]? = some k := by rw [List.getElem?_map, e1]; rfl
    rw [hkeys, List.getElem?_map] at e3
    cases e4 : ks[j]? with
    | none => rw [e4] at e3; cases e3
    | some y =>
      rw [e4] at e3
      have e5 : Sum.inl y = k := Option.some.inj e3
      subst e5
      rcases keyIs_shape (show keyIs (Sum.inl y) v = true from e2) with ⟨i, t, ek, ev⟩ | ⟨z, t, ek, ev⟩
      · cases ek
        exact ⟨y, t, rfl, ev⟩
      · cases ek
  have I1 : Inv X pins σ H { s with heap := h', toks := tk } := I.kept hk
  have hz2 : acc.toList.length ≤ sizeLine := by rw [hal, ← hl]; exact h16
  refine wpAny_bind (wpAny_newList ?_ hz2)
  have hoL : (h'.push (seqObj "list" acc.toList.toArray 0)).get? h'.objs.size = some (seqObj "list" acc.toList.toArray 0) := Heap.get?_push_size _ rfl
  show wpAny _ _ _ _ _ { s with heap := h'.push (seqObj "list" acc.toList.toArray 0), toks := tk }
  refine wpAny_bind (wpAny_holding (wpAny_call_entry PyProof.Rows.slot_list_sort ⟨_, hoL, rfl⟩ PyProof.Rows.entry_list_sort
    (SrtO.list_sort_ord (s := { s with heap := h'.push (seqObj "list" acc.toList.toArray 0), toks := tk }) SrtO.swo_int hoL hz2 (fun h2 => SrtO.ints_sortable hS h2) fun out h1 h2 => ⟨_, rfl, ?_⟩) (PyProof.Rows.args_list_sort _)))
  obtain ⟨k1, k2, k3⟩ := SrtO.ints_out hS h1 h2
  obtain ⟨e', he'⟩ := PyProof.Rows.sortedHeap_at (vs := acc.toList) (out := out.toArray) hoL
  have hlen : ((out.map SrtO.iv).map V.int).length ≤ sizeLine := by
    rw [List.length_map, k2.length_eq, ← hl]
    exact h16
  refine wpAny_pure ⟨_, rfl, .ref h'.objs.size, upd H h'.objs.size (.lst ((out.map SrtO.iv).map V.int)), I1.laid (t' := tk) (fun b u e => ?_) (Nat.le_refl _)
    (show ObjOk X.prog X.w _ _ _ (.lst ((out.map SrtO.iv).map V.int)) from ⟨hlen, out, e', vals_of_ints k1, he'⟩), rfl, q _ _ k2 k3 (I1.hok.fresh (Nat.le_refl _))⟩
  have hb : b < h'.objs.size := Heap.lt_size e
  rw [PyProof.Rows.sortedHeap_old (Nat.ne_of_lt hb) (by rw [size_push']; exact Nat.lt_succ_of_lt hb)]
  exact Heap.get?_push_of_some _ e
end
end R

namespace R
open PySem L2
/-! ### dicts in a reading -/
def gDGet (x y : V) (H : Hp) (Q : VK) : Prop := ∃ a v, x = .ref a ∧ DGet H a y (some v) ∧ Q v H
def gDIn (x y : V) (H : Hp) (Q : VK) : Prop := ∃ a o, x = .ref a ∧ DGet H a y o ∧ Q (.bl o.isSome) H
def gDNotIn (x y : V) (H : Hp) (Q : VK) : Prop := ∃ a o, x = .ref a ∧ DGet H a y o ∧ Q (.bl (!o.isSome)) H
def gDPut (x y v : V) (H : Hp) (Z : Hp → Prop) : Prop := ∃ a H4, x = .ref a ∧ DPut H a y v H4 ∧ Z H4
section
variable {K : PySem.W.Frag} {σ : L2.St} {H : Hp} {Q : VK} {td ty tv tx te : TE} {x y v : V} {nx bk ct : L2.St → Hp → Prop} {rt : VK} {D p : Addr} {kvs : List (List Key × V)} {ks : List Key}
theorem w_dnewT (q : ∀ p, H p = none → Q (.ref p) (upd H p (.dT []))) : tDNewT σ H Q := q
theorem w_dnewK (q : ∀ p, H p = none → Q (.ref p) (upd H p (.dK []))) : tDNewK σ H Q := q
theorem w_dget (q : td σ H fun x H1 => ty σ H1 fun y H2 => gDGet x y H2 Q) : tDGet td ty σ H Q := q
theorem w_din (q : ty σ H fun y H1 => td σ H1 fun x H2 => gDIn x y H2 Q) : tDIn ty td σ H Q := q
theorem w_dnotin (q : ty σ H fun y H1 => td σ H1 fun x H2 => gDNotIn x y H2 Q) : tDNotIn ty td σ H Q := q
theorem w_dput (q : tv σ H fun v H1 => td σ H1 fun x H2 => ty σ H2 fun y H3 => gDPut x y v H3 fun H4 => nx σ H4) : sDPut td ty tv ⟨nx, rt, bk, ct⟩ σ H := q
theorem w_dsetT (q : td σ H fun x H1 => ∃ a, x = .ref a ∧ IsD H1 a ∧ ty σ H1 fun y H2 => tx σ H2 fun z H3 => ∃ (b : Addr) (kvs : List (List Key × V)) (k : List Key), H3 a = some (.dT kvs) ∧ y = .ref b ∧ H3 b = some (.tup (k.map kV)) ∧ kvs.length < sizeLine ∧
  (∀ v, valV kvs k = some v → Q v H3) ∧ (valV kvs k = none → Q z (upd H3 a (.dT (putK kvs k z))))) : tDSetT td ty tx σ H Q := q
theorem w_dgetT (h : H D = some (.dT kvs)) (hp : H p = some (.tup (ks.map kV))) (e : valV kvs ks = some v) (q : Q v H) : gDGet (.ref D) (.ref p) H Q := ⟨D, v, rfl, e ▸ DGet.t h hp, q⟩
theorem w_dinT (h : H D = some (.dT kvs)) (hp : H p = some (.tup (ks.map kV))) (e : valV kvs ks = some v) (q : Q (.bl true) H) : gDIn (.ref D) (.ref p) H Q := ⟨D, some v, rfl, e ▸ DGet.t h hp, q⟩
theorem w_dinF (h : H D = some (.dT kvs)) (hp : H p = some (.tup (ks.map kV))) (e : valV kvs ks = none) (q : Q (.bl false) H) : gDIn (.ref D) (.ref p) H Q := ⟨D, none, rfl, e ▸ DGet.t h hp, q⟩
theorem w_dnotinT (h : H D = some (.dT kvs)) (hp : H p = some (.tup (ks.map kV))) (e : valV kvs ks = some v) (q : Q (.bl false) H) : gDNotIn (.ref D) (.ref p) H Q := ⟨D, some v, rfl, e ▸ DGet.t h hp, q⟩
theorem w_dnotinF (h : H D = some (.dT kvs)) (hp : H p = some (.tup (ks.map kV))) (e : valV kvs ks = none) (q : Q (.bl true) H) : gDNotIn (.ref D) (.ref p) H Q := ⟨D, none, rfl, e ▸ DGet.t h hp, q⟩
theorem w_dputT {Z : Hp → Prop} (h : H D = some (.dT kvs)) (hp : H p = some (.tup (ks.map kV))) (hl : kvs.length < sizeLine) (q : Z (upd H D (.dT (putK kvs ks v)))) : gDPut (.ref D) (.ref p) v H Z := ⟨D, _, rfl, DPut.t h hp hl, q⟩
theorem w_dputI {Z : Hp → Prop} {kvs : List (Key × V)} {i : Int} (h : H D = some (.dK kvs)) (hl : kvs.length < sizeLine) (q : Z (upd H D (.dK (putK kvs (.inl i) v)))) : gDPut (.ref D) (.int i) v H Z := ⟨D, _, rfl, DPut.k (k := .inl i) h hl, q⟩
end
section
variable {X : Cx} {K : PySem.W.Frag}
theorem clSortI (h : X.K = K := by rfl) : CallR X (.builtin "sorted") (rSortedI K) := by subst h; exact cr_sortedI
end
theorem w_rg2 {σ : L2.St} {H : Hp} {ta tb : TE} {R : Int → Int → Hp → Prop} (q : ta σ H fun x H1 => tb σ H1 fun y H2 => ∃ i j, x = .int i ∧ y = .int j ∧ R i j H2) : tRg2 ta tb σ H R := q
/-! ### writes as acts -/
structure WAct where
  w : Str
  n : Int
  s : Str
  x : Key
def keyD : Key → PyData
  | .inl i => .int i
  | .inr z => .str z
def WAct.d (t : WAct) : PyData := .tuple [.str t.w, .int t.n, .str t.s, keyD t.x]
def WAct.wk (t : WAct) : List Key := [.inr t.w, .inl t.n]
def WAct.rk (t : WAct) : List Key := [.inr t.s, t.x]
def keyOk : Key → Prop
  | .inl _ => True
  | .inr z => okS z ∧ z.length ≤ 100
def WAct.ok (t : WAct) : Prop := (okS t.w ∧ t.w.length ≤ 100) ∧ (okS t.s ∧ t.s.length ≤ 100) ∧ keyOk t.x
theorem dp_key {K : PySem.W.Frag} {F : Hp} {x : V} {k : Key} (h : Dp K F x (keyD k)) : x = kV k := by
  cases k with
  | inl i => exact dp_int h
  | inr z => exact dp_str h
theorem key_dp {K : PySem.W.Frag} {F : Hp} (k : Key) : Dp K F (kV k) (keyD k) := by
  cases k with
  | inl i => exact .int i
  | inr z => exact .str z
theorem dp_act {K : PySem.W.Frag} {F : Hp} {x : V} {t : WAct} (h : Dp K F x t.d) : ∃ p, x = .ref p ∧ SqT K F p [.str t.w, .int t.n, .str t.s, kV t.x] := by
  obtain ⟨p, v1, v2, v3, v4, rfl, hs, h1, h2, h3, h4⟩ := dp_tup4 h
  rw [dp_str h1, dp_int h2, dp_str h3, dp_key h4] at hs
  exact ⟨p, rfl, hs⟩
theorem act_good {t : WAct} (h : t.ok) : good t.d = true ∧ t.d.depth ≤ 1 := by
  obtain ⟨⟨h1, h2⟩, ⟨h3, h4⟩, h5⟩ := h
  constructor
  · refine good_tuple (by simp) fun d hd => ?_
    simp only [List.mem_cons, List.not_mem_nil, or_false] at hd
    rcases hd with rfl | rfl | rfl | rfl
    · exact str_good h1 (by omega)
    · rfl
    · exact str_good h3 (by omega)
    · revert h5
      cases t.x with
      | inl i => intro _; rfl
      | inr z => intro h5; exact str_good h5.1 (Nat.le_trans h5.2 (by decide))
  · refine depth_tuple fun d hd => ?_
    simp only [List.mem_cons, List.not_mem_nil, or_false] at hd
    rcases hd with rfl | rfl | rfl | rfl
    · exact Nat.le_refl _
    · exact Nat.le_refl _
    · exact Nat.le_refl _
    · cases t.x <;> exact Nat.le_refl _
theorem acts_good {ts : List WAct} (h : ∀ t ∈ ts, t.ok) (hl : ts.length ≤ 100000) : good (.list (ts.map WAct.d)) = true ∧ (PyData.list (ts.map WAct.d)).depth ≤ 2 := by
  constructor
  · refine good_list (by rw [List.length_map]; exact hl) fun d hd => ?_
    obtain ⟨r, hr, rfl⟩ := List.mem_map.mp hd
    exact (act_good (h r hr)).1
  · refine depth_list fun d hd => ?_
    obtain ⟨r, hr, rfl⟩ := List.mem_map.mp hd
    exact (act_good (h r hr)).2
def natsD (ms : List Nat) : PyData := .list (ms.map fun k => .int (k : Nat))
theorem dpa_nV {K : PySem.W.Frag} {F : Hp} : ∀ ms : List Nat, DpAll K F (nV ms) (ms.map fun k => PyData.int (k : Nat))
  | [] => .nil
  | m :: ms => .cons (.int _) (dpa_nV ms)
theorem nats_good {ms : List Nat} (hl : ms.length ≤ 100000) : good (natsD ms) = true ∧ (natsD ms).depth ≤ 1 := by
  constructor
  · refine good_list (by rw [List.length_map]; exact hl) fun d hd => ?_
    obtain ⟨r, hr, rfl⟩ := List.mem_map.mp hd
    rfl
  · refine depth_list fun d hd => ?_
    obtain ⟨r, hr, rfl⟩ := List.mem_map.mp hd
    exact Nat.le_refl _
/-! ### the fault of a row of acts -/
def getN (kvs : List (List Key × Nat)) (k : List Key) : Option Nat := (kvs.find? fun kv => decide (kv.1 = k)).map (·.2)
def toV (kvs : List (List Key × Nat)) : List (List Key × V) := kvs.map fun p => (p.1, V.int (p.2 : Nat))
theorem valV_toV (k : List Key) : ∀ kvs : List (List Key × Nat), valV (toV kvs) k = (getN kvs k).map fun n => V.int (n : Nat)
  | [] => rfl
  | p :: r => by
    have ih := valV_toV k r
    by_cases e : p.1 = k
    · rw [show toV (p :: r) = (p.1, V.int (p.2 : Nat)) :: toV r from rfl, valV_pos (p := (p.1, V.int (p.2 : Nat))) e]
      simp [getN, List.find?_cons, e]
    · rw [show toV (p :: r) = (p.1, V.int (p.2 : Nat)) :: toV r from rfl, valV_neg (p := (p.1, V.int (p.2 : Nat))) e, ih]
      simp [getN, List.find?_cons, e]
theorem valV_some {kvs : List (List Key × Nat)} {k : List Key} {n : Nat} (e : getN kvs k = some n) : valV (toV kvs) k = some (.int (n : Nat)) := by rw [valV_toV, e]; rfl
theorem valV_none {kvs : List (List Key × Nat)} {k : List Key} (e : getN kvs k = none) : valV (toV kvs) k = none := by rw [valV_toV, e]; rfl
theorem put_toV {kvs : List (List Key × Nat)} {k : List Key} {j : Nat} (e : getN kvs k = none) : putK (toV kvs) k (.int (j : Nat)) = toV (kvs ++ [(k, j)]) := by
  rw [putK_new _ (valV_none e)]
  simp [toV]
theorem getN_mem {kvs : List (List Key × Nat)} {k : List Key} {n : Nat} (e : getN kvs k = some n) : ∃ p ∈ kvs, p.2 = n := by
  unfold getN at e
  cases h : kvs.find? fun kv => decide (kv.1 = k) with
  | none => rw [h] at e; cases e
  | some p =>
    rw [h] at e
    exact ⟨p, List.mem_of_find?_eq_some h, Option.some.inj e⟩
def stepN (kvs : List (List Key × Nat)) (t : WAct) (j : Nat) : List (List Key × Nat) := if t.s = "sign" then kvs else
  match getN kvs t.rk with
  | some _ => kvs
  | none => kvs ++ [(t.rk, j)]
theorem step_sign {kvs : List (List Key × Nat)} {t : WAct} {j : Nat} (h : t.s = "sign") : stepN kvs t j = kvs := by unfold stepN; rw [if_pos h]
theorem step_old {kvs : List (List Key × Nat)} {t : WAct} {j n : Nat} (h : ¬ t.s = "sign") (e : getN kvs t.rk = some n) : stepN kvs t j = kvs := by unfold stepN; rw [if_neg h, e]
theorem step_new {kvs : List (List Key × Nat)} {t : WAct} {j : Nat} (h : ¬ t.s = "sign") (e : getN kvs t.rk = none) : stepN kvs t j = kvs ++ [(t.rk, j)] := by unfold stepN; rw [if_neg h, e]
theorem step_mem {kvs : List (List Key × Nat)} {t : WAct} {j : Nat} {p : List Key × Nat} (h : p ∈ stepN kvs t j) : p ∈ kvs ∨ p.2 = j := by
  unfold stepN at h
  split at h
  · exact .inl h
  · split at h
    · exact .inl h
    · rcases List.mem_append.mp h with h | h
      · exact .inl h
      · rw [List.mem_singleton.mp h]
        exact .inr rfl
def faultGo : List WAct → List (List Key × Nat) → Nat → Option (Nat × Nat)
  | [], _, _ => none
  | t :: ts, kvs, j => match getN kvs t.wk with
    | some i => some (i, j)
    | none => faultGo ts (stepN kvs t j) (j + 1)
theorem go_hit {t : WAct} {ts : List WAct} {kvs : List (List Key × Nat)} {j i : Nat} (e : getN kvs t.wk = some i) : faultGo (t :: ts) kvs j = some (i, j) := by rw [faultGo, e]
theorem go_miss {t : WAct} {ts : List WAct} {kvs : List (List Key × Nat)} {j : Nat} (e : getN kvs t.wk = none) : faultGo (t :: ts) kvs j = faultGo ts (stepN kvs t j) (j + 1) := by rw [faultGo, e]
def stretch (acts : List WAct) (first last : Nat) : List WAct := (acts.drop first).take (last - first)
def faultFrom (acts : List WAct) (first last : Nat) : Option (Nat × Nat) := faultGo (stretch acts first last) [] first
def firstFault (acts : List WAct) : Nat → List Nat → Option (Nat × Nat)
  | _, [] => none
  | first, l :: ls => match faultFrom acts first l with
    | some p => some p
    | none => firstFault acts l ls
theorem first_hit {acts : List WAct} {first l : Nat} {ls : List Nat} {p : Nat × Nat} (e : faultFrom acts first l = some p) : firstFault acts first (l :: ls) = some p := by rw [firstFault, e]
theorem first_miss {acts : List WAct} {first l : Nat} {ls : List Nat} (e : faultFrom acts first l = none) : firstFault acts first (l :: ls) = firstFault acts l ls := by rw [firstFault, e]
theorem stretch_len (acts : List WAct) (first last : Nat) (hl : last ≤ acts.length) : (stretch acts first last).length = last - first := by
  unfold stretch
  rw [List.length_take, List.length_drop]
  omega
theorem stretch_at {acts : List WAct} {first last i : Nat} (h : i < last - first) (hl : last ≤ acts.length) : ∃ t, acts[first + i]? = some t ∧ (stretch acts first last).drop i = t :: (stretch acts first last).drop (i + 1) := by
  have h1 : i < (stretch acts first last).length := by rw [stretch_len _ _ _ hl]; exact h
  refine ⟨(stretch acts first last)[i], ?_, List.drop_eq_getElem_cons h1⟩
  have e : (stretch acts first last)[i]? = acts[first + i]? := by
    unfold stretch
    rw [List.getElem?_take_of_lt h, List.getElem?_drop]
  rw [← e]
  exact List.getElem?_eq_getElem h1
theorem go_range : ∀ (ts : List WAct) (kvs : List (List Key × Nat)) (j lo i b : Nat), lo ≤ j → (∀ p ∈ kvs, lo ≤ p.2 ∧ p.2 < j) → faultGo ts kvs j = some (i, b) → lo ≤ i ∧ i < b ∧ b < j + ts.length
  | [], _, _, _, _, _, _, _, e => by rw [faultGo] at e; cases e
  | t :: ts, kvs, j, lo, i, b, hlo, hk, e => by
    cases h : getN kvs t.wk with
    | some n =>
      rw [go_hit h] at e
      have e' := Option.some.inj e
      cases e'
      obtain ⟨p, hp, rfl⟩ := getN_mem h
      have := hk p hp
      rw [List.length_cons]
      exact ⟨this.1, this.2, by omega⟩
    | none =>
      rw [go_miss h] at e
      have := go_range ts (stepN kvs t j) (j + 1) lo i b (by omega) (fun p hp => by
        rcases step_mem hp with hp | hp
        · have := hk p hp
          omega
        · omega) e
      rw [List.length_cons]
      omega
theorem from_range {acts : List WAct} {first last i b : Nat} (hl : last ≤ acts.length) (e : faultFrom acts first last = some (i, b)) : first ≤ i ∧ i < b ∧ b < last := by
  have := go_range (stretch acts first last) [] first first i b (Nat.le_refl _) (fun p hp => by cases hp) e
  rw [stretch_len _ _ _ hl] at this
  omega
/-- a fault as a value -/
def ResV (F : Hp) (v : V) : Option (Nat × Nat) → Prop
  | none => v = .non
  | some (i, j) => ∃ p, v = .ref p ∧ F p = some (.tup [.int (i : Nat), .int (j : Nat)])
theorem ResV.same {F F2 : Hp} {v : V} {o : Option (Nat × Nat)} (h : ResV F v o) (w : Same F F2) : ResV F2 v o := by
  cases o with
  | none => exact h
  | some p =>
    obtain ⟨a, e1, e2⟩ := h
    exact ⟨a, e1, w _ _ e2⟩
def φfault (K : PySem.W.Frag) : V → V → V → Hp → VK → Prop := fun x y z H Q => ∃ (F : Hp) (acts : List WAct) (first last : Nat), y = .int (first : Nat) ∧ z = .int (last : Nat) ∧ Same F H ∧ Dp K F x (.list (acts.map WAct.d)) ∧ first ≤ acts.length ∧ last ≤ acts.length ∧ acts.length ≤ 100000 ∧
  ∀ (v : V) (F2 H2 : Hp), Gr [] F H F2 H2 → ResV F2 v (faultFrom acts first last) → Q v H2
def φmark (K : PySem.W.Frag) : V → V → Hp → VK → Prop := fun x y H Q => ∃ (F : Hp) (acts : List WAct) (m : Addr) (ms : List Nat), y = .ref m ∧ Same F H ∧ Dp K F x (.list (acts.map WAct.d)) ∧ F m = some (.lst (nV ms)) ∧ (∀ k ∈ ms, k ≤ acts.length) ∧ acts.length ≤ 100000 ∧ ms.length ≤ 100000 ∧
  ∀ (v : V) (F2 H2 : Hp), Gr [] F H F2 H2 → ResV F2 v (firstFault acts 0 (ms ++ [acts.length])) → Q v H2
theorem act_at {K : PySem.W.Frag} {F : Hp} {us : List V} {acts : List WAct} {i : Nat} {t : WAct} (h : DpAll K F us (acts.map WAct.d)) (e : acts[i]? = some t) : ∃ p, us[i]? = some (.ref p) ∧ SqT K F p [.str t.w, .int t.n, .str t.s, kV t.x] := by
  obtain ⟨v, gv, dv⟩ := dpa_get (i := i) (d := t.d) h (by rw [List.getElem?_map, e]; rfl)
  obtain ⟨p, rfl, hp⟩ := dp_act dv
  exact ⟨p, gv, hp⟩
/-! ### the law's makers -/
def φnumber (K : PySem.W.Frag) : V → V → V → Hp → VK → Prop := fun x y z H Q => ∃ (b : Addr) (base wide : Int) (F : Hp), x = .ref b ∧ y = .int base ∧ z = .int wide ∧ Same F H ∧ Bag K F H b ∧ 0 < wide ∧ wide < 2 ^ 200 ∧
  ∀ (r : Int) (F2 H2 : Hp), Gr [b] F H F2 H2 → Bag K F2 H2 b → Q (.int r) H2
def φany_writes (K : PySem.W.Frag) : V → V → Hp → VK → Prop := fun x y H Q => ∃ (b : Addr) (many : Int) (F : Hp), x = .ref b ∧ y = .int many ∧ Same F H ∧ Bag K F H b ∧ 0 ≤ many ∧ many ≤ 3000 ∧
  ∀ (a : Addr) (acts : List WAct) (F2 H2 : Hp), Gr [b] F H F2 H2 → Bag K F2 H2 b → Dp K F2 (.ref a) (.list (acts.map WAct.d)) → (∀ t ∈ acts, t.ok) → acts.length ≤ 3000 → (acts.length : Int) ≤ many → Q (.ref a) H2
/-- marks that stay -/
structure Mks (F : Hp) (p : Addr) (n : Nat) (ms : List Nat) : Prop where
  at_ : F p = some (.lst (nV ms))
  ok : ∀ k ∈ ms, 1 ≤ k ∧ k < n
  len : ms.length ≤ 20000
theorem Mks.same {F F2 : Hp} {p : Addr} {n : Nat} {ms : List Nat} (h : Mks F p n ms) (w : Same F F2) : Mks F2 p n ms := ⟨w _ _ h.at_, h.ok, h.len⟩
def φgood_marks (K : PySem.W.Frag) : V → V → V → Hp → VK → Prop := fun x y z H Q => ∃ (b : Addr) (often : Int) (acts : List WAct) (F : Hp), x = .ref b ∧ z = .int often ∧ Same F H ∧ Bag K F H b ∧ Dp K F y (.list (acts.map WAct.d)) ∧ acts.length ≤ 3000 ∧ 0 < often ∧ often < 2 ^ 200 ∧
  ∀ (p : Addr) (ms : List Nat) (F2 H2 : Hp), Gr [b] F H F2 H2 → Bag K F2 H2 b → Mks F2 p acts.length ms → Q (.ref p) H2
def φany_marks (K : PySem.W.Frag) : V → V → Hp → VK → Prop := fun x y H Q => ∃ (b : Addr) (acts : List WAct) (F : Hp), x = .ref b ∧ Same F H ∧ Bag K F H b ∧ Dp K F y (.list (acts.map WAct.d)) ∧ acts.length ≤ 3000 ∧
  ∀ (p : Addr) (ms : List Nat) (F2 H2 : Hp), Gr [b] F H F2 H2 → Bag K F2 H2 b → Mks F2 p acts.length ms → Q (.ref p) H2
theorem ints_nat {n : Nat} : ∀ {ys : List Int}, (∀ k ∈ ys, 1 ≤ k ∧ k < (n : Int)) → ∃ ms : List Nat, ys.map V.int = nV ms ∧ (∀ k ∈ ms, 1 ≤ k ∧ k < n) ∧ ms.length = ys.length
  | [], _ => ⟨[], rfl, by simp, rfl⟩
  | y :: ys, h => by
    obtain ⟨ms, e, h1, h2⟩ := ints_nat (ys := ys) fun k hk => h k (List.mem_cons_of_mem _ hk)
    have hy := h y (List.mem_cons_self ..)
    refine ⟨y.toNat :: ms, ?_, fun k hk => ?_, by rw [List.length_cons, List.length_cons, h2]⟩
    · show V.int y :: ys.map V.int = V.int (y.toNat : Nat) :: nV ms
      rw [e, Int.toNat_of_nonneg (by omega)]
    · rcases List.mem_cons.mp hk with rfl | hk
      · omega
      · exact h1 k hk
theorem put_ints {kvs : List (Key × V)} {ks : List Int} (h : kvs.map (·.1) = ks.map Sum.inl) (i : Int) (v : V) : ∃ ks' : List Int, (putK kvs (.inl i) v).map (·.1) = ks'.map Sum.inl ∧ ∀ k ∈ ks', k ∈ ks ∨ k = i := by
  cases e : valV kvs (.inl i) with
  | none =>
    rw [putK_new v e]
    refine ⟨ks ++ [i], by rw [List.map_append, List.map_append, h]; rfl, fun k hk => ?_⟩
    rcases List.mem_append.mp hk with hk | hk
    · exact .inl hk
    · exact .inr (List.mem_singleton.mp hk)
  | some u =>
    refine ⟨ks, ?_, fun k hk => .inl hk⟩
    rw [← h]
    unfold putK
    rw [valV_any, e]
    show (kvs.map fun kv => if kv.1 = (.inl i : Key) then (kv.1, v) else kv).map (·.1) = _
    rw [List.map_map]
    refine List.map_congr_left fun kv _ => ?_
    show (if kv.1 = (.inl i : Key) then (kv.1, v) else kv).1 = kv.1
    split <;> rfl
theorem cut_take (l : List Nat) (i : Nat) : cutV (nV l) none (some (i : Int)) = nV (l.take i) := by
  unfold cutV
  rw [HT.sIx_none, HT.sIx_nat, List.drop_zero, Nat.sub_zero]
  unfold nV
  rw [List.map_take, List.length_map]
  by_cases h : i ≤ l.length
  · rw [Nat.min_eq_left h]
  · rw [Nat.min_eq_right (by omega), List.take_of_length_le (by rw [List.length_map]; exact Nat.le_refl _), List.take_of_length_le (by rw [List.length_map]; omega)]
theorem cut_drop (l : List Nat) (i : Nat) : cutV (nV l) (some (i : Int)) none = nV (l.drop i) := by
  unfold cutV
  rw [HT.sIx_none, HT.sIx_nat]
  unfold nV
  rw [List.map_drop, List.length_map]
  by_cases h : i ≤ l.length
  · rw [Nat.min_eq_left h]
    refine List.take_of_length_le ?_
    rw [List.length_drop, List.length_map]
    exact Nat.le_refl _
  · rw [Nat.min_eq_right (by omega), Nat.sub_self, List.take_zero, List.drop_eq_nil_of_le (by rw [List.length_map]; omega)]
theorem pick_int {ns : List Int} {i : Int} (h0 : 0 ≤ i) (h1 : i < (ns.length : Int)) : ∃ m, atI (ns.map V.int) i = some (.int m) := by
  have hi : i.toNat < ns.length := by omega
  refine ⟨ns[i.toNat], at_of (j := i.toNat) (by omega) ?_⟩
  rw [List.getElem?_map, List.getElem?_eq_getElem hi]
  rfl
theorem pick_str {zs : List Str} {i : Int} (h0 : 0 ≤ i) (h1 : i < (zs.length : Int)) : ∃ z ∈ zs, atI (zs.map V.str) i = some (.str z) := by
  have hi : i.toNat < zs.length := by omega
  refine ⟨zs[i.toNat], List.getElem_mem hi, at_of (j := i.toNat) (by omega) ?_⟩
  rw [List.getElem?_map, List.getElem?_eq_getElem hi]
  rfl
theorem nV_flat (l : List Nat) : (nV l).all flatV = true := by
  induction l with
  | nil => rfl
  | cons m l ih => exact ih
theorem u_empN {K : PySem.W.Frag} {H : Hp} {a p : Addr} {ms : List Nat} {Q : VK} (ha : SqL K H a (nV ms)) (hp : SqL K H p []) (hl : ms.length ≤ 100000) (q : Q (.bl (decide (ms.length = 0))) H) : rEqD K (.ref a) (.ref p) H Q := by
  have g := nats_good hl
  refine ⟨natsD ms, .list [], .lst ha (dpa_nV ms), .lst hp .nil, good_shaped g.1 (Nat.le_trans g.2 (by decide)), good_shaped rfl (by decide), ?_⟩
  have e : PyData.eqv (natsD ms) (.list []) = decide (ms.length = 0) := by
    cases ms with
    | nil => rfl
    | cons b bs => rfl
  rw [e]
  exact q
theorem w_inN {K : PySem.W.Frag} {H : Hp} {p : Addr} {ms : List Nat} {x : Int} {Q : VK} (h : SqL K H p (nV ms)) (q : ∀ c, Q (.bl c) H) : rIn K false (.int x) (.ref p) H Q := ⟨p, _, rfl, .inl h, rfl, nV_flat ms, q _⟩
/-- a list of lists of marks -/
def PL (F : Hp) (n : Nat) (v : V) : Prop := ∃ p ms, v = .ref p ∧ Mks F p n ms
theorem PL.same {F F2 : Hp} {n : Nat} {v : V} (h : PL F n v) (w : Same F F2) : PL F2 n v := by
  obtain ⟨p, ms, e, m⟩ := h
  exact ⟨p, ms, e, m.same w⟩
end R

namespace R
open PySem PySem.Spec PyProof.Rows L2
/-! ### a op1 b op2 c op3 d -/
def tChain3 (r1 r2 r3 : R2) (ta tb tc td : TE) : TE := fun σ H Q => ta σ H fun x H1 => tb σ H1 fun y H2 => r1 x y H2 fun z H3 => asBl z H3 fun k H3 =>
  if k = true then tc σ H3 fun w H4 => r2 y w H4 fun z2 H5 => asBl z2 H5 fun k2 H5 => if k2 = true then td σ H5 fun u H6 => r3 w u H6 Q else Q (.bl false) H5 else Q (.bl false) H3
section
variable {X : Cx} {a b c d : Expr} {ta tb tc td : TE} {pos : Pos}
theorem pt_chain3 {op op' op2 : CmpOp} {r r' r2 : R2} (ho : OpR X (compareOp op) r) (ho' : OpR X (compareOp op') r') (ho2 : OpR X (compareOp op2) r2) (ha : PE X a ta) (hb : PE X b tb) (hc : PE X c tc) (hd : PE X d td)
    (hm : lastMarks [op, op', op2] [b, c, d] = false := by with_unfolding_all rfl) : PT X (.Compare a [op, op', op2] [b, c, d] pos) (tTest (tChain3 r r' r2 ta tb tc td)) := by
  refine ⟨fun pins s σ H Q I h => ?_⟩
  refine isTrue_chain (thn (ha.run pins s σ H _ I h) fun v s1 ⟨x, H1, I1, r1, q1⟩ => test_link (thn (hb.run pins s1 σ H1 _ I1 q1) fun u s2 ⟨y, H2, I2, r2, q2⟩ =>
    thn (ho pins s2 σ H2 x y v u _ I2 r1 r2 q2) fun d s3 ⟨z, H3, I3, r3, k, e, q3⟩ => ?_)) hm
  subst e
  cases r3
  refine wpAny_truthy_bool ?_
  cases k with
  | false =>
    obtain ⟨k', e', q'⟩ := q3
    cases e'
    exact ite_ff ⟨H3, I3, q'⟩
  | true =>
    refine ite_tt (test_link (thn (hc.run pins s3 σ H3 _ I3 q3) fun w' s4 ⟨z', H4, I4, r4, q4⟩ => thn (ho' pins s4 σ H4 y z' u w' _ I4 r2 r4 q4) fun d' s5 ⟨z2, H5, I5, r5, k2, e2, q5⟩ => ?_))
    subst e2
    cases r5
    refine wpAny_truthy_bool ?_
    cases k2 with
    | false =>
      obtain ⟨k', e', q'⟩ := q5
      cases e'
      exact ite_ff ⟨H5, I5, q'⟩
    | true =>
      refine ite_tt (test_last (thn (hd.run pins s5 σ H5 _ I5 q5) fun w2 s6 ⟨z6, H6, I6, r6, q6⟩ => thn (ho2 pins s6 σ H6 z' z6 w' w2 _ I6 r4 r6 q6) fun d2 s7 ⟨z7, H7, I7, r7, k7, e7, q7⟩ => ?_))
      subst e7
      cases r7
      exact wpAny_truthy_bool ⟨H7, I7, q7⟩
end
section
variable {σ : L2.St} {H : Hp} {Q : VK} {ta tb tc td : TE} {r r1 r2 r3 : R2}
theorem w_chain3 (q : ta σ H fun x H1 => tb σ H1 fun y H2 => r1 x y H2 fun z H3 => asBl z H3 fun k H3 =>
  if k = true then tc σ H3 fun w H4 => r2 y w H4 fun z2 H5 => asBl z2 H5 fun k2 H5 => if k2 = true then td σ H5 fun u H6 => r3 w u H6 Q else Q (.bl false) H5 else Q (.bl false) H3) : tChain3 r1 r2 r3 ta tb tc td σ H Q := q
theorem w_chain (q : ta σ H fun x H1 => tb σ H1 fun y H2 => r1 x y H2 fun z H3 => asBl z H3 fun k H3 => if k = true then tc σ H3 fun w H4 => r2 y w H4 Q else Q (.bl false) H3) : tChain r1 r2 ta tb tc σ H Q := q
end
section
variable {X : Cx} {K : PySem.W.Frag}
theorem clSortP (h : X.K = K := by rfl) : CallR X (.builtin "sorted") (rSortedPO K) := by subst h; exact cr_sortedPO
end
/-! ### the fewest marks -/
def fewGo : List WAct → List (List Key × Nat) → Nat → List Nat × List (Nat × Nat)
  | [], _, _ => ([], [])
  | t :: ts, kvs, j => match getN kvs t.wk with
    | some i => (j :: (fewGo ts (stepN [] t j) (j + 1)).1, (i, j) :: (fewGo ts (stepN [] t j) (j + 1)).2)
    | none => fewGo ts (stepN kvs t j) (j + 1)
def few (acts : List WAct) : List Nat × List (Nat × Nat) := fewGo acts [] 0
theorem few_hit {t : WAct} {ts : List WAct} {kvs : List (List Key × Nat)} {j i : Nat} (e : getN kvs t.wk = some i) :
    fewGo (t :: ts) kvs j = (j :: (fewGo ts (stepN [] t j) (j + 1)).1, (i, j) :: (fewGo ts (stepN [] t j) (j + 1)).2) := by rw [fewGo, e]
theorem few_miss {t : WAct} {ts : List WAct} {kvs : List (List Key × Nat)} {j : Nat} (e : getN kvs t.wk = none) : fewGo (t :: ts) kvs j = fewGo ts (stepN kvs t j) (j + 1) := by rw [fewGo, e]
/-- the marks are the later ones of the pairs -/
theorem few_marks : ∀ (ts : List WAct) (kvs : List (List Key × Nat)) (j : Nat), (fewGo ts kvs j).1 = (fewGo ts kvs j).2.map (·.2)
  | [], _, _ => rfl
  | t :: ts, kvs, j => by
    cases e : getN kvs t.wk with
    | some i =>
      rw [few_hit e]
      show j :: _ = j :: _
      rw [few_marks ts _ _]
    | none =>
      rw [few_miss e]
      exact few_marks ts _ _
/-- what is seen: each key from a read of an earlier act, no earlier than lo -/
def Seen (acts : List WAct) (kvs : List (List Key × Nat)) (lo j : Nat) : Prop := ∀ p ∈ kvs, lo ≤ p.2 ∧ p.2 < j ∧ ∃ t, acts[p.2]? = some t ∧ t.s ≠ "sign" ∧ t.rk = p.1
theorem seen_step {acts : List WAct} {kvs : List (List Key × Nat)} {lo j : Nat} {t : WAct} (h : Seen acts kvs lo j) (hlo : lo ≤ j) (ht : acts[j]? = some t) : Seen acts (stepN kvs t j) lo (j + 1) := by
  intro p hp
  unfold stepN at hp
  split at hp
  · obtain ⟨h1, h2, h3⟩ := h p hp
    exact ⟨h1, by omega, h3⟩
  · rename_i hs
    split at hp
    · obtain ⟨h1, h2, h3⟩ := h p hp
      exact ⟨h1, by omega, h3⟩
    · rcases List.mem_append.mp hp with hp | hp
      · obtain ⟨h1, h2, h3⟩ := h p hp
        exact ⟨h1, by omega, h3⟩
      · rw [List.mem_singleton.mp hp]
        exact ⟨hlo, Nat.lt_succ_self _, t, ht, hs, rfl⟩
theorem seen_nil (acts : List WAct) (lo j : Nat) : Seen acts [] lo j := fun p hp => by cases hp
theorem getN_key {kvs : List (List Key × Nat)} {k : List Key} {n : Nat} (e : getN kvs k = some n) : (k, n) ∈ kvs := by
  unfold getN at e
  cases h : kvs.find? fun kv => decide (kv.1 = k) with
  | none => rw [h] at e; cases e
  | some p =>
    rw [h] at e
    have h1 := List.mem_of_find?_eq_some h
    have h2 : p.1 = k := of_decide_eq_true (List.find?_some (p := fun kv : List Key × Nat => decide (kv.1 = k)) h)
    have h3 : p.2 = n := Option.some.inj e
    rw [← h2, ← h3]
    exact h1
/-- a pair of acts where the later writes what the earlier reads -/
structure Clash (acts : List WAct) (p : Nat × Nat) : Prop where
  lt : p.1 < p.2
  ex : ∃ t u, acts[p.1]? = some t ∧ acts[p.2]? = some u ∧ t.s ≠ "sign" ∧ t.rk = u.wk
theorem few_pairs (acts : List WAct) : ∀ (ts : List WAct) (kvs : List (List Key × Nat)) (lo j : Nat), acts.drop j = ts → lo ≤ j → Seen acts kvs lo j →
    (∀ p ∈ (fewGo ts kvs j).2, lo ≤ p.1 ∧ j ≤ p.2 ∧ p.2 < acts.length ∧ Clash acts p) ∧ (fewGo ts kvs j).2.Pairwise (fun p q => p.2 ≤ q.1)
  | [], _, _, _, _, _, _ => ⟨fun p hp => (List.not_mem_nil hp).elim, List.Pairwise.nil⟩
  | t :: ts, kvs, lo, j, hd, hlo, hs => by
    have hj : j < acts.length := by
      have h := congrArg List.length hd
      rw [List.length_drop, List.length_cons] at h
      omega
    have hd0 := hd
    rw [List.drop_eq_getElem_cons hj] at hd0
    have et : acts[j]? = some t := by
      rw [List.getElem?_eq_getElem hj]
      exact congrArg some (List.cons.inj hd0).1
    have hd2 : acts.drop (j + 1) = ts := (List.cons.inj hd0).2
    cases e : getN kvs t.wk with
    | some i =>
      rw [few_hit e]
      obtain ⟨i1, i2⟩ := few_pairs acts ts (stepN [] t j) j (j + 1) hd2 (by omega) (seen_step (seen_nil _ _ _) (Nat.le_refl _) et)
      obtain ⟨s1, s2, u, s3, s4, s5⟩ := hs _ (getN_key e)
      refine ⟨fun p hp => ?_, List.pairwise_cons.mpr ⟨fun p hp => (i1 p hp).1, i2⟩⟩
      rcases List.mem_cons.mp hp with rfl | hp
      · exact ⟨s1, Nat.le_refl _, hj, s2, u, t, s3, et, s4, s5⟩
      · obtain ⟨a1, a2, a3, a4⟩ := i1 p hp
        exact ⟨by omega, by omega, a3, a4⟩
    | none =>
      rw [few_miss e]
      obtain ⟨i1, i2⟩ := few_pairs acts ts (stepN kvs t j) lo (j + 1) hd2 (by omega) (seen_step hs hlo et)
      refine ⟨fun p hp => ?_, i2⟩
      obtain ⟨a1, a2, a3, a4⟩ := i1 p hp
      exact ⟨a1, by omega, a3, a4⟩
theorem few_ok (acts : List WAct) : (∀ p ∈ (few acts).2, p.2 < acts.length ∧ Clash acts p) ∧ (few acts).2.Pairwise (fun p q => p.2 ≤ q.1) := by
  obtain ⟨h1, h2⟩ := few_pairs acts acts [] 0 0 rfl (Nat.le_refl _) (seen_nil _ _ _)
  exact ⟨fun p hp => (h1 p hp).2.2, h2⟩
theorem few_marks_ok (acts : List WAct) : (∀ m ∈ (few acts).1, 1 ≤ m ∧ m < acts.length) ∧ (few acts).1.Pairwise (· < ·) := by
  obtain ⟨h1, h2⟩ := few_ok acts
  unfold few at *
  rw [few_marks]
  refine ⟨fun m hm => ?_, ?_⟩
  · obtain ⟨p, hp, rfl⟩ := List.mem_map.mp hm
    obtain ⟨a1, a2⟩ := h1 p hp
    have := a2.lt
    omega
  · rw [List.pairwise_map]
    refine (List.pairwise_iff_getElem.mpr fun i j hi hj hij => ?_)
    have h3 := List.pairwise_iff_getElem.mp h2 i j hi hj hij
    have h4 := (h1 _ (List.getElem_mem hj)).2.lt
    omega
/-- marks that leave no fault -/
def Clean : List WAct → List (List Key × Nat) → Nat → List Nat → Prop
  | ts, kvs, j, [] => faultGo ts kvs j = none
  | ts, kvs, j, m :: ms => j ≤ m ∧ faultGo (ts.take (m - j)) kvs j = none ∧ Clean (ts.drop (m - j)) [] m ms
theorem clean_miss {t : WAct} {ts : List WAct} {kvs : List (List Key × Nat)} {j : Nat} {ms : List Nat} (e : getN kvs t.wk = none) (h : Clean ts (stepN kvs t j) (j + 1) ms) : Clean (t :: ts) kvs j ms := by
  cases ms with
  | nil => exact (go_miss e).trans h
  | cons m ms =>
    obtain ⟨h1, h2, h3⟩ := h
    have e1 : m - j = (m - (j + 1)) + 1 := by omega
    refine ⟨by omega, ?_, ?_⟩
    · rw [e1, List.take_succ_cons, go_miss e]
      exact h2
    · rw [e1, List.drop_succ_cons]
      exact h3
theorem few_clean : ∀ (ts : List WAct) (kvs : List (List Key × Nat)) (j : Nat), Clean ts kvs j (fewGo ts kvs j).1
  | [], _, _ => rfl
  | t :: ts, kvs, j => by
    cases e : getN kvs t.wk with
    | some i =>
      rw [few_hit e]
      refine ⟨Nat.le_refl _, ?_, ?_⟩
      · rw [Nat.sub_self, List.take_zero]
        rfl
      · rw [Nat.sub_self, List.drop_zero]
        exact clean_miss rfl (few_clean ts _ _)
    | none =>
      rw [few_miss e]
      exact clean_miss e (few_clean ts _ _)
theorem clean_first {acts : List WAct} : ∀ {ms : List Nat} {first : Nat}, first ≤ acts.length → (∀ m ∈ ms, m ≤ acts.length) → Clean (acts.drop first) [] first ms → firstFault acts first (ms ++ [acts.length]) = none
  | [], first, hf, _, h => by
    have e : faultFrom acts first acts.length = none := by
      unfold faultFrom stretch
      rw [List.take_of_length_le (by rw [List.length_drop]; exact Nat.le_refl _)]
      exact h
    show firstFault acts first (acts.length :: []) = none
    rw [first_miss e]
    rfl
  | m :: ms, first, hf, hm, h => by
    obtain ⟨h1, h2, h3⟩ := h
    have e : faultFrom acts first m = none := h2
    show firstFault acts first (m :: (ms ++ [acts.length])) = none
    rw [first_miss e]
    refine clean_first (hm m (List.mem_cons_self ..)) (fun k hk => hm k (List.mem_cons_of_mem _ hk)) ?_
    rw [List.drop_drop, show first + (m - first) = m by omega] at h3
    exact h3
theorem few_first (acts : List WAct) : firstFault acts 0 ((few acts).1 ++ [acts.length]) = none :=
  clean_first (Nat.zero_le _) (fun m hm => Nat.le_of_lt ((few_marks_ok acts).1 m hm).2) (few_clean acts [] 0)
/-! ### pairs as values -/
def PrV (F : Hp) : List V → List (Nat × Nat) → Prop
  | [], [] => True
  | v :: vs, p :: ps => (∃ t, v = .ref t ∧ F t = some (.tup [.int (p.1 : Nat), .int (p.2 : Nat)])) ∧ PrV F vs ps
  | _, _ => False
theorem PrV.same {F F2 : Hp} (w : Same F F2) : ∀ {vs : List V} {ps : List (Nat × Nat)}, PrV F vs ps → PrV F2 vs ps
  | [], [], _ => trivial
  | v :: vs, p :: ps, ⟨⟨t, e1, e2⟩, h⟩ => ⟨⟨t, e1, w _ _ e2⟩, PrV.same w h⟩
theorem PrV.len {F : Hp} : ∀ {vs : List V} {ps : List (Nat × Nat)}, PrV F vs ps → vs.length = ps.length
  | [], [], _ => rfl
  | v :: vs, p :: ps, ⟨_, h⟩ => congrArg (· + 1) (PrV.len h)
theorem PrV.snoc {F : Hp} {t : Addr} {q : Nat × Nat} (e : F t = some (.tup [.int (q.1 : Nat), .int (q.2 : Nat)])) : ∀ {vs : List V} {ps : List (Nat × Nat)}, PrV F vs ps → PrV F (vs ++ [.ref t]) (ps ++ [q])
  | [], [], _ => ⟨⟨t, rfl, e⟩, trivial⟩
  | v :: vs, p :: ps, ⟨h1, h⟩ => ⟨h1, PrV.snoc e h⟩
theorem PrV.get {F : Hp} : ∀ {vs : List V} {ps : List (Nat × Nat)} {i : Nat} {v : V}, PrV F vs ps → vs[i]? = some v → ∃ p t, ps[i]? = some p ∧ v = .ref t ∧ F t = some (.tup [.int (p.1 : Nat), .int (p.2 : Nat)])
  | [], [], i, v, _, e => by simp at e
  | u :: vs, p :: ps, 0, v, ⟨⟨t, e1, e2⟩, _⟩, e => by
    have e' := Option.some.inj e
    subst e'
    exact ⟨p, t, rfl, e1, e2⟩
  | u :: vs, p :: ps, i + 1, v, ⟨_, h⟩, e => PrV.get (i := i) h e
def kOf (F : Hp) : V → Int × Int
  | .ref t => match F t with
    | some (.tup [.int i, .int j]) => (i, j)
    | _ => (0, 0)
  | _ => (0, 0)
theorem kOf_at {F : Hp} {t : Addr} {i j : Int} (h : F t = some (.tup [.int i, .int j])) : kOf F (.ref t) = (i, j) := by
  show (match F t with
    | some (.tup [.int i, .int j]) => (i, j)
    | _ => (0, 0)) = (i, j)
  rw [h]
/-- pairs that rise stay as they are when sorted -/
theorem sorted_pairs {F : Hp} {vs ys : List V} {ps : List (Nat × Nat)} (h : PrV F vs ps) (hp : ps.Pairwise (fun p q => p.2 ≤ q.1)) (hl : ∀ p ∈ ps, p.1 < p.2) (hs : SrtO.Srtd (ltP (kOf F)) ys) (hb : SrtO.Stb (ltP (kOf F)) ys vs) : ys = vs := by
  have hvs : vs.Pairwise (fun x y => ltP (kOf F) x y = true) := by
    refine List.pairwise_iff_getElem.mpr fun i j hi hj hij => ?_
    obtain ⟨p, t, e1, e2, e3⟩ := h.get (List.getElem?_eq_getElem hi)
    obtain ⟨q, u, f1, f2, f3⟩ := h.get (List.getElem?_eq_getElem hj)
    rw [e2, f2]
    show SrtO.lexB (kOf F (.ref t)) (kOf F (.ref u)) = true
    rw [kOf_at e3, kOf_at f3]
    obtain ⟨hi', ep⟩ := List.getElem?_eq_some_iff.mp e1
    obtain ⟨hj', eq⟩ := List.getElem?_eq_some_iff.mp f1
    have h3 := List.pairwise_iff_getElem.mp hp i j hi' hj' hij
    rw [ep, eq] at h3
    have h4 := hl p (by rw [← ep]; exact List.getElem_mem _)
    refine SrtO.lexB_iff.mpr ?_
    show (p.1 : Int) < q.1 ∨ (p.1 : Int) = q.1 ∧ (p.2 : Int) < q.2
    omega
  have key : ∀ (ys vs : List V), SrtO.Srtd (ltP (kOf F)) ys → vs.Pairwise (fun x y => ltP (kOf F) x y = true) → ys.Perm vs → ys = vs := by
    intro ys
    induction ys with
    | nil => intro vs _ _ hp; exact (List.nil_perm.mp hp).symm
    | cons y ys ih =>
      intro vs hs hv hp
      cases vs with
      | nil => exact absurd (hp.length_eq) (by simp)
      | cons v vs =>
        have hy : y = v := by
          have hm : y ∈ v :: vs := hp.mem_iff.mp (List.mem_cons_self ..)
          rcases List.mem_cons.mp hm with e | hm
          · exact e
          · have h1 : ltP (kOf F) v y = true := (List.pairwise_cons.mp hv).1 y hm
            have hm2 : v ∈ y :: ys := hp.mem_iff.mpr (List.mem_cons_self ..)
            rcases List.mem_cons.mp hm2 with e | hm2
            · exact e.symm
            · have h2 := SrtO.srtd_head hs v hm2
              rw [h1] at h2
              cases h2
        subst hy
        rw [ih vs (List.pairwise_cons.mp hs).2 (List.pairwise_cons.mp hv).2 (List.Perm.cons_inv hp)]
  exact key ys vs hs hvs hb.perm
theorem nV_snoc (l : List Nat) (k : Nat) : nV (l ++ [k]) = nV l ++ [.int (k : Nat)] := by unfold nV; rw [List.map_append]; rfl
theorem nV_len (l : List Nat) : (nV l).length = l.length := by unfold nV; rw [List.length_map]
def twoD (p : Nat × Nat) : PyData := .tuple [.int (p.1 : Nat), .int (p.2 : Nat)]
theorem PrV.dpa {K : PySem.W.Frag} {F : Hp} : ∀ {vs : List V} {ps : List (Nat × Nat)}, PrV F vs ps → DpAll K F vs (ps.map twoD)
  | [], [], _ => .nil
  | v :: vs, p :: ps, ⟨⟨t, e1, e2⟩, h⟩ => .cons (e1 ▸ .tup (sqT_of e2) (.cons (.int _) (.cons (.int _) .nil))) (PrV.dpa h)
theorem u_isiTup {K : PySem.W.Frag} {H : Hp} {t : Addr} {xs : List V} {n : String} {b : Bool} {Q : VK} (h : H t = some (.tup xs)) (e : kitB "tuple" n = some b) (q : Q (.bl b) H) : rIsi K [.ref t, .ty n] H Q :=
  ⟨.ref t, .ty n, _, _, b, rfl, .ty n, .base (.tup h), kit_ty e, q⟩
theorem w_slT {K : PySem.W.Frag} {H : Hp} {p : Addr} {lo hi : Option Int} {Q : VK} (xs : List V) (h : SqT K H p xs) (e : ¬ (HT.sIx xs.length 0 lo = 0 ∧ HT.sIx xs.length xs.length hi = xs.length)) (q : ∀ l, H l = none → Q (.ref l) (upd H l (.tup (cutV xs lo hi)))) : rSlT K (.ref p) lo hi H Q := ⟨p, xs, rfl, h, e, q⟩
theorem pw_at {ms : List Nat} {i k : Nat} (hp : ms.Pairwise (· < ·)) (e : ms[i]? = some k) : ∀ z ∈ ms.drop (i + 1), k < z := by
  obtain ⟨h1, h2⟩ := List.getElem?_eq_some_iff.mp e
  have h3 : (ms.drop i).Pairwise (· < ·) := hp.sublist (List.drop_sublist _ _)
  rw [List.drop_eq_getElem_cons h1, h2] at h3
  exact (List.pairwise_cons.mp h3).1
theorem at_drop {ms : List Nat} {i k : Nat} (e : ms[i]? = some k) : k ∈ ms.drop i := by
  obtain ⟨h1, h2⟩ := List.getElem?_eq_some_iff.mp e
  rw [List.drop_eq_getElem_cons h1, h2]
  exact List.mem_cons_self ..
theorem clash_keys {t u : WAct} (h : t.rk = u.wk) : t.s = u.w ∧ t.x = .inl u.n := by
  have h1 := List.cons.inj h
  have h2 := List.cons.inj h1.2
  exact ⟨Sum.inr.inj h1.1, h2.1⟩
/-! ### promises -/
def φfewest (K : PySem.W.Frag) : V → Hp → VK → Prop := fun x H Q => ∃ (F : Hp) (acts : List WAct), Same F H ∧ Dp K F x (.list (acts.map WAct.d)) ∧ acts.length ≤ 100000 ∧
  ∀ (t m p : Addr) (vs : List V) (F2 H2 : Hp), Gr [] F H F2 H2 → H m = none → H p = none → m ≠ p → F2 t = some (.tup [.ref m, .ref p]) → Mu F2 H2 m (.lst (nV (few acts).1)) → Mu F2 H2 p (.lst vs) → PrV F2 vs (few acts).2 → Q (.ref t) H2
def φwhole : V → Hp → VK → Prop := fun x H Q => ∃ i : Int, x = .int i ∧ Q (.bl true) H
def φmright (K : PySem.W.Frag) : V → V → Hp → VK → Prop := fun x y H Q => ∃ (F : Hp) (acts : List WAct) (m : Addr) (ms : List Nat), y = .ref m ∧ Same F H ∧ Dp K F x (.list (acts.map WAct.d)) ∧ F m = some (.lst (nV ms)) ∧ acts.length ≤ 100000 ∧ ms.length ≤ 100000 ∧
  (∀ k ∈ ms, 1 ≤ k ∧ k < acts.length) ∧ ms.Pairwise (· < ·) ∧ firstFault acts 0 (ms ++ [acts.length]) = none ∧ ∀ (F2 H2 : Hp), Gr [] F H F2 H2 → Q (.bl true) H2
def φpright (K : PySem.W.Frag) : V → V → Hp → VK → Prop := fun x y H Q => ∃ (F : Hp) (acts : List WAct) (p : Addr) (vs : List V) (ps : List (Nat × Nat)), y = .ref p ∧ Same F H ∧ Dp K F x (.list (acts.map WAct.d)) ∧ F p = some (.lst vs) ∧ PrV F vs ps ∧ acts.length ≤ 100000 ∧ ps.length ≤ 100000 ∧
  (∀ t ∈ acts, t.ok) ∧ (∀ p ∈ ps, p.2 < acts.length ∧ Clash acts p) ∧ ps.Pairwise (fun p q => p.2 ≤ q.1) ∧ ∀ (F2 H2 : Hp), Gr [] F H F2 H2 → Q (.bl true) H2
def φright (K : PySem.W.Frag) : V → V → Hp → VK → Prop := fun x y H Q => ∃ (F : Hp) (acts : List WAct) (n : Bool), y = .bl n ∧ Same F H ∧ Dp K F x (.list (acts.map WAct.d)) ∧ acts.length ≤ 100000 ∧ (∀ t ∈ acts, t.ok) ∧ ∀ (F2 H2 : Hp), Gr [] F H F2 H2 → Q (.bl true) H2
def φsome (K : PySem.W.Frag) : V → V → Hp → VK → Prop := fun x y H Q => ∃ (b : Addr) (f : Bool) (F : Hp), x = .ref b ∧ y = .bl f ∧ Same F H ∧ Bag K F H b ∧
  ∀ (a : Addr) (acts : List WAct) (F2 H2 : Hp), Gr [b] F H F2 H2 → Bag K F2 H2 b → Dp K F2 (.ref a) (.list (acts.map WAct.d)) → (∀ t ∈ acts, t.ok) → acts.length ≤ 100000 → Q (.ref a) H2
/-! ### the writes of a plan as acts -/
def PRow.acts : PRow → List WAct
  | .put to s => (List.range s.length).map fun (k : Nat) => ⟨"cell", to + k, "sign", .inr ⟨#[s.cps.toList.getD k 0]⟩⟩
  | .mv w to a n => (PRow.steps w to a n).map fun (k : Nat) => ⟨w.cell, to + k, w.src, .inl (a + k)⟩
theorem acts_writes (r : PRow) : r.acts.map WAct.d = r.writes := by
  cases r with
  | put to s =>
    unfold PRow.acts PRow.writes
    rw [List.map_map]
    rfl
  | mv w to a n =>
    unfold PRow.acts PRow.writes
    rw [List.map_map]
    rfl
theorem acts_all (rs : List PRow) : (rs.flatMap PRow.acts).map WAct.d = rs.flatMap PRow.writes := by
  rw [List.map_flatMap]
  exact congrArg (fun f => rs.flatMap f) (funext acts_writes)
theorem acts_ok {r : PRow} (h : r.ok) : ∀ t ∈ r.acts, t.ok := by
  intro t ht
  cases r with
  | put to s =>
    obtain ⟨k, hk, rfl⟩ := List.mem_map.mp ht
    have hk2 := List.mem_range.mp hk
    exact ⟨cell_ok, sign_ok, ok_sign h.1 hk2, by show 1 ≤ 100; decide⟩
  | mv w to a n =>
    obtain ⟨k, hk, rfl⟩ := List.mem_map.mp ht
    refine ⟨?_, ?_, trivial⟩
    · cases w <;> first | exact cell_ok | exact slot_ok
    · cases w <;> first | exact cell_ok | exact slot_ok
theorem acts_all_ok {rs : List PRow} (h : ∀ r ∈ rs, r.ok) : ∀ t ∈ rs.flatMap PRow.acts, t.ok := by
  intro t ht
  obtain ⟨r, hr, ht⟩ := List.mem_flatMap.mp ht
  exact acts_ok (h r hr) t ht
end R

namespace R
open PySem PySem.Spec PyProof.Rows L2
/-! ### the fault, looked at pair by pair -/
def RdsAt (acts : List WAct) (i : Nat) (k : List Key) : Prop := ∃ t, acts[i]? = some t ∧ t.s ≠ "sign" ∧ t.rk = k
structure SeenX (acts : List WAct) (kvs : List (List Key × Nat)) (first j : Nat) : Prop where
  s1 : ∀ k i, getN kvs k = some i → first ≤ i ∧ i < j ∧ RdsAt acts i k ∧ ∀ i', first ≤ i' → i' < i → ¬ RdsAt acts i' k
  s2 : ∀ k, getN kvs k = none → ∀ i', first ≤ i' → i' < j → ¬ RdsAt acts i' k
theorem seenx_nil (acts : List WAct) (first : Nat) : SeenX acts [] first first := ⟨fun k i e => (nomatch e), fun k _ i' h1 h2 => by omega⟩
theorem getN_app (kvs : List (List Key × Nat)) (k0 k : List Key) (j : Nat) : getN (kvs ++ [(k0, j)]) k = match getN kvs k with
    | some n => some n
    | none => if k0 = k then some j else none := by
  unfold getN
  rw [List.find?_append]
  cases h : kvs.find? fun kv => decide (kv.1 = k) with
  | some p => rfl
  | none =>
    show Option.map _ (Option.or none (List.find? _ [(k0, j)])) = if k0 = k then some j else none
    by_cases e : k0 = k
    · rw [if_pos e]
      simp [List.find?_cons, e]
    · rw [if_neg e]
      simp [List.find?_cons, e]
theorem rds_at {acts : List WAct} {j : Nat} {t : WAct} {k : List Key} (ht : acts[j]? = some t) (h : RdsAt acts j k) : t.s ≠ "sign" ∧ t.rk = k := by
  obtain ⟨u, hu, h1, h2⟩ := h
  rw [ht] at hu
  cases hu
  exact ⟨h1, h2⟩
theorem seenx_step {acts : List WAct} {kvs : List (List Key × Nat)} {first j : Nat} {t : WAct} (h : SeenX acts kvs first j) (hf : first ≤ j) (ht : acts[j]? = some t) : SeenX acts (stepN kvs t j) first (j + 1) := by
  by_cases hs : t.s = "sign"
  · rw [step_sign hs]
    refine ⟨fun k i e => ?_, fun k e i' h1 h2 => ?_⟩
    · obtain ⟨a, b, c, d⟩ := h.s1 k i e
      exact ⟨a, by omega, c, d⟩
    · by_cases e2 : i' = j
      · subst e2
        exact fun hr => (rds_at ht hr).1 hs
      · exact h.s2 k e i' h1 (by omega)
  · cases e : getN kvs t.rk with
    | some n =>
      rw [step_old hs e]
      refine ⟨fun k i e => ?_, fun k e1 i' h1 h2 => ?_⟩
      · obtain ⟨a, b, c, d⟩ := h.s1 k i e
        exact ⟨a, by omega, c, d⟩
      · by_cases e2 : i' = j
        · subst e2
          intro hr
          rw [(rds_at ht hr).2, e1] at e
          cases e
        · exact h.s2 k e1 i' h1 (by omega)
    | none =>
      rw [step_new hs e]
      refine ⟨fun k i e3 => ?_, fun k e1 i' h1 h2 => ?_⟩
      · rw [getN_app] at e3
        cases e4 : getN kvs k with
        | some n =>
          rw [e4] at e3
          have e5 : n = i := Option.some.inj e3
          subst e5
          obtain ⟨a, b, c, d⟩ := h.s1 k n e4
          exact ⟨a, by omega, c, d⟩
        | none =>
          rw [e4] at e3
          by_cases ek : t.rk = k
          · have e5 : (if t.rk = k then some j else none) = some i := e3
            rw [if_pos ek] at e5
            have e6 := Option.some.inj e5
            subst e6
            exact ⟨hf, by omega, ⟨t, ht, hs, ek⟩, fun i' h1 h2 => h.s2 k e4 i' h1 h2⟩
          · have e5 : (if t.rk = k then some j else none) = some i := e3
            rw [if_neg ek] at e5
            cases e5
      · rw [getN_app] at e1
        cases e4 : getN kvs k with
        | some n =>
          rw [e4] at e1
          cases e1
        | none =>
          by_cases e2 : i' = j
          · subst e2
            intro hr
            rw [e4] at e1
            have e5 : (if t.rk = k then some i' else none) = none := e1
            rw [if_pos (rds_at ht hr).2] at e5
            cases e5
          · exact h.s2 k e4 i' h1 (by omega)
def NoAt (acts : List WAct) (first j : Nat) : Prop := ∀ u, acts[j]? = some u → ∀ i', first ≤ i' → i' < j → ¬ RdsAt acts i' u.wk
structure Hit (acts : List WAct) (first i b : Nat) : Prop where
  lt : i < b
  le : first ≤ i
  ex : ∃ u, acts[b]? = some u ∧ RdsAt acts i u.wk ∧ ∀ i', first ≤ i' → i' < i → ¬ RdsAt acts i' u.wk
theorem go_spec {acts : List WAct} {first last : Nat} (hl : last ≤ acts.length) : ∀ (n j : Nat) (kvs : List (List Key × Nat)), n = last - j → j ≤ last → first ≤ j → SeenX acts kvs first j →
    match faultGo ((acts.drop j).take n) kvs j with
    | some (i, b) => j ≤ b ∧ b < last ∧ Hit acts first i b ∧ ∀ j', j ≤ j' → j' < b → NoAt acts first j'
    | none => ∀ j', j ≤ j' → j' < last → NoAt acts first j'
  | 0, j, kvs, hn, hj, hf, hs => by
    rw [List.take_zero]
    intro j' h1 h2
    omega
  | n + 1, j, kvs, hn, hj, hf, hs => by
    have hjl : j < acts.length := by omega
    have et : acts[j]? = some acts[j] := List.getElem?_eq_getElem hjl
    rw [List.drop_eq_getElem_cons hjl, List.take_succ_cons]
    cases e : getN kvs acts[j].wk with
    | some i =>
      rw [go_hit e]
      obtain ⟨a, b, c, d⟩ := hs.s1 _ _ e
      exact ⟨Nat.le_refl _, by omega, ⟨b, a, _, et, c, d⟩, fun j' h1 h2 => by omega⟩
    | none =>
      rw [go_miss e]
      have ih := go_spec hl n (j + 1) (stepN kvs acts[j] j) (by omega) (by omega) (by omega) (seenx_step hs hf et)
      have hno : NoAt acts first j := by
        intro u hu i' h1 h2
        rw [et] at hu
        cases hu
        exact hs.s2 _ e i' h1 h2
      revert ih
      cases faultGo ((acts.drop (j + 1)).take n) (stepN kvs acts[j] j) (j + 1) with
      | some p =>
        obtain ⟨i, b⟩ := p
        rintro ⟨a, b1, c, d⟩
        refine ⟨by omega, b1, c, fun j' h1 h2 => ?_⟩
        by_cases ej : j' = j
        · subst ej
          exact hno
        · exact d j' (by omega) h2
      | none =>
        intro d j' h1 h2
        by_cases ej : j' = j
        · subst ej
          exact hno
        · exact d j' (by omega) h2
theorem from_spec {acts : List WAct} {first last : Nat} (hl : last ≤ acts.length) (hf : first ≤ last) :
    match faultFrom acts first last with
    | some (i, b) => first ≤ b ∧ b < last ∧ Hit acts first i b ∧ ∀ j', first ≤ j' → j' < b → NoAt acts first j'
    | none => ∀ j', first ≤ j' → j' < last → NoAt acts first j' := go_spec hl (last - first) first [] rfl hf (Nat.le_refl _) (seenx_nil _ _)
/-- the pair that the law looks for -/
def TT (acts : List WAct) (bars : List Nat) (i j : Nat) : Prop := i < j ∧ (∀ m ∈ bars, ¬ (i < m ∧ m ≤ j)) ∧ ∃ u, acts[j]? = some u ∧ RdsAt acts i u.wk
def DueFrom (acts : List WAct) (bars : List Nat) (first : Nat) : Option (Nat × Nat) → Prop
  | some (i, b) => first ≤ b ∧ TT acts bars i b ∧ (∀ j', first ≤ j' → j' < b → ∀ i', ¬ TT acts bars i' j') ∧ ∀ i', i' < i → ¬ TT acts bars i' b
  | none => ∀ j', first ≤ j' → ∀ i', ¬ TT acts bars i' j'
theorem tt_len {acts : List WAct} {bars : List Nat} {i j : Nat} (h : TT acts bars i j) : j < acts.length := by
  obtain ⟨_, _, u, hu, _⟩ := h
  exact (List.getElem?_eq_some_iff.mp hu).1
theorem first_spec {acts : List WAct} {bars : List Nat} : ∀ (ms : List Nat) (first : Nat), first ≤ acts.length → (∀ x ∈ ms, first ≤ x ∧ x ≤ acts.length) → ms.Pairwise (· < ·) → (∀ x ∈ bars, x ≤ first ∨ x ∈ ms) → (∀ x ∈ ms, x ∈ bars) → (first = 0 ∨ first ∈ bars) →
    DueFrom acts bars first (firstFault acts first (ms ++ [acts.length]))
  | ms, first, hfl, hms, hp, hb, hsub, hf0 => by
    -- the stretch from first to l: no bar within
    have key : ∀ l, first ≤ l → l ≤ acts.length → (∀ x ∈ ms, l ≤ x) → (∀ j', first ≤ j' → j' < l → ∀ i', (TT acts bars i' j' ↔ i' < j' ∧ first ≤ i' ∧ ∃ u, acts[j']? = some u ∧ RdsAt acts i' u.wk)) := by
      intro l h1 h2 h3 j' h4 h5 i'
      constructor
      · rintro ⟨a, b, c⟩
        refine ⟨a, ?_, c⟩
        rcases hf0 with rfl | hf0
        · exact Nat.zero_le _
        · have := b first hf0
          omega
      · rintro ⟨a, b, c⟩
        refine ⟨a, fun m hm => ?_, c⟩
        rcases hb m hm with h | h
        · omega
        · have := h3 m h
          omega
    have hit : ∀ l, first ≤ l → l ≤ acts.length → (∀ x ∈ ms, l ≤ x) → ∀ i b, faultFrom acts first l = some (i, b) → DueFrom acts bars first (some (i, b)) := by
      intro l h1 h2 h3 i b e
      have k := key l h1 h2 h3
      have sp := from_spec (first := first) h2 h1
      rw [e] at sp
      obtain ⟨s1, s2, ⟨s3, s4, u, s5, s6, s7⟩, s8⟩ := sp
      refine ⟨s1, (k b s1 s2 i).mpr ⟨s3, s4, u, s5, s6⟩, fun j' g1 g2 i' ht => ?_, fun i' g1 ht => ?_⟩
      · obtain ⟨t1, t2, w, t3, t4⟩ := (k j' g1 (by omega) i').mp ht
        exact s8 j' g1 g2 w t3 i' t2 t1 t4
      · obtain ⟨t1, t2, w, t3, t4⟩ := (k b s1 s2 i').mp ht
        rw [s5] at t3
        cases t3
        exact s7 i' t2 g1 t4
    have miss : ∀ l, first ≤ l → l ≤ acts.length → (∀ x ∈ ms, l ≤ x) → faultFrom acts first l = none → ∀ j', first ≤ j' → j' < l → ∀ i', ¬ TT acts bars i' j' := by
      intro l h1 h2 h3 e j' g1 g2 i' ht
      have sp := from_spec (first := first) h2 h1
      rw [e] at sp
      obtain ⟨t1, t2, w, t3, t4⟩ := (key l h1 h2 h3 j' g1 g2 i').mp ht
      exact sp j' g1 g2 w t3 i' t2 t1 t4
    match ms, hms, hp, hb, hsub, key, hit, miss with
    | [], hms, hp, hb, hsub, key, hit, miss =>
      show DueFrom acts bars first (firstFault acts first (acts.length :: []))
      cases e : faultFrom acts first acts.length with
      | some p =>
        obtain ⟨i, b⟩ := p
        rw [first_hit e]
        exact hit acts.length hfl (Nat.le_refl _) (fun x hx => by cases hx) i b e
      | none =>
        rw [first_miss e]
        intro j' g1 i' ht
        exact miss acts.length hfl (Nat.le_refl _) (fun x hx => by cases hx) e j' g1 (tt_len ht) i' ht
    | m :: ms, hms, hp, hb, hsub, key, hit, miss =>
      show DueFrom acts bars first (firstFault acts first (m :: (ms ++ [acts.length])))
      obtain ⟨m1, m2⟩ := hms m (List.mem_cons_self ..)
      obtain ⟨p1, p2⟩ := List.pairwise_cons.mp hp
      have hge : ∀ x ∈ m :: ms, m ≤ x := fun x hx => by
        rcases List.mem_cons.mp hx with rfl | hx
        · exact Nat.le_refl _
        · exact Nat.le_of_lt (p1 x hx)
      cases e : faultFrom acts first m with
      | some p =>
        obtain ⟨i, b⟩ := p
        rw [first_hit e]
        exact hit m m1 m2 hge i b e
      | none =>
        rw [first_miss e]
        have ih := first_spec (acts := acts) (bars := bars) ms m m2 (fun x hx => ⟨Nat.le_of_lt (p1 x hx), (hms x (List.mem_cons_of_mem _ hx)).2⟩) p2 (fun x hx => by
          rcases hb x hx with h | h
          · exact .inl (by omega)
          · rcases List.mem_cons.mp h with rfl | h
            · exact .inl (Nat.le_refl _)
            · exact .inr h) (fun x hx => hsub x (List.mem_cons_of_mem _ hx)) (.inr (hsub m (List.mem_cons_self ..)))
        have hm := miss m m1 m2 hge e
        revert ih
        cases firstFault acts m (ms ++ [acts.length]) with
        | none =>
          intro ih j' g1 i' ht
          by_cases c : j' < m
          · exact hm j' g1 c i' ht
          · exact ih j' (by omega) i' ht
        | some p =>
          obtain ⟨i, b⟩ := p
          rintro ⟨i1, i2, i3, i4⟩
          refine ⟨by omega, i2, fun j' g1 g2 i' ht => ?_, i4⟩
          by_cases c : j' < m
          · exact hm j' g1 c i' ht
          · exact i3 j' (by omega) g2 i' ht
/-- marks that rise, all in place -/
structure Rise (n : Nat) (ms : List Nat) : Prop where
  ok : ∀ m ∈ ms, 1 ≤ m ∧ m < n
  up : ms.Pairwise (· < ·)
theorem fault_due {acts : List WAct} {ms : List Nat} (h : Rise acts.length ms) : DueFrom acts ms 0 (firstFault acts 0 (ms ++ [acts.length])) :=
  first_spec ms 0 (Nat.zero_le _) (fun x hx => ⟨Nat.zero_le _, Nat.le_of_lt (h.ok x hx).2⟩) h.up (fun x hx => .inr hx) (fun x hx => hx) (.inl rfl)
theorem due_unique {acts : List WAct} {bars : List Nat} {o p : Option (Nat × Nat)} (h : DueFrom acts bars 0 o) (g : DueFrom acts bars 0 p) : o = p := by
  cases o with
  | none =>
    cases p with
    | none => rfl
    | some q =>
      obtain ⟨i, b⟩ := q
      exact absurd g.2.1 (h b (Nat.zero_le _) i)
  | some q =>
    obtain ⟨i, b⟩ := q
    cases p with
    | none => exact absurd h.2.1 (g b (Nat.zero_le _) i)
    | some r =>
      obtain ⟨i', b'⟩ := r
      obtain ⟨_, h1, h2, h3⟩ := h
      obtain ⟨_, g1, g2, g3⟩ := g
      have eb : b = b' := by
        rcases Nat.lt_trichotomy b b' with c | c | c
        · exact absurd h1 (g2 b (Nat.zero_le _) c i)
        · exact c
        · exact absurd g1 (h2 b' (Nat.zero_le _) c i')
      subst eb
      have ei : i = i' := by
        rcases Nat.lt_trichotomy i i' with c | c | c
        · exact absurd h1 (g3 i c)
        · exact c
        · exact absurd g1 (h3 i' c)
      subst ei
      rfl
/-! ### none has fewer marks than the fewest -/
theorem apart_len : ∀ (ps : List (Nat × Nat)) (ms : List Nat), ps.Pairwise (fun p q => p.2 ≤ q.1) → (∀ p ∈ ps, ∃ m ∈ ms, p.1 < m ∧ m ≤ p.2) → ps.length ≤ ms.length
  | [], _, _, _ => Nat.zero_le _
  | p :: ps, ms, hp, h => by
    obtain ⟨p1, p2⟩ := List.pairwise_cons.mp hp
    obtain ⟨m, hm, m1, m2⟩ := h p (List.mem_cons_self ..)
    have ih := apart_len ps (ms.filter fun z => decide (p.2 < z)) p2 fun q hq => by
      obtain ⟨z, hz, z1, z2⟩ := h q (List.mem_cons_of_mem _ hq)
      have := p1 q hq
      exact ⟨z, List.mem_filter.mpr ⟨hz, decide_eq_true (by omega)⟩, z1, z2⟩
    have hlt : (ms.filter fun z => decide (p.2 < z)).length < ms.length := by
      rcases Nat.lt_or_ge (ms.filter fun z => decide (p.2 < z)).length ms.length with c | c
      · exact c
      · have e := List.length_filter_eq_length_iff.mp (Nat.le_antisymm (List.length_filter_le _ _) c) m hm
        have := of_decide_eq_true e
        omega
    rw [List.length_cons]
    omega
theorem few_least {acts : List WAct} {ms : List Nat} (h : Rise acts.length ms) (hn : firstFault acts 0 (ms ++ [acts.length]) = none) : (few acts).1.length ≤ ms.length := by
  have hd := fault_due h
  rw [hn] at hd
  obtain ⟨o1, o2⟩ := few_ok acts
  have hll : (few acts).1.length = (few acts).2.length := by
    have e := congrArg List.length (few_marks acts [] 0)
    rw [List.length_map] at e
    exact e
  rw [hll]
  refine apart_len _ _ o2 fun p hp => ?_
  obtain ⟨a1, a2, t, u, a3, a4, a5, a6⟩ := o1 p hp
  have hnt := hd p.2 (Nat.zero_le _) p.1
  refine Classical.byContradiction fun hc => hnt ⟨a2, fun m hm hh => hc ⟨m, hm, hh⟩, u, a4, t, a3, a5, a6⟩
theorem few_rise (acts : List WAct) : Rise acts.length (few acts).1 := ⟨(few_marks_ok acts).1, (few_marks_ok acts).2⟩
/-! ### all lists of marks -/
def allM : Nat → List (List Nat)
  | 0 => [[]]
  | k + 1 => allM k ++ (allM k).map (· ++ [k + 1])
theorem allM_len : ∀ k, (allM k).length = 2 ^ k
  | 0 => rfl
  | k + 1 => by rw [allM, List.length_append, List.length_map, allM_len k, Nat.pow_succ]; omega
theorem allM_rise : ∀ (k : Nat) (l : List Nat), l ∈ allM k → (∀ x ∈ l, 1 ≤ x ∧ x ≤ k) ∧ l.Pairwise (· < ·)
  | 0, l, h => by
    rw [List.mem_singleton.mp h]
    exact ⟨fun x hx => (List.not_mem_nil hx).elim, List.Pairwise.nil⟩
  | k + 1, l, h => by
    rcases List.mem_append.mp h with h | h
    · obtain ⟨h1, h2⟩ := allM_rise k l h
      exact ⟨fun x hx => ⟨(h1 x hx).1, by have := (h1 x hx).2; omega⟩, h2⟩
    · obtain ⟨l', hl', rfl⟩ := List.mem_map.mp h
      obtain ⟨h1, h2⟩ := allM_rise k l' hl'
      refine ⟨fun x hx => ?_, List.pairwise_append.mpr ⟨h2, List.pairwise_singleton _ _, fun a ha b hb => ?_⟩⟩
      · rcases List.mem_append.mp hx with hx | hx
        · have := h1 x hx
          omega
        · rw [List.mem_singleton.mp hx]
          omega
      · rw [List.mem_singleton.mp hb]
        have := (h1 a ha).2
        omega
theorem allM_all : ∀ (k : Nat) (l : List Nat), (∀ x ∈ l, 1 ≤ x ∧ x ≤ k) → l.Pairwise (· < ·) → l ∈ allM k
  | 0, l, h, _ => by
    cases l with
    | nil => exact List.mem_singleton.mpr rfl
    | cons x l =>
      have := h x (List.mem_cons_self ..)
      omega
  | k + 1, l, h, hp => by
    by_cases e : k + 1 ∈ l
    · have hne : l ≠ [] := fun z => by rw [z] at e; cases e
      have es := List.dropLast_concat_getLast hne
      rw [← es] at hp e h
      obtain ⟨q1, _, q3⟩ := List.pairwise_append.mp hp
      have hlast : l.getLast hne = k + 1 := by
        rcases List.mem_append.mp e with e | e
        · have h1 := q3 _ e _ (List.mem_singleton.mpr rfl)
          have h2 := (h (l.getLast hne) (List.mem_append_right _ (List.mem_singleton.mpr rfl))).2
          omega
        · exact (List.mem_singleton.mp e).symm
      rw [← es, hlast]
      refine List.mem_append_right _ (List.mem_map.mpr ⟨_, allM_all k l.dropLast (fun x hx => ?_) q1, rfl⟩)
      have h1 := h x (List.mem_append_left _ hx)
      have h2 := q3 x hx _ (List.mem_singleton.mpr rfl)
      omega
    · refine List.mem_append_left _ (allM_all k l (fun x hx => ?_) hp)
      have h1 := h x hx
      have h2 : x ≠ k + 1 := fun z => by rw [z] at hx; exact e hx
      omega
/-- lists of marks as values -/
def LV (F : Hp) : List V → List (List Nat) → Prop
  | [], [] => True
  | v :: vs, m :: ms => (∃ p, v = .ref p ∧ F p = some (.lst (nV m))) ∧ LV F vs ms
  | _, _ => False
theorem LV.same {F F2 : Hp} (w : Same F F2) : ∀ {vs : List V} {ps : List (List Nat)}, LV F vs ps → LV F2 vs ps
  | [], [], _ => trivial
  | v :: vs, p :: ps, ⟨⟨t, e1, e2⟩, h⟩ => ⟨⟨t, e1, w _ _ e2⟩, LV.same w h⟩
theorem LV.len {F : Hp} : ∀ {vs : List V} {ps : List (List Nat)}, LV F vs ps → vs.length = ps.length
  | [], [], _ => rfl
  | v :: vs, p :: ps, ⟨_, h⟩ => congrArg (· + 1) (LV.len h)
theorem LV.app {F : Hp} : ∀ {vs us : List V} {ps qs : List (List Nat)}, LV F vs ps → LV F us qs → LV F (vs ++ us) (ps ++ qs)
  | [], _, [], _, _, h => h
  | v :: vs, us, p :: ps, qs, ⟨h1, h⟩, g => ⟨h1, LV.app h g⟩
theorem LV.get {F : Hp} : ∀ {vs : List V} {ps : List (List Nat)} {i : Nat} {v : V}, LV F vs ps → vs[i]? = some v → ∃ p t, ps[i]? = some p ∧ v = .ref t ∧ F t = some (.lst (nV p))
  | [], [], i, v, _, e => by simp at e
  | u :: vs, p :: ps, 0, v, ⟨⟨t, e1, e2⟩, _⟩, e => by
    have e' := Option.some.inj e
    subst e'
    exact ⟨p, t, rfl, e1, e2⟩
  | u :: vs, p :: ps, i + 1, v, ⟨_, h⟩, e => LV.get (i := i) h e
theorem LV.cut {F : Hp} : ∀ {vs : List V} {ps : List (List Nat)} (i : Nat), LV F vs ps → LV F (vs.take i) (ps.take i) ∧ LV F (vs.drop i) (ps.drop i)
  | [], [], i, _ => by rw [List.take_nil, List.take_nil, List.drop_nil, List.drop_nil]; exact ⟨trivial, trivial⟩
  | v :: vs, p :: ps, 0, h => ⟨trivial, h⟩
  | v :: vs, p :: ps, i + 1, ⟨h1, h⟩ => ⟨⟨h1, (LV.cut i h).1⟩, (LV.cut i h).2⟩
theorem allM_size : ∀ (k : Nat) (l : List Nat), l ∈ allM k → l.length ≤ k
  | 0, l, h => by
    rw [List.mem_singleton.mp h]
    exact Nat.le_refl _
  | k + 1, l, h => by
    rcases List.mem_append.mp h with h | h
    · have := allM_size k l h
      omega
    · obtain ⟨l', hl', rfl⟩ := List.mem_map.mp h
      have := allM_size k l' hl'
      rw [List.length_append, List.length_singleton]
      omega
theorem rise_len {n : Nat} {ms : List Nat} (h : Rise n ms) : ms.length ≤ n - 1 := by
  have hsub : ∀ (l : List Nat) (lo n : Nat), l.Pairwise (· < ·) → (∀ m ∈ l, lo ≤ m ∧ m < n) → l.length ≤ n - lo := by
    intro l
    induction l with
    | nil => intro lo n _ _; exact Nat.zero_le _
    | cons k l ih =>
      intro lo n hp hb
      obtain ⟨h1, h2⟩ := List.pairwise_cons.mp hp
      have h3 := hb k (List.mem_cons_self ..)
      have := ih (k + 1) n h2 fun m hm => ⟨h1 m hm, (hb m (List.mem_cons_of_mem _ hm)).2⟩
      rw [List.length_cons]
      omega
  exact hsub ms 1 n h.up h.ok
theorem rise_all {n : Nat} {l : List Nat} (h : l ∈ allM (n - 1)) : Rise n l := by
  obtain ⟨h1, h2⟩ := allM_rise _ l h
  refine ⟨fun m hm => ?_, h2⟩
  have := h1 m hm
  omega
theorem all_rise {n : Nat} {l : List Nat} (h : Rise n l) : l ∈ allM (n - 1) := by
  refine allM_all _ l (fun x hx => ?_) h.up
  have := h.ok x hx
  omega
theorem eqv_keys (a b : Str) (x : Key) (n : Int) : PyData.eqv (.tuple [.str a, keyD x]) (.tuple [.str b, .int n]) = decide (([.inr a, x] : List Key) = [.inr b, .inl n]) := by
  cases x with
  | inl i =>
    show ((a == b) && ((i == n) && true)) = _
    by_cases h1 : a = b
    · subst h1
      by_cases h2 : i = n
      · subst h2
        simp
      · simp [h2]
    · simp [h1]
  | inr z =>
    show ((a == b) && (false && true)) = _
    simp
theorem cutT (xs : List V) (k : Nat) : cutV xs none (some (k : Int)) = xs.take k := by
  unfold cutV
  rw [HT.sIx_none, HT.sIx_nat, List.drop_zero, Nat.sub_zero]
  by_cases h : k ≤ xs.length
  · rw [Nat.min_eq_left h]
  · rw [Nat.min_eq_right (by omega), List.take_of_length_le (Nat.le_refl _), List.take_of_length_le (by omega)]
theorem cutD (xs : List V) (k : Nat) : cutV xs (some (k : Int)) none = xs.drop k := by
  unfold cutV
  rw [HT.sIx_none, HT.sIx_nat]
  by_cases h : k ≤ xs.length
  · rw [Nat.min_eq_left h]
    exact List.take_of_length_le (by rw [List.length_drop]; exact Nat.le_refl _)
  · rw [Nat.min_eq_right (by omega), Nat.sub_self, List.take_zero, List.drop_eq_nil_of_le (by omega)]
theorem dpa_take {K : PySem.W.Frag} {F : Hp} : ∀ {vs : List V} {ds : List PyData} (n : Nat), DpAll K F vs ds → DpAll K F (vs.take n) (ds.take n)
  | _, _, 0, _ => by rw [List.take_zero, List.take_zero]; exact .nil
  | _, _, n + 1, .nil => by rw [List.take_nil, List.take_nil]; exact .nil
  | _, _, n + 1, .cons h t => by rw [List.take_succ_cons, List.take_succ_cons]; exact .cons h (dpa_take n t)
theorem tt_keys {acts : List WAct} {bars : List Nat} {i j : Nat} {t u : WAct} (ht : acts[i]? = some t) (hu : acts[j]? = some u) : TT acts bars i j ↔ i < j ∧ (∀ m ∈ bars, ¬ (i < m ∧ m ≤ j)) ∧ t.s ≠ "sign" ∧ t.rk = u.wk := by
  constructor
  · rintro ⟨a, b, w, c, d⟩
    rw [hu] at c
    cases c
    obtain ⟨e1, e2⟩ := rds_at ht d
    exact ⟨a, b, e1, e2⟩
  · rintro ⟨a, b, c, d⟩
    exact ⟨a, b, u, hu, t, ht, c, d⟩
/-! ### promises -/
def φdue (K : PySem.W.Frag) : V → V → Hp → VK → Prop := fun x y H Q => ∃ (F : Hp) (acts : List WAct) (m : Addr) (ms : List Nat), y = .ref m ∧ Same F H ∧ Dp K F x (.list (acts.map WAct.d)) ∧ F m = some (.lst (nV ms)) ∧ (∀ t ∈ acts, t.ok) ∧ acts.length ≤ 100000 ∧ ms.length ≤ 100000 ∧
  ∀ (v : V) (o : Option (Nat × Nat)) (F2 H2 : Hp), Gr [] F H F2 H2 → ResV F2 v o → DueFrom acts ms 0 o → Q v H2
def φall_marks (K : PySem.W.Frag) : V → Hp → VK → Prop := fun x H Q => ∃ (F : Hp) (n : Int), x = .int n ∧ Same F H ∧ 0 ≤ n ∧ n ≤ 9 ∧
  ∀ (L : Addr) (vs : List V) (F2 H2 : Hp), Gr [] F H F2 H2 → F2 L = some (.lst vs) → LV F2 vs (allM (n - 1).toNat) → Q (.ref L) H2
end R

namespace Z
open PySem PySem.Spec PyProof.Rows L2 R

local macro_rules | `(tactic| walk_at "sq") => `(tactic| first
  | assumption
  | exact sqL_of upd_same
  | exact sqL_of (by assumption)
  | exact sqL_same (by assumption) (by assumption)
  | exact Mu.sq (by assumption)
  | exact sqL_same (Gr.ws (by assumption)) (by assumption)
  | exact sqL_same (Gr.fh (by assumption)) (by assumption))
local macro_rules | `(tactic| walk_at "st") => `(tactic| first
  | assumption
  | exact sqT_of upd_same
  | exact sqT_of (by assumption)
  | exact sqT_same (by assumption) (by assumption)
  | exact sqT_same (Gr.ws (by assumption)) (by assumption)
  | exact sqT_same (Gr.fh (by assumption)) (by assumption))
local macro_rules | `(tactic| walk_at "wp") => `(tactic| dsimp only [wipe, List.map, List.set_cons_succ, List.set_cons_zero])
local macro_rules | `(tactic| walk_at "go1") => `(tactic| first
  | with_reducible refine w_seq ?_
  | with_reducible refine w_asg ?_
  | with_reducible refine w_v0 ?_ | with_reducible refine w_v1 ?_ | with_reducible refine w_v2 ?_ | with_reducible refine w_v3 ?_
  | with_reducible refine w_v4 ?_ | with_reducible refine w_v5 ?_ | with_reducible refine w_v6 ?_ | with_reducible refine w_v7 ?_
  | with_reducible refine w_v8 ?_ | with_reducible refine w_v9 ?_ | with_reducible refine w_v10 ?_ | with_reducible refine w_v11 ?_
  | with_reducible refine w_v12 ?_ | with_reducible refine w_v13 ?_
  | with_reducible refine w_n0 ?_ | with_reducible refine w_n1 ?_ | with_reducible refine w_n2 ?_ | with_reducible refine w_n3 ?_
  | with_reducible refine w_n4 ?_ | with_reducible refine w_n5 ?_ | with_reducible refine w_n6 ?_ | with_reducible refine w_n7 ?_
  | with_reducible refine w_n8 ?_ | with_reducible refine w_n9 ?_ | with_reducible refine w_n10 ?_ | with_reducible refine w_n11 ?_
  | with_reducible refine w_n12 ?_ | with_reducible refine w_n13 ?_
  | with_reducible refine w_c ?_ | with_reducible refine w_op ?_ | with_reducible refine w_un ?_
  | with_reducible refine w_add ?_ | with_reducible refine w_subt ?_
  | with_reducible refine w_lt ?_ | with_reducible refine w_le ?_ | with_reducible refine w_gt ?_ | with_reducible refine w_ge ?_
  | ((with_reducible refine w_mul ?c ?_); (case c => first | exact .inl ⟨by omega, by omega⟩ | exact .inr ⟨by omega, by omega⟩))
  | ((with_reducible refine w_mod ?c ?_); (case c => first | omega | decide))
  | ((with_reducible refine w_fdiv ?c ?_); (case c => exact divw_ok (by omega) (by omega)))
  | ((with_reducible refine w_pow ?c ?_); (case c => exact ⟨by omega, by omega, by omega⟩))
  | with_reducible refine w_neg ?_ | with_reducible refine w_bits ?_
  | with_reducible refine w_eqI ?_ | with_reducible refine w_neI ?_ | with_reducible refine w_eqS ?_ | with_reducible refine w_neS ?_
  | with_reducible refine w_eqB ?_ | with_reducible refine w_neB ?_ | with_reducible refine w_isN ?_ | with_reducible refine w_notN ?_
  | with_reducible refine w_test ?_ | with_reducible refine w_tB ?_ | with_reducible refine w_asBl ?_
  | with_reducible refine w_and ?_ | with_reducible refine w_or ?_ | with_reducible refine w_not ?_ | with_reducible refine w_if ?_
  | with_reducible refine w_truth ?_ | with_reducible refine w_yes ?_
  | with_reducible refine w_andV ?_ | with_reducible refine w_orV ?_ | with_reducible refine w_notV ?_
  | with_reducible refine w_nil ?_ | with_reducible refine w_cons ?_ | with_reducible refine w_call ?_ | with_reducible refine w_callN ?_
  | with_reducible refine w_CB ?_ | with_reducible refine w_tup ?_ | with_reducible refine w_lst ?_ | with_reducible refine w_sl ?_
  | with_reducible refine w_nop ?_ | with_reducible refine w_part ?_ | with_reducible refine w_asInt ?_
  | with_reducible refine w_BM0 ?_ | with_reducible refine w_BM ?_ | with_reducible refine w_M0 ?_ | with_reducible refine w_M1 ?_
  | with_reducible refine w_asStr ?_ | with_reducible refine w_sub ?_
  | with_reducible refine w_ret ?_ | with_reducible refine w_retN ?_ | with_reducible refine w_drop ?_ | with_reducible refine w_ifS ?_
  | with_reducible refine w_nx ?_ | with_reducible refine w_cont ?_ | with_reducible refine w_brk ?_
  | with_reducible refine w_for ?_ | with_reducible refine w_rng1 ?_ | with_reducible refine w_rng2 ?_ | with_reducible refine w_ilist ?_ | with_reducible refine w_itup ?_ | with_reducible refine w_istr ?_
  | with_reducible refine w_lc ?_
  | with_reducible refine w_dnewT ?_ | with_reducible refine w_dnewK ?_ | with_reducible refine w_dget ?_ | with_reducible refine w_din ?_
  | with_reducible refine w_dnotin ?_ | with_reducible refine w_dput ?_ | with_reducible refine w_dsetT ?_ | with_reducible refine w_rg2 ?_
  | with_reducible refine w_chain3 ?_ | with_reducible refine w_chain ?_
  | ((with_reducible apply w_lenQT _ ?c); (case c => walk_at "st"))
  | with_reducible refine w_tt ?_ | with_reducible refine w_ff ?_ | with_reducible refine w_ntt ?_ | with_reducible refine w_nff ?_
  | with_reducible refine w_int1 ?_ | with_reducible refine w_int1b ?_ | with_reducible refine w_abs ?_
  | with_reducible refine w_min2 ?_ | with_reducible refine w_max2 ?_ | with_reducible refine w_min3 ?_
  | ((with_reducible apply w_ixL _ _ ?c ?d); (case c => walk_at "sq"); (case d => rfl))
  | ((with_reducible apply w_b1 _ _ _ _ _ ?c); (case c => first | exact upd_same | assumption))
  | ((with_reducible apply w_b2 _ _ _ _ _ ?c); (case c => first | exact upd_same | assumption))
  | ((with_reducible apply w_b3 _ _ _ _ _ ?c); (case c => first | exact upd_same | assumption))
  | ((with_reducible apply w_b4 _ _ _ _ _ ?c); (case c => first | exact upd_same | assumption))
  | ((with_reducible apply w_setL _ _ ?c ?d); (case c => first | exact upd_same | assumption); (case d => rfl))
  | ((with_reducible apply w_lenQ _ ?c); (case c => walk_at "sq"))
  | ((with_reducible apply w_ixT _ _ ?c ?d); (case c => walk_at "st"); (case d => rfl))
  | ((with_reducible apply w_lenS ?c); (case c => first | assumption | exact szle (by omega)))
  | ((with_reducible apply w_tgt _ ?c ?d); (case c => walk_at "st"); (case d => rfl)) | with_reducible refine w_gc ?_ | with_reducible refine w_gn ?_
  | with_reducible refine w_self ?_ | with_reducible refine w_nself ?_
  | ((with_reducible refine w_iteF ?c ?_); (case c => decide +kernel))
  | ((with_reducible refine w_iteT ?c ?_); (case c => decide +kernel))
  | with_reducible refine w_lstRg ?_ | with_reducible refine w_rg1 ?_ | with_reducible refine w_revL ?_
  | ((with_reducible apply w_app _ ?c ?d); (case c => first | exact upd_same | assumption | exact Mu.h (by assumption)); (case d => first | exact small_lt (by omega) | assumption))
  | ((with_reducible apply w_tyL _ ?c); (case c => walk_at "sq"))
  | ((with_reducible apply w_slL _ ?c); (case c => walk_at "sq"))
  | ((with_reducible apply w_listOf _ ?c); (case c => walk_at "sq")))
local macro_rules | `(tactic| walk_at "go") => `(tactic| repeat walk_at "go1")

def topS (i : Nat) : Stmt := PySem.Challenge.pw_remadehere_k59_whole_all_marks_of_small.main.body.getD i (.Pass ⟨0, 0, 0, 0⟩)
abbrev s_stretch_fault : Stmt := topS 1
theorem sc_stretch_fault : FnScope ["some", "first", "last", "seen", "j", "where", "number", "source", "what"] ["some", "first", "last"] (defScope s_stretch_fault) := ⟨rfl, rfl, rfl, by decide +kernel, rfl, by decide +kernel, by decide +kernel⟩
abbrev s_mark_fault : Stmt := topS 2
theorem sc_mark_fault : FnScope ["some", "marks", "first", "last", "fault"] ["some", "marks"] (defScope s_mark_fault) := ⟨rfl, rfl, rfl, by decide +kernel, rfl, by decide +kernel, by decide +kernel⟩
abbrev s_fewest_marks : Stmt := topS 3
theorem sc_fewest_marks : FnScope ["some", "marks", "pairs", "seen", "j", "where", "number", "source", "what"] ["some"] (defScope s_fewest_marks) := ⟨rfl, rfl, rfl, by decide +kernel, rfl, by decide +kernel, by decide +kernel⟩
abbrev s_law_bag : Stmt := topS 5
theorem sc_law_bag : FnScope ["script", "stir", "cell"] ["script"] (defScope s_law_bag) := ⟨rfl, rfl, rfl, by decide +kernel, rfl, by decide +kernel, by decide +kernel⟩
abbrev s_law_stirred : Stmt := topS 6
theorem sc_law_stirred : FnScope ["bag", "many", "got", "k"] ["bag", "many"] (defScope s_law_stirred) := ⟨rfl, rfl, rfl, by decide +kernel, rfl, by decide +kernel, by decide +kernel⟩
abbrev s_law_draw : Stmt := topS 7
theorem sc_law_draw : FnScope ["bag", "many", "got"] ["bag", "many"] (defScope s_law_draw) := ⟨rfl, rfl, rfl, by decide +kernel, rfl, by decide +kernel, by decide +kernel⟩
abbrev s_law_sign : Stmt := topS 8
theorem sc_law_sign : FnScope ["bag", "few", "acts"] ["bag", "few"] (defScope s_law_sign) := ⟨rfl, rfl, rfl, by decide +kernel, rfl, by decide +kernel, by decide +kernel⟩
abbrev s_law_text : Stmt := topS 9
theorem sc_law_text : FnScope ["bag", "few", "many", "k"] ["bag", "few", "many"] (defScope s_law_text) := ⟨rfl, rfl, rfl, by decide +kernel, rfl, by decide +kernel, by decide +kernel⟩
abbrev s_law_any_row : Stmt := topS 10
theorem sc_law_any_row : FnScope ["bag", "has", "few", "wide", "kind", "target", "source", "to", "at", "many", "run", "k"] ["bag", "has", "few", "wide"] (defScope s_law_any_row) := ⟨rfl, rfl, rfl, by decide +kernel, rfl, by decide +kernel, by decide +kernel⟩
abbrev s_law_any_plan : Stmt := topS 11
theorem sc_law_any_plan : FnScope ["bag", "n", "big", "slots", "rows", "few", "most", "wide", "has", "deeds", "left", "k", "row", "place"] ["bag", "n", "big", "slots", "rows", "few", "most"] (defScope s_law_any_plan) := ⟨rfl, rfl, rfl, by decide +kernel, rfl, by decide +kernel, by decide +kernel⟩
abbrev s_law_row_writes : Stmt := topS 12
theorem sc_law_row_writes : FnScope ["row", "got", "k", "step", "where"] ["row"] (defScope s_law_row_writes) := ⟨rfl, rfl, rfl, by decide +kernel, rfl, by decide +kernel, by decide +kernel⟩
abbrev s_law_writes : Stmt := topS 13
theorem sc_law_writes : FnScope ["deeds", "got", "row"] ["deeds"] (defScope s_law_writes) := ⟨rfl, rfl, rfl, by decide +kernel, rfl, by decide +kernel, by decide +kernel⟩
abbrev s_law_number : Stmt := topS 14
theorem sc_law_number : FnScope ["bag", "base", "wide"] ["bag", "base", "wide"] (defScope s_law_number) := ⟨rfl, rfl, rfl, by decide +kernel, rfl, by decide +kernel, by decide +kernel⟩
abbrev s_law_any_writes : Stmt := topS 15
theorem sc_law_any_writes : FnScope ["bag", "many", "wide", "base", "acts", "k", "where", "source", "number", "what"] ["bag", "many"] (defScope s_law_any_writes) := ⟨rfl, rfl, rfl, by decide +kernel, rfl, by decide +kernel, by decide +kernel⟩
abbrev s_law_alike : Stmt := topS 16
theorem sc_law_alike : FnScope ["got", "due", "k"] ["got", "due"] (defScope s_law_alike) := ⟨rfl, rfl, rfl, by decide +kernel, rfl, by decide +kernel, by decide +kernel⟩
abbrev s_law_due : Stmt := topS 17
theorem sc_law_due : FnScope ["acts", "bars", "j", "i", "parted", "m"] ["acts", "bars"] (defScope s_law_due) := ⟨rfl, rfl, rfl, by decide +kernel, rfl, by decide +kernel, by decide +kernel⟩
abbrev s_law_all_marks : Stmt := topS 18
theorem sc_law_all_marks : FnScope ["many", "lists", "m", "bars"] ["many"] (defScope s_law_all_marks) := ⟨rfl, rfl, rfl, by decide +kernel, rfl, by decide +kernel, by decide +kernel⟩
abbrev s_law : Stmt := topS 19
theorem sc_law : FnScope ["script", "bag", "few", "turn", "many", "acts", "big", "lists", "told", "least", "bars", "due", "got"] ["script"] (defScope s_law) := ⟨rfl, rfl, rfl, by decide +kernel, rfl, by decide +kernel, by decide +kernel⟩
structure Txt (K : PySem.W.Frag) (mg : Str → Option Value) : Prop where
  b_abs : mg "abs" = none
  b_all : mg "all" = none
  b_bool : mg "bool" = none
  b_int : mg "int" = none
  b_isinstance : mg "isinstance" = none
  b_len : mg "len" = none
  b_list : mg "list" = none
  b_max : mg "max" = none
  b_min : mg "min" = none
  b_range : mg "range" = none
  b_str : mg "str" = none
  b_tuple : mg "tuple" = none
section
variable {P : Program} {w : World} {K : PySem.W.Frag} {mg : Str → Option Value} {base : Heap}
-- stretch_fault
theorem ok_stretch_fault {f : Addr} {fd : FuncData} (F : FunD K "stretch_fault" "stretch_fault" (defArgs s_stretch_fault) (defBody s_stretch_fault) (defScope s_stretch_fault) [] [] f fd) (T : Txt K mg)  : FnOk P w K mg base CX0 1 f fd ["some", "first", "last"] (S3 (φfault K)) := by
  refine F.ok sc_stretch_fault (fun vs H Q E h => ?_) (fun cdv A outer s H vs Q E hr h => ?_)
  · exact S3.len h
  · match vs, h with
    | [v0, v1, v2], h =>
    have hu := hu_of hr
    refine ⟨_, PSs.nox (pss_cons (ps_set (i := 3) sc_stretch_fault.nd rfl (.inl rfl) pe_dnewT)
      (pss_cons (ps_for PassesOwn.never rfl (pi_range2 rfl T.b_range (pa_cons (pv 1) (pa_cons (pv 2) pa_nil))) (pg_name (i := 4) sc_stretch_fault.nd rfl (.inl rfl)) (pss_cons (ps_asg (pe_ix (ixL (K := K)) (pv 0) (pv 4) (fun _ _ => rfl)) (pg_tup (by rfl) (pgs_cons (pg_name (i := 5) sc_stretch_fault.nd rfl (.inl rfl)) (pgs_cons (pg_name (i := 6) sc_stretch_fault.nd rfl (.inl rfl)) (pgs_cons (pg_name (i := 7) sc_stretch_fault.nd rfl (.inl rfl)) (pgs_cons (pg_name (i := 8) sc_stretch_fault.nd rfl (.inl rfl)) pgs_nil))))))
      (pss_cons (ps_if (pt_cmp (pc_din hu (pe_tup (pa_cons (pv 5) (pa_cons (pv 6) pa_nil))) (pv 3))) (pss_one (ps_ret (pe_tup (pa_cons (pe_dget hu (pv 3) (pe_tup (pa_cons (pv 5) (pa_cons (pv 6) pa_nil))) (fun _ _ => rfl)) (pa_cons (pv 4) pa_nil))))) pss_nil)
      (pss_one (ps_if (pt_cmpR op_ne (pv 7) pe_str (nomark _)) (pss_one (ps_expr (pe_dsetT hu (pv 3) (pe_tup (pa_cons (pv 7) (pa_cons (pv 8) pa_nil))) (pv 4) ⟨rfl, rfl, rfl, rfl⟩))) pss_nil)))))
      (pss_one (ps_ret pe_non)))), ?_⟩
    rw [show start ["some", "first", "last", "seen", "j", "where", "number", "source", "what"] [v0, v1, v2] = [some v0, some v1, some v2, none, none, none, none, none, none] from rfl]
    obtain ⟨F, acts, first, last, rfl, rfl, hw, hx, hf, hl, hn, q⟩ := h
    obtain ⟨a, us, rfl, hS, dus⟩ := dp_list hx
    walk_at "go"
    intro D nD
    have g1 : Gr [] F H F (upd H D (.dT [])) := .new hw nD
    walk_at "go"
    refine ⟨first, last, rfl, ⟨by omega, by omega, by omega, by omega⟩, f_range (lo := (first : Int)) (n := ((last : Int) - first).toNat) (fun i σ H' => ∃ (F2 : Hp) (kvs : List (List Key × Nat)) (y4 y5 y6 y7 y8 : Option V), σ = [some (.ref a), some (.int (first : Nat)), some (.int (last : Nat)), some (.ref D), y4, y5, y6, y7, y8] ∧ Gr [] F H F2 H' ∧ Mu F2 H' D (.dT (toV kvs)) ∧ kvs.length ≤ i ∧ faultFrom acts first last = faultGo ((stretch acts first last).drop i) kvs (first + i)) ⟨F, [], none, none, none, none, none, rfl, g1, Mu.new hw nD, Nat.le_refl _, rfl⟩ (fun i σ H' hi hp => ?_) (fun σ H' hp => ?_)⟩
    · obtain ⟨F2, kvs, y4, y5, y6, y7, y8, rfl, g, mD, hk, hq⟩ := hp
      have hi' : i < last - first := by omega
      obtain ⟨t, ht, er⟩ := stretch_at hi' hl
      obtain ⟨p0, gp, hT⟩ := act_at dus ht
      have hT' := sqT_same g.ws hT
      rw [er] at hq
      walk_at "go"
      refine w_ixL _ _ (sqL_same g.ws hS) (at_of' (j := first + i) (by omega) gp) ?_
      walk_at "go"
      refine ⟨le1000 (by simp), fun p np => ?_⟩
      replace mD := mD.addm (u := .tup [.str t.w, .int t.n]) np
      replace g := g.addm (o := .tup [.str t.w, .int t.n]) np
      walk_at "go"
      cases e : getN kvs t.wk with
      | some i0 =>
        rw [go_hit e] at hq
        refine w_dinT (ks := t.wk) mD.h upd_same (valV_some e) ?_
        walk_at "go"
        refine ⟨le1000 (by simp), fun p2 np2 => ?_⟩
        replace mD := mD.addm (u := .tup [.str t.w, .int t.n]) np2
        replace g := g.addm (o := .tup [.str t.w, .int t.n]) np2
        refine w_dgetT (ks := t.wk) mD.h upd_same (valV_some e) ?_
        walk_at "go"
        refine ⟨le1000 (by simp), fun p3 np3 => ?_⟩
        refine q _ _ _ (g.add np3) ?_
        rw [hq]
        refine ⟨p3, rfl, ?_⟩
        rw [Int.natCast_add]
        exact upd_same
      | none =>
        rw [go_miss e] at hq
        refine w_dinF (ks := t.wk) mD.h upd_same (valV_none e) ?_
        walk_at "go"
        refine w_iteN (fun hs => ?_) (fun hs => ?_)
        · walk_at "go"
          refine ⟨D, rfl, .inr ⟨_, .inl mD.h⟩, ?_⟩
          walk_at "go"
          refine ⟨le1000 (by simp), fun p2 np2 => ?_⟩
          replace mD := mD.addm (u := .tup [.str t.s, kV t.x]) np2
          replace g := g.addm (o := .tup [.str t.s, kV t.x]) np2
          walk_at "go"
          refine ⟨p2, toV kvs, t.rk, mD.h, rfl, upd_same, small_lt (by unfold toV; rw [List.length_map]; omega), fun v hv => ?_, fun hv => ?_⟩
          · cases e2 : getN kvs t.rk with
            | none =>
              rw [valV_none e2] at hv
              cases hv
            | some i0 =>
              rw [step_old hs e2] at hq
              exact ⟨F2, kvs, _, _, _, _, _, rfl, g, mD, by omega, hq⟩
          · cases e2 : getN kvs t.rk with
            | some i0 =>
              rw [valV_some e2] at hv
              cases hv
            | none =>
              rw [step_new hs e2] at hq
              rw [← Int.natCast_add, put_toV e2]
              exact ⟨F2, _, _, _, _, _, _, rfl, g.wrn mD.n nD, mD.wr, by rw [List.length_append, List.length_singleton]; omega, hq⟩
        · walk_at "go"
          rw [step_sign hs] at hq
          exact ⟨F2, kvs, _, _, _, _, _, rfl, g, mD, by omega, hq⟩
    · obtain ⟨F2, kvs, y4, y5, y6, y7, y8, rfl, g, mD, hk, hq⟩ := hp
      walk_at "go"
      refine q _ _ _ g ?_
      rw [hq, List.drop_eq_nil_of_le (by rw [stretch_len _ _ _ hl]; omega)]
      rfl
-- mark_fault
theorem ok_mark_fault {f : Addr} {fd : FuncData} (F : FunD K "mark_fault" "mark_fault" (defArgs s_mark_fault) (defBody s_mark_fault) (defScope s_mark_fault) [] [] f fd) (T : Txt K mg) (D_stretch_fault : DO P w K mg base 1 "stretch_fault" ["some", "first", "last"] [] (S3 (φfault K))) : FnOk P w K mg base CX0 2 f fd ["some", "marks"] (S2 (φmark K)) := by
  refine F.ok sc_mark_fault (fun vs H Q E h => ?_) (fun cdv A outer s H vs Q E hr h => ?_)
  · exact S2.len h
  · match vs, h with
    | [v0, v1], h =>
    have hu := hu_of hr
    refine ⟨_, PSs.nox (pss_cons (ps_set (i := 2) sc_mark_fault.nd rfl (.inl rfl) pe_int)
      (pss_cons (ps_for PassesOwn.never rfl (pi_list (pe_op op_cat (pv 1) (pe_lst (pa_cons (pe_callB (clLenQ (K := K)) (by rfl) T.b_len (by decide +kernel) (pa_cons (pv 0) pa_nil)) pa_nil)))) (pg_name (i := 3) sc_mark_fault.nd rfl (.inl rfl)) (pss_cons (ps_set (i := 4) sc_mark_fault.nd rfl (.inl rfl) (pcall D_stretch_fault hr (pa_cons (pv 0) (pa_cons (pv 2) (pa_cons (pv 3) pa_nil)))))
      (pss_cons (ps_if (pt_cmp (pc_notN (pv 4)) (by rfl)) (pss_one (ps_ret (pv 4))) pss_nil)
      (pss_one (ps_set (i := 2) sc_mark_fault.nd rfl (.inl rfl) (pv 3))))))
      (pss_one (ps_ret pe_non)))), ?_⟩
    rw [show start ["some", "marks", "first", "last", "fault"] [v0, v1] = [some v0, some v1, none, none, none] from rfl]
    obtain ⟨F, acts, m, ms, rfl, hw, hx, hm, hb, hn, hn2, q⟩ := h
    obtain ⟨a, us, rfl, hS, dus⟩ := dp_list hx
    have hlen : us.length = acts.length := by rw [dpa_len dus, List.length_map]
    walk_at "go"
    refine ⟨le1000 (by simp), fun p np => ?_⟩
    have g1 : Gr [] F H F (upd H p (.lst [.int us.length])) := .new hw np
    refine ⟨m, p, nV ms, [.int us.length], rfl, rfl, g1.fh _ _ hm, upd_same, szle (by unfold nV; rw [List.length_map, List.length_singleton]; omega), fun p2 np2 => ?_⟩
    have el : nV ms ++ [.int us.length] = nV (ms ++ [acts.length]) := by
      unfold nV
      rw [List.map_append, hlen]
      rfl
    rw [el]
    replace g1 := g1.add (o := .lst (nV (ms ++ [acts.length]))) np2
    have hS2 := sqL_of (K := K) (upd_at (F := F) (p := p2) (o := .lst (nV (ms ++ [acts.length]))))
    revert g1 hS2
    generalize upd F p2 (.lst (nV (ms ++ [acts.length]))) = F1
    intro g1 hS2
    refine ⟨p2, rfl, ⟨_, sqL_same g1.fh hS2⟩, f_list (xs := nV (ms ++ [acts.length])) (fun i σ H' => ∃ (F2 : Hp) (first : Nat) (y3 y4 : Option V), σ = [some (.ref a), some (.ref m), some (.int (first : Nat)), y3, y4] ∧ Gr [] F H F2 H' ∧ Same F1 F2 ∧ first ≤ acts.length ∧ firstFault acts 0 (ms ++ [acts.length]) = firstFault acts first ((ms ++ [acts.length]).drop i)) ⟨F1, 0, none, none, rfl, g1, Same.refl _, Nat.zero_le _, rfl⟩ (fun i σ H' _ hp => ?_) (fun i x σ H' hx' hp => ?_) (fun σ H' hp => ?_)⟩
    · obtain ⟨F2, first, y3, y4, rfl, g, s, _⟩ := hp
      exact sqL_same (s.trans g.fh) hS2
    · obtain ⟨F2, first, y3, y4, rfl, g, s, hf, hq⟩ := hp
      obtain ⟨l, hl, rfl⟩ := nV_get hx'
      have hll : l ≤ acts.length := by
        rcases List.mem_append.mp (List.mem_of_getElem? hl) with h | h
        · exact hb l h
        · rw [List.mem_singleton.mp h]
          exact Nat.le_refl _
      have ed : (ms ++ [acts.length]).drop i = l :: (ms ++ [acts.length]).drop (i + 1) := by
        obtain ⟨h1, h2⟩ := List.getElem?_eq_some_iff.mp hl
        rw [List.drop_eq_getElem_cons h1, h2]
      rw [ed] at hq
      walk_at "go"
      refine ⟨F2, acts, first, l, rfl, rfl, g.fh, dp_same g.ff _ _ hx, hf, hll, hn, fun v F3 H3 g3 hr => ?_⟩
      replace g := g.trans g3
      cases e : faultFrom acts first l with
      | none =>
        rw [first_miss e] at hq
        rw [e] at hr
        cases hr
        walk_at "go"
        exact ⟨F3, l, _, _, rfl, g, s.trans g3.ff, hll, hq⟩
      | some ij =>
        rw [first_hit e] at hq
        rw [e] at hr
        obtain ⟨p4, rfl, h4⟩ := hr
        walk_at "go"
        refine w_iteN (fun _ => ?_) (fun z => by cases z)
        walk_at "go"
        refine q _ _ _ g ?_
        rw [hq]
        exact ⟨p4, rfl, h4⟩
    · obtain ⟨F2, first, y3, y4, rfl, g, s, hf, hq⟩ := hp
      walk_at "go"
      refine q _ _ _ g ?_
      rw [hq, List.drop_eq_nil_of_le (by unfold nV; rw [List.length_map]; exact Nat.le_refl _)]
      rfl
-- fewest_marks
theorem ok_fewest_marks {f : Addr} {fd : FuncData} (F : FunD K "fewest_marks" "fewest_marks" (defArgs s_fewest_marks) (defBody s_fewest_marks) (defScope s_fewest_marks) [] [] f fd) (T : Txt K mg)  : FnOk P w K mg base CX0 1 f fd ["some"] (S1 (φfewest K)) := by
  refine F.ok sc_fewest_marks (fun vs H Q E h => ?_) (fun cdv A outer s H vs Q E hr h => ?_)
  · exact S1.len h
  · match vs, h with
    | [v0], h =>
    have hu := hu_of hr
    refine ⟨_, PSs.nox (pss_cons (ps_set (i := 1) sc_fewest_marks.nd rfl (.inl rfl) (pe_lst pa_nil))
      (pss_cons (ps_set (i := 2) sc_fewest_marks.nd rfl (.inl rfl) (pe_lst pa_nil))
      (pss_cons (ps_set (i := 3) sc_fewest_marks.nd rfl (.inl rfl) pe_dnewT)
      (pss_cons (ps_for PassesOwn.never rfl (pi_range1 rfl T.b_range (pa_cons (pe_callB (clLenQ (K := K)) (by rfl) T.b_len (by decide +kernel) (pa_cons (pv 0) pa_nil)) pa_nil)) (pg_name (i := 4) sc_fewest_marks.nd rfl (.inl rfl)) (pss_cons (ps_asg (pe_ix (ixL (K := K)) (pv 0) (pv 4) (fun _ _ => rfl)) (pg_tup (by rfl) (pgs_cons (pg_name (i := 5) sc_fewest_marks.nd rfl (.inl rfl)) (pgs_cons (pg_name (i := 6) sc_fewest_marks.nd rfl (.inl rfl)) (pgs_cons (pg_name (i := 7) sc_fewest_marks.nd rfl (.inl rfl)) (pgs_cons (pg_name (i := 8) sc_fewest_marks.nd rfl (.inl rfl)) pgs_nil))))))
      (C8.pss_cut (ps_if (pt_cmp (pc_din hu (pe_tup (pa_cons (pv 5) (pa_cons (pv 6) pa_nil))) (pv 3))) (pss_cons (ps_expr (peBM (K := K) PySem.F.plainAttrs_list PySem.F.slot_list_append PySem.F.type_list_append mt_append (pv 1) (pa_cons (pv 4) pa_nil)))
      (pss_cons (ps_expr (peBM (K := K) PySem.F.plainAttrs_list PySem.F.slot_list_append PySem.F.type_list_append mt_append (pv 2) (pa_cons (pe_tup (pa_cons (pe_dget hu (pv 3) (pe_tup (pa_cons (pv 5) (pa_cons (pv 6) pa_nil))) (fun _ _ => rfl)) (pa_cons (pv 4) pa_nil))) pa_nil)))
      (pss_one (ps_set (i := 3) sc_fewest_marks.nd rfl (.inl rfl) pe_dnewT)))) pss_nil)
      (pss_one (ps_if (pt_cmpR op_ne (pv 7) pe_str (nomark _)) (pss_one (ps_expr (pe_dsetT hu (pv 3) (pe_tup (pa_cons (pv 7) (pa_cons (pv 8) pa_nil))) (pv 4) ⟨rfl, rfl, rfl, rfl⟩))) pss_nil)))))
      (pss_one (ps_ret (pe_tup (pa_cons (pv 1) (pa_cons (pv 2) pa_nil))))))))), ?_⟩
    rw [show start ["some", "marks", "pairs", "seen", "j", "where", "number", "source", "what"] [v0] = [some v0, none, none, none, none, none, none, none, none] from rfl]
    obtain ⟨F, acts, hw, hx, hn, q⟩ := h
    obtain ⟨a, us, rfl, hS, dus⟩ := dp_list hx
    have hlen : us.length = acts.length := by rw [dpa_len dus, List.length_map]
    walk_at "go"
    refine ⟨le1000 (by simp), fun M nM => ?_⟩
    have g := (Gr.refl (M := []) hw).addm (o := .lst []) nM
    have mM := Mu.new (o := .lst []) hw nM
    walk_at "go"
    refine ⟨le1000 (by simp), fun P nP => ?_⟩
    have nMP := mM.ne_new nP
    have nP0 := g.fresh nP
    have mP := Mu.new (o := .lst []) g.fh nP
    replace mM := mM.addm (u := .lst []) nP
    replace g := g.addm (o := .lst []) nP
    walk_at "go"
    intro D nD
    have nMD := mM.ne_new nD
    have nPD := mP.ne_new nD
    have nD0 := g.fresh nD
    have mD := Mu.new (o := .dT []) g.fh nD
    replace mM := mM.addm (u := .dT []) nD
    replace mP := mP.addm (u := .dT []) nD
    replace g := g.addm (o := .dT []) nD
    walk_at "go"
    refine ⟨_, rfl, by omega, by omega, f_range0 (fun i σ H' => ∃ (F2 : Hp) (D : Addr) (kvs : List (List Key × Nat)) (ms : List Nat) (ps : List (Nat × Nat)) (vs : List V) (y4 y5 y6 y7 y8 : Option V), σ = [some (.ref a), some (.ref M), some (.ref P), some (.ref D), y4, y5, y6, y7, y8] ∧ Gr [] F H F2 H' ∧ H D = none ∧ M ≠ D ∧ P ≠ D ∧ Mu F2 H' D (.dT (toV kvs)) ∧ Mu F2 H' M (.lst (nV ms)) ∧ Mu F2 H' P (.lst vs) ∧ PrV F2 vs ps ∧ kvs.length ≤ i ∧ ms.length ≤ i ∧ ps.length ≤ i ∧
      few acts = (ms ++ (fewGo (acts.drop i) kvs i).1, ps ++ (fewGo (acts.drop i) kvs i).2)) ⟨F, D, [], [], [], [], none, none, none, none, none, rfl, g, nD0, nMD, nPD, mD, mM, mP, trivial, Nat.le_refl _, Nat.le_refl _, Nat.le_refl _, rfl⟩ (fun i σ H' hi hp => ?_) (fun σ H' hp => ?_)⟩
    · clear nD nMD nPD nD0 mD mM mP g
      obtain ⟨F2, D, kvs, ms, ps, vs, y4, y5, y6, y7, y8, rfl, g, nD0, nMD, nPD, mD, mM, mP, hv, hk, hm, hps, hq⟩ := hp
      have hi' : i < acts.length := by omega
      obtain ⟨t, ht⟩ : ∃ t, acts[i]? = some t := ⟨_, List.getElem?_eq_getElem hi'⟩
      have er : acts.drop i = t :: acts.drop (i + 1) := by
        obtain ⟨h1, h2⟩ := List.getElem?_eq_some_iff.mp ht
        rw [List.drop_eq_getElem_cons h1, h2]
      obtain ⟨p0, gp, hT⟩ := act_at dus ht
      have hT' := sqT_same g.ws hT
      rw [er] at hq
      walk_at "go"
      refine w_ixL _ _ (sqL_same g.ws hS) (atI_nat gp) ?_
      walk_at "go"
      refine w_cut (fun σ H' => ∃ (F2 : Hp) (D : Addr) (kvs : List (List Key × Nat)) (ms : List Nat) (ps : List (Nat × Nat)) (vs : List V), σ = [some (.ref a), some (.ref M), some (.ref P), some (.ref D), some (.int (i : Nat)), some (.str t.w), some (.int t.n), some (.str t.s), some (kV t.x)] ∧ Gr [] F H F2 H' ∧ H D = none ∧ M ≠ D ∧ P ≠ D ∧ Mu F2 H' D (.dT (toV kvs)) ∧ Mu F2 H' M (.lst (nV ms)) ∧ Mu F2 H' P (.lst vs) ∧ PrV F2 vs ps ∧ kvs.length ≤ i ∧ ms.length ≤ i + 1 ∧ ps.length ≤ i + 1 ∧
        few acts = (ms ++ (fewGo (acts.drop (i + 1)) (stepN kvs t i) (i + 1)).1, ps ++ (fewGo (acts.drop (i + 1)) (stepN kvs t i) (i + 1)).2)) ?_ (fun σ H5 hp => ?_)
      · walk_at "go"
        refine ⟨le1000 (by simp), fun p np => ?_⟩
        replace mD := mD.addm (u := .tup [.str t.w, .int t.n]) np
        replace mM := mM.addm (u := .tup [.str t.w, .int t.n]) np
        replace mP := mP.addm (u := .tup [.str t.w, .int t.n]) np
        replace g := g.addm (o := .tup [.str t.w, .int t.n]) np
        walk_at "go"
        cases e : getN kvs t.wk with
        | none =>
          rw [few_miss e] at hq
          refine w_dinF (ks := t.wk) mD.h upd_same (valV_none e) ?_
          walk_at "go"
          exact ⟨F2, D, kvs, ms, ps, vs, rfl, g, nD0, nMD, nPD, mD, mM, mP, hv, hk, by omega, by omega, hq⟩
        | some i0 =>
          rw [few_hit e] at hq
          have hml : (nV ms).length ≤ 100000 := by rw [nV_len]; omega
          have hvl : vs.length ≤ 100000 := by rw [hv.len]; omega
          refine w_dinT (ks := t.wk) mD.h upd_same (valV_some e) ?_
          walk_at "go"
          replace mD := mD.oth (u := .lst (nV ms ++ [.int (i : Nat)])) nMD.symm
          replace mP := mP.oth (u := .lst (nV ms ++ [.int (i : Nat)])) nMP.symm
          replace g := g.wrn (o := .lst (nV ms ++ [.int (i : Nat)])) mM.n nM
          replace mM := mM.wr (u := .lst (nV ms ++ [.int (i : Nat)]))
          walk_at "go"
          refine ⟨le1000 (by simp), fun p2 np2 => ?_⟩
          replace mD := mD.addm (u := .tup [.str t.w, .int t.n]) np2
          replace mM := mM.addm (u := .tup [.str t.w, .int t.n]) np2
          replace mP := mP.addm (u := .tup [.str t.w, .int t.n]) np2
          replace g := g.addm (o := .tup [.str t.w, .int t.n]) np2
          refine w_dgetT (ks := t.wk) mD.h upd_same (valV_some e) ?_
          walk_at "go"
          refine ⟨le1000 (by simp), fun p3 np3 => ?_⟩
          have sw := Same.new (o := .tup [.int (i0 : Nat), .int (i : Nat)]) (g.fh.free np3)
          replace mD := mD.add (u := .tup [.int (i0 : Nat), .int (i : Nat)]) np3
          replace mM := mM.add (u := .tup [.int (i0 : Nat), .int (i : Nat)]) np3
          replace mP := mP.add (u := .tup [.int (i0 : Nat), .int (i : Nat)]) np3
          replace g := g.add (o := .tup [.int (i0 : Nat), .int (i : Nat)]) np3
          replace hv := PrV.snoc (t := p3) (q := (i0, i)) upd_same (hv.same sw)
          walk_at "go"
          replace mM := mM.oth (u := .lst (vs ++ [.ref p3])) nMP
          replace g := g.wrn (o := .lst (vs ++ [.ref p3])) mP.n nP0
          replace mP := mP.wr (u := .lst (vs ++ [.ref p3]))
          intro D2 nD2
          have nMD2 := mM.ne_new nD2
          have nPD2 := mP.ne_new nD2
          have nD20 := g.fresh nD2
          have mD2 := Mu.new (o := .dT []) g.fh nD2
          replace mM := mM.addm (u := .dT []) nD2
          replace mP := mP.addm (u := .dT []) nD2
          replace g := g.addm (o := .dT []) nD2
          walk_at "go"
          refine ⟨_, D2, [], ms ++ [i], ps ++ [(i0, i)], _, rfl, g, nD20, nMD2, nPD2, mD2, by rw [nV_snoc]; exact mM, mP, hv, Nat.zero_le _, by rw [List.length_append, List.length_singleton]; omega, by rw [List.length_append, List.length_singleton]; omega, ?_⟩
          rw [hq, List.append_assoc, List.append_assoc]
          rfl
      · clear mD mM mP g nD0 nMD nPD hv hk hm hps hq
        obtain ⟨F3, D, kvs, ms, ps, vs, rfl, g, nD0, nMD, nPD, mD, mM, mP, hv, hk, hm, hps, hq⟩ := hp
        walk_at "go"
        refine w_iteN (fun hs => ?_) (fun hs => ?_)
        · walk_at "go"
          refine ⟨D, rfl, .inr ⟨_, .inl mD.h⟩, ?_⟩
          walk_at "go"
          refine ⟨le1000 (by simp), fun p2 np2 => ?_⟩
          replace mD := mD.addm (u := .tup [.str t.s, kV t.x]) np2
          replace mM := mM.addm (u := .tup [.str t.s, kV t.x]) np2
          replace mP := mP.addm (u := .tup [.str t.s, kV t.x]) np2
          replace g := g.addm (o := .tup [.str t.s, kV t.x]) np2
          walk_at "go"
          refine ⟨p2, toV kvs, t.rk, mD.h, rfl, upd_same, small_lt (by unfold toV; rw [List.length_map]; omega), fun v hv2 => ?_, fun hv2 => ?_⟩
          · cases e2 : getN kvs t.rk with
            | none =>
              rw [valV_none e2] at hv2
              cases hv2
            | some i0 =>
              rw [step_old hs e2] at hq
              exact ⟨F3, D, kvs, ms, ps, vs, _, _, _, _, _, rfl, g, nD0, nMD, nPD, mD, mM, mP, hv, by omega, hm, hps, hq⟩
          · cases e2 : getN kvs t.rk with
            | some i0 =>
              rw [valV_some e2] at hv2
              cases hv2
            | none =>
              rw [step_new hs e2] at hq
              rw [put_toV e2]
              exact ⟨F3, D, _, ms, ps, vs, _, _, _, _, _, rfl, g.wrn mD.n nD0, nD0, nMD, nPD, mD.wr, mM.oth nMD, mP.oth nPD, hv, by rw [List.length_append, List.length_singleton]; omega, hm, hps, hq⟩
        · walk_at "go"
          rw [step_sign hs] at hq
          exact ⟨F3, D, kvs, ms, ps, vs, _, _, _, _, _, rfl, g, nD0, nMD, nPD, mD, mM, mP, hv, by omega, hm, hps, hq⟩
    · clear nD nMD nPD nD0 mD mM mP g
      obtain ⟨F2, D, kvs, ms, ps, vs, y4, y5, y6, y7, y8, rfl, g, nD0, nMD, nPD, mD, mM, mP, hv, hk, hm, hps, hq⟩ := hp
      rw [List.drop_eq_nil_of_le (by omega)] at hq
      have e1 : (few acts).1 = ms := by rw [hq]; exact List.append_nil _
      have e2 : (few acts).2 = ps := by rw [hq]; exact List.append_nil _
      walk_at "go"
      refine ⟨le1000 (by simp), fun t nt => ?_⟩
      have sw := Same.new (o := .tup [.ref M, .ref P]) (g.fh.free nt)
      refine q t M P vs _ _ (g.add nt) nM nP0 nMP upd_same ?_ (mP.add nt) ?_
      · rw [e1]
        exact mM.add nt
      · rw [e2]
        exact hv.same sw
-- _law_bag
theorem ok_law_bag {f : Addr} {fd : FuncData} (F : FunD K "_law_bag" "_law_bag" (defArgs s_law_bag) (defBody s_law_bag) (defScope s_law_bag) [] [] f fd) (T : Txt K mg)  : FnOk P w K mg base CX0 1 f fd ["script"] (S1 (φbag K)) := by
  refine F.ok sc_law_bag (fun vs H Q E h => ?_) (fun cdv A outer s H vs Q E hr h => ?_)
  · exact S1.len h
  · match vs, h with
    | [v0], h =>
    have hu := hu_of hr
    refine ⟨_, PSs.nox (pss_cons (ps_set (i := 1) sc_law_bag.nd rfl (.inl rfl) pe_int)
      (pss_cons (ps_for PassesOwn.never rfl (pi_list (pe_slice (slL (K := K)) (pv 0) po_none (po_some pe_int))) (pg_name (i := 2) sc_law_bag.nd rfl (.inl rfl)) (pss_one (ps_set (i := 1) sc_law_bag.nd rfl (.inl rfl) (pe_op op_mod (pe_op op_add (pe_op op_add (pe_op op_mul (pv 1) pe_int) (pe_op op_mod (pv 2) pe_int)) pe_int) pe_int))))
      (pss_one (ps_ret (pe_lst (pa_cons (pe_lc (own := [("cell", 2)]) (g := gName 2) rfl sc_law_bag.nd (pi_list (pe_slice (slL (K := K)) (pv 0) po_none (po_some pe_int))) (blkOk_by (own := [("cell", 2)]) (N := ["script", "stir", "cell"]) (sc := defScope s_law_bag) (by decide +kernel)) (fun _ _ _ _ _ => pg_name (i := 2) sc_law_bag.nd rfl (Or.inl rfl)) (fun _ _ _ _ _ => pts_nil) (fun _ _ _ _ _ => (pe_op op_mod (pe_callB clAbs (by rfl) T.b_abs (by decide +kernel) (pa_cons (pv 2) pa_nil)) (pe_op op_pow pe_int pe_int)))) (pa_cons pe_int (pa_cons pe_int (pa_cons (pv 1) (pa_cons pe_int pa_nil)))))))))), ?_⟩
    rw [show start ["script", "stir", "cell"] [v0] = [some v0, none, none] from rfl]
    obtain ⟨a, ns, rfl, hS, hl, q⟩ := h
    walk_at "go"
    intro l nl
    rw [cut63 hl]
    refine ⟨l, rfl, ⟨_, sqL_of upd_same⟩, f_list (xs := ns.map V.int) (fun i σ H' => ∃ (st : Int) (y : Option V), σ = [some (.ref a), some (.int st), y] ∧ 0 ≤ st ∧ st < 2147483647 ∧ H' = upd H l (.lst (ns.map V.int))) ⟨19, none, rfl, by decide, by decide, rfl⟩ (fun i σ H' _ hp => ?_) (fun i x σ H' hx hp => ?_) (fun σ H' hp => ?_)⟩
    · obtain ⟨st, y, _, _, _, rfl⟩ := hp
      exact sqL_of upd_same
    · obtain ⟨st, y, rfl, s0, s1, rfl⟩ := hp
      obtain ⟨z, rfl⟩ := map_get hx
      walk_at "go"
      exact ⟨_, _, rfl, mod_nn (by decide), mod_lt (by decide), rfl⟩
    · obtain ⟨st, y, rfl, s0, s1, rfl⟩ := hp
      have hS2 : SqL K (upd H l (.lst (ns.map V.int))) a (ns.map V.int) := sqL_same (Same.new nl) hS
      walk_at "go"
      intro l2 nl2
      rw [cut63 hl]
      have g0 : Gr [] H H H (upd H l (.lst (ns.map V.int))) := .new (Same.refl H) nl
      have g1 := g0.add (o := .lst (ns.map V.int)) nl2
      refine ⟨l2, rfl, ⟨_, sqL_of upd_same⟩, fun D nD => ?_⟩
      have g2 := g1.addm (o := .lst []) nD
      refine lc_list (xs := ns.map V.int) (fun i H' => ∃ vs : List Int, Gr [] H H (upd H l2 (.lst (ns.map V.int))) H' ∧ Mu (upd H l2 (.lst (ns.map V.int))) H' D (.lst (vs.map V.int)) ∧ (∀ x ∈ vs, 0 ≤ x ∧ x < 10 ^ 60) ∧ vs.length = i) ⟨[], g2, Mu.new g1.fh nD, by simp, rfl⟩ (fun i H' _ hp => ?_) (fun i x H' hx hp => ?_) (fun H' hp => ?_)
      · obtain ⟨vs, g, _⟩ := hp
        exact sqL_same g.fh (sqL_of upd_same)
      · obtain ⟨vs, g, mu, hv, hn⟩ := hp
        obtain ⟨z, rfl⟩ := map_get hx
        have hi : i < ns.length := by
          have := (List.getElem?_eq_some_iff.mp hx).1
          rwa [List.length_map] at this
        show gName 2 _ [some (.ref a), some (.int st), none] H' _
        walk_at "go"
        refine ⟨rfl, ?_⟩
        walk_at "go"
        refine ⟨_, mu.h, small1000 (by rw [List.length_map]; omega), vs ++ [_], g.wrn mu.n (g1.fresh nD), by rw [List.map_append]; exact mu.wr, ?_, by simp [hn]⟩
        intro x hx
        rcases List.mem_append.mp hx with hx | hx
        · exact hv x hx
        · rw [List.mem_singleton.mp hx]
          exact ⟨mod_nn (by decide), mod_lt (by decide)⟩
      · obtain ⟨vs, g, mu, hv, hn⟩ := hp
        walk_at "go"
        refine ⟨le1000 (by simp), fun p np => ?_⟩
        have g5 := (g.frz (g1.fresh nD) mu).addm (o := .lst [.ref D, .int 0, .int 0, .int st, .int 0]) np
        refine q p _ _ g5 ⟨D, vs, 0, 0, st, 0, ?_, upd_same, sqL_of upd_same, by rw [hn, List.length_map]; exact hl, hv, by decide, by decide, by decide, s0, s1⟩
        have nF := g.fh.free np
        rw [upd_ne (mu.ne_new np).symm]
        exact nF
-- _law_stirred
theorem ok_law_stirred {f : Addr} {fd : FuncData} (F : FunD K "_law_stirred" "_law_stirred" (defArgs s_law_stirred) (defBody s_law_stirred) (defScope s_law_stirred) [] [] f fd) (T : Txt K mg)  : FnOk P w K mg base CX0 1 f fd ["bag", "many"] (S2 (φdraw K)) := by
  refine F.ok sc_law_stirred (fun vs H Q E h => ?_) (fun cdv A outer s H vs Q E hr h => ?_)
  · exact S2.len h
  · match vs, h with
    | [v0, v1], h =>
    have hu := hu_of hr
    refine ⟨_, PSs.nox (pss_cons (ps_set (i := 2) sc_law_stirred.nd rfl (.inl rfl) pe_int)
      (pss_cons (ps_for PassesOwn.never rfl (pi_range1 rfl T.b_range (pa_cons (pe_op op_add pe_int (pe_op op_fdivW (pe_bits (pv 1)) pe_int)) pa_nil)) (pg_name (i := 3) sc_law_stirred.nd rfl (.inl rfl)) (pss_cons (ps_asg (pe_op op_add (pe_ix (ixL (K := K)) (pv 0) pe_int (fun _ _ => rfl)) pe_int) (pg_sub (pv 0) pe_int set_list))
      (pss_cons (ps_asg (pe_op op_mod (pe_op op_add (pe_op op_add (pe_op op_add (pe_op op_pow (pe_ix (ixL (K := K)) (pv 0) pe_int (fun _ _ => rfl)) pe_int) (pe_op op_mul pe_int (pe_ix (ixL (K := K)) (pv 0) pe_int (fun _ _ => rfl)))) (pe_op op_mul pe_int (pe_ix (ixL (K := K)) (pv 0) pe_int (fun _ _ => rfl)))) pe_int) pe_int) (pg_sub (pv 0) pe_int set_list))
      (pss_one (ps_set (i := 2) sc_law_stirred.nd rfl (.inl rfl) (pe_op op_add (pe_op op_mul (pv 2) pe_int) (pe_op op_fdivW (pe_ix (ixL (K := K)) (pv 0) pe_int (fun _ _ => rfl)) pe_int)))))))
      (pss_one (ps_ret (pe_op op_mod (pv 2) (pv 1)))))), ?_⟩
    rw [show start ["bag", "many", "got", "k"] [v0, v1] = [some v0, some v1, none, none] from rfl]
    obtain ⟨b, m, F, rfl, rfl, hw, hb, h0, h1, q⟩ := h
    have hbits := bits_le h0 h1
    have hb0 : (0 : Int) ≤ (Builtin.Int.intBits m : Nat) := Int.natCast_nonneg _
    have hd0 : (0 : Int) ≤ (Builtin.Int.intBits m : Nat) / 27 := div_nn hb0 (by decide)
    have hd1 : (Builtin.Int.intBits m : Int) / 27 ≤ (Builtin.Int.intBits m : Nat) := div_le' hb0 (by decide)
    walk_at "go"
    refine ⟨_, rfl, by omega, by omega, f_range0 (fun i σ H' => ∃ (f : Int) (y : Option V) (F2 : Hp), σ = [some (.ref b), some (.int m), some (.int f), y] ∧ Gr [b] F H F2 H' ∧ Bag K F2 H' b) ⟨0, none, F, rfl, .refl hw, hb⟩ (fun i σ H' hi hp => ?_) (fun σ H' hp => ?_)⟩
    · obtain ⟨f, y, F2, rfl, g, hB⟩ := hp
      obtain ⟨c, cells, i1, cur, st, n, e1, e2, e3, e4, e5, e6, e7, e8, e9, e10⟩ := hB.ex
      walk_at "go"
      exact ⟨_, _, F2, rfl, (g.put e1 (by simp)).put e1 (by simp), ⟨c, cells, i1, cur, _, _, e1, upd_same, e3, e4, e5, e6, e7, e8, mod_nn (by decide), mod_lt (by decide)⟩⟩
    · obtain ⟨f, y, F2, rfl, g, hB⟩ := hp
      walk_at "go"
      exact q _ F2 H' g hB (mod_nn h0) (mod_lt h0)
-- _law_draw
theorem ok_law_draw {f : Addr} {fd : FuncData} (F : FunD K "_law_draw" "_law_draw" (defArgs s_law_draw) (defBody s_law_draw) (defScope s_law_draw) [] [] f fd) (T : Txt K mg) (D_law_stirred : DO P w K mg base 1 "_law_stirred" ["bag", "many"] [] (S2 (φdraw K))) : FnOk P w K mg base CX0 2 f fd ["bag", "many"] (S2 (φdraw K)) := by
  refine F.ok sc_law_draw (fun vs H Q E h => ?_) (fun cdv A outer s H vs Q E hr h => ?_)
  · exact S2.len h
  · match vs, h with
    | [v0, v1], h =>
    have hu := hu_of hr
    refine ⟨_, PSs.nox (pss_cons (ps_if (PW.pt (pw_and (pt_cmpR op_eq (pe_ix (ixL (K := K)) (pv 0) pe_int (fun _ _ => rfl)) pe_int (nomark _)) (pw_and1 (pt_cmpR op_lt (pe_ix (ixL (K := K)) (pv 0) pe_int (fun _ _ => rfl)) (pe_callB (clLenQ (K := K)) (by rfl) T.b_len (by decide +kernel) (pa_cons (pe_ix (ixL (K := K)) (pv 0) pe_int (fun _ _ => rfl)) pa_nil)) (nomark _))))) (pss_cons (ps_asg (pe_ix (ixL (K := K)) (pe_ix (ixL (K := K)) (pv 0) pe_int (fun _ _ => rfl)) (pe_ix (ixL (K := K)) (pv 0) pe_int (fun _ _ => rfl)) (fun _ _ => rfl)) (pg_sub (pv 0) pe_int set_list))
      (pss_one (ps_asg (pe_op op_add (pe_ix (ixL (K := K)) (pv 0) pe_int (fun _ _ => rfl)) pe_int) (pg_sub (pv 0) pe_int set_list)))) (pss_one (ps_if (pt_cmpR op_eq (pe_ix (ixL (K := K)) (pv 0) pe_int (fun _ _ => rfl)) pe_int (nomark _)) (pss_one (ps_ret (pcall D_law_stirred hr (pa_cons (pv 0) (pa_cons (pv 1) pa_nil))))) pss_nil)))
      (pss_cons (ps_set (i := 2) sc_law_draw.nd rfl (.inl rfl) (pe_op op_mod (pe_ix (ixL (K := K)) (pv 0) pe_int (fun _ _ => rfl)) (pv 1)))
      (pss_cons (ps_asg (pe_op op_fdivW (pe_ix (ixL (K := K)) (pv 0) pe_int (fun _ _ => rfl)) (pv 1)) (pg_sub (pv 0) pe_int set_list))
      (pss_one (ps_ret (pv 2)))))), ?_⟩
    rw [show start ["bag", "many", "got"] [v0, v1] = [some v0, some v1, none] from rfl]
    obtain ⟨b, m, F, rfl, rfl, hw, hb, h0, h1, q⟩ := h
    obtain ⟨c, cells, i1, cur, st, n, e1, e2, e3, e4, e5, e6, e7, e8, e9, e10⟩ := hb.ex
    have e3' := sqL_same hw e3
    have gr := Gr.refl (M := [b]) hw
    walk_at "go"
    refine w_ite (fun hc => ?_) (fun hc => ?_)
    · walk_at "go"
      refine w_ite (fun hd => ?_) (fun hd => ?_)
      · obtain ⟨x, hx, ex⟩ := cell_at e6 hd
        have bx := e5 x hx
        walk_at "go"
        refine w_ixL _ _ e3' ex ?_
        walk_at "go"
        exact q _ F _ (((gr.put e1 (by simp)).put e1 (by simp)).put e1 (by simp)) ⟨c, cells, i1 + 1, x / m, st, n, e1, upd_same, e3, e4, e5, by omega, div_nn bx.1 h0, Int.lt_of_le_of_lt (div_le' bx.1 h0) bx.2, e9, e10⟩ (mod_nn h0) (mod_lt h0)
      · walk_at "go"
        refine w_iteT hc ?_
        walk_at "go"
        exact ⟨b, m, F, rfl, rfl, hw, hb, h0, h1, q⟩
    · walk_at "go"
      refine w_iteF hc ?_
      walk_at "go"
      exact q _ F _ (gr.put e1 (by simp)) ⟨c, cells, i1, cur / m, st, n, e1, upd_same, e3, e4, e5, e6, div_nn e7 h0, Int.lt_of_le_of_lt (div_le' e7 h0) e8, e9, e10⟩ (mod_nn h0) (mod_lt h0)
-- _law_sign
theorem ok_law_sign {f : Addr} {fd : FuncData} (F : FunD K "_law_sign" "_law_sign" (defArgs s_law_sign) (defBody s_law_sign) (defScope s_law_sign) [] [] f fd) (T : Txt K mg) (D_law_draw : DO P w K mg base 2 "_law_draw" ["bag", "many"] [] (S2 (φdraw K))) : FnOk P w K mg base CX0 3 f fd ["bag", "few"] (S2 (φsign K)) := by
  refine F.ok sc_law_sign (fun vs H Q E h => ?_) (fun cdv A outer s H vs Q E hr h => ?_)
  · exact S2.len h
  · match vs, h with
    | [v0, v1], h =>
    have hu := hu_of hr
    refine ⟨_, PSs.nox (pss_cons (ps_set (i := 2) sc_law_sign.nd rfl (.inl rfl) pe_str)
      (pss_one (ps_ret (pe_ifExp (pt_val (pv 1)) (pe_ix ix_str pe_str (pcall D_law_draw hr (pa_cons (pv 0) (pa_cons pe_int pa_nil))) (fun _ _ => rfl)) (pe_ix ix_str (pv 2) (pcall D_law_draw hr (pa_cons (pv 0) (pa_cons pe_int pa_nil))) (fun _ _ => rfl)))))), ?_⟩
    rw [show start ["bag", "few", "acts"] [v0, v1] = [some v0, some v1, none] from rfl]
    obtain ⟨b, f, F, rfl, rfl, hw, hb, q⟩ := h
    walk_at "go"
    refine w_iteb (fun hf => ?_) (fun hf => ?_)
    · walk_at "go"
      refine d_draw (Gr.refl (M := [b]) hw) hb (by decide) (by decide) fun r F2 H2 g _ hb2 r0 r1 => ?_
      walk_at "go"
      exact w_ixL1 (n := 2) (by decide +kernel) (by decide +kernel) (by decide +kernel) r0 r1 fun s hs oks => q s F2 H2 g hb2 hs oks
    · walk_at "go"
      refine d_draw (Gr.refl (M := [b]) hw) hb (by decide) (by decide) fun r F2 H2 g _ hb2 r0 r1 => ?_
      walk_at "go"
      exact w_ixL1 (n := 93) (by decide +kernel) (by decide +kernel) (by decide +kernel) r0 r1 fun s hs oks => q s F2 H2 g hb2 hs oks
-- _law_text
theorem ok_law_text {f : Addr} {fd : FuncData} (F : FunD K "_law_text" "_law_text" (defArgs s_law_text) (defBody s_law_text) (defScope s_law_text) [] [] f fd) (T : Txt K mg) (D_law_sign : DO P w K mg base 3 "_law_sign" ["bag", "few"] [] (S2 (φsign K))) : FnOk P w K mg base CX0 4 f fd ["bag", "few", "many"] (S3 (φtext K)) := by
  refine F.ok sc_law_text (fun vs H Q E h => ?_) (fun cdv A outer s H vs Q E hr h => ?_)
  · exact S3.len h
  · match vs, h with
    | [v0, v1, v2], h =>
    have hu := hu_of hr
    refine ⟨_, PSs.nox (pss_one (ps_ret (peJoin (K := K) pe_str (pe_lc (own := [("k", 3)]) (g := gName 3) rfl sc_law_text.nd (pi_range1 rfl T.b_range (pa_cons (pv 2) pa_nil)) (blkOk_by (own := [("k", 3)]) (N := ["bag", "few", "many", "k"]) (sc := defScope s_law_text) (by decide +kernel)) (fun _ _ _ _ _ => pg_name (i := 3) sc_law_text.nd rfl (Or.inl rfl)) (fun _ _ _ _ _ => pts_nil) (fun _ _ _ _ _ => (pcall D_law_sign hr (pa_cons (pv 0) (pa_cons (pv 1) pa_nil)))))))), ?_⟩
    rw [show start ["bag", "few", "many", "k"] [v0, v1, v2] = [some v0, some v1, some v2, none] from rfl]
    obtain ⟨b, f, n, F, rfl, rfl, rfl, hw, hb, n0, n1, q⟩ := h
    walk_at "go"
    refine ⟨_, rfl, by omega, by omega, fun D nD => ?_⟩
    have g1 : Gr [b] F H F (upd H D (.lst [])) := .new hw nD
    refine lc_rng (fun i H' => ∃ (F2 : Hp) (ys : List Str), Gr [b] F H F2 H' ∧ Bag K F2 H' b ∧ Mu F2 H' D (.lst (ys.map V.str)) ∧ ys.length = i ∧ ∀ y ∈ ys, y.length = 1 ∧ okS y) ⟨F, [], g1, hb.addm nD, Mu.new hw nD, rfl, by simp⟩ (fun i H' hi hp => ?_) (fun H' hp => ?_)
    · obtain ⟨F2, ys, g, hb2, mu, hl, hy⟩ := hp
      walk_at "wp"
      walk_at "go"
      refine ⟨rfl, ?_⟩
      walk_at "go"
      refine ⟨b, f, F2, rfl, rfl, g.fh, hb2, fun s F3 H3 g3 hb3 hs oks => ?_⟩
      have mu3 := g3.mu mu (by simp; exact (hb.ne_new nD).symm)
      refine ⟨_, mu3.h, small_lt (by rw [List.length_map]; omega), F3, ys ++ [s], (g.trans g3).wrn mu3.n nD, hb3.put (hb.ne_new nD), by rw [List.map_append]; exact mu3.wr, by simp [hl], ?_⟩
      intro y hy'
      rcases List.mem_append.mp hy' with h | h
      · exact hy y h
      · rw [List.mem_singleton.mp h]
        exact ⟨hs, oks⟩
    · obtain ⟨F2, ys, g, hb2, mu, hl, hy⟩ := hp
      walk_at "go"
      refine ⟨_, D, ys, rfl, rfl, .inl mu.sq, ?_, ?_⟩
      · rw [sum_ones ys hy]
        show ys.length + ys.length * 0 ≤ 16777216
        omega
      · obtain ⟨j1, j2⟩ := joined ys hy
        exact q _ F2 H' g hb2 (by
          show (((Txt.join ⟨#[]⟩ ys).length : Nat) : Int) = n
          rw [j1, hl]
          omega) j2
-- _law_any_row
theorem ok_law_any_row {f : Addr} {fd : FuncData} (F : FunD K "_law_any_row" "_law_any_row" (defArgs s_law_any_row) (defBody s_law_any_row) (defScope s_law_any_row) [] [] f fd) (T : Txt K mg) (D_law_draw : DO P w K mg base 2 "_law_draw" ["bag", "many"] [] (S2 (φdraw K))) (D_law_text : DO P w K mg base 4 "_law_text" ["bag", "few", "many"] [] (S3 (φtext K))) : FnOk P w K mg base CX0 5 f fd ["bag", "has", "few", "wide"] (S4 (φany_row K)) := by
  refine F.ok sc_law_any_row (fun vs H Q E h => ?_) (fun cdv A outer s H vs Q E hr h => ?_)
  · exact S4.len h
  · match vs, h with
    | [v0, v1, v2, v3], h =>
    have hu := hu_of hr
    refine ⟨_, PSs.nox (pss_cons (ps_set (i := 4) sc_law_any_row.nd rfl (.inl rfl) (pcall D_law_draw hr (pa_cons (pv 0) (pa_cons pe_int pa_nil))))
      (pss_cons (ps_set (i := 5) sc_law_any_row.nd rfl (.inl rfl) (pe_ix (ixL (K := K)) (pv 1) (pe_callTy clInt1 (by rfl) T.b_int (by decide +kernel) (pa_cons (pe_cmpR op_eq (pv 4) pe_int (nomark _)) pa_nil)) (fun _ _ => rfl)))
      (pss_cons (ps_set (i := 6) sc_law_any_row.nd rfl (.inl rfl) (pe_ix (ixL (K := K)) (pv 1) (pe_callTy clInt1 (by rfl) T.b_int (by decide +kernel) (pa_cons (pe_cmpR op_eq (pv 4) pe_int (nomark _)) pa_nil)) (fun _ _ => rfl)))
      (pss_cons (ps_if (PW.pt (pw_or (pt_cmpR (opEqD (K := K) hr.units) (pv 5) (pe_lst pa_nil) (nomark _)) (pw_or1 (pt_cmpR (opEqD (K := K) hr.units) (pv 6) (pe_lst pa_nil) (nomark _))))) (pss_one (ps_ret pe_non)) pss_nil)
      (pss_cons (ps_set (i := 7) sc_law_any_row.nd rfl (.inl rfl) (pcall D_law_draw hr (pa_cons (pv 0) (pa_cons (pe_callB (clLenQ (K := K)) (by rfl) T.b_len (by decide +kernel) (pa_cons (pv 5) pa_nil)) pa_nil))))
      (pss_cons (ps_set (i := 8) sc_law_any_row.nd rfl (.inl rfl) (pcall D_law_draw hr (pa_cons (pv 0) (pa_cons (pe_callB (clLenQ (K := K)) (by rfl) T.b_len (by decide +kernel) (pa_cons (pv 6) pa_nil)) pa_nil))))
      (pss_cons (ps_set (i := 9) sc_law_any_row.nd rfl (.inl rfl) (pe_callB clMin2 (by rfl) T.b_min (by decide +kernel) (pa_cons (pv 3) (pa_cons (pe_op op_sub (pe_callB (clLenQ (K := K)) (by rfl) T.b_len (by decide +kernel) (pa_cons (pv 5) pa_nil)) (pv 7)) pa_nil))))
      (C8.pss_cut (ps_if (pt_cmpR op_gt (pv 4) pe_int (nomark _)) (pss_cons (ps_set (i := 10) sc_law_any_row.nd rfl (.inl rfl) pe_int)
      (pss_cons (ps_while PassesOwn.never (PW.pt (pw_and (pt_cmpR op_lt (pv 10) (pv 9) (nomark _)) (pw_and (pt_cmpR op_lt (pe_op op_add (pv 8) (pv 10)) (pe_callB (clLenQ (K := K)) (by rfl) T.b_len (by decide +kernel) (pa_cons (pv 6) pa_nil)) (nomark _)) (pw_and1 (pt_val (pe_ix (ixL (K := K)) (pv 6) (pe_op op_add (pv 8) (pv 10)) (fun _ _ => rfl))))))) (pss_one (ps_set (i := 10) sc_law_any_row.nd rfl (.inl rfl) (pe_op op_add (pv 10) pe_int))))
      (pss_one (ps_set (i := 9) sc_law_any_row.nd rfl (.inl rfl) (pv 10))))) pss_nil)
      (C8.pss_cut (ps_if (PW.pt (pw_or (pt_cmpR op_eq (pv 9) pe_int (nomark _)) (pw_or1 (PW.pt (pw_and (pt_cmpR op_eq (pv 4) pe_int (nomark _)) (pw_and1 (pt_cmpR op_eq (pv 8) (pv 7) (nomark _)))))))) (pss_one (ps_ret pe_non)) pss_nil)
      (pss_cons (ps_set (i := 9) sc_law_any_row.nd rfl (.inl rfl) (pe_op op_add pe_int (pcall D_law_draw hr (pa_cons (pv 0) (pa_cons (pv 9) pa_nil)))))
      (pss_cons (ps_for PassesOwn.never rfl (pi_range1 rfl T.b_range (pa_cons (pv 9) pa_nil)) (pg_name (i := 11) sc_law_any_row.nd rfl (.inl rfl)) (pss_one (ps_asg pe_bl (pg_sub (pv 5) (pe_op op_add (pv 7) (pv 11)) set_list))))
      (pss_cons (ps_if (pt_cmpR op_eq (pv 4) pe_int (nomark _)) (pss_one (ps_ret (pe_tup (pa_cons pe_str (pa_cons (pv 7) (pa_cons (pcall D_law_text hr (pa_cons (pv 0) (pa_cons (pv 2) (pa_cons (pv 9) pa_nil)))) pa_nil)))))) pss_nil)
      (pss_one (ps_ret (pe_tup (pa_cons (pe_ix (ixL (K := K)) (pe_lst (pa_cons pe_str (pa_cons pe_str (pa_cons pe_str pa_nil)))) (pe_op op_sub (pv 4) pe_int) (fun _ _ => rfl)) (pa_cons (pv 7) (pa_cons (pv 8) (pa_cons (pv 9) pa_nil))))))))))))))))))), ?_⟩
    rw [show start ["bag", "has", "few", "wide", "kind", "target", "source", "to", "at", "many", "run", "k"] [v0, v1, v2, v3] = [some v0, some v1, some v2, some v3, none, none, none, none, none, none, none, none] from rfl]
    obtain ⟨b, hd, t0, t1, n0, n1, f, wd, F, rfl, rfl, rfl, rfl, hw, hb, hh, h0, h1, ne01, nb0, nb1, l0, l1, wd0, wd1, q⟩ := h
    have M0 : t0 ∉ [b] := by simp; exact fun z => nb0 z.symm
    have M1 : t1 ∉ [b] := by simp; exact fun z => nb1 z.symm
    walk_at "go"
    refine d_draw (Gr.refl (M := [b, t0, t1]) hw) hb (by decide) (by decide) fun kind F1 H1 g g1 hb k0 k1 => ?_
    replace h0 := h0.keep g1 M0
    replace h1 := h1.keep g1 M1
    walk_at "go"
    obtain ⟨tt, nt, ht, et⟩ : ∃ tt nt, (tt = t0 ∧ nt = n0 ∨ tt = t1 ∧ nt = n1) ∧ atI [V.ref t0, V.ref t1] (if decide (kind = 2) = true then 1 else 0) = some (.ref tt) := by
      by_cases hk : kind = 2
      · exact ⟨t1, n1, .inr ⟨rfl, rfl⟩, by rw [if_pos (decide_eq_true hk)]; rfl⟩
      · exact ⟨t0, n0, .inl ⟨rfl, rfl⟩, by rw [if_neg (by simpa using hk)]; rfl⟩
    refine w_ixL _ _ (sqL_same g.ws hh) et ?_
    walk_at "go"
    obtain ⟨ss, ms, hs, es⟩ : ∃ ss ms, (ss = t0 ∧ ms = n0 ∨ ss = t1 ∧ ms = n1) ∧ atI [V.ref t0, V.ref t1] (if decide (kind = 3) = true then 1 else 0) = some (.ref ss) := by
      by_cases hk : kind = 3
      · exact ⟨t1, n1, .inr ⟨rfl, rfl⟩, by rw [if_pos (decide_eq_true hk)]; rfl⟩
      · exact ⟨t0, n0, .inl ⟨rfl, rfl⟩, by rw [if_neg (by simpa using hk)]; rfl⟩
    refine w_ixL _ _ (sqL_same g.ws hh) es ?_
    walk_at "go"
    refine ⟨le1000 (by simp), fun p np => ?_⟩
    replace g := g.addm (o := .lst []) np
    replace hb := hb.addm (u := .lst []) np
    replace h0 := h0.addm (u := .lst []) np
    replace h1 := h1.addm (u := .lst []) np
    obtain ⟨bt, lt, mt⟩ : Hs F1 (upd H1 p (.lst [])) tt nt := by rcases ht with ⟨rfl, rfl⟩ | ⟨rfl, rfl⟩ <;> assumption
    obtain ⟨bs, ls, mss⟩ : Hs F1 (upd H1 p (.lst [])) ss ms := by rcases hs with ⟨rfl, rfl⟩ | ⟨rfl, rfl⟩ <;> assumption
    have ln : nt ≤ 1000 := by rcases ht with ⟨_, rfl⟩ | ⟨_, rfl⟩ <;> assumption
    have lm : ms ≤ 1000 := by rcases hs with ⟨_, rfl⟩ | ⟨_, rfl⟩ <;> assumption
    refine u_emp mt.sq (sqL_of upd_same) (by omega) ?_
    walk_at "go"
    refine w_ite (fun hc => ?_) (fun hc => ?_)
    · walk_at "go"
      exact q _ _ _ g hb h0 h1 (.inl rfl)
    walk_at "go"
    refine ⟨le1000 (by simp), fun p2 np2 => ?_⟩
    replace g := g.addm (o := .lst []) np2
    replace hb := hb.addm (u := .lst []) np2
    replace h0 := h0.addm (u := .lst []) np2
    replace h1 := h1.addm (u := .lst []) np2
    replace mt := mt.addm (u := .lst []) np2
    replace mss := mss.addm (u := .lst []) np2
    refine u_emp mss.sq (sqL_of upd_same) (by omega) ?_
    walk_at "go"
    refine w_ite (fun hc2 => ?_) (fun hc2 => ?_)
    · walk_at "go"
      exact q _ _ _ g hb h0 h1 (.inl rfl)
    have MT : tt ∉ [b] := by rcases ht with ⟨rfl, _⟩ | ⟨rfl, _⟩ <;> assumption
    have MS : ss ∉ [b] := by rcases hs with ⟨rfl, _⟩ | ⟨rfl, _⟩ <;> assumption
    walk_at "go"
    rw [List.length_map]
    refine d_draw g hb (by omega) (by omega) fun to F2 H2 g g1 hb to0 to1 => ?_
    replace h0 := h0.keep g1 M0
    replace h1 := h1.keep g1 M1
    replace mt := g1.mu mt MT
    replace mss := g1.mu mss MS
    walk_at "go"
    rw [List.length_map]
    refine d_draw g hb (by omega) (by omega) fun at_ F3 H3 g g1 hb at0 at1 => ?_
    replace h0 := h0.keep g1 M0
    replace h1 := h1.keep g1 M1
    replace mt := g1.mu mt MT
    replace mss := g1.mu mss MS
    walk_at "go"
    rw [List.length_map]
    generalize hm0 : (if (bt.length : Int) - to < wd then (bt.length : Int) - to else wd) = many0
    have hm1 : 0 ≤ many0 ∧ many0 ≤ wd ∧ many0 ≤ (bt.length : Int) - to := by
      rw [← hm0]
      split <;> omega
    refine w_cut (fun σ H' => ∃ (many : Int) (y : Option V), σ = [some (.ref b), some (.ref hd), some (.bl f), some (.int wd), some (.int kind), some (.ref tt), some (.ref ss), some (.int to), some (.int at_), some (.int many), y, none] ∧ 0 ≤ many ∧ many ≤ many0 ∧ H' = H3) ?_ (fun σ H' hp => ?_)
    · walk_at "go"
      refine w_ite (fun hk => ?_) (fun hk => ?_)
      · walk_at "go"
        refine w_while (fun m σ H' => ∃ run : Int, σ = [some (.ref b), some (.ref hd), some (.bl f), some (.int wd), some (.int kind), some (.ref tt), some (.ref ss), some (.int to), some (.int at_), some (.int many0), some (.int run), none] ∧ 0 ≤ run ∧ run ≤ many0 ∧ m = (many0 - run).toNat ∧ H' = H3) ⟨0, rfl, by omega, by omega, rfl, rfl⟩ (fun m σ H' hp => ?_)
        obtain ⟨run, rfl, r0, r1, rfl, rfl⟩ := hp
        walk_at "go"
        refine w_ite (fun hr => ?_) (fun hr => ?_)
        · walk_at "go"
          rw [List.length_map]
          refine w_ite (fun hr2 => ?_) (fun hr2 => ?_)
          · walk_at "go"
            have hj : (at_ + run).toNat < bs.length := by omega
            refine w_ixL _ _ mss.sq (at_of (j := (at_ + run).toNat) (v := .bl bs[(at_ + run).toNat]) (by omega) (by rw [List.getElem?_map, List.getElem?_eq_getElem hj]; rfl)) ?_
            walk_at "go"
            refine w_iteb (fun hx => ?_) (fun hx => ?_)
            · refine w_turn ?_
              walk_at "go"
              exact ⟨_, by omega, run + 1, rfl, by omega, by omega, rfl, rfl⟩
            · walk_at "go"
              exact ⟨run, _, rfl, r0, r1, rfl⟩
          · walk_at "go"
            exact ⟨run, _, rfl, r0, r1, rfl⟩
        · walk_at "go"
          exact ⟨run, _, rfl, r0, r1, rfl⟩
      · walk_at "go"
        exact ⟨many0, _, rfl, hm1.1, Int.le_refl _, rfl⟩
    · obtain ⟨many, y, rfl, mm0, mm1, eH⟩ := hp
      subst eH
      refine w_cut (fun σ H5 => many ≠ 0 ∧ σ = [some (.ref b), some (.ref hd), some (.bl f), some (.int wd), some (.int kind), some (.ref tt), some (.ref ss), some (.int to), some (.int at_), some (.int many), y, none] ∧ H5 = H') ?_ (fun σ H5 hp => ?_)
      · walk_at "go"
        refine w_ite (fun hz => ?_) (fun hz => ?_)
        · walk_at "go"
          exact q _ _ _ g hb h0 h1 (.inl rfl)
        · walk_at "go"
          refine w_ite (fun hz2 => ?_) (fun hz2 => ?_)
          · walk_at "go"
            refine w_ite (fun _ => ?_) (fun _ => ?_)
            · walk_at "go"
              exact q _ _ _ g hb h0 h1 (.inl rfl)
            · walk_at "go"
              exact ⟨hz, rfl, rfl⟩
          · walk_at "go"
            exact ⟨hz, rfl, rfl⟩
      obtain ⟨hm, rfl, rfl⟩ := hp
      walk_at "go"
      refine d_draw g hb (by omega) (by omega) fun r F4 H4 g g1 hb r0 r1 => ?_
      replace h0 := h0.keep g1 M0
      replace h1 := h1.keep g1 M1
      have mem : tt ∈ [b, t0, t1] := by rcases ht with ⟨rfl, _⟩ | ⟨rfl, _⟩ <;> simp
      have nbt : b ≠ tt := by rcases ht with ⟨rfl, _⟩ | ⟨rfl, _⟩ <;> assumption
      walk_at "go"
      refine ⟨_, rfl, by omega, by omega, f_range0 (fun i σ H' => ∃ y11, σ = [some (.ref b), some (.ref hd), some (.bl f), some (.int wd), some (.int kind), some (.ref tt), some (.ref ss), some (.int to), some (.int at_), some (.int (1 + r)), y, y11] ∧ Gr [b, t0, t1] F H F4 H' ∧ Bag K F4 H' b ∧ Hs F4 H' t0 n0 ∧ Hs F4 H' t1 n1) ⟨none, rfl, g, hb, h0, h1⟩ (fun i σ H' hi hp => ?_) (fun σ H' hp => ?_)⟩
      · obtain ⟨y11, rfl, g, hb, h0, h1⟩ := hp
        obtain ⟨cs, lc, mc⟩ : Hs F4 H' tt nt := by rcases ht with ⟨rfl, rfl⟩ | ⟨rfl, rfl⟩ <;> assumption
        walk_at "go"
        refine w_setL _ _ mc.h (ixN_in (by omega) (by rw [List.length_map]; omega)) ?_
        refine ⟨_, rfl, g.put mc.n mem, hb.put nbt, h0.set (fun e => ?_) mc, h1.set (fun e => ?_) mc⟩
        · rcases ht with ⟨_, rfl⟩ | ⟨rfl, _⟩
          · exact lc
          · exact absurd e ne01
        · rcases ht with ⟨rfl, _⟩ | ⟨_, rfl⟩
          · exact absurd e.symm ne01
          · exact lc
      · obtain ⟨y11, rfl, g, hb, h0, h1⟩ := hp
        walk_at "go"
        refine w_ite (fun hk => ?_) (fun hk => ?_)
        · walk_at "go"
          refine ⟨b, f, 1 + r, F4, rfl, rfl, rfl, g.fh, hb, by omega, by omega, fun s F5 H5 g5 hb5 hs5 oks => ?_⟩
          have g6 : Gr [b, t0, t1] F H F5 H5 := g.trans (g5.sub (by simp))
          walk_at "go"
          refine ⟨le1000 (by simp), fun p np => ?_⟩
          exact q _ _ _ (g6.add np) (hb5.add g5.fh np) ((h0.keep g5 M0).add np) ((h1.keep g5 M1).add np) (.inr ⟨.put to s, .tup (sqT_of upd_same) (.cons (.str _) (.cons (.int _) (.cons (.str _) .nil))), ⟨oks, by omega⟩, by show ((s.length : Nat) : Int) ≤ wd; omega⟩)
        · walk_at "go"
          refine ⟨le1000 (by simp), fun p np => ?_⟩
          replace g := g.addm (o := .lst [.str "copy", .str "keep", .str "lay"]) np
          replace hb := hb.addm (u := .lst [.str "copy", .str "keep", .str "lay"]) np
          replace h0 := h0.addm (u := .lst [.str "copy", .str "keep", .str "lay"]) np
          replace h1 := h1.addm (u := .lst [.str "copy", .str "keep", .str "lay"]) np
          obtain ⟨w, ew⟩ : ∃ w : Wd, atI [V.str "copy", V.str "keep", V.str "lay"] (kind - 1) = some (.str w.s) := by
            by_cases e1 : kind = 1
            · exact ⟨.copy, by rw [e1]; rfl⟩
            · by_cases e2 : kind = 2
              · exact ⟨.keep, by rw [e2]; rfl⟩
              · have e3 : kind = 3 := by omega
                exact ⟨.lay, by rw [e3]; rfl⟩
          walk_at "go"
          refine w_ixL _ _ (sqL_of upd_same) ew ?_
          walk_at "go"
          refine ⟨le1000 (by simp), fun p2 np2 => ?_⟩
          exact q _ _ _ (g.add np2) (hb.add g.fh np2) (h0.add np2) (h1.add np2) (.inr ⟨.mv w to at_ (1 + r), .tup (sqT_of upd_same) (.cons (.str _) (.cons (.int _) (.cons (.int _) (.cons (.int _) .nil)))), ⟨by omega, by omega⟩, by show (((1 + r).toNat : Nat) : Int) ≤ wd; omega⟩)
-- _law_any_plan
theorem ok_law_any_plan {f : Addr} {fd : FuncData} (F : FunD K "_law_any_plan" "_law_any_plan" (defArgs s_law_any_plan) (defBody s_law_any_plan) (defScope s_law_any_plan) [.int 1500] [] f fd) (T : Txt K mg) (D_law_any_row : DO P w K mg base 5 "_law_any_row" ["bag", "has", "few", "wide"] [] (S4 (φany_row K))) (D_law_draw : DO P w K mg base 2 "_law_draw" ["bag", "many"] [] (S2 (φdraw K))) (D_law_sign : DO P w K mg base 3 "_law_sign" ["bag", "few"] [] (S2 (φsign K))) : FnOk P w K mg base CX0 6 f fd ["bag", "n", "big", "slots", "rows", "few", "most"] (S7 (φany_plan K)) := by
  refine F.ok sc_law_any_plan (fun vs H Q E h => ?_) (fun cdv A outer s H vs Q E hr h => ?_)
  · exact S7.len h
  · match vs, h with
    | [v0, v1, v2, v3, v4, v5, v6], h =>
    have hu := hu_of hr
    refine ⟨_, PSs.nox (pss_cons (ps_set (i := 7) sc_law_any_plan.nd rfl (.inl rfl) (pe_ix (ixL (K := K)) (pe_lst (pa_cons pe_int (pa_cons pe_int (pa_cons pe_int (pa_cons pe_int pa_nil))))) (pcall D_law_draw hr (pa_cons (pv 0) (pa_cons pe_int pa_nil))) (fun _ _ => rfl)))
      (pss_cons (ps_set (i := 8) sc_law_any_plan.nd rfl (.inl rfl) (pe_lst (pa_cons (pe_op op_cat (pe_op op_rep (pe_lst (pa_cons pe_bl pa_nil)) (pv 1)) (pe_op op_rep (pe_lst (pa_cons pe_bl pa_nil)) (pe_op op_sub (pv 2) (pv 1)))) (pa_cons (pe_op op_rep (pe_lst (pa_cons pe_bl pa_nil)) (pv 3)) pa_nil))))
      (pss_cons (ps_set (i := 9) sc_law_any_plan.nd rfl (.inl rfl) (pe_lst pa_nil))
      (pss_cons (ps_set (i := 10) sc_law_any_plan.nd rfl (.inl rfl) (pv 6))
      (pss_cons (ps_for PassesOwn.never rfl (pi_range1 rfl T.b_range (pa_cons (pv 4) pa_nil)) (pg_name (i := 11) sc_law_any_plan.nd rfl (.inl rfl)) (C8.pss_cut (ps_set (i := 12) sc_law_any_plan.nd rfl (.inl rfl) (pe_ifExp (pt_cmpR op_gt (pv 10) pe_int (nomark _)) (pcall D_law_any_row hr (pa_cons (pv 0) (pa_cons (pv 8) (pa_cons (pv 5) (pa_cons (pe_callB clMin2 (by rfl) T.b_min (by decide +kernel) (pa_cons (pv 7) (pa_cons (pv 10) pa_nil))) pa_nil))))) pe_non))
      (pss_one (ps_if (pt_cmp (pc_notN (pv 12)) (by rfl)) (pss_cons (ps_expr (peBM (K := K) PySem.F.plainAttrs_list PySem.F.slot_list_append PySem.F.type_list_append mt_append (pv 9) (pa_cons (pv 12) pa_nil)))
      (pss_one (ps_set (i := 10) sc_law_any_plan.nd rfl (.inl rfl) (pe_op op_sub (pv 10) (pe_ifExp (pt_cmpR op_eq (pe_ix (ixT (K := K)) (pv 12) pe_int (fun _ _ => rfl)) pe_str (nomark _)) (pe_callB clLenS (by rfl) T.b_len (by decide +kernel) (pa_cons (pe_ix (ixT (K := K)) (pv 12) pe_int (fun _ _ => rfl)) pa_nil)) (pe_ix (ixT (K := K)) (pv 12) pe_int (fun _ _ => rfl))))))) pss_nil))))
      (pss_cons (ps_for PassesOwn.never rfl (pi_range1 rfl T.b_range (pa_cons (pv 2) pa_nil)) (pg_name (i := 13) sc_law_any_plan.nd rfl (.inl rfl)) (pss_one (ps_if (pt_not (pt_val (pe_ix (ixL (K := K)) (pe_ix (ixL (K := K)) (pv 8) pe_int (fun _ _ => rfl)) (pv 13) (fun _ _ => rfl)))) (pss_one (ps_expr (peBM (K := K) PySem.F.plainAttrs_list PySem.F.slot_list_append PySem.F.type_list_append mt_append (pv 9) (pa_cons (pe_tup (pa_cons pe_str (pa_cons (pv 13) (pa_cons (pcall D_law_sign hr (pa_cons (pv 0) (pa_cons (pv 5) pa_nil))) pa_nil)))) pa_nil)))) pss_nil)))
      (pss_one (ps_ret (pv 9))))))))), ?_⟩
    rw [show start ["bag", "n", "big", "slots", "rows", "few", "most", "wide", "has", "deeds", "left", "k", "row", "place"] [v0, v1, v2, v3, v4, v5, v6] = [some v0, some v1, some v2, some v3, some v4, some v5, some v6, none, none, none, none, none, none, none] from rfl]
    obtain ⟨b, n, big, slots, rows, most, f, F, rfl, rfl, rfl, rfl, rfl, rfl, rfl, hw, hb, n0, n1, b1, s0, s1, r0, r1, mo0, mo1, q⟩ := h
    walk_at "go"
    refine ⟨le1000 (by simp), fun p np => ?_⟩
    have g0 := (Gr.refl (M := [b]) hw).add (o := .lst ([1, 2, 5, 400].map V.int)) np
    replace hb := hb.add (u := .lst ([1, 2, 5, 400].map V.int)) hw np
    walk_at "go"
    refine d_draw g0 hb (by decide) (by decide) fun wi F1 H1 g g1 hb w0 w1 => ?_
    obtain ⟨wd, ewd, wd0, wd1⟩ := pick_ix (ns := [1, 2, 5, 400]) (lo := 1) (hi := 400) w0 w1 (by decide)
    walk_at "go"
    refine w_ixL _ _ (sqL_same g1.ws (sqL_of upd_same)) ewd ?_
    walk_at "go"
    refine ⟨le1000 (by simp), fun p1 np1 => ?_⟩
    have np10 := g.fresh np1
    replace hb := hb.addm (u := .lst [.bl true]) np1
    replace g := g.addm (o := .lst [.bl true]) np1
    walk_at "go"
    refine ⟨p1, n, [.bl true], rfl, rfl, upd_same, by omega, by omega, szle (by simp; omega), fun p2 np2 => ?_⟩
    rw [rep_flat]
    have m2 := Mu.new (o := .lst (List.replicate n.toNat (V.bl true))) g.fh np2
    have np20 := g.fresh np2
    replace hb := hb.addm (u := .lst (List.replicate n.toNat (V.bl true))) np2
    replace g := g.addm (o := .lst (List.replicate n.toNat (V.bl true))) np2
    walk_at "go"
    refine ⟨le1000 (by simp), fun p3 np3 => ?_⟩
    have np30 := g.fresh np3
    replace hb := hb.addm (u := .lst [.bl false]) np3
    replace m2 := m2.addm (u := .lst [.bl false]) np3
    replace g := g.addm (o := .lst [.bl false]) np3
    walk_at "go"
    refine ⟨p3, big - n, [.bl false], rfl, rfl, upd_same, by omega, by omega, szle (by simp; omega), fun p4 np4 => ?_⟩
    rw [rep_flat]
    have m4 := Mu.new (o := .lst (List.replicate (big - n).toNat (V.bl false))) g.fh np4
    have np40 := g.fresh np4
    replace hb := hb.addm (u := .lst (List.replicate (big - n).toNat (V.bl false))) np4
    replace m2 := m2.addm (u := .lst (List.replicate (big - n).toNat (V.bl false))) np4
    replace g := g.addm (o := .lst (List.replicate (big - n).toNat (V.bl false))) np4
    walk_at "go"
    refine ⟨p2, p4, _, _, rfl, rfl, m2.h, m4.h, szle (by rw [List.length_replicate, List.length_replicate]; omega), fun t0 nt0 => ?_⟩
    have e5 : List.replicate n.toNat (V.bl true) ++ List.replicate (big - n).toNat (V.bl false) = (List.replicate n.toNat true ++ List.replicate (big - n).toNat false).map V.bl := by
      rw [List.map_append, List.map_replicate, List.map_replicate]
    rw [e5]
    have l5 : (List.replicate n.toNat true ++ List.replicate (big - n).toNat false).length = big.toNat := by
      rw [List.length_append, List.length_replicate, List.length_replicate]
      omega
    generalize List.replicate n.toNat true ++ List.replicate (big - n).toNat false = c5 at l5 ⊢
    have nbt0 := hb.ne_new nt0
    have m5 := Mu.new (o := .lst (c5.map V.bl)) g.fh nt0
    have nt00 := g.fresh nt0
    replace hb := hb.addm (u := .lst (c5.map V.bl)) nt0
    replace g := g.addm (o := .lst (c5.map V.bl)) nt0
    walk_at "go"
    refine ⟨le1000 (by simp), fun p6 np6 => ?_⟩
    have np60 := g.fresh np6
    replace hb := hb.addm (u := .lst [.bl false]) np6
    replace m5 := m5.addm (u := .lst [.bl false]) np6
    replace g := g.addm (o := .lst [.bl false]) np6
    walk_at "go"
    refine ⟨p6, slots, [.bl false], rfl, rfl, upd_same, by omega, by omega, szle (by simp; omega), fun t1 nt1 => ?_⟩
    rw [rep_flat, show List.replicate slots.toNat (V.bl false) = (List.replicate slots.toNat false).map V.bl by rw [List.map_replicate]]
    have l7 : (List.replicate slots.toNat false).length = slots.toNat := List.length_replicate
    generalize List.replicate slots.toNat false = c7 at l7 ⊢
    have nbt1 := hb.ne_new nt1
    have ne01 := m5.ne_new nt1
    have m7 := Mu.new (o := .lst (c7.map V.bl)) g.fh nt1
    have nt10 := g.fresh nt1
    replace hb := hb.addm (u := .lst (c7.map V.bl)) nt1
    replace m5 := m5.addm (u := .lst (c7.map V.bl)) nt1
    replace g := g.addm (o := .lst (c7.map V.bl)) nt1
    walk_at "go"
    refine ⟨le1000 (by simp), fun hd nhd => ?_⟩
    have nhd0 := g.fresh nhd
    replace hb := hb.add (u := .lst [.ref t0, .ref t1]) g.fh nhd
    replace m5 := m5.add (u := .lst [.ref t0, .ref t1]) nhd
    replace m7 := m7.add (u := .lst [.ref t0, .ref t1]) nhd
    replace g := g.add (o := .lst [.ref t0, .ref t1]) nhd
    have hS := sqL_of (K := K) (upd_at (F := F1) (p := hd) (o := .lst [.ref t0, .ref t1]))
    have h0 : Hs _ _ t0 big.toNat := ⟨c5, l5, m5⟩
    have h1 : Hs _ _ t1 slots.toNat := ⟨c7, l7, m7⟩
    clear m5 m7
    obtain ⟨F2, hF2⟩ : ∃ F2, F2 = upd F1 hd (.lst [.ref t0, .ref t1]) := ⟨_, rfl⟩
    rw [← hF2] at g hb hS h0 h1
    walk_at "go"
    refine ⟨le1000 (by simp), fun D nD => ?_⟩
    have nbD := hb.ne_new nD
    have ntD0 := h0.ne_new nD
    have ntD1 := h1.ne_new nD
    have mD := Mu.new (o := .lst []) g.fh nD
    have nD0 := g.fresh nD
    replace hb := hb.addm (u := .lst []) nD
    replace h0 := h0.addm (u := .lst []) nD
    replace h1 := h1.addm (u := .lst []) nD
    replace g := g.addm (o := .lst []) nD
    walk_at "go"
    refine ⟨_, rfl, by omega, by omega, f_range0 (fun i σ H' => ∃ (F3 : Hp) (vs : List V) (rs : List PRow) (left : Int) (y11 y12 : Option V), σ = [some (.ref b), some (.int n), some (.int big), some (.int slots), some (.int rows), some (.bl f), some (.int most), some (.int wd), some (.ref hd), some (.ref D), some (.int left), y11, y12, none] ∧ Gr [b] F H F3 H' ∧ Same F2 F3 ∧ Bag K F3 H' b ∧ Hs F3 H' t0 big.toNat ∧ Hs F3 H' t1 slots.toNat ∧ Mu F3 H' D (.lst vs) ∧ DpAll K F3 vs (rs.map PRow.d) ∧ (∀ r ∈ rs, r.ok) ∧ 0 ≤ left ∧ ((rs.map PRow.size).sum : Int) + left ≤ most ∧ rs.length ≤ i) ⟨F2, [], [], most, none, none, rfl, g, Same.refl _, hb, h0, h1, mD, .nil, by simp, by omega, by simp, by simp⟩ (fun i σ H' hi hp => ?_) (fun σ H' hp => ?_)⟩
    · obtain ⟨F3, vs, rs, left, y11, y12, rfl, g, s3, hb, h0, h1, mD, dv, oks, le0, hsz, hlen⟩ := hp
      walk_at "go"
      refine w_cut (fun σ H5 => ∃ (v : V) (F5 : Hp), σ = [some (.ref b), some (.int n), some (.int big), some (.int slots), some (.int rows), some (.bl f), some (.int most), some (.int wd), some (.ref hd), some (.ref D), some (.int left), some (.int i), some v, none] ∧ Gr [b] F H F5 H5 ∧ Same F3 F5 ∧ Bag K F5 H5 b ∧ Hs F5 H5 t0 big.toNat ∧ Hs F5 H5 t1 slots.toNat ∧ Mu F5 H5 D (.lst vs) ∧ (v = .non ∨ ∃ r : PRow, Dp K F5 v r.d ∧ r.ok ∧ (r.size : Int) ≤ left)) ?_ (fun σ H5 hp => ?_)
      · walk_at "go"
        refine w_ite (fun hl => ?_) (fun hl => ?_)
        · walk_at "go"
          refine ⟨b, hd, t0, t1, big.toNat, slots.toNat, f, _, F3, rfl, rfl, rfl, rfl, g.fh, hb, sqL_same s3 hS, h0, h1, ne01, nbt0, nbt1, by omega, by omega, by split <;> omega, by split <;> omega, fun v F5 H5 g5 hb5 h05 h15 hv => ?_⟩
          walk_at "go"
          refine ⟨v, F5, rfl, g.transN g5 (fun x hx => ?_), g5.ff, hb5, h05, h15, g5.mu mD ?_, ?_⟩
          · simp only [List.mem_cons, List.not_mem_nil, or_false] at hx
            rcases hx with rfl | rfl | rfl
            · exact .inl (by simp)
            · exact .inr nt00
            · exact .inr nt10
          · simp only [List.mem_cons, List.not_mem_nil, or_false, not_or]
            exact ⟨nbD.symm, ntD0.symm, ntD1.symm⟩
          · rcases hv with hv | ⟨r, d1, d2, d3⟩
            · exact .inl hv
            · refine .inr ⟨r, d1, d2, ?_⟩
              split at d3 <;> omega
        · walk_at "go"
          exact ⟨.non, F3, rfl, g, Same.refl _, hb, h0, h1, mD, .inl rfl⟩
      · obtain ⟨v, F5, rfl, g, s5, hb, h0, h1, mD, hv⟩ := hp
        walk_at "go"
        refine w_iteN (fun hne => ?_) (fun he => ?_)
        · rcases hv with hv | ⟨r, d1, d2, d3⟩
          · exact absurd hv hne
          have hvl : vs.length ≤ 1000 := by
            rw [dpa_len dv, List.length_map]
            omega
          walk_at "go"
          cases r with
          | put to s =>
            obtain ⟨a, rfl, hT⟩ := dp_put d1
            have hsl := szle (Nat.le_trans d2.2 (by decide))
            have g6 := g.wrn (o := .lst (vs ++ [.ref a])) mD.n nD0
            walk_at "go"
            refine ⟨F5, vs ++ [.ref a], rs ++ [.put to s], left - (s.length : Nat), _, _, rfl, g6, s3.trans s5, hb.put nbD, h0.put ntD0, h1.put ntD1, mD.wr, ?_, ok_snoc oks d2, ?_, ?_, by rw [List.length_append]; show rs.length + 1 ≤ i + 1; omega⟩
            · rw [List.map_append]
              exact dpa_snoc (dpa_same s5 _ _ dv) d1
            · have dz : ((s.length : Nat) : Int) ≤ left := d3
              have dz2 : (PRow.put to s).size = s.length := rfl
              omega
            · rw [size_snoc]
              have dz : ((s.length : Nat) : Int) ≤ left := d3
              have dz2 : (PRow.put to s).size = s.length := rfl
              omega
          | mv w to at_ m =>
            obtain ⟨a, rfl, hT⟩ := dp_mv d1
            have g6 := g.wrn (o := .lst (vs ++ [.ref a])) mD.n nD0
            walk_at "go"
            refine w_iteF (by cases w <;> decide +kernel) ?_
            walk_at "go"
            refine ⟨F5, vs ++ [.ref a], rs ++ [.mv w to at_ m], left - m, _, _, rfl, g6, s3.trans s5, hb.put nbD, h0.put ntD0, h1.put ntD1, mD.wr, ?_, ok_snoc oks d2, ?_, ?_, by rw [List.length_append]; show rs.length + 1 ≤ i + 1; omega⟩
            · rw [List.map_append]
              exact dpa_snoc (dpa_same s5 _ _ dv) d1
            · have dz : ((m.toNat : Nat) : Int) ≤ left := d3
              have dz2 : (PRow.mv w to at_ m).size = m.toNat := rfl
              have dz3 := d2.1
              omega
            · rw [size_snoc]
              have dz : ((m.toNat : Nat) : Int) ≤ left := d3
              have dz2 : (PRow.mv w to at_ m).size = m.toNat := rfl
              have dz3 := d2.1
              omega
        · walk_at "go"
          exact ⟨F5, vs, rs, left, _, _, rfl, g, s3.trans s5, hb, h0, h1, mD, dpa_same s5 _ _ dv, oks, le0, hsz, by omega⟩
    · obtain ⟨F3, vs, rs, left, y11, y12, rfl, g, s3, hb, h0, h1, mD, dv, oks, le0, hsz, hlen⟩ := hp
      walk_at "go"
      refine ⟨_, rfl, by omega, by omega, f_range0 (fun i σ H' => ∃ (F3 : Hp) (vs : List V) (rs : List PRow) (y13 : Option V), σ = [some (.ref b), some (.int n), some (.int big), some (.int slots), some (.int rows), some (.bl f), some (.int most), some (.int wd), some (.ref hd), some (.ref D), some (.int left), y11, y12, y13] ∧ Gr [b] F H F3 H' ∧ Same F2 F3 ∧ Bag K F3 H' b ∧ Hs F3 H' t0 big.toNat ∧ Mu F3 H' D (.lst vs) ∧ DpAll K F3 vs (rs.map PRow.d) ∧ (∀ r ∈ rs, r.ok) ∧ ((rs.map PRow.size).sum : Int) ≤ most + i ∧ rs.length ≤ 1000 + i) ⟨F3, vs, rs, none, rfl, g, s3, hb, h0, mD, dv, oks, by omega, by omega⟩ (fun i σ H' hi hp => ?_) (fun σ H' hp => ?_)⟩
      · obtain ⟨F4, vs, rs, y13, rfl, g, s4, hb, h0, mD, dv, oks, hsz, hlen⟩ := hp
        obtain ⟨cs, lc, mc⟩ := h0
        walk_at "go"
        have hS2 := sqL_same (s4.trans g.fh) hS
        have hic : i < cs.length := by omega
        have hvl : vs.length ≤ 2000 := by
          rw [dpa_len dv, List.length_map]
          omega
        walk_at "go"
        refine w_ixL _ _ mc.sq (atI_nat (v := .bl cs[i]) (by rw [List.getElem?_map, List.getElem?_eq_getElem hic]; rfl)) ?_
        walk_at "go"
        refine w_itebN (fun hf => ?_) (fun ht => ?_)
        · walk_at "go"
          refine ⟨b, f, F4, rfl, rfl, g.fh, hb, fun s F5 H5 g5 hb5 hsl hso => ?_⟩
          have hD : D ∉ [b] := by simp; exact nbD.symm
          have hT0 : t0 ∉ [b] := by simp; exact nbt0.symm
          replace mD := g5.mu mD hD
          have h0 : Hs F5 H5 t0 big.toNat := ⟨cs, lc, g5.mu mc hT0⟩
          replace g := g.trans g5
          replace hb := hb5
          walk_at "go"
          refine ⟨le1000 (by simp), fun p np => ?_⟩
          have wF := g5.fh.free np
          replace hb := hb.add (u := .tup [.str "put", .int i, .str s]) g5.fh np
          replace mD := mD.add (u := .tup [.str "put", .int i, .str s]) np
          replace h0 := h0.add (u := .tup [.str "put", .int i, .str s]) np
          replace g := g.add (o := .tup [.str "put", .int i, .str s]) np
          walk_at "go"
          have sF := Same.new (o := .tup [.str "put", .int i, .str s]) wF
          have d1 : Dp K (upd F5 p (.tup [.str "put", .int i, .str s])) (.ref p) (PRow.put i s).d := .tup (sqT_of upd_same) (.cons (.str _) (.cons (.int _) (.cons (.str _) .nil)))
          refine ⟨_, vs ++ [.ref p], rs ++ [.put i s], _, rfl, g.wrn mD.n nD0, (s4.trans g5.ff).trans sF, hb.put nbD, h0.put ntD0, mD.wr, ?_, ok_snoc (r := .put i s) oks ⟨hso, by omega⟩, ?_, by rw [List.length_append]; show rs.length + 1 ≤ 1000 + (i + 1); omega⟩
          · rw [List.map_append]
            exact dpa_snoc (dpa_same (g5.ff.trans sF) _ _ dv) d1
          · rw [size_snoc]
            have dz2 : (PRow.put i s).size = s.length := rfl
            omega
        · walk_at "go"
          exact ⟨F4, vs, rs, _, rfl, g, s4, hb, ⟨cs, lc, mc⟩, mD, dv, oks, by omega, by omega⟩
      · obtain ⟨F4, vs, rs, y13, rfl, g, s4, hb, h0, mD, dv, oks, hsz, hlen⟩ := hp
        walk_at "go"
        exact q D rs F4 H' g hb ⟨nD0, vs, mD, dv⟩ oks (by omega) (by omega)
-- _law_row_writes
theorem ok_law_row_writes {f : Addr} {fd : FuncData} (F : FunD K "_law_row_writes" "_law_row_writes" (defArgs s_law_row_writes) (defBody s_law_row_writes) (defScope s_law_row_writes) [] [] f fd) (T : Txt K mg)  : FnOk P w K mg base CX0 1 f fd ["row"] (S1 (φrow_writes K)) := by
  refine F.ok sc_law_row_writes (fun vs H Q E h => ?_) (fun cdv A outer s H vs Q E hr h => ?_)
  · exact S1.len h
  · match vs, h with
    | [v0], h =>
    have hu := hu_of hr
    refine ⟨_, PSs.nox (pss_cons (ps_if (pt_cmpR op_eq (pe_ix (ixT (K := K)) (pv 0) pe_int (fun _ _ => rfl)) pe_str (nomark _)) (pss_one (ps_ret (pe_lc (own := [("k", 2)]) (g := gName 2) rfl sc_law_row_writes.nd (pi_range1 rfl T.b_range (pa_cons (pe_callB clLenS (by rfl) T.b_len (by decide +kernel) (pa_cons (pe_ix (ixT (K := K)) (pv 0) pe_int (fun _ _ => rfl)) pa_nil)) pa_nil)) (blkOk_by (own := [("k", 2)]) (N := ["row", "got", "k", "step", "where"]) (sc := defScope s_law_row_writes) (by decide +kernel)) (fun _ _ _ _ _ => pg_name (i := 2) sc_law_row_writes.nd rfl (Or.inl rfl)) (fun _ _ _ _ _ => pts_nil) (fun _ _ _ _ _ => (pe_tup (pa_cons pe_str (pa_cons (pe_op op_add (pe_ix (ixT (K := K)) (pv 0) pe_int (fun _ _ => rfl)) (pv 2)) (pa_cons pe_str (pa_cons (pe_ix ix_str (pe_ix (ixT (K := K)) (pv 0) pe_int (fun _ _ => rfl)) (pv 2) (fun _ _ => rfl)) pa_nil))))))))) pss_nil)
      (pss_cons (ps_set (i := 1) sc_law_row_writes.nd rfl (.inl rfl) (pe_lst pa_nil))
      (pss_cons (ps_for PassesOwn.never rfl (pi_range1 rfl T.b_range (pa_cons (pe_ix (ixT (K := K)) (pv 0) pe_int (fun _ _ => rfl)) pa_nil)) (pg_name (i := 2) sc_law_row_writes.nd rfl (.inl rfl)) (pss_cons (ps_set (i := 3) sc_law_row_writes.nd rfl (.inl rfl) (pe_ifExp (PW.pt (pw_and (pt_cmpR op_eq (pe_ix (ixT (K := K)) (pv 0) pe_int (fun _ _ => rfl)) pe_str (nomark _)) (pw_and1 (pt_cmpR op_gt (pe_ix (ixT (K := K)) (pv 0) pe_int (fun _ _ => rfl)) (pe_ix (ixT (K := K)) (pv 0) pe_int (fun _ _ => rfl)) (nomark _))))) (pe_op op_sub (pe_op op_sub (pe_ix (ixT (K := K)) (pv 0) pe_int (fun _ _ => rfl)) pe_int) (pv 2)) (pv 2)))
      (pss_cons (ps_set (i := 4) sc_law_row_writes.nd rfl (.inl rfl) (pe_ifExp (pt_cmpR op_eq (pe_ix (ixT (K := K)) (pv 0) pe_int (fun _ _ => rfl)) pe_str (nomark _)) pe_str pe_str))
      (pss_one (ps_expr (peBM (K := K) PySem.F.plainAttrs_list PySem.F.slot_list_append PySem.F.type_list_append mt_append (pv 1) (pa_cons (pe_tup (pa_cons (pv 4) (pa_cons (pe_op op_add (pe_ix (ixT (K := K)) (pv 0) pe_int (fun _ _ => rfl)) (pv 3)) (pa_cons (pe_ifExp (pt_cmpR op_eq (pe_ix (ixT (K := K)) (pv 0) pe_int (fun _ _ => rfl)) pe_str (nomark _)) pe_str pe_str) (pa_cons (pe_op op_add (pe_ix (ixT (K := K)) (pv 0) pe_int (fun _ _ => rfl)) (pv 3)) pa_nil))))) pa_nil)))))))
      (pss_one (ps_ret (pv 1)))))), ?_⟩
    rw [show start ["row", "got", "k", "step", "where"] [v0] = [some v0, none, none, none, none] from rfl]
    obtain ⟨F, r, hw, hx, hok, q⟩ := h
    cases r with
    | put to s =>
      obtain ⟨a, rfl, hT⟩ := dp_put hx
      have hT' := sqT_same hw hT
      obtain ⟨oks, hsl⟩ := hok
      have hlen := szle (Nat.le_trans hsl (by decide))
      walk_at "go"
      refine ⟨_, rfl, by omega, by omega, fun D nD => ?_⟩
      have g1 : Gr [] F H F (upd H D (.lst [])) := .new hw nD
      refine lc_rng (fun i H' => ∃ F2 vs, Gr [] F H F2 H' ∧ Mu F2 H' D (.lst vs) ∧ DpAll K F2 vs ((List.range i).map fun (k : Nat) => wr "cell" (to + k) "sign" (.str ⟨#[s.cps.toList.getD k 0]⟩))) ⟨F, [], g1, Mu.new hw nD, .nil⟩ (fun i H' hi hp => ?_) (fun H' hp => ?_)
      · obtain ⟨F2, vs, g, mu, dv⟩ := hp
        have hi' : i < s.length := by omega
        have hv : vs.length = i := by rw [dpa_len dv, List.length_map, List.length_range]
        walk_at "wp"
        walk_at "go"
        refine ⟨rfl, ?_⟩
        walk_at "go"
        refine w_ixS hlen (sign_get hi') ?_
        walk_at "go"
        refine ⟨le1000 (by simp), fun p np => ?_⟩
        have mu2 := mu.add (u := .tup [.str "cell", .int (to + i), .str "sign", .str ⟨#[s.cps.toList.getD i 0]⟩]) np
        have g2 := g.add (o := .tup [.str "cell", .int (to + i), .str "sign", .str ⟨#[s.cps.toList.getD i 0]⟩]) np
        refine ⟨vs, mu2.h, small_lt (by omega), _, vs ++ [.ref p], g2.wrn mu2.n nD, mu2.wr, ?_⟩
        rw [List.range_succ, List.map_append]
        exact dpa_snoc (dpa_same (Same.new (g.fh.free np)) _ _ dv) (.tup (sqT_of upd_same) (.cons (.str _) (.cons (.int _) (.cons (.str _) (.cons (.str _) .nil)))))
      · obtain ⟨F2, vs, g, mu, dv⟩ := hp
        rw [Int.toNat_natCast] at dv
        exact q D F2 H' g ⟨nD, vs, mu, dv⟩
    | mv w to a n =>
      obtain ⟨p0, rfl, hT⟩ := dp_mv hx
      obtain ⟨n0, n1⟩ := hok
      have hT' := sqT_same hw hT
      cases w with
      | copy =>
        walk_at "go"
        refine ⟨le1000 (by simp), fun D nD => ?_⟩
        have g1 : Gr [] F H F (upd H D (.lst [])) := .new hw nD
        have hT3 := sqT_same g1.ws hT
        walk_at "go"
        by_cases hc : a < to
        · skip
          have est : PRow.steps .copy to a n = (List.range n.toNat).reverse := by
            unfold PRow.steps
            rw [if_pos ⟨rfl, hc⟩]
          refine ⟨_, rfl, by omega, by omega, f_range0 (fun i σ H' => ∃ F2 vs y2 y3 y4, σ = [some (.ref p0), some (.ref D), y2, y3, y4] ∧ Gr [] F H F2 H' ∧ Mu F2 H' D (.lst vs) ∧ DpAll K F2 vs (((PRow.steps .copy to a n).take i).map fun (k : Nat) => wr "cell" (to + k) "cell" (.int (a + k)))) ⟨F, [], none, none, none, rfl, g1, Mu.new hw nD, .nil⟩ (fun i σ H' hi hp => ?_) (fun σ H' hp => ?_)⟩
          · obtain ⟨F2, vs, y2, y3, y4, rfl, g, mu, dv⟩ := hp
            have hT2 := sqT_same g.ws hT
            have hi2 : i < n.toNat := hi
            have hv : vs.length = i := by
              rw [dpa_len dv, List.length_map, List.length_take, PRow.steps_len]
              omega
            have hk : (PRow.steps .copy to a n)[i]? = some (n.toNat - 1 - i) := by
              rw [est]
              exact rev_get hi2
            have ek : ((((n.toNat - 1 - i) : Nat)) : Int) = n - 1 - (i : Int) := by omega
            walk_at "go"
            refine w_iteT hc ?_
            walk_at "go"
            refine ⟨le1000 (by simp), fun p np => ?_⟩
            have mu2 := mu.add (u := .tup [.str "cell", .int (to + (n - 1 - (i : Int))), .str "cell", .int (a + (n - 1 - (i : Int)))]) np
            have g3 := g.add (o := .tup [.str "cell", .int (to + (n - 1 - (i : Int))), .str "cell", .int (a + (n - 1 - (i : Int)))]) np
            walk_at "go"
            refine ⟨_, vs ++ [.ref p], _, _, _, rfl, g3.wrn mu2.n nD, mu2.wr, ?_⟩
            rw [List.take_add_one, hk, List.map_append]
            refine dpa_snoc (dpa_same (Same.new (g.fh.free np)) _ _ dv) ?_
            show Dp K _ _ (wr "cell" (to + ((((n.toNat - 1 - i) : Nat)) : Int)) "cell" (.int (a + ((((n.toNat - 1 - i) : Nat)) : Int))))
            rw [ek]
            exact .tup (sqT_of upd_same) (.cons (.str _) (.cons (.int _) (.cons (.str _) (.cons (.int _) .nil))))
          · obtain ⟨F2, vs, y2, y3, y4, rfl, g, mu, dv⟩ := hp
            walk_at "go"
            rw [List.take_of_length_le (by rw [PRow.steps_len]; exact Nat.le_refl _)] at dv
            exact q D F2 H' g ⟨nD, vs, mu, dv⟩
        · skip
          have est : PRow.steps .copy to a n = List.range n.toNat := by
            unfold PRow.steps
            rw [if_neg (fun z => hc z.2)]
          refine ⟨_, rfl, by omega, by omega, f_range0 (fun i σ H' => ∃ F2 vs y2 y3 y4, σ = [some (.ref p0), some (.ref D), y2, y3, y4] ∧ Gr [] F H F2 H' ∧ Mu F2 H' D (.lst vs) ∧ DpAll K F2 vs (((PRow.steps .copy to a n).take i).map fun (k : Nat) => wr "cell" (to + k) "cell" (.int (a + k)))) ⟨F, [], none, none, none, rfl, g1, Mu.new hw nD, .nil⟩ (fun i σ H' hi hp => ?_) (fun σ H' hp => ?_)⟩
          · obtain ⟨F2, vs, y2, y3, y4, rfl, g, mu, dv⟩ := hp
            have hT2 := sqT_same g.ws hT
            have hi2 : i < n.toNat := hi
            have hv : vs.length = i := by
              rw [dpa_len dv, List.length_map, List.length_take, PRow.steps_len]
              omega
            have hk : (PRow.steps .copy to a n)[i]? = some i := by
              rw [est]
              exact List.getElem?_range hi2
            have ek : (((i : Nat)) : Int) = (i : Int) := by omega
            walk_at "go"
            refine w_iteF hc ?_
            walk_at "go"
            refine ⟨le1000 (by simp), fun p np => ?_⟩
            have mu2 := mu.add (u := .tup [.str "cell", .int (to + ((i : Int))), .str "cell", .int (a + ((i : Int)))]) np
            have g3 := g.add (o := .tup [.str "cell", .int (to + ((i : Int))), .str "cell", .int (a + ((i : Int)))]) np
            walk_at "go"
            refine ⟨_, vs ++ [.ref p], _, _, _, rfl, g3.wrn mu2.n nD, mu2.wr, ?_⟩
            rw [List.take_add_one, hk, List.map_append]
            refine dpa_snoc (dpa_same (Same.new (g.fh.free np)) _ _ dv) ?_
            show Dp K _ _ (wr "cell" (to + (((i : Nat)) : Int)) "cell" (.int (a + (((i : Nat)) : Int))))
            rw [ek]
            exact .tup (sqT_of upd_same) (.cons (.str _) (.cons (.int _) (.cons (.str _) (.cons (.int _) .nil))))
          · obtain ⟨F2, vs, y2, y3, y4, rfl, g, mu, dv⟩ := hp
            walk_at "go"
            rw [List.take_of_length_le (by rw [PRow.steps_len]; exact Nat.le_refl _)] at dv
            exact q D F2 H' g ⟨nD, vs, mu, dv⟩
      | keep =>
        walk_at "go"
        refine ⟨le1000 (by simp), fun D nD => ?_⟩
        have g1 : Gr [] F H F (upd H D (.lst [])) := .new hw nD
        have hT3 := sqT_same g1.ws hT
        walk_at "go"
        have est : PRow.steps .keep to a n = List.range n.toNat := by
          unfold PRow.steps
          rw [if_neg (fun z => by cases z.1)]
        refine ⟨_, rfl, by omega, by omega, f_range0 (fun i σ H' => ∃ F2 vs y2 y3 y4, σ = [some (.ref p0), some (.ref D), y2, y3, y4] ∧ Gr [] F H F2 H' ∧ Mu F2 H' D (.lst vs) ∧ DpAll K F2 vs (((PRow.steps .keep to a n).take i).map fun (k : Nat) => wr "slot" (to + k) "cell" (.int (a + k)))) ⟨F, [], none, none, none, rfl, g1, Mu.new hw nD, .nil⟩ (fun i σ H' hi hp => ?_) (fun σ H' hp => ?_)⟩
        · obtain ⟨F2, vs, y2, y3, y4, rfl, g, mu, dv⟩ := hp
          have hT2 := sqT_same g.ws hT
          have hi2 : i < n.toNat := hi
          have hv : vs.length = i := by
            rw [dpa_len dv, List.length_map, List.length_take, PRow.steps_len]
            omega
          have hk : (PRow.steps .keep to a n)[i]? = some i := by
            rw [est]
            exact List.getElem?_range hi2
          have ek : (((i : Nat)) : Int) = (i : Int) := by omega
          walk_at "go"
          skip
          refine ⟨le1000 (by simp), fun p np => ?_⟩
          have mu2 := mu.add (u := .tup [.str "slot", .int (to + ((i : Int))), .str "cell", .int (a + ((i : Int)))]) np
          have g3 := g.add (o := .tup [.str "slot", .int (to + ((i : Int))), .str "cell", .int (a + ((i : Int)))]) np
          walk_at "go"
          refine ⟨_, vs ++ [.ref p], _, _, _, rfl, g3.wrn mu2.n nD, mu2.wr, ?_⟩
          rw [List.take_add_one, hk, List.map_append]
          refine dpa_snoc (dpa_same (Same.new (g.fh.free np)) _ _ dv) ?_
          show Dp K _ _ (wr "slot" (to + (((i : Nat)) : Int)) "cell" (.int (a + (((i : Nat)) : Int))))
          rw [ek]
          exact .tup (sqT_of upd_same) (.cons (.str _) (.cons (.int _) (.cons (.str _) (.cons (.int _) .nil))))
        · obtain ⟨F2, vs, y2, y3, y4, rfl, g, mu, dv⟩ := hp
          walk_at "go"
          rw [List.take_of_length_le (by rw [PRow.steps_len]; exact Nat.le_refl _)] at dv
          exact q D F2 H' g ⟨nD, vs, mu, dv⟩
      | lay =>
        walk_at "go"
        refine ⟨le1000 (by simp), fun D nD => ?_⟩
        have g1 : Gr [] F H F (upd H D (.lst [])) := .new hw nD
        have hT3 := sqT_same g1.ws hT
        walk_at "go"
        have est : PRow.steps .lay to a n = List.range n.toNat := by
          unfold PRow.steps
          rw [if_neg (fun z => by cases z.1)]
        refine ⟨_, rfl, by omega, by omega, f_range0 (fun i σ H' => ∃ F2 vs y2 y3 y4, σ = [some (.ref p0), some (.ref D), y2, y3, y4] ∧ Gr [] F H F2 H' ∧ Mu F2 H' D (.lst vs) ∧ DpAll K F2 vs (((PRow.steps .lay to a n).take i).map fun (k : Nat) => wr "cell" (to + k) "slot" (.int (a + k)))) ⟨F, [], none, none, none, rfl, g1, Mu.new hw nD, .nil⟩ (fun i σ H' hi hp => ?_) (fun σ H' hp => ?_)⟩
        · obtain ⟨F2, vs, y2, y3, y4, rfl, g, mu, dv⟩ := hp
          have hT2 := sqT_same g.ws hT
          have hi2 : i < n.toNat := hi
          have hv : vs.length = i := by
            rw [dpa_len dv, List.length_map, List.length_take, PRow.steps_len]
            omega
          have hk : (PRow.steps .lay to a n)[i]? = some i := by
            rw [est]
            exact List.getElem?_range hi2
          have ek : (((i : Nat)) : Int) = (i : Int) := by omega
          walk_at "go"
          skip
          refine ⟨le1000 (by simp), fun p np => ?_⟩
          have mu2 := mu.add (u := .tup [.str "cell", .int (to + ((i : Int))), .str "slot", .int (a + ((i : Int)))]) np
          have g3 := g.add (o := .tup [.str "cell", .int (to + ((i : Int))), .str "slot", .int (a + ((i : Int)))]) np
          walk_at "go"
          refine ⟨_, vs ++ [.ref p], _, _, _, rfl, g3.wrn mu2.n nD, mu2.wr, ?_⟩
          rw [List.take_add_one, hk, List.map_append]
          refine dpa_snoc (dpa_same (Same.new (g.fh.free np)) _ _ dv) ?_
          show Dp K _ _ (wr "cell" (to + (((i : Nat)) : Int)) "slot" (.int (a + (((i : Nat)) : Int))))
          rw [ek]
          exact .tup (sqT_of upd_same) (.cons (.str _) (.cons (.int _) (.cons (.str _) (.cons (.int _) .nil))))
        · obtain ⟨F2, vs, y2, y3, y4, rfl, g, mu, dv⟩ := hp
          walk_at "go"
          rw [List.take_of_length_le (by rw [PRow.steps_len]; exact Nat.le_refl _)] at dv
          exact q D F2 H' g ⟨nD, vs, mu, dv⟩
-- _law_writes
theorem ok_law_writes {f : Addr} {fd : FuncData} (F : FunD K "_law_writes" "_law_writes" (defArgs s_law_writes) (defBody s_law_writes) (defScope s_law_writes) [] [] f fd) (T : Txt K mg) (D_law_row_writes : DO P w K mg base 1 "_law_row_writes" ["row"] [] (S1 (φrow_writes K))) : FnOk P w K mg base CX0 2 f fd ["deeds"] (S1 (φwrites K)) := by
  refine F.ok sc_law_writes (fun vs H Q E h => ?_) (fun cdv A outer s H vs Q E hr h => ?_)
  · exact S1.len h
  · match vs, h with
    | [v0], h =>
    have hu := hu_of hr
    refine ⟨_, PSs.nox (pss_cons (ps_set (i := 1) sc_law_writes.nd rfl (.inl rfl) (pe_lst pa_nil))
      (pss_cons (ps_for PassesOwn.never rfl (pi_list (pv 0)) (pg_name (i := 2) sc_law_writes.nd rfl (.inl rfl)) (pss_one (ps_set (i := 1) sc_law_writes.nd rfl (.inl rfl) (pe_op op_cat (pv 1) (pcall D_law_row_writes hr (pa_cons (pv 2) pa_nil))))))
      (pss_one (ps_ret (pv 1))))), ?_⟩
    rw [show start ["deeds", "got", "row"] [v0] = [some v0, none, none] from rfl]
    obtain ⟨F, rs, hw, hx, hok, hsum, q⟩ := h
    obtain ⟨a, us, rfl, hS, dus⟩ := dp_list hx
    walk_at "go"
    refine ⟨le1000 (by simp), fun D nD => ?_⟩
    have g1 : Gr [] F H F (upd H D (.lst [])) := .new hw nD
    walk_at "go"
    refine ⟨a, rfl, ⟨_, sqL_same g1.ws hS⟩, f_list (xs := us) (fun i σ H' => ∃ F2 D y, σ = [some (.ref a), some (.ref D), y] ∧ Gr [] F H F2 H' ∧ NewL K H F2 H' D ((rs.take i).flatMap PRow.writes)) ⟨F, D, none, rfl, g1, nD, [], Mu.new hw nD, .nil⟩ (fun i σ H' _ hp => ?_) (fun i x σ H' hx' hp => ?_) (fun σ H' hp => ?_)⟩
    · obtain ⟨F2, D, y, rfl, g, _⟩ := hp
      exact sqL_same g.ws hS
    · obtain ⟨F2, D, y, rfl, g, nD, vs, mu, dv⟩ := hp
      obtain ⟨r, hr, dr⟩ := row_at dus hx'
      walk_at "go"
      refine ⟨F2, r, g.fh, dp_same g.ff _ _ dr, hok r (List.mem_of_getElem? hr), fun l F3 H3 g3 nl => ?_⟩
      obtain ⟨nl0, zs, muz, dz⟩ := nl
      walk_at "go"
      have mu3 := g3.mu0 mu
      have hl := flat_len rs (i + 1)
      rw [flat_take hr, List.length_append, ← dpa_len dv, ← dpa_len dz] at hl
      refine ⟨D, l, vs, zs, rfl, rfl, mu3.h, muz.h, szle (by omega), fun p np => ?_⟩
      walk_at "go"
      have g4 := (g.trans g3).addm (o := .lst (vs ++ zs)) np
      refine ⟨F3, p, _, rfl, g4, (g.trans g3).fresh np, vs ++ zs, Mu.new g3.fh np, ?_⟩
      rw [flat_take hr]
      exact dpa_app (dpa_same g3.ff _ _ dv) dz
    · obtain ⟨F2, D, y, rfl, g, nD, vs, mu, dv⟩ := hp
      walk_at "go"
      rw [List.take_of_length_le (by rw [dpa_len dus, List.length_map]; exact Nat.le_refl _)] at dv
      exact q D F2 H' g ⟨nD, vs, mu, dv⟩
-- _law_number
theorem ok_law_number {f : Addr} {fd : FuncData} (F : FunD K "_law_number" "_law_number" (defArgs s_law_number) (defBody s_law_number) (defScope s_law_number) [] [] f fd) (T : Txt K mg) (D_law_draw : DO P w K mg base 2 "_law_draw" ["bag", "many"] [] (S2 (φdraw K))) : FnOk P w K mg base CX0 3 f fd ["bag", "base", "wide"] (S3 (φnumber K)) := by
  refine F.ok sc_law_number (fun vs H Q E h => ?_) (fun cdv A outer s H vs Q E hr h => ?_)
  · exact S3.len h
  · match vs, h with
    | [v0, v1, v2], h =>
    have hu := hu_of hr
    refine ⟨_, PSs.nox (pss_cons (ps_if (pt_cmpR op_eq (pcall D_law_draw hr (pa_cons (pv 0) (pa_cons pe_int pa_nil))) pe_int (nomark _)) (pss_one (ps_ret (pe_op op_sub (pe_ix (ixL (K := K)) (pe_lst (pa_cons (pe_op op_add (pv 1) pe_int) (pa_cons (pe_un un_neg pe_int) (pa_cons (pe_op op_pow pe_int pe_int) pa_nil)))) (pcall D_law_draw hr (pa_cons (pv 0) (pa_cons pe_int pa_nil))) (fun _ _ => rfl)) (pcall D_law_draw hr (pa_cons (pv 0) (pa_cons (pv 2) pa_nil)))))) pss_nil)
      (pss_one (ps_ret (pe_op op_add (pv 1) (pcall D_law_draw hr (pa_cons (pv 0) (pa_cons (pv 2) pa_nil))))))), ?_⟩
    rw [show start ["bag", "base", "wide"] [v0, v1, v2] = [some v0, some v1, some v2] from rfl]
    obtain ⟨b, base, wide, F, rfl, rfl, rfl, hw, hb, w0, w1, q⟩ := h
    walk_at "go"
    refine d_draw (Gr.refl (M := [b]) hw) hb (by decide) (by decide) fun r F1 H1 g _ hb _ _ => ?_
    walk_at "go"
    refine w_ite (fun hc => ?_) (fun hc => ?_)
    · walk_at "go"
      refine ⟨le1000 (by simp), fun p np => ?_⟩
      replace hb := hb.add (u := .lst ([base + 400, -1, 10 ^ (59 : Int).toNat].map V.int)) g.fh np
      replace g := g.add (o := .lst ([base + 400, -1, 10 ^ (59 : Int).toNat].map V.int)) np
      walk_at "go"
      refine d_draw g hb (by decide) (by decide) fun r2 F2 H2 g g1 hb r0 r1 => ?_
      obtain ⟨m, em⟩ := pick_int (ns := [base + 400, -1, 10 ^ (59 : Int).toNat]) r0 r1
      refine w_ixL _ _ (sqL_same g1.ws (sqL_of upd_same)) em ?_
      walk_at "go"
      refine d_draw g hb w0 w1 fun r3 F3 H3 g _ hb _ _ => ?_
      walk_at "go"
      exact q _ _ _ g hb
    · walk_at "go"
      refine d_draw g hb w0 w1 fun r3 F3 H3 g _ hb _ _ => ?_
      walk_at "go"
      exact q _ _ _ g hb
-- _law_any_writes
theorem ok_law_any_writes {f : Addr} {fd : FuncData} (F : FunD K "_law_any_writes" "_law_any_writes" (defArgs s_law_any_writes) (defBody s_law_any_writes) (defScope s_law_any_writes) [] [] f fd) (T : Txt K mg) (D_law_draw : DO P w K mg base 2 "_law_draw" ["bag", "many"] [] (S2 (φdraw K))) (D_law_number : DO P w K mg base 3 "_law_number" ["bag", "base", "wide"] [] (S3 (φnumber K))) (D_law_sign : DO P w K mg base 3 "_law_sign" ["bag", "few"] [] (S2 (φsign K))) : FnOk P w K mg base CX0 4 f fd ["bag", "many"] (S2 (φany_writes K)) := by
  refine F.ok sc_law_any_writes (fun vs H Q E h => ?_) (fun cdv A outer s H vs Q E hr h => ?_)
  · exact S2.len h
  · match vs, h with
    | [v0, v1], h =>
    have hu := hu_of hr
    refine ⟨_, PSs.nox (pss_cons (ps_set (i := 2) sc_law_any_writes.nd rfl (.inl rfl) (pe_ix (ixL (K := K)) (pe_lst (pa_cons pe_int (pa_cons pe_int (pa_cons pe_int (pa_cons pe_int (pa_cons pe_int pa_nil)))))) (pcall D_law_draw hr (pa_cons (pv 0) (pa_cons pe_int pa_nil))) (fun _ _ => rfl)))
      (C8.pss_cut (ps_set (i := 3) sc_law_any_writes.nd rfl (.inl rfl) (pe_ifExp (pt_cmpR op_eq (pcall D_law_draw hr (pa_cons (pv 0) (pa_cons pe_int pa_nil))) pe_int (nomark _)) (pcall D_law_draw hr (pa_cons (pv 0) (pa_cons (pe_op op_pow pe_int pe_int) pa_nil))) pe_int))
      (pss_cons (ps_set (i := 4) sc_law_any_writes.nd rfl (.inl rfl) (pe_lst pa_nil))
      (pss_cons (ps_for PassesOwn.never rfl (pi_range1 rfl T.b_range (pa_cons (pv 1) pa_nil)) (pg_name (i := 5) sc_law_any_writes.nd rfl (.inl rfl)) (pss_cons (ps_set (i := 6) sc_law_any_writes.nd rfl (.inl rfl) (pe_ix (ixL (K := K)) (pe_lst (pa_cons pe_str (pa_cons pe_str (pa_cons pe_str pa_nil)))) (pcall D_law_draw hr (pa_cons (pv 0) (pa_cons pe_int pa_nil))) (fun _ _ => rfl)))
      (pss_cons (ps_set (i := 7) sc_law_any_writes.nd rfl (.inl rfl) (pe_ix (ixL (K := K)) (pe_lst (pa_cons pe_str (pa_cons pe_str (pa_cons pe_str (pa_cons pe_str pa_nil))))) (pcall D_law_draw hr (pa_cons (pv 0) (pa_cons pe_int pa_nil))) (fun _ _ => rfl)))
      (pss_cons (ps_set (i := 8) sc_law_any_writes.nd rfl (.inl rfl) (pcall D_law_number hr (pa_cons (pv 0) (pa_cons (pv 3) (pa_cons (pv 2) pa_nil)))))
      (C8.pss_cut (ps_set (i := 9) sc_law_any_writes.nd rfl (.inl rfl) (pe_ifExp (pt_cmpR op_eq (pv 7) pe_str (nomark _)) (pcall D_law_sign hr (pa_cons (pv 0) (pa_cons pe_bl pa_nil))) (pcall D_law_number hr (pa_cons (pv 0) (pa_cons (pv 3) (pa_cons (pv 2) pa_nil))))))
      (pss_one (ps_expr (peBM (K := K) PySem.F.plainAttrs_list PySem.F.slot_list_append PySem.F.type_list_append mt_append (pv 4) (pa_cons (pe_tup (pa_cons (pv 6) (pa_cons (pv 8) (pa_cons (pv 7) (pa_cons (pv 9) pa_nil))))) pa_nil)))))))))
      (pss_one (ps_ret (pv 4))))))), ?_⟩
    rw [show start ["bag", "many", "wide", "base", "acts", "k", "where", "source", "number", "what"] [v0, v1] = [some v0, some v1, none, none, none, none, none, none, none, none] from rfl]
    obtain ⟨b, many, F, rfl, rfl, hw, hb, n0, n1, q⟩ := h
    walk_at "go"
    refine ⟨le1000 (by simp), fun p np => ?_⟩
    have g0 := (Gr.refl (M := [b]) hw).add (o := .lst ([2, 3, 6, 30, 400].map V.int)) np
    replace hb := hb.add (u := .lst ([2, 3, 6, 30, 400].map V.int)) hw np
    walk_at "go"
    refine d_draw g0 hb (by decide) (by decide) fun wi F1 H1 g g1 hb w0 w1 => ?_
    obtain ⟨wd, ewd, wd0, wd1⟩ := pick_ix (ns := [2, 3, 6, 30, 400]) (lo := 2) (hi := 400) w0 w1 (by decide)
    walk_at "go"
    refine w_ixL _ _ (sqL_same g1.ws (sqL_of upd_same)) ewd ?_
    walk_at "go"
    refine w_cut (fun σ H5 => ∃ (F5 : Hp) (bs : Int), σ = [some (.ref b), some (.int many), some (.int wd), some (.int bs), none, none, none, none, none, none] ∧ Gr [b] F H F5 H5 ∧ Bag K F5 H5 b) ?_ (fun σ H5 hp => ?_)
    · walk_at "go"
      refine d_draw g hb (by decide) (by decide) fun r F5 H5 g g1 hb _ _ => ?_
      walk_at "go"
      refine w_ite (fun _ => ?_) (fun _ => ?_)
      · walk_at "go"
        refine d_draw g hb (by decide) (by decide) fun r F5 H5 g g1 hb _ _ => ?_
        walk_at "go"
        exact ⟨F5, _, rfl, g, hb⟩
      · walk_at "go"
        exact ⟨F5, _, rfl, g, hb⟩
    obtain ⟨F5, bs, rfl, g, hb⟩ := hp
    walk_at "go"
    refine ⟨le1000 (by simp), fun D nD => ?_⟩
    have nbD := hb.ne_new nD
    have nD0 := g.fresh nD
    have mD := Mu.new (o := .lst []) g.fh nD
    replace hb := hb.addm (u := .lst []) nD
    replace g := g.addm (o := .lst []) nD
    have hDb : D ∉ [b] := by simp; exact nbD.symm
    walk_at "go"
    refine ⟨_, rfl, by omega, by omega, f_range0 (fun i σ H' => ∃ (F2 : Hp) (vs : List V) (acts : List WAct) (y5 y6 y7 y8 y9 : Option V), σ = [some (.ref b), some (.int many), some (.int wd), some (.int bs), some (.ref D), y5, y6, y7, y8, y9] ∧ Gr [b] F H F2 H' ∧ Bag K F2 H' b ∧ Mu F2 H' D (.lst vs) ∧ DpAll K F2 vs (acts.map WAct.d) ∧ (∀ t ∈ acts, t.ok) ∧ acts.length ≤ i) ⟨F5, [], [], none, none, none, none, none, rfl, g, hb, mD, .nil, by simp, Nat.le_refl _⟩ (fun i σ H' hi hp => ?_) (fun σ H' hp => ?_)⟩
    · obtain ⟨F2, vs, acts, y5, y6, y7, y8, y9, rfl, g, hb, mD, dv, oks, hlen⟩ := hp
      walk_at "go"
      refine ⟨le1000 (by simp), fun p np => ?_⟩
      have s1 := Same.new (o := .lst (([("cell" : Str), "cell", "slot"] : List Str).map V.str)) (g.fh.free np)
      replace mD := mD.add (u := .lst (([("cell" : Str), "cell", "slot"] : List Str).map V.str)) np
      replace hb := hb.add (u := .lst (([("cell" : Str), "cell", "slot"] : List Str).map V.str)) g.fh np
      replace g := g.add (o := .lst (([("cell" : Str), "cell", "slot"] : List Str).map V.str)) np
      replace dv := dpa_same s1 _ _ dv
      walk_at "go"
      refine d_draw g hb (by decide) (by decide) fun r F3 H3 g g1 hb r0 r1 => ?_
      replace mD := g1.mu mD hDb
      replace dv := dpa_same g1.ff _ _ dv
      obtain ⟨wz, mz, ez⟩ := pick_str (zs := ["cell", "cell", "slot"]) r0 r1
      walk_at "go"
      refine w_ixL _ _ (sqL_same g1.ws (sqL_of upd_same)) ez ?_
      walk_at "go"
      refine ⟨le1000 (by simp), fun p np => ?_⟩
      have s1 := Same.new (o := .lst (([("cell" : Str), "cell", "slot", "sign"] : List Str).map V.str)) (g.fh.free np)
      replace mD := mD.add (u := .lst (([("cell" : Str), "cell", "slot", "sign"] : List Str).map V.str)) np
      replace hb := hb.add (u := .lst (([("cell" : Str), "cell", "slot", "sign"] : List Str).map V.str)) g.fh np
      replace g := g.add (o := .lst (([("cell" : Str), "cell", "slot", "sign"] : List Str).map V.str)) np
      replace dv := dpa_same s1 _ _ dv
      walk_at "go"
      refine d_draw g hb (by decide) (by decide) fun r F3 H3 g g1 hb r0 r1 => ?_
      replace mD := g1.mu mD hDb
      replace dv := dpa_same g1.ff _ _ dv
      obtain ⟨sz, msz, esz⟩ := pick_str (zs := ["cell", "cell", "slot", "sign"]) r0 r1
      walk_at "go"
      refine w_ixL _ _ (sqL_same g1.ws (sqL_of upd_same)) esz ?_
      walk_at "go"
      refine ⟨b, bs, wd, F3, rfl, rfl, rfl, g.fh, hb, by omega, by omega, fun num F4 H4 g1 hb => ?_⟩
      replace mD := g1.mu mD hDb
      replace dv := dpa_same g1.ff _ _ dv
      replace g := g.trans g1
      walk_at "go"
      refine w_cut (fun σ H5 => ∃ (F5 : Hp) (k : Key), σ = [some (.ref b), some (.int many), some (.int wd), some (.int bs), some (.ref D), some (.int i), some (.str wz), some (.str sz), some (.int num), some (kV k)] ∧ keyOk k ∧ Gr [b] F H F5 H5 ∧ Bag K F5 H5 b ∧ Mu F5 H5 D (.lst vs) ∧ DpAll K F5 vs (acts.map WAct.d)) ?_ (fun σ H5 hp => ?_)
      · walk_at "go"
        refine w_ite (fun _ => ?_) (fun _ => ?_)
        · walk_at "go"
          refine ⟨b, false, F4, rfl, rfl, g.fh, hb, fun z F6 H6 g1 hb hz oz => ?_⟩
          walk_at "go"
          exact ⟨F6, .inr z, rfl, ⟨oz, by omega⟩, g.trans g1, hb, g1.mu mD hDb, dpa_same g1.ff _ _ dv⟩
        · walk_at "go"
          refine ⟨b, bs, wd, F4, rfl, rfl, rfl, g.fh, hb, by omega, by omega, fun num2 F6 H6 g1 hb => ?_⟩
          walk_at "go"
          exact ⟨F6, .inl num2, rfl, True.intro, g.trans g1, hb, g1.mu mD hDb, dpa_same g1.ff _ _ dv⟩
      obtain ⟨F6, k, rfl, hk, g, hb, mD, dv⟩ := hp
      walk_at "go"
      refine ⟨le1000 (by simp), fun p np => ?_⟩
      have s1 := Same.new (o := .tup [.str wz, .int num, .str sz, kV k]) (g.fh.free np)
      replace mD := mD.add (u := .tup [.str wz, .int num, .str sz, kV k]) np
      replace hb := hb.add (u := .tup [.str wz, .int num, .str sz, kV k]) g.fh np
      replace g := g.add (o := .tup [.str wz, .int num, .str sz, kV k]) np
      replace dv := dpa_same s1 _ _ dv
      have hvl : vs.length ≤ 3000 := by
        rw [dpa_len dv, List.length_map]
        omega
      have okw : ∀ z ∈ (["cell", "cell", "slot"] : List Str), okS z ∧ z.length ≤ 100 := by decide +kernel
      have oks2 : ∀ z ∈ (["cell", "cell", "slot", "sign"] : List Str), okS z ∧ z.length ≤ 100 := by decide +kernel
      walk_at "go"
      refine ⟨_, vs ++ [.ref p], acts ++ [⟨wz, num, sz, k⟩], _, _, _, _, _, rfl, g.wrn mD.n nD0, hb.put nbD, mD.wr, ?_, ?_, by rw [List.length_append]; show acts.length + 1 ≤ i + 1; omega⟩
      · rw [List.map_append]
        exact dpa_snoc dv (.tup (sqT_of upd_same) (.cons (.str _) (.cons (.int _) (.cons (.str _) (.cons (key_dp k) .nil)))))
      · intro t ht
        rcases List.mem_append.mp ht with ht | ht
        · exact oks t ht
        · rw [List.mem_singleton.mp ht]
          exact ⟨okw wz mz, oks2 sz msz, hk⟩
    · obtain ⟨F2, vs, acts, y5, y6, y7, y8, y9, rfl, g, hb, mD, dv, oks, hlen⟩ := hp
      walk_at "go"
      exact q D acts _ H' (g.frz nD0 mD) (hb.frz mD.n nbD) (.lst (sqL_of upd_same) (dpa_same (Same.new mD.n) _ _ dv)) oks (by omega) (by omega)
-- _law_alike
theorem ok_law_alike {f : Addr} {fd : FuncData} (F : FunD K "_law_alike" "_law_alike" (defArgs s_law_alike) (defBody s_law_alike) (defScope s_law_alike) [] [] f fd) (T : Txt K mg) {n : Nat} (D_law_alike : DO P w K mg base n "_law_alike" ["got", "due"] [] (S2 (φalike K n))) : FnOk P w K mg base CX0 (n + 1) f fd ["got", "due"] (S2 (φalike K (n + 1))) := by
  refine F.ok sc_law_alike (fun vs H Q E h => ?_) (fun cdv A outer s H vs Q E hr h => ?_)
  · exact S2.len h
  · match vs, h with
    | [v0, v1], h =>
    have hu := hu_of hr
    refine ⟨_, PSs.nox (pss_cons (ps_if (pt_val (pe_callB (clIsiT (K := K)) (by rfl) T.b_isinstance (by decide +kernel) (pa_cons (pv 1) (pa_cons (pe_tup (pa_cons (pe_bltn (v := .ty "list") (by rfl) T.b_list (by decide +kernel) rfl) (pa_cons (pe_bltn (v := .ty "tuple") (by rfl) T.b_tuple (by decide +kernel) rfl) pa_nil))) pa_nil)))) (pss_cons (ps_if (PW.pt (pw_or (pt_not (pt_val (pe_callB (clIsiT (K := K)) (by rfl) T.b_isinstance (by decide +kernel) (pa_cons (pv 0) (pa_cons (pe_tup (pa_cons (pe_bltn (v := .ty "list") (by rfl) T.b_list (by decide +kernel) rfl) (pa_cons (pe_bltn (v := .ty "tuple") (by rfl) T.b_tuple (by decide +kernel) rfl) pa_nil))) pa_nil))))) (pw_or1 (pt_cmpR op_ne (pe_callB (clIsi (K := K)) (by rfl) T.b_isinstance (by decide +kernel) (pa_cons (pv 0) (pa_cons (pe_bltn (v := .ty "list") (by rfl) T.b_list (by decide +kernel) rfl) pa_nil))) (pe_callB (clIsi (K := K)) (by rfl) T.b_isinstance (by decide +kernel) (pa_cons (pv 1) (pa_cons (pe_bltn (v := .ty "list") (by rfl) T.b_list (by decide +kernel) rfl) pa_nil))) (nomark _))))) (pss_one (ps_ret pe_bl)) pss_nil)
      (pss_cons (ps_if (pt_cmpR op_ne (pe_callB (clLenQ (K := K)) (by rfl) T.b_len (by decide +kernel) (pa_cons (pv 0) pa_nil)) (pe_callB (clLenQ (K := K)) (by rfl) T.b_len (by decide +kernel) (pa_cons (pv 1) pa_nil)) (nomark _)) (pss_one (ps_ret pe_bl)) pss_nil)
      (pss_one (ps_ret (pe_callB (clAll (K := K)) (by rfl) T.b_all (by decide +kernel) (pa_cons (pe_lc (own := [("k", 2)]) (g := gName 2) rfl sc_law_alike.nd (pi_range1 rfl T.b_range (pa_cons (pe_callB (clLenQ (K := K)) (by rfl) T.b_len (by decide +kernel) (pa_cons (pv 1) pa_nil)) pa_nil)) (blkOk_by (own := [("k", 2)]) (N := ["got", "due", "k"]) (sc := defScope s_law_alike) (by decide +kernel)) (fun _ _ _ _ _ => pg_name (i := 2) sc_law_alike.nd rfl (Or.inl rfl)) (fun _ _ _ _ _ => pts_nil) (fun _ _ _ _ _ => (pcall D_law_alike hr (pa_cons (pe_ix (ixQ (K := K)) (pv 0) (pv 2) (fun _ _ => rfl)) (pa_cons (pe_ix (ixQ (K := K)) (pv 1) (pv 2) (fun _ _ => rfl)) pa_nil))))) pa_nil)))))) pss_nil)
      (pss_cons (ps_if (PW.pt (pw_or (pt_cmpR op_ne (pe_callB (clIsi (K := K)) (by rfl) T.b_isinstance (by decide +kernel) (pa_cons (pv 0) (pa_cons (pe_bltn (v := .ty "bool") (by rfl) T.b_bool (by decide +kernel) rfl) pa_nil))) (pe_callB (clIsi (K := K)) (by rfl) T.b_isinstance (by decide +kernel) (pa_cons (pv 1) (pa_cons (pe_bltn (v := .ty "bool") (by rfl) T.b_bool (by decide +kernel) rfl) pa_nil))) (nomark _)) (pw_or1 (pt_cmpR op_ne (pe_callB (clIsi (K := K)) (by rfl) T.b_isinstance (by decide +kernel) (pa_cons (pv 0) (pa_cons (pe_bltn (v := .ty "int") (by rfl) T.b_int (by decide +kernel) rfl) pa_nil))) (pe_callB (clIsi (K := K)) (by rfl) T.b_isinstance (by decide +kernel) (pa_cons (pv 1) (pa_cons (pe_bltn (v := .ty "int") (by rfl) T.b_int (by decide +kernel) rfl) pa_nil))) (nomark _))))) (pss_one (ps_ret pe_bl)) pss_nil)
      (pss_one (ps_ret (pe_and (pe_cmpR op_eq (pe_callB (clIsi (K := K)) (by rfl) T.b_isinstance (by decide +kernel) (pa_cons (pv 0) (pa_cons (pe_bltn (v := .ty "str") (by rfl) T.b_str (by decide +kernel) rfl) pa_nil))) (pe_callB (clIsi (K := K)) (by rfl) T.b_isinstance (by decide +kernel) (pa_cons (pv 1) (pa_cons (pe_bltn (v := .ty "str") (by rfl) T.b_str (by decide +kernel) rfl) pa_nil))) (nomark _)) (pe_one (pe_cmpR op_eq (pv 0) (pv 1) (nomark _)))))))), ?_⟩
    rw [show start ["got", "due", "k"] [v0, v1] = [some v0, some v1, none] from rfl]
    obtain ⟨F, d, hw, hx, hy, hn, hgd, q⟩ := h
    walk_at "go"
    refine ⟨le1000 (by simp), fun p np => ?_⟩
    have g1 : Gr [] F H F (upd H p (.tup [.ty "list", .ty "tuple"])) := .new hw np
    walk_at "go"
    refine u_isiT hy g1.fh upd_same (k_list d) (k_tuple d) ?_
    walk_at "go"
    cases hs : isSeq d with
    | false =>
      have e1 : isLst d = false := by cases d <;> first | rfl | cases hs
      have e2 : isTup d = false := by cases d <;> first | rfl | cases hs
      refine w_is (c := false) (by rw [e1, e2]; rfl) ?_
      obtain ⟨rfl, hsc⟩ := sca_of hx hy hs
      walk_at "go"
      refine u_isi hx g1.fh (k_bool d) ?_
      walk_at "go"
      refine u_isi hy g1.fh (k_bool d) ?_
      walk_at "go"
      refine u_isi hx g1.fh (k_int d) ?_
      walk_at "go"
      refine u_isi hy g1.fh (k_int d) ?_
      walk_at "go"
      refine u_isi hx g1.fh (k_str d) ?_
      walk_at "go"
      refine u_isi hy g1.fh (k_str d) ?_
      walk_at "go"
      refine ⟨hsc, ?_⟩
      rw [decide_eq_true rfl]
      exact q F _ g1
    | true =>
      refine w_is (c := true) (by cases d <;> first | rfl | cases hs) ?_
      obtain ⟨a, vs, rfl, ha, das⟩ := seq_of hx hs
      obtain ⟨b, us, rfl, hb, dbs⟩ := seq_of hy hs
      have hl : (itemsD d).length ≤ 100000 := good_len hgd
      walk_at "go"
      refine ⟨le1000 (by simp), fun p2 np2 => ?_⟩
      have g2 := g1.addm (o := .tup [.ty "list", .ty "tuple"]) np2
      walk_at "go"
      refine u_isiT hx g2.fh upd_same (k_list d) (k_tuple d) ?_
      walk_at "go"
      refine w_is (c := false) (by cases d <;> first | rfl | cases hs) ?_
      walk_at "go"
      refine u_isi hx g2.fh (k_list d) ?_
      walk_at "go"
      refine u_isi hy g2.fh (k_list d) ?_
      walk_at "go"
      refine ⟨a, vs, rfl, sq_same g2.fh ha, ?_⟩
      walk_at "go"
      refine ⟨b, us, rfl, sq_same g2.fh hb, ?_⟩
      walk_at "go"
      have el : vs.length = us.length := (dpa_len das).trans (dpa_len dbs).symm
      have lv : vs.length = (itemsD d).length := dpa_len das
      rw [el]
      refine w_nself ?_
      walk_at "go"
      refine ⟨b, us, rfl, sq_same g2.fh hb, ?_⟩
      walk_at "go"
      refine ⟨_, rfl, by omega, by omega, fun D nD => ?_⟩
      have g3 := g2.addm (o := .lst []) nD
      refine lc_rng (fun i H' => ∃ F2, Gr [] F H F2 H' ∧ Mu F2 H' D (.lst ((List.replicate i true).map V.bl))) ⟨F, g3, Mu.new g2.fh nD⟩ (fun i H' hi hp => ?_) (fun H' hp => ?_)
      · obtain ⟨F2, g, mu⟩ := hp
        have hi' : i < us.length := by omega
        have hid : (itemsD d)[i]? = some (itemsD d)[i] := List.getElem?_eq_getElem (by omega)
        obtain ⟨v, gv, dv⟩ := dpa_get das hid
        obtain ⟨u, gu, du⟩ := dpa_get dbs hid
        have hdep := depth_item hs hid
        show gName 2 _ [some (.ref a), some (.ref b), none] H' _
        walk_at "go"
        refine ⟨rfl, ?_⟩
        walk_at "go"
        have wF : Same F H' := g.ff.trans g.fh
        refine w_ixQ _ _ (sq_same wF ha) (atI_nat gv) ?_
        walk_at "go"
        refine w_ixQ _ _ (sq_same wF hb) (atI_nat gu) ?_
        walk_at "go"
        refine ⟨F2, _, g.fh, dp_same g.ff _ _ dv, dp_same g.ff _ _ du, by omega, good_item hgd hid, fun F3 H3 g3 => ?_⟩
        have mu3 := g3.mu0 mu
        refine ⟨_, mu3.h, small_lt (by rw [List.length_map, List.length_replicate]; omega), F3, (g.trans g3).wrn mu3.n (g2.fresh nD), ?_⟩
        rw [List.replicate_succ', List.map_append]
        exact mu3.wr
      · obtain ⟨F2, g, mu⟩ := hp
        walk_at "go"
        refine ⟨D, _, rfl, mu.sq, ?_⟩
        rw [all_rep]
        exact q F2 H' g
-- _law_due
theorem ok_law_due {f : Addr} {fd : FuncData} (F : FunD K "_law_due" "_law_due" (defArgs s_law_due) (defBody s_law_due) (defScope s_law_due) [] [] f fd) (T : Txt K mg)  : FnOk P w K mg base CX0 1 f fd ["acts", "bars"] (S2 (φdue K)) := by
  refine F.ok sc_law_due (fun vs H Q E h => ?_) (fun cdv A outer s H vs Q E hr h => ?_)
  · exact S2.len h
  · match vs, h with
    | [v0, v1], h =>
    have hu := hu_of hr
    refine ⟨_, PSs.nox (pss_cons (ps_for PassesOwn.never rfl (pi_range1 rfl T.b_range (pa_cons (pe_callB (clLenQ (K := K)) (by rfl) T.b_len (by decide +kernel) (pa_cons (pv 0) pa_nil)) pa_nil)) (pg_name (i := 2) sc_law_due.nd rfl (.inr rfl)) (pss_one (ps_for PassesOwn.never rfl (pi_range1 rfl T.b_range (pa_cons (pv 2) pa_nil)) (pg_name (i := 3) sc_law_due.nd rfl (.inr rfl)) (pss_cons (ps_setLc (i := 4) (own := [("m", 5)]) (g := gName 5) rfl sc_law_due.nd rfl rfl (sw_true rfl rfl rfl (by decide +kernel)) (pi_list (pv 1)) (blkOk_by (own := [("m", 5)]) (N := ["acts", "bars", "j", "i", "parted", "m"]) (sc := defScope s_law_due) (by decide +kernel)) (fun _ _ _ _ _ => pg_name (i := 5) sc_law_due.nd rfl (Or.inl rfl)) (fun _ _ _ _ _ => pts_one (PW.pt (pw_and (pt_cmpR op_lt (pv 3) (pv 5) (nomark _)) (pw_and1 (pt_cmpR op_le (pv 5) (pv 2) (nomark _)))))) (fun _ _ _ _ _ => (pv 5)))
      (pss_one (ps_if (PW.pt (pw_and (pt_cmpR (opEqD (K := K) hr.units) (pv 4) (pe_lst pa_nil) (nomark _)) (pw_and (pt_cmpR op_ne (pe_ix (ixT (K := K)) (pe_ix (ixL (K := K)) (pv 0) (pv 3) (fun _ _ => rfl)) pe_int (fun _ _ => rfl)) pe_str (nomark _)) (pw_and1 (pt_cmpR (opEqD (K := K) hr.units) (pe_slice (slT (K := K)) (pe_ix (ixL (K := K)) (pv 0) (pv 3) (fun _ _ => rfl)) (po_some pe_int) po_none) (pe_slice (slT (K := K)) (pe_ix (ixL (K := K)) (pv 0) (pv 2) (fun _ _ => rfl)) po_none (po_some pe_int)) (nomark _)))))) (pss_one (ps_ret (pe_tup (pa_cons (pv 3) (pa_cons (pv 2) pa_nil))))) pss_nil))))))
      (pss_one (ps_ret pe_non))), ?_⟩
    rw [show start ["acts", "bars", "j", "i", "parted", "m"] [v0, v1] = [some v0, some v1, none, none, none, none] from rfl]
    obtain ⟨F, acts, mA, ms, rfl, hw, hx, hm, oks, hn, hn2, q⟩ := h
    obtain ⟨a, us, rfl, hS, dus⟩ := dp_list hx
    have hlen : us.length = acts.length := by rw [dpa_len dus, List.length_map]
    have hS0 := sqL_same hw hS
    walk_at "go"
    refine ⟨_, rfl, by omega, by omega, f_range0 (fun j σ H' => ∃ (F2 : Hp) (y2 y3 y4 : Option V), σ = [some (.ref a), some (.ref mA), y2, y3, y4, none] ∧ Gr [] F H F2 H' ∧ ∀ j' < j, ∀ i', ¬ TT acts ms i' j') ⟨F, none, none, none, rfl, Gr.refl hw, fun j' h => absurd h (Nat.not_lt_zero _)⟩ (fun j σ H' hj hp => ?_) (fun σ H' hp => ?_)⟩
    · obtain ⟨F2, y2, y3, y4, rfl, g, hT⟩ := hp
      have hj' : j < acts.length := by omega
      obtain ⟨u, hu⟩ : ∃ u, acts[j]? = some u := ⟨_, List.getElem?_eq_getElem hj'⟩
      obtain ⟨pu, gu, hTu⟩ := act_at dus hu
      walk_at "go"
      refine ⟨_, rfl, by omega, by omega, f_range0 (fun i σ H' => ∃ (F2 : Hp) (y3 y4 : Option V), σ = [some (.ref a), some (.ref mA), some (.int (j : Nat)), y3, y4, none] ∧ Gr [] F H F2 H' ∧ ∀ i' < i, ¬ TT acts ms i' j) ⟨F2, y3, y4, rfl, g, fun j' h => absurd h (Nat.not_lt_zero _)⟩ (fun i σ H' hi hp => ?_) (fun σ H' hp => ?_)⟩
      · clear g
        obtain ⟨F2, y3, y4, rfl, g, hT2⟩ := hp
        have hij : i < j := by omega
        obtain ⟨t, ht⟩ : ∃ t, acts[i]? = some t := ⟨_, List.getElem?_eq_getElem (by omega)⟩
        obtain ⟨pt, gt, hTt⟩ := act_at dus ht
        have htk := tt_keys (bars := ms) ht hu
        walk_at "go"
        refine ⟨mA, rfl, ⟨_, sqL_same g.ws (sqL_of hm)⟩, fun D nD => ?_⟩
        have nD0 := g.fresh nD
        refine lc_list (xs := nV ms) (fun k H' => Gr [] F H F2 H' ∧ Mu F2 H' D (.lst (nV ((ms.take k).filter fun m => decide (i < m) && decide (m ≤ j))))) ⟨g.addm nD, Mu.new g.fh nD⟩ (fun k H' _ hp => ?_) (fun k x H' hx' hp => ?_) (fun H' hp => ?_)
        · exact sqL_same hp.1.ws (sqL_of hm)
        · obtain ⟨g, mu⟩ := hp
          obtain ⟨m, hmk, rfl⟩ := nV_get hx'
          have hkl := (List.getElem?_eq_some_iff.mp hmk).1
          have hfl : ((ms.take k).filter fun m => decide (i < m) && decide (m ≤ j)).length ≤ 100000 := by
            have := List.length_filter_le (fun m => decide (i < m) && decide (m ≤ j)) (ms.take k)
            rw [List.length_take] at this
            omega
          walk_at "wp"
          walk_at "go"
          refine ⟨rfl, ?_⟩
          walk_at "go"
          refine w_ite (fun h1 => ?_) (fun h1 => ?_)
          · walk_at "go"
            refine w_ite (fun h2 => ?_) (fun h2 => ?_)
            · walk_at "go"
              refine ⟨_, mu.h, small_lt (by rw [nV_len]; omega), g.wrn mu.n nD0, ?_⟩
              rw [List.take_add_one, hmk, List.filter_append]
              rw [show (List.filter (fun m => decide (i < m) && decide (m ≤ j)) (some m).toList) = [m] by
                show List.filter _ [m] = [m]
                rw [List.filter_cons_of_pos (by simp; omega)]
                rfl]
              rw [nV_snoc]
              exact mu.wr
            · refine ⟨g, ?_⟩
              rw [List.take_add_one, hmk, List.filter_append]
              rw [show (List.filter (fun m => decide (i < m) && decide (m ≤ j)) (some m).toList) = [] by
                show List.filter _ [m] = []
                rw [List.filter_cons_of_neg (by simp; omega)]
                rfl]
              rw [List.append_nil]
              exact mu
          · walk_at "go"
            refine ⟨g, ?_⟩
            rw [List.take_add_one, hmk, List.filter_append]
            rw [show (List.filter (fun m => decide (i < m) && decide (m ≤ j)) (some m).toList) = [] by
              show List.filter _ [m] = []
              rw [List.filter_cons_of_neg (by simp; omega)]
              rfl]
            rw [List.append_nil]
            exact mu
        · obtain ⟨g, mu⟩ := hp
          rw [List.take_of_length_le (by rw [nV_len]; exact Nat.le_refl _)] at mu
          have hfl := List.length_filter_le (fun m => decide (i < m) && decide (m ≤ j)) ms
          have hTt' := sqT_same g.ws hTt
          walk_at "go"
          refine ⟨le1000 (by simp), fun p np => ?_⟩
          replace mu := mu.addm (u := .lst []) np
          replace g := g.addm (o := .lst []) np
          refine u_empN mu.sq (sqL_of upd_same) (by omega) ?_
          walk_at "go"
          refine w_ite (fun he => ?_) (fun he => ?_)
          · have hnob : ∀ m ∈ ms, ¬ (i < m ∧ m ≤ j) := fun m hm hh => by
              have h1 : m ∈ ms.filter fun m => decide (i < m) && decide (m ≤ j) := List.mem_filter.mpr ⟨hm, by simp; omega⟩
              rw [List.length_eq_zero_iff.mp he] at h1
              cases h1
            have hTt' := sqT_same g.ws hTt
            walk_at "go"
            refine w_ixL _ _ (sqL_same g.ws hS) (atI_nat gt) ?_
            walk_at "go"
            refine w_iteN (fun hs => ?_) (fun hs => ?_)
            · walk_at "go"
              refine w_ixL _ _ (sqL_same g.ws hS) (atI_nat gt) ?_
              walk_at "go"
              refine w_slT _ hTt' (fun z => absurd z.1 (by show ¬ (HT.sIx 4 0 (some 2) = 0); decide)) (fun q1 nq1 => ?_)
              replace g := g.addm (o := .tup (cutV [.str t.w, .int t.n, .str t.s, kV t.x] (some 2) none)) nq1
              walk_at "go"
              refine w_ixL _ _ (sqL_same g.ws hS) (atI_nat gu) ?_
              walk_at "go"
              refine w_slT _ (sqT_same g.ws hTu) (fun z => absurd z.2 (by show ¬ (HT.sIx 4 4 (some 2) = 4); decide)) (fun q2 nq2 => ?_)
              have nq12 : q1 ≠ q2 := fun z => by rw [← z, upd_same] at nq2; cases nq2
              have ot := oks t (List.mem_of_getElem? ht)
              have ou := oks u (List.mem_of_getElem? hu)
              refine ⟨.tuple [.str t.s, keyD t.x], .tuple [.str u.w, .int u.n], .tup (sqT_of (by rw [upd_ne nq12]; exact upd_same)) (.cons (.str _) (.cons (key_dp _) .nil)), .tup (sqT_of upd_same) (.cons (.str _) (.cons (.int _) .nil)), good_shaped ?_ ?_, good_shaped ?_ ?_, ?_⟩
              · refine good_tuple (by simp) fun d hd => ?_
                simp only [List.mem_cons, List.not_mem_nil, or_false] at hd
                rcases hd with rfl | rfl
                · exact str_good ot.2.1.1 (by have := ot.2.1.2; omega)
                · have h5 := ot.2.2
                  revert h5
                  cases t.x with
                  | inl i => intro _; rfl
                  | inr z => intro h5; exact str_good h5.1 (Nat.le_trans h5.2 (by decide))
              · cases t.x <;> (show 1 ≤ 64; decide)
              · refine good_tuple (by simp) fun d hd => ?_
                simp only [List.mem_cons, List.not_mem_nil, or_false] at hd
                rcases hd with rfl | rfl
                · exact str_good ou.1.1 (by have := ou.1.2; omega)
                · rfl
              · show 1 ≤ 64
                decide
              rw [eqv_keys]
              replace g := g.addm (o := .tup (cutV [.str u.w, .int u.n, .str u.s, kV u.x] none (some 2))) nq2
              walk_at "go"
              refine w_ite (fun hk => ?_) (fun hk => ?_)
              · walk_at "go"
                refine ⟨le1000 (by simp), fun p3 np3 => ?_⟩
                refine q (.ref p3) (some (i, j)) _ _ (g.add np3) ⟨p3, rfl, upd_same⟩ ⟨Nat.zero_le _, htk.mpr ⟨hij, hnob, hs, hk⟩, fun j' _ h => hT j' h, hT2⟩
              · walk_at "go"
                refine ⟨_, _, _, rfl, g, fun i' h => ?_⟩
                by_cases e : i' = i
                · subst e
                  exact fun z => hk (htk.mp z).2.2.2
                · exact hT2 i' (by omega)
            · walk_at "go"
              refine ⟨_, _, _, rfl, g, fun i' h => ?_⟩
              by_cases e : i' = i
              · subst e
                exact fun z => (htk.mp z).2.2.1 hs
              · exact hT2 i' (by omega)
          · walk_at "go"
            refine ⟨_, _, _, rfl, g, fun i' h => ?_⟩
            by_cases e : i' = i
            · subst e
              intro z
              refine he (List.length_eq_zero_iff.mpr (List.filter_eq_nil_iff.mpr fun m hm hh => (htk.mp z).2.1 m hm ?_))
              simpa using hh
            · exact hT2 i' (by omega)
      · clear g
        obtain ⟨F2, y3, y4, rfl, g, hT2⟩ := hp
        walk_at "go"
        refine ⟨F2, _, _, _, rfl, g, fun j' h i' => ?_⟩
        by_cases e : j' = j
        · subst e
          intro z
          exact hT2 i' (by have := z.1; omega) z
        · exact hT j' (by omega) i'
    · obtain ⟨F2, y2, y3, y4, rfl, g, hT⟩ := hp
      walk_at "go"
      exact q .non none _ _ g rfl fun j' _ i' z => hT j' (by have := tt_len z; omega) i' z
-- _law_all_marks
theorem ok_law_all_marks {f : Addr} {fd : FuncData} (F : FunD K "_law_all_marks" "_law_all_marks" (defArgs s_law_all_marks) (defBody s_law_all_marks) (defScope s_law_all_marks) [] [] f fd) (T : Txt K mg)  : FnOk P w K mg base CX0 1 f fd ["many"] (S1 (φall_marks K)) := by
  refine F.ok sc_law_all_marks (fun vs H Q E h => ?_) (fun cdv A outer s H vs Q E hr h => ?_)
  · exact S1.len h
  · match vs, h with
    | [v0], h =>
    have hu := hu_of hr
    refine ⟨_, PSs.nox (pss_cons (ps_set (i := 1) sc_law_all_marks.nd rfl (.inl rfl) (pe_lst (pa_cons (pe_lst pa_nil) pa_nil)))
      (pss_cons (ps_for PassesOwn.never rfl (pi_range2 rfl T.b_range (pa_cons pe_int (pa_cons (pv 0) pa_nil))) (pg_name (i := 2) sc_law_all_marks.nd rfl (.inr rfl)) (pss_one (ps_set (i := 1) sc_law_all_marks.nd rfl (.inl rfl) (pe_op op_cat (pv 1) (pe_lc (own := [("bars", 3)]) (g := gName 3) rfl sc_law_all_marks.nd (pi_list (pv 1)) (blkOk_by (own := [("bars", 3)]) (N := ["many", "lists", "m", "bars"]) (sc := defScope s_law_all_marks) (by decide +kernel)) (fun _ _ _ _ _ => pg_name (i := 3) sc_law_all_marks.nd rfl (Or.inl rfl)) (fun _ _ _ _ _ => pts_nil) (fun _ _ _ _ _ => (pe_op op_cat (pv 3) (pe_lst (pa_cons (pv 2) pa_nil)))))))))
      (pss_one (ps_ret (pv 1))))), ?_⟩
    rw [show start ["many", "lists", "m", "bars"] [v0] = [some v0, none, none, none] from rfl]
    obtain ⟨F, n, rfl, hw, n0, n9, q⟩ := h
    walk_at "go"
    refine ⟨le1000 (by simp), fun p0 np0 => ?_⟩
    have g := (Gr.refl (M := []) hw).add (o := .lst []) np0
    have a0 : (upd F p0 (.lst [])) p0 = some (.lst (nV [])) := upd_same
    generalize upd F p0 (.lst []) = F1 at g a0
    walk_at "go"
    refine ⟨le1000 (by simp), fun p1 np1 => ?_⟩
    have sw := Same.new (o := .lst [.ref p0]) (g.fh.free np1)
    replace g := g.add (o := .lst [.ref p0]) np1
    walk_at "go"
    refine ⟨1, n, rfl, ⟨by omega, by omega, by omega, by omega⟩, f_range (lo := 1) (n := (n - 1).toNat) (fun i σ H' => ∃ (F2 : Hp) (L : Addr) (vs : List V) (y2 : Option V), σ = [some (.int n), some (.ref L), y2, none] ∧ Gr [] F H F2 H' ∧ F2 L = some (.lst vs) ∧ LV F2 vs (allM i)) ⟨_, p1, [.ref p0], none, rfl, g, upd_same, ⟨⟨p0, rfl, sw _ _ a0⟩, trivial⟩⟩ (fun i σ H' hi hp => ?_) (fun σ H' hp => ?_)⟩
    · clear g
      obtain ⟨F2, L, vs, y2, rfl, g, hL, hv⟩ := hp
      have hvl := hv.len
      have hpw : 2 ^ i ≤ 2 ^ 8 := Nat.pow_le_pow_right (by decide) (by omega)
      rw [allM_len] at hvl
      walk_at "go"
      refine ⟨L, rfl, ⟨_, sqL_same g.fh (sqL_of hL)⟩, fun D nD => ?_⟩
      have nD0 := g.fresh nD
      refine lc_list (xs := vs) (fun k H' => ∃ (F3 : Hp) (us : List V), Gr [] F H F3 H' ∧ Same F2 F3 ∧ Mu F3 H' D (.lst us) ∧ LV F3 us (((allM i).take k).map (· ++ [i + 1])) ∧ us.length ≤ k) ⟨F2, [], g.addm nD, Same.refl _, Mu.new g.fh nD, trivial, Nat.le_refl _⟩ (fun k H' _ hp => ?_) (fun k x H' hx' hp => ?_) (fun H' hp => ?_)
      · obtain ⟨F3, us, g, s3, _⟩ := hp
        exact sqL_same (s3.trans g.fh) (sqL_of hL)
      · clear g
        obtain ⟨F3, us, g, s3, mD, hu, hul⟩ := hp
        obtain ⟨l, t, el, rfl, ht⟩ := hv.get hx'
        have hll := allM_size i l (List.mem_of_getElem? el)
        have hkv := (List.getElem?_eq_some_iff.mp hx').1
        walk_at "wp"
        walk_at "go"
        refine ⟨rfl, ?_⟩
        walk_at "go"
        refine ⟨le1000 (by simp), fun q1 nq1 => ?_⟩
        replace mD := mD.addm (u := .lst [.int (1 + (i : Nat))]) nq1
        replace g := g.addm (o := .lst [.int (1 + (i : Nat))]) nq1
        refine ⟨t, q1, nV l, _, rfl, rfl, (s3.trans g.fh) _ _ ht, upd_same, szle (by rw [nV_len, List.length_singleton]; omega), fun q2 nq2 => ?_⟩
        rw [show nV l ++ [V.int (1 + (i : Int))] = nV (l ++ [i + 1]) by rw [nV_snoc, show (1 + (i : Int)) = ((i + 1 : Nat) : Int) by omega]]
        have sw := Same.new (o := .lst (nV (l ++ [i + 1]))) (g.fh.free nq2)
        replace mD := mD.add (u := .lst (nV (l ++ [i + 1]))) nq2
        replace g := g.add (o := .lst (nV (l ++ [i + 1]))) nq2
        refine ⟨us, mD.h, small_lt (by omega), _, us ++ [.ref q2], g.wrn mD.n nD0, s3.trans sw, mD.wr, ?_, by rw [List.length_append, List.length_singleton]; omega⟩
        rw [List.take_add_one, el, List.map_append]
        exact LV.app (hu.same sw) ⟨⟨q2, rfl, upd_same⟩, trivial⟩
      · clear g
        obtain ⟨F3, us, g, s3, mD, hu, hul⟩ := hp
        rw [List.take_of_length_le (by rw [allM_len]; omega)] at hu
        walk_at "go"
        refine ⟨L, D, vs, us, rfl, rfl, (s3.trans g.fh) _ _ hL, mD.h, szle (by omega), fun p np => ?_⟩
        have sw := Same.new (o := .lst (vs ++ us)) (g.fh.free np)
        replace g := g.add (o := .lst (vs ++ us)) np
        walk_at "go"
        exact ⟨_, p, _, _, rfl, g, upd_same, LV.app (hv.same (s3.trans sw)) (hu.same sw)⟩
    · clear g
      obtain ⟨F2, L, vs, y2, rfl, g, hL, hv⟩ := hp
      walk_at "go"
      exact q L vs _ _ g hL hv
-- law
theorem ok_law {f : Addr} {fd : FuncData} (F : FunD K "law" "law" (defArgs s_law) (defBody s_law) (defScope s_law) [] [] f fd) (T : Txt K mg) (D_law_alike : DO P w K mg base 6 "_law_alike" ["got", "due"] [] (S2 (φalike K 6))) (D_law_all_marks : DO P w K mg base 1 "_law_all_marks" ["many"] [] (S1 (φall_marks K))) (D_law_any_plan_6 : DO P w K mg base 6 "_law_any_plan" ["bag", "n", "big", "slots", "rows", "few", "most"] [.int 1500] (S7 (φany_plan K))) (D_law_any_writes : DO P w K mg base 4 "_law_any_writes" ["bag", "many"] [] (S2 (φany_writes K))) (D_law_bag : DO P w K mg base 1 "_law_bag" ["script"] [] (S1 (φbag K))) (D_law_draw : DO P w K mg base 2 "_law_draw" ["bag", "many"] [] (S2 (φdraw K))) (D_law_due : DO P w K mg base 1 "_law_due" ["acts", "bars"] [] (S2 (φdue K))) (D_law_writes : DO P w K mg base 2 "_law_writes" ["deeds"] [] (S1 (φwrites K))) (D_fewest_marks : DO P w K mg base 1 "fewest_marks" ["some"] [] (S1 (φfewest K))) (D_mark_fault : DO P w K mg base 2 "mark_fault" ["some", "marks"] [] (S2 (φmark K))) : FnOk P w K mg base CX0 12 f fd ["script"] (S1 (φlaw K)) := by
  refine F.ok sc_law (fun vs H Q E h => ?_) (fun cdv A outer s H vs Q E hr h => ?_)
  · exact S1.len h
  · match vs, h with
    | [v0], h =>
    have hu := hu_of hr
    refine ⟨_, PSs.nox (pss_cons (ps_set (i := 1) sc_law.nd rfl (.inl rfl) (pcall D_law_bag hr (pa_cons (pv 0) pa_nil)))
      (pss_cons (ps_set (i := 2) sc_law.nd rfl (.inl rfl) (pe_cmpR op_eq (pcall D_law_draw hr (pa_cons (pv 1) (pa_cons pe_int pa_nil))) pe_int (nomark _)))
      (pss_cons (ps_set (i := 3) sc_law.nd rfl (.inl rfl) (pcall D_law_draw hr (pa_cons (pv 1) (pa_cons pe_int pa_nil))))
      (pss_cons (ps_set (i := 4) sc_law.nd rfl (.inl rfl) (pcall D_law_draw hr (pa_cons (pv 1) (pa_cons pe_int pa_nil))))
      (pss_cons (ps_set (i := 5) sc_law.nd rfl (.inl rfl) (pcall D_law_any_writes hr (pa_cons (pv 1) (pa_cons (pv 4) pa_nil))))
      (C8.pss_cut (ps_if (pt_cmpR op_eq (pcall D_law_draw hr (pa_cons (pv 1) (pa_cons pe_int pa_nil))) pe_int (nomark _)) (pss_cons (ps_set (i := 6) sc_law.nd rfl (.inl rfl) (pe_op op_add pe_int (pcall D_law_draw hr (pa_cons (pv 1) (pa_cons pe_int pa_nil)))))
      (pss_one (ps_set (i := 5) sc_law.nd rfl (.inl rfl) (pe_slice (slL (K := K)) (pcall D_law_writes hr (pa_cons (pcall D_law_any_plan_6 hr (pa_cons (pv 1) (pa_cons (pv 6) (pa_cons (pv 6) (pa_cons (pcall D_law_draw hr (pa_cons (pv 1) (pa_cons pe_int pa_nil))) (pa_cons (pv 4) (pa_cons (pv 2) pa_nil))))))) pa_nil)) po_none (po_some pe_int))))) pss_nil)
      (pss_cons (ps_set (i := 7) sc_law.nd rfl (.inl rfl) (pcall D_law_all_marks hr (pa_cons (pe_callB (clLenQ (K := K)) (by rfl) T.b_len (by decide +kernel) (pa_cons (pv 5) pa_nil)) pa_nil)))
      (pss_cons (ps_set (i := 7) sc_law.nd rfl (.inl rfl) (pe_op op_cat (pe_slice (slL (K := K)) (pv 7) (po_some (pe_op op_mod (pv 3) (pe_callB (clLenQ (K := K)) (by rfl) T.b_len (by decide +kernel) (pa_cons (pv 7) pa_nil)))) po_none) (pe_slice (slL (K := K)) (pv 7) po_none (po_some (pe_op op_mod (pv 3) (pe_callB (clLenQ (K := K)) (by rfl) T.b_len (by decide +kernel) (pa_cons (pv 7) pa_nil)))))))
      (pss_cons (ps_set (i := 8) sc_law.nd rfl (.inl rfl) (pcall D_fewest_marks hr (pa_cons (pe_callTy (clListOf (K := K)) (by rfl) T.b_list (by decide +kernel) (pa_cons (pv 5) pa_nil)) pa_nil)))
      (pss_cons (ps_set (i := 9) sc_law.nd rfl (.inl rfl) (pe_callB (clLenQ (K := K)) (by rfl) T.b_len (by decide +kernel) (pa_cons (pv 5) pa_nil)))
      (pss_cons (ps_for PassesOwn.never rfl (pi_list (pv 7)) (pg_name (i := 10) sc_law.nd rfl (.inl rfl)) (pss_cons (ps_set (i := 11) sc_law.nd rfl (.inl rfl) (pcall D_law_due hr (pa_cons (pv 5) (pa_cons (pv 10) pa_nil))))
      (pss_cons (ps_set (i := 12) sc_law.nd rfl (.inl rfl) (pcall D_mark_fault hr (pa_cons (pe_callTy (clListOf (K := K)) (by rfl) T.b_list (by decide +kernel) (pa_cons (pv 5) pa_nil)) (pa_cons (pe_callTy (clListOf (K := K)) (by rfl) T.b_list (by decide +kernel) (pa_cons (pv 10) pa_nil)) pa_nil))))
      (C8.pss_cut (ps_if (PW.pt (pw_or (PW.pt (pw_and (pt_cmp (pc_isN (pv 11)) (by rfl)) (pw_and1 (pt_cmp (pc_notN (pv 12)) (by rfl))))) (pw_or1 (PW.pt (pw_and (pt_cmp (pc_notN (pv 11)) (by rfl)) (pw_and1 (pt_not (pt_val (pcall D_law_alike hr (pa_cons (pv 12) (pa_cons (pv 11) pa_nil))))))))))) (pss_one (ps_ret pe_bl)) pss_nil)
      (pss_one (ps_if (pt_cmp (pc_isN (pv 11)) (by rfl)) (pss_one (ps_set (i := 9) sc_law.nd rfl (.inl rfl) (pe_callB clMin2 (by rfl) T.b_min (by decide +kernel) (pa_cons (pv 9) (pa_cons (pe_callB (clLenQ (K := K)) (by rfl) T.b_len (by decide +kernel) (pa_cons (pv 10) pa_nil)) pa_nil))))) pss_nil))))))
      (pss_cons (ps_if (PW.pt (pw_or (pt_not (pt_val (pcall D_law_alike hr (pa_cons (pcall D_fewest_marks hr (pa_cons (pe_callTy (clListOf (K := K)) (by rfl) T.b_list (by decide +kernel) (pa_cons (pv 5) pa_nil)) pa_nil)) (pa_cons (pv 8) pa_nil))))) (pw_or1 (pt_cmp (pc_notN (pcall D_law_due hr (pa_cons (pv 5) (pa_cons (pe_ix (ixT (K := K)) (pv 8) pe_int (fun _ _ => rfl)) pa_nil)))) (by rfl))))) (pss_one (ps_ret pe_bl)) pss_nil)
      (pss_one (ps_ret (pe_cmpR op_eq (pe_callB (clLenQ (K := K)) (by rfl) T.b_len (by decide +kernel) (pa_cons (pe_ix (ixT (K := K)) (pv 8) pe_int (fun _ _ => rfl)) pa_nil)) (pe_callB clMin2 (by rfl) T.b_min (by decide +kernel) (pa_cons (pv 9) (pa_cons (pe_callB clMax2 (by rfl) T.b_max (by decide +kernel) (pa_cons pe_int (pa_cons (pe_op op_sub (pe_callB (clLenQ (K := K)) (by rfl) T.b_len (by decide +kernel) (pa_cons (pv 5) pa_nil)) pe_int) pa_nil))) pa_nil))) (nomark _)))))))))))))))), ?_⟩
    rw [show start ["script", "bag", "few", "turn", "many", "acts", "big", "lists", "told", "least", "bars", "due", "got"] [v0] = [some v0, none, none, none, none, none, none, none, none, none, none, none, none] from rfl]
    obtain ⟨sc, ns, rfl, hS, hl, q⟩ := h
    walk_at "go"
    refine ⟨sc, ns, rfl, hS, hl, fun b F1 H1 g0 hb => ?_⟩
    walk_at "go"
    refine d_draw (Gr.refl (M := [b]) g0.fh) hb (by decide) (by decide) fun fw F2 H2 g _ hb f0 f1 => ?_
    walk_at "go"
    generalize decide (fw = 1) = fb
    refine d_draw g hb (by decide) (by decide) fun turn F2 H2 g _ hb t0 t1 => ?_
    walk_at "go"
    refine d_draw g hb (by decide) (by decide) fun many F2 H2 g _ hb m0 m1 => ?_
    walk_at "go"
    refine ⟨b, many, F2, rfl, rfl, g.fh, hb, m0, by omega, fun a acts F3 H3 g3 hb hx oks hn hnm => ?_⟩
    replace g := g.trans g3
    walk_at "go"
    refine w_cut (fun σ H' => ∃ (F4 : Hp) (a : Addr) (acts : List WAct) (y6 : Option V), σ = [some (.ref sc), some (.ref b), some (.bl fb), some (.int turn), some (.int many), some (.ref a), y6, none, none, none, none, none, none] ∧ Gr [b] F1 H1 F4 H' ∧ Bag K F4 H' b ∧ Dp K F4 (.ref a) (.list (acts.map WAct.d)) ∧ (∀ t ∈ acts, t.ok) ∧ acts.length ≤ 8) ?_ (fun σ H4 hp => ?_)
    · walk_at "go"
      refine d_draw g hb (by decide) (by decide) fun r F4 H4 g g1 hb _ _ => ?_
      walk_at "go"
      refine w_ite (fun _ => ?_) (fun _ => ?_)
      · walk_at "go"
        refine d_draw g hb (by decide) (by decide) fun bg F4 H4 g g1 hb b0 b1 => ?_
        walk_at "go"
        refine d_draw g hb (by decide) (by decide) fun sl F4 H4 g g1 hb s0 s1 => ?_
        walk_at "go"
        refine ⟨b, 1 + bg, 1 + bg, sl, many, 1500, fb, F4, rfl, rfl, rfl, rfl, rfl, rfl, rfl, g.fh, hb, by omega, Int.le_refl _, by omega, s0, by omega, m0, by omega, by omega, by omega, fun D rs F6 H6 g6 hb6 nl oks hsz hln => ?_⟩
        obtain ⟨nD0, vs, mD, dv⟩ := nl
        have hbD := hb.ne_new nD0
        have nD1 := g.fresh nD0
        replace g := (g.trans g6).frz nD1 mD
        replace hb := hb6.frz (u := .lst vs) mD.n hbD
        have dD : Dp K (upd F6 D (.lst vs)) (.ref D) (.list (rs.map PRow.d)) := .lst (sqL_of upd_same) (dpa_same (Same.new mD.n) _ _ dv)
        walk_at "go"
        refine ⟨_, rs, g.fh, dD, oks, by omega, fun U F8 H8 g8 nl => ?_⟩
        obtain ⟨nU0, us, mU, du⟩ := nl
        have hbU := hb.ne_new nU0
        have nU1 := g.fresh nU0
        replace hb := hb.keep0 g8
        replace g := g.trans g8.up
        walk_at "go"
        intro l nl
        rw [show cutV us none (some 8) = us.take 8 from R.cutT us 8]
        have sw := Same.new (o := .lst (us.take 8)) (g.fh.free nl)
        replace hb := hb.add (u := .lst (us.take 8)) g.fh nl
        replace g := g.add (o := .lst (us.take 8)) nl
        walk_at "go"
        rw [← acts_all] at du
        refine ⟨_, l, (rs.flatMap PRow.acts).take 8, _, rfl, g, hb, ?_, fun t ht => acts_all_ok oks t (List.mem_of_mem_take ht), by rw [List.length_take]; omega⟩
        rw [List.map_take]
        exact .lst (sqL_of upd_same) (dpa_take 8 (dpa_same sw _ _ du))
      · walk_at "go"
        exact ⟨F4, a, acts, _, rfl, g, hb, dp_same g1.ff _ _ hx, oks, by omega⟩
    clear g hb hx oks hn hnm
    obtain ⟨F4, a, acts, y6, rfl, g, hb, hx, oks, hn⟩ := hp
    obtain ⟨_, us, ea, hS, dus⟩ := dp_list hx
    cases ea
    have hlen : us.length = acts.length := by rw [dpa_len dus, List.length_map]
    have hS' := sqL_same g.fh hS
    walk_at "go"
    refine ⟨F4, us.length, rfl, g.fh, by omega, by omega, fun L vs F5 H5 g5 hL hv => ?_⟩
    rw [show ((us.length : Int) - 1).toNat = acts.length - 1 by omega] at hv
    replace hb := hb.keep0 g5
    replace g := g.trans g5.up
    replace hx := dp_same g5.ff _ _ hx
    replace hS := sqL_same g5.ff hS
    replace dus := dpa_same g5.ff _ _ dus
    have hvl := hv.len
    rw [allM_len] at hvl
    have hpw : 2 ^ (acts.length - 1) ≤ 2 ^ 8 := Nat.pow_le_pow_right (by decide) (by omega)
    have hpos : 0 < 2 ^ (acts.length - 1) := Nat.pow_pos (by decide)
    have hv0 : (0 : Int) < (vs.length : Nat) := by omega
    have hLs := sqL_of (K := K) (g.fh _ _ hL)
    walk_at "go"
    have hk0 := mod_nn (a := turn) hv0
    have hk1 := mod_lt (a := turn) hv0
    obtain ⟨k, ek⟩ : ∃ k : Nat, turn % ((vs.length : Nat) : Int) = (k : Int) := ⟨(turn % ((vs.length : Nat) : Int)).toNat, by omega⟩
    rw [ek]
    intro l1 nl1
    rw [R.cutD]
    have m1' := Mu.new (o := .lst (vs.drop k)) g.fh nl1
    replace g := g.addm (o := .lst (vs.drop k)) nl1
    replace hb := hb.addm (u := .lst (vs.drop k)) nl1
    have hLs := sqL_of (K := K) (g.fh _ _ hL)
    walk_at "go"
    rw [ek]
    intro l2 nl2
    rw [R.cutT]
    replace m1' := m1'.addm (u := .lst (vs.take k)) nl2
    replace g := g.addm (o := .lst (vs.take k)) nl2
    replace hb := hb.addm (u := .lst (vs.take k)) nl2
    refine ⟨l1, l2, _, _, rfl, rfl, m1'.h, upd_same, szle (by rw [List.length_drop, List.length_take]; omega), fun W nW => ?_⟩
    obtain ⟨hc1, hc2⟩ := LV.cut k hv
    obtain ⟨mss, hms⟩ : ∃ mss, mss = (allM (acts.length - 1)).drop k ++ (allM (acts.length - 1)).take k := ⟨_, rfl⟩
    have hvw : LV F5 (vs.drop k ++ vs.take k) mss := by rw [hms]; exact LV.app hc2 hc1
    have hmem : ∀ l, l ∈ mss ↔ l ∈ allM (acts.length - 1) := fun l => by
      rw [hms, List.mem_append, Or.comm, ← List.mem_append, List.take_append_drop]
    clear hms hc1 hc2 m1'
    generalize vs.drop k ++ vs.take k = ws at hvw ⊢
    have sw := Same.new (o := .lst ws) (g.fh.free nW)
    replace hb := hb.add (u := .lst ws) g.fh nW
    replace g := g.add (o := .lst ws) nW
    have aW : (upd F5 W (.lst ws)) W = some (.lst ws) := upd_same
    replace hvw := hvw.same sw
    replace hx := dp_same sw _ _ hx
    replace hS := sqL_same sw hS
    replace dus := dpa_same sw _ _ dus
    generalize upd F5 W (.lst ws) = F6 at g hb aW hvw hx hS dus
    clear sw hLs hv hL
    have hS' := sqL_same g.fh hS
    walk_at "go"
    intro c1 nc1
    have sw := Same.new (o := .lst us) (g.fh.free nc1)
    replace hb := hb.add (u := .lst us) g.fh nc1
    replace g := g.add (o := .lst us) nc1
    have hc1 : Dp K (upd F6 c1 (.lst us)) (.ref c1) (.list (acts.map WAct.d)) := .lst (sqL_of upd_same) (dpa_same sw _ _ dus)
    walk_at "go"
    refine ⟨_, acts, g.fh, hc1, by omega, fun tt M P pvs F7 H7 g7 nM nP nMP htt mM mP hpv => ?_⟩
    have nbM := hb.ne_new nM
    have nbP := hb.ne_new nP
    have nM1 := g.fresh nM
    have nP1 := g.fresh nP
    replace hb := (hb.keep0 g7).frz (u := .lst (nV (few acts).1)) mM.n nbM
    replace g := (g.trans g7.up).frz nM1 mM
    replace mP := mP.frz (u := .lst (nV (few acts).1)) nMP.symm
    replace hb := hb.frz (u := .lst pvs) mP.n nbP
    replace g := g.frz nP1 mP
    have swM := Same.new (o := .lst (nV (few acts).1)) mM.n
    have swP := Same.new (o := .lst pvs) mP.n
    have aM : (upd (upd F7 M (.lst (nV (few acts).1))) P (.lst pvs)) M = some (.lst (nV (few acts).1)) := swP _ _ upd_same
    have aP : (upd (upd F7 M (.lst (nV (few acts).1))) P (.lst pvs)) P = some (.lst pvs) := upd_same
    have sw2 := sw.trans (g7.ff.trans (swM.trans swP))
    replace hpv := hpv.same (swM.trans swP)
    replace htt := (swM.trans swP) _ _ htt
    replace hx := dp_same sw2 _ _ hx
    replace hS := sqL_same sw2 hS
    replace dus := dpa_same sw2 _ _ dus
    replace hvw := hvw.same sw2
    replace aW := sw2 _ _ aW
    generalize upd (upd F7 M (.lst (nV (few acts).1))) P (.lst pvs) = F8 at g hb aM aP hpv htt hx hS dus hvw aW
    clear sw swM swP sw2 hc1
    have dtold : Dp K F8 (.ref tt) (.tuple [natsD (few acts).1, .list ((few acts).2.map twoD)]) := .tup (sqT_of htt) (.cons (.lst (sqL_of aM) (dpa_nV _)) (.cons (.lst (sqL_of aP) hpv.dpa) .nil))
    have hrf := few_rise acts
    have hfl := rise_len hrf
    have hS' := sqL_same g.fh hS
    walk_at "go"
    refine ⟨W, rfl, ⟨_, sqL_same g.fh (sqL_of aW)⟩, f_list (xs := ws) (fun i σ H' => ∃ (F9 : Hp) (ls : Nat) (y10 y11 y12 : Option V), σ = [some (.ref sc), some (.ref b), some (.bl fb), some (.int turn), some (.int many), some (.ref a), y6, some (.ref W), some (.ref tt), some (.int (ls : Nat)), y10, y11, y12] ∧ Gr [b] F1 H1 F9 H' ∧ Same F8 F9 ∧ Bag K F9 H' b ∧ (few acts).1.length ≤ ls ∧ ls ≤ acts.length ∧ ((few acts).1 ∈ mss.take i → ls ≤ (few acts).1.length)) ⟨F8, us.length, none, none, none, rfl, g, Same.refl _, hb, by omega, by omega, fun h => by rw [List.take_zero] at h; cases h⟩ (fun i σ H' _ hp => ?_) (fun i x σ H' hx' hp => ?_) (fun σ H' hp => ?_)⟩
    · obtain ⟨F9, ls, y10, y11, y12, rfl, g, s9, _⟩ := hp
      exact sqL_same (s9.trans g.fh) (sqL_of aW)
    · clear g hb
      obtain ⟨F9, ls, y10, y11, y12, rfl, g, s9, hb, hls, hls2, hls3⟩ := hp
      obtain ⟨ms, m, em, rfl, hm⟩ := hvw.get hx'
      have hmin := (hmem ms).mp (List.mem_of_getElem? em)
      have hri := rise_all hmin
      have hrl := rise_len hri
      walk_at "go"
      refine ⟨F9, acts, m, ms, rfl, g.fh, dp_same s9 _ _ hx, s9 _ _ hm, oks, by omega, by omega, fun v o F10 H10 g10 hr hdue => ?_⟩
      have ho := due_unique hdue (fault_due hri)
      subst ho
      replace hb := hb.keep0 g10
      replace g := g.trans g10.up
      replace s9 := s9.trans g10.ff
      have hS9 := sqL_same (s9.trans g.fh) hS
      walk_at "go"
      intro c1 nc1
      have sw := Same.new (o := .lst us) (g.fh.free nc1)
      replace hb := hb.add (u := .lst us) g.fh nc1
      replace g := g.add (o := .lst us) nc1
      have hc1 : Dp K (upd F10 c1 (.lst us)) (.ref c1) (.list (acts.map WAct.d)) := .lst (sqL_of upd_same) (dpa_same (s9.trans sw) _ _ dus)
      have hmB := sqL_same (K := K) ((s9.trans sw).trans g.fh) (sqL_of hm)
      walk_at "go"
      intro c2 nc2
      have sw2 := Same.new (o := .lst (nV ms)) (g.fh.free nc2)
      replace hb := hb.add (u := .lst (nV ms)) g.fh nc2
      replace g := g.add (o := .lst (nV ms)) nc2
      walk_at "go"
      refine ⟨_, acts, c2, ms, rfl, g.fh, dp_same sw2 _ _ hc1, upd_same, fun k hk => Nat.le_of_lt (hri.ok k hk).2, by omega, by omega, fun u F11 H11 g11 hr2 => ?_⟩
      replace hr := hr.same ((sw.trans sw2).trans g11.ff)
      replace hb := hb.keep0 g11
      replace g := g.trans g11.up
      replace s9 := s9.trans ((sw.trans sw2).trans g11.ff)
      walk_at "go"
      refine w_cut (fun σ H5 => ∃ (F5 : Hp), σ = [some (.ref sc), some (.ref b), some (.bl fb), some (.int turn), some (.int many), some (.ref a), y6, some (.ref W), some (.ref tt), some (.int (ls : Nat)), some (.ref m), some v, some u] ∧ Gr [b] F1 H1 F5 H5 ∧ Same F11 F5 ∧ Bag K F5 H5 b) ?_ (fun σ H5 hp => ?_)
      · cases e : firstFault acts 0 (ms ++ [acts.length]) with
        | none =>
          rw [e] at hr hr2
          cases hr
          cases hr2
          walk_at "go"
          exact ⟨F11, rfl, g, Same.refl _, hb⟩
        | some ij =>
          obtain ⟨i1, j1⟩ := ij
          rw [e] at hr hr2
          obtain ⟨pv, rfl, hpv1⟩ := hr
          obtain ⟨pu, rfl, hpu⟩ := hr2
          walk_at "go"
          refine w_ite (fun z => by cases z) (fun _ => ?_)
          walk_at "go"
          refine w_iteN (fun _ => ?_) (fun z => by cases z)
          walk_at "go"
          have d1 : Dp K F11 (.ref pv) (.tuple [.int (i1 : Nat), .int (j1 : Nat)]) := .tup (sqT_of hpv1) (.cons (.int _) (.cons (.int _) .nil))
          have d2 : Dp K F11 (.ref pu) (.tuple [.int (i1 : Nat), .int (j1 : Nat)]) := .tup (sqT_of hpu) (.cons (.int _) (.cons (.int _) .nil))
          refine ⟨F11, _, g.fh, d2, d1, by show 1 < 6; decide, rfl, fun F5 H5 g5 => ?_⟩
          walk_at "go"
          exact ⟨F5, rfl, g.trans g5.up, g5.ff, hb.keep0 g5⟩
      obtain ⟨F12, rfl, g, s12, hb⟩ := hp
      replace s9 := s9.trans s12
      have hmB := sqL_same (K := K) (s9.trans g.fh) (sqL_of hm)
      have hnl := nV_len ms
      walk_at "go"
      cases e : firstFault acts 0 (ms ++ [acts.length]) with
      | none =>
        rw [e] at hr
        cases hr
        have hle := few_least hri e
        walk_at "go"
        rw [show (if ((nV ms).length : Int) < (ls : Int) then ((nV ms).length : Int) else (ls : Int)) = ((if ms.length < ls then ms.length else ls : Nat) : Int) by rw [hnl]; split <;> split <;> omega]
        refine ⟨F12, _, _, _, _, rfl, g, s9, hb, by split <;> omega, by split <;> omega, fun h => ?_⟩
        rw [List.take_add_one, em] at h
        rcases List.mem_append.mp h with h | h
        · have := hls3 h
          split <;> omega
        · rw [List.mem_singleton.mp h]
          split <;> omega
      | some ij =>
        rw [e] at hr
        obtain ⟨pv, rfl, _⟩ := hr
        refine w_ite (fun z => by cases z) (fun _ => ?_)
        walk_at "go"
        refine ⟨F12, ls, _, _, _, rfl, g, s9, hb, hls, hls2, fun h => ?_⟩
        rw [List.take_add_one, em] at h
        rcases List.mem_append.mp h with h | h
        · exact hls3 h
        · have h2 := List.mem_singleton.mp h
          rw [← h2, few_first] at e
          cases e
    · clear g hb
      obtain ⟨F9, ls, y10, y11, y12, rfl, g, s9, hb, hls, hls2, hls3⟩ := hp
      have hls4 : ls ≤ (few acts).1.length := by
        refine hls3 ?_
        rw [List.take_of_length_le (by rw [hvw.len]; exact Nat.le_refl _)]
        exact (hmem _).mpr (all_rise hrf)
      have els : ls = (few acts).1.length := Nat.le_antisymm hls4 hls
      have hS9 := sqL_same (s9.trans g.fh) hS
      walk_at "go"
      intro c1 nc1
      have sw := Same.new (o := .lst us) (g.fh.free nc1)
      replace hb := hb.add (u := .lst us) g.fh nc1
      replace g := g.add (o := .lst us) nc1
      have hc1 : Dp K (upd F9 c1 (.lst us)) (.ref c1) (.list (acts.map WAct.d)) := .lst (sqL_of upd_same) (dpa_same (s9.trans sw) _ _ dus)
      walk_at "go"
      refine ⟨_, acts, g.fh, hc1, by omega, fun t2 M2 P2 pvs2 F10 H10 g10 nM2 nP2 nMP2 ht2 mM2 mP2 hpv2 => ?_⟩
      have nM3 := g.fresh nM2
      have nP3 := g.fresh nP2
      replace g := (g.trans g10.up).frz nM3 mM2
      replace mP2 := mP2.frz (u := .lst (nV (few acts).1)) nMP2.symm
      replace g := g.frz nP3 mP2
      have swM := Same.new (o := .lst (nV (few acts).1)) mM2.n
      have swP := Same.new (o := .lst pvs2) mP2.n
      have d2 : Dp K (upd (upd F10 M2 (.lst (nV (few acts).1))) P2 (.lst pvs2)) (.ref t2) (.tuple [natsD (few acts).1, .list ((few acts).2.map twoD)]) := .tup (sqT_of ((swM.trans swP) _ _ ht2)) (.cons (.lst (sqL_of (swP _ _ upd_same)) (dpa_nV _)) (.cons (.lst (sqL_of upd_same) (hpv2.same (swM.trans swP)).dpa) .nil))
      have sw3 := s9.trans (sw.trans (g10.ff.trans (swM.trans swP)))
      have hll : (few acts).1.length = (few acts).2.length := by
        have e := congrArg List.length (few_marks acts [] 0)
        rw [List.length_map] at e
        exact e
      have gn := nats_good (show (few acts).1.length ≤ 100000 by omega)
      have gp : good (.list ((few acts).2.map twoD)) = true ∧ (PyData.list ((few acts).2.map twoD)).depth ≤ 2 := by
        constructor
        · refine good_list (by rw [List.length_map]; omega) fun d hd => ?_
          obtain ⟨p, _, rfl⟩ := List.mem_map.mp hd
          rfl
        · refine depth_list fun d hd => ?_
          obtain ⟨p, _, rfl⟩ := List.mem_map.mp hd
          exact Nat.le_refl _
      have gg : good (.tuple [natsD (few acts).1, .list ((few acts).2.map twoD)]) = true := by
        refine good_tuple (by simp) fun d hd => ?_
        simp only [List.mem_cons, List.not_mem_nil, or_false] at hd
        rcases hd with rfl | rfl
        · exact gn.1
        · exact gp.1
      have gdp : (PyData.tuple [natsD (few acts).1, .list ((few acts).2.map twoD)]).depth ≤ 3 := by
        refine depth_tuple fun d hd => ?_
        simp only [List.mem_cons, List.not_mem_nil, or_false] at hd
        rcases hd with rfl | rfl
        · exact Nat.le_trans gn.2 (by decide)
        · exact gp.2
      walk_at "go"
      refine ⟨_, _, g.fh, d2, dp_same sw3 _ _ dtold, by omega, gg, fun F11 H11 g11 => ?_⟩
      replace g := g.trans g11.up
      replace sw3 := sw3.trans g11.ff
      have hTt := sqT_same (K := K) (sw3.trans g.fh) (sqT_of htt)
      walk_at "go"
      refine ⟨F11, acts, M, (few acts).1, rfl, g.fh, dp_same sw3 _ _ hx, sw3 _ _ aM, oks, by omega, by omega, fun v o F12 H12 g12 hr hdue => ?_⟩
      have ho := due_unique hdue (fault_due hrf)
      rw [few_first] at ho
      subst ho
      cases hr
      replace g := g.trans g12.up
      replace sw3 := sw3.trans g12.ff
      have hTt := sqT_same (K := K) (sw3.trans g.fh) (sqT_of htt)
      have hMs := sqL_same (K := K) (sw3.trans g.fh) (sqL_of aM)
      have hS9 := sqL_same (sw3.trans g.fh) hS
      have hnl := nV_len (few acts).1
      walk_at "go"
      rw [decide_eq_true (by rw [hnl, els]; split <;> split <;> omega)]
      exact q _
end

def d_stretch_fault : He.DefD := ⟨("stretch_fault", none), "stretch_fault", "stretch_fault", defArgs s_stretch_fault, defBody s_stretch_fault, defScope s_stretch_fault, [], []⟩
def d_mark_fault : He.DefD := ⟨("mark_fault", none), "mark_fault", "mark_fault", defArgs s_mark_fault, defBody s_mark_fault, defScope s_mark_fault, [], []⟩
def d_fewest_marks : He.DefD := ⟨("fewest_marks", none), "fewest_marks", "fewest_marks", defArgs s_fewest_marks, defBody s_fewest_marks, defScope s_fewest_marks, [], []⟩
def d_law_bag : He.DefD := ⟨("_law_bag", none), "_law_bag", "_law_bag", defArgs s_law_bag, defBody s_law_bag, defScope s_law_bag, [], []⟩
def d_law_stirred : He.DefD := ⟨("_law_stirred", none), "_law_stirred", "_law_stirred", defArgs s_law_stirred, defBody s_law_stirred, defScope s_law_stirred, [], []⟩
def d_law_draw : He.DefD := ⟨("_law_draw", none), "_law_draw", "_law_draw", defArgs s_law_draw, defBody s_law_draw, defScope s_law_draw, [], []⟩
def d_law_sign : He.DefD := ⟨("_law_sign", none), "_law_sign", "_law_sign", defArgs s_law_sign, defBody s_law_sign, defScope s_law_sign, [], []⟩
def d_law_text : He.DefD := ⟨("_law_text", none), "_law_text", "_law_text", defArgs s_law_text, defBody s_law_text, defScope s_law_text, [], []⟩
def d_law_any_row : He.DefD := ⟨("_law_any_row", none), "_law_any_row", "_law_any_row", defArgs s_law_any_row, defBody s_law_any_row, defScope s_law_any_row, [], []⟩
def d_law_any_plan : He.DefD := ⟨("_law_any_plan", none), "_law_any_plan", "_law_any_plan", defArgs s_law_any_plan, defBody s_law_any_plan, defScope s_law_any_plan, [.int 1500], []⟩
def d_law_row_writes : He.DefD := ⟨("_law_row_writes", none), "_law_row_writes", "_law_row_writes", defArgs s_law_row_writes, defBody s_law_row_writes, defScope s_law_row_writes, [], []⟩
def d_law_writes : He.DefD := ⟨("_law_writes", none), "_law_writes", "_law_writes", defArgs s_law_writes, defBody s_law_writes, defScope s_law_writes, [], []⟩
def d_law_number : He.DefD := ⟨("_law_number", none), "_law_number", "_law_number", defArgs s_law_number, defBody s_law_number, defScope s_law_number, [], []⟩
def d_law_any_writes : He.DefD := ⟨("_law_any_writes", none), "_law_any_writes", "_law_any_writes", defArgs s_law_any_writes, defBody s_law_any_writes, defScope s_law_any_writes, [], []⟩
def d_law_alike : He.DefD := ⟨("_law_alike", none), "_law_alike", "_law_alike", defArgs s_law_alike, defBody s_law_alike, defScope s_law_alike, [], []⟩
def d_law_due : He.DefD := ⟨("_law_due", none), "_law_due", "_law_due", defArgs s_law_due, defBody s_law_due, defScope s_law_due, [], []⟩
def d_law_all_marks : He.DefD := ⟨("_law_all_marks", none), "_law_all_marks", "_law_all_marks", defArgs s_law_all_marks, defBody s_law_all_marks, defScope s_law_all_marks, [], []⟩
def d_law : He.DefD := ⟨("law", none), "law", "law", defArgs s_law, defBody s_law, defScope s_law, [], []⟩
def fn : List He.DefD := [d_stretch_fault, d_mark_fault, d_fewest_marks, d_law_bag, d_law_stirred, d_law_draw, d_law_sign, d_law_text, d_law_any_row, d_law_any_plan, d_law_row_writes, d_law_writes, d_law_number, d_law_any_writes, d_law_alike, d_law_due, d_law_all_marks, d_law]
def fa : List He.Fa := [.free "abs", .free "all", .free "bool", .free "int", .free "isinstance", .free "len", .free "list", .free "max", .free "min", .free "range", .free "str", .free "tuple", .glo "stretch_fault", .glo "mark_fault", .glo "fewest_marks", .glo "_law_bag", .glo "_law_stirred", .glo "_law_draw", .glo "_law_sign", .glo "_law_text", .glo "_law_any_row", .glo "_law_any_plan", .glo "_law_row_writes", .glo "_law_writes", .glo "_law_number", .glo "_law_any_writes", .glo "_law_alike", .glo "_law_due", .glo "_law_all_marks", .glo "law"]
abbrev RR : PySem.W.OpenRow := PySem.W.OpenLaw.row PySem.Challenge.rw_remadehere_k59_whole_all_marks_of_small
abbrev hk : PySem.W.Hook := He.hookD 4 fa fn
def ob (s : PySem.W.SharedT) : He.AlD := He.obsDG 4 fa fn (HandSHeadRun.getT s)
theorem ob_eq (s : PySem.W.SharedT) : ob s = hk.obs s.abs := He.obsDG_eq (HandSHeadRun.getT_eq s)
theorem run (w : World) : HandSHeadRun.RunEq RR (PySem.W.view RR.prog [19]) hk ob 3000 ["stretch_fault", "mark_fault", "fewest_marks", "_law_bag", "_law_stirred", "_law_draw", "_law_sign", "_law_text", "_law_any_row", "_law_any_plan", "_law_row_writes", "_law_writes", "_law_number", "_law_any_writes", "_law_alike", "_law_due", "_law_all_marks"] w := by
  intro os
  kernel_rfl
theorem facts {P : Program} {w : World} {K : PySem.W.Frag} {mg : Str → Option Value} {h : Heap} {f : Addr} (X : K.In h) (G : h.Ns mainGlobals mg) (hfa : mg ("law" : Str) = some (.ref f)) (c : He.SaysD fa fn K) :
    ∃ fd : FuncData, (∀ (s : Shared) (v : Value), BindsTo s fd ⟨[v], []⟩ [("script", v)]) ∧ ∀ base : Heap, K.In base → base.Ns mainGlobals mg → FnOk P w K mg base CX0 12 f fd ["script"] (S1 (φlaw K)) := by
  have T : Txt K mg := ⟨He.free_ok X G (c.fact 0 (f := .free "abs") rfl), He.free_ok X G (c.fact 1 (f := .free "all") rfl), He.free_ok X G (c.fact 2 (f := .free "bool") rfl), He.free_ok X G (c.fact 3 (f := .free "int") rfl), He.free_ok X G (c.fact 4 (f := .free "isinstance") rfl), He.free_ok X G (c.fact 5 (f := .free "len") rfl), He.free_ok X G (c.fact 6 (f := .free "list") rfl), He.free_ok X G (c.fact 7 (f := .free "max") rfl), He.free_ok X G (c.fact 8 (f := .free "min") rfl), He.free_ok X G (c.fact 9 (f := .free "range") rfl), He.free_ok X G (c.fact 10 (f := .free "str") rfl), He.free_ok X G (c.fact 11 (f := .free "tuple") rfl)⟩
  obtain ⟨fd_stretch_fault, F_stretch_fault⟩ := c.def_ 0 (d := d_stretch_fault) rfl
  obtain ⟨fd_mark_fault, F_mark_fault⟩ := c.def_ 1 (d := d_mark_fault) rfl
  obtain ⟨fd_fewest_marks, F_fewest_marks⟩ := c.def_ 2 (d := d_fewest_marks) rfl
  obtain ⟨fd_law_bag, F_law_bag⟩ := c.def_ 3 (d := d_law_bag) rfl
  obtain ⟨fd_law_stirred, F_law_stirred⟩ := c.def_ 4 (d := d_law_stirred) rfl
  obtain ⟨fd_law_draw, F_law_draw⟩ := c.def_ 5 (d := d_law_draw) rfl
  obtain ⟨fd_law_sign, F_law_sign⟩ := c.def_ 6 (d := d_law_sign) rfl
  obtain ⟨fd_law_text, F_law_text⟩ := c.def_ 7 (d := d_law_text) rfl
  obtain ⟨fd_law_any_row, F_law_any_row⟩ := c.def_ 8 (d := d_law_any_row) rfl
  obtain ⟨fd_law_any_plan, F_law_any_plan⟩ := c.def_ 9 (d := d_law_any_plan) rfl
  obtain ⟨fd_law_row_writes, F_law_row_writes⟩ := c.def_ 10 (d := d_law_row_writes) rfl
  obtain ⟨fd_law_writes, F_law_writes⟩ := c.def_ 11 (d := d_law_writes) rfl
  obtain ⟨fd_law_number, F_law_number⟩ := c.def_ 12 (d := d_law_number) rfl
  obtain ⟨fd_law_any_writes, F_law_any_writes⟩ := c.def_ 13 (d := d_law_any_writes) rfl
  obtain ⟨fd_law_alike, F_law_alike⟩ := c.def_ 14 (d := d_law_alike) rfl
  obtain ⟨fd_law_due, F_law_due⟩ := c.def_ 15 (d := d_law_due) rfl
  obtain ⟨fd_law_all_marks, F_law_all_marks⟩ := c.def_ 16 (d := d_law_all_marks) rfl
  obtain ⟨fd_law, F_law⟩ := c.def_ 17 (d := d_law) rfl
  have D_stretch_fault : ∀ base, DO P w K mg base 1 "stretch_fault" ["some", "first", "last"] [] (S3 (φfault K)) := fun base => ⟨_, _, [], ok_stretch_fault F_stretch_fault T , He.glo_ok X G (c.fact 12 (f := .glo "stretch_fault") rfl), F_stretch_fault.kp, F_stretch_fault.bindsN fun _ _ _ _ _ _ us hl => match us, hl with | [_, _, _], _ => rfl, .nil⟩
  have D_mark_fault : ∀ base, DO P w K mg base 2 "mark_fault" ["some", "marks"] [] (S2 (φmark K)) := fun base => ⟨_, _, [], ok_mark_fault F_mark_fault T (D_stretch_fault base), He.glo_ok X G (c.fact 13 (f := .glo "mark_fault") rfl), F_mark_fault.kp, F_mark_fault.bindsN fun _ _ _ _ _ _ us hl => match us, hl with | [_, _], _ => rfl, .nil⟩
  have D_fewest_marks : ∀ base, DO P w K mg base 1 "fewest_marks" ["some"] [] (S1 (φfewest K)) := fun base => ⟨_, _, [], ok_fewest_marks F_fewest_marks T , He.glo_ok X G (c.fact 14 (f := .glo "fewest_marks") rfl), F_fewest_marks.kp, F_fewest_marks.bindsN fun _ _ _ _ _ _ us hl => match us, hl with | [_], _ => rfl, .nil⟩
  have D_law_bag : ∀ base, DO P w K mg base 1 "_law_bag" ["script"] [] (S1 (φbag K)) := fun base => ⟨_, _, [], ok_law_bag F_law_bag T , He.glo_ok X G (c.fact 15 (f := .glo "_law_bag") rfl), F_law_bag.kp, F_law_bag.bindsN fun _ _ _ _ _ _ us hl => match us, hl with | [_], _ => rfl, .nil⟩
  have D_law_stirred : ∀ base, DO P w K mg base 1 "_law_stirred" ["bag", "many"] [] (S2 (φdraw K)) := fun base => ⟨_, _, [], ok_law_stirred F_law_stirred T , He.glo_ok X G (c.fact 16 (f := .glo "_law_stirred") rfl), F_law_stirred.kp, F_law_stirred.bindsN fun _ _ _ _ _ _ us hl => match us, hl with | [_, _], _ => rfl, .nil⟩
  have D_law_draw : ∀ base, DO P w K mg base 2 "_law_draw" ["bag", "many"] [] (S2 (φdraw K)) := fun base => ⟨_, _, [], ok_law_draw F_law_draw T (D_law_stirred base), He.glo_ok X G (c.fact 17 (f := .glo "_law_draw") rfl), F_law_draw.kp, F_law_draw.bindsN fun _ _ _ _ _ _ us hl => match us, hl with | [_, _], _ => rfl, .nil⟩
  have D_law_sign : ∀ base, DO P w K mg base 3 "_law_sign" ["bag", "few"] [] (S2 (φsign K)) := fun base => ⟨_, _, [], ok_law_sign F_law_sign T (D_law_draw base), He.glo_ok X G (c.fact 18 (f := .glo "_law_sign") rfl), F_law_sign.kp, F_law_sign.bindsN fun _ _ _ _ _ _ us hl => match us, hl with | [_, _], _ => rfl, .nil⟩
  have D_law_text : ∀ base, DO P w K mg base 4 "_law_text" ["bag", "few", "many"] [] (S3 (φtext K)) := fun base => ⟨_, _, [], ok_law_text F_law_text T (D_law_sign base), He.glo_ok X G (c.fact 19 (f := .glo "_law_text") rfl), F_law_text.kp, F_law_text.bindsN fun _ _ _ _ _ _ us hl => match us, hl with | [_, _, _], _ => rfl, .nil⟩
  have D_law_any_row : ∀ base, DO P w K mg base 5 "_law_any_row" ["bag", "has", "few", "wide"] [] (S4 (φany_row K)) := fun base => ⟨_, _, [], ok_law_any_row F_law_any_row T (D_law_draw base) (D_law_text base), He.glo_ok X G (c.fact 20 (f := .glo "_law_any_row") rfl), F_law_any_row.kp, F_law_any_row.bindsN fun _ _ _ _ _ _ us hl => match us, hl with | [_, _, _, _], _ => rfl, .nil⟩
  have D_law_any_plan_6 : ∀ base, DO P w K mg base 6 "_law_any_plan" ["bag", "n", "big", "slots", "rows", "few", "most"] [.int 1500] (S7 (φany_plan K)) := fun base => by
    obtain ⟨ds, rd, bd⟩ := FunD.binds1 F_law_any_plan (ps := ["bag", "n", "big", "slots", "rows", "few", "most"]) 6 0 (by intro z; cases z) rfl (fun T' kV doc pm an cdv ct us its hu hi => match us, its, hu, hi with | [_, _, _, _, _, _], [_], _, _ => ⟨_, rfl, rfl⟩)
    exact ⟨_, _, ds, ok_law_any_plan F_law_any_plan T (D_law_any_row base) (D_law_draw base) (D_law_sign base), He.glo_ok X G (c.fact 21 (f := .glo "_law_any_plan") rfl), F_law_any_plan.kp, bd, rd⟩
  have D_law_row_writes : ∀ base, DO P w K mg base 1 "_law_row_writes" ["row"] [] (S1 (φrow_writes K)) := fun base => ⟨_, _, [], ok_law_row_writes F_law_row_writes T , He.glo_ok X G (c.fact 22 (f := .glo "_law_row_writes") rfl), F_law_row_writes.kp, F_law_row_writes.bindsN fun _ _ _ _ _ _ us hl => match us, hl with | [_], _ => rfl, .nil⟩
  have D_law_writes : ∀ base, DO P w K mg base 2 "_law_writes" ["deeds"] [] (S1 (φwrites K)) := fun base => ⟨_, _, [], ok_law_writes F_law_writes T (D_law_row_writes base), He.glo_ok X G (c.fact 23 (f := .glo "_law_writes") rfl), F_law_writes.kp, F_law_writes.bindsN fun _ _ _ _ _ _ us hl => match us, hl with | [_], _ => rfl, .nil⟩
  have D_law_number : ∀ base, DO P w K mg base 3 "_law_number" ["bag", "base", "wide"] [] (S3 (φnumber K)) := fun base => ⟨_, _, [], ok_law_number F_law_number T (D_law_draw base), He.glo_ok X G (c.fact 24 (f := .glo "_law_number") rfl), F_law_number.kp, F_law_number.bindsN fun _ _ _ _ _ _ us hl => match us, hl with | [_, _, _], _ => rfl, .nil⟩
  have D_law_any_writes : ∀ base, DO P w K mg base 4 "_law_any_writes" ["bag", "many"] [] (S2 (φany_writes K)) := fun base => ⟨_, _, [], ok_law_any_writes F_law_any_writes T (D_law_draw base) (D_law_number base) (D_law_sign base), He.glo_ok X G (c.fact 25 (f := .glo "_law_any_writes") rfl), F_law_any_writes.kp, F_law_any_writes.bindsN fun _ _ _ _ _ _ us hl => match us, hl with | [_, _], _ => rfl, .nil⟩
  have D_law_alike : ∀ base, DO P w K mg base 6 "_law_alike" ["got", "due"] [] (S2 (φalike K 6)) := fun base => recDO (φ := fun n => (S2 (φalike K n))) (fun vs H Q E h => alike0 h) (He.glo_ok X G (c.fact 26 (f := .glo "_law_alike") rfl)) F_law_alike.kp (F_law_alike.bindsN fun _ _ _ _ _ _ us hl => match us, hl with | [_, _], _ => rfl) (fun n ih => ok_law_alike F_law_alike T ih) 6
  have D_law_due : ∀ base, DO P w K mg base 1 "_law_due" ["acts", "bars"] [] (S2 (φdue K)) := fun base => ⟨_, _, [], ok_law_due F_law_due T , He.glo_ok X G (c.fact 27 (f := .glo "_law_due") rfl), F_law_due.kp, F_law_due.bindsN fun _ _ _ _ _ _ us hl => match us, hl with | [_, _], _ => rfl, .nil⟩
  have D_law_all_marks : ∀ base, DO P w K mg base 1 "_law_all_marks" ["many"] [] (S1 (φall_marks K)) := fun base => ⟨_, _, [], ok_law_all_marks F_law_all_marks T , He.glo_ok X G (c.fact 28 (f := .glo "_law_all_marks") rfl), F_law_all_marks.kp, F_law_all_marks.bindsN fun _ _ _ _ _ _ us hl => match us, hl with | [_], _ => rfl, .nil⟩
  have e := hfa.symm.trans (He.glo_ok X G (c.fact 29 (f := .glo "law") rfl))
  cases e
  have b := FunD.bindsA (ps := ["script"]) F_law fun _ _ _ _ _ _ us hl => match us, hl with | [_], _ => rfl
  exact ⟨fd_law, fun s v => b s [v] rfl, fun base _ _ => ok_law F_law T (D_law_alike base) (D_law_all_marks base) (D_law_any_plan_6 base) (D_law_any_writes base) (D_law_bag base) (D_law_draw base) (D_law_due base) (D_law_writes base) (D_fewest_marks base) (D_mark_fault base)⟩
end Z
open PySem PySem.W PySem.Calls PyProof.Rows
theorem PySem.Challenge.cw_remadehere_k59_whole_all_marks_of_small_holds : PySem.Challenge.rw_remadehere_k59_whole_all_marks_of_small.Holds := by
  w_on; o_law
  refine HandSHeadRun.head_any (r := OpenLaw.row PySem.Challenge.rw_remadehere_k59_whole_all_marks_of_small) (q := view (OpenLaw.row PySem.Challenge.rw_remadehere_k59_whole_all_marks_of_small).prog [19]) (H := Z.hk) (ob := Z.ob) (M := 3000) (loose := ["stretch_fault", "mark_fault", "fewest_marks", "_law_bag", "_law_stirred", "_law_draw", "_law_sign", "_law_text", "_law_any_row", "_law_any_plan", "_law_row_writes", "_law_writes", "_law_number", "_law_any_writes", "_law_alike", "_law_due", "_law_all_marks"]) (d := HandSHeadRun.topDef (OpenLaw.row PySem.Challenge.rw_remadehere_k59_whole_all_marks_of_small).prog 19) (kwd := []) Z.ob_eq
    (by kernel_rfl) (fun s => by kernel_rfl) Z.run (by kernel_rfl) (by kernel_rfl) (by kernel_rfl) (by rfl) (by first | assumption | decide +kernel) (by decide +kernel) ⟨rfl, rfl, rfl, rfl, rfl, by decide +kernel⟩ ?hw ?hc
  case hw => w_witness2
  case hc =>
    refine L2.walk_ofE (l := PySem.Challenge.rw_remadehere_k59_whole_all_marks_of_small) (n := 63) (k := 12) (x := "script") (CX := L2.CX0) rfl (by decide) (by kernel_rfl) ⟨rfl, by decide, by decide⟩ ?F (fun _ _ _ _ z => z)
    intro w mg fa h Y G hmg0
    obtain ⟨K, KX, c⟩ := Y
    have hmg : mg ("law" : PySem.Str) = some (.ref fa) := by
      have e : (HandSHeadRun.topDef (OpenLaw.row PySem.Challenge.rw_remadehere_k59_whole_all_marks_of_small).prog 19).name = ("law" : PySem.Str) := by kernel_rfl
      rw [← e]
      exact hmg0
    obtain ⟨fd, hb, hF⟩ := Z.facts (P := (PySem.Challenge.rw_remadehere_k59_whole_all_marks_of_small).prog) (w := w) KX G hmg c
    exact ⟨K, fd, (R.S1 (R.φlaw K)), KX, hb, fun H a ns hl hO hS => R.law_start a ns hl hO hS, hF⟩
