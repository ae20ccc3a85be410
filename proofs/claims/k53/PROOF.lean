import PyProof.Rows.All
import Wide.All
import OpenK.AllK
import Wide.FinOn
import KE.KStateDown
import Lean
import HandS.Base
import HandS.Call
import HandS.List
import HandS.Comp
import HandS.Ends
import HandS.Dict
import HandS.Iter
import HandS.Text
import HandS.Words
import HandS.WordsList
import HandS.Defaults
import HandS.IsInst
import HandS.Wide
import HandS.WideBits
import HandS.Conv
import HandS.Flow
import HandS.Style
import HandS.Flt
import HandS.SortInts
import HandS.Head0
import HandS.Head1
import HandS.Head2
import HandS.HeadEnd
import HandS.HeadHook1
import HandS.HeadHook2
import HandS.Codes
import PyProof.DictMoreH
import HandS.SetKeys
import HandS.More
import PySem.Challenge.RW_remadehere_k53_marks_judged
set_option Elab.async false
set_option linter.all false
set_option maxRecDepth 100000
set_option maxHeartbeats 8000000
namespace R
open PySem L2

/-! ### worlds: F the part that stays, H all that is tracked -/
theorem ne_none {α : Type} {o : Option α} {x : α} (h : o = some x) : o ≠ none := fun e => by rw [h] at e; cases e
theorem Same.new {H : Hp} {p : Addr} {o : HO} (h : H p = none) : Same H (upd H p o) := fun a u e => by
  rw [upd_ne (ne_of_none e h)]
  exact e
theorem rd_same {F H : Hp} {a : Addr} {u : HO} (e : Same F H) (h : Rd F a u) : Rd H a u := by
  rcases h with h | ⟨o, h⟩
  · exact .inl (e _ _ h)
  · exact .inr ⟨o, e _ _ h⟩
theorem sqL_same {K : PySem.W.Frag} {F H : Hp} {a : Addr} {xs : List V} (e : Same F H) (h : SqL K F a xs) : SqL K H a xs := by
  rcases h with h | h
  · exact .inl (rd_same e h)
  · exact .inr h
theorem sqT_same {K : PySem.W.Frag} {F H : Hp} {a : Addr} {xs : List V} (e : Same F H) (h : SqT K F a xs) : SqT K H a xs := by
  rcases h with h | h
  · exact .inl (rd_same e h)
  · exact .inr h
theorem sqL_of {K : PySem.W.Frag} {H : Hp} {a : Addr} {xs : List V} (h : H a = some (.lst xs)) : SqL K H a xs := .inl (.inl h)
theorem sqT_of {K : PySem.W.Frag} {H : Hp} {a : Addr} {xs : List V} (h : H a = some (.tup xs)) : SqT K H a xs := .inl (.inl h)
mutual
theorem dp_same {K : PySem.W.Frag} {F H : Hp} (e : Same F H) : ∀ (d : PyData) (v : V), Dp K F v d → Dp K H v d
  | .none, _, .non => .non
  | .bool _, _, .bl b => .bl b
  | .int _, _, .int i => .int i
  | .str _, _, .str x => .str x
  | .list ds, _, .lst h hs => .lst (sqL_same e h) (dpa_same e ds _ hs)
  | .tuple ds, _, .tup h hs => .tup (sqT_same e h) (dpa_same e ds _ hs)
theorem dpa_same {K : PySem.W.Frag} {F H : Hp} (e : Same F H) : ∀ (ds : List PyData) (vs : List V), DpAll K F vs ds → DpAll K H vs ds
  | [], _, .nil => .nil
  | d :: ds, _, .cons h hs => .cons (dp_same e d _ h) (dpa_same e ds _ hs)
end

/-- what a deed does: F grows to F2, H to H2; of what H has outside of F only the objects at M change -/
structure Gr (M : List Addr) (F H F2 H2 : Hp) : Prop where
  ff : Same F F2
  fh : Same F2 H2
  hh : ∀ a o, a ∉ M → H a = some o → H2 a = some o
  al : ∀ a, H a ≠ none → H2 a ≠ none
  nw : ∀ a, H a ≠ none → F a = none → F2 a = none
theorem Gr.refl {M : List Addr} {F H : Hp} (h : Same F H) : Gr M F H F H := ⟨Same.refl F, h, fun _ _ _ e => e, fun _ e => e, fun _ _ e => e⟩
theorem Gr.trans {M : List Addr} {F H F1 H1 F2 H2 : Hp} (a : Gr M F H F1 H1) (b : Gr M F1 H1 F2 H2) : Gr M F H F2 H2 :=
  ⟨a.ff.trans b.ff, b.fh, fun x o n e => b.hh x o n (a.hh x o n e), fun x e => b.al x (a.al x e), fun x e n => b.nw x (a.al x e) (a.nw x e n)⟩
theorem Gr.sub {M N : List Addr} {F H F2 H2 : Hp} (a : Gr M F H F2 H2) (h : ∀ x ∈ M, x ∈ N) : Gr N F H F2 H2 := ⟨a.ff, a.fh, fun x o n e => a.hh x o (fun m => n (h x m)) e, a.al, a.nw⟩
theorem Gr.up {M : List Addr} {F H F2 H2 : Hp} (a : Gr [] F H F2 H2) : Gr M F H F2 H2 := a.sub fun _ h => by cases h
/-- a new object that stays -/
theorem Gr.im {M : List Addr} {F H : Hp} {p : Addr} {o : HO} (w : Same F H) (h : H p = none) : Gr M F H (upd F p o) (upd H p o) := by
  have hF : F p = none := w.free h
  refine ⟨Same.new hF, fun a u e => ?_, fun a u _ e => ?_, fun a e => ?_, fun a e n => ?_⟩
  · by_cases q : a = p
    · subst q
      rw [upd_same] at e ⊢
      exact e
    · rw [upd_ne q] at e ⊢
      exact w a u e
  · rw [upd_ne (ne_of_none e h)]
    exact e
  · by_cases q : a = p
    · subst q
      rw [upd_same]
      exact fun z => nomatch z
    · rw [upd_ne q]
      exact e
  · have q : a ≠ p := fun z => by subst z; exact e h
    rw [upd_ne q]
    exact n
/-- a new object that may change -/
theorem Gr.new {M : List Addr} {F H : Hp} {p : Addr} {o : HO} (w : Same F H) (h : H p = none) : Gr M F H F (upd H p o) := by
  refine ⟨Same.refl F, w.trans (Same.new h), fun a u _ e => ?_, fun a e => ?_, fun a e n => n⟩
  · rw [upd_ne (ne_of_none e h)]
    exact e
  · by_cases q : a = p
    · subst q
      rw [upd_same]
      exact fun z => nomatch z
    · rw [upd_ne q]
      exact e
/-- a change of an object that may change -/
theorem Gr.wr {M : List Addr} {F H : Hp} {p : Addr} {o : HO} (w : Same F H) (h : F p = none) (hm : p ∈ M) : Gr M F H F (upd H p o) := by
  refine ⟨Same.refl F, fun a u e => ?_, fun a u n e => ?_, fun a e => ?_, fun a e n => n⟩
  · have q : a ≠ p := ne_of_none e h
    rw [upd_ne q]
    exact w a u e
  · have q : a ≠ p := fun z => by subst z; exact n hm
    rw [upd_ne q]
    exact e
  · by_cases q : a = p
    · subst q
      rw [upd_same]
      exact fun z => nomatch z
    · rw [upd_ne q]
      exact e
/-- .. of one that was new behind the start -/
theorem Gr.wrn {M : List Addr} {F0 H0 F H : Hp} {p : Addr} {o : HO} (g : Gr M F0 H0 F H) (h : F p = none) (hn : H0 p = none) : Gr M F0 H0 F (upd H p o) := by
  refine ⟨g.ff, fun a u e => ?_, fun a u n e => ?_, fun a e => ?_, g.nw⟩
  · have q : a ≠ p := ne_of_none e h
    rw [upd_ne q]
    exact g.fh a u e
  · have q : a ≠ p := fun z => by subst z; rw [hn] at e; cases e
    rw [upd_ne q]
    exact g.hh a u n e
  · by_cases q : a = p
    · subst q
      rw [upd_same]
      exact fun z => nomatch z
    · rw [upd_ne q]
      exact g.al a e
/-- an object that may change -/
structure Mu (F H : Hp) (p : Addr) (o : HO) : Prop where
  n : F p = none
  h : H p = some o
theorem Gr.mu {M : List Addr} {F H F2 H2 : Hp} {p : Addr} {o : HO} (g : Gr M F H F2 H2) (m : Mu F H p o) (hp : p ∉ M) : Mu F2 H2 p o := ⟨g.nw p (ne_none m.h) m.n, g.hh p o hp m.h⟩
theorem Gr.mu0 {F H F2 H2 : Hp} {p : Addr} {o : HO} (g : Gr [] F H F2 H2) (m : Mu F H p o) : Mu F2 H2 p o := g.mu m (fun h => nomatch h)
theorem Mu.new {F H : Hp} {p : Addr} {o : HO} (w : Same F H) (h : H p = none) : Mu F (upd H p o) p o := ⟨w.free h, upd_same⟩
theorem Mu.wr {F H : Hp} {p : Addr} {o u : HO} (m : Mu F H p o) : Mu F (upd H p u) p u := ⟨m.n, upd_same⟩
theorem Mu.oth {F H : Hp} {p q : Addr} {o u : HO} (m : Mu F H p o) (h : p ≠ q) : Mu F (upd H q u) p o := ⟨m.n, by rw [upd_ne h]; exact m.h⟩
theorem Mu.sq {K : PySem.W.Frag} {F H : Hp} {p : Addr} {xs : List V} (m : Mu F H p (.lst xs)) : SqL K H p xs := sqL_of m.h
theorem Mu.ne_new {F H : Hp} {p q : Addr} {o : HO} (m : Mu F H p o) (h : H q = none) : p ≠ q := ne_of_none m.h h
theorem upd_at {F : Hp} {p : Addr} {o : HO} : upd F p o p = some o := upd_same

/-! ### promises by the number of arguments -/
def S1 (φ : V → Hp → VK → Prop) : Sp := fun vs H Q _ => match vs with
  | [a] => φ a H Q
  | _ => False
def S2 (φ : V → V → Hp → VK → Prop) : Sp := fun vs H Q _ => match vs with
  | [a, b] => φ a b H Q
  | _ => False
def S3 (φ : V → V → V → Hp → VK → Prop) : Sp := fun vs H Q _ => match vs with
  | [a, b, c] => φ a b c H Q
  | _ => False
def S4 (φ : V → V → V → V → Hp → VK → Prop) : Sp := fun vs H Q _ => match vs with
  | [a, b, c, d] => φ a b c d H Q
  | _ => False
def S5 (φ : V → V → V → V → V → Hp → VK → Prop) : Sp := fun vs H Q _ => match vs with
  | [a, b, c, d, e] => φ a b c d e H Q
  | _ => False
def S6 (φ : V → V → V → V → V → V → Hp → VK → Prop) : Sp := fun vs H Q _ => match vs with
  | [a, b, c, d, e, f] => φ a b c d e f H Q
  | _ => False
def S7 (φ : V → V → V → V → V → V → V → Hp → VK → Prop) : Sp := fun vs H Q _ => match vs with
  | [a, b, c, d, e, f, g] => φ a b c d e f g H Q
  | _ => False
def S0 (φ : Hp → VK → Prop) : Sp := fun vs H Q _ => match vs with
  | [] => φ H Q
  | _ => False

theorem S0.len {φ : Hp → VK → Prop} {vs : List V} {H : Hp} {Q : VK} {E : XK} (h : S0 φ vs H Q E) : vs.length = 0 := by
  match vs, h with
  | [], _ => rfl
theorem S1.len {φ : V → Hp → VK → Prop} {vs : List V} {H : Hp} {Q : VK} {E : XK} (h : S1 φ vs H Q E) : vs.length = 1 := by
  match vs, h with
  | [_], _ => rfl
theorem S2.len {φ : V → V → Hp → VK → Prop} {vs : List V} {H : Hp} {Q : VK} {E : XK} (h : S2 φ vs H Q E) : vs.length = 2 := by
  match vs, h with
  | [_, _], _ => rfl
theorem S3.len {φ : V → V → V → Hp → VK → Prop} {vs : List V} {H : Hp} {Q : VK} {E : XK} (h : S3 φ vs H Q E) : vs.length = 3 := by
  match vs, h with
  | [_, _, _], _ => rfl
theorem S4.len {φ : V → V → V → V → Hp → VK → Prop} {vs : List V} {H : Hp} {Q : VK} {E : XK} (h : S4 φ vs H Q E) : vs.length = 4 := by
  match vs, h with
  | [_, _, _, _], _ => rfl
theorem S5.len {φ : V → V → V → V → V → Hp → VK → Prop} {vs : List V} {H : Hp} {Q : VK} {E : XK} (h : S5 φ vs H Q E) : vs.length = 5 := by
  match vs, h with
  | [_, _, _, _, _], _ => rfl
theorem S6.len {φ : V → V → V → V → V → V → Hp → VK → Prop} {vs : List V} {H : Hp} {Q : VK} {E : XK} (h : S6 φ vs H Q E) : vs.length = 6 := by
  match vs, h with
  | [_, _, _, _, _, _], _ => rfl
theorem S7.len {φ : V → V → V → V → V → V → V → Hp → VK → Prop} {vs : List V} {H : Hp} {Q : VK} {E : XK} (h : S7 φ vs H Q E) : vs.length = 7 := by
  match vs, h with
  | [_, _, _, _, _, _, _], _ => rfl

/-! ### a def as it stands, with its promise -/
structure DO (P : Program) (w : World) (K : PySem.W.Frag) (mg : Str → Option Value) (base : Heap) (k : Nat) (x : Str) (ps : List Str) (dvs : List V) (sp : Sp) : Prop where
  ex : ∃ (f : Addr) (fd : FuncData) (ds : List Value), FnOk P w K mg base CX0 k f fd ps sp ∧ mg x = some (.ref f) ∧ PySem.W.keepIn K (.ref f) = true ∧ Binds K fd ps ds ∧ Vals dvs ds
section
variable {X : Cx} {k j : Nat} {ps : List Str} {sp : Sp} {dvs : List V} {x : Str} {p pos : Pos} {e : Expr} {es : List Expr} {t : TA}
theorem pcall (D : DO X.prog X.w X.K X.mg X.base k x ps dvs sp) (hr : Room j X.A) (ha : PA X (e :: es) t) (hj : k ≤ j := by first | decide | exact Nat.le_refl _ | omega) (hg : Gl X x := by rfl) (hdb : (x == ("__debug__" : Str)) = false := by decide)
    (he : starEach (e :: es) X.env = (false, eval e X.env) :: starEach es X.env := by rfl) (hpl : (backTo pos (starEach es X.env)).any (·.1) = false := by rfl) :
    PE X (.Call (.Name x p) (e :: es) [] pos) (tCall sp dvs E0 t) := by
  obtain ⟨f, fd, ds, F, hm, hk, hb, hd⟩ := D.ex
  exact pe_call F (hr.mono hj) hg hm hk hb hd pass0 ha hdb he hpl
theorem pcall0 (D : DO X.prog X.w X.K X.mg X.base k x ps dvs sp) (hr : Room j X.A) (hj : k ≤ j := by first | decide | exact Nat.le_refl _ | omega) (hg : Gl X x := by rfl) (hdb : (x == ("__debug__" : Str)) = false := by decide) :
    PE X (.Call (.Name x p) [] [] pos) (tCall sp dvs E0 tNil) := by
  obtain ⟨f, fd, ds, F, hm, hk, hb, hd⟩ := D.ex
  exact pe_call0 F (hr.mono hj) hg hm hk hb hd pass0 hdb
end

theorem recDO {P : Program} {w : World} {K : PySem.W.Frag} {mg : Str → Option Value} {base : Heap} {x : Str} {f : Addr} {fd : FuncData} {ps : List Str} {φ : Nat → Sp} (h0 : ∀ vs H Q E, φ 0 vs H Q E → False) (hm : mg x = some (.ref f)) (hk : PySem.W.keepIn K (.ref f) = true) (hb : Binds K fd ps [])
    (hs : ∀ n, DO P w K mg base n x ps [] (φ n) → FnOk P w K mg base CX0 (n + 1) f fd ps (φ (n + 1))) : ∀ n, DO P w K mg base n x ps [] (φ n)
  | 0 => ⟨f, fd, [], ⟨fun vs H Q E h => (h0 vs H Q E h).elim, fun A outer s H args us vs Q E _ _ _ _ h => (h0 vs H Q E h).elim⟩, hm, hk, hb, .nil⟩
  | n + 1 => ⟨f, fd, [], hs n (recDO h0 hm hk hb hs n), hm, hk, hb, .nil⟩
/-! ### calls with keywords -/
/-- the parameters' values: by place (0), by a keyword's place (1), by a default's place (2) -/
def pick {α : Type} (d : α) (tp : List (Nat × Nat)) (vs zs ds : List α) : List α := tp.map fun p => if p.1 = 0 then vs.getD p.2 d else if p.1 = 1 then zs.getD p.2 d else ds.getD p.2 d
theorem vals_getD : ∀ {vs : List V} {us : List Value} (i : Nat), Vals vs us → RelV (vs.getD i .non) (us.getD i .none)
  | _, _, _, .nil => rfl
  | _, _, 0, .cons r _ => r
  | _, _, i + 1, .cons _ t => by
    show RelV ((_ :: _ : List V).getD (i + 1) .non) ((_ :: _ : List Value).getD (i + 1) .none)
    rw [List.getD_cons_succ, List.getD_cons_succ]
    exact vals_getD i t
theorem pick_rel {vs zs ds : List V} {us ws es : List Value} (r1 : Vals vs us) (r2 : Vals zs ws) (r3 : Vals ds es) : ∀ tp : List (Nat × Nat), Vals (pick .non tp vs zs ds) (pick .none tp us ws es)
  | [] => .nil
  | p :: tp => .cons (by
      show RelV (if p.1 = 0 then vs.getD p.2 .non else if p.1 = 1 then zs.getD p.2 .non else ds.getD p.2 .non) (if p.1 = 0 then us.getD p.2 .none else if p.1 = 1 then ws.getD p.2 .none else es.getD p.2 .none)
      by_cases h0 : p.1 = 0
      · rw [if_pos h0, if_pos h0]
        exact vals_getD _ r1
      · rw [if_neg h0, if_neg h0]
        by_cases h1 : p.1 = 1
        · rw [if_pos h1, if_pos h1]
          exact vals_getD _ r2
        · rw [if_neg h1, if_neg h1]
          exact vals_getD _ r3) (pick_rel r1 r2 r3 tp)
structure DK (P : Program) (w : World) (K : PySem.W.Frag) (mg : Str → Option Value) (base : Heap) (k : Nat) (x : Str) (ps : List Str) (n : Nat) (ks : List Str) (tp : List (Nat × Nat)) (dvs : List V) (sp : Sp) : Prop where
  ex : ∃ (f : Addr) (fd : FuncData) (ds : List Value), FnOk P w K mg base CX0 k f fd ps sp ∧ mg x = some (.ref f) ∧ PySem.W.keepIn K (.ref f) = true ∧ KBn K fd ps n ks (fun us ws => pick .none tp us ws ds) (fun vs zs => pick .non tp vs zs dvs)
theorem kbN {K : PySem.W.Frag} {x qual : Str} {params : Arguments} {body : List Stmt} {scope : Scope} {f : Addr} {fd : FuncData} {ps ks : List Str} {n : Nat} {tp : List (Nat × Nat)} (F : FunD K x qual params body scope [] [] f fd)
    (h : ∀ (kV doc pm : Value) (an : Option Addr) (cdv ct : Value) (us ws : List Value), us.length = n → ws.length = ks.length → bindArgs (PySem.W.fnOf x qual params body scope .none kV doc pm an cdv ct) ⟨us, ks.zip ws⟩ = pure (ps.zip (pick .none tp us ws []))) :
    KBn K fd ps n ks (fun us ws => pick .none tp us ws []) (fun vs zs => pick .non tp vs zs []) := by
  obtain ⟨oc, od, dV, kV, doc, pm, an, cdv, ct, osl, rfl, lk, hcd, hD, hK⟩ := F.ex
  rcases hD with ⟨_, rfl⟩ | ⟨e, _⟩
  · exact ⟨fun s us ws _ l1 l2 => .of_eq (h kV doc pm an cdv ct us ws l1 l2), fun r1 r2 => pick_rel r1 r2 .nil tp⟩
  · exact absurd rfl e
theorem kbD {K : PySem.W.Frag} {x qual : Str} {params : Arguments} {body : List Stmt} {scope : Scope} {dvs : List V} {f : Addr} {fd : FuncData} {ps ks : List Str} {n : Nat} {tp : List (Nat × Nat)} (F : FunD K x qual params body scope dvs [] f fd) (hd : dvs ≠ [])
    (h : ∀ (T : Addr) (kV doc pm : Value) (an : Option Addr) (cdv ct : Value) (us ws its : List Value), us.length = n → ws.length = ks.length → its.length = dvs.length →
      ∃ k, bindArgs (PySem.W.fnOf x qual params body scope (.ref T) kV doc pm an cdv ct) ⟨us, ks.zip ws⟩ = seqItems? (.ref T) >>= k ∧ k (some its.toArray) = pure (ps.zip (pick .none tp us ws its))) :
    ∃ its : List Value, KBn K fd ps n ks (fun us ws => pick .none tp us ws its) (fun vs zs => pick .non tp vs zs dvs) := by
  obtain ⟨oc, od, dV, kV, doc, pm, an, cdv, ct, osl, rfl, lk, hcd, hD, hK⟩ := F.ex
  rcases hD with ⟨e, _⟩ | ⟨_, T, o, its, m, rfl, lT, oT, rT⟩
  · exact absurd e hd
  · refine ⟨its, fun s us ws X l1 l2 => ?_, fun r1 r2 => pick_rel r1 r2 rT tp⟩
    obtain ⟨k, e1, e2⟩ := h T kV doc pm an cdv ct us ws its l1 l2 rT.length.symm
    refine BindsTo.of_looks fun M => ?_
    rw [e1]
    exact looks_items X lT oT (.of_pure e2)
section
variable {X : Cx} {k j n : Nat} {ps ks : List Str} {sp : Sp} {dvs : List V} {x : Str} {p pos : Pos} {e : Expr} {es : List Expr} {kws : List Keyword} {t tk : TA} {tp : List (Nat × Nat)}
theorem pcallK (D : DK X.prog X.w X.K X.mg X.base k x ps n ks tp dvs sp) (hr : Room j X.A) (ha : PA X (e :: es) t) (hkw : PK X kws tk) (hj : k ≤ j := by first | decide | exact Nat.le_refl _ | omega) (hg : Gl X x := by rfl)
    (hall : (backToKw pos (keywordEach kws X.env)).all (·.1.isSome) = true := by rfl) (hks : (backToKw pos (keywordEach kws X.env)).filterMap (·.1) = ks := by rfl)
    (hdb : (x == ("__debug__" : Str)) = false := by decide) (he : starEach (e :: es) X.env = (false, eval e X.env) :: starEach es X.env := by rfl)
    (hpl : ((backTo pos (starEach (e :: es) X.env)).any (·.1) || (backToKw pos (keywordEach kws X.env)).any (·.1.isNone)) = false := by rfl) :
    PE X (.Call (.Name x p) (e :: es) kws pos) (tCallN n ks.length sp (fun vs zs => pick .non tp vs zs dvs) E0 t tk) := by
  obtain ⟨f, fd, ds, F, hm, hk, hb⟩ := D.ex
  exact pe_callN F (hr.mono hj) hg hm hk hb pass0 ha hkw hall hks hdb he hpl
theorem pcallK0 (D : DK X.prog X.w X.K X.mg X.base k x ps 0 ks tp dvs sp) (hr : Room j X.A) (hkw : PK X kws tk) (hj : k ≤ j := by first | decide | exact Nat.le_refl _ | omega) (hg : Gl X x := by rfl)
    (hall : (backToKw pos (keywordEach kws X.env)).all (·.1.isSome) = true := by rfl) (hks : (backToKw pos (keywordEach kws X.env)).filterMap (·.1) = ks := by rfl)
    (hdb : (x == ("__debug__" : Str)) = false := by decide)
    (hpl : ((backTo pos (starEach [] X.env)).any (·.1) || (backToKw pos (keywordEach kws X.env)).any (·.1.isNone)) = false := by rfl) :
    PE X (.Call (.Name x p) [] kws pos) (tCallN 0 ks.length sp (fun vs zs => pick .non tp vs zs dvs) E0 tNil tk) := by
  obtain ⟨f, fd, ds, F, hm, hk, hb⟩ := D.ex
  refine ⟨fun pins s σ H Q I h => ?_⟩
  refine wpAny_Call_Name_kw (ld_glob I hg hm ?_ hdb)
  refine PySem.W.callWith_KW0 (h₀ := X.base) I.ok.mod.kin hk hall ?_ hpl
  refine thn (hkw.run pos pins s σ H _ I h) fun ws s2 ⟨zs, H2, I2, rz, l1, l2, q2⟩ => ⟨I2.kIn, ?_⟩
  rw [hks]
  exact run_fnN (us := []) (vs := []) F (hr.mono hj) hb pass0 I2 .nil rz l1 l2 q2
end
theorem pe_gint {X : Cx} {x : Str} {i : Int} {pos : Pos} (hg : Gl X x) (hm : ∃ t, X.mg x = some (.int i t)) (hd : (x == ("__debug__" : Str)) = false := by decide) : PE X (.Name x pos) (tC (.int i)) := by
  obtain ⟨t, h⟩ := hm
  exact pe_glob hg h ⟨_, rfl⟩ hd

/-! ### rules with the written part by its own name -/
section
variable {X : Cx} {K : PySem.W.Frag}
theorem ixL (h : X.K = K := by rfl) : IxR X (rIxL K) := by subst h; exact ix_list
theorem ixT (h : X.K = K := by rfl) : IxR X (rIxT K) := by subst h; exact ix_tup
theorem ixQ (h : X.K = K := by rfl) : IxR X (rIx K) := by subst h; exact ix_seq
theorem slL (h : X.K = K := by rfl) : SlR X (rSlL K) := by subst h; exact sl_list
theorem slT (h : X.K = K := by rfl) : SlR X (rSlT K) := by subst h; exact sl_tup
theorem opEqD (A : X.A.units + 64 < cLine) (h : X.K = K := by rfl) : OpR X (compareOp .Eq) (rEqD K) := by subst h; exact op_eqD A
theorem opNeD (A : X.A.units + 64 < cLine) (h : X.K = K := by rfl) : OpR X (compareOp .NotEq) (rNeD K) := by subst h; exact op_neD A
theorem opIn (h : X.K = K := by rfl) : OpR X (compareOp .In) (rIn K false) := by subst h; exact op_in_seq
theorem opNotIn (h : X.K = K := by rfl) : OpR X (compareOp .NotIn) (rIn K true) := by subst h; exact op_notIn_seq
def rLen (K : PySem.W.Frag) : List V → Hp → VK → Prop := fun xs H Q => ∃ x n, xs = [x] ∧ LenV K x H n ∧ Q (.int n) H
def rLenQ (K : PySem.W.Frag) : List V → Hp → VK → Prop := fun xs H Q => ∃ p ys, xs = [.ref p] ∧ (SqL K H p ys ∨ SqT K H p ys) ∧ Q (.int ys.length) H
def rListOf (K : PySem.W.Frag) : List V → Hp → VK → Prop := fun xs H Q => ∃ p ys, xs = [.ref p] ∧ (SqL K H p ys ∨ SqT K H p ys) ∧ ∀ l, H l = none → Q (.ref l) (upd H l (.lst ys))
def rLenS : List V → Hp → VK → Prop := fun xs H Q => ∃ z, xs = [.str z] ∧ z.length ≤ sizeLine ∧ Q (.int z.length) H
def rInt1 : List V → Hp → VK → Prop := fun xs H Q => (∃ i, xs = [.int i] ∧ Q (.int i) H) ∨ ∃ k, xs = [.bl k] ∧ Q (.int (if k then 1 else 0)) H
def rAbs : List V → Hp → VK → Prop := fun xs H Q => ∃ i, xs = [.int i] ∧ Q (.int (if i < 0 then -i else i)) H
def rMin2 : List V → Hp → VK → Prop := fun xs H Q => ∃ i j, xs = [.int i, .int j] ∧ Q (.int (if j < i then j else i)) H
def rMax2 : List V → Hp → VK → Prop := fun xs H Q => ∃ i j, xs = [.int i, .int j] ∧ Q (.int (if j > i then j else i)) H
def rStrI : List V → Hp → VK → Prop := fun xs H Q => ∃ n, xs = [.int n] ∧ n.natAbs.log2 < 1920 ∧ Q (.str (toString n)) H
theorem clLen (h : X.K = K := by rfl) : CallR X (.builtin "len") (rLen K) := by subst h; exact call_len
theorem clLenQ (h : X.K = K := by rfl) : CallR X (.builtin "len") (rLenQ K) := by subst h; exact call_len_seq
theorem clLenS : CallR X (.builtin "len") rLenS := call_len_str
theorem clListOf (h : X.K = K := by rfl) : CallR X (.type "list") (rListOf K) := by subst h; exact call_list_of
theorem clInt1 : CallR X (.type "int") rInt1 := call_int1
theorem clAbs : CallR X (.builtin "abs") rAbs := call_abs
theorem clMin2 (hc : X.calm = true := by rfl) : CallR X (.builtin "min") rMin2 := call_min2 hc
theorem clMax2 (hc : X.calm = true := by rfl) : CallR X (.builtin "max") rMax2 := call_max2 hc
theorem clSum (hc : X.calm = true := by rfl) (h : X.K = K := by rfl) : CallR X (.builtin "sum") (rSum K) := by subst h; exact cr_sum hc
theorem clAll (hc : X.calm = true := by rfl) (h : X.K = K := by rfl) : CallR X (.builtin "all") (rAll K) := by subst h; exact cr_all hc
theorem clAny (hc : X.calm = true := by rfl) (h : X.K = K := by rfl) : CallR X (.builtin "any") (rAny K) := by subst h; exact cr_any hc
theorem clMax (hc : X.calm = true := by rfl) (h : X.K = K := by rfl) : CallR X (.builtin "max") (rMax K) := by subst h; exact cr_max hc
theorem clMin (hc : X.calm = true := by rfl) (h : X.K = K := by rfl) : CallR X (.builtin "min") (rMin K) := by subst h; exact cr_min hc
theorem clIsi (h : X.K = K := by rfl) : CallR X (.builtin "isinstance") (rIsi K) := by subst h; exact call_isi
theorem clIsiT (h : X.K = K := by rfl) : CallR X (.builtin "isinstance") (rIsiT K) := by subst h; exact call_isiT
def tTruth (K : PySem.W.Frag) (ta : TE) : TT := fun σ H Q => ta σ H fun x H' => ∃ k, TruV K x H' k ∧ Q k H'
theorem ptTruth {a : Expr} {ta : TE} (ha : PE X a ta) (h : X.K = K := by rfl) (hs : ∀ whole, isTrue a X.env whole = (do let v ← whole; standAt a.pos; holding [v] (truthy v)) := by intro _; rfl) : PT X a (tTruth K ta) := by
  subst h
  exact pt_truth ha hs
variable {o e : Expr} {es : List Expr} {to te : TE} {t : TA} {name : Str} {apos cpos : Pos} {T id : String} {r : V → List V → Hp → VK → Prop}
theorem peBM0 (pa : PlainAttrs T) (slot : Slot T name id) (hty : typeOf (.builtin id) = pure (.type "method_descriptor")) (hm : MtR X id r) (ho : PE X o to) (h : X.K = K := by rfl)
    (hbase : attributeBase o name X.env (eval o X.env) = eval o X.env := by rfl) (hline : (apos.endLine == cpos.line) = true := by rfl) : PE X (.Call (.Attribute o name apos) [] [] cpos) (tBM0 K T r to) := by
  subst h
  exact pe_bm0 pa slot hty hm ho hbase hline
theorem peBM (pa : PlainAttrs T) (slot : Slot T name id) (hty : typeOf (.builtin id) = pure (.type "method_descriptor")) (hm : MtR X id r) (ho : PE X o to) (ha : PA X (e :: es) t) (h : X.K = K := by rfl)
    (hbase : attributeBase o name X.env (eval o X.env) = eval o X.env := by rfl)
    (hfew : ((backTo cpos (starEach (e :: es) X.env)).all (fun x => !x.1) && (backToKw cpos (keywordEach [] X.env)).all (fun x => x.1.isSome)
      && decide ((e :: es).length + ([] : List Keyword).length + (if ([] : List Keyword).isEmpty then 0 else 1) < 30)) = true := by rfl)
    (hline : (apos.endLine == cpos.line) = true := by rfl) (hs : starEach (e :: es) X.env = (false, eval e X.env) :: starEach es X.env := by rfl) (hplain : (backTo cpos (starEach es X.env)).any (·.1) = false := by rfl) :
    PE X (.Call (.Attribute o name apos) (e :: es) [] cpos) (tBM K T r to t) := by
  subst h
  exact pe_bm pa slot hty hm ho ha hbase hfew hline hs hplain
def rJoin (K : PySem.W.Frag) : V → List V → Hp → VK → Prop := fun x xs H Q => ∃ a p, ∃ ys : List Str, x = .str a ∧ xs = [.ref p] ∧ (SqL K H p (ys.map V.str) ∨ SqT K H p (ys.map V.str)) ∧
      (ys.map (·.length)).sum + ys.length * a.length ≤ 16777216 ∧ Q (.str (Txt.join a ys)) H
theorem peJoin (ho : PE X o to) (he : PE X e te) (h : X.K = K := by rfl) (hs : starEach [e] X.env = [(false, eval e X.env)] := by rfl) (hbase : attributeBase o "join" X.env (eval o X.env) = eval o X.env := by rfl) (hline : (apos.endLine == cpos.line) = true := by rfl) :
    PE X (.Call (.Attribute o "join" apos) [e] [] cpos) (tM1 (rJoin K) to te) := by
  subst h
  exact pe_join ho he hs hbase hline
theorem peFld {f : Str} {pos : Pos} (he : PE X o to) (h : X.K = K := by rfl) (hb : attributeBase o f X.env (eval o X.env) = eval o X.env := by rfl) : PE X (.Attribute o f pos) (tFld K to f) := by
  subst h
  exact pe_fld he hb
end

/-! ### steps of a reading -/
section
variable {K : PySem.W.Frag} {σ : L2.St} {H : Hp} {Q : VK} {ta tb te : TE} {x y v : V} {nx bk ct : L2.St → Hp → Prop} {rt : VK}
-- slots
section
variable {a0 a1 a2 a3 a4 a5 a6 a7 a8 a9 a10 a11 a12 a13 : Option V} {r : L2.St}
theorem w_v0 (q : Q v H) : tVar 0 (some v :: r) H Q := ⟨v, rfl, q⟩
theorem w_v1 (q : Q v H) : tVar 1 (a0 :: some v :: r) H Q := ⟨v, rfl, q⟩
theorem w_v2 (q : Q v H) : tVar 2 (a0 :: a1 :: some v :: r) H Q := ⟨v, rfl, q⟩
theorem w_v3 (q : Q v H) : tVar 3 (a0 :: a1 :: a2 :: some v :: r) H Q := ⟨v, rfl, q⟩
theorem w_v4 (q : Q v H) : tVar 4 (a0 :: a1 :: a2 :: a3 :: some v :: r) H Q := ⟨v, rfl, q⟩
theorem w_v5 (q : Q v H) : tVar 5 (a0 :: a1 :: a2 :: a3 :: a4 :: some v :: r) H Q := ⟨v, rfl, q⟩
theorem w_v6 (q : Q v H) : tVar 6 (a0 :: a1 :: a2 :: a3 :: a4 :: a5 :: some v :: r) H Q := ⟨v, rfl, q⟩
theorem w_v7 (q : Q v H) : tVar 7 (a0 :: a1 :: a2 :: a3 :: a4 :: a5 :: a6 :: some v :: r) H Q := ⟨v, rfl, q⟩
theorem w_v8 (q : Q v H) : tVar 8 (a0 :: a1 :: a2 :: a3 :: a4 :: a5 :: a6 :: a7 :: some v :: r) H Q := ⟨v, rfl, q⟩
theorem w_v9 (q : Q v H) : tVar 9 (a0 :: a1 :: a2 :: a3 :: a4 :: a5 :: a6 :: a7 :: a8 :: some v :: r) H Q := ⟨v, rfl, q⟩
theorem w_v10 (q : Q v H) : tVar 10 (a0 :: a1 :: a2 :: a3 :: a4 :: a5 :: a6 :: a7 :: a8 :: a9 :: some v :: r) H Q := ⟨v, rfl, q⟩
theorem w_v11 (q : Q v H) : tVar 11 (a0 :: a1 :: a2 :: a3 :: a4 :: a5 :: a6 :: a7 :: a8 :: a9 :: a10 :: some v :: r) H Q := ⟨v, rfl, q⟩
theorem w_v12 (q : Q v H) : tVar 12 (a0 :: a1 :: a2 :: a3 :: a4 :: a5 :: a6 :: a7 :: a8 :: a9 :: a10 :: a11 :: some v :: r) H Q := ⟨v, rfl, q⟩
theorem w_v13 (q : Q v H) : tVar 13 (a0 :: a1 :: a2 :: a3 :: a4 :: a5 :: a6 :: a7 :: a8 :: a9 :: a10 :: a11 :: a12 :: some v :: r) H Q := ⟨v, rfl, q⟩
variable {N : L2.St → Hp → Prop}
theorem w_n0 (q : N (some v :: r) H) : gName 0 v (a0 :: r) H N := q
theorem w_n1 (q : N (a0 :: some v :: r) H) : gName 1 v (a0 :: a1 :: r) H N := q
theorem w_n2 (q : N (a0 :: a1 :: some v :: r) H) : gName 2 v (a0 :: a1 :: a2 :: r) H N := q
theorem w_n3 (q : N (a0 :: a1 :: a2 :: some v :: r) H) : gName 3 v (a0 :: a1 :: a2 :: a3 :: r) H N := q
theorem w_n4 (q : N (a0 :: a1 :: a2 :: a3 :: some v :: r) H) : gName 4 v (a0 :: a1 :: a2 :: a3 :: a4 :: r) H N := q
theorem w_n5 (q : N (a0 :: a1 :: a2 :: a3 :: a4 :: some v :: r) H) : gName 5 v (a0 :: a1 :: a2 :: a3 :: a4 :: a5 :: r) H N := q
theorem w_n6 (q : N (a0 :: a1 :: a2 :: a3 :: a4 :: a5 :: some v :: r) H) : gName 6 v (a0 :: a1 :: a2 :: a3 :: a4 :: a5 :: a6 :: r) H N := q
theorem w_n7 (q : N (a0 :: a1 :: a2 :: a3 :: a4 :: a5 :: a6 :: some v :: r) H) : gName 7 v (a0 :: a1 :: a2 :: a3 :: a4 :: a5 :: a6 :: a7 :: r) H N := q
theorem w_n8 (q : N (a0 :: a1 :: a2 :: a3 :: a4 :: a5 :: a6 :: a7 :: some v :: r) H) : gName 8 v (a0 :: a1 :: a2 :: a3 :: a4 :: a5 :: a6 :: a7 :: a8 :: r) H N := q
theorem w_n9 (q : N (a0 :: a1 :: a2 :: a3 :: a4 :: a5 :: a6 :: a7 :: a8 :: some v :: r) H) : gName 9 v (a0 :: a1 :: a2 :: a3 :: a4 :: a5 :: a6 :: a7 :: a8 :: a9 :: r) H N := q
theorem w_n10 (q : N (a0 :: a1 :: a2 :: a3 :: a4 :: a5 :: a6 :: a7 :: a8 :: a9 :: some v :: r) H) : gName 10 v (a0 :: a1 :: a2 :: a3 :: a4 :: a5 :: a6 :: a7 :: a8 :: a9 :: a10 :: r) H N := q
theorem w_n11 (q : N (a0 :: a1 :: a2 :: a3 :: a4 :: a5 :: a6 :: a7 :: a8 :: a9 :: a10 :: some v :: r) H) : gName 11 v (a0 :: a1 :: a2 :: a3 :: a4 :: a5 :: a6 :: a7 :: a8 :: a9 :: a10 :: a11 :: r) H N := q
theorem w_n12 (q : N (a0 :: a1 :: a2 :: a3 :: a4 :: a5 :: a6 :: a7 :: a8 :: a9 :: a10 :: a11 :: some v :: r) H) : gName 12 v (a0 :: a1 :: a2 :: a3 :: a4 :: a5 :: a6 :: a7 :: a8 :: a9 :: a10 :: a11 :: a12 :: r) H N := q
theorem w_n13 (q : N (a0 :: a1 :: a2 :: a3 :: a4 :: a5 :: a6 :: a7 :: a8 :: a9 :: a10 :: a11 :: a12 :: some v :: r) H) : gName 13 v (a0 :: a1 :: a2 :: a3 :: a4 :: a5 :: a6 :: a7 :: a8 :: a9 :: a10 :: a11 :: a12 :: a13 :: r) H N := q
end
-- expressions
theorem w_c (q : Q v H) : tC v σ H Q := q
theorem w_op {r : R2} (q : ta σ H fun x H1 => tb σ H1 fun y H2 => r x y H2 Q) : tOp r ta tb σ H Q := q
theorem w_un {r : V → Hp → VK → Prop} (q : ta σ H fun x H1 => r x H1 Q) : tUn r ta σ H Q := q
theorem w_add {i j : Int} (q : Q (.int (i + j)) H) : rI0 (fun i j => V.int (i + j)) (.int i) (.int j) H Q := ⟨i, j, rfl, rfl, q⟩
theorem w_subt {i j : Int} (q : Q (.int (i - j)) H) : rI0 (fun i j => V.int (i - j)) (.int i) (.int j) H Q := ⟨i, j, rfl, rfl, q⟩
theorem w_lt {i j : Int} (q : Q (.bl (decide (i < j))) H) : rI0 (fun i j => V.bl (decide (i < j))) (.int i) (.int j) H Q := ⟨i, j, rfl, rfl, q⟩
theorem w_le {i j : Int} (q : Q (.bl (decide (i ≤ j))) H) : rI0 (fun i j => V.bl (decide (i ≤ j))) (.int i) (.int j) H Q := ⟨i, j, rfl, rfl, q⟩
theorem w_gt {i j : Int} (q : Q (.bl (decide (j < i))) H) : rI0 (fun i j => V.bl (decide (j < i))) (.int i) (.int j) H Q := ⟨i, j, rfl, rfl, q⟩
theorem w_ge {i j : Int} (q : Q (.bl (decide (j ≤ i))) H) : rI0 (fun i j => V.bl (decide (j ≤ i))) (.int i) (.int j) H Q := ⟨i, j, rfl, rfl, q⟩
theorem w_I0 {g : Int → Int → V} {i j : Int} (q : Q (g i j) H) : rI0 g (.int i) (.int j) H Q := ⟨i, j, rfl, rfl, q⟩
theorem w_mul {i j : Int} (c : CMul i j) (q : Q (.int (i * j)) H) : rI CMul (fun i j => V.int (i * j)) (.int i) (.int j) H Q := ⟨i, j, rfl, rfl, c, q⟩
theorem w_mod {i j : Int} (c : 0 < j) (q : Q (.int (i % j)) H) : rI (fun _ j => 0 < j) (fun i j => V.int (i % j)) (.int i) (.int j) H Q := ⟨i, j, rfl, rfl, c, q⟩
theorem w_fdiv {i j : Int} (c : CDivW i j) (q : Q (.int (i / j)) H) : rI CDivW (fun i j => V.int (i / j)) (.int i) (.int j) H Q := ⟨i, j, rfl, rfl, c, q⟩
theorem w_pow {i j : Int} (c : CPow i j) (q : Q (.int (i ^ j.toNat)) H) : rI CPow (fun i j => V.int (i ^ j.toNat)) (.int i) (.int j) H Q := ⟨i, j, rfl, rfl, c, q⟩
theorem w_I {C : Int → Int → Prop} {g : Int → Int → V} {i j : Int} (c : C i j) (q : Q (g i j) H) : rI C g (.int i) (.int j) H Q := ⟨i, j, rfl, rfl, c, q⟩
theorem w_neg {i : Int} (q : Q (.int (-i)) H) : rU (fun i => V.int (-i)) (.int i) H Q := ⟨i, rfl, q⟩
def asInt (x : V) (H : Hp) (Z : Int → Hp → Prop) : Prop := ∃ i, x = .int i ∧ Z i H
def asBl (x : V) (H : Hp) (T : Bool → Hp → Prop) : Prop := ∃ k, x = .bl k ∧ T k H
theorem w_asInt {i : Int} {Z : Int → Hp → Prop} (q : Z i H) : asInt (.int i) H Z := ⟨i, rfl, q⟩
theorem w_asBl {b : Bool} {T : Bool → Hp → Prop} (q : T b H) : asBl (.bl b) H T := ⟨b, rfl, q⟩
theorem w_bits {to : TE} (q : to σ H fun x H1 => asInt x H1 fun i H2 => Q (.int (Builtin.Int.intBits i : Nat)) H2) : tBits to σ H Q := q
theorem w_adds {a b : Str} (h : a.length + b.length ≤ sizeLine) (q : Q (.str (a ++ b)) H) : ∃ i j, V.str a = .str i ∧ V.str b = .str j ∧ i.length + j.length ≤ sizeLine ∧ Q (.str (i ++ j)) H := ⟨a, b, rfl, rfl, h, q⟩
theorem w_eqI {i j : Int} (q : Q (.bl (decide (i = j))) H) : rEq (.int i) (.int j) H Q := ⟨rfl, by
  have e : decide (V.int i = V.int j) = decide (i = j) := by
    by_cases h : i = j
    · subst h; simp
    · rw [decide_eq_false h, decide_eq_false fun z => h (V.int.inj z)]
  rw [e]
  exact q⟩
theorem w_neI {i j : Int} (q : Q (.bl (!decide (i = j))) H) : rNe (.int i) (.int j) H Q := ⟨rfl, by
  have e : decide (V.int i = V.int j) = decide (i = j) := by
    by_cases h : i = j
    · subst h; simp
    · rw [decide_eq_false h, decide_eq_false fun z => h (V.int.inj z)]
  rw [e]
  exact q⟩
theorem w_eqS {a b : Str} (q : Q (.bl (decide (a = b))) H) : rEq (.str a) (.str b) H Q := ⟨rfl, by
  have e : decide (V.str a = V.str b) = decide (a = b) := by
    by_cases h : a = b
    · subst h; simp
    · rw [decide_eq_false h, decide_eq_false fun z => h (V.str.inj z)]
  rw [e]
  exact q⟩
theorem w_neS {a b : Str} (q : Q (.bl (!decide (a = b))) H) : rNe (.str a) (.str b) H Q := ⟨rfl, by
  have e : decide (V.str a = V.str b) = decide (a = b) := by
    by_cases h : a = b
    · subst h; simp
    · rw [decide_eq_false h, decide_eq_false fun z => h (V.str.inj z)]
  rw [e]
  exact q⟩
theorem w_eqB {a b : Bool} (q : Q (.bl (decide (a = b))) H) : rEq (.bl a) (.bl b) H Q := ⟨rfl, by
  have e : decide (V.bl a = V.bl b) = decide (a = b) := by
    by_cases h : a = b
    · subst h; simp
    · rw [decide_eq_false h, decide_eq_false fun z => h (V.bl.inj z)]
  rw [e]
  exact q⟩
theorem w_neB {a b : Bool} (q : Q (.bl (!decide (a = b))) H) : rNe (.bl a) (.bl b) H Q := ⟨rfl, by
  have e : decide (V.bl a = V.bl b) = decide (a = b) := by
    by_cases h : a = b
    · subst h; simp
    · rw [decide_eq_false h, decide_eq_false fun z => h (V.bl.inj z)]
  rw [e]
  exact q⟩
theorem w_isN (q : ta σ H fun x H1 => Q (.bl (decide (x = .non))) H1) : tIsN ta σ H Q := q
theorem w_notN (q : ta σ H fun x H1 => Q (.bl (!decide (x = .non))) H1) : tNotN ta σ H Q := q
-- tests
section
variable {T : Bool → Hp → Prop} {t u : TT}
theorem w_test (q : te σ H fun x H1 => asBl x H1 T) : tTest te σ H T := q
theorem w_tB (q : te σ H fun x H1 => asBl x H1 T) : tB te σ H T := q
theorem w_and (q : t σ H fun c H1 => if c = true then u σ H1 T else T false H1) : tAnd t u σ H T := q
theorem w_or (q : t σ H fun c H1 => if c = true then T true H1 else u σ H1 T) : tOr t u σ H T := q
theorem w_not (q : t σ H fun c H1 => T (!c) H1) : tNot t σ H T := q
theorem w_yes (q : T true H) : tYes σ H T := q
theorem w_if (q : t σ H fun c H1 => if c = true then ta σ H1 Q else tb σ H1 Q) : tIf t ta tb σ H Q := q
theorem w_truth (q : ta σ H fun x H' => ∃ k, TruV K x H' k ∧ T k H') : tTruth K ta σ H T := q
end
theorem w_andV (q : ta σ H fun x H1 => asBl x H1 fun c H2 => if c = true then tb σ H2 Q else Q (.bl false) H2) : tAndV ta tb σ H Q := q
theorem w_orV (q : ta σ H fun x H1 => asBl x H1 fun c H2 => if c = true then Q (.bl true) H2 else tb σ H2 Q) : tOrV ta tb σ H Q := q
theorem w_notV (q : ta σ H fun x H1 => asBl x H1 fun c H2 => Q (.bl (!c)) H2) : tNotV ta σ H Q := q
-- arguments
theorem w_nil {L : List V → Hp → Prop} (q : L [] H) : tNil σ H L := q
theorem w_cons {tr : TA} {L : List V → Hp → Prop} (q : ta σ H fun x H1 => tr σ H1 fun xs H2 => L (x :: xs) H2) : tCons ta tr σ H L := q
theorem w_call {sp : Sp} {dvs : List V} {E : XK} {t : TA} (q : t σ H fun vs H1 => sp (vs ++ dvs) H1 Q E) : tCall sp dvs E t σ H Q := q
theorem w_callN {n m : Nat} {sp : Sp} {gV : List V → List V → List V} {E : XK} {t tk : TA} (q : t σ H fun vs H1 => tk σ H1 fun zs H2 => vs.length = n ∧ zs.length = m ∧ sp (gV vs zs) H2 Q E) : tCallN n m sp gV E t tk σ H Q := q
theorem w_CB {r : List V → Hp → VK → Prop} {t : TA} (q : t σ H fun vs H1 => r vs H1 Q) : tCB r t σ H Q := q
theorem w_tup {t : TA} (q : t σ H fun xs H1 => xs.length ≤ sizeLine ∧ ∀ p, H1 p = none → Q (.ref p) (upd H1 p (.tup xs))) : tTup t σ H Q := q
theorem w_lst {t : TA} (q : t σ H fun xs H1 => xs.length ≤ sizeLine ∧ ∀ p, H1 p = none → Q (.ref p) (upd H1 p (.lst xs))) : tLst t σ H Q := q
theorem w_sl {r : V → Option Int → Option Int → Hp → VK → Prop} {tl th : TO} (q : te σ H fun x H1 => tl σ H1 fun l H2 => th σ H2 fun u H3 => r x l u H3 Q) : tSl r te tl th σ H Q := q
theorem w_nop {Z : Option Int → Hp → Prop} (q : Z none H) : tNoPart σ H Z := q
theorem w_part {Z : Option Int → Hp → Prop} (q : te σ H fun x H1 => asInt x H1 fun i H2 => Z (some i) H2) : tPart te σ H Z := q
theorem w_BM0 {T : String} {r : V → List V → Hp → VK → Prop} (q : ta σ H fun x H1 => tyV K T x H1 ∧ r x [] H1 Q) : tBM0 K T r ta σ H Q := q
theorem w_BM {T : String} {r : V → List V → Hp → VK → Prop} {t : TA} (q : ta σ H fun x H1 => tyV K T x H1 ∧ t σ H1 fun xs H2 => r x xs H2 Q) : tBM K T r ta t σ H Q := q
def asStr (x : V) (P : Prop) : Prop := (∃ a, x = .str a) ∧ P
theorem w_M0 {r : V → List V → Hp → VK → Prop} (q : ta σ H fun x H1 => asStr x (r x [] H1 Q)) : tM0 r ta σ H Q := q
theorem w_M1 {r : V → List V → Hp → VK → Prop} (q : ta σ H fun x H1 => asStr x (te σ H1 fun y H2 => r x [y] H2 Q)) : tM1 r ta te σ H Q := q
theorem w_asStr {a : Str} {P : Prop} (q : P) : asStr (.str a) P := ⟨⟨a, rfl⟩, q⟩
theorem w_sub {to ti : TE} {t : TSet} {Z : L2.St → Hp → Prop} (q : to σ H fun o H1 => ti σ H1 fun i H2 => t o i v H2 fun H3 => Z σ H3) : gSub to ti t v σ H Z := q
-- statements
section
variable {t u tbody : TS} {c : TT} {g : TG}
theorem w_seq (q : t ⟨u ⟨nx, rt, bk, ct⟩, rt, bk, ct⟩ σ H) : tSeq t u ⟨nx, rt, bk, ct⟩ σ H := q
theorem w_cut (Mid : L2.St → Hp → Prop) (h1 : t ⟨Mid, rt, bk, ct⟩ σ H) (h2 : ∀ σ' H', Mid σ' H' → u ⟨nx, rt, bk, ct⟩ σ' H') : C8.tCut t u ⟨nx, rt, bk, ct⟩ σ H := ⟨Mid, h1, h2⟩
theorem w_asg (q : te σ H fun x H1 => g x σ H1 nx) : tAsg te g ⟨nx, rt, bk, ct⟩ σ H := q
theorem w_ret (q : te σ H rt) : tRet te ⟨nx, rt, bk, ct⟩ σ H := q
theorem w_retN (q : rt .non H) : tRetN ⟨nx, rt, bk, ct⟩ σ H := q
theorem w_drop (q : te σ H fun _ H1 => nx σ H1) : tDrop te ⟨nx, rt, bk, ct⟩ σ H := q
theorem w_ifS (q : c σ H fun b H1 => if b = true then t ⟨nx, rt, bk, ct⟩ σ H1 else u ⟨nx, rt, bk, ct⟩ σ H1) : tIfS c t u ⟨nx, rt, bk, ct⟩ σ H := q
theorem w_nx (q : nx σ H) : tNext ⟨nx, rt, bk, ct⟩ σ H := q
theorem w_cont (q : ct σ H) : tCont ⟨nx, rt, bk, ct⟩ σ H := q
theorem w_brk (q : bk σ H) : tBreak ⟨nx, rt, bk, ct⟩ σ H := q
theorem w_aug {i : Nat} {ti : TIp} (h : σ[i]? = some (some x)) (q : te σ H fun y H1 => ti x y H1 fun z H2 => nx (σ.set i (some z)) H2) : tAug i te ti ⟨nx, rt, bk, ct⟩ σ H := ⟨x, h, q⟩
theorem w_tgt {n : Nat} {ts : TGs} {Z : L2.St → Hp → Prop} {a : Addr} (xs : List V) (h : SqT K H a xs) (hn : xs.length = n) (q : ts xs σ H Z) : gTup K n ts (.ref a) σ H Z := ⟨a, xs, rfl, h, hn, q⟩
theorem w_gc {ts : TGs} {xs : List V} {Z : L2.St → Hp → Prop} (q : g v σ H fun σ' H' => ts xs σ' H' Z) : gCons g ts (v :: xs) σ H Z := ⟨v, xs, rfl, q⟩
theorem w_gn {Z : L2.St → Hp → Prop} (q : Z σ H) : gNil [] σ H Z := ⟨rfl, q⟩
/-- a while, by what holds and a number that falls -/
theorem w_while (W : Nat → L2.St → Hp → Prop) {m0 : Nat} (h0 : W m0 σ H)
    (hs : ∀ m σ H, W m σ H → c σ H fun b H1 => if b = true then ∃ N : L2.St → Hp → Prop, (∀ σ' H', N σ' H' → ∃ m', m' < m ∧ W m' σ' H') ∧ tbody ⟨N, rt, nx, N⟩ σ H1 else nx σ H1) : tWhile c tbody ⟨nx, rt, bk, ct⟩ σ H := ⟨W, ⟨m0, h0⟩, hs⟩
theorem w_turn {W : Nat → L2.St → Hp → Prop} {m : Nat} (h : tbody ⟨fun σ' H' => ∃ m', m' < m ∧ W m' σ' H', rt, nx, fun σ' H' => ∃ m', m' < m ∧ W m' σ' H'⟩ σ H) :
    ∃ N : L2.St → Hp → Prop, (∀ σ' H', N σ' H' → ∃ m', m' < m ∧ W m' σ' H') ∧ tbody ⟨N, rt, nx, N⟩ σ H := ⟨_, fun _ _ h => h, h⟩
/-- for k in range(n), range(a, b) -/
theorem w_for {wi : TI} (q : wi σ H fun J H1 => ∃ W : Nat → Nat → L2.St → Hp → Prop, (∃ m, W 0 m σ H1) ∧ ∀ i m σ H, W i m σ H →
      (J.stop i H ∧ nx σ H) ∨ (J.go i H ∧ ∃ N : L2.St → Hp → Prop, (∀ σ' H', N σ' H' → ∃ m', m' < m ∧ W (i + 1) m' σ' H') ∧ ∀ x H', J.yld i H x H' → g x σ H' fun σ2 H2 => tbody ⟨N, rt, nx, N⟩ σ2 H2)) : tFor wi g tbody ⟨nx, rt, bk, ct⟩ σ H := q
end
theorem w_rng1 {t : TA} {R : It → Hp → Prop} (q : t σ H fun vs H1 => ∃ j : Int, vs = [.int j] ∧ -(2 ^ 62) ≤ j ∧ j < 2 ^ 62 ∧ R (Itr 0 j.toNat) H1) : iRng1 t σ H R := q
theorem w_rng2 {t : TA} {R : It → Hp → Prop} (q : t σ H fun vs H1 => ∃ i j : Int, vs = [.int i, .int j] ∧ (-(2 ^ 62) ≤ i ∧ i < 2 ^ 62 ∧ -(2 ^ 62) ≤ j ∧ j < 2 ^ 62) ∧ R (Itr i (j - i).toNat) H1) : iRng2 t σ H R := q
theorem w_ilist {R : It → Hp → Prop} (q : te σ H fun x H1 => ∃ a, x = .ref a ∧ (∃ xs, SqL K H1 a xs) ∧ R (Itl K a) H1) : iList K te σ H R := q
theorem w_itup {R : It → Hp → Prop} (q : te σ H fun x H1 => ∃ a, x = .ref a ∧ (∃ xs, SqT K H1 a xs) ∧ R (Itt K a) H1) : iTup K te σ H R := q
theorem w_istr {R : It → Hp → Prop} (q : te σ H fun v H1 => ∃ x, v = .str x ∧ R (Its x) H1) : iStr te σ H R := q
theorem w_lc {wi : TI} {g : TG} {tt : TT} {vs : List Nat} (q : wi σ H fun J H1 => ∀ D, H1 D = none → ∃ W : Nat → Nat → Hp → Prop, (∃ m, W 0 m (upd H1 D (.lst []))) ∧ ∀ i m H, W i m H →
    (J.stop i H ∧ Q (.ref D) H) ∨ (J.go i H ∧ ∃ Nx : Hp → Prop, (∀ H', Nx H' → ∃ m', m' < m ∧ W (i + 1) m' H') ∧ ∀ x H', J.yld i H x H' → g x (wipe σ vs) H' fun σ2 H2 => wipe σ2 vs = wipe σ vs ∧ tt σ2 H2 fun b H3 =>
      if b = true then te σ2 H3 fun y H4 => ∃ acc, H4 D = some (.lst acc) ∧ acc.length < sizeLine ∧ Nx (upd H4 D (.lst (acc ++ [y]))) else Nx H3)) : tLc wi g tt te vs σ H Q := q
/-- a test that is open -/
theorem w_ite {p : Prop} [Decidable p] {A B : Prop} (h1 : p → A) (h2 : ¬ p → B) : if decide p = true then A else B := by
  by_cases h : p
  · rw [if_pos (decide_eq_true h)]
    exact h1 h
  · rw [if_neg (by simpa using h)]
    exact h2 h
theorem w_iteN {p : Prop} [Decidable p] {A B : Prop} (h1 : ¬ p → A) (h2 : p → B) : if (!decide p) = true then A else B := by
  by_cases h : p
  · rw [if_neg (by simpa using h)]
    exact h2 h
  · rw [if_pos (by simpa using h)]
    exact h1 h
theorem w_iteb {b : Bool} {A B : Prop} (h1 : b = true → A) (h2 : b = false → B) : if b = true then A else B := by
  cases b with
  | true => rw [if_pos rfl]; exact h1 rfl
  | false => rw [if_neg Bool.false_ne_true]; exact h2 rfl
theorem w_itebN {b : Bool} {A B : Prop} (h1 : b = false → A) (h2 : b = true → B) : if (!b) = true then A else B := by
  cases b with
  | false => rw [if_pos (by rfl)]; exact h1 rfl
  | true => rw [if_neg (by decide)]; exact h2 rfl
theorem w_iteT {p : Prop} [Decidable p] {A B : Prop} (hp : p) (h1 : A) : if decide p = true then A else B := by
  rw [if_pos (decide_eq_true hp)]
  exact h1
theorem w_iteF {p : Prop} [Decidable p] {A B : Prop} (hp : ¬ p) (h2 : B) : if decide p = true then A else B := by
  rw [if_neg (by simpa using hp)]
  exact h2
theorem w_tt {A B : Prop} (h : A) : if true = true then A else B := by rw [if_pos rfl]; exact h
theorem w_ff {A B : Prop} (h : B) : if false = true then A else B := by rw [if_neg Bool.false_ne_true]; exact h
theorem w_ntt {A B : Prop} (h : B) : if (!true) = true then A else B := by rw [if_neg (by decide)]; exact h
theorem w_nff {A B : Prop} (h : A) : if (!false) = true then A else B := by rw [if_pos (by rfl)]; exact h
/-- subscripts -/
theorem w_ixL {p : Addr} {i : Int} (xs : List V) (v : V) (h : SqL K H p xs) (a : atI xs i = some v) (q : Q v H) : rIxL K (.ref p) (.int i) H Q := ⟨p, xs, i, v, rfl, rfl, h, a, q⟩
theorem w_ixT {p : Addr} {i : Int} (xs : List V) (v : V) (h : SqT K H p xs) (a : atI xs i = some v) (q : Q v H) : rIxT K (.ref p) (.int i) H Q := ⟨p, xs, i, v, rfl, rfl, h, a, q⟩
theorem w_ixS {z : Str} {i : Int} {c : Nat} (h : z.length ≤ sizeLine) (a : atI z.cps.toList i = some c) (q : Q (.str ⟨#[c]⟩) H) : rIxS (.str z) (.int i) H Q := ⟨z, i, c, rfl, rfl, h, a, q⟩
theorem w_setL {p : Addr} {k : Int} {Z : Hp → Prop} (xs : List V) (j : Nat) (h : H p = some (.lst xs)) (a : ixN xs.length k = some j) (q : Z (upd H p (.lst (xs.set j v)))) : rSetL (.ref p) (.int k) v H Z := ⟨p, xs, k, j, rfl, rfl, h, a, q⟩
theorem w_b1 {p : Addr} (a0 a1 a2 a3 a4 : V) {Z : Hp → Prop} (h : H p = some (.lst [a0, a1, a2, a3, a4])) (q : Z (upd H p (.lst [a0, v, a2, a3, a4]))) : rSetL (.ref p) (.int 1) v H Z := ⟨p, _, 1, 1, rfl, rfl, h, rfl, q⟩
theorem w_b2 {p : Addr} (a0 a1 a2 a3 a4 : V) {Z : Hp → Prop} (h : H p = some (.lst [a0, a1, a2, a3, a4])) (q : Z (upd H p (.lst [a0, a1, v, a3, a4]))) : rSetL (.ref p) (.int 2) v H Z := ⟨p, _, 2, 2, rfl, rfl, h, rfl, q⟩
theorem w_b3 {p : Addr} (a0 a1 a2 a3 a4 : V) {Z : Hp → Prop} (h : H p = some (.lst [a0, a1, a2, a3, a4])) (q : Z (upd H p (.lst [a0, a1, a2, v, a4]))) : rSetL (.ref p) (.int 3) v H Z := ⟨p, _, 3, 3, rfl, rfl, h, rfl, q⟩
theorem w_b4 {p : Addr} (a0 a1 a2 a3 a4 : V) {Z : Hp → Prop} (h : H p = some (.lst [a0, a1, a2, a3, a4])) (q : Z (upd H p (.lst [a0, a1, a2, a3, v]))) : rSetL (.ref p) (.int 4) v H Z := ⟨p, _, 4, 4, rfl, rfl, h, rfl, q⟩
theorem w_app {l : Addr} (xs : List V) (h : H l = some (.lst xs)) (hn : xs.length < sizeLine) (q : Q .non (upd H l (.lst (xs ++ [y])))) : rAppend (.ref l) [y] H Q := ⟨l, xs, y, rfl, rfl, h, hn, q⟩
theorem w_tyL {l : Addr} {P : Prop} (xs : List V) (h : SqL K H l xs) (q : P) : tyV K "list" (.ref l) H ∧ P := ⟨.inl ⟨rfl, _, h⟩, q⟩
theorem w_lenQ {p : Addr} (xs : List V) (h : SqL K H p xs) (q : Q (.int xs.length) H) : rLenQ K [.ref p] H Q := ⟨p, xs, rfl, .inl h, q⟩
theorem w_lenQT {p : Addr} (xs : List V) (h : SqT K H p xs) (q : Q (.int xs.length) H) : rLenQ K [.ref p] H Q := ⟨p, xs, rfl, .inr h, q⟩
theorem w_lenS {z : Str} (h : z.length ≤ sizeLine) (q : Q (.int z.length) H) : rLenS [.str z] H Q := ⟨z, rfl, h, q⟩
theorem w_listOf {p : Addr} (xs : List V) (h : SqL K H p xs) (q : ∀ l, H l = none → Q (.ref l) (upd H l (.lst xs))) : rListOf K [.ref p] H Q := ⟨p, xs, rfl, .inl h, q⟩
theorem w_int1 {i : Int} (q : Q (.int i) H) : rInt1 [.int i] H Q := .inl ⟨i, rfl, q⟩
theorem w_int1b {b : Bool} (q : Q (.int (if b then 1 else 0)) H) : rInt1 [.bl b] H Q := .inr ⟨b, rfl, q⟩
theorem w_abs {i : Int} (q : Q (.int (if i < 0 then -i else i)) H) : rAbs [.int i] H Q := ⟨i, rfl, q⟩
theorem w_min2 {i j : Int} (q : Q (.int (if j < i then j else i)) H) : rMin2 [.int i, .int j] H Q := ⟨i, j, rfl, q⟩
theorem w_max2 {i j : Int} (q : Q (.int (if j > i then j else i)) H) : rMax2 [.int i, .int j] H Q := ⟨i, j, rfl, q⟩
theorem w_min3 {i j k : Int} (q : Q (.int (min (min i j) k)) H) : rNuC3 nuMin3 [.int i, .int j, .int k] H Q := by
  refine ⟨.int i, .int j, .int k, .int (min (min i j) k), rfl, ?_, q⟩
  have e1 : nuMin2 (.int i) (.int j) = some (.int (min i j)) := by
    show some (if decide (j < i) = true then V.int j else V.int i) = _
    by_cases h : j < i
    · rw [if_pos (decide_eq_true h)]
      congr 2
      omega
    · rw [if_neg (by simpa using h)]
      congr 2
      omega
  have e2 : nuMin2 (.int (min i j)) (.int k) = some (.int (min (min i j) k)) := by
    show some (if decide (k < min i j) = true then V.int k else V.int (min i j)) = _
    by_cases h : k < min i j
    · rw [if_pos (decide_eq_true h)]
      congr 2
      omega
    · rw [if_neg (by simpa using h)]
      congr 2
      omega
  show (nuMin2 (.int i) (.int j)).bind (fun m => nuMin2 m (.int k)) = _
  rw [e1]
  exact e2
theorem w_slL {p : Addr} {lo hi : Option Int} (xs : List V) (h : SqL K H p xs) (q : ∀ l, H l = none → Q (.ref l) (upd H l (.lst (cutV xs lo hi)))) : rSlL K (.ref p) lo hi H Q := ⟨p, xs, rfl, h, q⟩
theorem w_slS {z : Str} {lo hi : Option Int} (h : z.length ≤ sizeLine) (q : Q (.str (cutS z lo hi)) H) : rSlS (.str z) lo hi H Q := ⟨z, rfl, h, q⟩
end
end R

namespace R
open PySem L2
/-! ### the bag of a law: its cells (never changed), a place, what is left, the stirred number, a count -/
structure Bag (K : PySem.W.Frag) (F H : Hp) (b : Addr) : Prop where
  ex : ∃ (c : Addr) (cells : List Int) (i cur st n : Int), F b = none ∧ H b = some (.lst [.ref c, .int i, .int cur, .int st, .int n]) ∧ SqL K F c (cells.map V.int) ∧ cells.length ≤ 63 ∧
    (∀ x ∈ cells, 0 ≤ x ∧ x < 10 ^ 60) ∧ 0 ≤ i ∧ 0 ≤ cur ∧ cur < 10 ^ 60 ∧ 0 ≤ st ∧ st < 2147483647
theorem Bag.keep {K : PySem.W.Frag} {M : List Addr} {F H F2 H2 : Hp} {b : Addr} (g : Gr M F H F2 H2) (h : Bag K F H b) (hb : b ∉ M) : Bag K F2 H2 b := by
  obtain ⟨c, cells, i, cur, st, n, h1, h2, h3, h4⟩ := h.ex
  exact ⟨c, cells, i, cur, st, n, g.nw b (ne_none h2) h1, g.hh b _ hb h2, sqL_same g.ff h3, h4⟩
theorem Bag.keep0 {K : PySem.W.Frag} {F H F2 H2 : Hp} {b : Addr} (g : Gr [] F H F2 H2) (h : Bag K F H b) : Bag K F2 H2 b := h.keep g (fun z => nomatch z)
theorem Bag.ne_new {K : PySem.W.Frag} {F H : Hp} {b q : Addr} (h : Bag K F H b) (hq : H q = none) : b ≠ q := by
  obtain ⟨c, cells, i, cur, st, n, h1, h2, _⟩ := h.ex
  exact ne_of_none h2 hq
/-- a draw: a number from 0 on below n -/
def φdraw (K : PySem.W.Frag) : V → V → Hp → VK → Prop := fun x y H Q => ∃ (b : Addr) (m : Int) (F : Hp), x = .ref b ∧ y = .int m ∧ Same F H ∧ Bag K F H b ∧ 0 < m ∧ m < 2 ^ 200 ∧
  ∀ (r : Int) (F2 H2 : Hp), Gr [b] F H F2 H2 → Bag K F2 H2 b → 0 ≤ r → r < m → Q (.int r) H2
theorem u_draw {K : PySem.W.Frag} {b : Addr} {m : Int} {F H : Hp} {Q : VK} {E : XK} (w : Same F H) (hb : Bag K F H b) (h0 : 0 < m) (h1 : m < 2 ^ 200) (q : ∀ (r : Int) (F2 H2 : Hp), Gr [b] F H F2 H2 → Bag K F2 H2 b → 0 ≤ r → r < m → Q (.int r) H2) :
    S2 (φdraw K) ([.ref b, .int m] ++ []) H Q E := ⟨b, m, F, rfl, rfl, w, hb, h0, h1, q⟩
def φbag (K : PySem.W.Frag) : V → Hp → VK → Prop := fun x H Q => ∃ (a : Addr) (ns : List Int), x = .ref a ∧ SqL K H a (ns.map V.int) ∧ ns.length ≤ 63 ∧
  ∀ (b : Addr) (F2 H2 : Hp), Gr [] H H F2 H2 → Bag K F2 H2 b → Q (.ref b) H2
theorem bits_le {m : Int} (h0 : 0 < m) (h1 : m < 2 ^ 200) : (Builtin.Int.intBits m : Int) ≤ 200 := by
  have h : m.natAbs < 2 ^ 200 := by omega
  have e := PyProof.Rows.intBits_le h
  omega
theorem mod_nn {a b : Int} (h : 0 < b) : 0 ≤ a % b := Int.emod_nonneg a (by omega)
theorem mod_lt {a b : Int} (h : 0 < b) : a % b < b := Int.emod_lt_of_pos a h
theorem div_nn {a b : Int} (ha : 0 ≤ a) (hb : 0 < b) : 0 ≤ a / b := Int.ediv_nonneg ha (by omega)
theorem div_le' {a b : Int} (ha : 0 ≤ a) (hb : 0 < b) : a / b ≤ a := Int.ediv_le_self b ha
theorem log2_lt {j : Int} (h : j.natAbs < 2 ^ 8999) (h0 : 0 < j) : CDivW 0 j := by
  refine ⟨h0, ?_⟩
  have hp : j.natAbs ≠ 0 := by omega
  have := (Nat.log2_lt hp).mpr h
  omega
theorem divw_ok {i j : Int} (h0 : 0 < j) (h1 : j < 2 ^ 200) : CDivW i j := by
  refine ⟨h0, ?_⟩
  have hp : j.natAbs ≠ 0 := by omega
  have h : j.natAbs < 2 ^ 200 := by omega
  have := (Nat.log2_lt hp).mpr h
  omega
/-! ### loops by what holds at each turn -/
section
variable {K : PySem.W.Frag} {σ : L2.St} {H : Hp} {Q : VK} {nx bk ct : L2.St → Hp → Prop} {rt : VK} {g : TG} {tb : TS}
/-- what tFor asks of a range, by what holds ahead of turn i -/
theorem f_range {lo : Int} {n : Nat} (Pv : Nat → L2.St → Hp → Prop) (h0 : Pv 0 σ H) (hs : ∀ i σ H, i < n → Pv i σ H → g (.int (lo + i)) σ H fun σ2 H2 => tb ⟨Pv (i + 1), rt, nx, Pv (i + 1)⟩ σ2 H2) (hd : ∀ σ H, Pv n σ H → nx σ H) :
    ∃ W : Nat → Nat → L2.St → Hp → Prop, (∃ m, W 0 m σ H) ∧ ∀ i m σ H, W i m σ H →
      ((Itr lo n).stop i H ∧ nx σ H) ∨ ((Itr lo n).go i H ∧ ∃ N : L2.St → Hp → Prop, (∀ σ' H', N σ' H' → ∃ m', m' < m ∧ W (i + 1) m' σ' H') ∧ ∀ x H', (Itr lo n).yld i H x H' → g x σ H' fun σ2 H2 => tb ⟨N, rt, nx, N⟩ σ2 H2) := by
  refine ⟨fun i m σ H => m = n - i ∧ i ≤ n ∧ Pv i σ H, ⟨n, by simp, Nat.zero_le _, h0⟩, ?_⟩
  rintro i m σ H ⟨rfl, hi, p⟩
  by_cases hlt : i < n
  · refine .inr ⟨hlt, Pv (i + 1), fun σ' H' p' => ⟨n - (i + 1), by omega, rfl, hlt, p'⟩, fun x H' y => ?_⟩
    obtain ⟨e, y⟩ := y
    subst e y
    exact hs i σ _ hlt p
  · have e : i = n := by omega
    subst e
    exact .inl ⟨Nat.le_refl _, hd σ H p⟩
theorem f_range0 {n : Nat} (Pv : Nat → L2.St → Hp → Prop) (h0 : Pv 0 σ H) (hs : ∀ i σ H, i < n → Pv i σ H → g (.int (i : Int)) σ H fun σ2 H2 => tb ⟨Pv (i + 1), rt, nx, Pv (i + 1)⟩ σ2 H2) (hd : ∀ σ H, Pv n σ H → nx σ H) :
    ∃ W : Nat → Nat → L2.St → Hp → Prop, (∃ m, W 0 m σ H) ∧ ∀ i m σ H, W i m σ H →
      ((Itr 0 n).stop i H ∧ nx σ H) ∨ ((Itr 0 n).go i H ∧ ∃ N : L2.St → Hp → Prop, (∀ σ' H', N σ' H' → ∃ m', m' < m ∧ W (i + 1) m' σ' H') ∧ ∀ x H', (Itr 0 n).yld i H x H' → g x σ H' fun σ2 H2 => tb ⟨N, rt, nx, N⟩ σ2 H2) :=
  f_range Pv h0 (fun i σ H hi hp => by rw [Int.zero_add]; exact hs i σ H hi hp) hd
theorem f_list {a : Addr} {xs : List V} (Pv : Nat → L2.St → Hp → Prop) (h0 : Pv 0 σ H) (hl : ∀ i σ H, i ≤ xs.length → Pv i σ H → SqL K H a xs)
    (hs : ∀ i x σ H, xs[i]? = some x → Pv i σ H → g x σ H fun σ2 H2 => tb ⟨Pv (i + 1), rt, nx, Pv (i + 1)⟩ σ2 H2) (hd : ∀ σ H, Pv xs.length σ H → nx σ H) :
    ∃ W : Nat → Nat → L2.St → Hp → Prop, (∃ m, W 0 m σ H) ∧ ∀ i m σ H, W i m σ H →
      ((Itl K a).stop i H ∧ nx σ H) ∨ ((Itl K a).go i H ∧ ∃ N : L2.St → Hp → Prop, (∀ σ' H', N σ' H' → ∃ m', m' < m ∧ W (i + 1) m' σ' H') ∧ ∀ x H', (Itl K a).yld i H x H' → g x σ H' fun σ2 H2 => tb ⟨N, rt, nx, N⟩ σ2 H2) := by
  refine ⟨fun i m σ H => m = xs.length - i ∧ i ≤ xs.length ∧ Pv i σ H, ⟨xs.length, by simp, Nat.zero_le _, h0⟩, ?_⟩
  rintro i m σ H ⟨rfl, hi, p⟩
  have q := hl i σ H hi p
  by_cases hlt : i < xs.length
  · refine .inr ⟨⟨xs, xs[i], q, by simp [hlt]⟩, Pv (i + 1), fun σ' H' p' => ⟨xs.length - (i + 1), by omega, rfl, hlt, p'⟩, fun x H' y => ?_⟩
    obtain ⟨e, y⟩ := y
    subst e
    exact hs i x σ _ (y xs q) p
  · have e : i = xs.length := by omega
    subst e
    exact .inl ⟨⟨xs, q, Nat.le_refl _⟩, hd σ H p⟩
variable {tt : TT} {te : TE} {vs : List Nat} {D : Addr} {Qd : Hp → Prop}
theorem lc_rng {n : Nat} (Pv : Nat → Hp → Prop) (h0 : Pv 0 (upd H D (.lst []))) (hs : ∀ i H, i < n → Pv i H → g (.int (i : Int)) (wipe σ vs) H fun σ2 H2 => wipe σ2 vs = wipe σ vs ∧ tt σ2 H2 fun b H3 =>
      if b = true then te σ2 H3 fun y H4 => ∃ acc, H4 D = some (.lst acc) ∧ acc.length < sizeLine ∧ Pv (i + 1) (upd H4 D (.lst (acc ++ [y]))) else Pv (i + 1) H3) (hd : ∀ H, Pv n H → Qd H) :
    ∃ W : Nat → Nat → Hp → Prop, (∃ m, W 0 m (upd H D (.lst []))) ∧ ∀ i m H, W i m H →
      ((Itr 0 n).stop i H ∧ Qd H) ∨ ((Itr 0 n).go i H ∧ ∃ Nx : Hp → Prop, (∀ H', Nx H' → ∃ m', m' < m ∧ W (i + 1) m' H') ∧ ∀ x H', (Itr 0 n).yld i H x H' → g x (wipe σ vs) H' fun σ2 H2 => wipe σ2 vs = wipe σ vs ∧ tt σ2 H2 fun b H3 =>
        if b = true then te σ2 H3 fun y H4 => ∃ acc, H4 D = some (.lst acc) ∧ acc.length < sizeLine ∧ Nx (upd H4 D (.lst (acc ++ [y]))) else Nx H3) :=
  lc_range (lo := 0) Pv h0 (fun i H hi hp => by rw [Int.zero_add]; exact hs i H hi hp) hd
end
end R

namespace R
open PySem L2
theorem Gr.put {M : List Addr} {F0 H0 F H : Hp} {p : Addr} {o : HO} (g : Gr M F0 H0 F H) (h : F p = none) (hm : p ∈ M) : Gr M F0 H0 F (upd H p o) := g.trans (.wr g.fh h hm)
theorem Gr.add {M : List Addr} {F0 H0 F H : Hp} {p : Addr} {o : HO} (g : Gr M F0 H0 F H) (h : H p = none) : Gr M F0 H0 (upd F p o) (upd H p o) := g.trans (.im g.fh h)
theorem Gr.addm {M : List Addr} {F0 H0 F H : Hp} {p : Addr} {o : HO} (g : Gr M F0 H0 F H) (h : H p = none) : Gr M F0 H0 F (upd H p o) := g.trans (.new g.fh h)
theorem Gr.ws {M : List Addr} {F H F2 H2 : Hp} (g : Gr M F H F2 H2) : Same F H2 := g.ff.trans g.fh
theorem Gr.transN {M N : List Addr} {F H F1 H1 F2 H2 : Hp} (a : Gr M F H F1 H1) (b : Gr N F1 H1 F2 H2) (h : ∀ x ∈ N, x ∈ M ∨ H x = none) : Gr M F H F2 H2 :=
  ⟨a.ff.trans b.ff, b.fh, fun x o n e => b.hh x o (fun m => (h x m).elim n fun z => by rw [z] at e; cases e) (a.hh x o n e), fun x e => b.al x (a.al x e), fun x e n => b.nw x (a.al x e) (a.nw x e n)⟩
/-- back to a smaller part that stays -/
theorem Gr.back {M : List Addr} {F F' H F2 H2 : Hp} (g : Gr M F' H F2 H2) (s : Same F F') : Gr M F H F H2 := ⟨Same.refl F, (s.trans g.ff).trans g.fh, g.hh, g.al, fun _ _ n => n⟩
theorem Gr.fresh {M : List Addr} {F0 H0 F H : Hp} {p : Addr} (g : Gr M F0 H0 F H) (h : H p = none) : H0 p = none := by
  cases e : H0 p with
  | none => rfl
  | some o => exact absurd h (g.al p (ne_none e))
/-- an object that was new behind the start, and changes no more -/
theorem Gr.frz {M : List Addr} {F0 H0 F H : Hp} {p : Addr} {o : HO} (g : Gr M F0 H0 F H) (hn : H0 p = none) (m : Mu F H p o) : Gr M F0 H0 (upd F p o) H := by
  refine ⟨g.ff.trans (Same.new m.n), fun a u e => ?_, g.hh, g.al, fun a e n => ?_⟩
  · by_cases q : a = p
    · subst q
      rw [upd_same] at e
      exact m.h.trans e
    · rw [upd_ne q] at e
      exact g.fh a u e
  · have q : a ≠ p := fun z => by subst z; exact e hn
    rw [upd_ne q]
    exact g.nw a e n
theorem Mu.same {F H : Hp} {p : Addr} {o : HO} (m : Mu F H p o) (w : Same F H) : Same (upd F p o) H := fun a u e => by
  by_cases q : a = p
  · subst q
    rw [upd_same] at e
    exact m.h.trans e
  · rw [upd_ne q] at e
    exact w a u e
theorem Mu.frz {F H : Hp} {p q : Addr} {o u : HO} (m : Mu F H p o) (h : p ≠ q) : Mu (upd F q u) H p o := ⟨by rw [upd_ne h]; exact m.n, m.h⟩
theorem Bag.frz {K : PySem.W.Frag} {F H : Hp} {b q : Addr} {u : HO} (h : Bag K F H b) (hn : F q = none) (hq : b ≠ q) : Bag K (upd F q u) H b := by
  obtain ⟨c, cells, i, cur, st, n, h1, h2, h3, h4⟩ := h.ex
  exact ⟨c, cells, i, cur, st, n, by rw [upd_ne hq]; exact h1, h2, sqL_same (Same.new hn) h3, h4⟩
theorem Bag.put {K : PySem.W.Frag} {F H : Hp} {b q : Addr} {u : HO} (h : Bag K F H b) (hq : b ≠ q) : Bag K F (upd H q u) b := by
  obtain ⟨c, cells, i, cur, st, n, h1, h2, h3, h4⟩ := h.ex
  exact ⟨c, cells, i, cur, st, n, h1, by rw [upd_ne hq]; exact h2, h3, h4⟩
theorem Bag.addm {K : PySem.W.Frag} {F H : Hp} {b q : Addr} {u : HO} (h : Bag K F H b) (hq : H q = none) : Bag K F (upd H q u) b := h.put (h.ne_new hq)
theorem Bag.add {K : PySem.W.Frag} {F H : Hp} {b q : Addr} {u : HO} (w : Same F H) (h : Bag K F H b) (hq : H q = none) : Bag K (upd F q u) (upd H q u) b := (h.addm hq).frz (w.free hq) (h.ne_new hq)
theorem Mu.addm {F H : Hp} {p q : Addr} {o u : HO} (m : Mu F H p o) (hq : H q = none) : Mu F (upd H q u) p o := m.oth (m.ne_new hq)
theorem Mu.add {F H : Hp} {p q : Addr} {o u : HO} (m : Mu F H p o) (hq : H q = none) : Mu (upd F q u) (upd H q u) p o := (m.addm hq).frz (m.ne_new hq)
/-- a draw, the whole growth carried -/
theorem d_draw {K : PySem.W.Frag} {M : List Addr} {F0 H0 F H : Hp} {b : Addr} {m : Int} {Q : VK} {E : XK} (g : Gr M F0 H0 F H) (hb : Bag K F H b) (h0 : 0 < m) (h1 : m < 2 ^ 200)
    (q : ∀ (r : Int) (F2 H2 : Hp), Gr M F0 H0 F2 H2 → Gr [b] F H F2 H2 → Bag K F2 H2 b → 0 ≤ r → r < m → Q (.int r) H2) (hm : b ∈ M := by simp) :
    S2 (φdraw K) ([.ref b, .int m] ++ []) H Q E := ⟨b, m, F, rfl, rfl, g.fh, hb, h0, h1, fun r F2 H2 g2 hb2 hr0 hr1 => q r F2 H2 (g.trans (g2.sub fun x hx => by rw [List.mem_singleton.mp hx]; exact hm)) g2 hb2 hr0 hr1⟩
/-! ### data -/
theorem dpa_len {K : PySem.W.Frag} {F : Hp} : ∀ {vs : List V} {ds : List PyData}, DpAll K F vs ds → vs.length = ds.length
  | _, _, .nil => rfl
  | _, _, .cons _ t => congrArg (· + 1) (dpa_len t)
theorem dpa_get {K : PySem.W.Frag} {F : Hp} : ∀ {vs : List V} {ds : List PyData} {i : Nat} {d : PyData}, DpAll K F vs ds → ds[i]? = some d → ∃ v, vs[i]? = some v ∧ Dp K F v d
  | _, _, _, _, .nil, e => by simp at e
  | _, _, 0, _, .cons h _, e => by
    have e' := Option.some.inj e
    subst e'
    exact ⟨_, rfl, h⟩
  | _, _, i + 1, _, .cons _ t, e => dpa_get (i := i) t e
theorem dpa_app {K : PySem.W.Frag} {F : Hp} : ∀ {vs us : List V} {ds es : List PyData}, DpAll K F vs ds → DpAll K F us es → DpAll K F (vs ++ us) (ds ++ es)
  | _, _, _, _, .nil, h => h
  | _, _, _, _, .cons h t, u => .cons h (dpa_app t u)
theorem dpa_snoc {K : PySem.W.Frag} {F : Hp} {vs : List V} {ds : List PyData} {v : V} {d : PyData} (h : DpAll K F vs ds) (hd : Dp K F v d) : DpAll K F (vs ++ [v]) (ds ++ [d]) := dpa_app h (.cons hd .nil)
theorem dpa_mem {K : PySem.W.Frag} {F : Hp} : ∀ {vs : List V} {ds : List PyData} {v : V}, DpAll K F vs ds → v ∈ vs → ∃ d, d ∈ ds ∧ Dp K F v d
  | _, _, _, .nil, e => nomatch e
  | _, _, _, .cons h t, e => by
    rcases List.mem_cons.mp e with e | e
    · subst e
      exact ⟨_, List.mem_cons_self .., h⟩
    · obtain ⟨d, m, hd⟩ := dpa_mem t e
      exact ⟨d, List.mem_cons_of_mem _ m, hd⟩
def tyD : PyData → String
  | .none => "NoneType" | .bool _ => "bool" | .int _ => "int" | .str _ => "str" | .list _ => "list" | .tuple _ => "tuple" | .dict _ => "dict"
theorem tyx_of {K : PySem.W.Frag} {F H : Hp} {x : V} {d : PyData} (h : Dp K F x d) (w : Same F H) : TyX K H x (.type (tyD d)) := by
  cases h with
  | non => exact .base .non
  | bl b => exact .base (.bl b)
  | int i => exact .base (.int i)
  | str s => exact .base (.str s)
  | lst hs _ =>
    rcases hs with (h | ⟨o, h⟩) | ⟨o, its, n, e1, e2, _⟩
    · exact .base (.lst (w _ _ h))
    · exact .base (.frz (w _ _ h))
    · exact .kList e1 e2
  | tup hs _ =>
    rcases hs with (h | ⟨o, h⟩) | ⟨o, its, n, e1, e2, _⟩
    · exact .base (.tup (w _ _ h))
    · exact .fTuple (w _ _ h)
    · exact .kTuple e1 e2
section
variable {K : PySem.W.Frag} {F H : Hp} {x y : V} {d : PyData} {Q : VK} {n m : String} {p : Addr}
theorem u_isi {b : Bool} (h : Dp K F x d) (w : Same F H) (e : kitB (tyD d) n = some b) (q : Q (.bl b) H) : rIsi K [x, .ty n] H Q :=
  ⟨x, .ty n, _, _, b, rfl, .ty n, tyx_of h w, kit_ty e, q⟩
theorem u_isiT {b c : Bool} (h : Dp K F x d) (w : Same F H) (hp : H p = some (.tup [.ty n, .ty m])) (e1 : kitB (tyD d) n = some b) (e2 : kitB (tyD d) m = some c) (q : Q (.bl (b || c)) H) : rIsiT K [x, .ref p] H Q := by
  refine ⟨x, p, _, _, _, b || c, rfl, hp, .cons (.ty n) (.cons (.ty m) .nil), tyx_of h w, ?_, q⟩
  refine kitAny_cons (kit_ty e1) (fun hb => ?_) (fun hb => by rw [hb]; rfl)
  refine kitAny_cons (kit_ty e2) (fun hc => ?_) (fun hc => by rw [hc]; simp)
  rw [hb, hc]
  exact kitAny_nil
end
/-- the answers of isinstance for data -/
def isSeq : PyData → Bool
  | .list _ | .tuple _ => true
  | _ => false
def isLst : PyData → Bool
  | .list _ => true
  | _ => false
def isTup : PyData → Bool
  | .tuple _ => true
  | _ => false
def isBol : PyData → Bool
  | .bool _ => true
  | _ => false
def isInt : PyData → Bool
  | .bool _ | .int _ => true
  | _ => false
def isStr : PyData → Bool
  | .str _ => true
  | _ => false
theorem k_list : ∀ d : PyData, kitB (tyD d) "list" = some (isLst d) := by intro d; cases d <;> simp only [tyD, isLst, isTup, isBol, isInt, isStr] <;> decide +kernel
theorem k_tuple : ∀ d : PyData, kitB (tyD d) "tuple" = some (isTup d) := by intro d; cases d <;> simp only [tyD, isLst, isTup, isBol, isInt, isStr] <;> decide +kernel
theorem k_bool : ∀ d : PyData, kitB (tyD d) "bool" = some (isBol d) := by intro d; cases d <;> simp only [tyD, isLst, isTup, isBol, isInt, isStr] <;> decide +kernel
theorem k_int : ∀ d : PyData, kitB (tyD d) "int" = some (isInt d) := by intro d; cases d <;> simp only [tyD, isLst, isTup, isBol, isInt, isStr] <;> decide +kernel
theorem k_str : ∀ d : PyData, kitB (tyD d) "str" = some (isStr d) := by intro d; cases d <;> simp only [tyD, isLst, isTup, isBol, isInt, isStr] <;> decide +kernel
def itemsD : PyData → List PyData
  | .list ds | .tuple ds => ds
  | _ => []
theorem seq_of {K : PySem.W.Frag} {F : Hp} {x : V} {d : PyData} (h : Dp K F x d) (s : isSeq d = true) : ∃ (a : Addr) (vs : List V), x = .ref a ∧ (SqL K F a vs ∨ SqT K F a vs) ∧ DpAll K F vs (itemsD d) := by
  cases h with
  | lst hs ha => exact ⟨_, _, rfl, .inl hs, ha⟩
  | tup hs ha => exact ⟨_, _, rfl, .inr hs, ha⟩
  | _ => cases s
theorem sca_of {K : PySem.W.Frag} {F : Hp} {x y : V} {d : PyData} (h : Dp K F x d) (h' : Dp K F y d) (s : isSeq d = false) : y = x ∧ scal x x = true := by
  cases h with
  | lst hs ha => cases s
  | tup hs ha => cases s
  | non => cases h'; exact ⟨rfl, rfl⟩
  | bl => cases h'; exact ⟨rfl, rfl⟩
  | int => cases h'; exact ⟨rfl, rfl⟩
  | str => cases h'; exact ⟨rfl, rfl⟩
theorem depth_item : ∀ {d e : PyData} {i : Nat}, isSeq d = true → (itemsD d)[i]? = some e → e.depth < d.depth := by
  have key : ∀ (ds : List PyData) (i : Nat) (e : PyData), ds[i]? = some e → e.depth ≤ PyData.depthAll ds := by
    intro ds
    induction ds with
    | nil => intro i e h; simp at h
    | cons d ds ih =>
      intro i e h
      cases i with
      | zero =>
        have e' := Option.some.inj h
        subst e'
        rw [PyData.depthAll]
        exact Nat.le_max_left _ _
      | succ i =>
        have := ih i e h
        rw [PyData.depthAll]
        exact Nat.le_trans this (Nat.le_max_right _ _)
  intro d e i s h
  cases d with
  | list ds => rw [PyData.depth]; exact Nat.lt_succ_of_le (key ds i e h)
  | tuple ds => rw [PyData.depth]; exact Nat.lt_succ_of_le (key ds i e h)
  | _ => cases s
section
variable {K : PySem.W.Frag} {H : Hp} {Q : VK} {v : V} {A B : Prop}
theorem w_ixQ {a : Addr} {i : Int} (vs : List V) (v : V) (h : SqL K H a vs ∨ SqT K H a vs) (e : atI vs i = some v) (q : Q v H) : rIx K (.ref a) (.int i) H Q := by
  rcases h with h | h
  · exact .inl ⟨a, vs, i, v, rfl, rfl, h, e, q⟩
  · exact .inr (.inl ⟨a, vs, i, v, rfl, rfl, h, e, q⟩)
theorem sq_same {F : Hp} {a : Addr} {vs : List V} (w : Same F H) (h : SqL K F a vs ∨ SqT K F a vs) : SqL K H a vs ∨ SqT K H a vs := h.elim (fun h => .inl (sqL_same w h)) fun h => .inr (sqT_same w h)
theorem w_nself {α : Type} [DecidableEq α] {a : α} (h : B) : if (!decide (a = a)) = true then A else B := by
  rw [if_neg (by simp)]
  exact h
theorem w_self {α : Type} [DecidableEq α] {a : α} (h : A) : if decide (a = a) = true then A else B := by
  rw [if_pos (by simp)]
  exact h
theorem w_is {b c : Bool} (e : b = c) (h : if c = true then A else B) : if b = true then A else B := by rw [e]; exact h
end
theorem le1000 {n : Nat} (h : n ≤ 1000) : n ≤ sizeLine := Nat.le_of_lt (small1000 h)
theorem small_lt {n : Nat} (h : n ≤ 1000000) : n < sizeLine := by rw [sizeLine_eq]; omega
theorem all_rep (n : Nat) : (List.replicate n true).all id = true := by
  induction n with
  | zero => rfl
  | succ n ih => rw [List.replicate_succ, List.all_cons, ih]; rfl
theorem szle {n : Nat} (h : n ≤ 1000000) : n ≤ sizeLine := Nat.le_of_lt (by rw [sizeLine_eq]; omega)
section
variable {K : PySem.W.Frag} {σ : L2.St} {H : Hp} {Q : VK} {ta : TE}
theorem w_lstRg {te : L2.St → Hp → (Int → Int → Hp → Prop) → Prop} (q : te σ H fun a b H1 => RgOk a b ∧ ∀ q, H1 q = none → Q (.ref q) (upd H1 q (.lst (rgV a b)))) : tLstRg te σ H Q := q
theorem w_rg1 {R : Int → Int → Hp → Prop} (q : ta σ H fun x H1 => asInt x H1 fun n H2 => R 0 n H2) : tRg1 ta σ H R := q
theorem w_revL (q : ta σ H fun x H1 => ∃ a xs, x = .ref a ∧ SqL K H1 a xs ∧ ∀ p, H1 p = none → Q (.ref p) (upd H1 p (.lst xs.reverse))) : tRevL K ta σ H Q := q
end
def nV (l : List Nat) : List V := l.map fun k => V.int (k : Nat)
theorem rgV0 (n : Int) : rgV 0 n = nV (List.range n.toNat) := by
  unfold rgV nV
  rw [Int.sub_zero]
  refine List.map_congr_left fun k _ => ?_
  rw [Int.zero_add]
theorem nV_rev (l : List Nat) : (nV l).reverse = nV l.reverse := by
  unfold nV
  rw [List.map_reverse]
theorem nV_get {l : List Nat} {i : Nat} {x : V} (h : (nV l)[i]? = some x) : ∃ k, l[i]? = some k ∧ x = .int (k : Nat) := by
  unfold nV at h
  rw [List.getElem?_map] at h
  cases e : l[i]? with
  | none => rw [e] at h; cases h
  | some k =>
    rw [e] at h
    exact ⟨k, rfl, (Option.some.inj h).symm⟩
theorem pick_ix {ns : List Int} {i lo hi : Int} (h0 : 0 ≤ i) (h1 : i < (ns.length : Int)) (hb : ∀ x ∈ ns, lo ≤ x ∧ x ≤ hi) : ∃ m, atI (ns.map V.int) i = some (.int m) ∧ lo ≤ m ∧ m ≤ hi := by
  have hi : i.toNat < ns.length := by omega
  refine ⟨ns[i.toNat], ?_, hb _ (List.getElem_mem hi)⟩
  refine at_of (j := i.toNat) (by omega) ?_
  rw [List.getElem?_map, List.getElem?_eq_getElem hi]
  rfl
theorem rep_flat {α : Type} (n : Nat) (x : α) : (List.replicate n [x]).flatten = List.replicate n x := by
  induction n with
  | zero => rfl
  | succ n ih => rw [List.replicate_succ, List.flatten_cons, ih]; rfl
theorem cell_at {cells : List Int} {i : Int} (h0 : 0 ≤ i) (h1 : i < ((cells.map V.int).length : Nat)) : ∃ x, x ∈ cells ∧ atI (cells.map V.int) i = some (.int x) := by
  rw [List.length_map] at h1
  have hi : i.toNat < cells.length := by omega
  refine ⟨cells[i.toNat], List.getElem_mem hi, ?_⟩
  refine at_of (j := i.toNat) (by omega) ?_
  rw [List.getElem?_map, List.getElem?_eq_getElem hi]
  rfl
theorem cut63 {ns : List Int} (h : ns.length ≤ 63) : cutV (ns.map V.int) none (some 63) = ns.map V.int := by
  unfold cutV
  rw [HT.sIx_none, show HT.sIx (ns.map V.int).length (ns.map V.int).length (some 63) = min 63 (ns.map V.int).length from HT.sIx_nat _ _ 63, List.drop_zero, List.length_map]
  refine List.take_of_length_le ?_
  rw [List.length_map]
  omega
theorem map_get {ns : List Int} {i : Nat} {x : V} (h : (ns.map V.int)[i]? = some x) : ∃ c, x = .int c := by
  rw [List.getElem?_map] at h
  cases e : ns[i]? with
  | none => rw [e] at h; cases h
  | some c =>
    rw [e] at h
    exact ⟨c, (Option.some.inj h).symm⟩
/-! data of modest size, no dicts, plain signs -/
mutual
def good : PyData → Bool
  | .none | .bool _ | .int _ => true
  | .str x => PyData.strOk x && decide (x.length ≤ 100000)
  | .list ds | .tuple ds => decide (ds.length ≤ 100000) && goodAll ds
  | .dict _ => false
def goodAll : List PyData → Bool
  | [] => true
  | d :: ds => good d && goodAll ds
end
theorem goodAll_iff : ∀ {ds : List PyData}, goodAll ds = true ↔ ∀ d ∈ ds, good d = true
  | [] => by simp [goodAll]
  | d :: ds => by simp [goodAll, goodAll_iff (ds := ds)]
mutual
theorem lay_good : ∀ d : PyData, good d = true → d.canLay0 = true
  | .none, _ => rfl
  | .bool _, _ => rfl
  | .int _, _ => rfl
  | .str x, h => by
    rw [good, Bool.and_eq_true] at h
    exact h.1
  | .list ds, h => by
    rw [good, Bool.and_eq_true] at h
    exact lay_goodAll ds h.2
  | .tuple ds, h => by
    rw [good, Bool.and_eq_true] at h
    exact lay_goodAll ds h.2
  | .dict _, h => by cases h
theorem lay_goodAll : ∀ ds : List PyData, goodAll ds = true → PyData.canLayAll0 ds = true
  | [], _ => rfl
  | d :: ds, h => by
    rw [goodAll, Bool.and_eq_true] at h
    rw [PyData.canLayAll0, lay_good d h.1, lay_goodAll ds h.2]
    rfl
end
theorem good_item {d e : PyData} {i : Nat} (h : good d = true) (he : (itemsD d)[i]? = some e) : good e = true := by
  cases d with
  | list ds =>
    rw [good, Bool.and_eq_true] at h
    exact goodAll_iff.mp h.2 e (List.mem_of_getElem? he)
  | tuple ds =>
    rw [good, Bool.and_eq_true] at h
    exact goodAll_iff.mp h.2 e (List.mem_of_getElem? he)
  | _ => simp [itemsD] at he
theorem good_len {d : PyData} (h : good d = true) : (itemsD d).length ≤ 100000 := by
  cases d with
  | list ds =>
    rw [good, Bool.and_eq_true] at h
    exact of_decide_eq_true h.1
  | tuple ds =>
    rw [good, Bool.and_eq_true] at h
    exact of_decide_eq_true h.1
  | _ => exact Nat.zero_le _
theorem good_shaped {d : PyData} (h : good d = true) (hd : d.depth ≤ 64) : SeqAt.shaped d = true := by
  unfold SeqAt.shaped
  rw [lay_good d h, decide_eq_true hd]
  rfl
theorem good_refl {d : PyData} (h : good d = true) : PyData.eqv d d = true := SeqAt.eqv_refl d (lay_good d h)
theorem good_list {ds : List PyData} (hl : ds.length ≤ 100000) (h : ∀ d ∈ ds, good d = true) : good (.list ds) = true := by
  rw [good, Bool.and_eq_true]
  exact ⟨decide_eq_true hl, goodAll_iff.mpr h⟩
theorem good_tuple {ds : List PyData} (hl : ds.length ≤ 100000) (h : ∀ d ∈ ds, good d = true) : good (.tuple ds) = true := by
  rw [good, Bool.and_eq_true]
  exact ⟨decide_eq_true hl, goodAll_iff.mpr h⟩
theorem depth_list {ds : List PyData} {n : Nat} (h : ∀ d ∈ ds, d.depth ≤ n) : (PyData.list ds).depth ≤ n + 1 := by
  have key : ∀ ds : List PyData, (∀ d ∈ ds, d.depth ≤ n) → PyData.depthAll ds ≤ n := by
    intro ds
    induction ds with
    | nil => intro _; exact Nat.zero_le _
    | cons d ds ih =>
      intro h
      rw [PyData.depthAll]
      exact Nat.max_le.mpr ⟨h d (List.mem_cons_self ..), ih fun e he => h e (List.mem_cons_of_mem _ he)⟩
  rw [PyData.depth]
  exact Nat.succ_le_succ (key ds h)
theorem depth_tuple {ds : List PyData} {n : Nat} (h : ∀ d ∈ ds, d.depth ≤ n) : (PyData.tuple ds).depth ≤ n + 1 := depth_list (ds := ds) h
/-! == and != of equal data -/
section
variable {K : PySem.W.Frag} {F H : Hp} {x y : V} {d : PyData} {Q : VK}
theorem u_eqD (w : Same F H) (hx : Dp K F x d) (hy : Dp K F y d) (hg : good d = true) (hd : d.depth ≤ 64) (q : Q (.bl true) H) : rEqD K x y H Q :=
  ⟨d, d, dp_same w _ _ hx, dp_same w _ _ hy, good_shaped hg hd, good_shaped hg hd, by rw [good_refl hg]; exact q⟩
theorem u_neD (w : Same F H) (hx : Dp K F x d) (hy : Dp K F y d) (hg : good d = true) (hd : d.depth ≤ 64) (q : Q (.bl false) H) : rNeD K x y H Q :=
  ⟨d, d, dp_same w _ _ hx, dp_same w _ _ hy, good_shaped hg hd, good_shaped hg hd, by rw [good_refl hg]; exact q⟩
end
/-- two things of the same data -/
def φalike (K : PySem.W.Frag) (n : Nat) : V → V → Hp → VK → Prop := fun x y H Q => ∃ (F : Hp) (d : PyData), Same F H ∧ Dp K F x d ∧ Dp K F y d ∧ d.depth < n ∧ good d = true ∧
  ∀ F2 H2 : Hp, Gr [] F H F2 H2 → Q (.bl true) H2
theorem alike0 {K : PySem.W.Frag} {vs : List V} {H : Hp} {Q : VK} {E : XK} (h : S2 (φalike K 0) vs H Q E) : False := by
  match vs, h with
  | [_, _], h =>
    obtain ⟨F, d, _, _, _, hn, _⟩ := h
    exact absurd hn (Nat.not_lt_zero _)
end R

namespace R
open PySem L2
/-! ### data taken apart -/
section
variable {K : PySem.W.Frag} {F : Hp} {x v : V}
theorem dp_int {i : Int} (h : Dp K F x (.int i)) : x = .int i := by cases h; rfl
theorem dp_str {s : Str} (h : Dp K F x (.str s)) : x = .str s := by cases h; rfl
theorem dp_non (h : Dp K F x .none) : x = .non := by cases h; rfl
theorem dp_bool {b : Bool} (h : Dp K F x (.bool b)) : x = .bl b := by cases h; rfl
theorem dp_list {ds : List PyData} (h : Dp K F x (.list ds)) : ∃ (a : Addr) (vs : List V), x = .ref a ∧ SqL K F a vs ∧ DpAll K F vs ds := by
  cases h with
  | lst hs ha => exact ⟨_, _, rfl, hs, ha⟩
theorem dp_tup {ds : List PyData} (h : Dp K F x (.tuple ds)) : ∃ (a : Addr) (vs : List V), x = .ref a ∧ SqT K F a vs ∧ DpAll K F vs ds := by
  cases h with
  | tup hs ha => exact ⟨_, _, rfl, hs, ha⟩
theorem dpa_cons {vs : List V} {d : PyData} {ds : List PyData} (h : DpAll K F vs (d :: ds)) : ∃ v us, vs = v :: us ∧ Dp K F v d ∧ DpAll K F us ds := by
  cases h with
  | cons h t => exact ⟨_, _, rfl, h, t⟩
theorem dpa_nil {vs : List V} (h : DpAll K F vs []) : vs = [] := by cases h; rfl
theorem dp_tup3 {d1 d2 d3 : PyData} (h : Dp K F x (.tuple [d1, d2, d3])) : ∃ (a : Addr) (v1 v2 v3 : V), x = .ref a ∧ SqT K F a [v1, v2, v3] ∧ Dp K F v1 d1 ∧ Dp K F v2 d2 ∧ Dp K F v3 d3 := by
  obtain ⟨a, vs, rfl, hs, h0⟩ := dp_tup h
  obtain ⟨v1, us, rfl, h1, h0⟩ := dpa_cons h0
  obtain ⟨v2, us, rfl, h2, h0⟩ := dpa_cons h0
  obtain ⟨v3, us, rfl, h3, h0⟩ := dpa_cons h0
  cases dpa_nil h0
  exact ⟨a, v1, v2, v3, rfl, hs, h1, h2, h3⟩
theorem dp_tup4 {d1 d2 d3 d4 : PyData} (h : Dp K F x (.tuple [d1, d2, d3, d4])) : ∃ (a : Addr) (v1 v2 v3 v4 : V), x = .ref a ∧ SqT K F a [v1, v2, v3, v4] ∧ Dp K F v1 d1 ∧ Dp K F v2 d2 ∧ Dp K F v3 d3 ∧ Dp K F v4 d4 := by
  obtain ⟨a, vs, rfl, hs, h0⟩ := dp_tup h
  obtain ⟨v1, us, rfl, h1, h0⟩ := dpa_cons h0
  obtain ⟨v2, us, rfl, h2, h0⟩ := dpa_cons h0
  obtain ⟨v3, us, rfl, h3, h0⟩ := dpa_cons h0
  obtain ⟨v4, us, rfl, h4, h0⟩ := dpa_cons h0
  cases dpa_nil h0
  exact ⟨a, v1, v2, v3, v4, rfl, hs, h1, h2, h3, h4⟩
end
/-! ### texts -/
/-- a text of plain signs -/
def okS (z : Str) : Prop := PyData.strOk z = true
instance (z : Str) : Decidable (okS z) := inferInstanceAs (Decidable (PyData.strOk z = true))
theorem ok_cat {a b : Str} (h : okS a) (h' : okS b) : okS (a ++ b) := by
  have e : (a ++ b).cps.toList = a.cps.toList ++ b.cps.toList := TL.tl_append a b
  have h1 : a.cps.all (· < 0x110000) = true := h
  have h2 : b.cps.all (· < 0x110000) = true := h'
  show (a ++ b).cps.all (· < 0x110000) = true
  rw [← Array.all_toList] at h1 h2 ⊢
  rw [e, List.all_append, h1, h2]
  rfl
theorem joined (ys : List Str) (h : ∀ y ∈ ys, y.length = 1 ∧ okS y) : (Txt.join ⟨#[]⟩ ys).length = ys.length ∧ okS (Txt.join ⟨#[]⟩ ys) := by
  have e : TL.tl (Txt.join ⟨#[]⟩ ys) = (ys.map TL.tl).flatten := by
    rw [TL.join_eq, TL.tl_join]
    have key : ∀ l : List (List Nat), TL.joinL [] l = l.flatten := by
      intro l
      induction l with
      | nil => rfl
      | cons p r ih =>
        cases r with
        | nil => simp [TL.joinL]
        | cons q r =>
          show p ++ ([] ++ TL.joinL [] (q :: r)) = _
          rw [ih, List.nil_append]
          rfl
    exact key _
  have hl : ∀ z : Str, z.length = (TL.tl z).length := fun z => by simp [TL.tl, Str.length]
  constructor
  · rw [hl, e]
    clear e
    induction ys with
    | nil => rfl
    | cons y r ih =>
      rw [List.map_cons, List.flatten_cons, List.length_append, ih fun z hz => h z (List.mem_cons_of_mem _ hz), ← hl, (h y (List.mem_cons_self ..)).1, List.length_cons]
      omega
  · show (Txt.join ⟨#[]⟩ ys).cps.all (· < 0x110000) = true
    rw [← Array.all_toList]
    show (TL.tl (Txt.join ⟨#[]⟩ ys)).all _ = true
    rw [e, List.all_eq_true]
    intro c hc
    obtain ⟨l, hl1, hc⟩ := List.mem_flatten.mp hc
    obtain ⟨y, hy, rfl⟩ := List.mem_map.mp hl1
    have h2 : y.cps.all (· < 0x110000) = true := (h y hy).2
    rw [← Array.all_toList, List.all_eq_true] at h2
    exact h2 c hc
theorem sum_ones : ∀ (ys : List Str), (∀ y ∈ ys, y.length = 1 ∧ okS y) → (ys.map (·.length)).sum = ys.length
  | [], _ => rfl
  | y :: r, h => by
    rw [List.map_cons, List.sum_cons, sum_ones r fun z hz => h z (List.mem_cons_of_mem _ hz), (h y (List.mem_cons_self ..)).1, List.length_cons]
    omega
theorem at_of' {α : Type} {xs : List α} {z : Int} {j : Nat} {v : α} (e : z = (j : Int)) (h : xs[j]? = some v) : atI xs z = some v := by
  rw [e]
  exact atI_nat h
theorem sign_at {z : Str} {r : Int} (ok : okS z) (h0 : 0 ≤ r) (h1 : r < (z.length : Nat)) : ∃ c : Nat, atI z.cps.toList r = some c ∧ okS ⟨#[c]⟩ := by
  have hi : r.toNat < z.cps.toList.length := by
    have : z.cps.toList.length = z.length := by simp [Str.length]
    omega
  refine ⟨z.cps.toList[r.toNat], at_of' (by omega) (List.getElem?_eq_getElem hi), ?_⟩
  have h2 : z.cps.all (· < 0x110000) = true := ok
  rw [← Array.all_toList, List.all_eq_true] at h2
  have h3 := h2 _ (List.getElem_mem hi)
  show (#[z.cps.toList[r.toNat]] : Array Nat).all (· < 0x110000) = true
  simpa using h3
theorem sign_get {z : Str} {k : Nat} (h1 : k < z.length) : atI z.cps.toList (k : Int) = some (z.cps.toList.getD k 0) := by
  have hi : k < z.cps.toList.length := by
    have : z.cps.toList.length = z.length := by simp [Str.length]
    omega
  refine atI_nat ?_
  rw [List.getD_eq_getElem?_getD, List.getElem?_eq_getElem hi]
  rfl
theorem ok_sign {z : Str} {k : Nat} (ok : okS z) (h1 : k < z.length) : okS ⟨#[z.cps.toList.getD k 0]⟩ := by
  have hi : k < z.cps.toList.length := by
    have : z.cps.toList.length = z.length := by simp [Str.length]
    omega
  have h2 : z.cps.all (· < 0x110000) = true := ok
  rw [← Array.all_toList, List.all_eq_true] at h2
  have h3 := h2 _ (List.getElem_mem hi)
  rw [List.getD_eq_getElem?_getD, List.getElem?_eq_getElem hi]
  show (#[z.cps.toList[k]] : Array Nat).all (· < 0x110000) = true
  simpa using h3
/-! ### rows of a plan -/
inductive Wd where | copy | keep | lay
  deriving DecidableEq
def Wd.s : Wd → Str
  | .copy => "copy" | .keep => "keep" | .lay => "lay"
inductive PRow where
  | put (to : Int) (s : Str)
  | mv (w : Wd) (to at_ n : Int)
def PRow.d : PRow → PyData
  | .put to s => .tuple [.str "put", .int to, .str s]
  | .mv w to a n => .tuple [.str w.s, .int to, .int a, .int n]
def PRow.size : PRow → Nat
  | .put _ s => s.length
  | .mv _ _ _ n => n.toNat
def PRow.ok : PRow → Prop
  | .put _ s => okS s ∧ s.length ≤ 5000
  | .mv _ _ _ n => 0 ≤ n ∧ n ≤ 5000
def wr (a : Str) (i : Int) (b : Str) (x : PyData) : PyData := .tuple [.str a, .int i, .str b, x]
def Wd.cell (w : Wd) : Str := if w = .keep then "slot" else "cell"
def Wd.src (w : Wd) : Str := if w = .lay then "slot" else "cell"
def PRow.steps (w : Wd) (to a n : Int) : List Nat := if w = .copy ∧ a < to then (List.range n.toNat).reverse else List.range n.toNat
def PRow.writes : PRow → List PyData
  | .put to s => (List.range s.length).map fun (k : Nat) => wr "cell" (to + k) "sign" (.str ⟨#[s.cps.toList.getD k 0]⟩)
  | .mv w to a n => (PRow.steps w to a n).map fun (k : Nat) => wr w.cell (to + k) w.src (.int (a + k))
theorem PRow.steps_len (w : Wd) (to a n : Int) : (PRow.steps w to a n).length = n.toNat := by
  unfold PRow.steps
  split
  · rw [List.length_reverse, List.length_range]
  · rw [List.length_range]
theorem PRow.writes_len (r : PRow) : r.writes.length = r.size := by
  cases r with
  | put to s => simp [PRow.writes, PRow.size]
  | mv w to a n => simp [PRow.writes, PRow.size, PRow.steps_len]
section
variable {K : PySem.W.Frag} {F : Hp} {x : V}
theorem dp_put {to : Int} {s : Str} (h : Dp K F x (PRow.put to s).d) : ∃ a, x = .ref a ∧ SqT K F a [.str "put", .int to, .str s] := by
  obtain ⟨a, v1, v2, v3, rfl, hs, h1, h2, h3⟩ := dp_tup3 h
  rw [dp_str h1, dp_int h2, dp_str h3] at hs
  exact ⟨a, rfl, hs⟩
theorem dp_mv {w : Wd} {to a n : Int} (h : Dp K F x (PRow.mv w to a n).d) : ∃ p, x = .ref p ∧ SqT K F p [.str w.s, .int to, .int a, .int n] := by
  obtain ⟨p, v1, v2, v3, v4, rfl, hs, h1, h2, h3, h4⟩ := dp_tup4 h
  rw [dp_str h1, dp_int h2, dp_int h3, dp_int h4] at hs
  exact ⟨p, rfl, hs⟩
end
/-- a new list of these data -/
structure NewL (K : PySem.W.Frag) (H F2 H2 : Hp) (a : Addr) (ds : List PyData) : Prop where
  nw : H a = none
  ex : ∃ vs, Mu F2 H2 a (.lst vs) ∧ DpAll K F2 vs ds
def φrow_writes (K : PySem.W.Frag) : V → Hp → VK → Prop := fun x H Q => ∃ (F : Hp) (r : PRow), Same F H ∧ Dp K F x r.d ∧ r.ok ∧
  ∀ (a : Addr) (F2 H2 : Hp), Gr [] F H F2 H2 → NewL K H F2 H2 a r.writes → Q (.ref a) H2
def φwrites (K : PySem.W.Frag) : V → Hp → VK → Prop := fun x H Q => ∃ (F : Hp) (rs : List PRow), Same F H ∧ Dp K F x (.list (rs.map PRow.d)) ∧ (∀ r ∈ rs, r.ok) ∧ (rs.map PRow.size).sum ≤ 50000 ∧
  ∀ (a : Addr) (F2 H2 : Hp), Gr [] F H F2 H2 → NewL K H F2 H2 a (rs.flatMap PRow.writes) → Q (.ref a) H2
/-! ### the law's makers -/
def φsign (K : PySem.W.Frag) : V → V → Hp → VK → Prop := fun x y H Q => ∃ (b : Addr) (f : Bool) (F : Hp), x = .ref b ∧ y = .bl f ∧ Same F H ∧ Bag K F H b ∧
  ∀ (s : Str) (F2 H2 : Hp), Gr [b] F H F2 H2 → Bag K F2 H2 b → s.length = 1 → okS s → Q (.str s) H2
def φtext (K : PySem.W.Frag) : V → V → V → Hp → VK → Prop := fun x y z H Q => ∃ (b : Addr) (f : Bool) (n : Int) (F : Hp), x = .ref b ∧ y = .bl f ∧ z = .int n ∧ Same F H ∧ Bag K F H b ∧ 0 ≤ n ∧ n ≤ 5000 ∧
  ∀ (s : Str) (F2 H2 : Hp), Gr [b] F H F2 H2 → Bag K F2 H2 b → (s.length : Int) = n → okS s → Q (.str s) H2
theorem w_ixL1 {z : Str} {r : Int} {n : Int} {H : Hp} {Q : VK} (ok : okS z) (hn : (z.length : Int) = n) (hs : z.length ≤ 1000) (r0 : 0 ≤ r) (r1 : r < n) (q : ∀ s : Str, s.length = 1 → okS s → Q (.str s) H) : rIxS (.str z) (.int r) H Q := by
  obtain ⟨c, ec, oc⟩ := sign_at (z := z) ok r0 (by rw [hn]; exact r1)
  exact w_ixS (le1000 hs) ec (q _ rfl oc)
/-- a list of truths of this length, that may change -/
def Hs (F H : Hp) (t : Addr) (n : Nat) : Prop := ∃ bs : List Bool, bs.length = n ∧ Mu F H t (.lst (bs.map V.bl))
theorem Hs.keep {M : List Addr} {F H F2 H2 : Hp} {t : Addr} {n : Nat} (g : Gr M F H F2 H2) (h : Hs F H t n) (ht : t ∉ M) : Hs F2 H2 t n := by
  obtain ⟨bs, l, m⟩ := h
  exact ⟨bs, l, g.mu m ht⟩
theorem Hs.addm {F H : Hp} {t p : Addr} {n : Nat} {u : HO} (h : Hs F H t n) (hp : H p = none) : Hs F (upd H p u) t n := by
  obtain ⟨bs, l, m⟩ := h
  exact ⟨bs, l, m.addm hp⟩
theorem Hs.add {F H : Hp} {t p : Addr} {n : Nat} {u : HO} (h : Hs F H t n) (hp : H p = none) : Hs (upd F p u) (upd H p u) t n := by
  obtain ⟨bs, l, m⟩ := h
  exact ⟨bs, l, m.add hp⟩
theorem Hs.ne_new {F H : Hp} {t q : Addr} {n : Nat} (h : Hs F H t n) (hq : H q = none) : t ≠ q := by
  obtain ⟨_, _, m⟩ := h
  exact m.ne_new hq
theorem Hs.put {F H : Hp} {t q : Addr} {n : Nat} {u : HO} (h : Hs F H t n) (hq : t ≠ q) : Hs F (upd H q u) t n := by
  obtain ⟨bs, l, m⟩ := h
  exact ⟨bs, l, m.oth hq⟩
theorem Hs.set {F H : Hp} {t p : Addr} {n : Nat} {cs : List Bool} (h : Hs F H t n) (hp : t = p → cs.length = n) (m : Mu F H p (.lst (cs.map V.bl))) {j : Nat} : Hs F (upd H p (.lst ((cs.map V.bl).set j (V.bl true)))) t n := by
  by_cases e : t = p
  · subst e
    refine ⟨cs.set j true, by rw [List.length_set]; exact hp rfl, ?_⟩
    rw [List.map_set]
    exact m.wr
  · obtain ⟨bs, l, m'⟩ := h
    exact ⟨bs, l, m'.oth e⟩
theorem ixN_in {n : Nat} {i : Int} (h0 : 0 ≤ i) (h1 : i < (n : Int)) : ixN n i = some i.toNat := by
  unfold ixN
  rw [if_pos h0, if_pos h1]
theorem u_emp {K : PySem.W.Frag} {H : Hp} {a p : Addr} {bs : List Bool} {Q : VK} (ha : SqL K H a (bs.map V.bl)) (hp : SqL K H p []) (hl : bs.length ≤ 1000) (q : Q (.bl (decide (bs.length = 0))) H) : rEqD K (.ref a) (.ref p) H Q := by
  have key : ∀ bs : List Bool, DpAll K H (bs.map V.bl) (bs.map PyData.bool) := by
    intro bs
    induction bs with
    | nil => exact .nil
    | cons b bs ih => exact .cons (.bl b) ih
  refine ⟨.list (bs.map PyData.bool), .list [], .lst ha (key bs), .lst hp .nil, ?_, ?_, ?_⟩
  · refine good_shaped (good_list (by rw [List.length_map]; omega) fun d hd => ?_) (Nat.le_trans (depth_list (n := 0) fun d hd => ?_) (by decide))
    · obtain ⟨b, _, rfl⟩ := List.mem_map.mp hd
      rfl
    · obtain ⟨b, _, rfl⟩ := List.mem_map.mp hd
      exact Nat.le_refl _
  · exact good_shaped rfl (by decide)
  · have e : PyData.eqv (.list (bs.map PyData.bool)) (.list []) = decide (bs.length = 0) := by
      cases bs with
      | nil => rfl
      | cons b bs => rfl
    rw [e]
    exact q
def φany_row (K : PySem.W.Frag) : V → V → V → V → Hp → VK → Prop := fun x y z u H Q => ∃ (b hd t0 t1 : Addr) (n0 n1 : Nat) (f : Bool) (wd : Int) (F : Hp), x = .ref b ∧ y = .ref hd ∧ z = .bl f ∧ u = .int wd ∧ Same F H ∧ Bag K F H b ∧
  SqL K F hd [.ref t0, .ref t1] ∧ Hs F H t0 n0 ∧ Hs F H t1 n1 ∧ t0 ≠ t1 ∧ b ≠ t0 ∧ b ≠ t1 ∧ n0 ≤ 1000 ∧ n1 ≤ 1000 ∧ 0 ≤ wd ∧ wd ≤ 5000 ∧
  ∀ (v : V) (F2 H2 : Hp), Gr [b, t0, t1] F H F2 H2 → Bag K F2 H2 b → Hs F2 H2 t0 n0 → Hs F2 H2 t1 n1 → (v = .non ∨ ∃ r : PRow, Dp K F2 v r.d ∧ r.ok ∧ (r.size : Int) ≤ wd) → Q v H2
def φany_plan (K : PySem.W.Frag) : V → V → V → V → V → V → V → Hp → VK → Prop := fun x1 x2 x3 x4 x5 x6 x7 H Q => ∃ (b : Addr) (n big slots rows most : Int) (f : Bool) (F : Hp), x1 = .ref b ∧ x2 = .int n ∧ x3 = .int big ∧ x4 = .int slots ∧ x5 = .int rows ∧ x6 = .bl f ∧ x7 = .int most ∧ Same F H ∧ Bag K F H b ∧
  0 ≤ n ∧ n ≤ big ∧ big ≤ 400 ∧ 0 ≤ slots ∧ slots ≤ 400 ∧ 0 ≤ rows ∧ rows ≤ 1000 ∧ 0 ≤ most ∧ most ≤ 5000 ∧
  ∀ (a : Addr) (rs : List PRow) (F2 H2 : Hp), Gr [b] F H F2 H2 → Bag K F2 H2 b → NewL K H F2 H2 a (rs.map PRow.d) → (∀ r ∈ rs, r.ok) → (rs.map PRow.size).sum ≤ 6000 → rs.length ≤ 2000 → Q (.ref a) H2
/-- four numbers: n, big, slots, rows -/
def φshape (K : PySem.W.Frag) : V → Hp → VK → Prop := fun x H Q => ∃ (b : Addr) (F : Hp), x = .ref b ∧ Same F H ∧ Bag K F H b ∧
  ∀ (t : Addr) (n big slots rows : Int) (F2 H2 : Hp), Gr [b] F H F2 H2 → Bag K F2 H2 b → F2 t = some (.tup [.int n, .int big, .int slots, .int rows]) → 0 ≤ n → n ≤ big → big ≤ 400 → 0 ≤ slots → slots ≤ 400 → 0 ≤ rows → rows ≤ 1000 → Q (.ref t) H2
theorem size_snoc (rs : List PRow) (r : PRow) : ((rs ++ [r]).map PRow.size).sum = (rs.map PRow.size).sum + r.size := by
  rw [List.map_append, List.sum_append]
  rfl
theorem ok_snoc {rs : List PRow} {r : PRow} (h : ∀ x ∈ rs, x.ok) (hr : r.ok) : ∀ x ∈ rs ++ [r], x.ok := by
  intro x hx
  rcases List.mem_append.mp hx with h1 | h1
  · exact h x h1
  · rw [List.mem_singleton.mp h1]
    exact hr
theorem row_at {K : PySem.W.Frag} {F : Hp} {us : List V} {rs : List PRow} {i : Nat} {x : V} (h : DpAll K F us (rs.map PRow.d)) (hx : us[i]? = some x) : ∃ r, rs[i]? = some r ∧ Dp K F x r.d := by
  have hl := dpa_len h
  have hi := (List.getElem?_eq_some_iff.mp hx).1
  rw [List.length_map] at hl
  have hr : rs[i]? = some rs[i] := List.getElem?_eq_getElem (by omega)
  obtain ⟨v, hv, dv⟩ := dpa_get (i := i) (d := rs[i].d) h (by rw [List.getElem?_map, hr]; rfl)
  rw [hx] at hv
  rw [Option.some.inj hv]
  exact ⟨_, hr, dv⟩
theorem flat_len : ∀ (rs : List PRow) (i : Nat), ((rs.take i).flatMap PRow.writes).length ≤ (rs.map PRow.size).sum
  | [], i => by simp
  | r :: rs, 0 => by simp
  | r :: rs, i + 1 => by
    rw [List.take_succ_cons, List.flatMap_cons, List.length_append, PRow.writes_len, List.map_cons, List.sum_cons]
    exact Nat.add_le_add_left (flat_len rs i) _
theorem flat_take {rs : List PRow} {i : Nat} {r : PRow} (h : rs[i]? = some r) : (rs.take (i + 1)).flatMap PRow.writes = (rs.take i).flatMap PRow.writes ++ r.writes := by
  rw [List.take_add_one, h, List.flatMap_append]
  simp
theorem rev_get {n i : Nat} (h : i < n) : (List.range n).reverse[i]? = some (n - 1 - i) := by
  rw [List.getElem?_reverse (by rw [List.length_range]; exact h), List.length_range, List.getElem?_range (by omega)]
theorem wr_good {a b : Str} {i : Int} {x : PyData} (ha : okS a ∧ a.length ≤ 100) (hb : okS b ∧ b.length ≤ 100) (hx : good x = true) : good (wr a i b x) = true := by
  refine good_tuple (by simp) fun d hd => ?_
  simp only [List.mem_cons, List.not_mem_nil, or_false] at hd
  rcases hd with rfl | rfl | rfl | rfl
  · rw [good, ha.1, decide_eq_true (show a.length ≤ 100000 by omega)]
    rfl
  · rfl
  · rw [good, hb.1, decide_eq_true (show b.length ≤ 100000 by omega)]
    rfl
  · exact hx
theorem wr_depth {a b : Str} {i : Int} {x : PyData} (hx : x.depth = 0) : (wr a i b x).depth ≤ 1 := by
  refine depth_tuple fun d hd => ?_
  simp only [List.mem_cons, List.not_mem_nil, or_false] at hd
  rcases hd with rfl | rfl | rfl | rfl
  · exact Nat.le_refl _
  · exact Nat.le_refl _
  · exact Nat.le_refl _
  · omega
theorem cell_ok : okS "cell" ∧ ("cell" : Str).length ≤ 100 := by decide +kernel
theorem slot_ok : okS "slot" ∧ ("slot" : Str).length ≤ 100 := by decide +kernel
theorem sign_ok : okS "sign" ∧ ("sign" : Str).length ≤ 100 := by decide +kernel
theorem str_good {z : Str} (h : okS z) (hl : z.length ≤ 100000) : good (.str z) = true := by
  rw [good, h, decide_eq_true hl]
  rfl
theorem writes_good {r : PRow} (h : r.ok) : ∀ d ∈ r.writes, good d = true ∧ d.depth ≤ 1 := by
  intro d hd
  cases r with
  | put to s =>
    obtain ⟨k, hk, rfl⟩ := List.mem_map.mp hd
    have hk2 := List.mem_range.mp hk
    exact ⟨wr_good cell_ok sign_ok (str_good (ok_sign h.1 hk2) (by show 1 ≤ 100000; decide)), wr_depth rfl⟩
  | mv w to a n =>
    obtain ⟨k, hk, rfl⟩ := List.mem_map.mp hd
    refine ⟨wr_good ?_ ?_ rfl, wr_depth rfl⟩
    · cases w <;> first | exact cell_ok | exact slot_ok
    · cases w <;> first | exact cell_ok | exact slot_ok
theorem row_good {r : PRow} (h : r.ok) : good r.d = true ∧ r.d.depth ≤ 1 := by
  cases r with
  | put to s =>
    constructor
    · refine good_tuple (by simp) fun d hd => ?_
      simp only [List.mem_cons, List.not_mem_nil, or_false] at hd
      rcases hd with rfl | rfl | rfl
      · decide +kernel
      · rfl
      · exact str_good h.1 (Nat.le_trans h.2 (by decide))
    · refine depth_tuple fun d hd => ?_
      simp only [List.mem_cons, List.not_mem_nil, or_false] at hd
      rcases hd with rfl | rfl | rfl <;> exact Nat.le_refl _
  | mv w to a n =>
    constructor
    · refine good_tuple (by simp) fun d hd => ?_
      simp only [List.mem_cons, List.not_mem_nil, or_false] at hd
      rcases hd with rfl | rfl | rfl | rfl
      · cases w <;> decide +kernel
      · rfl
      · rfl
      · rfl
    · refine depth_tuple fun d hd => ?_
      simp only [List.mem_cons, List.not_mem_nil, or_false] at hd
      rcases hd with rfl | rfl | rfl | rfl <;> exact Nat.le_refl _
theorem all_good {rs : List PRow} (h : ∀ r ∈ rs, r.ok) (hl : rs.length ≤ 100000) : good (.list (rs.map PRow.d)) = true ∧ (PyData.list (rs.map PRow.d)).depth ≤ 2 := by
  constructor
  · refine good_list (by rw [List.length_map]; exact hl) fun d hd => ?_
    obtain ⟨r, hr, rfl⟩ := List.mem_map.mp hd
    exact (row_good (h r hr)).1
  · refine depth_list fun d hd => ?_
    obtain ⟨r, hr, rfl⟩ := List.mem_map.mp hd
    exact (row_good (h r hr)).2
theorem all_wgood {rs : List PRow} (h : ∀ r ∈ rs, r.ok) (hl : (rs.map PRow.size).sum ≤ 100000) : good (.list (rs.flatMap PRow.writes)) = true ∧ (PyData.list (rs.flatMap PRow.writes)).depth ≤ 2 := by
  constructor
  · refine good_list ?_ fun d hd => ?_
    · have := flat_len rs rs.length
      rw [List.take_length] at this
      omega
    · obtain ⟨r, hr, hd⟩ := List.mem_flatMap.mp hd
      exact (writes_good (h r hr) d hd).1
  · refine depth_list fun d hd => ?_
    obtain ⟨r, hr, hd⟩ := List.mem_flatMap.mp hd
    exact (writes_good (h r hr) d hd).2
def φlaw (K : PySem.W.Frag) : V → Hp → VK → Prop := fun x H Q => ∃ (a : Addr) (ns : List Int), x = .ref a ∧ SqL K H a (ns.map V.int) ∧ ns.length ≤ 63 ∧ ∀ H', Q (.bl true) H'
theorem law_start {K : PySem.W.Frag} {H : Hp} (a : Addr) (ns : List Int) (hl : ns.length ≤ 63) (hO : Only H) (hS : SqL K H a (ns.map V.int)) : (S1 (φlaw K)) [.ref a] H (fun v _ => v = .bl true) fun _ _ _ => False := ⟨a, ns, rfl, hS, hl, fun _ => rfl⟩
end R

namespace R
open PySem PySem.Spec PyProof.Rows L2
section
variable {X : Cx} {pins : List (Addr × Obj)} {σ : L2.St} {H : Hp} {s : Shared} {a b : Addr} {A : Around} {E : Value → Shared → Prop}
theorem d_setdT {kvs : List (List Key × V)} {k : List Key} {d : V} {r : Value} {Q : Value → Shared → Prop} (hu : A.units + 1 < cLine) (I : Inv X pins σ H s) (e : H a = some (.dT kvs)) (eb : H b = some (.tup (k.map kV))) (rd : RelV d r) (hl : kvs.length < sizeLine)
    (h1 : ∀ v, valV kvs k = some v → ∀ w' s', Inv X pins σ H s' → RelV v w' → Q w' s') (h2 : valV kvs k = none → ∀ w' s', Inv X pins σ (upd H a (.dT (putK kvs k d))) s' → RelV d w' → Q w' s') :
    wpAny (model X.prog X.w) A (call (.builtin "dict.setdefault") [.ref a, .ref b, r]) Q E s := by
  obtain ⟨z, hd, xs, rel, dd⟩ := dt_of I.hok e
  have hz : xs.length ≤ sizeLine := by rw [← Paired.length rel]; exact z
  have hl2 : (putK kvs k d).length ≤ sizeLine := by have := length_putK kvs k d; omega
  refine PySem.call_setdefault_heap (hsz := hz) (tupleKind_room_in1 hu) (key_of I.hok eb) hd dd (fun p hp => ?_) fun hn h' dd' hs => ?_
  · have q := rel.val k
    rw [hp] at q
    cases q0 : valV kvs k with
    | none =>
      rw [q0] at q
      exact (show False from q).elim
    | some v0 =>
      rw [q0] at q
      exact h1 v0 q0 _ _ (I.tok _) q
  · have q := rel.val k
    rw [hn] at q
    cases q0 : valV kvs k with
    | some v0 =>
      rw [q0] at q
      exact (show False from q).elim
    | none =>
      obtain ⟨q1, es, ep, hq, h2', h3, h4, h5', h5⟩ := dd'
      refine h2 q0 _ _ (d_write I (by rw [e]; exact True.intro) hs ⟨q1, hq⟩ ⟨hl2, hd, _, (rel.put k eb rd).keeps fun c ys ec => ?_, q1, es, ep, hq, h2', h3, h4, h5⟩) rd
      rw [upd_ne (ne_of ec e (fun z => nomatch z))]
      exact ec
end
/-- d.setdefault(t, z), t a tuple -/
def tDSetT (td ty tx : TE) : TE := fun σ H Q => td σ H fun x H1 => ∃ a, x = .ref a ∧ IsD H1 a ∧ ty σ H1 fun y H2 => tx σ H2 fun z H3 => ∃ (b : Addr) (kvs : List (List Key × V)) (k : List Key), H3 a = some (.dT kvs) ∧ y = .ref b ∧ H3 b = some (.tup (k.map kV)) ∧ kvs.length < sizeLine ∧
  (∀ v, valV kvs k = some v → Q v H3) ∧ (valV kvs k = none → Q z (upd H3 a (.dT (putK kvs k z))))
section
variable {X : Cx} {o e f : Expr} {td ty tx : TE} {apos cpos : Pos}
theorem pe_dsetT (hu : X.A.units + 1 < cLine) (ho : PE X o td) (he : PE X e ty) (hf : PE X f tx) (m : M2 X o "setdefault" apos e f cpos) : PE X (.Call (.Attribute o "setdefault" apos) [e, f] [] cpos) (tDSetT td ty tx) := by
  refine ⟨fun pins s σ H Q I h => ?_⟩
  refine wpAny_Call_method m.base m.few m.line PySem.F.plainAttrs_dict PySem.F.slot_dict_setdefault PySem.F.type_dict_setdefault (thn (ho.run pins s σ H _ I h) fun u s1 ⟨x, H1, I1, rx, a, ex, d, q1⟩ => ?_)
  subst ex
  obtain rfl : u = Value.ref a := rx
  obtain ⟨t1, t2, _⟩ := isD_at I1 d
  refine ⟨t1, t2, ?_⟩
  rw [m.trees]
  refine Calls.callWith_builtin rfl (Calls.evalArgs_plain (Calls.spliced_cons (thn (he.run pins s1 σ H1 _ I1 q1) fun iv s2 ⟨y, H2, I2, ry, q2⟩ =>
    Calls.spliced_cons (thn (hf.run pins s2 σ H2 _ I2 q2) fun fv s3 ⟨z, H3, I3, rz, b, kvs, k, ea, ey, eb, hl, q3, q4⟩ => Calls.spliced_nil ?_))))
  subst ey
  obtain rfl : iv = Value.ref b := ry
  exact d_setdT hu I3 ea eb rz hl (fun v hv w' s4 I4 rw' => ⟨v, _, I4, rw', q3 v hv⟩) fun hn w' s4 I4 rw' => ⟨z, _, I4, rw', q4 hn⟩
end
section
variable {X : Cx}
/-- sorted(d) of a dict of int keys, any number of them -/
def rSortD : List V → Hp → VK → Prop := fun xs H Q => ∃ (a : Addr) (kvs : List (Key × V)) (ks : List Int), xs = [.ref a] ∧ Rd H a (.dK kvs) ∧ kvs.map (·.1) = ks.map Sum.inl ∧
    ∀ (ys : List Int) (p : Addr), ys.Perm ks → ys.Pairwise (· ≤ ·) → H p = none → Q (.ref p) (upd H p (.lst (ys.map V.int)))
theorem clSortD (hcalm : X.calm = true := by rfl) : CallR X (.builtin "sorted") rSortD := by
  intro pins s σ H xs us Q I r q
  obtain ⟨a, kvs, ks, ex, hd, hks, q⟩ := q
  subst ex
  obtain ⟨u, eu, rx⟩ := vals1 r
  subst eu
  cases rx
  obtain ⟨z, lo, vs, rel, dd⟩ := dk_rd I.hok hd
  obtain ⟨ep, hat⟩ := dd.dictAt
  have hkeys : vs.map (·.1) = ks.map Sum.inl := rel.keys.symm.trans hks
  have hl : vs.length = ks.length := by
    have e := congrArg List.length hkeys
    rw [List.length_map, List.length_map] at e
    exact e
  have h16 : vs.length ≤ sizeLine := by rw [← rel.length]; exact z
  refine Calls.call_function_entry PyProof.Rows.kind_sorted PyProof.Rows.plain_sorted PyProof.Rows.entry_sorted (PyProof.Rows.args_sorted1 _) ?_
  unfold Builtin.«sorted»
  refine wpAny_bind (m := checkCount "sorted" 1 1 _) (wpAny_pure ?_)
  refine wpAny_bind (PySem.W.kdu_collect (A := X.A.in1) (PySem.W.kdl_dict (knd := mixKind X.prog X.w) (kvs := vs) (ep := ep) lo) (I.ok.hd hcalm) hat h16 fun h' tk acc hk hacc => ?_)
  have hal : acc.toList.length = ks.length := by rw [Array.length_toList, hacc.1, hl]
  have hS : IntsAre acc.toList ks := ints_each hal fun j v e => by
    obtain ⟨k, x, e1, e2⟩ := hacc.2 j v (by rw [← Array.getElem?_toList]; exact e)
    have e3 : (vs.map (·.1))[j]? = some k := by rw [List.getElem?_map, e1]; rfl
    rw [hkeys, List.getElem?_map] at e3
    cases e4 : ks[j]? with
    | none => rw [e4] at e3; cases e3
    | some y =>
      rw [e4] at e3
      have e5 : Sum.inl y = k := Option.some.inj e3
      subst e5
      rcases keyIs_shape (show keyIs (Sum.inl y) v = true from e2) with ⟨i, t, ek, ev⟩ | ⟨z, t, ek, ev⟩
      · cases ek
        exact ⟨y, t, rfl, ev⟩
      · cases ek
  have I1 : Inv X pins σ H { s with heap := h', toks := tk } := I.kept hk
  have hz2 : acc.toList.length ≤ sizeLine := by rw [hal, ← hl]; exact h16
  refine wpAny_bind (wpAny_newList ?_ hz2)
  have hoL : (h'.push (seqObj "list" acc.toList.toArray 0)).get? h'.objs.size = some (seqObj "list" acc.toList.toArray 0) := Heap.get?_push_size _ rfl
  show wpAny _ _ _ _ _ { s with heap := h'.push (seqObj "list" acc.toList.toArray 0), toks := tk }
  refine wpAny_bind (wpAny_holding (wpAny_call_entry PyProof.Rows.slot_list_sort ⟨_, hoL, rfl⟩ PyProof.Rows.entry_list_sort
    (SrtO.list_sort_ord (s := { s with heap := h'.push (seqObj "list" acc.toList.toArray 0), toks := tk }) SrtO.swo_int hoL hz2 (fun h2 => SrtO.ints_sortable hS h2) fun out h1 h2 => ⟨_, rfl, ?_⟩) (PyProof.Rows.args_list_sort _)))
  obtain ⟨k1, k2, k3⟩ := SrtO.ints_out hS h1 h2
  obtain ⟨e', he'⟩ := PyProof.Rows.sortedHeap_at (vs := acc.toList) (out := out.toArray) hoL
  have hlen : ((out.map SrtO.iv).map V.int).length ≤ sizeLine := by
    rw [List.length_map, k2.length_eq, ← hl]
    exact h16
  refine wpAny_pure ⟨_, rfl, .ref h'.objs.size, upd H h'.objs.size (.lst ((out.map SrtO.iv).map V.int)), I1.laid (t' := tk) (fun b u e => ?_) (Nat.le_refl _)
    (show ObjOk X.prog X.w _ _ _ (.lst ((out.map SrtO.iv).map V.int)) from ⟨hlen, out, e', vals_of_ints k1, he'⟩), rfl, q _ _ k2 k3 (I1.hok.fresh (Nat.le_refl _))⟩
  have hb : b < h'.objs.size := Heap.lt_size e
  rw [PyProof.Rows.sortedHeap_old (Nat.ne_of_lt hb) (by rw [size_push']; exact Nat.lt_succ_of_lt hb)]
  exact Heap.get?_push_of_some _ e
end
end R

namespace R
open PySem L2
/-! ### dicts in a reading -/
def gDGet (x y : V) (H : Hp) (Q : VK) : Prop := ∃ a v, x = .ref a ∧ DGet H a y (some v) ∧ Q v H
def gDIn (x y : V) (H : Hp) (Q : VK) : Prop := ∃ a o, x = .ref a ∧ DGet H a y o ∧ Q (.bl o.isSome) H
def gDNotIn (x y : V) (H : Hp) (Q : VK) : Prop := ∃ a o, x = .ref a ∧ DGet H a y o ∧ Q (.bl (!o.isSome)) H
def gDPut (x y v : V) (H : Hp) (Z : Hp → Prop) : Prop := ∃ a H4, x = .ref a ∧ DPut H a y v H4 ∧ Z H4
section
variable {K : PySem.W.Frag} {σ : L2.St} {H : Hp} {Q : VK} {td ty tv tx te : TE} {x y v : V} {nx bk ct : L2.St → Hp → Prop} {rt : VK} {D p : Addr} {kvs : List (List Key × V)} {ks : List Key}
theorem w_dnewT (q : ∀ p, H p = none → Q (.ref p) (upd H p (.dT []))) : tDNewT σ H Q := q
theorem w_dnewK (q : ∀ p, H p = none → Q (.ref p) (upd H p (.dK []))) : tDNewK σ H Q := q
theorem w_dget (q : td σ H fun x H1 => ty σ H1 fun y H2 => gDGet x y H2 Q) : tDGet td ty σ H Q := q
theorem w_din (q : ty σ H fun y H1 => td σ H1 fun x H2 => gDIn x y H2 Q) : tDIn ty td σ H Q := q
theorem w_dnotin (q : ty σ H fun y H1 => td σ H1 fun x H2 => gDNotIn x y H2 Q) : tDNotIn ty td σ H Q := q
theorem w_dput (q : tv σ H fun v H1 => td σ H1 fun x H2 => ty σ H2 fun y H3 => gDPut x y v H3 fun H4 => nx σ H4) : sDPut td ty tv ⟨nx, rt, bk, ct⟩ σ H := q
theorem w_dsetT (q : td σ H fun x H1 => ∃ a, x = .ref a ∧ IsD H1 a ∧ ty σ H1 fun y H2 => tx σ H2 fun z H3 => ∃ (b : Addr) (kvs : List (List Key × V)) (k : List Key), H3 a = some (.dT kvs) ∧ y = .ref b ∧ H3 b = some (.tup (k.map kV)) ∧ kvs.length < sizeLine ∧
  (∀ v, valV kvs k = some v → Q v H3) ∧ (valV kvs k = none → Q z (upd H3 a (.dT (putK kvs k z))))) : tDSetT td ty tx σ H Q := q
theorem w_dgetT (h : H D = some (.dT kvs)) (hp : H p = some (.tup (ks.map kV))) (e : valV kvs ks = some v) (q : Q v H) : gDGet (.ref D) (.ref p) H Q := ⟨D, v, rfl, e ▸ DGet.t h hp, q⟩
theorem w_dinT (h : H D = some (.dT kvs)) (hp : H p = some (.tup (ks.map kV))) (e : valV kvs ks = some v) (q : Q (.bl true) H) : gDIn (.ref D) (.ref p) H Q := ⟨D, some v, rfl, e ▸ DGet.t h hp, q⟩
theorem w_dinF (h : H D = some (.dT kvs)) (hp : H p = some (.tup (ks.map kV))) (e : valV kvs ks = none) (q : Q (.bl false) H) : gDIn (.ref D) (.ref p) H Q := ⟨D, none, rfl, e ▸ DGet.t h hp, q⟩
theorem w_dnotinT (h : H D = some (.dT kvs)) (hp : H p = some (.tup (ks.map kV))) (e : valV kvs ks = some v) (q : Q (.bl false) H) : gDNotIn (.ref D) (.ref p) H Q := ⟨D, some v, rfl, e ▸ DGet.t h hp, q⟩
theorem w_dnotinF (h : H D = some (.dT kvs)) (hp : H p = some (.tup (ks.map kV))) (e : valV kvs ks = none) (q : Q (.bl true) H) : gDNotIn (.ref D) (.ref p) H Q := ⟨D, none, rfl, e ▸ DGet.t h hp, q⟩
theorem w_dputT {Z : Hp → Prop} (h : H D = some (.dT kvs)) (hp : H p = some (.tup (ks.map kV))) (hl : kvs.length < sizeLine) (q : Z (upd H D (.dT (putK kvs ks v)))) : gDPut (.ref D) (.ref p) v H Z := ⟨D, _, rfl, DPut.t h hp hl, q⟩
theorem w_dputI {Z : Hp → Prop} {kvs : List (Key × V)} {i : Int} (h : H D = some (.dK kvs)) (hl : kvs.length < sizeLine) (q : Z (upd H D (.dK (putK kvs (.inl i) v)))) : gDPut (.ref D) (.int i) v H Z := ⟨D, _, rfl, DPut.k (k := .inl i) h hl, q⟩
end
section
variable {X : Cx} {K : PySem.W.Frag}
theorem clSortI (h : X.K = K := by rfl) : CallR X (.builtin "sorted") (rSortedI K) := by subst h; exact cr_sortedI
end
theorem w_rg2 {σ : L2.St} {H : Hp} {ta tb : TE} {R : Int → Int → Hp → Prop} (q : ta σ H fun x H1 => tb σ H1 fun y H2 => ∃ i j, x = .int i ∧ y = .int j ∧ R i j H2) : tRg2 ta tb σ H R := q
/-! ### writes as acts -/
structure WAct where
  w : Str
  n : Int
  s : Str
  x : Key
def keyD : Key → PyData
  | .inl i => .int i
  | .inr z => .str z
def WAct.d (t : WAct) : PyData := .tuple [.str t.w, .int t.n, .str t.s, keyD t.x]
def WAct.wk (t : WAct) : List Key := [.inr t.w, .inl t.n]
def WAct.rk (t : WAct) : List Key := [.inr t.s, t.x]
def keyOk : Key → Prop
  | .inl _ => True
  | .inr z => okS z ∧ z.length ≤ 100
def WAct.ok (t : WAct) : Prop := (okS t.w ∧ t.w.length ≤ 100) ∧ (okS t.s ∧ t.s.length ≤ 100) ∧ keyOk t.x
theorem dp_key {K : PySem.W.Frag} {F : Hp} {x : V} {k : Key} (h : Dp K F x (keyD k)) : x = kV k := by
  cases k with
  | inl i => exact dp_int h
  | inr z => exact dp_str h
theorem key_dp {K : PySem.W.Frag} {F : Hp} (k : Key) : Dp K F (kV k) (keyD k) := by
  cases k with
  | inl i => exact .int i
  | inr z => exact .str z
theorem dp_act {K : PySem.W.Frag} {F : Hp} {x : V} {t : WAct} (h : Dp K F x t.d) : ∃ p, x = .ref p ∧ SqT K F p [.str t.w, .int t.n, .str t.s, kV t.x] := by
  obtain ⟨p, v1, v2, v3, v4, rfl, hs, h1, h2, h3, h4⟩ := dp_tup4 h
  rw [dp_str h1, dp_int h2, dp_str h3, dp_key h4] at hs
  exact ⟨p, rfl, hs⟩
theorem act_good {t : WAct} (h : t.ok) : good t.d = true ∧ t.d.depth ≤ 1 := by
  obtain ⟨⟨h1, h2⟩, ⟨h3, h4⟩, h5⟩ := h
  constructor
  · refine good_tuple (by simp) fun d hd => ?_
    simp only [List.mem_cons, List.not_mem_nil, or_false] at hd
    rcases hd with rfl | rfl | rfl | rfl
    · exact str_good h1 (by omega)
    · rfl
    · exact str_good h3 (by omega)
    · revert h5
      cases t.x with
      | inl i => intro _; rfl
      | inr z => intro h5; exact str_good h5.1 (Nat.le_trans h5.2 (by decide))
  · refine depth_tuple fun d hd => ?_
    simp only [List.mem_cons, List.not_mem_nil, or_false] at hd
    rcases hd with rfl | rfl | rfl | rfl
    · exact Nat.le_refl _
    · exact Nat.le_refl _
    · exact Nat.le_refl _
    · cases t.x <;> exact Nat.le_refl _
theorem acts_good {ts : List WAct} (h : ∀ t ∈ ts, t.ok) (hl : ts.length ≤ 100000) : good (.list (ts.map WAct.d)) = true ∧ (PyData.list (ts.map WAct.d)).depth ≤ 2 := by
  constructor
  · refine good_list (by rw [List.length_map]; exact hl) fun d hd => ?_
    obtain ⟨r, hr, rfl⟩ := List.mem_map.mp hd
    exact (act_good (h r hr)).1
  · refine depth_list fun d hd => ?_
    obtain ⟨r, hr, rfl⟩ := List.mem_map.mp hd
    exact (act_good (h r hr)).2
def natsD (ms : List Nat) : PyData := .list (ms.map fun k => .int (k : Nat))
theorem dpa_nV {K : PySem.W.Frag} {F : Hp} : ∀ ms : List Nat, DpAll K F (nV ms) (ms.map fun k => PyData.int (k : Nat))
  | [] => .nil
  | m :: ms => .cons (.int _) (dpa_nV ms)
theorem nats_good {ms : List Nat} (hl : ms.length ≤ 100000) : good (natsD ms) = true ∧ (natsD ms).depth ≤ 1 := by
  constructor
  · refine good_list (by rw [List.length_map]; exact hl) fun d hd => ?_
    obtain ⟨r, hr, rfl⟩ := List.mem_map.mp hd
    rfl
  · refine depth_list fun d hd => ?_
    obtain ⟨r, hr, rfl⟩ := List.mem_map.mp hd
    exact Nat.le_refl _
/-! ### the fault of a row of acts -/
def getN (kvs : List (List Key × Nat)) (k : List Key) : Option Nat := (kvs.find? fun kv => decide (kv.1 = k)).map (·.2)
def toV (kvs : List (List Key × Nat)) : List (List Key × V) := kvs.map fun p => (p.1, V.int (p.2 : Nat))
theorem valV_toV (k : List Key) : ∀ kvs : List (List Key × Nat), valV (toV kvs) k = (getN kvs k).map fun n => V.int (n : Nat)
  | [] => rfl
  | p :: r => by
    have ih := valV_toV k r
    by_cases e : p.1 = k
    · rw [show toV (p :: r) = (p.1, V.int (p.2 : Nat)) :: toV r from rfl, valV_pos (p := (p.1, V.int (p.2 : Nat))) e]
      simp [getN, List.find?_cons, e]
    · rw [show toV (p :: r) = (p.1, V.int (p.2 : Nat)) :: toV r from rfl, valV_neg (p := (p.1, V.int (p.2 : Nat))) e, ih]
      simp [getN, List.find?_cons, e]
theorem valV_some {kvs : List (List Key × Nat)} {k : List Key} {n : Nat} (e : getN kvs k = some n) : valV (toV kvs) k = some (.int (n : Nat)) := by rw [valV_toV, e]; rfl
theorem valV_none {kvs : List (List Key × Nat)} {k : List Key} (e : getN kvs k = none) : valV (toV kvs) k = none := by rw [valV_toV, e]; rfl
theorem put_toV {kvs : List (List Key × Nat)} {k : List Key} {j : Nat} (e : getN kvs k = none) : putK (toV kvs) k (.int (j : Nat)) = toV (kvs ++ [(k, j)]) := by
  rw [putK_new _ (valV_none e)]
  simp [toV]
theorem getN_mem {kvs : List (List Key × Nat)} {k : List Key} {n : Nat} (e : getN kvs k = some n) : ∃ p ∈ kvs, p.2 = n := by
  unfold getN at e
  cases h : kvs.find? fun kv => decide (kv.1 = k) with
  | none => rw [h] at e; cases e
  | some p =>
    rw [h] at e
    exact ⟨p, List.mem_of_find?_eq_some h, Option.some.inj e⟩
def stepN (kvs : List (List Key × Nat)) (t : WAct) (j : Nat) : List (List Key × Nat) := if t.s = "sign" then kvs else
  match getN kvs t.rk with
  | some _ => kvs
  | none => kvs ++ [(t.rk, j)]
theorem step_sign {kvs : List (List Key × Nat)} {t : WAct} {j : Nat} (h : t.s = "sign") : stepN kvs t j = kvs := by unfold stepN; rw [if_pos h]
theorem step_old {kvs : List (List Key × Nat)} {t : WAct} {j n : Nat} (h : ¬ t.s = "sign") (e : getN kvs t.rk = some n) : stepN kvs t j = kvs := by unfold stepN; rw [if_neg h, e]
theorem step_new {kvs : List (List Key × Nat)} {t : WAct} {j : Nat} (h : ¬ t.s = "sign") (e : getN kvs t.rk = none) : stepN kvs t j = kvs ++ [(t.rk, j)] := by unfold stepN; rw [if_neg h, e]
theorem step_mem {kvs : List (List Key × Nat)} {t : WAct} {j : Nat} {p : List Key × Nat} (h : p ∈ stepN kvs t j) : p ∈ kvs ∨ p.2 = j := by
  unfold stepN at h
  split at h
  · exact .inl h
  · split at h
    · exact .inl h
    · rcases List.mem_append.mp h with h | h
      · exact .inl h
      · rw [List.mem_singleton.mp h]
        exact .inr rfl
def faultGo : List WAct → List (List Key × Nat) → Nat → Option (Nat × Nat)
  | [], _, _ => none
  | t :: ts, kvs, j => match getN kvs t.wk with
    | some i => some (i, j)
    | none => faultGo ts (stepN kvs t j) (j + 1)
theorem go_hit {t : WAct} {ts : List WAct} {kvs : List (List Key × Nat)} {j i : Nat} (e : getN kvs t.wk = some i) : faultGo (t :: ts) kvs j = some (i, j) := by rw [faultGo, e]
theorem go_miss {t : WAct} {ts : List WAct} {kvs : List (List Key × Nat)} {j : Nat} (e : getN kvs t.wk = none) : faultGo (t :: ts) kvs j = faultGo ts (stepN kvs t j) (j + 1) := by rw [faultGo, e]
def stretch (acts : List WAct) (first last : Nat) : List WAct := (acts.drop first).take (last - first)
def faultFrom (acts : List WAct) (first last : Nat) : Option (Nat × Nat) := faultGo (stretch acts first last) [] first
def firstFault (acts : List WAct) : Nat → List Nat → Option (Nat × Nat)
  | _, [] => none
  | first, l :: ls => match faultFrom acts first l with
    | some p => some p
    | none => firstFault acts l ls
theorem first_hit {acts : List WAct} {first l : Nat} {ls : List Nat} {p : Nat × Nat} (e : faultFrom acts first l = some p) : firstFault acts first (l :: ls) = some p := by rw [firstFault, e]
theorem first_miss {acts : List WAct} {first l : Nat} {ls : List Nat} (e : faultFrom acts first l = none) : firstFault acts first (l :: ls) = firstFault acts l ls := by rw [firstFault, e]
theorem stretch_len (acts : List WAct) (first last : Nat) (hl : last ≤ acts.length) : (stretch acts first last).length = last - first := by
  unfold stretch
  rw [List.length_take, List.length_drop]
  omega
theorem stretch_at {acts : List WAct} {first last i : Nat} (h : i < last - first) (hl : last ≤ acts.length) : ∃ t, acts[first + i]? = some t ∧ (stretch acts first last).drop i = t :: (stretch acts first last).drop (i + 1) := by
  have h1 : i < (stretch acts first last).length := by rw [stretch_len _ _ _ hl]; exact h
  refine ⟨(stretch acts first last)[i], ?_, List.drop_eq_getElem_cons h1⟩
  have e : (stretch acts first last)[i]? = acts[first + i]? := by
    unfold stretch
    rw [List.getElem?_take_of_lt h, List.getElem?_drop]
  rw [← e]
  exact List.getElem?_eq_getElem h1
theorem go_range : ∀ (ts : List WAct) (kvs : List (List Key × Nat)) (j lo i b : Nat), lo ≤ j → (∀ p ∈ kvs, lo ≤ p.2 ∧ p.2 < j) → faultGo ts kvs j = some (i, b) → lo ≤ i ∧ i < b ∧ b < j + ts.length
  | [], _, _, _, _, _, _, _, e => by rw [faultGo] at e; cases e
  | t :: ts, kvs, j, lo, i, b, hlo, hk, e => by
    cases h : getN kvs t.wk with
    | some n =>
      rw [go_hit h] at e
      have e' := Option.some.inj e
      cases e'
      obtain ⟨p, hp, rfl⟩ := getN_mem h
      have := hk p hp
      rw [List.length_cons]
      exact ⟨this.1, this.2, by omega⟩
    | none =>
      rw [go_miss h] at e
      have := go_range ts (stepN kvs t j) (j + 1) lo i b (by omega) (fun p hp => by
        rcases step_mem hp with hp | hp
        · have := hk p hp
          omega
        · omega) e
      rw [List.length_cons]
      omega
theorem from_range {acts : List WAct} {first last i b : Nat} (hl : last ≤ acts.length) (e : faultFrom acts first last = some (i, b)) : first ≤ i ∧ i < b ∧ b < last := by
  have := go_range (stretch acts first last) [] first first i b (Nat.le_refl _) (fun p hp => by cases hp) e
  rw [stretch_len _ _ _ hl] at this
  omega
/-- a fault as a value -/
def ResV (F : Hp) (v : V) : Option (Nat × Nat) → Prop
  | none => v = .non
  | some (i, j) => ∃ p, v = .ref p ∧ F p = some (.tup [.int (i : Nat), .int (j : Nat)])
theorem ResV.same {F F2 : Hp} {v : V} {o : Option (Nat × Nat)} (h : ResV F v o) (w : Same F F2) : ResV F2 v o := by
  cases o with
  | none => exact h
  | some p =>
    obtain ⟨a, e1, e2⟩ := h
    exact ⟨a, e1, w _ _ e2⟩
def φfault (K : PySem.W.Frag) : V → V → V → Hp → VK → Prop := fun x y z H Q => ∃ (F : Hp) (acts : List WAct) (first last : Nat), y = .int (first : Nat) ∧ z = .int (last : Nat) ∧ Same F H ∧ Dp K F x (.list (acts.map WAct.d)) ∧ first ≤ acts.length ∧ last ≤ acts.length ∧ acts.length ≤ 100000 ∧
  ∀ (v : V) (F2 H2 : Hp), Gr [] F H F2 H2 → ResV F2 v (faultFrom acts first last) → Q v H2
def φmark (K : PySem.W.Frag) : V → V → Hp → VK → Prop := fun x y H Q => ∃ (F : Hp) (acts : List WAct) (m : Addr) (ms : List Nat), y = .ref m ∧ Same F H ∧ Dp K F x (.list (acts.map WAct.d)) ∧ F m = some (.lst (nV ms)) ∧ (∀ k ∈ ms, k ≤ acts.length) ∧ acts.length ≤ 100000 ∧ ms.length ≤ 100000 ∧
  ∀ (v : V) (F2 H2 : Hp), Gr [] F H F2 H2 → ResV F2 v (firstFault acts 0 (ms ++ [acts.length])) → Q v H2
theorem act_at {K : PySem.W.Frag} {F : Hp} {us : List V} {acts : List WAct} {i : Nat} {t : WAct} (h : DpAll K F us (acts.map WAct.d)) (e : acts[i]? = some t) : ∃ p, us[i]? = some (.ref p) ∧ SqT K F p [.str t.w, .int t.n, .str t.s, kV t.x] := by
  obtain ⟨v, gv, dv⟩ := dpa_get (i := i) (d := t.d) h (by rw [List.getElem?_map, e]; rfl)
  obtain ⟨p, rfl, hp⟩ := dp_act dv
  exact ⟨p, gv, hp⟩
/-! ### the law's makers -/
def φnumber (K : PySem.W.Frag) : V → V → V → Hp → VK → Prop := fun x y z H Q => ∃ (b : Addr) (base wide : Int) (F : Hp), x = .ref b ∧ y = .int base ∧ z = .int wide ∧ Same F H ∧ Bag K F H b ∧ 0 < wide ∧ wide < 2 ^ 200 ∧
  ∀ (r : Int) (F2 H2 : Hp), Gr [b] F H F2 H2 → Bag K F2 H2 b → Q (.int r) H2
def φany_writes (K : PySem.W.Frag) : V → V → Hp → VK → Prop := fun x y H Q => ∃ (b : Addr) (many : Int) (F : Hp), x = .ref b ∧ y = .int many ∧ Same F H ∧ Bag K F H b ∧ 0 ≤ many ∧ many ≤ 3000 ∧
  ∀ (a : Addr) (acts : List WAct) (F2 H2 : Hp), Gr [b] F H F2 H2 → Bag K F2 H2 b → Dp K F2 (.ref a) (.list (acts.map WAct.d)) → (∀ t ∈ acts, t.ok) → acts.length ≤ 3000 → Q (.ref a) H2
/-- marks that stay -/
structure Mks (F : Hp) (p : Addr) (n : Nat) (ms : List Nat) : Prop where
  at_ : F p = some (.lst (nV ms))
  ok : ∀ k ∈ ms, 1 ≤ k ∧ k < n
  len : ms.length ≤ 20000
theorem Mks.same {F F2 : Hp} {p : Addr} {n : Nat} {ms : List Nat} (h : Mks F p n ms) (w : Same F F2) : Mks F2 p n ms := ⟨w _ _ h.at_, h.ok, h.len⟩
def φgood_marks (K : PySem.W.Frag) : V → V → V → Hp → VK → Prop := fun x y z H Q => ∃ (b : Addr) (often : Int) (acts : List WAct) (F : Hp), x = .ref b ∧ z = .int often ∧ Same F H ∧ Bag K F H b ∧ Dp K F y (.list (acts.map WAct.d)) ∧ acts.length ≤ 3000 ∧ 0 < often ∧ often < 2 ^ 200 ∧
  ∀ (p : Addr) (ms : List Nat) (F2 H2 : Hp), Gr [b] F H F2 H2 → Bag K F2 H2 b → Mks F2 p acts.length ms → Q (.ref p) H2
def φany_marks (K : PySem.W.Frag) : V → V → Hp → VK → Prop := fun x y H Q => ∃ (b : Addr) (acts : List WAct) (F : Hp), x = .ref b ∧ Same F H ∧ Bag K F H b ∧ Dp K F y (.list (acts.map WAct.d)) ∧ acts.length ≤ 3000 ∧
  ∀ (p : Addr) (ms : List Nat) (F2 H2 : Hp), Gr [b] F H F2 H2 → Bag K F2 H2 b → Mks F2 p acts.length ms → Q (.ref p) H2
theorem ints_nat {n : Nat} : ∀ {ys : List Int}, (∀ k ∈ ys, 1 ≤ k ∧ k < (n : Int)) → ∃ ms : List Nat, ys.map V.int = nV ms ∧ (∀ k ∈ ms, 1 ≤ k ∧ k < n) ∧ ms.length = ys.length
  | [], _ => ⟨[], rfl, by simp, rfl⟩
  | y :: ys, h => by
    obtain ⟨ms, e, h1, h2⟩ := ints_nat (ys := ys) fun k hk => h k (List.mem_cons_of_mem _ hk)
    have hy := h y (List.mem_cons_self ..)
    refine ⟨y.toNat :: ms, ?_, fun k hk => ?_, by rw [List.length_cons, List.length_cons, h2]⟩
    · show V.int y :: ys.map V.int = V.int (y.toNat : Nat) :: nV ms
      rw [e, Int.toNat_of_nonneg (by omega)]
    · rcases List.mem_cons.mp hk with rfl | hk
      · omega
      · exact h1 k hk
theorem put_ints {kvs : List (Key × V)} {ks : List Int} (h : kvs.map (·.1) = ks.map Sum.inl) (i : Int) (v : V) : ∃ ks' : List Int, (putK kvs (.inl i) v).map (·.1) = ks'.map Sum.inl ∧ ∀ k ∈ ks', k ∈ ks ∨ k = i := by
  cases e : valV kvs (.inl i) with
  | none =>
    rw [putK_new v e]
    refine ⟨ks ++ [i], by rw [List.map_append, List.map_append, h]; rfl, fun k hk => ?_⟩
    rcases List.mem_append.mp hk with hk | hk
    · exact .inl hk
    · exact .inr (List.mem_singleton.mp hk)
  | some u =>
    refine ⟨ks, ?_, fun k hk => .inl hk⟩
    rw [← h]
    unfold putK
    rw [valV_any, e]
    show (kvs.map fun kv => if kv.1 = (.inl i : Key) then (kv.1, v) else kv).map (·.1) = _
    rw [List.map_map]
    refine List.map_congr_left fun kv _ => ?_
    show (if kv.1 = (.inl i : Key) then (kv.1, v) else kv).1 = kv.1
    split <;> rfl
theorem cut_take (l : List Nat) (i : Nat) : cutV (nV l) none (some (i : Int)) = nV (l.take i) := by
  unfold cutV
  rw [HT.sIx_none, HT.sIx_nat, List.drop_zero, Nat.sub_zero]
  unfold nV
  rw [List.map_take, List.length_map]
  by_cases h : i ≤ l.length
  · rw [Nat.min_eq_left h]
  · rw [Nat.min_eq_right (by omega), List.take_of_length_le (by rw [List.length_map]; exact Nat.le_refl _), List.take_of_length_le (by rw [List.length_map]; omega)]
theorem cut_drop (l : List Nat) (i : Nat) : cutV (nV l) (some (i : Int)) none = nV (l.drop i) := by
  unfold cutV
  rw [HT.sIx_none, HT.sIx_nat]
  unfold nV
  rw [List.map_drop, List.length_map]
  by_cases h : i ≤ l.length
  · rw [Nat.min_eq_left h]
    refine List.take_of_length_le ?_
    rw [List.length_drop, List.length_map]
    exact Nat.le_refl _
  · rw [Nat.min_eq_right (by omega), Nat.sub_self, List.take_zero, List.drop_eq_nil_of_le (by rw [List.length_map]; omega)]
theorem pick_int {ns : List Int} {i : Int} (h0 : 0 ≤ i) (h1 : i < (ns.length : Int)) : ∃ m, atI (ns.map V.int) i = some (.int m) := by
  have hi : i.toNat < ns.length := by omega
  refine ⟨ns[i.toNat], at_of (j := i.toNat) (by omega) ?_⟩
  rw [List.getElem?_map, List.getElem?_eq_getElem hi]
  rfl
theorem pick_str {zs : List Str} {i : Int} (h0 : 0 ≤ i) (h1 : i < (zs.length : Int)) : ∃ z ∈ zs, atI (zs.map V.str) i = some (.str z) := by
  have hi : i.toNat < zs.length := by omega
  refine ⟨zs[i.toNat], List.getElem_mem hi, at_of (j := i.toNat) (by omega) ?_⟩
  rw [List.getElem?_map, List.getElem?_eq_getElem hi]
  rfl
theorem nV_flat (l : List Nat) : (nV l).all flatV = true := by
  induction l with
  | nil => rfl
  | cons m l ih => exact ih
theorem u_empN {K : PySem.W.Frag} {H : Hp} {a p : Addr} {ms : List Nat} {Q : VK} (ha : SqL K H a (nV ms)) (hp : SqL K H p []) (hl : ms.length ≤ 100000) (q : Q (.bl (decide (ms.length = 0))) H) : rEqD K (.ref a) (.ref p) H Q := by
  have g := nats_good hl
  refine ⟨natsD ms, .list [], .lst ha (dpa_nV ms), .lst hp .nil, good_shaped g.1 (Nat.le_trans g.2 (by decide)), good_shaped rfl (by decide), ?_⟩
  have e : PyData.eqv (natsD ms) (.list []) = decide (ms.length = 0) := by
    cases ms with
    | nil => rfl
    | cons b bs => rfl
  rw [e]
  exact q
theorem w_inN {K : PySem.W.Frag} {H : Hp} {p : Addr} {ms : List Nat} {x : Int} {Q : VK} (h : SqL K H p (nV ms)) (q : ∀ c, Q (.bl c) H) : rIn K false (.int x) (.ref p) H Q := ⟨p, _, rfl, .inl h, rfl, nV_flat ms, q _⟩
/-- a list of lists of marks -/
def PL (F : Hp) (n : Nat) (v : V) : Prop := ∃ p ms, v = .ref p ∧ Mks F p n ms
theorem PL.same {F F2 : Hp} {n : Nat} {v : V} (h : PL F n v) (w : Same F F2) : PL F2 n v := by
  obtain ⟨p, ms, e, m⟩ := h
  exact ⟨p, ms, e, m.same w⟩
end R

namespace Z
open PySem PySem.Spec PyProof.Rows L2 R

local macro_rules | `(tactic| walk_at "sq") => `(tactic| first
  | assumption
  | exact sqL_of upd_same
  | exact sqL_of (by assumption)
  | exact sqL_same (by assumption) (by assumption)
  | exact Mu.sq (by assumption)
  | exact sqL_same (Gr.ws (by assumption)) (by assumption)
  | exact sqL_same (Gr.fh (by assumption)) (by assumption))
local macro_rules | `(tactic| walk_at "st") => `(tactic| first
  | assumption
  | exact sqT_of upd_same
  | exact sqT_of (by assumption)
  | exact sqT_same (by assumption) (by assumption)
  | exact sqT_same (Gr.ws (by assumption)) (by assumption)
  | exact sqT_same (Gr.fh (by assumption)) (by assumption))
local macro_rules | `(tactic| walk_at "wp") => `(tactic| dsimp only [wipe, List.map, List.set_cons_succ, List.set_cons_zero])
local macro_rules | `(tactic| walk_at "go1") => `(tactic| first
  | with_reducible refine w_seq ?_
  | with_reducible refine w_asg ?_
  | with_reducible refine w_v0 ?_ | with_reducible refine w_v1 ?_ | with_reducible refine w_v2 ?_ | with_reducible refine w_v3 ?_
  | with_reducible refine w_v4 ?_ | with_reducible refine w_v5 ?_ | with_reducible refine w_v6 ?_ | with_reducible refine w_v7 ?_
  | with_reducible refine w_v8 ?_ | with_reducible refine w_v9 ?_ | with_reducible refine w_v10 ?_ | with_reducible refine w_v11 ?_
  | with_reducible refine w_v12 ?_ | with_reducible refine w_v13 ?_
  | with_reducible refine w_n0 ?_ | with_reducible refine w_n1 ?_ | with_reducible refine w_n2 ?_ | with_reducible refine w_n3 ?_
  | with_reducible refine w_n4 ?_ | with_reducible refine w_n5 ?_ | with_reducible refine w_n6 ?_ | with_reducible refine w_n7 ?_
  | with_reducible refine w_n8 ?_ | with_reducible refine w_n9 ?_ | with_reducible refine w_n10 ?_ | with_reducible refine w_n11 ?_
  | with_reducible refine w_n12 ?_ | with_reducible refine w_n13 ?_
  | with_reducible refine w_c ?_ | with_reducible refine w_op ?_ | with_reducible refine w_un ?_
  | with_reducible refine w_add ?_ | with_reducible refine w_subt ?_
  | with_reducible refine w_lt ?_ | with_reducible refine w_le ?_ | with_reducible refine w_gt ?_ | with_reducible refine w_ge ?_
  | ((with_reducible refine w_mul ?c ?_); (case c => first | exact .inl ⟨by omega, by omega⟩ | exact .inr ⟨by omega, by omega⟩))
  | ((with_reducible refine w_mod ?c ?_); (case c => first | omega | decide))
  | ((with_reducible refine w_fdiv ?c ?_); (case c => exact divw_ok (by omega) (by omega)))
  | ((with_reducible refine w_pow ?c ?_); (case c => exact ⟨by omega, by omega, by omega⟩))
  | with_reducible refine w_neg ?_ | with_reducible refine w_bits ?_
  | with_reducible refine w_eqI ?_ | with_reducible refine w_neI ?_ | with_reducible refine w_eqS ?_ | with_reducible refine w_neS ?_
  | with_reducible refine w_eqB ?_ | with_reducible refine w_neB ?_ | with_reducible refine w_isN ?_ | with_reducible refine w_notN ?_
  | with_reducible refine w_test ?_ | with_reducible refine w_tB ?_ | with_reducible refine w_asBl ?_
  | with_reducible refine w_and ?_ | with_reducible refine w_or ?_ | with_reducible refine w_not ?_ | with_reducible refine w_if ?_
  | with_reducible refine w_truth ?_ | with_reducible refine w_yes ?_
  | with_reducible refine w_andV ?_ | with_reducible refine w_orV ?_ | with_reducible refine w_notV ?_
  | with_reducible refine w_nil ?_ | with_reducible refine w_cons ?_ | with_reducible refine w_call ?_ | with_reducible refine w_callN ?_
  | with_reducible refine w_CB ?_ | with_reducible refine w_tup ?_ | with_reducible refine w_lst ?_ | with_reducible refine w_sl ?_
  | with_reducible refine w_nop ?_ | with_reducible refine w_part ?_ | with_reducible refine w_asInt ?_
  | with_reducible refine w_BM0 ?_ | with_reducible refine w_BM ?_ | with_reducible refine w_M0 ?_ | with_reducible refine w_M1 ?_
  | with_reducible refine w_asStr ?_ | with_reducible refine w_sub ?_
  | with_reducible refine w_ret ?_ | with_reducible refine w_retN ?_ | with_reducible refine w_drop ?_ | with_reducible refine w_ifS ?_
  | with_reducible refine w_nx ?_ | with_reducible refine w_cont ?_ | with_reducible refine w_brk ?_
  | with_reducible refine w_for ?_ | with_reducible refine w_rng1 ?_ | with_reducible refine w_rng2 ?_ | with_reducible refine w_ilist ?_ | with_reducible refine w_itup ?_ | with_reducible refine w_istr ?_
  | with_reducible refine w_lc ?_
  | with_reducible refine w_dnewT ?_ | with_reducible refine w_dnewK ?_ | with_reducible refine w_dget ?_ | with_reducible refine w_din ?_
  | with_reducible refine w_dnotin ?_ | with_reducible refine w_dput ?_ | with_reducible refine w_dsetT ?_ | with_reducible refine w_rg2 ?_
  | with_reducible refine w_tt ?_ | with_reducible refine w_ff ?_ | with_reducible refine w_ntt ?_ | with_reducible refine w_nff ?_
  | with_reducible refine w_int1 ?_ | with_reducible refine w_int1b ?_ | with_reducible refine w_abs ?_
  | with_reducible refine w_min2 ?_ | with_reducible refine w_max2 ?_ | with_reducible refine w_min3 ?_
  | ((with_reducible apply w_ixL _ _ ?c ?d); (case c => walk_at "sq"); (case d => rfl))
  | ((with_reducible apply w_b1 _ _ _ _ _ ?c); (case c => first | exact upd_same | assumption))
  | ((with_reducible apply w_b2 _ _ _ _ _ ?c); (case c => first | exact upd_same | assumption))
  | ((with_reducible apply w_b3 _ _ _ _ _ ?c); (case c => first | exact upd_same | assumption))
  | ((with_reducible apply w_b4 _ _ _ _ _ ?c); (case c => first | exact upd_same | assumption))
  | ((with_reducible apply w_setL _ _ ?c ?d); (case c => first | exact upd_same | assumption); (case d => rfl))
  | ((with_reducible apply w_lenQ _ ?c); (case c => walk_at "sq"))
  | ((with_reducible apply w_ixT _ _ ?c ?d); (case c => walk_at "st"); (case d => rfl))
  | ((with_reducible apply w_lenS ?c); (case c => first | assumption | exact szle (by omega)))
  | ((with_reducible apply w_tgt _ ?c ?d); (case c => walk_at "st"); (case d => rfl)) | with_reducible refine w_gc ?_ | with_reducible refine w_gn ?_
  | with_reducible refine w_self ?_ | with_reducible refine w_nself ?_
  | ((with_reducible refine w_iteF ?c ?_); (case c => decide +kernel))
  | ((with_reducible refine w_iteT ?c ?_); (case c => decide +kernel))
  | with_reducible refine w_lstRg ?_ | with_reducible refine w_rg1 ?_ | with_reducible refine w_revL ?_
  | ((with_reducible apply w_app _ ?c ?d); (case c => first | exact upd_same | assumption | exact Mu.h (by assumption)); (case d => first | exact small_lt (by omega) | assumption))
  | ((with_reducible apply w_tyL _ ?c); (case c => walk_at "sq"))
  | ((with_reducible apply w_slL _ ?c); (case c => walk_at "sq"))
  | ((with_reducible apply w_listOf _ ?c); (case c => walk_at "sq")))
local macro_rules | `(tactic| walk_at "go") => `(tactic| repeat walk_at "go1")

def topS (i : Nat) : Stmt := PySem.Challenge.pw_remadehere_k53_marks_judged.main.body.getD i (.Pass ⟨0, 0, 0, 0⟩)
abbrev s_stretch_fault : Stmt := topS 1
theorem sc_stretch_fault : FnScope ["some", "first", "last", "seen", "j", "where", "number", "source", "what"] ["some", "first", "last"] (defScope s_stretch_fault) := ⟨rfl, rfl, rfl, by decide +kernel, rfl, by decide +kernel, by decide +kernel⟩
abbrev s_mark_fault : Stmt := topS 2
theorem sc_mark_fault : FnScope ["some", "marks", "first", "last", "fault"] ["some", "marks"] (defScope s_mark_fault) := ⟨rfl, rfl, rfl, by decide +kernel, rfl, by decide +kernel, by decide +kernel⟩
abbrev s_law_bag : Stmt := topS 4
theorem sc_law_bag : FnScope ["script", "stir", "cell"] ["script"] (defScope s_law_bag) := ⟨rfl, rfl, rfl, by decide +kernel, rfl, by decide +kernel, by decide +kernel⟩
abbrev s_law_stirred : Stmt := topS 5
theorem sc_law_stirred : FnScope ["bag", "many", "got", "k"] ["bag", "many"] (defScope s_law_stirred) := ⟨rfl, rfl, rfl, by decide +kernel, rfl, by decide +kernel, by decide +kernel⟩
abbrev s_law_draw : Stmt := topS 6
theorem sc_law_draw : FnScope ["bag", "many", "got"] ["bag", "many"] (defScope s_law_draw) := ⟨rfl, rfl, rfl, by decide +kernel, rfl, by decide +kernel, by decide +kernel⟩
abbrev s_law_sign : Stmt := topS 7
theorem sc_law_sign : FnScope ["bag", "few", "acts"] ["bag", "few"] (defScope s_law_sign) := ⟨rfl, rfl, rfl, by decide +kernel, rfl, by decide +kernel, by decide +kernel⟩
abbrev s_law_fault_from : Stmt := topS 8
theorem sc_law_fault_from : FnScope ["acts", "first", "last", "seen", "j", "where", "number", "source", "what"] ["acts", "first", "last"] (defScope s_law_fault_from) := ⟨rfl, rfl, rfl, by decide +kernel, rfl, by decide +kernel, by decide +kernel⟩
abbrev s_law_first_fault : Stmt := topS 9
theorem sc_law_first_fault : FnScope ["acts", "bars", "first", "last", "fault"] ["acts", "bars"] (defScope s_law_first_fault) := ⟨rfl, rfl, rfl, by decide +kernel, rfl, by decide +kernel, by decide +kernel⟩
abbrev s_law_good_marks : Stmt := topS 10
theorem sc_law_good_marks : FnScope ["bag", "acts", "often", "bars", "fault", "i", "j", "m"] ["bag", "acts", "often"] (defScope s_law_good_marks) := ⟨rfl, rfl, rfl, by decide +kernel, rfl, by decide +kernel, by decide +kernel⟩
abbrev s_law_alike : Stmt := topS 11
theorem sc_law_alike : FnScope ["got", "due", "k"] ["got", "due"] (defScope s_law_alike) := ⟨rfl, rfl, rfl, by decide +kernel, rfl, by decide +kernel, by decide +kernel⟩
abbrev s_law_number : Stmt := topS 12
theorem sc_law_number : FnScope ["bag", "base", "wide"] ["bag", "base", "wide"] (defScope s_law_number) := ⟨rfl, rfl, rfl, by decide +kernel, rfl, by decide +kernel, by decide +kernel⟩
abbrev s_law_any_writes : Stmt := topS 13
theorem sc_law_any_writes : FnScope ["bag", "many", "wide", "base", "acts", "k", "where", "source", "number", "what"] ["bag", "many"] (defScope s_law_any_writes) := ⟨rfl, rfl, rfl, by decide +kernel, rfl, by decide +kernel, by decide +kernel⟩
abbrev s_law_any_marks : Stmt := topS 14
theorem sc_law_any_marks : FnScope ["bag", "acts", "way", "often", "bars", "at", "mark", "rest", "m"] ["bag", "acts"] (defScope s_law_any_marks) := ⟨rfl, rfl, rfl, by decide +kernel, rfl, by decide +kernel, by decide +kernel⟩
abbrev s_law : Stmt := topS 15
theorem sc_law : FnScope ["script", "bag", "named", "long", "acts", "lists", "bars", "handed", "got", "due", "k"] ["script"] (defScope s_law) := ⟨rfl, rfl, rfl, by decide +kernel, rfl, by decide +kernel, by decide +kernel⟩
structure Txt (K : PySem.W.Frag) (mg : Str → Option Value) : Prop where
  b_abs : mg "abs" = none
  b_all : mg "all" = none
  b_bool : mg "bool" = none
  b_int : mg "int" = none
  b_isinstance : mg "isinstance" = none
  b_len : mg "len" = none
  b_list : mg "list" = none
  b_range : mg "range" = none
  b_sorted : mg "sorted" = none
  b_str : mg "str" = none
  b_tuple : mg "tuple" = none
section
variable {P : Program} {w : World} {K : PySem.W.Frag} {mg : Str → Option Value} {base : Heap}
-- stretch_fault
theorem ok_stretch_fault {f : Addr} {fd : FuncData} (F : FunD K "stretch_fault" "stretch_fault" (defArgs s_stretch_fault) (defBody s_stretch_fault) (defScope s_stretch_fault) [] [] f fd) (T : Txt K mg)  : FnOk P w K mg base CX0 1 f fd ["some", "first", "last"] (S3 (φfault K)) := by
  refine F.ok sc_stretch_fault (fun vs H Q E h => ?_) (fun cdv A outer s H vs Q E hr h => ?_)
  · exact S3.len h
  · match vs, h with
    | [v0, v1, v2], h =>
    have hu := hu_of hr
    refine ⟨_, PSs.nox (pss_cons (ps_set (i := 3) sc_stretch_fault.nd rfl (.inl rfl) pe_dnewT)
      (pss_cons (ps_for PassesOwn.never rfl (pi_range2 rfl T.b_range (pa_cons (pv 1) (pa_cons (pv 2) pa_nil))) (pg_name (i := 4) sc_stretch_fault.nd rfl (.inl rfl)) (pss_cons (ps_asg (pe_ix (ixL (K := K)) (pv 0) (pv 4) (fun _ _ => rfl)) (pg_tup (by rfl) (pgs_cons (pg_name (i := 5) sc_stretch_fault.nd rfl (.inl rfl)) (pgs_cons (pg_name (i := 6) sc_stretch_fault.nd rfl (.inl rfl)) (pgs_cons (pg_name (i := 7) sc_stretch_fault.nd rfl (.inl rfl)) (pgs_cons (pg_name (i := 8) sc_stretch_fault.nd rfl (.inl rfl)) pgs_nil))))))
      (pss_cons (ps_if (pt_cmp (pc_din hu (pe_tup (pa_cons (pv 5) (pa_cons (pv 6) pa_nil))) (pv 3))) (pss_one (ps_ret (pe_tup (pa_cons (pe_dget hu (pv 3) (pe_tup (pa_cons (pv 5) (pa_cons (pv 6) pa_nil))) (fun _ _ => rfl)) (pa_cons (pv 4) pa_nil))))) pss_nil)
      (pss_one (ps_if (pt_cmpR op_ne (pv 7) pe_str (nomark _)) (pss_one (ps_expr (pe_dsetT hu (pv 3) (pe_tup (pa_cons (pv 7) (pa_cons (pv 8) pa_nil))) (pv 4) ⟨rfl, rfl, rfl, rfl⟩))) pss_nil)))))
      (pss_one (ps_ret pe_non)))), ?_⟩
    rw [show start ["some", "first", "last", "seen", "j", "where", "number", "source", "what"] [v0, v1, v2] = [some v0, some v1, some v2, none, none, none, none, none, none] from rfl]
    obtain ⟨F, acts, first, last, rfl, rfl, hw, hx, hf, hl, hn, q⟩ := h
    obtain ⟨a, us, rfl, hS, dus⟩ := dp_list hx
    walk_at "go"
    intro D nD
    have g1 : Gr [] F H F (upd H D (.dT [])) := .new hw nD
    walk_at "go"
    refine ⟨first, last, rfl, ⟨by omega, by omega, by omega, by omega⟩, f_range (lo := (first : Int)) (n := ((last : Int) - first).toNat) (fun i σ H' => ∃ (F2 : Hp) (kvs : List (List Key × Nat)) (y4 y5 y6 y7 y8 : Option V), σ = [some (.ref a), some (.int (first : Nat)), some (.int (last : Nat)), some (.ref D), y4, y5, y6, y7, y8] ∧ Gr [] F H F2 H' ∧ Mu F2 H' D (.dT (toV kvs)) ∧ kvs.length ≤ i ∧ faultFrom acts first last = faultGo ((stretch acts first last).drop i) kvs (first + i)) ⟨F, [], none, none, none, none, none, rfl, g1, Mu.new hw nD, Nat.le_refl _, rfl⟩ (fun i σ H' hi hp => ?_) (fun σ H' hp => ?_)⟩
    · obtain ⟨F2, kvs, y4, y5, y6, y7, y8, rfl, g, mD, hk, hq⟩ := hp
      have hi' : i < last - first := by omega
      obtain ⟨t, ht, er⟩ := stretch_at hi' hl
      obtain ⟨p0, gp, hT⟩ := act_at dus ht
      have hT' := sqT_same g.ws hT
      rw [er] at hq
      walk_at "go"
      refine w_ixL _ _ (sqL_same g.ws hS) (at_of' (j := first + i) (by omega) gp) ?_
      walk_at "go"
      refine ⟨le1000 (by simp), fun p np => ?_⟩
      replace mD := mD.addm (u := .tup [.str t.w, .int t.n]) np
      replace g := g.addm (o := .tup [.str t.w, .int t.n]) np
      walk_at "go"
      cases e : getN kvs t.wk with
      | some i0 =>
        rw [go_hit e] at hq
        refine w_dinT (ks := t.wk) mD.h upd_same (valV_some e) ?_
        walk_at "go"
        refine ⟨le1000 (by simp), fun p2 np2 => ?_⟩
        replace mD := mD.addm (u := .tup [.str t.w, .int t.n]) np2
        replace g := g.addm (o := .tup [.str t.w, .int t.n]) np2
        refine w_dgetT (ks := t.wk) mD.h upd_same (valV_some e) ?_
        walk_at "go"
        refine ⟨le1000 (by simp), fun p3 np3 => ?_⟩
        refine q _ _ _ (g.add np3) ?_
        rw [hq]
        refine ⟨p3, rfl, ?_⟩
        rw [Int.natCast_add]
        exact upd_same
      | none =>
        rw [go_miss e] at hq
        refine w_dinF (ks := t.wk) mD.h upd_same (valV_none e) ?_
        walk_at "go"
        refine w_iteN (fun hs => ?_) (fun hs => ?_)
        · walk_at "go"
          refine ⟨D, rfl, .inr ⟨_, .inl mD.h⟩, ?_⟩
          walk_at "go"
          refine ⟨le1000 (by simp), fun p2 np2 => ?_⟩
          replace mD := mD.addm (u := .tup [.str t.s, kV t.x]) np2
          replace g := g.addm (o := .tup [.str t.s, kV t.x]) np2
          walk_at "go"
          refine ⟨p2, toV kvs, t.rk, mD.h, rfl, upd_same, small_lt (by unfold toV; rw [List.length_map]; omega), fun v hv => ?_, fun hv => ?_⟩
          · cases e2 : getN kvs t.rk with
            | none =>
              rw [valV_none e2] at hv
              cases hv
            | some i0 =>
              rw [step_old hs e2] at hq
              exact ⟨F2, kvs, _, _, _, _, _, rfl, g, mD, by omega, hq⟩
          · cases e2 : getN kvs t.rk with
            | some i0 =>
              rw [valV_some e2] at hv
              cases hv
            | none =>
              rw [step_new hs e2] at hq
              rw [← Int.natCast_add, put_toV e2]
              exact ⟨F2, _, _, _, _, _, _, rfl, g.wrn mD.n nD, mD.wr, by rw [List.length_append, List.length_singleton]; omega, hq⟩
        · walk_at "go"
          rw [step_sign hs] at hq
          exact ⟨F2, kvs, _, _, _, _, _, rfl, g, mD, by omega, hq⟩
    · obtain ⟨F2, kvs, y4, y5, y6, y7, y8, rfl, g, mD, hk, hq⟩ := hp
      walk_at "go"
      refine q _ _ _ g ?_
      rw [hq, List.drop_eq_nil_of_le (by rw [stretch_len _ _ _ hl]; omega)]
      rfl
-- mark_fault
theorem ok_mark_fault {f : Addr} {fd : FuncData} (F : FunD K "mark_fault" "mark_fault" (defArgs s_mark_fault) (defBody s_mark_fault) (defScope s_mark_fault) [] [] f fd) (T : Txt K mg) (D_stretch_fault : DO P w K mg base 1 "stretch_fault" ["some", "first", "last"] [] (S3 (φfault K))) : FnOk P w K mg base CX0 2 f fd ["some", "marks"] (S2 (φmark K)) := by
  refine F.ok sc_mark_fault (fun vs H Q E h => ?_) (fun cdv A outer s H vs Q E hr h => ?_)
  · exact S2.len h
  · match vs, h with
    | [v0, v1], h =>
    have hu := hu_of hr
    refine ⟨_, PSs.nox (pss_cons (ps_set (i := 2) sc_mark_fault.nd rfl (.inl rfl) pe_int)
      (pss_cons (ps_for PassesOwn.never rfl (pi_list (pe_op op_cat (pv 1) (pe_lst (pa_cons (pe_callB (clLenQ (K := K)) (by rfl) T.b_len (by decide +kernel) (pa_cons (pv 0) pa_nil)) pa_nil)))) (pg_name (i := 3) sc_mark_fault.nd rfl (.inl rfl)) (pss_cons (ps_set (i := 4) sc_mark_fault.nd rfl (.inl rfl) (pcall D_stretch_fault hr (pa_cons (pv 0) (pa_cons (pv 2) (pa_cons (pv 3) pa_nil)))))
      (pss_cons (ps_if (pt_cmp (pc_notN (pv 4)) (by rfl)) (pss_one (ps_ret (pv 4))) pss_nil)
      (pss_one (ps_set (i := 2) sc_mark_fault.nd rfl (.inl rfl) (pv 3))))))
      (pss_one (ps_ret pe_non)))), ?_⟩
    rw [show start ["some", "marks", "first", "last", "fault"] [v0, v1] = [some v0, some v1, none, none, none] from rfl]
    obtain ⟨F, acts, m, ms, rfl, hw, hx, hm, hb, hn, hn2, q⟩ := h
    obtain ⟨a, us, rfl, hS, dus⟩ := dp_list hx
    have hlen : us.length = acts.length := by rw [dpa_len dus, List.length_map]
    walk_at "go"
    refine ⟨le1000 (by simp), fun p np => ?_⟩
    have g1 : Gr [] F H F (upd H p (.lst [.int us.length])) := .new hw np
    refine ⟨m, p, nV ms, [.int us.length], rfl, rfl, g1.fh _ _ hm, upd_same, szle (by unfold nV; rw [List.length_map, List.length_singleton]; omega), fun p2 np2 => ?_⟩
    have el : nV ms ++ [.int us.length] = nV (ms ++ [acts.length]) := by
      unfold nV
      rw [List.map_append, hlen]
      rfl
    rw [el]
    replace g1 := g1.add (o := .lst (nV (ms ++ [acts.length]))) np2
    have hS2 := sqL_of (K := K) (upd_at (F := F) (p := p2) (o := .lst (nV (ms ++ [acts.length]))))
    revert g1 hS2
    generalize upd F p2 (.lst (nV (ms ++ [acts.length]))) = F1
    intro g1 hS2
    refine ⟨p2, rfl, ⟨_, sqL_same g1.fh hS2⟩, f_list (xs := nV (ms ++ [acts.length])) (fun i σ H' => ∃ (F2 : Hp) (first : Nat) (y3 y4 : Option V), σ = [some (.ref a), some (.ref m), some (.int (first : Nat)), y3, y4] ∧ Gr [] F H F2 H' ∧ Same F1 F2 ∧ first ≤ acts.length ∧ firstFault acts 0 (ms ++ [acts.length]) = firstFault acts first ((ms ++ [acts.length]).drop i)) ⟨F1, 0, none, none, rfl, g1, Same.refl _, Nat.zero_le _, rfl⟩ (fun i σ H' _ hp => ?_) (fun i x σ H' hx' hp => ?_) (fun σ H' hp => ?_)⟩
    · obtain ⟨F2, first, y3, y4, rfl, g, s, _⟩ := hp
      exact sqL_same (s.trans g.fh) hS2
    · obtain ⟨F2, first, y3, y4, rfl, g, s, hf, hq⟩ := hp
      obtain ⟨l, hl, rfl⟩ := nV_get hx'
      have hll : l ≤ acts.length := by
        rcases List.mem_append.mp (List.mem_of_getElem? hl) with h | h
        · exact hb l h
        · rw [List.mem_singleton.mp h]
          exact Nat.le_refl _
      have ed : (ms ++ [acts.length]).drop i = l :: (ms ++ [acts.length]).drop (i + 1) := by
        obtain ⟨h1, h2⟩ := List.getElem?_eq_some_iff.mp hl
        rw [List.drop_eq_getElem_cons h1, h2]
      rw [ed] at hq
      walk_at "go"
      refine ⟨F2, acts, first, l, rfl, rfl, g.fh, dp_same g.ff _ _ hx, hf, hll, hn, fun v F3 H3 g3 hr => ?_⟩
      replace g := g.trans g3
      cases e : faultFrom acts first l with
      | none =>
        rw [first_miss e] at hq
        rw [e] at hr
        cases hr
        walk_at "go"
        exact ⟨F3, l, _, _, rfl, g, s.trans g3.ff, hll, hq⟩
      | some ij =>
        rw [first_hit e] at hq
        rw [e] at hr
        obtain ⟨p4, rfl, h4⟩ := hr
        walk_at "go"
        refine w_iteN (fun _ => ?_) (fun z => by cases z)
        walk_at "go"
        refine q _ _ _ g ?_
        rw [hq]
        exact ⟨p4, rfl, h4⟩
    · obtain ⟨F2, first, y3, y4, rfl, g, s, hf, hq⟩ := hp
      walk_at "go"
      refine q _ _ _ g ?_
      rw [hq, List.drop_eq_nil_of_le (by unfold nV; rw [List.length_map]; exact Nat.le_refl _)]
      rfl
-- _law_bag
theorem ok_law_bag {f : Addr} {fd : FuncData} (F : FunD K "_law_bag" "_law_bag" (defArgs s_law_bag) (defBody s_law_bag) (defScope s_law_bag) [] [] f fd) (T : Txt K mg)  : FnOk P w K mg base CX0 1 f fd ["script"] (S1 (φbag K)) := by
  refine F.ok sc_law_bag (fun vs H Q E h => ?_) (fun cdv A outer s H vs Q E hr h => ?_)
  · exact S1.len h
  · match vs, h with
    | [v0], h =>
    have hu := hu_of hr
    refine ⟨_, PSs.nox (pss_cons (ps_set (i := 1) sc_law_bag.nd rfl (.inl rfl) pe_int)
      (pss_cons (ps_for PassesOwn.never rfl (pi_list (pe_slice (slL (K := K)) (pv 0) po_none (po_some pe_int))) (pg_name (i := 2) sc_law_bag.nd rfl (.inl rfl)) (pss_one (ps_set (i := 1) sc_law_bag.nd rfl (.inl rfl) (pe_op op_mod (pe_op op_add (pe_op op_add (pe_op op_mul (pv 1) pe_int) (pe_op op_mod (pv 2) pe_int)) pe_int) pe_int))))
      (pss_one (ps_ret (pe_lst (pa_cons (pe_lc (own := [("cell", 2)]) (g := gName 2) rfl sc_law_bag.nd (pi_list (pe_slice (slL (K := K)) (pv 0) po_none (po_some pe_int))) (blkOk_by (own := [("cell", 2)]) (N := ["script", "stir", "cell"]) (sc := defScope s_law_bag) (by decide +kernel)) (fun _ _ _ _ _ => pg_name (i := 2) sc_law_bag.nd rfl (Or.inl rfl)) (fun _ _ _ _ _ => pts_nil) (fun _ _ _ _ _ => (pe_op op_mod (pe_callB clAbs (by rfl) T.b_abs (by decide +kernel) (pa_cons (pv 2) pa_nil)) (pe_op op_pow pe_int pe_int)))) (pa_cons pe_int (pa_cons pe_int (pa_cons (pv 1) (pa_cons pe_int pa_nil)))))))))), ?_⟩
    rw [show start ["script", "stir", "cell"] [v0] = [some v0, none, none] from rfl]
    obtain ⟨a, ns, rfl, hS, hl, q⟩ := h
    walk_at "go"
    intro l nl
    rw [cut63 hl]
    refine ⟨l, rfl, ⟨_, sqL_of upd_same⟩, f_list (xs := ns.map V.int) (fun i σ H' => ∃ (st : Int) (y : Option V), σ = [some (.ref a), some (.int st), y] ∧ 0 ≤ st ∧ st < 2147483647 ∧ H' = upd H l (.lst (ns.map V.int))) ⟨19, none, rfl, by decide, by decide, rfl⟩ (fun i σ H' _ hp => ?_) (fun i x σ H' hx hp => ?_) (fun σ H' hp => ?_)⟩
    · obtain ⟨st, y, _, _, _, rfl⟩ := hp
      exact sqL_of upd_same
    · obtain ⟨st, y, rfl, s0, s1, rfl⟩ := hp
      obtain ⟨z, rfl⟩ := map_get hx
      walk_at "go"
      exact ⟨_, _, rfl, mod_nn (by decide), mod_lt (by decide), rfl⟩
    · obtain ⟨st, y, rfl, s0, s1, rfl⟩ := hp
      have hS2 : SqL K (upd H l (.lst (ns.map V.int))) a (ns.map V.int) := sqL_same (Same.new nl) hS
      walk_at "go"
      intro l2 nl2
      rw [cut63 hl]
      have g0 : Gr [] H H H (upd H l (.lst (ns.map V.int))) := .new (Same.refl H) nl
      have g1 := g0.add (o := .lst (ns.map V.int)) nl2
      refine ⟨l2, rfl, ⟨_, sqL_of upd_same⟩, fun D nD => ?_⟩
      have g2 := g1.addm (o := .lst []) nD
      refine lc_list (xs := ns.map V.int) (fun i H' => ∃ vs : List Int, Gr [] H H (upd H l2 (.lst (ns.map V.int))) H' ∧ Mu (upd H l2 (.lst (ns.map V.int))) H' D (.lst (vs.map V.int)) ∧ (∀ x ∈ vs, 0 ≤ x ∧ x < 10 ^ 60) ∧ vs.length = i) ⟨[], g2, Mu.new g1.fh nD, by simp, rfl⟩ (fun i H' _ hp => ?_) (fun i x H' hx hp => ?_) (fun H' hp => ?_)
      · obtain ⟨vs, g, _⟩ := hp
        exact sqL_same g.fh (sqL_of upd_same)
      · obtain ⟨vs, g, mu, hv, hn⟩ := hp
        obtain ⟨z, rfl⟩ := map_get hx
        have hi : i < ns.length := by
          have := (List.getElem?_eq_some_iff.mp hx).1
          rwa [List.length_map] at this
        show gName 2 _ [some (.ref a), some (.int st), none] H' _
        walk_at "go"
        refine ⟨rfl, ?_⟩
        walk_at "go"
        refine ⟨_, mu.h, small1000 (by rw [List.length_map]; omega), vs ++ [_], g.wrn mu.n (g1.fresh nD), by rw [List.map_append]; exact mu.wr, ?_, by simp [hn]⟩
        intro x hx
        rcases List.mem_append.mp hx with hx | hx
        · exact hv x hx
        · rw [List.mem_singleton.mp hx]
          exact ⟨mod_nn (by decide), mod_lt (by decide)⟩
      · obtain ⟨vs, g, mu, hv, hn⟩ := hp
        walk_at "go"
        refine ⟨le1000 (by simp), fun p np => ?_⟩
        have g5 := (g.frz (g1.fresh nD) mu).addm (o := .lst [.ref D, .int 0, .int 0, .int st, .int 0]) np
        refine q p _ _ g5 ⟨D, vs, 0, 0, st, 0, ?_, upd_same, sqL_of upd_same, by rw [hn, List.length_map]; exact hl, hv, by decide, by decide, by decide, s0, s1⟩
        have nF := g.fh.free np
        rw [upd_ne (mu.ne_new np).symm]
        exact nF
-- _law_stirred
theorem ok_law_stirred {f : Addr} {fd : FuncData} (F : FunD K "_law_stirred" "_law_stirred" (defArgs s_law_stirred) (defBody s_law_stirred) (defScope s_law_stirred) [] [] f fd) (T : Txt K mg)  : FnOk P w K mg base CX0 1 f fd ["bag", "many"] (S2 (φdraw K)) := by
  refine F.ok sc_law_stirred (fun vs H Q E h => ?_) (fun cdv A outer s H vs Q E hr h => ?_)
  · exact S2.len h
  · match vs, h with
    | [v0, v1], h =>
    have hu := hu_of hr
    refine ⟨_, PSs.nox (pss_cons (ps_set (i := 2) sc_law_stirred.nd rfl (.inl rfl) pe_int)
      (pss_cons (ps_for PassesOwn.never rfl (pi_range1 rfl T.b_range (pa_cons (pe_op op_add pe_int (pe_op op_fdivW (pe_bits (pv 1)) pe_int)) pa_nil)) (pg_name (i := 3) sc_law_stirred.nd rfl (.inl rfl)) (pss_cons (ps_asg (pe_op op_add (pe_ix (ixL (K := K)) (pv 0) pe_int (fun _ _ => rfl)) pe_int) (pg_sub (pv 0) pe_int set_list))
      (pss_cons (ps_asg (pe_op op_mod (pe_op op_add (pe_op op_add (pe_op op_add (pe_op op_pow (pe_ix (ixL (K := K)) (pv 0) pe_int (fun _ _ => rfl)) pe_int) (pe_op op_mul pe_int (pe_ix (ixL (K := K)) (pv 0) pe_int (fun _ _ => rfl)))) (pe_op op_mul pe_int (pe_ix (ixL (K := K)) (pv 0) pe_int (fun _ _ => rfl)))) pe_int) pe_int) (pg_sub (pv 0) pe_int set_list))
      (pss_one (ps_set (i := 2) sc_law_stirred.nd rfl (.inl rfl) (pe_op op_add (pe_op op_mul (pv 2) pe_int) (pe_op op_fdivW (pe_ix (ixL (K := K)) (pv 0) pe_int (fun _ _ => rfl)) pe_int)))))))
      (pss_one (ps_ret (pe_op op_mod (pv 2) (pv 1)))))), ?_⟩
    rw [show start ["bag", "many", "got", "k"] [v0, v1] = [some v0, some v1, none, none] from rfl]
    obtain ⟨b, m, F, rfl, rfl, hw, hb, h0, h1, q⟩ := h
    have hbits := bits_le h0 h1
    have hb0 : (0 : Int) ≤ (Builtin.Int.intBits m : Nat) := Int.natCast_nonneg _
    have hd0 : (0 : Int) ≤ (Builtin.Int.intBits m : Nat) / 27 := div_nn hb0 (by decide)
    have hd1 : (Builtin.Int.intBits m : Int) / 27 ≤ (Builtin.Int.intBits m : Nat) := div_le' hb0 (by decide)
    walk_at "go"
    refine ⟨_, rfl, by omega, by omega, f_range0 (fun i σ H' => ∃ (f : Int) (y : Option V) (F2 : Hp), σ = [some (.ref b), some (.int m), some (.int f), y] ∧ Gr [b] F H F2 H' ∧ Bag K F2 H' b) ⟨0, none, F, rfl, .refl hw, hb⟩ (fun i σ H' hi hp => ?_) (fun σ H' hp => ?_)⟩
    · obtain ⟨f, y, F2, rfl, g, hB⟩ := hp
      obtain ⟨c, cells, i1, cur, st, n, e1, e2, e3, e4, e5, e6, e7, e8, e9, e10⟩ := hB.ex
      walk_at "go"
      exact ⟨_, _, F2, rfl, (g.put e1 (by simp)).put e1 (by simp), ⟨c, cells, i1, cur, _, _, e1, upd_same, e3, e4, e5, e6, e7, e8, mod_nn (by decide), mod_lt (by decide)⟩⟩
    · obtain ⟨f, y, F2, rfl, g, hB⟩ := hp
      walk_at "go"
      exact q _ F2 H' g hB (mod_nn h0) (mod_lt h0)
-- _law_draw
theorem ok_law_draw {f : Addr} {fd : FuncData} (F : FunD K "_law_draw" "_law_draw" (defArgs s_law_draw) (defBody s_law_draw) (defScope s_law_draw) [] [] f fd) (T : Txt K mg) (D_law_stirred : DO P w K mg base 1 "_law_stirred" ["bag", "many"] [] (S2 (φdraw K))) : FnOk P w K mg base CX0 2 f fd ["bag", "many"] (S2 (φdraw K)) := by
  refine F.ok sc_law_draw (fun vs H Q E h => ?_) (fun cdv A outer s H vs Q E hr h => ?_)
  · exact S2.len h
  · match vs, h with
    | [v0, v1], h =>
    have hu := hu_of hr
    refine ⟨_, PSs.nox (pss_cons (ps_if (PW.pt (pw_and (pt_cmpR op_eq (pe_ix (ixL (K := K)) (pv 0) pe_int (fun _ _ => rfl)) pe_int (nomark _)) (pw_and1 (pt_cmpR op_lt (pe_ix (ixL (K := K)) (pv 0) pe_int (fun _ _ => rfl)) (pe_callB (clLenQ (K := K)) (by rfl) T.b_len (by decide +kernel) (pa_cons (pe_ix (ixL (K := K)) (pv 0) pe_int (fun _ _ => rfl)) pa_nil)) (nomark _))))) (pss_cons (ps_asg (pe_ix (ixL (K := K)) (pe_ix (ixL (K := K)) (pv 0) pe_int (fun _ _ => rfl)) (pe_ix (ixL (K := K)) (pv 0) pe_int (fun _ _ => rfl)) (fun _ _ => rfl)) (pg_sub (pv 0) pe_int set_list))
      (pss_one (ps_asg (pe_op op_add (pe_ix (ixL (K := K)) (pv 0) pe_int (fun _ _ => rfl)) pe_int) (pg_sub (pv 0) pe_int set_list)))) (pss_one (ps_if (pt_cmpR op_eq (pe_ix (ixL (K := K)) (pv 0) pe_int (fun _ _ => rfl)) pe_int (nomark _)) (pss_one (ps_ret (pcall D_law_stirred hr (pa_cons (pv 0) (pa_cons (pv 1) pa_nil))))) pss_nil)))
      (pss_cons (ps_set (i := 2) sc_law_draw.nd rfl (.inl rfl) (pe_op op_mod (pe_ix (ixL (K := K)) (pv 0) pe_int (fun _ _ => rfl)) (pv 1)))
      (pss_cons (ps_asg (pe_op op_fdivW (pe_ix (ixL (K := K)) (pv 0) pe_int (fun _ _ => rfl)) (pv 1)) (pg_sub (pv 0) pe_int set_list))
      (pss_one (ps_ret (pv 2)))))), ?_⟩
    rw [show start ["bag", "many", "got"] [v0, v1] = [some v0, some v1, none] from rfl]
    obtain ⟨b, m, F, rfl, rfl, hw, hb, h0, h1, q⟩ := h
    obtain ⟨c, cells, i1, cur, st, n, e1, e2, e3, e4, e5, e6, e7, e8, e9, e10⟩ := hb.ex
    have e3' := sqL_same hw e3
    have gr := Gr.refl (M := [b]) hw
    walk_at "go"
    refine w_ite (fun hc => ?_) (fun hc => ?_)
    · walk_at "go"
      refine w_ite (fun hd => ?_) (fun hd => ?_)
      · obtain ⟨x, hx, ex⟩ := cell_at e6 hd
        have bx := e5 x hx
        walk_at "go"
        refine w_ixL _ _ e3' ex ?_
        walk_at "go"
        exact q _ F _ (((gr.put e1 (by simp)).put e1 (by simp)).put e1 (by simp)) ⟨c, cells, i1 + 1, x / m, st, n, e1, upd_same, e3, e4, e5, by omega, div_nn bx.1 h0, Int.lt_of_le_of_lt (div_le' bx.1 h0) bx.2, e9, e10⟩ (mod_nn h0) (mod_lt h0)
      · walk_at "go"
        refine w_iteT hc ?_
        walk_at "go"
        exact ⟨b, m, F, rfl, rfl, hw, hb, h0, h1, q⟩
    · walk_at "go"
      refine w_iteF hc ?_
      walk_at "go"
      exact q _ F _ (gr.put e1 (by simp)) ⟨c, cells, i1, cur / m, st, n, e1, upd_same, e3, e4, e5, e6, div_nn e7 h0, Int.lt_of_le_of_lt (div_le' e7 h0) e8, e9, e10⟩ (mod_nn h0) (mod_lt h0)
-- _law_sign
theorem ok_law_sign {f : Addr} {fd : FuncData} (F : FunD K "_law_sign" "_law_sign" (defArgs s_law_sign) (defBody s_law_sign) (defScope s_law_sign) [] [] f fd) (T : Txt K mg) (D_law_draw : DO P w K mg base 2 "_law_draw" ["bag", "many"] [] (S2 (φdraw K))) : FnOk P w K mg base CX0 3 f fd ["bag", "few"] (S2 (φsign K)) := by
  refine F.ok sc_law_sign (fun vs H Q E h => ?_) (fun cdv A outer s H vs Q E hr h => ?_)
  · exact S2.len h
  · match vs, h with
    | [v0, v1], h =>
    have hu := hu_of hr
    refine ⟨_, PSs.nox (pss_cons (ps_set (i := 2) sc_law_sign.nd rfl (.inl rfl) pe_str)
      (pss_one (ps_ret (pe_ifExp (pt_val (pv 1)) (pe_ix ix_str pe_str (pcall D_law_draw hr (pa_cons (pv 0) (pa_cons pe_int pa_nil))) (fun _ _ => rfl)) (pe_ix ix_str (pv 2) (pcall D_law_draw hr (pa_cons (pv 0) (pa_cons pe_int pa_nil))) (fun _ _ => rfl)))))), ?_⟩
    rw [show start ["bag", "few", "acts"] [v0, v1] = [some v0, some v1, none] from rfl]
    obtain ⟨b, f, F, rfl, rfl, hw, hb, q⟩ := h
    walk_at "go"
    refine w_iteb (fun hf => ?_) (fun hf => ?_)
    · walk_at "go"
      refine d_draw (Gr.refl (M := [b]) hw) hb (by decide) (by decide) fun r F2 H2 g _ hb2 r0 r1 => ?_
      walk_at "go"
      exact w_ixL1 (n := 2) (by decide +kernel) (by decide +kernel) (by decide +kernel) r0 r1 fun s hs oks => q s F2 H2 g hb2 hs oks
    · walk_at "go"
      refine d_draw (Gr.refl (M := [b]) hw) hb (by decide) (by decide) fun r F2 H2 g _ hb2 r0 r1 => ?_
      walk_at "go"
      exact w_ixL1 (n := 93) (by decide +kernel) (by decide +kernel) (by decide +kernel) r0 r1 fun s hs oks => q s F2 H2 g hb2 hs oks
-- _law_fault_from
theorem ok_law_fault_from {f : Addr} {fd : FuncData} (F : FunD K "_law_fault_from" "_law_fault_from" (defArgs s_law_fault_from) (defBody s_law_fault_from) (defScope s_law_fault_from) [] [] f fd) (T : Txt K mg)  : FnOk P w K mg base CX0 1 f fd ["acts", "first", "last"] (S3 (φfault K)) := by
  refine F.ok sc_law_fault_from (fun vs H Q E h => ?_) (fun cdv A outer s H vs Q E hr h => ?_)
  · exact S3.len h
  · match vs, h with
    | [v0, v1, v2], h =>
    have hu := hu_of hr
    refine ⟨_, PSs.nox (pss_cons (ps_set (i := 3) sc_law_fault_from.nd rfl (.inl rfl) pe_dnewT)
      (pss_cons (ps_for PassesOwn.never rfl (pi_range2 rfl T.b_range (pa_cons (pv 1) (pa_cons (pv 2) pa_nil))) (pg_name (i := 4) sc_law_fault_from.nd rfl (.inl rfl)) (pss_cons (ps_asg (pe_ix (ixL (K := K)) (pv 0) (pv 4) (fun _ _ => rfl)) (pg_tup (by rfl) (pgs_cons (pg_name (i := 5) sc_law_fault_from.nd rfl (.inl rfl)) (pgs_cons (pg_name (i := 6) sc_law_fault_from.nd rfl (.inl rfl)) (pgs_cons (pg_name (i := 7) sc_law_fault_from.nd rfl (.inl rfl)) (pgs_cons (pg_name (i := 8) sc_law_fault_from.nd rfl (.inl rfl)) pgs_nil))))))
      (pss_cons (ps_if (pt_cmp (pc_din hu (pe_tup (pa_cons (pv 5) (pa_cons (pv 6) pa_nil))) (pv 3))) (pss_one (ps_ret (pe_tup (pa_cons (pe_dget hu (pv 3) (pe_tup (pa_cons (pv 5) (pa_cons (pv 6) pa_nil))) (fun _ _ => rfl)) (pa_cons (pv 4) pa_nil))))) pss_nil)
      (pss_one (ps_if (PW.pt (pw_and (pt_cmpR op_ne (pv 7) pe_str (nomark _)) (pw_and1 (pt_cmp (pc_dnotin hu (pe_tup (pa_cons (pv 7) (pa_cons (pv 8) pa_nil))) (pv 3)))))) (pss_one (ps_dput hu (pv 3) (pe_tup (pa_cons (pv 7) (pa_cons (pv 8) pa_nil))) (pv 4) rfl)) pss_nil)))))
      (pss_one (ps_ret pe_non)))), ?_⟩
    rw [show start ["acts", "first", "last", "seen", "j", "where", "number", "source", "what"] [v0, v1, v2] = [some v0, some v1, some v2, none, none, none, none, none, none] from rfl]
    obtain ⟨F, acts, first, last, rfl, rfl, hw, hx, hf, hl, hn, q⟩ := h
    obtain ⟨a, us, rfl, hS, dus⟩ := dp_list hx
    walk_at "go"
    intro D nD
    have g1 : Gr [] F H F (upd H D (.dT [])) := .new hw nD
    walk_at "go"
    refine ⟨first, last, rfl, ⟨by omega, by omega, by omega, by omega⟩, f_range (lo := (first : Int)) (n := ((last : Int) - first).toNat) (fun i σ H' => ∃ (F2 : Hp) (kvs : List (List Key × Nat)) (y4 y5 y6 y7 y8 : Option V), σ = [some (.ref a), some (.int (first : Nat)), some (.int (last : Nat)), some (.ref D), y4, y5, y6, y7, y8] ∧ Gr [] F H F2 H' ∧ Mu F2 H' D (.dT (toV kvs)) ∧ kvs.length ≤ i ∧ faultFrom acts first last = faultGo ((stretch acts first last).drop i) kvs (first + i)) ⟨F, [], none, none, none, none, none, rfl, g1, Mu.new hw nD, Nat.le_refl _, rfl⟩ (fun i σ H' hi hp => ?_) (fun σ H' hp => ?_)⟩
    · obtain ⟨F2, kvs, y4, y5, y6, y7, y8, rfl, g, mD, hk, hq⟩ := hp
      have hi' : i < last - first := by omega
      obtain ⟨t, ht, er⟩ := stretch_at hi' hl
      obtain ⟨p0, gp, hT⟩ := act_at dus ht
      have hT' := sqT_same g.ws hT
      rw [er] at hq
      walk_at "go"
      refine w_ixL _ _ (sqL_same g.ws hS) (at_of' (j := first + i) (by omega) gp) ?_
      walk_at "go"
      refine ⟨le1000 (by simp), fun p np => ?_⟩
      replace mD := mD.addm (u := .tup [.str t.w, .int t.n]) np
      replace g := g.addm (o := .tup [.str t.w, .int t.n]) np
      walk_at "go"
      cases e : getN kvs t.wk with
      | some i0 =>
        rw [go_hit e] at hq
        refine w_dinT (ks := t.wk) mD.h upd_same (valV_some e) ?_
        walk_at "go"
        refine ⟨le1000 (by simp), fun p2 np2 => ?_⟩
        replace mD := mD.addm (u := .tup [.str t.w, .int t.n]) np2
        replace g := g.addm (o := .tup [.str t.w, .int t.n]) np2
        refine w_dgetT (ks := t.wk) mD.h upd_same (valV_some e) ?_
        walk_at "go"
        refine ⟨le1000 (by simp), fun p3 np3 => ?_⟩
        refine q _ _ _ (g.add np3) ?_
        rw [hq]
        refine ⟨p3, rfl, ?_⟩
        rw [Int.natCast_add]
        exact upd_same
      | none =>
        rw [go_miss e] at hq
        refine w_dinF (ks := t.wk) mD.h upd_same (valV_none e) ?_
        walk_at "go"
        refine w_iteN (fun hs => ?_) (fun hs => ?_)
        · walk_at "go"
          refine ⟨le1000 (by simp), fun p2 np2 => ?_⟩
          replace mD := mD.addm (u := .tup [.str t.s, kV t.x]) np2
          replace g := g.addm (o := .tup [.str t.s, kV t.x]) np2
          walk_at "go"
          cases e2 : getN kvs t.rk with
          | some i0 =>
            rw [step_old hs e2] at hq
            refine w_dnotinT (ks := t.rk) mD.h upd_same (valV_some e2) ?_
            walk_at "go"
            exact ⟨F2, kvs, _, _, _, _, _, rfl, g, mD, by omega, hq⟩
          | none =>
            rw [step_new hs e2] at hq
            refine w_dnotinF (ks := t.rk) mD.h upd_same (valV_none e2) ?_
            walk_at "go"
            refine ⟨le1000 (by simp), fun p4 np4 => ?_⟩
            replace mD := mD.addm (u := .tup [.str t.s, kV t.x]) np4
            replace g := g.addm (o := .tup [.str t.s, kV t.x]) np4
            refine w_dputT (ks := t.rk) mD.h upd_same (small_lt (by unfold toV; rw [List.length_map]; omega)) ?_
            rw [← Int.natCast_add, put_toV e2]
            exact ⟨F2, _, _, _, _, _, _, rfl, g.wrn mD.n nD, mD.wr, by rw [List.length_append, List.length_singleton]; omega, hq⟩
        · walk_at "go"
          rw [step_sign hs] at hq
          exact ⟨F2, kvs, _, _, _, _, _, rfl, g, mD, by omega, hq⟩
    · obtain ⟨F2, kvs, y4, y5, y6, y7, y8, rfl, g, mD, hk, hq⟩ := hp
      walk_at "go"
      refine q _ _ _ g ?_
      rw [hq, List.drop_eq_nil_of_le (by rw [stretch_len _ _ _ hl]; omega)]
      rfl
-- _law_first_fault
theorem ok_law_first_fault {f : Addr} {fd : FuncData} (F : FunD K "_law_first_fault" "_law_first_fault" (defArgs s_law_first_fault) (defBody s_law_first_fault) (defScope s_law_first_fault) [] [] f fd) (T : Txt K mg) (D_law_fault_from : DO P w K mg base 1 "_law_fault_from" ["acts", "first", "last"] [] (S3 (φfault K))) : FnOk P w K mg base CX0 2 f fd ["acts", "bars"] (S2 (φmark K)) := by
  refine F.ok sc_law_first_fault (fun vs H Q E h => ?_) (fun cdv A outer s H vs Q E hr h => ?_)
  · exact S2.len h
  · match vs, h with
    | [v0, v1], h =>
    have hu := hu_of hr
    refine ⟨_, PSs.nox (pss_cons (ps_set (i := 2) sc_law_first_fault.nd rfl (.inl rfl) pe_int)
      (pss_cons (ps_for PassesOwn.never rfl (pi_list (pe_op op_cat (pv 1) (pe_lst (pa_cons (pe_callB (clLenQ (K := K)) (by rfl) T.b_len (by decide +kernel) (pa_cons (pv 0) pa_nil)) pa_nil)))) (pg_name (i := 3) sc_law_first_fault.nd rfl (.inl rfl)) (pss_cons (ps_set (i := 4) sc_law_first_fault.nd rfl (.inl rfl) (pcall D_law_fault_from hr (pa_cons (pv 0) (pa_cons (pv 2) (pa_cons (pv 3) pa_nil)))))
      (pss_cons (ps_if (pt_cmp (pc_notN (pv 4)) (by rfl)) (pss_one (ps_ret (pv 4))) pss_nil)
      (pss_one (ps_set (i := 2) sc_law_first_fault.nd rfl (.inl rfl) (pv 3))))))
      (pss_one (ps_ret pe_non)))), ?_⟩
    rw [show start ["acts", "bars", "first", "last", "fault"] [v0, v1] = [some v0, some v1, none, none, none] from rfl]
    obtain ⟨F, acts, m, ms, rfl, hw, hx, hm, hb, hn, hn2, q⟩ := h
    obtain ⟨a, us, rfl, hS, dus⟩ := dp_list hx
    have hlen : us.length = acts.length := by rw [dpa_len dus, List.length_map]
    walk_at "go"
    refine ⟨le1000 (by simp), fun p np => ?_⟩
    have g1 : Gr [] F H F (upd H p (.lst [.int us.length])) := .new hw np
    refine ⟨m, p, nV ms, [.int us.length], rfl, rfl, g1.fh _ _ hm, upd_same, szle (by unfold nV; rw [List.length_map, List.length_singleton]; omega), fun p2 np2 => ?_⟩
    have el : nV ms ++ [.int us.length] = nV (ms ++ [acts.length]) := by
      unfold nV
      rw [List.map_append, hlen]
      rfl
    rw [el]
    replace g1 := g1.add (o := .lst (nV (ms ++ [acts.length]))) np2
    have hS2 := sqL_of (K := K) (upd_at (F := F) (p := p2) (o := .lst (nV (ms ++ [acts.length]))))
    revert g1 hS2
    generalize upd F p2 (.lst (nV (ms ++ [acts.length]))) = F1
    intro g1 hS2
    refine ⟨p2, rfl, ⟨_, sqL_same g1.fh hS2⟩, f_list (xs := nV (ms ++ [acts.length])) (fun i σ H' => ∃ (F2 : Hp) (first : Nat) (y3 y4 : Option V), σ = [some (.ref a), some (.ref m), some (.int (first : Nat)), y3, y4] ∧ Gr [] F H F2 H' ∧ Same F1 F2 ∧ first ≤ acts.length ∧ firstFault acts 0 (ms ++ [acts.length]) = firstFault acts first ((ms ++ [acts.length]).drop i)) ⟨F1, 0, none, none, rfl, g1, Same.refl _, Nat.zero_le _, rfl⟩ (fun i σ H' _ hp => ?_) (fun i x σ H' hx' hp => ?_) (fun σ H' hp => ?_)⟩
    · obtain ⟨F2, first, y3, y4, rfl, g, s, _⟩ := hp
      exact sqL_same (s.trans g.fh) hS2
    · obtain ⟨F2, first, y3, y4, rfl, g, s, hf, hq⟩ := hp
      obtain ⟨l, hl, rfl⟩ := nV_get hx'
      have hll : l ≤ acts.length := by
        rcases List.mem_append.mp (List.mem_of_getElem? hl) with h | h
        · exact hb l h
        · rw [List.mem_singleton.mp h]
          exact Nat.le_refl _
      have ed : (ms ++ [acts.length]).drop i = l :: (ms ++ [acts.length]).drop (i + 1) := by
        obtain ⟨h1, h2⟩ := List.getElem?_eq_some_iff.mp hl
        rw [List.drop_eq_getElem_cons h1, h2]
      rw [ed] at hq
      walk_at "go"
      refine ⟨F2, acts, first, l, rfl, rfl, g.fh, dp_same g.ff _ _ hx, hf, hll, hn, fun v F3 H3 g3 hr => ?_⟩
      replace g := g.trans g3
      cases e : faultFrom acts first l with
      | none =>
        rw [first_miss e] at hq
        rw [e] at hr
        cases hr
        walk_at "go"
        exact ⟨F3, l, _, _, rfl, g, s.trans g3.ff, hll, hq⟩
      | some ij =>
        rw [first_hit e] at hq
        rw [e] at hr
        obtain ⟨p4, rfl, h4⟩ := hr
        walk_at "go"
        refine w_iteN (fun _ => ?_) (fun z => by cases z)
        walk_at "go"
        refine q _ _ _ g ?_
        rw [hq]
        exact ⟨p4, rfl, h4⟩
    · obtain ⟨F2, first, y3, y4, rfl, g, s, hf, hq⟩ := hp
      walk_at "go"
      refine q _ _ _ g ?_
      rw [hq, List.drop_eq_nil_of_le (by unfold nV; rw [List.length_map]; exact Nat.le_refl _)]
      rfl
-- _law_good_marks
theorem ok_law_good_marks {f : Addr} {fd : FuncData} (F : FunD K "_law_good_marks" "_law_good_marks" (defArgs s_law_good_marks) (defBody s_law_good_marks) (defScope s_law_good_marks) [] [] f fd) (T : Txt K mg) (D_law_draw : DO P w K mg base 2 "_law_draw" ["bag", "many"] [] (S2 (φdraw K))) (D_law_fault_from : DO P w K mg base 1 "_law_fault_from" ["acts", "first", "last"] [] (S3 (φfault K))) : FnOk P w K mg base CX0 3 f fd ["bag", "acts", "often"] (S3 (φgood_marks K)) := by
  refine F.ok sc_law_good_marks (fun vs H Q E h => ?_) (fun cdv A outer s H vs Q E hr h => ?_)
  · exact S3.len h
  · match vs, h with
    | [v0, v1, v2], h =>
    have hu := hu_of hr
    refine ⟨_, PSs.nox (pss_cons (ps_set (i := 3) sc_law_good_marks.nd rfl (.inl rfl) pe_dnewK)
      (pss_cons (ps_set (i := 4) sc_law_good_marks.nd rfl (.inl rfl) (pcall D_law_fault_from hr (pa_cons (pv 1) (pa_cons pe_int (pa_cons (pe_callB (clLenQ (K := K)) (by rfl) T.b_len (by decide +kernel) (pa_cons (pv 1) pa_nil)) pa_nil)))))
      (pss_cons (ps_while PassesOwn.never (pt_cmp (pc_notN (pv 4)) (by rfl)) (pss_cons (ps_asg (pv 4) (pg_tup (by rfl) (pgs_cons (pg_name (i := 5) sc_law_good_marks.nd rfl (.inl rfl)) (pgs_cons (pg_name (i := 6) sc_law_good_marks.nd rfl (.inl rfl)) pgs_nil))))
      (C8.pss_cut (ps_set (i := 7) sc_law_good_marks.nd rfl (.inl rfl) (pe_ifExp (pt_cmpR op_eq (pcall D_law_draw hr (pa_cons (pv 0) (pa_cons pe_int pa_nil))) pe_int (nomark _)) (pe_op op_add (pe_op op_add (pv 5) pe_int) (pcall D_law_draw hr (pa_cons (pv 0) (pa_cons (pe_op op_sub (pv 6) (pv 5)) pa_nil)))) (pv 6)))
      (pss_cons (ps_dput hu (pv 3) (pv 7) pe_bl rfl)
      (pss_one (ps_set (i := 4) sc_law_good_marks.nd rfl (.inl rfl) (pcall D_law_fault_from hr (pa_cons (pv 1) (pa_cons (pv 7) (pa_cons (pe_callB (clLenQ (K := K)) (by rfl) T.b_len (by decide +kernel) (pa_cons (pv 1) pa_nil)) pa_nil))))))))))
      (pss_cons (ps_for PassesOwn.never rfl (pi_range2 rfl T.b_range (pa_cons pe_int (pa_cons (pe_callB (clLenQ (K := K)) (by rfl) T.b_len (by decide +kernel) (pa_cons (pv 1) pa_nil)) pa_nil))) (pg_name (i := 7) sc_law_good_marks.nd rfl (.inl rfl)) (pss_one (ps_if (pt_cmpR op_eq (pcall D_law_draw hr (pa_cons (pv 0) (pa_cons (pv 2) pa_nil))) pe_int (nomark _)) (pss_one (ps_dput hu (pv 3) (pv 7) pe_bl rfl)) pss_nil)))
      (pss_one (ps_ret (pe_callB clSortD (by rfl) T.b_sorted (by decide +kernel) (pa_cons (pv 3) pa_nil)))))))), ?_⟩
    rw [show start ["bag", "acts", "often", "bars", "fault", "i", "j", "m"] [v0, v1, v2] = [some v0, some v1, some v2, none, none, none, none, none] from rfl]
    obtain ⟨b, often, acts, F, rfl, rfl, hw, hb, hx, hn, o0, o1, q⟩ := h
    obtain ⟨a, us, rfl, hS, dus⟩ := dp_list hx
    have hlen : us.length = acts.length := by rw [dpa_len dus, List.length_map]
    walk_at "go"
    intro D nD
    have nbD := hb.ne_new nD
    have g := (Gr.refl (M := [b]) hw).addm (o := .dK []) nD
    have mD := Mu.new (o := .dK []) hw nD
    replace hb := hb.addm (u := .dK []) nD
    have hDb : D ∉ [b] := by simp; exact nbD.symm
    walk_at "go"
    refine ⟨F, acts, 0, us.length, rfl, rfl, g.fh, hx, Nat.zero_le _, by omega, by omega, fun v F1 H1 g1 hr => ?_⟩
    replace mD := g1.mu0 mD
    replace hb := hb.keep0 g1
    replace g := g.trans g1.up
    rw [hlen] at hr
    walk_at "go"
    refine w_while (fun m σ H' => ∃ (F2 : Hp) (v : V) (kvs : List (Key × V)) (ks : List Int) (lo : Nat) (y5 y6 y7 : Option V), σ = [some (.ref b), some (.ref a), some (.int often), some (.ref D), some v, y5, y6, y7] ∧ Gr [b] F H F2 H' ∧ Bag K F2 H' b ∧ Mu F2 H' D (.dK kvs) ∧ kvs.map (·.1) = ks.map Sum.inl ∧ (∀ k ∈ ks, 1 ≤ k ∧ k < (acts.length : Int)) ∧ kvs.length ≤ lo ∧ lo ≤ acts.length ∧ m = acts.length - lo ∧ ResV F2 v (faultFrom acts lo acts.length)) ⟨F1, v, [], [], 0, none, none, none, rfl, g, hb, mD, rfl, by simp, Nat.le_refl _, Nat.zero_le _, rfl, hr⟩ (fun m σ H' hp => ?_)
    obtain ⟨F2, v, kvs, ks, lo, y5, y6, y7, rfl, g, hb, mD, hks, hkb, hkl, hlo, rfl, hr⟩ := hp
    walk_at "go"
    cases e : faultFrom acts lo acts.length with
    | some ij =>
      obtain ⟨i, j⟩ := ij
      rw [e] at hr
      obtain ⟨p, rfl, hp4⟩ := hr
      obtain ⟨r1, r2, r3⟩ := from_range (Nat.le_refl _) e
      refine w_iteN (fun _ => ?_) (fun z => by cases z)
      refine w_turn ?_
      have hT := sqT_same (K := K) g.fh (sqT_of hp4)
      walk_at "go"
      refine w_cut (fun σ H5 => ∃ (F5 : Hp) (mn : Nat), σ = [some (.ref b), some (.ref a), some (.int often), some (.ref D), some (.ref p), some (.int (i : Nat)), some (.int (j : Nat)), some (.int (mn : Nat))] ∧ Gr [b] F H F5 H5 ∧ Bag K F5 H5 b ∧ Mu F5 H5 D (.dK kvs) ∧ i < mn ∧ mn ≤ j) ?_ (fun σ H5 hp => ?_)
      · walk_at "go"
        refine d_draw g hb (by decide) (by decide) fun r F5 H5 g g1 hb _ _ => ?_
        replace mD := g1.mu mD hDb
        walk_at "go"
        refine w_ite (fun _ => ?_) (fun _ => ?_)
        · walk_at "go"
          refine d_draw g hb (by omega) (by omega) fun r F5 H5 g g1 hb q0 q1 => ?_
          replace mD := g1.mu mD hDb
          walk_at "go"
          refine ⟨F5, (i + 1 + r).toNat, ?_, g, hb, mD, by omega, by omega⟩
          rw [show (((((i : Int) + 1 + r).toNat : Nat)) : Int) = (i : Int) + 1 + r by omega]
        · walk_at "go"
          exact ⟨F5, j, rfl, g, hb, mD, r2, Nat.le_refl _⟩
      · obtain ⟨F5, mn, rfl, g, hb, mD, m1, m2⟩ := hp
        walk_at "go"
        refine w_dputI mD.h (small_lt (by omega)) ?_
        obtain ⟨ks', hks', hk'⟩ := put_ints hks (mn : Int) (.bl true)
        have hl' := length_putK kvs (.inl (mn : Int)) (.bl true)
        replace g := g.wrn (o := .dK (putK kvs (.inl (mn : Int)) (.bl true))) mD.n nD
        replace hb := hb.put (u := .dK (putK kvs (.inl (mn : Int)) (.bl true))) nbD
        replace mD := mD.wr (u := .dK (putK kvs (.inl (mn : Int)) (.bl true)))
        walk_at "go"
        refine ⟨F5, acts, mn, us.length, rfl, rfl, g.fh, dp_same g.ff _ _ hx, by omega, by omega, by omega, fun v F6 H6 g6 hr => ?_⟩
        replace mD := g6.mu0 mD
        replace hb := hb.keep0 g6
        replace g := g.trans g6.up
        rw [hlen] at hr
        walk_at "go"
        refine ⟨_, ?_, F6, v, _, ks', mn, _, _, _, rfl, g, hb, mD, hks', fun k hk => ?_, by omega, by omega, rfl, hr⟩
        · omega
        · rcases hk' k hk with hk | rfl
          · exact hkb k hk
          · omega
    | none =>
      rw [e] at hr
      cases hr
      walk_at "go"
      refine ⟨1, us.length, rfl, ⟨by omega, by omega, by omega, by omega⟩, f_range (lo := 1) (n := ((us.length : Int) - 1).toNat) (fun i σ H' => ∃ (F2 : Hp) (kvs : List (Key × V)) (ks : List Int) (y7 : Option V), σ = [some (.ref b), some (.ref a), some (.int often), some (.ref D), some .non, y5, y6, y7] ∧ Gr [b] F H F2 H' ∧ Bag K F2 H' b ∧ Mu F2 H' D (.dK kvs) ∧ kvs.map (·.1) = ks.map Sum.inl ∧ (∀ k ∈ ks, 1 ≤ k ∧ k < (acts.length : Int)) ∧ kvs.length ≤ acts.length + i) ⟨F2, kvs, ks, y7, rfl, g, hb, mD, hks, hkb, by omega⟩ (fun i σ H' hi hp => ?_) (fun σ H' hp => ?_)⟩
      · obtain ⟨F2, kvs, ks, y7, rfl, g, hb, mD, hks, hkb, hkl⟩ := hp
        walk_at "go"
        refine d_draw g hb o0 o1 fun r F5 H5 g g1 hb _ _ => ?_
        replace mD := g1.mu mD hDb
        walk_at "go"
        refine w_ite (fun _ => ?_) (fun _ => ?_)
        · walk_at "go"
          refine w_dputI mD.h (small_lt (by omega)) ?_
          obtain ⟨ks', hks', hk'⟩ := put_ints hks (1 + (i : Int)) (.bl true)
          have hl' := length_putK kvs (.inl (1 + (i : Int))) (.bl true)
          refine ⟨F5, _, ks', _, rfl, g.wrn mD.n nD, hb.put nbD, mD.wr, hks', fun k hk => ?_, by omega⟩
          rcases hk' k hk with hk | rfl
          · exact hkb k hk
          · omega
        · walk_at "go"
          exact ⟨F5, kvs, ks, _, rfl, g, hb, mD, hks, hkb, by omega⟩
      · obtain ⟨F2, kvs, ks, y7, rfl, g, hb, mD, hks, hkb, hkl⟩ := hp
        walk_at "go"
        refine ⟨D, kvs, ks, rfl, .inl mD.h, hks, fun ys p perm _ np => ?_⟩
        obtain ⟨ms, em, hm, hml⟩ := ints_nat (n := acts.length) (ys := ys) fun k hk => hkb k (perm.mem_iff.mp hk)
        rw [em]
        refine q p ms _ _ (g.add np) (hb.add g.fh np) ⟨upd_same, hm, ?_⟩
        have h1 := congrArg List.length hks
        rw [List.length_map, List.length_map] at h1
        rw [hml, perm.length_eq, ← h1]
        omega
-- _law_alike
theorem ok_law_alike {f : Addr} {fd : FuncData} (F : FunD K "_law_alike" "_law_alike" (defArgs s_law_alike) (defBody s_law_alike) (defScope s_law_alike) [] [] f fd) (T : Txt K mg) {n : Nat} (D_law_alike : DO P w K mg base n "_law_alike" ["got", "due"] [] (S2 (φalike K n))) : FnOk P w K mg base CX0 (n + 1) f fd ["got", "due"] (S2 (φalike K (n + 1))) := by
  refine F.ok sc_law_alike (fun vs H Q E h => ?_) (fun cdv A outer s H vs Q E hr h => ?_)
  · exact S2.len h
  · match vs, h with
    | [v0, v1], h =>
    have hu := hu_of hr
    refine ⟨_, PSs.nox (pss_cons (ps_if (pt_val (pe_callB (clIsiT (K := K)) (by rfl) T.b_isinstance (by decide +kernel) (pa_cons (pv 1) (pa_cons (pe_tup (pa_cons (pe_bltn (v := .ty "list") (by rfl) T.b_list (by decide +kernel) rfl) (pa_cons (pe_bltn (v := .ty "tuple") (by rfl) T.b_tuple (by decide +kernel) rfl) pa_nil))) pa_nil)))) (pss_cons (ps_if (PW.pt (pw_or (pt_not (pt_val (pe_callB (clIsiT (K := K)) (by rfl) T.b_isinstance (by decide +kernel) (pa_cons (pv 0) (pa_cons (pe_tup (pa_cons (pe_bltn (v := .ty "list") (by rfl) T.b_list (by decide +kernel) rfl) (pa_cons (pe_bltn (v := .ty "tuple") (by rfl) T.b_tuple (by decide +kernel) rfl) pa_nil))) pa_nil))))) (pw_or1 (pt_cmpR op_ne (pe_callB (clIsi (K := K)) (by rfl) T.b_isinstance (by decide +kernel) (pa_cons (pv 0) (pa_cons (pe_bltn (v := .ty "list") (by rfl) T.b_list (by decide +kernel) rfl) pa_nil))) (pe_callB (clIsi (K := K)) (by rfl) T.b_isinstance (by decide +kernel) (pa_cons (pv 1) (pa_cons (pe_bltn (v := .ty "list") (by rfl) T.b_list (by decide +kernel) rfl) pa_nil))) (nomark _))))) (pss_one (ps_ret pe_bl)) pss_nil)
      (pss_cons (ps_if (pt_cmpR op_ne (pe_callB (clLenQ (K := K)) (by rfl) T.b_len (by decide +kernel) (pa_cons (pv 0) pa_nil)) (pe_callB (clLenQ (K := K)) (by rfl) T.b_len (by decide +kernel) (pa_cons (pv 1) pa_nil)) (nomark _)) (pss_one (ps_ret pe_bl)) pss_nil)
      (pss_one (ps_ret (pe_callB (clAll (K := K)) (by rfl) T.b_all (by decide +kernel) (pa_cons (pe_lc (own := [("k", 2)]) (g := gName 2) rfl sc_law_alike.nd (pi_range1 rfl T.b_range (pa_cons (pe_callB (clLenQ (K := K)) (by rfl) T.b_len (by decide +kernel) (pa_cons (pv 1) pa_nil)) pa_nil)) (blkOk_by (own := [("k", 2)]) (N := ["got", "due", "k"]) (sc := defScope s_law_alike) (by decide +kernel)) (fun _ _ _ _ _ => pg_name (i := 2) sc_law_alike.nd rfl (Or.inl rfl)) (fun _ _ _ _ _ => pts_nil) (fun _ _ _ _ _ => (pcall D_law_alike hr (pa_cons (pe_ix (ixQ (K := K)) (pv 0) (pv 2) (fun _ _ => rfl)) (pa_cons (pe_ix (ixQ (K := K)) (pv 1) (pv 2) (fun _ _ => rfl)) pa_nil))))) pa_nil)))))) pss_nil)
      (pss_cons (ps_if (PW.pt (pw_or (pt_cmpR op_ne (pe_callB (clIsi (K := K)) (by rfl) T.b_isinstance (by decide +kernel) (pa_cons (pv 0) (pa_cons (pe_bltn (v := .ty "bool") (by rfl) T.b_bool (by decide +kernel) rfl) pa_nil))) (pe_callB (clIsi (K := K)) (by rfl) T.b_isinstance (by decide +kernel) (pa_cons (pv 1) (pa_cons (pe_bltn (v := .ty "bool") (by rfl) T.b_bool (by decide +kernel) rfl) pa_nil))) (nomark _)) (pw_or1 (pt_cmpR op_ne (pe_callB (clIsi (K := K)) (by rfl) T.b_isinstance (by decide +kernel) (pa_cons (pv 0) (pa_cons (pe_bltn (v := .ty "int") (by rfl) T.b_int (by decide +kernel) rfl) pa_nil))) (pe_callB (clIsi (K := K)) (by rfl) T.b_isinstance (by decide +kernel) (pa_cons (pv 1) (pa_cons (pe_bltn (v := .ty "int") (by rfl) T.b_int (by decide +kernel) rfl) pa_nil))) (nomark _))))) (pss_one (ps_ret pe_bl)) pss_nil)
      (pss_one (ps_ret (pe_and (pe_cmpR op_eq (pe_callB (clIsi (K := K)) (by rfl) T.b_isinstance (by decide +kernel) (pa_cons (pv 0) (pa_cons (pe_bltn (v := .ty "str") (by rfl) T.b_str (by decide +kernel) rfl) pa_nil))) (pe_callB (clIsi (K := K)) (by rfl) T.b_isinstance (by decide +kernel) (pa_cons (pv 1) (pa_cons (pe_bltn (v := .ty "str") (by rfl) T.b_str (by decide +kernel) rfl) pa_nil))) (nomark _)) (pe_one (pe_cmpR op_eq (pv 0) (pv 1) (nomark _)))))))), ?_⟩
    rw [show start ["got", "due", "k"] [v0, v1] = [some v0, some v1, none] from rfl]
    obtain ⟨F, d, hw, hx, hy, hn, hgd, q⟩ := h
    walk_at "go"
    refine ⟨le1000 (by simp), fun p np => ?_⟩
    have g1 : Gr [] F H F (upd H p (.tup [.ty "list", .ty "tuple"])) := .new hw np
    walk_at "go"
    refine u_isiT hy g1.fh upd_same (k_list d) (k_tuple d) ?_
    walk_at "go"
    cases hs : isSeq d with
    | false =>
      have e1 : isLst d = false := by cases d <;> first | rfl | cases hs
      have e2 : isTup d = false := by cases d <;> first | rfl | cases hs
      refine w_is (c := false) (by rw [e1, e2]; rfl) ?_
      obtain ⟨rfl, hsc⟩ := sca_of hx hy hs
      walk_at "go"
      refine u_isi hx g1.fh (k_bool d) ?_
      walk_at "go"
      refine u_isi hy g1.fh (k_bool d) ?_
      walk_at "go"
      refine u_isi hx g1.fh (k_int d) ?_
      walk_at "go"
      refine u_isi hy g1.fh (k_int d) ?_
      walk_at "go"
      refine u_isi hx g1.fh (k_str d) ?_
      walk_at "go"
      refine u_isi hy g1.fh (k_str d) ?_
      walk_at "go"
      refine ⟨hsc, ?_⟩
      rw [decide_eq_true rfl]
      exact q F _ g1
    | true =>
      refine w_is (c := true) (by cases d <;> first | rfl | cases hs) ?_
      obtain ⟨a, vs, rfl, ha, das⟩ := seq_of hx hs
      obtain ⟨b, us, rfl, hb, dbs⟩ := seq_of hy hs
      have hl : (itemsD d).length ≤ 100000 := good_len hgd
      walk_at "go"
      refine ⟨le1000 (by simp), fun p2 np2 => ?_⟩
      have g2 := g1.addm (o := .tup [.ty "list", .ty "tuple"]) np2
      walk_at "go"
      refine u_isiT hx g2.fh upd_same (k_list d) (k_tuple d) ?_
      walk_at "go"
      refine w_is (c := false) (by cases d <;> first | rfl | cases hs) ?_
      walk_at "go"
      refine u_isi hx g2.fh (k_list d) ?_
      walk_at "go"
      refine u_isi hy g2.fh (k_list d) ?_
      walk_at "go"
      refine ⟨a, vs, rfl, sq_same g2.fh ha, ?_⟩
      walk_at "go"
      refine ⟨b, us, rfl, sq_same g2.fh hb, ?_⟩
      walk_at "go"
      have el : vs.length = us.length := (dpa_len das).trans (dpa_len dbs).symm
      have lv : vs.length = (itemsD d).length := dpa_len das
      rw [el]
      refine w_nself ?_
      walk_at "go"
      refine ⟨b, us, rfl, sq_same g2.fh hb, ?_⟩
      walk_at "go"
      refine ⟨_, rfl, by omega, by omega, fun D nD => ?_⟩
      have g3 := g2.addm (o := .lst []) nD
      refine lc_rng (fun i H' => ∃ F2, Gr [] F H F2 H' ∧ Mu F2 H' D (.lst ((List.replicate i true).map V.bl))) ⟨F, g3, Mu.new g2.fh nD⟩ (fun i H' hi hp => ?_) (fun H' hp => ?_)
      · obtain ⟨F2, g, mu⟩ := hp
        have hi' : i < us.length := by omega
        have hid : (itemsD d)[i]? = some (itemsD d)[i] := List.getElem?_eq_getElem (by omega)
        obtain ⟨v, gv, dv⟩ := dpa_get das hid
        obtain ⟨u, gu, du⟩ := dpa_get dbs hid
        have hdep := depth_item hs hid
        show gName 2 _ [some (.ref a), some (.ref b), none] H' _
        walk_at "go"
        refine ⟨rfl, ?_⟩
        walk_at "go"
        have wF : Same F H' := g.ff.trans g.fh
        refine w_ixQ _ _ (sq_same wF ha) (atI_nat gv) ?_
        walk_at "go"
        refine w_ixQ _ _ (sq_same wF hb) (atI_nat gu) ?_
        walk_at "go"
        refine ⟨F2, _, g.fh, dp_same g.ff _ _ dv, dp_same g.ff _ _ du, by omega, good_item hgd hid, fun F3 H3 g3 => ?_⟩
        have mu3 := g3.mu0 mu
        refine ⟨_, mu3.h, small_lt (by rw [List.length_map, List.length_replicate]; omega), F3, (g.trans g3).wrn mu3.n (g2.fresh nD), ?_⟩
        rw [List.replicate_succ', List.map_append]
        exact mu3.wr
      · obtain ⟨F2, g, mu⟩ := hp
        walk_at "go"
        refine ⟨D, _, rfl, mu.sq, ?_⟩
        rw [all_rep]
        exact q F2 H' g
-- _law_number
theorem ok_law_number {f : Addr} {fd : FuncData} (F : FunD K "_law_number" "_law_number" (defArgs s_law_number) (defBody s_law_number) (defScope s_law_number) [] [] f fd) (T : Txt K mg) (D_law_draw : DO P w K mg base 2 "_law_draw" ["bag", "many"] [] (S2 (φdraw K))) : FnOk P w K mg base CX0 3 f fd ["bag", "base", "wide"] (S3 (φnumber K)) := by
  refine F.ok sc_law_number (fun vs H Q E h => ?_) (fun cdv A outer s H vs Q E hr h => ?_)
  · exact S3.len h
  · match vs, h with
    | [v0, v1, v2], h =>
    have hu := hu_of hr
    refine ⟨_, PSs.nox (pss_cons (ps_if (pt_cmpR op_eq (pcall D_law_draw hr (pa_cons (pv 0) (pa_cons pe_int pa_nil))) pe_int (nomark _)) (pss_one (ps_ret (pe_op op_sub (pe_ix (ixL (K := K)) (pe_lst (pa_cons (pe_op op_add (pv 1) pe_int) (pa_cons (pe_un un_neg pe_int) (pa_cons (pe_op op_pow pe_int pe_int) pa_nil)))) (pcall D_law_draw hr (pa_cons (pv 0) (pa_cons pe_int pa_nil))) (fun _ _ => rfl)) (pcall D_law_draw hr (pa_cons (pv 0) (pa_cons (pv 2) pa_nil)))))) pss_nil)
      (pss_one (ps_ret (pe_op op_add (pv 1) (pcall D_law_draw hr (pa_cons (pv 0) (pa_cons (pv 2) pa_nil))))))), ?_⟩
    rw [show start ["bag", "base", "wide"] [v0, v1, v2] = [some v0, some v1, some v2] from rfl]
    obtain ⟨b, base, wide, F, rfl, rfl, rfl, hw, hb, w0, w1, q⟩ := h
    walk_at "go"
    refine d_draw (Gr.refl (M := [b]) hw) hb (by decide) (by decide) fun r F1 H1 g _ hb _ _ => ?_
    walk_at "go"
    refine w_ite (fun hc => ?_) (fun hc => ?_)
    · walk_at "go"
      refine ⟨le1000 (by simp), fun p np => ?_⟩
      replace hb := hb.add (u := .lst ([base + 400, -1, 10 ^ (59 : Int).toNat].map V.int)) g.fh np
      replace g := g.add (o := .lst ([base + 400, -1, 10 ^ (59 : Int).toNat].map V.int)) np
      walk_at "go"
      refine d_draw g hb (by decide) (by decide) fun r2 F2 H2 g g1 hb r0 r1 => ?_
      obtain ⟨m, em⟩ := pick_int (ns := [base + 400, -1, 10 ^ (59 : Int).toNat]) r0 r1
      refine w_ixL _ _ (sqL_same g1.ws (sqL_of upd_same)) em ?_
      walk_at "go"
      refine d_draw g hb w0 w1 fun r3 F3 H3 g _ hb _ _ => ?_
      walk_at "go"
      exact q _ _ _ g hb
    · walk_at "go"
      refine d_draw g hb w0 w1 fun r3 F3 H3 g _ hb _ _ => ?_
      walk_at "go"
      exact q _ _ _ g hb
-- _law_any_writes
theorem ok_law_any_writes {f : Addr} {fd : FuncData} (F : FunD K "_law_any_writes" "_law_any_writes" (defArgs s_law_any_writes) (defBody s_law_any_writes) (defScope s_law_any_writes) [] [] f fd) (T : Txt K mg) (D_law_draw : DO P w K mg base 2 "_law_draw" ["bag", "many"] [] (S2 (φdraw K))) (D_law_number : DO P w K mg base 3 "_law_number" ["bag", "base", "wide"] [] (S3 (φnumber K))) (D_law_sign : DO P w K mg base 3 "_law_sign" ["bag", "few"] [] (S2 (φsign K))) : FnOk P w K mg base CX0 4 f fd ["bag", "many"] (S2 (φany_writes K)) := by
  refine F.ok sc_law_any_writes (fun vs H Q E h => ?_) (fun cdv A outer s H vs Q E hr h => ?_)
  · exact S2.len h
  · match vs, h with
    | [v0, v1], h =>
    have hu := hu_of hr
    refine ⟨_, PSs.nox (pss_cons (ps_set (i := 2) sc_law_any_writes.nd rfl (.inl rfl) (pe_ix (ixL (K := K)) (pe_lst (pa_cons pe_int (pa_cons pe_int (pa_cons pe_int (pa_cons pe_int (pa_cons pe_int pa_nil)))))) (pcall D_law_draw hr (pa_cons (pv 0) (pa_cons pe_int pa_nil))) (fun _ _ => rfl)))
      (C8.pss_cut (ps_set (i := 3) sc_law_any_writes.nd rfl (.inl rfl) (pe_ifExp (pt_cmpR op_eq (pcall D_law_draw hr (pa_cons (pv 0) (pa_cons pe_int pa_nil))) pe_int (nomark _)) (pcall D_law_draw hr (pa_cons (pv 0) (pa_cons (pe_op op_pow pe_int pe_int) pa_nil))) pe_int))
      (pss_cons (ps_set (i := 4) sc_law_any_writes.nd rfl (.inl rfl) (pe_lst pa_nil))
      (pss_cons (ps_for PassesOwn.never rfl (pi_range1 rfl T.b_range (pa_cons (pv 1) pa_nil)) (pg_name (i := 5) sc_law_any_writes.nd rfl (.inl rfl)) (pss_cons (ps_set (i := 6) sc_law_any_writes.nd rfl (.inl rfl) (pe_ix (ixL (K := K)) (pe_lst (pa_cons pe_str (pa_cons pe_str (pa_cons pe_str pa_nil)))) (pcall D_law_draw hr (pa_cons (pv 0) (pa_cons pe_int pa_nil))) (fun _ _ => rfl)))
      (pss_cons (ps_set (i := 7) sc_law_any_writes.nd rfl (.inl rfl) (pe_ix (ixL (K := K)) (pe_lst (pa_cons pe_str (pa_cons pe_str (pa_cons pe_str (pa_cons pe_str pa_nil))))) (pcall D_law_draw hr (pa_cons (pv 0) (pa_cons pe_int pa_nil))) (fun _ _ => rfl)))
      (pss_cons (ps_set (i := 8) sc_law_any_writes.nd rfl (.inl rfl) (pcall D_law_number hr (pa_cons (pv 0) (pa_cons (pv 3) (pa_cons (pv 2) pa_nil)))))
      (C8.pss_cut (ps_set (i := 9) sc_law_any_writes.nd rfl (.inl rfl) (pe_ifExp (pt_cmpR op_eq (pv 7) pe_str (nomark _)) (pcall D_law_sign hr (pa_cons (pv 0) (pa_cons pe_bl pa_nil))) (pcall D_law_number hr (pa_cons (pv 0) (pa_cons (pv 3) (pa_cons (pv 2) pa_nil))))))
      (pss_one (ps_expr (peBM (K := K) PySem.F.plainAttrs_list PySem.F.slot_list_append PySem.F.type_list_append mt_append (pv 4) (pa_cons (pe_tup (pa_cons (pv 6) (pa_cons (pv 8) (pa_cons (pv 7) (pa_cons (pv 9) pa_nil))))) pa_nil)))))))))
      (pss_one (ps_ret (pv 4))))))), ?_⟩
    rw [show start ["bag", "many", "wide", "base", "acts", "k", "where", "source", "number", "what"] [v0, v1] = [some v0, some v1, none, none, none, none, none, none, none, none] from rfl]
    obtain ⟨b, many, F, rfl, rfl, hw, hb, n0, n1, q⟩ := h
    walk_at "go"
    refine ⟨le1000 (by simp), fun p np => ?_⟩
    have g0 := (Gr.refl (M := [b]) hw).add (o := .lst ([2, 3, 6, 30, 400].map V.int)) np
    replace hb := hb.add (u := .lst ([2, 3, 6, 30, 400].map V.int)) hw np
    walk_at "go"
    refine d_draw g0 hb (by decide) (by decide) fun wi F1 H1 g g1 hb w0 w1 => ?_
    obtain ⟨wd, ewd, wd0, wd1⟩ := pick_ix (ns := [2, 3, 6, 30, 400]) (lo := 2) (hi := 400) w0 w1 (by decide)
    walk_at "go"
    refine w_ixL _ _ (sqL_same g1.ws (sqL_of upd_same)) ewd ?_
    walk_at "go"
    refine w_cut (fun σ H5 => ∃ (F5 : Hp) (bs : Int), σ = [some (.ref b), some (.int many), some (.int wd), some (.int bs), none, none, none, none, none, none] ∧ Gr [b] F H F5 H5 ∧ Bag K F5 H5 b) ?_ (fun σ H5 hp => ?_)
    · walk_at "go"
      refine d_draw g hb (by decide) (by decide) fun r F5 H5 g g1 hb _ _ => ?_
      walk_at "go"
      refine w_ite (fun _ => ?_) (fun _ => ?_)
      · walk_at "go"
        refine d_draw g hb (by decide) (by decide) fun r F5 H5 g g1 hb _ _ => ?_
        walk_at "go"
        exact ⟨F5, _, rfl, g, hb⟩
      · walk_at "go"
        exact ⟨F5, _, rfl, g, hb⟩
    obtain ⟨F5, bs, rfl, g, hb⟩ := hp
    walk_at "go"
    refine ⟨le1000 (by simp), fun D nD => ?_⟩
    have nbD := hb.ne_new nD
    have nD0 := g.fresh nD
    have mD := Mu.new (o := .lst []) g.fh nD
    replace hb := hb.addm (u := .lst []) nD
    replace g := g.addm (o := .lst []) nD
    have hDb : D ∉ [b] := by simp; exact nbD.symm
    walk_at "go"
    refine ⟨_, rfl, by omega, by omega, f_range0 (fun i σ H' => ∃ (F2 : Hp) (vs : List V) (acts : List WAct) (y5 y6 y7 y8 y9 : Option V), σ = [some (.ref b), some (.int many), some (.int wd), some (.int bs), some (.ref D), y5, y6, y7, y8, y9] ∧ Gr [b] F H F2 H' ∧ Bag K F2 H' b ∧ Mu F2 H' D (.lst vs) ∧ DpAll K F2 vs (acts.map WAct.d) ∧ (∀ t ∈ acts, t.ok) ∧ acts.length ≤ i) ⟨F5, [], [], none, none, none, none, none, rfl, g, hb, mD, .nil, by simp, Nat.le_refl _⟩ (fun i σ H' hi hp => ?_) (fun σ H' hp => ?_)⟩
    · obtain ⟨F2, vs, acts, y5, y6, y7, y8, y9, rfl, g, hb, mD, dv, oks, hlen⟩ := hp
      walk_at "go"
      refine ⟨le1000 (by simp), fun p np => ?_⟩
      have s1 := Same.new (o := .lst (([("cell" : Str), "cell", "slot"] : List Str).map V.str)) (g.fh.free np)
      replace mD := mD.add (u := .lst (([("cell" : Str), "cell", "slot"] : List Str).map V.str)) np
      replace hb := hb.add (u := .lst (([("cell" : Str), "cell", "slot"] : List Str).map V.str)) g.fh np
      replace g := g.add (o := .lst (([("cell" : Str), "cell", "slot"] : List Str).map V.str)) np
      replace dv := dpa_same s1 _ _ dv
      walk_at "go"
      refine d_draw g hb (by decide) (by decide) fun r F3 H3 g g1 hb r0 r1 => ?_
      replace mD := g1.mu mD hDb
      replace dv := dpa_same g1.ff _ _ dv
      obtain ⟨wz, mz, ez⟩ := pick_str (zs := ["cell", "cell", "slot"]) r0 r1
      walk_at "go"
      refine w_ixL _ _ (sqL_same g1.ws (sqL_of upd_same)) ez ?_
      walk_at "go"
      refine ⟨le1000 (by simp), fun p np => ?_⟩
      have s1 := Same.new (o := .lst (([("cell" : Str), "cell", "slot", "sign"] : List Str).map V.str)) (g.fh.free np)
      replace mD := mD.add (u := .lst (([("cell" : Str), "cell", "slot", "sign"] : List Str).map V.str)) np
      replace hb := hb.add (u := .lst (([("cell" : Str), "cell", "slot", "sign"] : List Str).map V.str)) g.fh np
      replace g := g.add (o := .lst (([("cell" : Str), "cell", "slot", "sign"] : List Str).map V.str)) np
      replace dv := dpa_same s1 _ _ dv
      walk_at "go"
      refine d_draw g hb (by decide) (by decide) fun r F3 H3 g g1 hb r0 r1 => ?_
      replace mD := g1.mu mD hDb
      replace dv := dpa_same g1.ff _ _ dv
      obtain ⟨sz, msz, esz⟩ := pick_str (zs := ["cell", "cell", "slot", "sign"]) r0 r1
      walk_at "go"
      refine w_ixL _ _ (sqL_same g1.ws (sqL_of upd_same)) esz ?_
      walk_at "go"
      refine ⟨b, bs, wd, F3, rfl, rfl, rfl, g.fh, hb, by omega, by omega, fun num F4 H4 g1 hb => ?_⟩
      replace mD := g1.mu mD hDb
      replace dv := dpa_same g1.ff _ _ dv
      replace g := g.trans g1
      walk_at "go"
      refine w_cut (fun σ H5 => ∃ (F5 : Hp) (k : Key), σ = [some (.ref b), some (.int many), some (.int wd), some (.int bs), some (.ref D), some (.int i), some (.str wz), some (.str sz), some (.int num), some (kV k)] ∧ keyOk k ∧ Gr [b] F H F5 H5 ∧ Bag K F5 H5 b ∧ Mu F5 H5 D (.lst vs) ∧ DpAll K F5 vs (acts.map WAct.d)) ?_ (fun σ H5 hp => ?_)
      · walk_at "go"
        refine w_ite (fun _ => ?_) (fun _ => ?_)
        · walk_at "go"
          refine ⟨b, false, F4, rfl, rfl, g.fh, hb, fun z F6 H6 g1 hb hz oz => ?_⟩
          walk_at "go"
          exact ⟨F6, .inr z, rfl, ⟨oz, by omega⟩, g.trans g1, hb, g1.mu mD hDb, dpa_same g1.ff _ _ dv⟩
        · walk_at "go"
          refine ⟨b, bs, wd, F4, rfl, rfl, rfl, g.fh, hb, by omega, by omega, fun num2 F6 H6 g1 hb => ?_⟩
          walk_at "go"
          exact ⟨F6, .inl num2, rfl, True.intro, g.trans g1, hb, g1.mu mD hDb, dpa_same g1.ff _ _ dv⟩
      obtain ⟨F6, k, rfl, hk, g, hb, mD, dv⟩ := hp
      walk_at "go"
      refine ⟨le1000 (by simp), fun p np => ?_⟩
      have s1 := Same.new (o := .tup [.str wz, .int num, .str sz, kV k]) (g.fh.free np)
      replace mD := mD.add (u := .tup [.str wz, .int num, .str sz, kV k]) np
      replace hb := hb.add (u := .tup [.str wz, .int num, .str sz, kV k]) g.fh np
      replace g := g.add (o := .tup [.str wz, .int num, .str sz, kV k]) np
      replace dv := dpa_same s1 _ _ dv
      have hvl : vs.length ≤ 3000 := by
        rw [dpa_len dv, List.length_map]
        omega
      have okw : ∀ z ∈ (["cell", "cell", "slot"] : List Str), okS z ∧ z.length ≤ 100 := by decide +kernel
      have oks2 : ∀ z ∈ (["cell", "cell", "slot", "sign"] : List Str), okS z ∧ z.length ≤ 100 := by decide +kernel
      walk_at "go"
      refine ⟨_, vs ++ [.ref p], acts ++ [⟨wz, num, sz, k⟩], _, _, _, _, _, rfl, g.wrn mD.n nD0, hb.put nbD, mD.wr, ?_, ?_, by rw [List.length_append]; show acts.length + 1 ≤ i + 1; omega⟩
      · rw [List.map_append]
        exact dpa_snoc dv (.tup (sqT_of upd_same) (.cons (.str _) (.cons (.int _) (.cons (.str _) (.cons (key_dp k) .nil)))))
      · intro t ht
        rcases List.mem_append.mp ht with ht | ht
        · exact oks t ht
        · rw [List.mem_singleton.mp ht]
          exact ⟨okw wz mz, oks2 sz msz, hk⟩
    · obtain ⟨F2, vs, acts, y5, y6, y7, y8, y9, rfl, g, hb, mD, dv, oks, hlen⟩ := hp
      walk_at "go"
      exact q D acts _ H' (g.frz nD0 mD) (hb.frz mD.n nbD) (.lst (sqL_of upd_same) (dpa_same (Same.new mD.n) _ _ dv)) oks (by omega)
-- _law_any_marks
theorem ok_law_any_marks {f : Addr} {fd : FuncData} (F : FunD K "_law_any_marks" "_law_any_marks" (defArgs s_law_any_marks) (defBody s_law_any_marks) (defScope s_law_any_marks) [] [] f fd) (T : Txt K mg) (D_law_draw : DO P w K mg base 2 "_law_draw" ["bag", "many"] [] (S2 (φdraw K))) (D_law_good_marks : DO P w K mg base 3 "_law_good_marks" ["bag", "acts", "often"] [] (S3 (φgood_marks K))) : FnOk P w K mg base CX0 4 f fd ["bag", "acts"] (S2 (φany_marks K)) := by
  refine F.ok sc_law_any_marks (fun vs H Q E h => ?_) (fun cdv A outer s H vs Q E hr h => ?_)
  · exact S2.len h
  · match vs, h with
    | [v0, v1], h =>
    have hu := hu_of hr
    refine ⟨_, PSs.nox (pss_cons (ps_set (i := 2) sc_law_any_marks.nd rfl (.inl rfl) (pcall D_law_draw hr (pa_cons (pv 0) (pa_cons pe_int pa_nil))))
      (pss_cons (ps_set (i := 3) sc_law_any_marks.nd rfl (.inr rfl) (pe_ix (ixL (K := K)) (pe_lst (pa_cons pe_int (pa_cons pe_int (pa_cons pe_int (pa_cons pe_int pa_nil))))) (pcall D_law_draw hr (pa_cons (pv 0) (pa_cons pe_int pa_nil))) (fun _ _ => rfl)))
      (C8.pss_cut (ps_if (PW.pt (pw_or (pt_cmpR op_eq (pv 2) pe_int (nomark _)) (pw_or1 (pt_cmpR op_lt (pe_callB (clLenQ (K := K)) (by rfl) T.b_len (by decide +kernel) (pa_cons (pv 1) pa_nil)) pe_int (nomark _))))) (pss_one (ps_ret (pe_lst pa_nil))) pss_nil)
      (pss_cons (ps_if (pt_cmpR op_eq (pv 2) pe_int (nomark _)) (pss_one (ps_ret (pe_listRg rfl (by rfl) T.b_list (prg_2 (by rfl) T.b_range pe_int (pe_callB (clLenQ (K := K)) (by rfl) T.b_len (by decide +kernel) (pa_cons (pv 1) pa_nil)))))) pss_nil)
      (pss_cons (ps_if (pt_cmpR op_eq (pv 2) pe_int (nomark _)) (pss_one (ps_ret (pe_lc (own := [("m", 8)]) (g := gName 8) rfl sc_law_any_marks.nd (pi_range2 rfl T.b_range (pa_cons pe_int (pa_cons (pe_callB (clLenQ (K := K)) (by rfl) T.b_len (by decide +kernel) (pa_cons (pv 1) pa_nil)) pa_nil))) (blkOk_by (own := [("m", 8)]) (N := ["bag", "acts", "way", "often", "bars", "at", "mark", "rest", "m"]) (sc := defScope s_law_any_marks) (by decide +kernel)) (fun _ _ _ _ _ => pg_name (i := 8) sc_law_any_marks.nd rfl (Or.inl rfl)) (fun _ _ _ _ _ => pts_one (pt_cmpR op_eq (pcall D_law_draw hr (pa_cons (pv 0) (pa_cons (pv 3) pa_nil))) pe_int (nomark _))) (fun _ _ _ _ _ => (pv 8))))) pss_nil)
      (pss_cons (ps_set (i := 4) sc_law_any_marks.nd rfl (.inl rfl) (pcall D_law_good_marks hr (pa_cons (pv 0) (pa_cons (pv 1) (pa_cons (pv 3) pa_nil)))))
      (C8.pss_cut (ps_if (PW.pt (pw_or (pt_cmpR op_eq (pv 2) pe_int (nomark _)) (pw_or1 (pt_cmpR (opEqD (K := K) hr.units) (pv 4) (pe_lst pa_nil) (nomark _))))) (pss_one (ps_ret (pv 4))) pss_nil)
      (pss_cons (ps_set (i := 5) sc_law_any_marks.nd rfl (.inl rfl) (pcall D_law_draw hr (pa_cons (pv 0) (pa_cons (pe_callB (clLenQ (K := K)) (by rfl) T.b_len (by decide +kernel) (pa_cons (pv 4) pa_nil)) pa_nil))))
      (pss_cons (ps_set (i := 6) sc_law_any_marks.nd rfl (.inl rfl) (pe_op op_sub (pe_op op_add (pe_ix (ixL (K := K)) (pv 4) (pv 5) (fun _ _ => rfl)) (pcall D_law_draw hr (pa_cons (pv 0) (pa_cons pe_int pa_nil)))) pe_int))
      (pss_cons (ps_set (i := 7) sc_law_any_marks.nd rfl (.inl rfl) (pe_op op_cat (pe_slice (slL (K := K)) (pv 4) po_none (po_some (pv 5))) (pe_slice (slL (K := K)) (pv 4) (po_some (pe_op op_add (pv 5) pe_int)) po_none)))
      (C8.pss_cut (ps_if (PW.pt (pw_or (pt_cmpR op_eq (pv 2) pe_int (nomark _)) (pw_or (pt_cmpR (opIn (K := K)) (pv 6) (pv 7) (by rfl)) (pw_or (pt_cmpR op_lt (pv 6) pe_int (nomark _)) (pw_or1 (pt_cmpR op_ge (pv 6) (pe_callB (clLenQ (K := K)) (by rfl) T.b_len (by decide +kernel) (pa_cons (pv 1) pa_nil)) (nomark _))))))) (pss_one (ps_ret (pv 7))) pss_nil)
      (pss_one (ps_ret (pe_callB (clSortI (K := K)) (by rfl) T.b_sorted (by decide +kernel) (pa_cons (pe_op op_cat (pv 7) (pe_lst (pa_cons (pv 6) pa_nil))) pa_nil))))))))))))))), ?_⟩
    rw [show start ["bag", "acts", "way", "often", "bars", "at", "mark", "rest", "m"] [v0, v1] = [some v0, some v1, none, none, none, none, none, none, none] from rfl]
    obtain ⟨b, acts, F, rfl, hw, hb, hx, hn, q⟩ := h
    obtain ⟨a, us, rfl, hS, dus⟩ := dp_list hx
    have hlen : us.length = acts.length := by rw [dpa_len dus, List.length_map]
    walk_at "go"
    refine d_draw (Gr.refl (M := [b]) hw) hb (by decide) (by decide) fun way F1 H1 g _ hb _ _ => ?_
    walk_at "go"
    refine ⟨le1000 (by simp), fun p np => ?_⟩
    replace hb := hb.add (u := .lst ([2, 3, 8, 40].map V.int)) g.fh np
    replace g := g.add (o := .lst ([2, 3, 8, 40].map V.int)) np
    walk_at "go"
    refine d_draw g hb (by decide) (by decide) fun oi F2 H2 g g1 hb w0 w1 => ?_
    obtain ⟨often, eo, o0, o1⟩ := pick_ix (ns := [2, 3, 8, 40]) (lo := 2) (hi := 40) w0 w1 (by decide)
    walk_at "go"
    refine w_ixL _ _ (sqL_same g1.ws (sqL_of upd_same)) eo ?_
    walk_at "go"
    have hS2 := sqL_same g.ws hS
    refine w_cut (fun σ H5 => σ = [some (.ref b), some (.ref a), some (.int way), some (.int often), none, none, none, none, none] ∧ H5 = H2) ?_ (fun σ H5 hp => ?_)
    · walk_at "go"
      refine w_ite (fun _ => ?_) (fun _ => ?_)
      · walk_at "go"
        refine ⟨le1000 (by simp), fun p np => ?_⟩
        exact q p [] _ _ (g.add np) (hb.add g.fh np) ⟨upd_same, by simp, by simp⟩
      · walk_at "go"
        refine w_ite (fun _ => ?_) (fun _ => ?_)
        · walk_at "go"
          refine ⟨le1000 (by simp), fun p np => ?_⟩
          exact q p [] _ _ (g.add np) (hb.add g.fh np) ⟨upd_same, by simp, by simp⟩
        · walk_at "go"
          exact ⟨rfl, rfl⟩
    obtain ⟨rfl, rfl⟩ := hp
    walk_at "go"
    refine w_ite (fun _ => ?_) (fun _ => ?_)
    · walk_at "go"
      refine ⟨1, us.length, rfl, rfl, ⟨by omega, by omega, by omega, by omega, by omega⟩, fun p np => ?_⟩
      have er : rgV 1 us.length = nV ((List.range (acts.length - 1)).map (1 + ·)) := by
        unfold rgV nV
        rw [List.map_map, show ((us.length : Int) - 1).toNat = acts.length - 1 by omega]
        refine List.map_congr_left fun k _ => ?_
        show V.int (1 + (k : Int)) = V.int (((1 + k : Nat)) : Int)
        rw [Int.natCast_add]
        rfl
      rw [er]
      refine q p _ _ _ (g.add np) (hb.add g.fh np) ⟨upd_same, fun k hk => ?_, by rw [List.length_map, List.length_range]; omega⟩
      obtain ⟨k, hk2, rfl⟩ := List.mem_map.mp hk
      have := List.mem_range.mp hk2
      show 1 ≤ 1 + k ∧ 1 + k < acts.length
      omega
    walk_at "go"
    refine w_ite (fun _ => ?_) (fun _ => ?_)
    · walk_at "go"
      refine ⟨1, us.length, rfl, ⟨by omega, by omega, by omega, by omega⟩, fun D nD => ?_⟩
      have nbD := hb.ne_new nD
      have hDb : D ∉ [b] := by simp; exact nbD.symm
      have nD0 := g.fresh nD
      refine lc_range (lo := 1) (n := ((us.length : Int) - 1).toNat) (fun i H' => ∃ (F3 : Hp) (ms : List Nat), Gr [b] F H F3 H' ∧ Bag K F3 H' b ∧ Mu F3 H' D (.lst (nV ms)) ∧ (∀ k ∈ ms, 1 ≤ k ∧ k < acts.length) ∧ ms.length ≤ i) ⟨F2, [], g.addm nD, hb.addm nD, Mu.new g.fh nD, by simp, Nat.le_refl _⟩ (fun i H' hi hp => ?_) (fun H' hp => ?_)
      · obtain ⟨F3, ms, g, hb, mD, hm, hl⟩ := hp
        walk_at "wp"
        walk_at "go"
        refine ⟨rfl, ?_⟩
        walk_at "go"
        refine d_draw g hb (by omega) (by omega) fun r F4 H4 g g1 hb _ _ => ?_
        replace mD := g1.mu mD hDb
        walk_at "go"
        refine w_ite (fun _ => ?_) (fun _ => ?_)
        · walk_at "go"
          refine ⟨_, mD.h, small_lt (by unfold nV; rw [List.length_map]; omega), F4, ms ++ [1 + i], g.wrn mD.n nD0, hb.put nbD, ?_, fun k hk => ?_, by rw [List.length_append, List.length_singleton]; omega⟩
          · rw [show nV (ms ++ [1 + i]) = nV ms ++ [.int (1 + (i : Int))] by unfold nV; rw [List.map_append, List.map_singleton, Int.natCast_add]; rfl]
            exact mD.wr
          · rcases List.mem_append.mp hk with hk | hk
            · exact hm k hk
            · rw [List.mem_singleton.mp hk]
              omega
        · exact ⟨F4, ms, g, hb, mD, hm, by omega⟩
      · obtain ⟨F3, ms, g, hb, mD, hm, hl⟩ := hp
        exact q D ms _ H' (g.frz nD0 mD) (hb.frz mD.n nbD) ⟨upd_same, hm, by omega⟩
    walk_at "go"
    refine ⟨b, often, acts, F2, rfl, rfl, g.fh, hb, dp_same g.ff _ _ hx, hn, by omega, by omega, fun p ms F3 H3 g3 hb hM => ?_⟩
    replace g := g.trans g3
    walk_at "go"
    refine w_cut (fun σ H5 => ms.length ≠ 0 ∧ σ = [some (.ref b), some (.ref a), some (.int way), some (.int often), some (.ref p), none, none, none, none] ∧ Gr [b] F H F3 H5 ∧ Bag K F3 H5 b) ?_ (fun σ H5 hp => ?_)
    · walk_at "go"
      refine w_ite (fun _ => ?_) (fun _ => ?_)
      · walk_at "go"
        exact q p ms _ _ g hb hM
      · walk_at "go"
        refine ⟨le1000 (by simp), fun p9 np9 => ?_⟩
        replace g := g.addm (o := .lst []) np9
        replace hb := hb.addm (u := .lst []) np9
        refine u_empN (sqL_same g.fh (sqL_of hM.at_)) (sqL_of upd_same) (by have := hM.len; omega) ?_
        walk_at "go"
        refine w_ite (fun _ => ?_) (fun h0 => ?_)
        · walk_at "go"
          exact q p ms _ _ g hb hM
        · walk_at "go"
          exact ⟨h0, rfl, g, hb⟩
    obtain ⟨h0, rfl, g, hb⟩ := hp
    have hnl : (nV ms).length = ms.length := by unfold nV; rw [List.length_map]
    have hml := hM.len
    have hB := sqL_same (K := K) g.fh (sqL_of hM.at_)
    walk_at "go"
    rw [hnl]
    refine d_draw g hb (by omega) (by omega) fun r F4 H4 g g1 hb r0 r1 => ?_
    obtain ⟨rn, rfl⟩ : ∃ rn : Nat, r = (rn : Int) := ⟨r.toNat, by omega⟩
    replace hM := hM.same g1.ff
    have hB := sqL_same (K := K) g.fh (sqL_of hM.at_)
    have hrn : rn < ms.length := by omega
    have hget : (nV ms)[rn]? = some (.int (ms[rn] : Nat)) := by
      unfold nV
      rw [List.getElem?_map, List.getElem?_eq_getElem hrn]
      rfl
    walk_at "go"
    refine w_ixL _ _ hB (atI_nat hget) ?_
    walk_at "go"
    refine d_draw g hb (by decide) (by decide) fun r F5 H5 g g1 hb r0 r1 => ?_
    replace hM := hM.same g1.ff
    have hB := sqL_same (K := K) g.fh (sqL_of hM.at_)
    walk_at "go"
    obtain ⟨mark, hmk⟩ : ∃ mark : Int, mark = ((ms[rn] : Nat) : Int) + r - 1 := ⟨_, rfl⟩
    rw [← hmk]
    intro l1 nl1
    rw [cut_take]
    have m1 := Mu.new (o := .lst (nV (ms.take rn))) g.fh nl1
    replace g := g.addm (o := .lst (nV (ms.take rn))) nl1
    replace hb := hb.addm (u := .lst (nV (ms.take rn))) nl1
    have hB := sqL_same (K := K) g.fh (sqL_of hM.at_)
    walk_at "go"
    have e1 : ((rn : Int) + 1) = ((rn + 1 : Nat) : Int) := by omega
    rw [e1]
    intro l2 nl2
    rw [cut_drop]
    replace m1 := m1.addm (u := .lst (nV (ms.drop (rn + 1)))) nl2
    replace g := g.addm (o := .lst (nV (ms.drop (rn + 1)))) nl2
    replace hb := hb.addm (u := .lst (nV (ms.drop (rn + 1)))) nl2
    refine ⟨l1, l2, _, _, rfl, rfl, m1.h, upd_same, szle (by unfold nV; rw [List.length_map, List.length_map, List.length_take, List.length_drop]; omega), fun p3 np3 => ?_⟩
    rw [show nV (ms.take rn) ++ nV (ms.drop (rn + 1)) = nV (ms.take rn ++ ms.drop (rn + 1)) by unfold nV; rw [List.map_append]]
    have hrm : ∀ k ∈ ms.take rn ++ ms.drop (rn + 1), 1 ≤ k ∧ k < acts.length := by
      intro k hk
      rcases List.mem_append.mp hk with hk | hk
      · exact hM.ok k (List.mem_of_mem_take hk)
      · exact hM.ok k (List.mem_of_mem_drop hk)
    have hrl : (ms.take rn ++ ms.drop (rn + 1)).length + 1 = ms.length := by
      rw [List.length_append, List.length_take, List.length_drop]
      omega
    generalize ms.take rn ++ ms.drop (rn + 1) = rest at hrm hrl ⊢
    replace hb := hb.add (u := .lst (nV rest)) g.fh np3
    replace g := g.add (o := .lst (nV rest)) np3
    have hR : Mks (upd F5 p3 (.lst (nV rest))) p3 acts.length rest := ⟨upd_same, hrm, by omega⟩
    generalize hF6 : upd F5 p3 (.lst (nV rest)) = F6 at g hb hR
    generalize upd (upd (upd H5 l1 (.lst (nV (ms.take rn)))) l2 (.lst (nV (ms.drop (rn + 1))))) p3 (.lst (nV rest)) = H6 at g hb ⊢
    have hB2 := sqL_same (K := K) g.fh (sqL_of hR.at_)
    walk_at "go"
    refine w_cut (fun σ H5 => 1 ≤ mark ∧ mark < (acts.length : Int) ∧ σ = [some (.ref b), some (.ref a), some (.int way), some (.int often), some (.ref p), some (.int (rn : Nat)), some (.int mark), some (.ref p3), none] ∧ H5 = H6) ?_ (fun σ H5 hp => ?_)
    · walk_at "go"
      refine w_ite (fun _ => ?_) (fun _ => ?_)
      · walk_at "go"
        exact q p3 rest _ _ g hb hR
      walk_at "go"
      refine w_inN hB2 (fun c => ?_)
      walk_at "go"
      refine w_iteb (fun _ => ?_) (fun _ => ?_)
      · walk_at "go"
        exact q p3 rest _ _ g hb hR
      walk_at "go"
      refine w_ite (fun _ => ?_) (fun _ => ?_)
      · walk_at "go"
        exact q p3 rest _ _ g hb hR
      walk_at "go"
      refine w_ite (fun _ => ?_) (fun _ => ?_)
      · walk_at "go"
        exact q p3 rest _ _ g hb hR
      walk_at "go"
      exact ⟨by omega, by omega, rfl, rfl⟩
    obtain ⟨k0, k1, rfl, rfl⟩ := hp
    walk_at "go"
    refine ⟨le1000 (by simp), fun p4 np4 => ?_⟩
    replace g := g.addm (o := .lst [.int mark]) np4
    replace hb := hb.addm (u := .lst [.int mark]) np4
    refine ⟨p3, p4, nV rest, _, rfl, rfl, g.fh _ _ hR.at_, upd_same, szle (by unfold nV; rw [List.length_map, List.length_singleton]; omega), fun p5 np5 => ?_⟩
    replace g := g.addm (o := .lst (nV rest ++ [.int mark])) np5
    replace hb := hb.addm (u := .lst (nV rest ++ [.int mark])) np5
    walk_at "go"
    have es : nV rest ++ [.int mark] = (rest.map (fun k : Nat => (k : Int)) ++ [mark]).map V.int := by
      unfold nV
      rw [List.map_append, List.map_map]
      rfl
    refine ⟨p5, rest.map (fun k : Nat => (k : Int)) ++ [mark], rfl, by rw [es]; exact sqL_of upd_same, fun ys p6 perm _ np6 => ?_⟩
    obtain ⟨ms', em, hm, hml'⟩ := ints_nat (n := acts.length) (ys := ys) fun k hk => by
      rcases List.mem_append.mp (perm.mem_iff.mp hk) with hk | hk
      · obtain ⟨z, hz, rfl⟩ := List.mem_map.mp hk
        have := hrm z hz
        omega
      · rw [List.mem_singleton.mp hk]
        exact ⟨k0, k1⟩
    rw [em]
    refine q p6 ms' _ _ (g.add np6) (hb.add g.fh np6) ⟨upd_same, hm, ?_⟩
    rw [hml', perm.length_eq, List.length_append, List.length_map, List.length_singleton]
    omega
-- law
theorem ok_law {f : Addr} {fd : FuncData} (F : FunD K "law" "law" (defArgs s_law) (defBody s_law) (defScope s_law) [] [] f fd) (T : Txt K mg) (D_law_alike : DO P w K mg base 6 "_law_alike" ["got", "due"] [] (S2 (φalike K 6))) (D_law_any_marks : DO P w K mg base 4 "_law_any_marks" ["bag", "acts"] [] (S2 (φany_marks K))) (D_law_any_writes : DO P w K mg base 4 "_law_any_writes" ["bag", "many"] [] (S2 (φany_writes K))) (D_law_bag : DO P w K mg base 1 "_law_bag" ["script"] [] (S1 (φbag K))) (D_law_draw : DO P w K mg base 2 "_law_draw" ["bag", "many"] [] (S2 (φdraw K))) (D_law_first_fault : DO P w K mg base 2 "_law_first_fault" ["acts", "bars"] [] (S2 (φmark K))) (D_mark_fault : DO P w K mg base 2 "mark_fault" ["some", "marks"] [] (S2 (φmark K))) (DK_mark_fault_0_some_marks : DK P w K mg base 2 "mark_fault" ["some", "marks"] 0 ["some", "marks"] [(1, 0), (1, 1)] [] (S2 (φmark K))) : FnOk P w K mg base CX0 12 f fd ["script"] (S1 (φlaw K)) := by
  refine F.ok sc_law (fun vs H Q E h => ?_) (fun cdv A outer s H vs Q E hr h => ?_)
  · exact S1.len h
  · match vs, h with
    | [v0], h =>
    have hu := hu_of hr
    refine ⟨_, PSs.nox (pss_cons (ps_set (i := 1) sc_law.nd rfl (.inr rfl) (pcall D_law_bag hr (pa_cons (pv 0) pa_nil)))
      (pss_cons (ps_set (i := 2) sc_law.nd rfl (.inl rfl) (pe_cmpR op_eq (pcall D_law_draw hr (pa_cons (pv 1) (pa_cons pe_int pa_nil))) pe_int (nomark _)))
      (pss_cons (ps_set (i := 3) sc_law.nd rfl (.inl rfl) (pe_ix (ixL (K := K)) (pe_lst (pa_cons pe_int (pa_cons pe_int (pa_cons pe_int (pa_cons pe_int (pa_cons pe_int (pa_cons pe_int (pa_cons pe_int (pa_cons pe_int pa_nil))))))))) (pcall D_law_draw hr (pa_cons (pv 1) (pa_cons pe_int pa_nil))) (fun _ _ => rfl)))
      (pss_cons (ps_set (i := 4) sc_law.nd rfl (.inr rfl) (pcall D_law_any_writes hr (pa_cons (pv 1) (pa_cons (pcall D_law_draw hr (pa_cons (pv 1) (pa_cons (pv 3) pa_nil))) pa_nil))))
      (pss_cons (ps_setLc (i := 5) (own := [("k", 10)]) (g := gName 10) rfl sc_law.nd rfl rfl (sw_true rfl rfl rfl (by decide +kernel)) (pi_range1 rfl T.b_range (pa_cons (pe_op op_add pe_int (pcall D_law_draw hr (pa_cons (pv 1) (pa_cons pe_int pa_nil)))) pa_nil)) (blkOk_by (own := [("k", 10)]) (N := ["script", "bag", "named", "long", "acts", "lists", "bars", "handed", "got", "due", "k"]) (sc := defScope s_law) (by decide +kernel)) (fun _ _ _ _ _ => pg_name (i := 10) sc_law.nd rfl (Or.inl rfl)) (fun _ _ _ _ _ => pts_nil) (fun _ _ _ _ _ => (pcall D_law_any_marks hr (pa_cons (pv 1) (pa_cons (pv 4) pa_nil)))))
      (pss_cons (ps_for PassesOwn.never rfl (pi_list (pe_op op_cat (pv 5) (pe_slice (slL (K := K)) (pv 5) po_none (po_some pe_int)))) (pg_name (i := 6) sc_law.nd rfl (.inl rfl)) (pss_cons (ps_set (i := 7) sc_law.nd rfl (.inl rfl) (pe_lst (pa_cons (pe_callTy (clListOf (K := K)) (by rfl) T.b_list (by decide +kernel) (pa_cons (pv 4) pa_nil)) (pa_cons (pe_callTy (clListOf (K := K)) (by rfl) T.b_list (by decide +kernel) (pa_cons (pv 6) pa_nil)) pa_nil))))
      (C8.pss_cut (ps_set (i := 8) sc_law.nd rfl (.inl rfl) (pe_ifExp (pt_val (pv 2)) (pcallK0 DK_mark_fault_0_some_marks hr (pk_cons (pe_ix (ixL (K := K)) (pv 7) pe_int (fun _ _ => rfl)) (pk_cons (pe_ix (ixL (K := K)) (pv 7) pe_int (fun _ _ => rfl)) pk_nil))) (pcall D_mark_fault hr (pa_cons (pe_ix (ixL (K := K)) (pv 7) pe_int (fun _ _ => rfl)) (pa_cons (pe_ix (ixL (K := K)) (pv 7) pe_int (fun _ _ => rfl)) pa_nil)))))
      (pss_cons (ps_set (i := 9) sc_law.nd rfl (.inl rfl) (pcall D_law_first_fault hr (pa_cons (pv 4) (pa_cons (pv 6) pa_nil))))
      (C8.pss_cut (ps_if (PW.pt (pw_or (PW.pt (pw_and (pt_cmp (pc_isN (pv 9)) (by rfl)) (pw_and1 (pt_cmp (pc_notN (pv 8)) (by rfl))))) (pw_or1 (PW.pt (pw_and (pt_cmp (pc_notN (pv 9)) (by rfl)) (pw_and1 (pt_not (pt_val (pcall D_law_alike hr (pa_cons (pv 8) (pa_cons (pv 9) pa_nil))))))))))) (pss_one (ps_ret pe_bl)) pss_nil)
      (pss_one (ps_if (pt_cmpR (opNeD (K := K) hr.units) (pv 7) (pe_lst (pa_cons (pv 4) (pa_cons (pv 6) pa_nil))) (nomark _)) (pss_one (ps_ret pe_bl)) pss_nil)))))))
      (pss_one (ps_ret pe_bl)))))))), ?_⟩
    rw [show start ["script", "bag", "named", "long", "acts", "lists", "bars", "handed", "got", "due", "k"] [v0] = [some v0, none, none, none, none, none, none, none, none, none, none] from rfl]
    obtain ⟨sc, ns, rfl, hS, hl, q⟩ := h
    walk_at "go"
    refine ⟨sc, ns, rfl, hS, hl, fun b F1 H1 g0 hb => ?_⟩
    walk_at "go"
    refine d_draw (Gr.refl (M := [b]) g0.fh) hb (by decide) (by decide) fun fw F2 H2 g _ hb f0 f1 => ?_
    walk_at "go"
    generalize decide (fw = 1) = named
    refine ⟨le1000 (by simp), fun p np => ?_⟩
    replace hb := hb.add (u := .lst ([13, 13, 13, 13, 13, 61, 301, 2001].map V.int)) g.fh np
    replace g := g.add (o := .lst ([13, 13, 13, 13, 13, 61, 301, 2001].map V.int)) np
    walk_at "go"
    refine d_draw g hb (by decide) (by decide) fun li F3 H3 g g1 hb w0 w1 => ?_
    obtain ⟨long, el, l0, l1⟩ := pick_ix (ns := [13, 13, 13, 13, 13, 61, 301, 2001]) (lo := 13) (hi := 2001) w0 w1 (by decide)
    walk_at "go"
    refine w_ixL _ _ (sqL_same g1.ws (sqL_of upd_same)) el ?_
    walk_at "go"
    refine d_draw g hb (by omega) (by omega) fun many F4 H4 g g1 hb w0 w1 => ?_
    walk_at "go"
    refine ⟨b, many, F4, rfl, rfl, g.fh, hb, w0, by omega, fun a acts F5 H5 g1 hb hx oks hn => ?_⟩
    replace g := g.trans g1
    obtain ⟨_, us, ea, hS, dus⟩ := dp_list hx
    cases ea
    walk_at "go"
    refine d_draw g hb (by decide) (by decide) fun r F6 H6 g g1 hb w0 w1 => ?_
    replace hx := dp_same g1.ff _ _ hx
    replace hS := sqL_same g1.ff hS
    replace dus := dpa_same g1.ff _ _ dus
    walk_at "go"
    refine ⟨_, rfl, by omega, by omega, fun L nL => ?_⟩
    have nbL := hb.ne_new nL
    have hLb : L ∉ [b] := by simp; exact nbL.symm
    have nL0 := g.fresh nL
    refine lc_rng (n := (1 + r).toNat) (fun i H' => ∃ (F7 : Hp) (vs : List V), Gr [b] F1 H1 F7 H' ∧ Same F6 F7 ∧ Bag K F7 H' b ∧ Mu F7 H' L (.lst vs) ∧ (∀ v ∈ vs, PL F7 acts.length v) ∧ vs.length ≤ i) ⟨F6, [], g.addm nL, Same.refl _, hb.addm nL, Mu.new g.fh nL, by simp, Nat.le_refl _⟩ (fun i H' hi hp => ?_) (fun H' hp => ?_)
    · obtain ⟨F7, vs, g, s7, hb, mL, hv, hvl⟩ := hp
      walk_at "wp"
      walk_at "go"
      refine ⟨rfl, ?_⟩
      walk_at "go"
      refine ⟨b, acts, F7, rfl, g.fh, hb, dp_same s7 _ _ hx, hn, fun p ms F8 H8 g1 hb hM => ?_⟩
      replace mL := g1.mu mL hLb
      refine ⟨vs, mL.h, small_lt (by omega), F8, vs ++ [.ref p], (g.trans g1).wrn mL.n nL0, s7.trans g1.ff, hb.put nbL, mL.wr, fun v hv' => ?_, by rw [List.length_append, List.length_singleton]; omega⟩
      rcases List.mem_append.mp hv' with h | h
      · exact (hv v h).same g1.ff
      · rw [List.mem_singleton.mp h]
        exact ⟨p, ms, rfl, hM⟩
    obtain ⟨F7, vs, g, s7, hb, mL, hv, hvl⟩ := hp
    replace hx := dp_same s7 _ _ hx
    replace hS := sqL_same s7 hS
    replace dus := dpa_same s7 _ _ dus
    have hS' := sqL_same g.fh hS
    walk_at "go"
    have hLS : SqL K H' L vs := sqL_of mL.h
    walk_at "go"
    intro l1 nl1
    replace mL := mL.addm (u := .lst (cutV vs none (some 1))) nl1
    replace hb := hb.addm (u := .lst (cutV vs none (some 1))) nl1
    replace g := g.addm (o := .lst (cutV vs none (some 1))) nl1
    have hcl := cutV_length vs none (some 1)
    refine ⟨L, l1, vs, _, rfl, rfl, mL.h, upd_same, szle (by omega), fun l2 nl2 => ?_⟩
    have hv2 : ∀ v ∈ vs ++ cutV vs none (some 1), PL F7 acts.length v := by
      intro v h
      rcases List.mem_append.mp h with h | h
      · exact hv v h
      · unfold cutV at h
        exact hv v (List.mem_of_mem_drop (List.mem_of_mem_take h))
    generalize vs ++ cutV vs none (some 1) = ws at hv2 ⊢
    have sw := Same.new (o := .lst ws) (g.fh.free nl2)
    replace hb := hb.add (u := .lst ws) g.fh nl2
    replace g := g.add (o := .lst ws) nl2
    have hW := sqL_of (K := K) (upd_at (F := F7) (p := l2) (o := .lst ws))
    replace hx := dp_same sw _ _ hx
    replace hS := sqL_same sw hS
    replace dus := dpa_same sw _ _ dus
    have hv3 : ∀ v ∈ ws, PL (upd F7 l2 (.lst ws)) acts.length v := fun v h => (hv2 v h).same sw
    generalize upd F7 l2 (.lst ws) = F8 at g hb hW hx hS dus hv3
    refine ⟨l2, rfl, ⟨_, sqL_same g.fh hW⟩, f_list (xs := ws) (fun i σ H' => ∃ (F9 : Hp) (y6 y7 y8 y9 y10 : Option V), σ = [some (.ref sc), some (.ref b), some (.bl named), some (.int long), some (.ref a), some (.ref L), y6, y7, y8, y9, y10] ∧ Gr [b] F1 H1 F9 H' ∧ Same F8 F9 ∧ Bag K F9 H' b) ⟨F8, _, _, _, _, _, rfl, g, Same.refl _, hb⟩ (fun i σ H' _ hp => ?_) (fun i x σ H' hx' hp => ?_) (fun σ H' hp => ?_)⟩
    · obtain ⟨F9, y6, y7, y8, y9, y10, rfl, g, s9, hb⟩ := hp
      exact sqL_same (s9.trans g.fh) hW
    · obtain ⟨F9, y6, y7, y8, y9, y10, rfl, g, s9, hb⟩ := hp
      obtain ⟨m, ms, rfl, hM⟩ := (hv3 x (List.mem_of_getElem? hx')).same s9
      have hS9 := sqL_same (s9.trans g.fh) hS
      have hx9 := dp_same s9 _ _ hx
      have dus9 := dpa_same s9 _ _ dus
      have hlen : us.length = acts.length := by rw [dpa_len dus, List.length_map]
      have hml := hM.len
      have hmB := sqL_same (K := K) g.fh (sqL_of hM.at_)
      walk_at "go"
      intro c1 nc1
      have sw := Same.new (o := .lst us) (g.fh.free nc1)
      replace hb := hb.add (u := .lst us) g.fh nc1
      replace g := g.add (o := .lst us) nc1
      have hmB := sqL_same (K := K) g.fh (sqL_of (hM.same sw).at_)
      walk_at "go"
      intro c2 nc2
      have sw2 := Same.new (o := .lst (nV ms)) (g.fh.free nc2)
      replace hb := hb.add (u := .lst (nV ms)) g.fh nc2
      replace g := g.add (o := .lst (nV ms)) nc2
      have sw3 := sw.trans sw2
      have hc1 : Dp K (upd (upd F9 c1 (.lst us)) c2 (.lst (nV ms))) (.ref c1) (.list (acts.map WAct.d)) := .lst (sqL_same sw2 (sqL_of upd_same)) (dpa_same sw3 _ _ dus9)
      have hc2 : Mks (upd (upd F9 c1 (.lst us)) c2 (.lst (nV ms))) c2 acts.length ms := ⟨upd_same, hM.ok, hM.len⟩
      replace hM := hM.same sw3
      replace hx9 := dp_same sw3 _ _ hx9
      have s9' := s9.trans sw3
      generalize upd (upd F9 c1 (.lst us)) c2 (.lst (nV ms)) = F10 at g hb hc1 hc2 hM hx9 s9'
      walk_at "go"
      refine ⟨le1000 (by simp), fun hd nhd => ?_⟩
      have sw := Same.new (o := .lst [.ref c1, .ref c2]) (g.fh.free nhd)
      replace hb := hb.add (u := .lst [.ref c1, .ref c2]) g.fh nhd
      replace g := g.add (o := .lst [.ref c1, .ref c2]) nhd
      have hh : Dp K (upd F10 hd (.lst [.ref c1, .ref c2])) (.ref hd) (.list [.list (acts.map WAct.d), natsD ms]) := .lst (sqL_of upd_same) (.cons (dp_same sw _ _ hc1) (.cons (.lst (sqL_of (sw _ _ hc2.at_)) (dpa_nV ms)) .nil))
      have hhs : SqL K (upd F10 hd (.lst [.ref c1, .ref c2])) hd [.ref c1, .ref c2] := sqL_of upd_same
      replace hM := hM.same sw
      replace hc2 := hc2.same sw
      replace hc1 := dp_same sw _ _ hc1
      replace hx9 := dp_same sw _ _ hx9
      replace s9' := s9'.trans sw
      generalize upd F10 hd (.lst [.ref c1, .ref c2]) = F11 at g hb hh hhs hM hc1 hc2 hx9 s9'
      have hhs' := sqL_same g.fh hhs
      have hma : ∀ k ∈ ms, k ≤ acts.length := fun k hk => Nat.le_of_lt (hM.ok k hk).2
      walk_at "go"
      refine w_cut (fun σ H5 => ∃ (v : V) (F5 : Hp), σ = [some (.ref sc), some (.ref b), some (.bl named), some (.int long), some (.ref a), some (.ref L), some (.ref m), some (.ref hd), some v, y9, y10] ∧ Gr [b] F1 H1 F5 H5 ∧ Same F11 F5 ∧ Bag K F5 H5 b ∧ ResV F5 v (firstFault acts 0 (ms ++ [acts.length]))) ?_ (fun σ H5 hp => ?_)
      · walk_at "go"
        refine w_iteb (fun _ => ?_) (fun _ => ?_)
        · walk_at "go"
          refine ⟨rfl, rfl, F11, acts, c2, ms, rfl, g.fh, hc1, hc2.at_, hma, by omega, by omega, fun v F5 H5 g5 hr => ?_⟩
          walk_at "go"
          exact ⟨v, F5, rfl, g.trans g5.up, g5.ff, hb.keep0 g5, hr⟩
        · walk_at "go"
          refine ⟨F11, acts, c2, ms, rfl, g.fh, hc1, hc2.at_, hma, by omega, by omega, fun v F5 H5 g5 hr => ?_⟩
          walk_at "go"
          exact ⟨v, F5, rfl, g.trans g5.up, g5.ff, hb.keep0 g5, hr⟩
      obtain ⟨v, F12, rfl, g, s12, hb, hr⟩ := hp
      replace hM := hM.same s12
      replace hx9 := dp_same s12 _ _ hx9
      replace hh := dp_same s12 _ _ hh
      replace s9' := s9'.trans s12
      walk_at "go"
      refine ⟨F12, acts, m, ms, rfl, g.fh, hx9, hM.at_, hma, by omega, by omega, fun u F13 H13 g13 hr2 => ?_⟩
      replace hr := hr.same g13.ff
      replace hM := hM.same g13.ff
      replace hx9 := dp_same g13.ff _ _ hx9
      replace hh := dp_same g13.ff _ _ hh
      replace s9' := s9'.trans g13.ff
      replace hb := hb.keep0 g13
      replace g := g.trans g13.up
      walk_at "go"
      refine w_cut (fun σ H5 => ∃ (F5 : Hp), σ = [some (.ref sc), some (.ref b), some (.bl named), some (.int long), some (.ref a), some (.ref L), some (.ref m), some (.ref hd), some v, some u, y10] ∧ Gr [b] F1 H1 F5 H5 ∧ Same F13 F5 ∧ Bag K F5 H5 b) ?_ (fun σ H5 hp => ?_)
      · cases e : firstFault acts 0 (ms ++ [acts.length]) with
        | none =>
          rw [e] at hr hr2
          cases hr
          cases hr2
          walk_at "go"
          exact ⟨F13, rfl, g, Same.refl _, hb⟩
        | some ij =>
          obtain ⟨i1, j1⟩ := ij
          rw [e] at hr hr2
          obtain ⟨pv, rfl, hpv⟩ := hr
          obtain ⟨pu, rfl, hpu⟩ := hr2
          walk_at "go"
          refine w_ite (fun z => by cases z) (fun _ => ?_)
          walk_at "go"
          refine w_iteN (fun _ => ?_) (fun z => by cases z)
          walk_at "go"
          have d1 : Dp K F13 (.ref pv) (.tuple [.int (i1 : Nat), .int (j1 : Nat)]) := .tup (sqT_of hpv) (.cons (.int _) (.cons (.int _) .nil))
          have d2 : Dp K F13 (.ref pu) (.tuple [.int (i1 : Nat), .int (j1 : Nat)]) := .tup (sqT_of hpu) (.cons (.int _) (.cons (.int _) .nil))
          refine ⟨F13, _, g.fh, d1, d2, by show 1 < 6; decide, rfl, fun F5 H5 g5 => ?_⟩
          walk_at "go"
          exact ⟨F5, rfl, g.trans g5.up, g5.ff, hb.keep0 g5⟩
      obtain ⟨F14, rfl, g, s14, hb⟩ := hp
      replace hM := hM.same s14
      replace hx9 := dp_same s14 _ _ hx9
      replace hh := dp_same s14 _ _ hh
      replace s9' := s9'.trans s14
      have ga := acts_good oks (show acts.length ≤ 100000 by omega)
      have gn := nats_good (show ms.length ≤ 100000 by omega)
      have gg : good (.list [.list (acts.map WAct.d), natsD ms]) = true := by
        refine good_list (by simp) fun d hd => ?_
        simp only [List.mem_cons, List.not_mem_nil, or_false] at hd
        rcases hd with rfl | rfl
        · exact ga.1
        · exact gn.1
      have gdp : (PyData.list [.list (acts.map WAct.d), natsD ms]).depth ≤ 3 := by
        refine depth_list fun d hd => ?_
        simp only [List.mem_cons, List.not_mem_nil, or_false] at hd
        rcases hd with rfl | rfl
        · exact ga.2
        · exact Nat.le_trans gn.2 (by decide)
      walk_at "go"
      refine ⟨le1000 (by simp), fun w nw => ?_⟩
      have sw := Same.new (o := .lst [.ref a, .ref m]) (g.fh.free nw)
      replace hb := hb.add (u := .lst [.ref a, .ref m]) g.fh nw
      replace g := g.add (o := .lst [.ref a, .ref m]) nw
      have hw2 : Dp K (upd F14 w (.lst [.ref a, .ref m])) (.ref w) (.list [.list (acts.map WAct.d), natsD ms]) := .lst (sqL_of upd_same) (.cons (dp_same sw _ _ hx9) (.cons (.lst (sqL_of (sw _ _ hM.at_)) (dpa_nV ms)) .nil))
      refine u_neD g.fh (dp_same sw _ _ hh) hw2 gg (Nat.le_trans gdp (by decide)) ?_
      walk_at "go"
      exact ⟨_, _, _, _, _, _, rfl, g, s9'.trans sw, hb⟩
    · obtain ⟨F9, y6, y7, y8, y9, y10, rfl, g, s9, hb⟩ := hp
      walk_at "go"
      exact q _
end

def d_stretch_fault : He.DefD := ⟨("stretch_fault", none), "stretch_fault", "stretch_fault", defArgs s_stretch_fault, defBody s_stretch_fault, defScope s_stretch_fault, [], []⟩
def d_mark_fault : He.DefD := ⟨("mark_fault", none), "mark_fault", "mark_fault", defArgs s_mark_fault, defBody s_mark_fault, defScope s_mark_fault, [], []⟩
def d_law_bag : He.DefD := ⟨("_law_bag", none), "_law_bag", "_law_bag", defArgs s_law_bag, defBody s_law_bag, defScope s_law_bag, [], []⟩
def d_law_stirred : He.DefD := ⟨("_law_stirred", none), "_law_stirred", "_law_stirred", defArgs s_law_stirred, defBody s_law_stirred, defScope s_law_stirred, [], []⟩
def d_law_draw : He.DefD := ⟨("_law_draw", none), "_law_draw", "_law_draw", defArgs s_law_draw, defBody s_law_draw, defScope s_law_draw, [], []⟩
def d_law_sign : He.DefD := ⟨("_law_sign", none), "_law_sign", "_law_sign", defArgs s_law_sign, defBody s_law_sign, defScope s_law_sign, [], []⟩
def d_law_fault_from : He.DefD := ⟨("_law_fault_from", none), "_law_fault_from", "_law_fault_from", defArgs s_law_fault_from, defBody s_law_fault_from, defScope s_law_fault_from, [], []⟩
def d_law_first_fault : He.DefD := ⟨("_law_first_fault", none), "_law_first_fault", "_law_first_fault", defArgs s_law_first_fault, defBody s_law_first_fault, defScope s_law_first_fault, [], []⟩
def d_law_good_marks : He.DefD := ⟨("_law_good_marks", none), "_law_good_marks", "_law_good_marks", defArgs s_law_good_marks, defBody s_law_good_marks, defScope s_law_good_marks, [], []⟩
def d_law_alike : He.DefD := ⟨("_law_alike", none), "_law_alike", "_law_alike", defArgs s_law_alike, defBody s_law_alike, defScope s_law_alike, [], []⟩
def d_law_number : He.DefD := ⟨("_law_number", none), "_law_number", "_law_number", defArgs s_law_number, defBody s_law_number, defScope s_law_number, [], []⟩
def d_law_any_writes : He.DefD := ⟨("_law_any_writes", none), "_law_any_writes", "_law_any_writes", defArgs s_law_any_writes, defBody s_law_any_writes, defScope s_law_any_writes, [], []⟩
def d_law_any_marks : He.DefD := ⟨("_law_any_marks", none), "_law_any_marks", "_law_any_marks", defArgs s_law_any_marks, defBody s_law_any_marks, defScope s_law_any_marks, [], []⟩
def d_law : He.DefD := ⟨("law", none), "law", "law", defArgs s_law, defBody s_law, defScope s_law, [], []⟩
def fn : List He.DefD := [d_stretch_fault, d_mark_fault, d_law_bag, d_law_stirred, d_law_draw, d_law_sign, d_law_fault_from, d_law_first_fault, d_law_good_marks, d_law_alike, d_law_number, d_law_any_writes, d_law_any_marks, d_law]
def fa : List He.Fa := [.free "abs", .free "all", .free "bool", .free "int", .free "isinstance", .free "len", .free "list", .free "range", .free "sorted", .free "str", .free "tuple", .glo "stretch_fault", .glo "mark_fault", .glo "_law_bag", .glo "_law_stirred", .glo "_law_draw", .glo "_law_sign", .glo "_law_fault_from", .glo "_law_first_fault", .glo "_law_good_marks", .glo "_law_alike", .glo "_law_number", .glo "_law_any_writes", .glo "_law_any_marks", .glo "law"]
abbrev RR : PySem.W.OpenRow := PySem.W.OpenLaw.row PySem.Challenge.rw_remadehere_k53_marks_judged
abbrev hk : PySem.W.Hook := He.hookD 4 fa fn
def ob (s : PySem.W.SharedT) : He.AlD := He.obsDG 4 fa fn (HandSHeadRun.getT s)
theorem ob_eq (s : PySem.W.SharedT) : ob s = hk.obs s.abs := He.obsDG_eq (HandSHeadRun.getT_eq s)
theorem run (w : World) : HandSHeadRun.RunEq RR (PySem.W.view RR.prog [15]) hk ob 3000 ["stretch_fault", "mark_fault", "_law_bag", "_law_stirred", "_law_draw", "_law_sign", "_law_fault_from", "_law_first_fault", "_law_good_marks", "_law_alike", "_law_number", "_law_any_writes", "_law_any_marks"] w := by
  intro os
  kernel_rfl
theorem facts {P : Program} {w : World} {K : PySem.W.Frag} {mg : Str → Option Value} {h : Heap} {f : Addr} (X : K.In h) (G : h.Ns mainGlobals mg) (hfa : mg ("law" : Str) = some (.ref f)) (c : He.SaysD fa fn K) :
    ∃ fd : FuncData, (∀ (s : Shared) (v : Value), BindsTo s fd ⟨[v], []⟩ [("script", v)]) ∧ ∀ base : Heap, K.In base → base.Ns mainGlobals mg → FnOk P w K mg base CX0 12 f fd ["script"] (S1 (φlaw K)) := by
  have T : Txt K mg := ⟨He.free_ok X G (c.fact 0 (f := .free "abs") rfl), He.free_ok X G (c.fact 1 (f := .free "all") rfl), He.free_ok X G (c.fact 2 (f := .free "bool") rfl), He.free_ok X G (c.fact 3 (f := .free "int") rfl), He.free_ok X G (c.fact 4 (f := .free "isinstance") rfl), He.free_ok X G (c.fact 5 (f := .free "len") rfl), He.free_ok X G (c.fact 6 (f := .free "list") rfl), He.free_ok X G (c.fact 7 (f := .free "range") rfl), He.free_ok X G (c.fact 8 (f := .free "sorted") rfl), He.free_ok X G (c.fact 9 (f := .free "str") rfl), He.free_ok X G (c.fact 10 (f := .free "tuple") rfl)⟩
  obtain ⟨fd_stretch_fault, F_stretch_fault⟩ := c.def_ 0 (d := d_stretch_fault) rfl
  obtain ⟨fd_mark_fault, F_mark_fault⟩ := c.def_ 1 (d := d_mark_fault) rfl
  obtain ⟨fd_law_bag, F_law_bag⟩ := c.def_ 2 (d := d_law_bag) rfl
  obtain ⟨fd_law_stirred, F_law_stirred⟩ := c.def_ 3 (d := d_law_stirred) rfl
  obtain ⟨fd_law_draw, F_law_draw⟩ := c.def_ 4 (d := d_law_draw) rfl
  obtain ⟨fd_law_sign, F_law_sign⟩ := c.def_ 5 (d := d_law_sign) rfl
  obtain ⟨fd_law_fault_from, F_law_fault_from⟩ := c.def_ 6 (d := d_law_fault_from) rfl
  obtain ⟨fd_law_first_fault, F_law_first_fault⟩ := c.def_ 7 (d := d_law_first_fault) rfl
  obtain ⟨fd_law_good_marks, F_law_good_marks⟩ := c.def_ 8 (d := d_law_good_marks) rfl
  obtain ⟨fd_law_alike, F_law_alike⟩ := c.def_ 9 (d := d_law_alike) rfl
  obtain ⟨fd_law_number, F_law_number⟩ := c.def_ 10 (d := d_law_number) rfl
  obtain ⟨fd_law_any_writes, F_law_any_writes⟩ := c.def_ 11 (d := d_law_any_writes) rfl
  obtain ⟨fd_law_any_marks, F_law_any_marks⟩ := c.def_ 12 (d := d_law_any_marks) rfl
  obtain ⟨fd_law, F_law⟩ := c.def_ 13 (d := d_law) rfl
  have D_stretch_fault : ∀ base, DO P w K mg base 1 "stretch_fault" ["some", "first", "last"] [] (S3 (φfault K)) := fun base => ⟨_, _, [], ok_stretch_fault F_stretch_fault T , He.glo_ok X G (c.fact 11 (f := .glo "stretch_fault") rfl), F_stretch_fault.kp, F_stretch_fault.bindsN fun _ _ _ _ _ _ us hl => match us, hl with | [_, _, _], _ => rfl, .nil⟩
  have D_mark_fault : ∀ base, DO P w K mg base 2 "mark_fault" ["some", "marks"] [] (S2 (φmark K)) := fun base => ⟨_, _, [], ok_mark_fault F_mark_fault T (D_stretch_fault base), He.glo_ok X G (c.fact 12 (f := .glo "mark_fault") rfl), F_mark_fault.kp, F_mark_fault.bindsN fun _ _ _ _ _ _ us hl => match us, hl with | [_, _], _ => rfl, .nil⟩
  have DK_mark_fault_0_some_marks : ∀ base, DK P w K mg base 2 "mark_fault" ["some", "marks"] 0 ["some", "marks"] [(1, 0), (1, 1)] [] (S2 (φmark K)) := fun base => ⟨_, _, [], ok_mark_fault F_mark_fault T (D_stretch_fault base), He.glo_ok X G (c.fact 12 (f := .glo "mark_fault") rfl), F_mark_fault.kp, kbN F_mark_fault (fun _ _ _ _ _ _ us ws hu hw => match us, ws, hu, hw with | [], [_, _], _, _ => rfl)⟩
  have D_law_bag : ∀ base, DO P w K mg base 1 "_law_bag" ["script"] [] (S1 (φbag K)) := fun base => ⟨_, _, [], ok_law_bag F_law_bag T , He.glo_ok X G (c.fact 13 (f := .glo "_law_bag") rfl), F_law_bag.kp, F_law_bag.bindsN fun _ _ _ _ _ _ us hl => match us, hl with | [_], _ => rfl, .nil⟩
  have D_law_stirred : ∀ base, DO P w K mg base 1 "_law_stirred" ["bag", "many"] [] (S2 (φdraw K)) := fun base => ⟨_, _, [], ok_law_stirred F_law_stirred T , He.glo_ok X G (c.fact 14 (f := .glo "_law_stirred") rfl), F_law_stirred.kp, F_law_stirred.bindsN fun _ _ _ _ _ _ us hl => match us, hl with | [_, _], _ => rfl, .nil⟩
  have D_law_draw : ∀ base, DO P w K mg base 2 "_law_draw" ["bag", "many"] [] (S2 (φdraw K)) := fun base => ⟨_, _, [], ok_law_draw F_law_draw T (D_law_stirred base), He.glo_ok X G (c.fact 15 (f := .glo "_law_draw") rfl), F_law_draw.kp, F_law_draw.bindsN fun _ _ _ _ _ _ us hl => match us, hl with | [_, _], _ => rfl, .nil⟩
  have D_law_sign : ∀ base, DO P w K mg base 3 "_law_sign" ["bag", "few"] [] (S2 (φsign K)) := fun base => ⟨_, _, [], ok_law_sign F_law_sign T (D_law_draw base), He.glo_ok X G (c.fact 16 (f := .glo "_law_sign") rfl), F_law_sign.kp, F_law_sign.bindsN fun _ _ _ _ _ _ us hl => match us, hl with | [_, _], _ => rfl, .nil⟩
  have D_law_fault_from : ∀ base, DO P w K mg base 1 "_law_fault_from" ["acts", "first", "last"] [] (S3 (φfault K)) := fun base => ⟨_, _, [], ok_law_fault_from F_law_fault_from T , He.glo_ok X G (c.fact 17 (f := .glo "_law_fault_from") rfl), F_law_fault_from.kp, F_law_fault_from.bindsN fun _ _ _ _ _ _ us hl => match us, hl with | [_, _, _], _ => rfl, .nil⟩
  have D_law_first_fault : ∀ base, DO P w K mg base 2 "_law_first_fault" ["acts", "bars"] [] (S2 (φmark K)) := fun base => ⟨_, _, [], ok_law_first_fault F_law_first_fault T (D_law_fault_from base), He.glo_ok X G (c.fact 18 (f := .glo "_law_first_fault") rfl), F_law_first_fault.kp, F_law_first_fault.bindsN fun _ _ _ _ _ _ us hl => match us, hl with | [_, _], _ => rfl, .nil⟩
  have D_law_good_marks : ∀ base, DO P w K mg base 3 "_law_good_marks" ["bag", "acts", "often"] [] (S3 (φgood_marks K)) := fun base => ⟨_, _, [], ok_law_good_marks F_law_good_marks T (D_law_draw base) (D_law_fault_from base), He.glo_ok X G (c.fact 19 (f := .glo "_law_good_marks") rfl), F_law_good_marks.kp, F_law_good_marks.bindsN fun _ _ _ _ _ _ us hl => match us, hl with | [_, _, _], _ => rfl, .nil⟩
  have D_law_alike : ∀ base, DO P w K mg base 6 "_law_alike" ["got", "due"] [] (S2 (φalike K 6)) := fun base => recDO (φ := fun n => (S2 (φalike K n))) (fun vs H Q E h => alike0 h) (He.glo_ok X G (c.fact 20 (f := .glo "_law_alike") rfl)) F_law_alike.kp (F_law_alike.bindsN fun _ _ _ _ _ _ us hl => match us, hl with | [_, _], _ => rfl) (fun n ih => ok_law_alike F_law_alike T ih) 6
  have D_law_number : ∀ base, DO P w K mg base 3 "_law_number" ["bag", "base", "wide"] [] (S3 (φnumber K)) := fun base => ⟨_, _, [], ok_law_number F_law_number T (D_law_draw base), He.glo_ok X G (c.fact 21 (f := .glo "_law_number") rfl), F_law_number.kp, F_law_number.bindsN fun _ _ _ _ _ _ us hl => match us, hl with | [_, _, _], _ => rfl, .nil⟩
  have D_law_any_writes : ∀ base, DO P w K mg base 4 "_law_any_writes" ["bag", "many"] [] (S2 (φany_writes K)) := fun base => ⟨_, _, [], ok_law_any_writes F_law_any_writes T (D_law_draw base) (D_law_number base) (D_law_sign base), He.glo_ok X G (c.fact 22 (f := .glo "_law_any_writes") rfl), F_law_any_writes.kp, F_law_any_writes.bindsN fun _ _ _ _ _ _ us hl => match us, hl with | [_, _], _ => rfl, .nil⟩
  have D_law_any_marks : ∀ base, DO P w K mg base 4 "_law_any_marks" ["bag", "acts"] [] (S2 (φany_marks K)) := fun base => ⟨_, _, [], ok_law_any_marks F_law_any_marks T (D_law_draw base) (D_law_good_marks base), He.glo_ok X G (c.fact 23 (f := .glo "_law_any_marks") rfl), F_law_any_marks.kp, F_law_any_marks.bindsN fun _ _ _ _ _ _ us hl => match us, hl with | [_, _], _ => rfl, .nil⟩
  have e := hfa.symm.trans (He.glo_ok X G (c.fact 24 (f := .glo "law") rfl))
  cases e
  have b := FunD.bindsA (ps := ["script"]) F_law fun _ _ _ _ _ _ us hl => match us, hl with | [_], _ => rfl
  exact ⟨fd_law, fun s v => b s [v] rfl, fun base _ _ => ok_law F_law T (D_law_alike base) (D_law_any_marks base) (D_law_any_writes base) (D_law_bag base) (D_law_draw base) (D_law_first_fault base) (D_mark_fault base) (DK_mark_fault_0_some_marks base)⟩
end Z
open PySem PySem.W PySem.Calls PyProof.Rows
theorem PySem.Challenge.cw_remadehere_k53_marks_judged_holds : PySem.Challenge.rw_remadehere_k53_marks_judged.Holds := by
  w_on; o_law
  refine HandSHeadRun.head_any (r := OpenLaw.row PySem.Challenge.rw_remadehere_k53_marks_judged) (q := view (OpenLaw.row PySem.Challenge.rw_remadehere_k53_marks_judged).prog [15]) (H := Z.hk) (ob := Z.ob) (M := 3000) (loose := ["stretch_fault", "mark_fault", "_law_bag", "_law_stirred", "_law_draw", "_law_sign", "_law_fault_from", "_law_first_fault", "_law_good_marks", "_law_alike", "_law_number", "_law_any_writes", "_law_any_marks"]) (d := HandSHeadRun.topDef (OpenLaw.row PySem.Challenge.rw_remadehere_k53_marks_judged).prog 15) (kwd := []) Z.ob_eq
    (by kernel_rfl) (fun s => by kernel_rfl) Z.run (by kernel_rfl) (by kernel_rfl) (by kernel_rfl) (by rfl) (by first | assumption | decide +kernel) (by decide +kernel) ⟨rfl, rfl, rfl, rfl, rfl, by decide +kernel⟩ ?hw ?hc
  case hw => w_witness2
  case hc =>
    refine L2.walk_ofE (l := PySem.Challenge.rw_remadehere_k53_marks_judged) (n := 63) (k := 12) (x := "script") (CX := L2.CX0) rfl (by decide) (by kernel_rfl) ⟨rfl, by decide, by decide⟩ ?F (fun _ _ _ _ z => z)
    intro w mg fa h Y G hmg0
    obtain ⟨K, KX, c⟩ := Y
    have hmg : mg ("law" : PySem.Str) = some (.ref fa) := by
      have e : (HandSHeadRun.topDef (OpenLaw.row PySem.Challenge.rw_remadehere_k53_marks_judged).prog 15).name = ("law" : PySem.Str) := by kernel_rfl
      rw [← e]
      exact hmg0
    obtain ⟨fd, hb, hF⟩ := Z.facts (P := (PySem.Challenge.rw_remadehere_k53_marks_judged).prog) (w := w) KX G hmg c
    exact ⟨K, fd, (R.S1 (R.φlaw K)), KX, hb, fun H a ns hl hO hS => R.law_start a ns hl hO hS, hF⟩
