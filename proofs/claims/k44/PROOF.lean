import PyProof.Rows.All
import Wide.All
import OpenK.AllK
import Wide.FinOn
import KE.KStateDown
import Lean
import HandS.Base
import HandS.Call
import HandS.List
import HandS.Comp
import HandS.Ends
import HandS.Dict
import HandS.Iter
import HandS.Text
import HandS.Words
import HandS.WordsList
import HandS.Defaults
import HandS.IsInst
import HandS.Wide
import HandS.WideBits
import HandS.Conv
import HandS.Flow
import HandS.Style
import HandS.Flt
import HandS.More
import HandS.Set
import HandS.SetFor
import HandS.Strs
import HandS.SortInts
import HandS.MakeKw
import HandS.MakeKwOnly
import HandS.Codes
import HandS.SetKeys
import HandS.Head0
import HandS.Head1
import HandS.Head2
import HandS.HeadEnd
import HandS.HeadHook1
import HandS.HeadHook2
import PyProof.DictMoreH
import PyProof.ListStr
import HandS.OwnEq
import PyProof.StrLawsIn
import PyProof.StrLawsFirst
import PySem.Challenge.RW_remadehere_k44_any_rows_judged
set_option Elab.async false
set_option linter.all false
set_option maxRecDepth 100000
set_option maxHeartbeats 8000000
namespace R
open PySem L2

/-! ### worlds: F the part that stays, H all that is tracked -/
theorem ne_none {α : Type} {o : Option α} {x : α} (h : o = some x) : o ≠ none := fun e => by rw [h] at e; cases e
theorem Same.new {H : Hp} {p : Addr} {o : HO} (h : H p = none) : Same H (upd H p o) := fun a u e => by
  rw [upd_ne (ne_of_none e h)]
  exact e
theorem rd_same {F H : Hp} {a : Addr} {u : HO} (e : Same F H) (h : Rd F a u) : Rd H a u := by
  rcases h with h | ⟨o, h⟩
  · exact .inl (e _ _ h)
  · exact .inr ⟨o, e _ _ h⟩
theorem sqL_same {K : PySem.W.Frag} {F H : Hp} {a : Addr} {xs : List V} (e : Same F H) (h : SqL K F a xs) : SqL K H a xs := by
  rcases h with h | h
  · exact .inl (rd_same e h)
  · exact .inr h
theorem sqT_same {K : PySem.W.Frag} {F H : Hp} {a : Addr} {xs : List V} (e : Same F H) (h : SqT K F a xs) : SqT K H a xs := by
  rcases h with h | h
  · exact .inl (rd_same e h)
  · exact .inr h
theorem sqL_of {K : PySem.W.Frag} {H : Hp} {a : Addr} {xs : List V} (h : H a = some (.lst xs)) : SqL K H a xs := .inl (.inl h)
theorem sqT_of {K : PySem.W.Frag} {H : Hp} {a : Addr} {xs : List V} (h : H a = some (.tup xs)) : SqT K H a xs := .inl (.inl h)
mutual
theorem dp_same {K : PySem.W.Frag} {F H : Hp} (e : Same F H) : ∀ (d : PyData) (v : V), Dp K F v d → Dp K H v d
  | .none, _, .non => .non
  | .bool _, _, .bl b => .bl b
  | .int _, _, .int i => .int i
  | .str _, _, .str x => .str x
  | .list ds, _, .lst h hs => .lst (sqL_same e h) (dpa_same e ds _ hs)
  | .tuple ds, _, .tup h hs => .tup (sqT_same e h) (dpa_same e ds _ hs)
theorem dpa_same {K : PySem.W.Frag} {F H : Hp} (e : Same F H) : ∀ (ds : List PyData) (vs : List V), DpAll K F vs ds → DpAll K H vs ds
  | [], _, .nil => .nil
  | d :: ds, _, .cons h hs => .cons (dp_same e d _ h) (dpa_same e ds _ hs)
end

/-- what a deed does: F grows to F2, H to H2; of what H has outside of F only the objects at M change -/
structure Gr (M : List Addr) (F H F2 H2 : Hp) : Prop where
  ff : Same F F2
  fh : Same F2 H2
  hh : ∀ a o, a ∉ M → H a = some o → H2 a = some o
  al : ∀ a, H a ≠ none → H2 a ≠ none
  nw : ∀ a, H a ≠ none → F a = none → F2 a = none
theorem Gr.refl {M : List Addr} {F H : Hp} (h : Same F H) : Gr M F H F H := ⟨Same.refl F, h, fun _ _ _ e => e, fun _ e => e, fun _ _ e => e⟩
theorem Gr.trans {M : List Addr} {F H F1 H1 F2 H2 : Hp} (a : Gr M F H F1 H1) (b : Gr M F1 H1 F2 H2) : Gr M F H F2 H2 :=
  ⟨a.ff.trans b.ff, b.fh, fun x o n e => b.hh x o n (a.hh x o n e), fun x e => b.al x (a.al x e), fun x e n => b.nw x (a.al x e) (a.nw x e n)⟩
theorem Gr.sub {M N : List Addr} {F H F2 H2 : Hp} (a : Gr M F H F2 H2) (h : ∀ x ∈ M, x ∈ N) : Gr N F H F2 H2 := ⟨a.ff, a.fh, fun x o n e => a.hh x o (fun m => n (h x m)) e, a.al, a.nw⟩
theorem Gr.up {M : List Addr} {F H F2 H2 : Hp} (a : Gr [] F H F2 H2) : Gr M F H F2 H2 := a.sub fun _ h => by cases h
/-- a new object that stays -/
theorem Gr.im {M : List Addr} {F H : Hp} {p : Addr} {o : HO} (w : Same F H) (h : H p = none) : Gr M F H (upd F p o) (upd H p o) := by
  have hF : F p = none := w.free h
  refine ⟨Same.new hF, fun a u e => ?_, fun a u _ e => ?_, fun a e => ?_, fun a e n => ?_⟩
  · by_cases q : a = p
    · subst q
      rw [upd_same] at e ⊢
      exact e
    · rw [upd_ne q] at e ⊢
      exact w a u e
  · rw [upd_ne (ne_of_none e h)]
    exact e
  · by_cases q : a = p
    · subst q
      rw [upd_same]
      exact fun z => nomatch z
    · rw [upd_ne q]
      exact e
  · have q : a ≠ p := fun z => by subst z; exact e h
    rw [upd_ne q]
    exact n
/-- a new object that may change -/
theorem Gr.new {M : List Addr} {F H : Hp} {p : Addr} {o : HO} (w : Same F H) (h : H p = none) : Gr M F H F (upd H p o) := by
  refine ⟨Same.refl F, w.trans (Same.new h), fun a u _ e => ?_, fun a e => ?_, fun a e n => n⟩
  · rw [upd_ne (ne_of_none e h)]
    exact e
  · by_cases q : a = p
    · subst q
      rw [upd_same]
      exact fun z => nomatch z
    · rw [upd_ne q]
      exact e
/-- a change of an object that may change -/
theorem Gr.wr {M : List Addr} {F H : Hp} {p : Addr} {o : HO} (w : Same F H) (h : F p = none) (hm : p ∈ M) : Gr M F H F (upd H p o) := by
  refine ⟨Same.refl F, fun a u e => ?_, fun a u n e => ?_, fun a e => ?_, fun a e n => n⟩
  · have q : a ≠ p := ne_of_none e h
    rw [upd_ne q]
    exact w a u e
  · have q : a ≠ p := fun z => by subst z; exact n hm
    rw [upd_ne q]
    exact e
  · by_cases q : a = p
    · subst q
      rw [upd_same]
      exact fun z => nomatch z
    · rw [upd_ne q]
      exact e
/-- .. of one that was new behind the start -/
theorem Gr.wrn {M : List Addr} {F0 H0 F H : Hp} {p : Addr} {o : HO} (g : Gr M F0 H0 F H) (h : F p = none) (hn : H0 p = none) : Gr M F0 H0 F (upd H p o) := by
  refine ⟨g.ff, fun a u e => ?_, fun a u n e => ?_, fun a e => ?_, g.nw⟩
  · have q : a ≠ p := ne_of_none e h
    rw [upd_ne q]
    exact g.fh a u e
  · have q : a ≠ p := fun z => by subst z; rw [hn] at e; cases e
    rw [upd_ne q]
    exact g.hh a u n e
  · by_cases q : a = p
    · subst q
      rw [upd_same]
      exact fun z => nomatch z
    · rw [upd_ne q]
      exact g.al a e
/-- an object that may change -/
structure Mu (F H : Hp) (p : Addr) (o : HO) : Prop where
  n : F p = none
  h : H p = some o
theorem Gr.mu {M : List Addr} {F H F2 H2 : Hp} {p : Addr} {o : HO} (g : Gr M F H F2 H2) (m : Mu F H p o) (hp : p ∉ M) : Mu F2 H2 p o := ⟨g.nw p (ne_none m.h) m.n, g.hh p o hp m.h⟩
theorem Gr.mu0 {F H F2 H2 : Hp} {p : Addr} {o : HO} (g : Gr [] F H F2 H2) (m : Mu F H p o) : Mu F2 H2 p o := g.mu m (fun h => nomatch h)
theorem Mu.new {F H : Hp} {p : Addr} {o : HO} (w : Same F H) (h : H p = none) : Mu F (upd H p o) p o := ⟨w.free h, upd_same⟩
theorem Mu.wr {F H : Hp} {p : Addr} {o u : HO} (m : Mu F H p o) : Mu F (upd H p u) p u := ⟨m.n, upd_same⟩
theorem Mu.oth {F H : Hp} {p q : Addr} {o u : HO} (m : Mu F H p o) (h : p ≠ q) : Mu F (upd H q u) p o := ⟨m.n, by rw [upd_ne h]; exact m.h⟩
theorem Mu.sq {K : PySem.W.Frag} {F H : Hp} {p : Addr} {xs : List V} (m : Mu F H p (.lst xs)) : SqL K H p xs := sqL_of m.h
theorem Mu.ne_new {F H : Hp} {p q : Addr} {o : HO} (m : Mu F H p o) (h : H q = none) : p ≠ q := ne_of_none m.h h
theorem upd_at {F : Hp} {p : Addr} {o : HO} : upd F p o p = some o := upd_same

/-! ### promises by the number of arguments -/
def S1 (φ : V → Hp → VK → Prop) : Sp := fun vs H Q _ => match vs with
  | [a] => φ a H Q
  | _ => False
def S2 (φ : V → V → Hp → VK → Prop) : Sp := fun vs H Q _ => match vs with
  | [a, b] => φ a b H Q
  | _ => False
def S3 (φ : V → V → V → Hp → VK → Prop) : Sp := fun vs H Q _ => match vs with
  | [a, b, c] => φ a b c H Q
  | _ => False
def S4 (φ : V → V → V → V → Hp → VK → Prop) : Sp := fun vs H Q _ => match vs with
  | [a, b, c, d] => φ a b c d H Q
  | _ => False
def S5 (φ : V → V → V → V → V → Hp → VK → Prop) : Sp := fun vs H Q _ => match vs with
  | [a, b, c, d, e] => φ a b c d e H Q
  | _ => False
def S6 (φ : V → V → V → V → V → V → Hp → VK → Prop) : Sp := fun vs H Q _ => match vs with
  | [a, b, c, d, e, f] => φ a b c d e f H Q
  | _ => False
def S7 (φ : V → V → V → V → V → V → V → Hp → VK → Prop) : Sp := fun vs H Q _ => match vs with
  | [a, b, c, d, e, f, g] => φ a b c d e f g H Q
  | _ => False
def S0 (φ : Hp → VK → Prop) : Sp := fun vs H Q _ => match vs with
  | [] => φ H Q
  | _ => False

theorem S0.len {φ : Hp → VK → Prop} {vs : List V} {H : Hp} {Q : VK} {E : XK} (h : S0 φ vs H Q E) : vs.length = 0 := by
  match vs, h with
  | [], _ => rfl
theorem S1.len {φ : V → Hp → VK → Prop} {vs : List V} {H : Hp} {Q : VK} {E : XK} (h : S1 φ vs H Q E) : vs.length = 1 := by
  match vs, h with
  | [_], _ => rfl
theorem S2.len {φ : V → V → Hp → VK → Prop} {vs : List V} {H : Hp} {Q : VK} {E : XK} (h : S2 φ vs H Q E) : vs.length = 2 := by
  match vs, h with
  | [_, _], _ => rfl
theorem S3.len {φ : V → V → V → Hp → VK → Prop} {vs : List V} {H : Hp} {Q : VK} {E : XK} (h : S3 φ vs H Q E) : vs.length = 3 := by
  match vs, h with
  | [_, _, _], _ => rfl
theorem S4.len {φ : V → V → V → V → Hp → VK → Prop} {vs : List V} {H : Hp} {Q : VK} {E : XK} (h : S4 φ vs H Q E) : vs.length = 4 := by
  match vs, h with
  | [_, _, _, _], _ => rfl
theorem S5.len {φ : V → V → V → V → V → Hp → VK → Prop} {vs : List V} {H : Hp} {Q : VK} {E : XK} (h : S5 φ vs H Q E) : vs.length = 5 := by
  match vs, h with
  | [_, _, _, _, _], _ => rfl
theorem S6.len {φ : V → V → V → V → V → V → Hp → VK → Prop} {vs : List V} {H : Hp} {Q : VK} {E : XK} (h : S6 φ vs H Q E) : vs.length = 6 := by
  match vs, h with
  | [_, _, _, _, _, _], _ => rfl
theorem S7.len {φ : V → V → V → V → V → V → V → Hp → VK → Prop} {vs : List V} {H : Hp} {Q : VK} {E : XK} (h : S7 φ vs H Q E) : vs.length = 7 := by
  match vs, h with
  | [_, _, _, _, _, _, _], _ => rfl

/-! ### a def as it stands, with its promise -/
structure DO (P : Program) (w : World) (K : PySem.W.Frag) (mg : Str → Option Value) (base : Heap) (k : Nat) (x : Str) (ps : List Str) (dvs : List V) (sp : Sp) : Prop where
  ex : ∃ (f : Addr) (fd : FuncData) (ds : List Value), FnOk P w K mg base CX0 k f fd ps sp ∧ mg x = some (.ref f) ∧ PySem.W.keepIn K (.ref f) = true ∧ Binds K fd ps ds ∧ Vals dvs ds
section
variable {X : Cx} {k j : Nat} {ps : List Str} {sp : Sp} {dvs : List V} {x : Str} {p pos : Pos} {e : Expr} {es : List Expr} {t : TA}
theorem pcall (D : DO X.prog X.w X.K X.mg X.base k x ps dvs sp) (hr : Room j X.A) (ha : PA X (e :: es) t) (hj : k ≤ j := by first | decide | exact Nat.le_refl _ | omega) (hg : Gl X x := by rfl) (hdb : (x == ("__debug__" : Str)) = false := by decide)
    (he : starEach (e :: es) X.env = (false, eval e X.env) :: starEach es X.env := by rfl) (hpl : (backTo pos (starEach es X.env)).any (·.1) = false := by rfl) :
    PE X (.Call (.Name x p) (e :: es) [] pos) (tCall sp dvs E0 t) := by
  obtain ⟨f, fd, ds, F, hm, hk, hb, hd⟩ := D.ex
  exact pe_call F (hr.mono hj) hg hm hk hb hd pass0 ha hdb he hpl
theorem pcall0 (D : DO X.prog X.w X.K X.mg X.base k x ps dvs sp) (hr : Room j X.A) (hj : k ≤ j := by first | decide | exact Nat.le_refl _ | omega) (hg : Gl X x := by rfl) (hdb : (x == ("__debug__" : Str)) = false := by decide) :
    PE X (.Call (.Name x p) [] [] pos) (tCall sp dvs E0 tNil) := by
  obtain ⟨f, fd, ds, F, hm, hk, hb, hd⟩ := D.ex
  exact pe_call0 F (hr.mono hj) hg hm hk hb hd pass0 hdb
end

theorem recDO {P : Program} {w : World} {K : PySem.W.Frag} {mg : Str → Option Value} {base : Heap} {x : Str} {f : Addr} {fd : FuncData} {ps : List Str} {φ : Nat → Sp} (h0 : ∀ vs H Q E, φ 0 vs H Q E → False) (hm : mg x = some (.ref f)) (hk : PySem.W.keepIn K (.ref f) = true) (hb : Binds K fd ps [])
    (hs : ∀ n, DO P w K mg base n x ps [] (φ n) → FnOk P w K mg base CX0 (n + 1) f fd ps (φ (n + 1))) : ∀ n, DO P w K mg base n x ps [] (φ n)
  | 0 => ⟨f, fd, [], ⟨fun vs H Q E h => (h0 vs H Q E h).elim, fun A outer s H args us vs Q E _ _ _ _ h => (h0 vs H Q E h).elim⟩, hm, hk, hb, .nil⟩
  | n + 1 => ⟨f, fd, [], hs n (recDO h0 hm hk hb hs n), hm, hk, hb, .nil⟩
/-! ### calls with keywords -/
/-- the parameters' values: by place (0), by a keyword's place (1), by a default's place (2) -/
def pick {α : Type} (d : α) (tp : List (Nat × Nat)) (vs zs ds : List α) : List α := tp.map fun p => if p.1 = 0 then vs.getD p.2 d else if p.1 = 1 then zs.getD p.2 d else ds.getD p.2 d
theorem vals_getD : ∀ {vs : List V} {us : List Value} (i : Nat), Vals vs us → RelV (vs.getD i .non) (us.getD i .none)
  | _, _, _, .nil => rfl
  | _, _, 0, .cons r _ => r
  | _, _, i + 1, .cons _ t => by
    show RelV ((_ :: _ : List V).getD (i + 1) .non) ((_ :: _ : List Value).getD (i + 1) .none)
    rw [List.getD_cons_succ, List.getD_cons_succ]
    exact vals_getD i t
theorem pick_rel {vs zs ds : List V} {us ws es : List Value} (r1 : Vals vs us) (r2 : Vals zs ws) (r3 : Vals ds es) : ∀ tp : List (Nat × Nat), Vals (pick .non tp vs zs ds) (pick .none tp us ws es)
  | [] => .nil
  | p :: tp => .cons (by
      show RelV (if p.1 = 0 then vs.getD p.2 .non else if p.1 = 1 then zs.getD p.2 .non else ds.getD p.2 .non) (if p.1 = 0 then us.getD p.2 .none else if p.1 = 1 then ws.getD p.2 .none else es.getD p.2 .none)
      by_cases h0 : p.1 = 0
      · rw [if_pos h0, if_pos h0]
        exact vals_getD _ r1
      · rw [if_neg h0, if_neg h0]
        by_cases h1 : p.1 = 1
        · rw [if_pos h1, if_pos h1]
          exact vals_getD _ r2
        · rw [if_neg h1, if_neg h1]
          exact vals_getD _ r3) (pick_rel r1 r2 r3 tp)
structure DK (P : Program) (w : World) (K : PySem.W.Frag) (mg : Str → Option Value) (base : Heap) (k : Nat) (x : Str) (ps : List Str) (n : Nat) (ks : List Str) (tp : List (Nat × Nat)) (dvs : List V) (sp : Sp) : Prop where
  ex : ∃ (f : Addr) (fd : FuncData) (ds : List Value), FnOk P w K mg base CX0 k f fd ps sp ∧ mg x = some (.ref f) ∧ PySem.W.keepIn K (.ref f) = true ∧ KBn K fd ps n ks (fun us ws => pick .none tp us ws ds) (fun vs zs => pick .non tp vs zs dvs)
theorem kbN {K : PySem.W.Frag} {x qual : Str} {params : Arguments} {body : List Stmt} {scope : Scope} {f : Addr} {fd : FuncData} {ps ks : List Str} {n : Nat} {tp : List (Nat × Nat)} (F : FunD K x qual params body scope [] [] f fd)
    (h : ∀ (kV doc pm : Value) (an : Option Addr) (cdv ct : Value) (us ws : List Value), us.length = n → ws.length = ks.length → bindArgs (PySem.W.fnOf x qual params body scope .none kV doc pm an cdv ct) ⟨us, ks.zip ws⟩ = pure (ps.zip (pick .none tp us ws []))) :
    KBn K fd ps n ks (fun us ws => pick .none tp us ws []) (fun vs zs => pick .non tp vs zs []) := by
  obtain ⟨oc, od, dV, kV, doc, pm, an, cdv, ct, osl, rfl, lk, hcd, hD, hK⟩ := F.ex
  rcases hD with ⟨_, rfl⟩ | ⟨e, _⟩
  · exact ⟨fun s us ws _ l1 l2 => .of_eq (h kV doc pm an cdv ct us ws l1 l2), fun r1 r2 => pick_rel r1 r2 .nil tp⟩
  · exact absurd rfl e
theorem kbD {K : PySem.W.Frag} {x qual : Str} {params : Arguments} {body : List Stmt} {scope : Scope} {dvs : List V} {f : Addr} {fd : FuncData} {ps ks : List Str} {n : Nat} {tp : List (Nat × Nat)} (F : FunD K x qual params body scope dvs [] f fd) (hd : dvs ≠ [])
    (h : ∀ (T : Addr) (kV doc pm : Value) (an : Option Addr) (cdv ct : Value) (us ws its : List Value), us.length = n → ws.length = ks.length → its.length = dvs.length →
      ∃ k, bindArgs (PySem.W.fnOf x qual params body scope (.ref T) kV doc pm an cdv ct) ⟨us, ks.zip ws⟩ = seqItems? (.ref T) >>= k ∧ k (some its.toArray) = pure (ps.zip (pick .none tp us ws its))) :
    ∃ its : List Value, KBn K fd ps n ks (fun us ws => pick .none tp us ws its) (fun vs zs => pick .non tp vs zs dvs) := by
  obtain ⟨oc, od, dV, kV, doc, pm, an, cdv, ct, osl, rfl, lk, hcd, hD, hK⟩ := F.ex
  rcases hD with ⟨e, _⟩ | ⟨_, T, o, its, m, rfl, lT, oT, rT⟩
  · exact absurd e hd
  · refine ⟨its, fun s us ws X l1 l2 => ?_, fun r1 r2 => pick_rel r1 r2 rT tp⟩
    obtain ⟨k, e1, e2⟩ := h T kV doc pm an cdv ct us ws its l1 l2 rT.length.symm
    refine BindsTo.of_looks fun M => ?_
    rw [e1]
    exact looks_items X lT oT (.of_pure e2)
section
variable {X : Cx} {k j n : Nat} {ps ks : List Str} {sp : Sp} {dvs : List V} {x : Str} {p pos : Pos} {e : Expr} {es : List Expr} {kws : List Keyword} {t tk : TA} {tp : List (Nat × Nat)}
theorem pcallK (D : DK X.prog X.w X.K X.mg X.base k x ps n ks tp dvs sp) (hr : Room j X.A) (ha : PA X (e :: es) t) (hkw : PK X kws tk) (hj : k ≤ j := by first | decide | exact Nat.le_refl _ | omega) (hg : Gl X x := by rfl)
    (hall : (backToKw pos (keywordEach kws X.env)).all (·.1.isSome) = true := by rfl) (hks : (backToKw pos (keywordEach kws X.env)).filterMap (·.1) = ks := by rfl)
    (hdb : (x == ("__debug__" : Str)) = false := by decide) (he : starEach (e :: es) X.env = (false, eval e X.env) :: starEach es X.env := by rfl)
    (hpl : ((backTo pos (starEach (e :: es) X.env)).any (·.1) || (backToKw pos (keywordEach kws X.env)).any (·.1.isNone)) = false := by rfl) :
    PE X (.Call (.Name x p) (e :: es) kws pos) (tCallN n ks.length sp (fun vs zs => pick .non tp vs zs dvs) E0 t tk) := by
  obtain ⟨f, fd, ds, F, hm, hk, hb⟩ := D.ex
  exact pe_callN F (hr.mono hj) hg hm hk hb pass0 ha hkw hall hks hdb he hpl
theorem pcallK0 (D : DK X.prog X.w X.K X.mg X.base k x ps 0 ks tp dvs sp) (hr : Room j X.A) (hkw : PK X kws tk) (hj : k ≤ j := by first | decide | exact Nat.le_refl _ | omega) (hg : Gl X x := by rfl)
    (hall : (backToKw pos (keywordEach kws X.env)).all (·.1.isSome) = true := by rfl) (hks : (backToKw pos (keywordEach kws X.env)).filterMap (·.1) = ks := by rfl)
    (hdb : (x == ("__debug__" : Str)) = false := by decide)
    (hpl : ((backTo pos (starEach [] X.env)).any (·.1) || (backToKw pos (keywordEach kws X.env)).any (·.1.isNone)) = false := by rfl) :
    PE X (.Call (.Name x p) [] kws pos) (tCallN 0 ks.length sp (fun vs zs => pick .non tp vs zs dvs) E0 tNil tk) := by
  obtain ⟨f, fd, ds, F, hm, hk, hb⟩ := D.ex
  refine ⟨fun pins s σ H Q I h => ?_⟩
  refine wpAny_Call_Name_kw (ld_glob I hg hm ?_ hdb)
  refine PySem.W.callWith_KW0 (h₀ := X.base) I.ok.mod.kin hk hall ?_ hpl
  refine thn (hkw.run pos pins s σ H _ I h) fun ws s2 ⟨zs, H2, I2, rz, l1, l2, q2⟩ => ⟨I2.kIn, ?_⟩
  rw [hks]
  exact run_fnN (us := []) (vs := []) F (hr.mono hj) hb pass0 I2 .nil rz l1 l2 q2
end
theorem pe_gint {X : Cx} {x : Str} {i : Int} {pos : Pos} (hg : Gl X x) (hm : ∃ t, X.mg x = some (.int i t)) (hd : (x == ("__debug__" : Str)) = false := by decide) : PE X (.Name x pos) (tC (.int i)) := by
  obtain ⟨t, h⟩ := hm
  exact pe_glob hg h ⟨_, rfl⟩ hd

/-! ### rules with the written part by its own name -/
section
variable {X : Cx} {K : PySem.W.Frag}
theorem ixL (h : X.K = K := by rfl) : IxR X (rIxL K) := by subst h; exact ix_list
theorem ixT (h : X.K = K := by rfl) : IxR X (rIxT K) := by subst h; exact ix_tup
theorem ixQ (h : X.K = K := by rfl) : IxR X (rIx K) := by subst h; exact ix_seq
theorem slL (h : X.K = K := by rfl) : SlR X (rSlL K) := by subst h; exact sl_list
theorem slT (h : X.K = K := by rfl) : SlR X (rSlT K) := by subst h; exact sl_tup
theorem opEqD (A : X.A.units + 64 < cLine) (h : X.K = K := by rfl) : OpR X (compareOp .Eq) (rEqD K) := by subst h; exact op_eqD A
theorem opNeD (A : X.A.units + 64 < cLine) (h : X.K = K := by rfl) : OpR X (compareOp .NotEq) (rNeD K) := by subst h; exact op_neD A
theorem opIn (h : X.K = K := by rfl) : OpR X (compareOp .In) (rIn K false) := by subst h; exact op_in_seq
theorem opNotIn (h : X.K = K := by rfl) : OpR X (compareOp .NotIn) (rIn K true) := by subst h; exact op_notIn_seq
def rLen (K : PySem.W.Frag) : List V → Hp → VK → Prop := fun xs H Q => ∃ x n, xs = [x] ∧ LenV K x H n ∧ Q (.int n) H
def rLenQ (K : PySem.W.Frag) : List V → Hp → VK → Prop := fun xs H Q => ∃ p ys, xs = [.ref p] ∧ (SqL K H p ys ∨ SqT K H p ys) ∧ Q (.int ys.length) H
def rListOf (K : PySem.W.Frag) : List V → Hp → VK → Prop := fun xs H Q => ∃ p ys, xs = [.ref p] ∧ (SqL K H p ys ∨ SqT K H p ys) ∧ ∀ l, H l = none → Q (.ref l) (upd H l (.lst ys))
def rLenS : List V → Hp → VK → Prop := fun xs H Q => ∃ z, xs = [.str z] ∧ z.length ≤ sizeLine ∧ Q (.int z.length) H
def rInt1 : List V → Hp → VK → Prop := fun xs H Q => (∃ i, xs = [.int i] ∧ Q (.int i) H) ∨ ∃ k, xs = [.bl k] ∧ Q (.int (if k then 1 else 0)) H
def rAbs : List V → Hp → VK → Prop := fun xs H Q => ∃ i, xs = [.int i] ∧ Q (.int (if i < 0 then -i else i)) H
def rMin2 : List V → Hp → VK → Prop := fun xs H Q => ∃ i j, xs = [.int i, .int j] ∧ Q (.int (if j < i then j else i)) H
def rMax2 : List V → Hp → VK → Prop := fun xs H Q => ∃ i j, xs = [.int i, .int j] ∧ Q (.int (if j > i then j else i)) H
def rStrI : List V → Hp → VK → Prop := fun xs H Q => ∃ n, xs = [.int n] ∧ n.natAbs.log2 < 1920 ∧ Q (.str (toString n)) H
theorem clLen (h : X.K = K := by rfl) : CallR X (.builtin "len") (rLen K) := by subst h; exact call_len
theorem clLenQ (h : X.K = K := by rfl) : CallR X (.builtin "len") (rLenQ K) := by subst h; exact call_len_seq
theorem clLenS : CallR X (.builtin "len") rLenS := call_len_str
theorem clListOf (h : X.K = K := by rfl) : CallR X (.type "list") (rListOf K) := by subst h; exact call_list_of
theorem clInt1 : CallR X (.type "int") rInt1 := call_int1
theorem clAbs : CallR X (.builtin "abs") rAbs := call_abs
theorem clMin2 (hc : X.calm = true := by rfl) : CallR X (.builtin "min") rMin2 := call_min2 hc
theorem clMax2 (hc : X.calm = true := by rfl) : CallR X (.builtin "max") rMax2 := call_max2 hc
theorem clSum (hc : X.calm = true := by rfl) (h : X.K = K := by rfl) : CallR X (.builtin "sum") (rSum K) := by subst h; exact cr_sum hc
theorem clAll (hc : X.calm = true := by rfl) (h : X.K = K := by rfl) : CallR X (.builtin "all") (rAll K) := by subst h; exact cr_all hc
theorem clAny (hc : X.calm = true := by rfl) (h : X.K = K := by rfl) : CallR X (.builtin "any") (rAny K) := by subst h; exact cr_any hc
theorem clMax (hc : X.calm = true := by rfl) (h : X.K = K := by rfl) : CallR X (.builtin "max") (rMax K) := by subst h; exact cr_max hc
theorem clMin (hc : X.calm = true := by rfl) (h : X.K = K := by rfl) : CallR X (.builtin "min") (rMin K) := by subst h; exact cr_min hc
theorem clIsi (h : X.K = K := by rfl) : CallR X (.builtin "isinstance") (rIsi K) := by subst h; exact call_isi
theorem clIsiT (h : X.K = K := by rfl) : CallR X (.builtin "isinstance") (rIsiT K) := by subst h; exact call_isiT
def tTruth (K : PySem.W.Frag) (ta : TE) : TT := fun σ H Q => ta σ H fun x H' => ∃ k, TruV K x H' k ∧ Q k H'
theorem ptTruth {a : Expr} {ta : TE} (ha : PE X a ta) (h : X.K = K := by rfl) (hs : ∀ whole, isTrue a X.env whole = (do let v ← whole; standAt a.pos; holding [v] (truthy v)) := by intro _; rfl) : PT X a (tTruth K ta) := by
  subst h
  exact pt_truth ha hs
variable {o e : Expr} {es : List Expr} {to te : TE} {t : TA} {name : Str} {apos cpos : Pos} {T id : String} {r : V → List V → Hp → VK → Prop}
theorem peBM0 (pa : PlainAttrs T) (slot : Slot T name id) (hty : typeOf (.builtin id) = pure (.type "method_descriptor")) (hm : MtR X id r) (ho : PE X o to) (h : X.K = K := by rfl)
    (hbase : attributeBase o name X.env (eval o X.env) = eval o X.env := by rfl) (hline : (apos.endLine == cpos.line) = true := by rfl) : PE X (.Call (.Attribute o name apos) [] [] cpos) (tBM0 K T r to) := by
  subst h
  exact pe_bm0 pa slot hty hm ho hbase hline
theorem peBM (pa : PlainAttrs T) (slot : Slot T name id) (hty : typeOf (.builtin id) = pure (.type "method_descriptor")) (hm : MtR X id r) (ho : PE X o to) (ha : PA X (e :: es) t) (h : X.K = K := by rfl)
    (hbase : attributeBase o name X.env (eval o X.env) = eval o X.env := by rfl)
    (hfew : ((backTo cpos (starEach (e :: es) X.env)).all (fun x => !x.1) && (backToKw cpos (keywordEach [] X.env)).all (fun x => x.1.isSome)
      && decide ((e :: es).length + ([] : List Keyword).length + (if ([] : List Keyword).isEmpty then 0 else 1) < 30)) = true := by rfl)
    (hline : (apos.endLine == cpos.line) = true := by rfl) (hs : starEach (e :: es) X.env = (false, eval e X.env) :: starEach es X.env := by rfl) (hplain : (backTo cpos (starEach es X.env)).any (·.1) = false := by rfl) :
    PE X (.Call (.Attribute o name apos) (e :: es) [] cpos) (tBM K T r to t) := by
  subst h
  exact pe_bm pa slot hty hm ho ha hbase hfew hline hs hplain
def rJoin (K : PySem.W.Frag) : V → List V → Hp → VK → Prop := fun x xs H Q => ∃ a p, ∃ ys : List Str, x = .str a ∧ xs = [.ref p] ∧ (SqL K H p (ys.map V.str) ∨ SqT K H p (ys.map V.str)) ∧
      (ys.map (·.length)).sum + ys.length * a.length ≤ 16777216 ∧ Q (.str (Txt.join a ys)) H
theorem peJoin (ho : PE X o to) (he : PE X e te) (h : X.K = K := by rfl) (hs : starEach [e] X.env = [(false, eval e X.env)] := by rfl) (hbase : attributeBase o "join" X.env (eval o X.env) = eval o X.env := by rfl) (hline : (apos.endLine == cpos.line) = true := by rfl) :
    PE X (.Call (.Attribute o "join" apos) [e] [] cpos) (tM1 (rJoin K) to te) := by
  subst h
  exact pe_join ho he hs hbase hline
theorem peFld {f : Str} {pos : Pos} (he : PE X o to) (h : X.K = K := by rfl) (hb : attributeBase o f X.env (eval o X.env) = eval o X.env := by rfl) : PE X (.Attribute o f pos) (tFld K to f) := by
  subst h
  exact pe_fld he hb
end

/-! ### steps of a reading -/
section
variable {K : PySem.W.Frag} {σ : L2.St} {H : Hp} {Q : VK} {ta tb te : TE} {x y v : V} {nx bk ct : L2.St → Hp → Prop} {rt : VK}
-- slots
section
variable {a0 a1 a2 a3 a4 a5 a6 a7 a8 a9 a10 a11 a12 a13 : Option V} {r : L2.St}
theorem w_v0 (q : Q v H) : tVar 0 (some v :: r) H Q := ⟨v, rfl, q⟩
theorem w_v1 (q : Q v H) : tVar 1 (a0 :: some v :: r) H Q := ⟨v, rfl, q⟩
theorem w_v2 (q : Q v H) : tVar 2 (a0 :: a1 :: some v :: r) H Q := ⟨v, rfl, q⟩
theorem w_v3 (q : Q v H) : tVar 3 (a0 :: a1 :: a2 :: some v :: r) H Q := ⟨v, rfl, q⟩
theorem w_v4 (q : Q v H) : tVar 4 (a0 :: a1 :: a2 :: a3 :: some v :: r) H Q := ⟨v, rfl, q⟩
theorem w_v5 (q : Q v H) : tVar 5 (a0 :: a1 :: a2 :: a3 :: a4 :: some v :: r) H Q := ⟨v, rfl, q⟩
theorem w_v6 (q : Q v H) : tVar 6 (a0 :: a1 :: a2 :: a3 :: a4 :: a5 :: some v :: r) H Q := ⟨v, rfl, q⟩
theorem w_v7 (q : Q v H) : tVar 7 (a0 :: a1 :: a2 :: a3 :: a4 :: a5 :: a6 :: some v :: r) H Q := ⟨v, rfl, q⟩
theorem w_v8 (q : Q v H) : tVar 8 (a0 :: a1 :: a2 :: a3 :: a4 :: a5 :: a6 :: a7 :: some v :: r) H Q := ⟨v, rfl, q⟩
theorem w_v9 (q : Q v H) : tVar 9 (a0 :: a1 :: a2 :: a3 :: a4 :: a5 :: a6 :: a7 :: a8 :: some v :: r) H Q := ⟨v, rfl, q⟩
theorem w_v10 (q : Q v H) : tVar 10 (a0 :: a1 :: a2 :: a3 :: a4 :: a5 :: a6 :: a7 :: a8 :: a9 :: some v :: r) H Q := ⟨v, rfl, q⟩
theorem w_v11 (q : Q v H) : tVar 11 (a0 :: a1 :: a2 :: a3 :: a4 :: a5 :: a6 :: a7 :: a8 :: a9 :: a10 :: some v :: r) H Q := ⟨v, rfl, q⟩
theorem w_v12 (q : Q v H) : tVar 12 (a0 :: a1 :: a2 :: a3 :: a4 :: a5 :: a6 :: a7 :: a8 :: a9 :: a10 :: a11 :: some v :: r) H Q := ⟨v, rfl, q⟩
theorem w_v13 (q : Q v H) : tVar 13 (a0 :: a1 :: a2 :: a3 :: a4 :: a5 :: a6 :: a7 :: a8 :: a9 :: a10 :: a11 :: a12 :: some v :: r) H Q := ⟨v, rfl, q⟩
variable {N : L2.St → Hp → Prop}
theorem w_n0 (q : N (some v :: r) H) : gName 0 v (a0 :: r) H N := q
theorem w_n1 (q : N (a0 :: some v :: r) H) : gName 1 v (a0 :: a1 :: r) H N := q
theorem w_n2 (q : N (a0 :: a1 :: some v :: r) H) : gName 2 v (a0 :: a1 :: a2 :: r) H N := q
theorem w_n3 (q : N (a0 :: a1 :: a2 :: some v :: r) H) : gName 3 v (a0 :: a1 :: a2 :: a3 :: r) H N := q
theorem w_n4 (q : N (a0 :: a1 :: a2 :: a3 :: some v :: r) H) : gName 4 v (a0 :: a1 :: a2 :: a3 :: a4 :: r) H N := q
theorem w_n5 (q : N (a0 :: a1 :: a2 :: a3 :: a4 :: some v :: r) H) : gName 5 v (a0 :: a1 :: a2 :: a3 :: a4 :: a5 :: r) H N := q
theorem w_n6 (q : N (a0 :: a1 :: a2 :: a3 :: a4 :: a5 :: some v :: r) H) : gName 6 v (a0 :: a1 :: a2 :: a3 :: a4 :: a5 :: a6 :: r) H N := q
theorem w_n7 (q : N (a0 :: a1 :: a2 :: a3 :: a4 :: a5 :: a6 :: some v :: r) H) : gName 7 v (a0 :: a1 :: a2 :: a3 :: a4 :: a5 :: a6 :: a7 :: r) H N := q
theorem w_n8 (q : N (a0 :: a1 :: a2 :: a3 :: a4 :: a5 :: a6 :: a7 :: some v :: r) H) : gName 8 v (a0 :: a1 :: a2 :: a3 :: a4 :: a5 :: a6 :: a7 :: a8 :: r) H N := q
theorem w_n9 (q : N (a0 :: a1 :: a2 :: a3 :: a4 :: a5 :: a6 :: a7 :: a8 :: some v :: r) H) : gName 9 v (a0 :: a1 :: a2 :: a3 :: a4 :: a5 :: a6 :: a7 :: a8 :: a9 :: r) H N := q
theorem w_n10 (q : N (a0 :: a1 :: a2 :: a3 :: a4 :: a5 :: a6 :: a7 :: a8 :: a9 :: some v :: r) H) : gName 10 v (a0 :: a1 :: a2 :: a3 :: a4 :: a5 :: a6 :: a7 :: a8 :: a9 :: a10 :: r) H N := q
theorem w_n11 (q : N (a0 :: a1 :: a2 :: a3 :: a4 :: a5 :: a6 :: a7 :: a8 :: a9 :: a10 :: some v :: r) H) : gName 11 v (a0 :: a1 :: a2 :: a3 :: a4 :: a5 :: a6 :: a7 :: a8 :: a9 :: a10 :: a11 :: r) H N := q
theorem w_n12 (q : N (a0 :: a1 :: a2 :: a3 :: a4 :: a5 :: a6 :: a7 :: a8 :: a9 :: a10 :: a11 :: some v :: r) H) : gName 12 v (a0 :: a1 :: a2 :: a3 :: a4 :: a5 :: a6 :: a7 :: a8 :: a9 :: a10 :: a11 :: a12 :: r) H N := q
theorem w_n13 (q : N (a0 :: a1 :: a2 :: a3 :: a4 :: a5 :: a6 :: a7 :: a8 :: a9 :: a10 :: a11 :: a12 :: some v :: r) H) : gName 13 v (a0 :: a1 :: a2 :: a3 :: a4 :: a5 :: a6 :: a7 :: a8 :: a9 :: a10 :: a11 :: a12 :: a13 :: r) H N := q
end
-- expressions
theorem w_c (q : Q v H) : tC v σ H Q := q
theorem w_op {r : R2} (q : ta σ H fun x H1 => tb σ H1 fun y H2 => r x y H2 Q) : tOp r ta tb σ H Q := q
theorem w_un {r : V → Hp → VK → Prop} (q : ta σ H fun x H1 => r x H1 Q) : tUn r ta σ H Q := q
theorem w_add {i j : Int} (q : Q (.int (i + j)) H) : rI0 (fun i j => V.int (i + j)) (.int i) (.int j) H Q := ⟨i, j, rfl, rfl, q⟩
theorem w_subt {i j : Int} (q : Q (.int (i - j)) H) : rI0 (fun i j => V.int (i - j)) (.int i) (.int j) H Q := ⟨i, j, rfl, rfl, q⟩
theorem w_lt {i j : Int} (q : Q (.bl (decide (i < j))) H) : rI0 (fun i j => V.bl (decide (i < j))) (.int i) (.int j) H Q := ⟨i, j, rfl, rfl, q⟩
theorem w_le {i j : Int} (q : Q (.bl (decide (i ≤ j))) H) : rI0 (fun i j => V.bl (decide (i ≤ j))) (.int i) (.int j) H Q := ⟨i, j, rfl, rfl, q⟩
theorem w_gt {i j : Int} (q : Q (.bl (decide (j < i))) H) : rI0 (fun i j => V.bl (decide (j < i))) (.int i) (.int j) H Q := ⟨i, j, rfl, rfl, q⟩
theorem w_ge {i j : Int} (q : Q (.bl (decide (j ≤ i))) H) : rI0 (fun i j => V.bl (decide (j ≤ i))) (.int i) (.int j) H Q := ⟨i, j, rfl, rfl, q⟩
theorem w_I0 {g : Int → Int → V} {i j : Int} (q : Q (g i j) H) : rI0 g (.int i) (.int j) H Q := ⟨i, j, rfl, rfl, q⟩
theorem w_mul {i j : Int} (c : CMul i j) (q : Q (.int (i * j)) H) : rI CMul (fun i j => V.int (i * j)) (.int i) (.int j) H Q := ⟨i, j, rfl, rfl, c, q⟩
theorem w_mod {i j : Int} (c : 0 < j) (q : Q (.int (i % j)) H) : rI (fun _ j => 0 < j) (fun i j => V.int (i % j)) (.int i) (.int j) H Q := ⟨i, j, rfl, rfl, c, q⟩
theorem w_fdiv {i j : Int} (c : CDivW i j) (q : Q (.int (i / j)) H) : rI CDivW (fun i j => V.int (i / j)) (.int i) (.int j) H Q := ⟨i, j, rfl, rfl, c, q⟩
theorem w_pow {i j : Int} (c : CPow i j) (q : Q (.int (i ^ j.toNat)) H) : rI CPow (fun i j => V.int (i ^ j.toNat)) (.int i) (.int j) H Q := ⟨i, j, rfl, rfl, c, q⟩
theorem w_I {C : Int → Int → Prop} {g : Int → Int → V} {i j : Int} (c : C i j) (q : Q (g i j) H) : rI C g (.int i) (.int j) H Q := ⟨i, j, rfl, rfl, c, q⟩
theorem w_neg {i : Int} (q : Q (.int (-i)) H) : rU (fun i => V.int (-i)) (.int i) H Q := ⟨i, rfl, q⟩
def asInt (x : V) (H : Hp) (Z : Int → Hp → Prop) : Prop := ∃ i, x = .int i ∧ Z i H
def asBl (x : V) (H : Hp) (T : Bool → Hp → Prop) : Prop := ∃ k, x = .bl k ∧ T k H
theorem w_asInt {i : Int} {Z : Int → Hp → Prop} (q : Z i H) : asInt (.int i) H Z := ⟨i, rfl, q⟩
theorem w_asBl {b : Bool} {T : Bool → Hp → Prop} (q : T b H) : asBl (.bl b) H T := ⟨b, rfl, q⟩
theorem w_bits {to : TE} (q : to σ H fun x H1 => asInt x H1 fun i H2 => Q (.int (Builtin.Int.intBits i : Nat)) H2) : tBits to σ H Q := q
theorem w_adds {a b : Str} (h : a.length + b.length ≤ sizeLine) (q : Q (.str (a ++ b)) H) : ∃ i j, V.str a = .str i ∧ V.str b = .str j ∧ i.length + j.length ≤ sizeLine ∧ Q (.str (i ++ j)) H := ⟨a, b, rfl, rfl, h, q⟩
theorem w_eqI {i j : Int} (q : Q (.bl (decide (i = j))) H) : rEq (.int i) (.int j) H Q := ⟨rfl, by
  have e : decide (V.int i = V.int j) = decide (i = j) := by
    by_cases h : i = j
    · subst h; simp
    · rw [decide_eq_false h, decide_eq_false fun z => h (V.int.inj z)]
  rw [e]
  exact q⟩
theorem w_neI {i j : Int} (q : Q (.bl (!decide (i = j))) H) : rNe (.int i) (.int j) H Q := ⟨rfl, by
  have e : decide (V.int i = V.int j) = decide (i = j) := by
    by_cases h : i = j
    · subst h; simp
    · rw [decide_eq_false h, decide_eq_false fun z => h (V.int.inj z)]
  rw [e]
  exact q⟩
theorem w_eqS {a b : Str} (q : Q (.bl (decide (a = b))) H) : rEq (.str a) (.str b) H Q := ⟨rfl, by
  have e : decide (V.str a = V.str b) = decide (a = b) := by
    by_cases h : a = b
    · subst h; simp
    · rw [decide_eq_false h, decide_eq_false fun z => h (V.str.inj z)]
  rw [e]
  exact q⟩
theorem w_neS {a b : Str} (q : Q (.bl (!decide (a = b))) H) : rNe (.str a) (.str b) H Q := ⟨rfl, by
  have e : decide (V.str a = V.str b) = decide (a = b) := by
    by_cases h : a = b
    · subst h; simp
    · rw [decide_eq_false h, decide_eq_false fun z => h (V.str.inj z)]
  rw [e]
  exact q⟩
theorem w_eqB {a b : Bool} (q : Q (.bl (decide (a = b))) H) : rEq (.bl a) (.bl b) H Q := ⟨rfl, by
  have e : decide (V.bl a = V.bl b) = decide (a = b) := by
    by_cases h : a = b
    · subst h; simp
    · rw [decide_eq_false h, decide_eq_false fun z => h (V.bl.inj z)]
  rw [e]
  exact q⟩
theorem w_neB {a b : Bool} (q : Q (.bl (!decide (a = b))) H) : rNe (.bl a) (.bl b) H Q := ⟨rfl, by
  have e : decide (V.bl a = V.bl b) = decide (a = b) := by
    by_cases h : a = b
    · subst h; simp
    · rw [decide_eq_false h, decide_eq_false fun z => h (V.bl.inj z)]
  rw [e]
  exact q⟩
theorem w_isN (q : ta σ H fun x H1 => Q (.bl (decide (x = .non))) H1) : tIsN ta σ H Q := q
theorem w_notN (q : ta σ H fun x H1 => Q (.bl (!decide (x = .non))) H1) : tNotN ta σ H Q := q
-- tests
section
variable {T : Bool → Hp → Prop} {t u : TT}
theorem w_test (q : te σ H fun x H1 => asBl x H1 T) : tTest te σ H T := q
theorem w_tB (q : te σ H fun x H1 => asBl x H1 T) : tB te σ H T := q
theorem w_and (q : t σ H fun c H1 => if c = true then u σ H1 T else T false H1) : tAnd t u σ H T := q
theorem w_or (q : t σ H fun c H1 => if c = true then T true H1 else u σ H1 T) : tOr t u σ H T := q
theorem w_not (q : t σ H fun c H1 => T (!c) H1) : tNot t σ H T := q
theorem w_yes (q : T true H) : tYes σ H T := q
theorem w_if (q : t σ H fun c H1 => if c = true then ta σ H1 Q else tb σ H1 Q) : tIf t ta tb σ H Q := q
theorem w_truth (q : ta σ H fun x H' => ∃ k, TruV K x H' k ∧ T k H') : tTruth K ta σ H T := q
end
theorem w_andV (q : ta σ H fun x H1 => asBl x H1 fun c H2 => if c = true then tb σ H2 Q else Q (.bl false) H2) : tAndV ta tb σ H Q := q
theorem w_orV (q : ta σ H fun x H1 => asBl x H1 fun c H2 => if c = true then Q (.bl true) H2 else tb σ H2 Q) : tOrV ta tb σ H Q := q
theorem w_notV (q : ta σ H fun x H1 => asBl x H1 fun c H2 => Q (.bl (!c)) H2) : tNotV ta σ H Q := q
-- arguments
theorem w_nil {L : List V → Hp → Prop} (q : L [] H) : tNil σ H L := q
theorem w_cons {tr : TA} {L : List V → Hp → Prop} (q : ta σ H fun x H1 => tr σ H1 fun xs H2 => L (x :: xs) H2) : tCons ta tr σ H L := q
theorem w_call {sp : Sp} {dvs : List V} {E : XK} {t : TA} (q : t σ H fun vs H1 => sp (vs ++ dvs) H1 Q E) : tCall sp dvs E t σ H Q := q
theorem w_callN {n m : Nat} {sp : Sp} {gV : List V → List V → List V} {E : XK} {t tk : TA} (q : t σ H fun vs H1 => tk σ H1 fun zs H2 => vs.length = n ∧ zs.length = m ∧ sp (gV vs zs) H2 Q E) : tCallN n m sp gV E t tk σ H Q := q
theorem w_CB {r : List V → Hp → VK → Prop} {t : TA} (q : t σ H fun vs H1 => r vs H1 Q) : tCB r t σ H Q := q
theorem w_tup {t : TA} (q : t σ H fun xs H1 => xs.length ≤ sizeLine ∧ ∀ p, H1 p = none → Q (.ref p) (upd H1 p (.tup xs))) : tTup t σ H Q := q
theorem w_lst {t : TA} (q : t σ H fun xs H1 => xs.length ≤ sizeLine ∧ ∀ p, H1 p = none → Q (.ref p) (upd H1 p (.lst xs))) : tLst t σ H Q := q
theorem w_sl {r : V → Option Int → Option Int → Hp → VK → Prop} {tl th : TO} (q : te σ H fun x H1 => tl σ H1 fun l H2 => th σ H2 fun u H3 => r x l u H3 Q) : tSl r te tl th σ H Q := q
theorem w_nop {Z : Option Int → Hp → Prop} (q : Z none H) : tNoPart σ H Z := q
theorem w_part {Z : Option Int → Hp → Prop} (q : te σ H fun x H1 => asInt x H1 fun i H2 => Z (some i) H2) : tPart te σ H Z := q
theorem w_BM0 {T : String} {r : V → List V → Hp → VK → Prop} (q : ta σ H fun x H1 => tyV K T x H1 ∧ r x [] H1 Q) : tBM0 K T r ta σ H Q := q
theorem w_BM {T : String} {r : V → List V → Hp → VK → Prop} {t : TA} (q : ta σ H fun x H1 => tyV K T x H1 ∧ t σ H1 fun xs H2 => r x xs H2 Q) : tBM K T r ta t σ H Q := q
def asStr (x : V) (P : Prop) : Prop := (∃ a, x = .str a) ∧ P
theorem w_M0 {r : V → List V → Hp → VK → Prop} (q : ta σ H fun x H1 => asStr x (r x [] H1 Q)) : tM0 r ta σ H Q := q
theorem w_M1 {r : V → List V → Hp → VK → Prop} (q : ta σ H fun x H1 => asStr x (te σ H1 fun y H2 => r x [y] H2 Q)) : tM1 r ta te σ H Q := q
theorem w_asStr {a : Str} {P : Prop} (q : P) : asStr (.str a) P := ⟨⟨a, rfl⟩, q⟩
theorem w_sub {to ti : TE} {t : TSet} {Z : L2.St → Hp → Prop} (q : to σ H fun o H1 => ti σ H1 fun i H2 => t o i v H2 fun H3 => Z σ H3) : gSub to ti t v σ H Z := q
-- statements
section
variable {t u tbody : TS} {c : TT} {g : TG}
theorem w_seq (q : t ⟨u ⟨nx, rt, bk, ct⟩, rt, bk, ct⟩ σ H) : tSeq t u ⟨nx, rt, bk, ct⟩ σ H := q
theorem w_cut (Mid : L2.St → Hp → Prop) (h1 : t ⟨Mid, rt, bk, ct⟩ σ H) (h2 : ∀ σ' H', Mid σ' H' → u ⟨nx, rt, bk, ct⟩ σ' H') : C8.tCut t u ⟨nx, rt, bk, ct⟩ σ H := ⟨Mid, h1, h2⟩
theorem w_asg (q : te σ H fun x H1 => g x σ H1 nx) : tAsg te g ⟨nx, rt, bk, ct⟩ σ H := q
theorem w_ret (q : te σ H rt) : tRet te ⟨nx, rt, bk, ct⟩ σ H := q
theorem w_retN (q : rt .non H) : tRetN ⟨nx, rt, bk, ct⟩ σ H := q
theorem w_drop (q : te σ H fun _ H1 => nx σ H1) : tDrop te ⟨nx, rt, bk, ct⟩ σ H := q
theorem w_ifS (q : c σ H fun b H1 => if b = true then t ⟨nx, rt, bk, ct⟩ σ H1 else u ⟨nx, rt, bk, ct⟩ σ H1) : tIfS c t u ⟨nx, rt, bk, ct⟩ σ H := q
theorem w_nx (q : nx σ H) : tNext ⟨nx, rt, bk, ct⟩ σ H := q
theorem w_cont (q : ct σ H) : tCont ⟨nx, rt, bk, ct⟩ σ H := q
theorem w_brk (q : bk σ H) : tBreak ⟨nx, rt, bk, ct⟩ σ H := q
theorem w_aug {i : Nat} {ti : TIp} (h : σ[i]? = some (some x)) (q : te σ H fun y H1 => ti x y H1 fun z H2 => nx (σ.set i (some z)) H2) : tAug i te ti ⟨nx, rt, bk, ct⟩ σ H := ⟨x, h, q⟩
theorem w_tgt {n : Nat} {ts : TGs} {Z : L2.St → Hp → Prop} {a : Addr} (xs : List V) (h : SqT K H a xs) (hn : xs.length = n) (q : ts xs σ H Z) : gTup K n ts (.ref a) σ H Z := ⟨a, xs, rfl, h, hn, q⟩
theorem w_gc {ts : TGs} {xs : List V} {Z : L2.St → Hp → Prop} (q : g v σ H fun σ' H' => ts xs σ' H' Z) : gCons g ts (v :: xs) σ H Z := ⟨v, xs, rfl, q⟩
theorem w_gn {Z : L2.St → Hp → Prop} (q : Z σ H) : gNil [] σ H Z := ⟨rfl, q⟩
/-- a while, by what holds and a number that falls -/
theorem w_while (W : Nat → L2.St → Hp → Prop) {m0 : Nat} (h0 : W m0 σ H)
    (hs : ∀ m σ H, W m σ H → c σ H fun b H1 => if b = true then ∃ N : L2.St → Hp → Prop, (∀ σ' H', N σ' H' → ∃ m', m' < m ∧ W m' σ' H') ∧ tbody ⟨N, rt, nx, N⟩ σ H1 else nx σ H1) : tWhile c tbody ⟨nx, rt, bk, ct⟩ σ H := ⟨W, ⟨m0, h0⟩, hs⟩
theorem w_turn {W : Nat → L2.St → Hp → Prop} {m : Nat} (h : tbody ⟨fun σ' H' => ∃ m', m' < m ∧ W m' σ' H', rt, nx, fun σ' H' => ∃ m', m' < m ∧ W m' σ' H'⟩ σ H) :
    ∃ N : L2.St → Hp → Prop, (∀ σ' H', N σ' H' → ∃ m', m' < m ∧ W m' σ' H') ∧ tbody ⟨N, rt, nx, N⟩ σ H := ⟨_, fun _ _ h => h, h⟩
/-- for k in range(n), range(a, b) -/
theorem w_for {wi : TI} (q : wi σ H fun J H1 => ∃ W : Nat → Nat → L2.St → Hp → Prop, (∃ m, W 0 m σ H1) ∧ ∀ i m σ H, W i m σ H →
      (J.stop i H ∧ nx σ H) ∨ (J.go i H ∧ ∃ N : L2.St → Hp → Prop, (∀ σ' H', N σ' H' → ∃ m', m' < m ∧ W (i + 1) m' σ' H') ∧ ∀ x H', J.yld i H x H' → g x σ H' fun σ2 H2 => tbody ⟨N, rt, nx, N⟩ σ2 H2)) : tFor wi g tbody ⟨nx, rt, bk, ct⟩ σ H := q
end
theorem w_rng1 {t : TA} {R : It → Hp → Prop} (q : t σ H fun vs H1 => ∃ j : Int, vs = [.int j] ∧ -(2 ^ 62) ≤ j ∧ j < 2 ^ 62 ∧ R (Itr 0 j.toNat) H1) : iRng1 t σ H R := q
theorem w_rng2 {t : TA} {R : It → Hp → Prop} (q : t σ H fun vs H1 => ∃ i j : Int, vs = [.int i, .int j] ∧ (-(2 ^ 62) ≤ i ∧ i < 2 ^ 62 ∧ -(2 ^ 62) ≤ j ∧ j < 2 ^ 62) ∧ R (Itr i (j - i).toNat) H1) : iRng2 t σ H R := q
theorem w_ilist {R : It → Hp → Prop} (q : te σ H fun x H1 => ∃ a, x = .ref a ∧ (∃ xs, SqL K H1 a xs) ∧ R (Itl K a) H1) : iList K te σ H R := q
theorem w_itup {R : It → Hp → Prop} (q : te σ H fun x H1 => ∃ a, x = .ref a ∧ (∃ xs, SqT K H1 a xs) ∧ R (Itt K a) H1) : iTup K te σ H R := q
theorem w_istr {R : It → Hp → Prop} (q : te σ H fun v H1 => ∃ x, v = .str x ∧ R (Its x) H1) : iStr te σ H R := q
theorem w_lc {wi : TI} {g : TG} {tt : TT} {vs : List Nat} (q : wi σ H fun J H1 => ∀ D, H1 D = none → ∃ W : Nat → Nat → Hp → Prop, (∃ m, W 0 m (upd H1 D (.lst []))) ∧ ∀ i m H, W i m H →
    (J.stop i H ∧ Q (.ref D) H) ∨ (J.go i H ∧ ∃ Nx : Hp → Prop, (∀ H', Nx H' → ∃ m', m' < m ∧ W (i + 1) m' H') ∧ ∀ x H', J.yld i H x H' → g x (wipe σ vs) H' fun σ2 H2 => wipe σ2 vs = wipe σ vs ∧ tt σ2 H2 fun b H3 =>
      if b = true then te σ2 H3 fun y H4 => ∃ acc, H4 D = some (.lst acc) ∧ acc.length < sizeLine ∧ Nx (upd H4 D (.lst (acc ++ [y]))) else Nx H3)) : tLc wi g tt te vs σ H Q := q
/-- a test that is open -/
theorem w_ite {p : Prop} [Decidable p] {A B : Prop} (h1 : p → A) (h2 : ¬ p → B) : if decide p = true then A else B := by
  by_cases h : p
  · rw [if_pos (decide_eq_true h)]
    exact h1 h
  · rw [if_neg (by simpa using h)]
    exact h2 h
theorem w_iteN {p : Prop} [Decidable p] {A B : Prop} (h1 : ¬ p → A) (h2 : p → B) : if (!decide p) = true then A else B := by
  by_cases h : p
  · rw [if_neg (by simpa using h)]
    exact h2 h
  · rw [if_pos (by simpa using h)]
    exact h1 h
theorem w_iteb {b : Bool} {A B : Prop} (h1 : b = true → A) (h2 : b = false → B) : if b = true then A else B := by
  cases b with
  | true => rw [if_pos rfl]; exact h1 rfl
  | false => rw [if_neg Bool.false_ne_true]; exact h2 rfl
theorem w_itebN {b : Bool} {A B : Prop} (h1 : b = false → A) (h2 : b = true → B) : if (!b) = true then A else B := by
  cases b with
  | false => rw [if_pos (by rfl)]; exact h1 rfl
  | true => rw [if_neg (by decide)]; exact h2 rfl
theorem w_iteT {p : Prop} [Decidable p] {A B : Prop} (hp : p) (h1 : A) : if decide p = true then A else B := by
  rw [if_pos (decide_eq_true hp)]
  exact h1
theorem w_iteF {p : Prop} [Decidable p] {A B : Prop} (hp : ¬ p) (h2 : B) : if decide p = true then A else B := by
  rw [if_neg (by simpa using hp)]
  exact h2
theorem w_tt {A B : Prop} (h : A) : if true = true then A else B := by rw [if_pos rfl]; exact h
theorem w_ff {A B : Prop} (h : B) : if false = true then A else B := by rw [if_neg Bool.false_ne_true]; exact h
theorem w_ntt {A B : Prop} (h : B) : if (!true) = true then A else B := by rw [if_neg (by decide)]; exact h
theorem w_nff {A B : Prop} (h : A) : if (!false) = true then A else B := by rw [if_pos (by rfl)]; exact h
/-- subscripts -/
theorem w_ixL {p : Addr} {i : Int} (xs : List V) (v : V) (h : SqL K H p xs) (a : atI xs i = some v) (q : Q v H) : rIxL K (.ref p) (.int i) H Q := ⟨p, xs, i, v, rfl, rfl, h, a, q⟩
theorem w_ixT {p : Addr} {i : Int} (xs : List V) (v : V) (h : SqT K H p xs) (a : atI xs i = some v) (q : Q v H) : rIxT K (.ref p) (.int i) H Q := ⟨p, xs, i, v, rfl, rfl, h, a, q⟩
theorem w_ixS {z : Str} {i : Int} {c : Nat} (h : z.length ≤ sizeLine) (a : atI z.cps.toList i = some c) (q : Q (.str ⟨#[c]⟩) H) : rIxS (.str z) (.int i) H Q := ⟨z, i, c, rfl, rfl, h, a, q⟩
theorem w_setL {p : Addr} {k : Int} {Z : Hp → Prop} (xs : List V) (j : Nat) (h : H p = some (.lst xs)) (a : ixN xs.length k = some j) (q : Z (upd H p (.lst (xs.set j v)))) : rSetL (.ref p) (.int k) v H Z := ⟨p, xs, k, j, rfl, rfl, h, a, q⟩
theorem w_b1 {p : Addr} (a0 a1 a2 a3 a4 : V) {Z : Hp → Prop} (h : H p = some (.lst [a0, a1, a2, a3, a4])) (q : Z (upd H p (.lst [a0, v, a2, a3, a4]))) : rSetL (.ref p) (.int 1) v H Z := ⟨p, _, 1, 1, rfl, rfl, h, rfl, q⟩
theorem w_b2 {p : Addr} (a0 a1 a2 a3 a4 : V) {Z : Hp → Prop} (h : H p = some (.lst [a0, a1, a2, a3, a4])) (q : Z (upd H p (.lst [a0, a1, v, a3, a4]))) : rSetL (.ref p) (.int 2) v H Z := ⟨p, _, 2, 2, rfl, rfl, h, rfl, q⟩
theorem w_b3 {p : Addr} (a0 a1 a2 a3 a4 : V) {Z : Hp → Prop} (h : H p = some (.lst [a0, a1, a2, a3, a4])) (q : Z (upd H p (.lst [a0, a1, a2, v, a4]))) : rSetL (.ref p) (.int 3) v H Z := ⟨p, _, 3, 3, rfl, rfl, h, rfl, q⟩
theorem w_b4 {p : Addr} (a0 a1 a2 a3 a4 : V) {Z : Hp → Prop} (h : H p = some (.lst [a0, a1, a2, a3, a4])) (q : Z (upd H p (.lst [a0, a1, a2, a3, v]))) : rSetL (.ref p) (.int 4) v H Z := ⟨p, _, 4, 4, rfl, rfl, h, rfl, q⟩
theorem w_app {l : Addr} (xs : List V) (h : H l = some (.lst xs)) (hn : xs.length < sizeLine) (q : Q .non (upd H l (.lst (xs ++ [y])))) : rAppend (.ref l) [y] H Q := ⟨l, xs, y, rfl, rfl, h, hn, q⟩
theorem w_tyL {l : Addr} {P : Prop} (xs : List V) (h : SqL K H l xs) (q : P) : tyV K "list" (.ref l) H ∧ P := ⟨.inl ⟨rfl, _, h⟩, q⟩
theorem w_lenQ {p : Addr} (xs : List V) (h : SqL K H p xs) (q : Q (.int xs.length) H) : rLenQ K [.ref p] H Q := ⟨p, xs, rfl, .inl h, q⟩
theorem w_lenQT {p : Addr} (xs : List V) (h : SqT K H p xs) (q : Q (.int xs.length) H) : rLenQ K [.ref p] H Q := ⟨p, xs, rfl, .inr h, q⟩
theorem w_lenS {z : Str} (h : z.length ≤ sizeLine) (q : Q (.int z.length) H) : rLenS [.str z] H Q := ⟨z, rfl, h, q⟩
theorem w_listOf {p : Addr} (xs : List V) (h : SqL K H p xs) (q : ∀ l, H l = none → Q (.ref l) (upd H l (.lst xs))) : rListOf K [.ref p] H Q := ⟨p, xs, rfl, .inl h, q⟩
theorem w_int1 {i : Int} (q : Q (.int i) H) : rInt1 [.int i] H Q := .inl ⟨i, rfl, q⟩
theorem w_int1b {b : Bool} (q : Q (.int (if b then 1 else 0)) H) : rInt1 [.bl b] H Q := .inr ⟨b, rfl, q⟩
theorem w_abs {i : Int} (q : Q (.int (if i < 0 then -i else i)) H) : rAbs [.int i] H Q := ⟨i, rfl, q⟩
theorem w_min2 {i j : Int} (q : Q (.int (if j < i then j else i)) H) : rMin2 [.int i, .int j] H Q := ⟨i, j, rfl, q⟩
theorem w_max2 {i j : Int} (q : Q (.int (if j > i then j else i)) H) : rMax2 [.int i, .int j] H Q := ⟨i, j, rfl, q⟩
theorem w_min3 {i j k : Int} (q : Q (.int (min (min i j) k)) H) : rNuC3 nuMin3 [.int i, .int j, .int k] H Q := by
  refine ⟨.int i, .int j, .int k, .int (min (min i j) k), rfl, ?_, q⟩
  have e1 : nuMin2 (.int i) (.int j) = some (.int (min i j)) := by
    show some (if decide (j < i) = true then V.int j else V.int i) = _
    by_cases h : j < i
    · rw [if_pos (decide_eq_true h)]
      congr 2
      omega
    · rw [if_neg (by simpa using h)]
      congr 2
      omega
  have e2 : nuMin2 (.int (min i j)) (.int k) = some (.int (min (min i j) k)) := by
    show some (if decide (k < min i j) = true then V.int k else V.int (min i j)) = _
    by_cases h : k < min i j
    · rw [if_pos (decide_eq_true h)]
      congr 2
      omega
    · rw [if_neg (by simpa using h)]
      congr 2
      omega
  show (nuMin2 (.int i) (.int j)).bind (fun m => nuMin2 m (.int k)) = _
  rw [e1]
  exact e2
theorem w_slL {p : Addr} {lo hi : Option Int} (xs : List V) (h : SqL K H p xs) (q : ∀ l, H l = none → Q (.ref l) (upd H l (.lst (cutV xs lo hi)))) : rSlL K (.ref p) lo hi H Q := ⟨p, xs, rfl, h, q⟩
theorem w_slS {z : Str} {lo hi : Option Int} (h : z.length ≤ sizeLine) (q : Q (.str (cutS z lo hi)) H) : rSlS (.str z) lo hi H Q := ⟨z, rfl, h, q⟩
end
end R

namespace R
open PySem L2
/-! ### the bag of a law: its cells (never changed), a place, what is left, the stirred number, a count -/
structure Bag (K : PySem.W.Frag) (F H : Hp) (b : Addr) : Prop where
  ex : ∃ (c : Addr) (cells : List Int) (i cur st n : Int), F b = none ∧ H b = some (.lst [.ref c, .int i, .int cur, .int st, .int n]) ∧ SqL K F c (cells.map V.int) ∧ cells.length ≤ 63 ∧
    (∀ x ∈ cells, 0 ≤ x ∧ x < 10 ^ 60) ∧ 0 ≤ i ∧ 0 ≤ cur ∧ cur < 10 ^ 60 ∧ 0 ≤ st ∧ st < 2147483647
theorem Bag.keep {K : PySem.W.Frag} {M : List Addr} {F H F2 H2 : Hp} {b : Addr} (g : Gr M F H F2 H2) (h : Bag K F H b) (hb : b ∉ M) : Bag K F2 H2 b := by
  obtain ⟨c, cells, i, cur, st, n, h1, h2, h3, h4⟩ := h.ex
  exact ⟨c, cells, i, cur, st, n, g.nw b (ne_none h2) h1, g.hh b _ hb h2, sqL_same g.ff h3, h4⟩
theorem Bag.keep0 {K : PySem.W.Frag} {F H F2 H2 : Hp} {b : Addr} (g : Gr [] F H F2 H2) (h : Bag K F H b) : Bag K F2 H2 b := h.keep g (fun z => nomatch z)
theorem Bag.ne_new {K : PySem.W.Frag} {F H : Hp} {b q : Addr} (h : Bag K F H b) (hq : H q = none) : b ≠ q := by
  obtain ⟨c, cells, i, cur, st, n, h1, h2, _⟩ := h.ex
  exact ne_of_none h2 hq
/-- a draw: a number from 0 on below n -/
def φdraw (K : PySem.W.Frag) : V → V → Hp → VK → Prop := fun x y H Q => ∃ (b : Addr) (m : Int) (F : Hp), x = .ref b ∧ y = .int m ∧ Same F H ∧ Bag K F H b ∧ 0 < m ∧ m < 2 ^ 200 ∧
  ∀ (r : Int) (F2 H2 : Hp), Gr [b] F H F2 H2 → Bag K F2 H2 b → 0 ≤ r → r < m → Q (.int r) H2
theorem u_draw {K : PySem.W.Frag} {b : Addr} {m : Int} {F H : Hp} {Q : VK} {E : XK} (w : Same F H) (hb : Bag K F H b) (h0 : 0 < m) (h1 : m < 2 ^ 200) (q : ∀ (r : Int) (F2 H2 : Hp), Gr [b] F H F2 H2 → Bag K F2 H2 b → 0 ≤ r → r < m → Q (.int r) H2) :
    S2 (φdraw K) ([.ref b, .int m] ++ []) H Q E := ⟨b, m, F, rfl, rfl, w, hb, h0, h1, q⟩
def φbag (K : PySem.W.Frag) : V → Hp → VK → Prop := fun x H Q => ∃ (a : Addr) (ns : List Int), x = .ref a ∧ SqL K H a (ns.map V.int) ∧ ns.length ≤ 63 ∧
  ∀ (b : Addr) (F2 H2 : Hp), Gr [] H H F2 H2 → Bag K F2 H2 b → Q (.ref b) H2
theorem bits_le {m : Int} (h0 : 0 < m) (h1 : m < 2 ^ 200) : (Builtin.Int.intBits m : Int) ≤ 200 := by
  have h : m.natAbs < 2 ^ 200 := by omega
  have e := PyProof.Rows.intBits_le h
  omega
theorem mod_nn {a b : Int} (h : 0 < b) : 0 ≤ a % b := Int.emod_nonneg a (by omega)
theorem mod_lt {a b : Int} (h : 0 < b) : a % b < b := Int.emod_lt_of_pos a h
theorem div_nn {a b : Int} (ha : 0 ≤ a) (hb : 0 < b) : 0 ≤ a / b := Int.ediv_nonneg ha (by omega)
theorem div_le' {a b : Int} (ha : 0 ≤ a) (hb : 0 < b) : a / b ≤ a := Int.ediv_le_self b ha
theorem log2_lt {j : Int} (h : j.natAbs < 2 ^ 8999) (h0 : 0 < j) : CDivW 0 j := by
  refine ⟨h0, ?_⟩
  have hp : j.natAbs ≠ 0 := by omega
  have := (Nat.log2_lt hp).mpr h
  omega
theorem divw_ok {i j : Int} (h0 : 0 < j) (h1 : j < 2 ^ 200) : CDivW i j := by
  refine ⟨h0, ?_⟩
  have hp : j.natAbs ≠ 0 := by omega
  have h : j.natAbs < 2 ^ 200 := by omega
  have := (Nat.log2_lt hp).mpr h
  omega
/-! ### loops by what holds at each turn -/
section
variable {K : PySem.W.Frag} {σ : L2.St} {H : Hp} {Q : VK} {nx bk ct : L2.St → Hp → Prop} {rt : VK} {g : TG} {tb : TS}
/-- what tFor asks of a range, by what holds ahead of turn i -/
theorem f_range {lo : Int} {n : Nat} (Pv : Nat → L2.St → Hp → Prop) (h0 : Pv 0 σ H) (hs : ∀ i σ H, i < n → Pv i σ H → g (.int (lo + i)) σ H fun σ2 H2 => tb ⟨Pv (i + 1), rt, nx, Pv (i + 1)⟩ σ2 H2) (hd : ∀ σ H, Pv n σ H → nx σ H) :
    ∃ W : Nat → Nat → L2.St → Hp → Prop, (∃ m, W 0 m σ H) ∧ ∀ i m σ H, W i m σ H →
      ((Itr lo n).stop i H ∧ nx σ H) ∨ ((Itr lo n).go i H ∧ ∃ N : L2.St → Hp → Prop, (∀ σ' H', N σ' H' → ∃ m', m' < m ∧ W (i + 1) m' σ' H') ∧ ∀ x H', (Itr lo n).yld i H x H' → g x σ H' fun σ2 H2 => tb ⟨N, rt, nx, N⟩ σ2 H2) := by
  refine ⟨fun i m σ H => m = n - i ∧ i ≤ n ∧ Pv i σ H, ⟨n, by simp, Nat.zero_le _, h0⟩, ?_⟩
  rintro i m σ H ⟨rfl, hi, p⟩
  by_cases hlt : i < n
  · refine .inr ⟨hlt, Pv (i + 1), fun σ' H' p' => ⟨n - (i + 1), by omega, rfl, hlt, p'⟩, fun x H' y => ?_⟩
    obtain ⟨e, y⟩ := y
    subst e y
    exact hs i σ _ hlt p
  · have e : i = n := by omega
    subst e
    exact .inl ⟨Nat.le_refl _, hd σ H p⟩
theorem f_range0 {n : Nat} (Pv : Nat → L2.St → Hp → Prop) (h0 : Pv 0 σ H) (hs : ∀ i σ H, i < n → Pv i σ H → g (.int (i : Int)) σ H fun σ2 H2 => tb ⟨Pv (i + 1), rt, nx, Pv (i + 1)⟩ σ2 H2) (hd : ∀ σ H, Pv n σ H → nx σ H) :
    ∃ W : Nat → Nat → L2.St → Hp → Prop, (∃ m, W 0 m σ H) ∧ ∀ i m σ H, W i m σ H →
      ((Itr 0 n).stop i H ∧ nx σ H) ∨ ((Itr 0 n).go i H ∧ ∃ N : L2.St → Hp → Prop, (∀ σ' H', N σ' H' → ∃ m', m' < m ∧ W (i + 1) m' σ' H') ∧ ∀ x H', (Itr 0 n).yld i H x H' → g x σ H' fun σ2 H2 => tb ⟨N, rt, nx, N⟩ σ2 H2) :=
  f_range Pv h0 (fun i σ H hi hp => by rw [Int.zero_add]; exact hs i σ H hi hp) hd
theorem f_list {a : Addr} {xs : List V} (Pv : Nat → L2.St → Hp → Prop) (h0 : Pv 0 σ H) (hl : ∀ i σ H, i ≤ xs.length → Pv i σ H → SqL K H a xs)
    (hs : ∀ i x σ H, xs[i]? = some x → Pv i σ H → g x σ H fun σ2 H2 => tb ⟨Pv (i + 1), rt, nx, Pv (i + 1)⟩ σ2 H2) (hd : ∀ σ H, Pv xs.length σ H → nx σ H) :
    ∃ W : Nat → Nat → L2.St → Hp → Prop, (∃ m, W 0 m σ H) ∧ ∀ i m σ H, W i m σ H →
      ((Itl K a).stop i H ∧ nx σ H) ∨ ((Itl K a).go i H ∧ ∃ N : L2.St → Hp → Prop, (∀ σ' H', N σ' H' → ∃ m', m' < m ∧ W (i + 1) m' σ' H') ∧ ∀ x H', (Itl K a).yld i H x H' → g x σ H' fun σ2 H2 => tb ⟨N, rt, nx, N⟩ σ2 H2) := by
  refine ⟨fun i m σ H => m = xs.length - i ∧ i ≤ xs.length ∧ Pv i σ H, ⟨xs.length, by simp, Nat.zero_le _, h0⟩, ?_⟩
  rintro i m σ H ⟨rfl, hi, p⟩
  have q := hl i σ H hi p
  by_cases hlt : i < xs.length
  · refine .inr ⟨⟨xs, xs[i], q, by simp [hlt]⟩, Pv (i + 1), fun σ' H' p' => ⟨xs.length - (i + 1), by omega, rfl, hlt, p'⟩, fun x H' y => ?_⟩
    obtain ⟨e, y⟩ := y
    subst e
    exact hs i x σ _ (y xs q) p
  · have e : i = xs.length := by omega
    subst e
    exact .inl ⟨⟨xs, q, Nat.le_refl _⟩, hd σ H p⟩
variable {tt : TT} {te : TE} {vs : List Nat} {D : Addr} {Qd : Hp → Prop}
theorem lc_rng {n : Nat} (Pv : Nat → Hp → Prop) (h0 : Pv 0 (upd H D (.lst []))) (hs : ∀ i H, i < n → Pv i H → g (.int (i : Int)) (wipe σ vs) H fun σ2 H2 => wipe σ2 vs = wipe σ vs ∧ tt σ2 H2 fun b H3 =>
      if b = true then te σ2 H3 fun y H4 => ∃ acc, H4 D = some (.lst acc) ∧ acc.length < sizeLine ∧ Pv (i + 1) (upd H4 D (.lst (acc ++ [y]))) else Pv (i + 1) H3) (hd : ∀ H, Pv n H → Qd H) :
    ∃ W : Nat → Nat → Hp → Prop, (∃ m, W 0 m (upd H D (.lst []))) ∧ ∀ i m H, W i m H →
      ((Itr 0 n).stop i H ∧ Qd H) ∨ ((Itr 0 n).go i H ∧ ∃ Nx : Hp → Prop, (∀ H', Nx H' → ∃ m', m' < m ∧ W (i + 1) m' H') ∧ ∀ x H', (Itr 0 n).yld i H x H' → g x (wipe σ vs) H' fun σ2 H2 => wipe σ2 vs = wipe σ vs ∧ tt σ2 H2 fun b H3 =>
        if b = true then te σ2 H3 fun y H4 => ∃ acc, H4 D = some (.lst acc) ∧ acc.length < sizeLine ∧ Nx (upd H4 D (.lst (acc ++ [y]))) else Nx H3) :=
  lc_range (lo := 0) Pv h0 (fun i H hi hp => by rw [Int.zero_add]; exact hs i H hi hp) hd
end
end R

namespace R
open PySem L2
theorem Gr.put {M : List Addr} {F0 H0 F H : Hp} {p : Addr} {o : HO} (g : Gr M F0 H0 F H) (h : F p = none) (hm : p ∈ M) : Gr M F0 H0 F (upd H p o) := g.trans (.wr g.fh h hm)
theorem Gr.add {M : List Addr} {F0 H0 F H : Hp} {p : Addr} {o : HO} (g : Gr M F0 H0 F H) (h : H p = none) : Gr M F0 H0 (upd F p o) (upd H p o) := g.trans (.im g.fh h)
theorem Gr.addm {M : List Addr} {F0 H0 F H : Hp} {p : Addr} {o : HO} (g : Gr M F0 H0 F H) (h : H p = none) : Gr M F0 H0 F (upd H p o) := g.trans (.new g.fh h)
theorem Gr.ws {M : List Addr} {F H F2 H2 : Hp} (g : Gr M F H F2 H2) : Same F H2 := g.ff.trans g.fh
theorem Gr.transN {M N : List Addr} {F H F1 H1 F2 H2 : Hp} (a : Gr M F H F1 H1) (b : Gr N F1 H1 F2 H2) (h : ∀ x ∈ N, x ∈ M ∨ H x = none) : Gr M F H F2 H2 :=
  ⟨a.ff.trans b.ff, b.fh, fun x o n e => b.hh x o (fun m => (h x m).elim n fun z => by rw [z] at e; cases e) (a.hh x o n e), fun x e => b.al x (a.al x e), fun x e n => b.nw x (a.al x e) (a.nw x e n)⟩
/-- back to a smaller part that stays -/
theorem Gr.back {M : List Addr} {F F' H F2 H2 : Hp} (g : Gr M F' H F2 H2) (s : Same F F') : Gr M F H F H2 := ⟨Same.refl F, (s.trans g.ff).trans g.fh, g.hh, g.al, fun _ _ n => n⟩
theorem Gr.fresh {M : List Addr} {F0 H0 F H : Hp} {p : Addr} (g : Gr M F0 H0 F H) (h : H p = none) : H0 p = none := by
  cases e : H0 p with
  | none => rfl
  | some o => exact absurd h (g.al p (ne_none e))
/-- an object that was new behind the start, and changes no more -/
theorem Gr.frz {M : List Addr} {F0 H0 F H : Hp} {p : Addr} {o : HO} (g : Gr M F0 H0 F H) (hn : H0 p = none) (m : Mu F H p o) : Gr M F0 H0 (upd F p o) H := by
  refine ⟨g.ff.trans (Same.new m.n), fun a u e => ?_, g.hh, g.al, fun a e n => ?_⟩
  · by_cases q : a = p
    · subst q
      rw [upd_same] at e
      exact m.h.trans e
    · rw [upd_ne q] at e
      exact g.fh a u e
  · have q : a ≠ p := fun z => by subst z; exact e hn
    rw [upd_ne q]
    exact g.nw a e n
theorem Mu.same {F H : Hp} {p : Addr} {o : HO} (m : Mu F H p o) (w : Same F H) : Same (upd F p o) H := fun a u e => by
  by_cases q : a = p
  · subst q
    rw [upd_same] at e
    exact m.h.trans e
  · rw [upd_ne q] at e
    exact w a u e
theorem Mu.frz {F H : Hp} {p q : Addr} {o u : HO} (m : Mu F H p o) (h : p ≠ q) : Mu (upd F q u) H p o := ⟨by rw [upd_ne h]; exact m.n, m.h⟩
theorem Bag.frz {K : PySem.W.Frag} {F H : Hp} {b q : Addr} {u : HO} (h : Bag K F H b) (hn : F q = none) (hq : b ≠ q) : Bag K (upd F q u) H b := by
  obtain ⟨c, cells, i, cur, st, n, h1, h2, h3, h4⟩ := h.ex
  exact ⟨c, cells, i, cur, st, n, by rw [upd_ne hq]; exact h1, h2, sqL_same (Same.new hn) h3, h4⟩
theorem Bag.put {K : PySem.W.Frag} {F H : Hp} {b q : Addr} {u : HO} (h : Bag K F H b) (hq : b ≠ q) : Bag K F (upd H q u) b := by
  obtain ⟨c, cells, i, cur, st, n, h1, h2, h3, h4⟩ := h.ex
  exact ⟨c, cells, i, cur, st, n, h1, by rw [upd_ne hq]; exact h2, h3, h4⟩
theorem Bag.addm {K : PySem.W.Frag} {F H : Hp} {b q : Addr} {u : HO} (h : Bag K F H b) (hq : H q = none) : Bag K F (upd H q u) b := h.put (h.ne_new hq)
theorem Bag.add {K : PySem.W.Frag} {F H : Hp} {b q : Addr} {u : HO} (w : Same F H) (h : Bag K F H b) (hq : H q = none) : Bag K (upd F q u) (upd H q u) b := (h.addm hq).frz (w.free hq) (h.ne_new hq)
theorem Mu.addm {F H : Hp} {p q : Addr} {o u : HO} (m : Mu F H p o) (hq : H q = none) : Mu F (upd H q u) p o := m.oth (m.ne_new hq)
theorem Mu.add {F H : Hp} {p q : Addr} {o u : HO} (m : Mu F H p o) (hq : H q = none) : Mu (upd F q u) (upd H q u) p o := (m.addm hq).frz (m.ne_new hq)
/-- a draw, the whole growth carried -/
theorem d_draw {K : PySem.W.Frag} {M : List Addr} {F0 H0 F H : Hp} {b : Addr} {m : Int} {Q : VK} {E : XK} (g : Gr M F0 H0 F H) (hb : Bag K F H b) (h0 : 0 < m) (h1 : m < 2 ^ 200)
    (q : ∀ (r : Int) (F2 H2 : Hp), Gr M F0 H0 F2 H2 → Gr [b] F H F2 H2 → Bag K F2 H2 b → 0 ≤ r → r < m → Q (.int r) H2) (hm : b ∈ M := by simp) :
    S2 (φdraw K) ([.ref b, .int m] ++ []) H Q E := ⟨b, m, F, rfl, rfl, g.fh, hb, h0, h1, fun r F2 H2 g2 hb2 hr0 hr1 => q r F2 H2 (g.trans (g2.sub fun x hx => by rw [List.mem_singleton.mp hx]; exact hm)) g2 hb2 hr0 hr1⟩
/-! ### data -/
theorem dpa_len {K : PySem.W.Frag} {F : Hp} : ∀ {vs : List V} {ds : List PyData}, DpAll K F vs ds → vs.length = ds.length
  | _, _, .nil => rfl
  | _, _, .cons _ t => congrArg (· + 1) (dpa_len t)
theorem dpa_get {K : PySem.W.Frag} {F : Hp} : ∀ {vs : List V} {ds : List PyData} {i : Nat} {d : PyData}, DpAll K F vs ds → ds[i]? = some d → ∃ v, vs[i]? = some v ∧ Dp K F v d
  | _, _, _, _, .nil, e => by simp at e
  | _, _, 0, _, .cons h _, e => by
    have e' := Option.some.inj e
    subst e'
    exact ⟨_, rfl, h⟩
  | _, _, i + 1, _, .cons _ t, e => dpa_get (i := i) t e
theorem dpa_app {K : PySem.W.Frag} {F : Hp} : ∀ {vs us : List V} {ds es : List PyData}, DpAll K F vs ds → DpAll K F us es → DpAll K F (vs ++ us) (ds ++ es)
  | _, _, _, _, .nil, h => h
  | _, _, _, _, .cons h t, u => .cons h (dpa_app t u)
theorem dpa_snoc {K : PySem.W.Frag} {F : Hp} {vs : List V} {ds : List PyData} {v : V} {d : PyData} (h : DpAll K F vs ds) (hd : Dp K F v d) : DpAll K F (vs ++ [v]) (ds ++ [d]) := dpa_app h (.cons hd .nil)
theorem dpa_mem {K : PySem.W.Frag} {F : Hp} : ∀ {vs : List V} {ds : List PyData} {v : V}, DpAll K F vs ds → v ∈ vs → ∃ d, d ∈ ds ∧ Dp K F v d
  | _, _, _, .nil, e => nomatch e
  | _, _, _, .cons h t, e => by
    rcases List.mem_cons.mp e with e | e
    · subst e
      exact ⟨_, List.mem_cons_self .., h⟩
    · obtain ⟨d, m, hd⟩ := dpa_mem t e
      exact ⟨d, List.mem_cons_of_mem _ m, hd⟩
def tyD : PyData → String
  | .none => "NoneType" | .bool _ => "bool" | .int _ => "int" | .str _ => "str" | .list _ => "list" | .tuple _ => "tuple" | .dict _ => "dict"
theorem tyx_of {K : PySem.W.Frag} {F H : Hp} {x : V} {d : PyData} (h : Dp K F x d) (w : Same F H) : TyX K H x (.type (tyD d)) := by
  cases h with
  | non => exact .base .non
  | bl b => exact .base (.bl b)
  | int i => exact .base (.int i)
  | str s => exact .base (.str s)
  | lst hs _ =>
    rcases hs with (h | ⟨o, h⟩) | ⟨o, its, n, e1, e2, _⟩
    · exact .base (.lst (w _ _ h))
    · exact .base (.frz (w _ _ h))
    · exact .kList e1 e2
  | tup hs _ =>
    rcases hs with (h | ⟨o, h⟩) | ⟨o, its, n, e1, e2, _⟩
    · exact .base (.tup (w _ _ h))
    · exact .fTuple (w _ _ h)
    · exact .kTuple e1 e2
section
variable {K : PySem.W.Frag} {F H : Hp} {x y : V} {d : PyData} {Q : VK} {n m : String} {p : Addr}
theorem u_isi {b : Bool} (h : Dp K F x d) (w : Same F H) (e : kitB (tyD d) n = some b) (q : Q (.bl b) H) : rIsi K [x, .ty n] H Q :=
  ⟨x, .ty n, _, _, b, rfl, .ty n, tyx_of h w, kit_ty e, q⟩
theorem u_isiT {b c : Bool} (h : Dp K F x d) (w : Same F H) (hp : H p = some (.tup [.ty n, .ty m])) (e1 : kitB (tyD d) n = some b) (e2 : kitB (tyD d) m = some c) (q : Q (.bl (b || c)) H) : rIsiT K [x, .ref p] H Q := by
  refine ⟨x, p, _, _, _, b || c, rfl, hp, .cons (.ty n) (.cons (.ty m) .nil), tyx_of h w, ?_, q⟩
  refine kitAny_cons (kit_ty e1) (fun hb => ?_) (fun hb => by rw [hb]; rfl)
  refine kitAny_cons (kit_ty e2) (fun hc => ?_) (fun hc => by rw [hc]; simp)
  rw [hb, hc]
  exact kitAny_nil
end
/-- the answers of isinstance for data -/
def isSeq : PyData → Bool
  | .list _ | .tuple _ => true
  | _ => false
def isLst : PyData → Bool
  | .list _ => true
  | _ => false
def isTup : PyData → Bool
  | .tuple _ => true
  | _ => false
def isBol : PyData → Bool
  | .bool _ => true
  | _ => false
def isInt : PyData → Bool
  | .bool _ | .int _ => true
  | _ => false
def isStr : PyData → Bool
  | .str _ => true
  | _ => false
theorem k_list : ∀ d : PyData, kitB (tyD d) "list" = some (isLst d) := by intro d; cases d <;> simp only [tyD, isLst, isTup, isBol, isInt, isStr] <;> decide +kernel
theorem k_tuple : ∀ d : PyData, kitB (tyD d) "tuple" = some (isTup d) := by intro d; cases d <;> simp only [tyD, isLst, isTup, isBol, isInt, isStr] <;> decide +kernel
theorem k_bool : ∀ d : PyData, kitB (tyD d) "bool" = some (isBol d) := by intro d; cases d <;> simp only [tyD, isLst, isTup, isBol, isInt, isStr] <;> decide +kernel
theorem k_int : ∀ d : PyData, kitB (tyD d) "int" = some (isInt d) := by intro d; cases d <;> simp only [tyD, isLst, isTup, isBol, isInt, isStr] <;> decide +kernel
theorem k_str : ∀ d : PyData, kitB (tyD d) "str" = some (isStr d) := by intro d; cases d <;> simp only [tyD, isLst, isTup, isBol, isInt, isStr] <;> decide +kernel
def itemsD : PyData → List PyData
  | .list ds | .tuple ds => ds
  | _ => []
theorem seq_of {K : PySem.W.Frag} {F : Hp} {x : V} {d : PyData} (h : Dp K F x d) (s : isSeq d = true) : ∃ (a : Addr) (vs : List V), x = .ref a ∧ (SqL K F a vs ∨ SqT K F a vs) ∧ DpAll K F vs (itemsD d) := by
  cases h with
  | lst hs ha => exact ⟨_, _, rfl, .inl hs, ha⟩
  | tup hs ha => exact ⟨_, _, rfl, .inr hs, ha⟩
  | _ => cases s
theorem sca_of {K : PySem.W.Frag} {F : Hp} {x y : V} {d : PyData} (h : Dp K F x d) (h' : Dp K F y d) (s : isSeq d = false) : y = x ∧ scal x x = true := by
  cases h with
  | lst hs ha => cases s
  | tup hs ha => cases s
  | non => cases h'; exact ⟨rfl, rfl⟩
  | bl => cases h'; exact ⟨rfl, rfl⟩
  | int => cases h'; exact ⟨rfl, rfl⟩
  | str => cases h'; exact ⟨rfl, rfl⟩
theorem depth_item : ∀ {d e : PyData} {i : Nat}, isSeq d = true → (itemsD d)[i]? = some e → e.depth < d.depth := by
  have key : ∀ (ds : List PyData) (i : Nat) (e : PyData), ds[i]? = some e → e.depth ≤ PyData.depthAll ds := by
    intro ds
    induction ds with
    | nil => intro i e h; simp at h
    | cons d ds ih =>
      intro i e h
      cases i with
      | zero =>
        have e' := Option.some.inj h
        subst e'
        rw [PyData.depthAll]
        exact Nat.le_max_left _ _
      | succ i =>
        have := ih i e h
        rw [PyData.depthAll]
        exact Nat.le_trans this (Nat.le_max_right _ _)
  intro d e i s h
  cases d with
  | list ds => rw [PyData.depth]; exact Nat.lt_succ_of_le (key ds i e h)
  | tuple ds => rw [PyData.depth]; exact Nat.lt_succ_of_le (key ds i e h)
  | _ => cases s
section
variable {K : PySem.W.Frag} {H : Hp} {Q : VK} {v : V} {A B : Prop}
theorem w_ixQ {a : Addr} {i : Int} (vs : List V) (v : V) (h : SqL K H a vs ∨ SqT K H a vs) (e : atI vs i = some v) (q : Q v H) : rIx K (.ref a) (.int i) H Q := by
  rcases h with h | h
  · exact .inl ⟨a, vs, i, v, rfl, rfl, h, e, q⟩
  · exact .inr (.inl ⟨a, vs, i, v, rfl, rfl, h, e, q⟩)
theorem sq_same {F : Hp} {a : Addr} {vs : List V} (w : Same F H) (h : SqL K F a vs ∨ SqT K F a vs) : SqL K H a vs ∨ SqT K H a vs := h.elim (fun h => .inl (sqL_same w h)) fun h => .inr (sqT_same w h)
theorem w_nself {α : Type} [DecidableEq α] {a : α} (h : B) : if (!decide (a = a)) = true then A else B := by
  rw [if_neg (by simp)]
  exact h
theorem w_self {α : Type} [DecidableEq α] {a : α} (h : A) : if decide (a = a) = true then A else B := by
  rw [if_pos (by simp)]
  exact h
theorem w_is {b c : Bool} (e : b = c) (h : if c = true then A else B) : if b = true then A else B := by rw [e]; exact h
end
theorem le1000 {n : Nat} (h : n ≤ 1000) : n ≤ sizeLine := Nat.le_of_lt (small1000 h)
theorem small_lt {n : Nat} (h : n ≤ 1000000) : n < sizeLine := by rw [sizeLine_eq]; omega
theorem all_rep (n : Nat) : (List.replicate n true).all id = true := by
  induction n with
  | zero => rfl
  | succ n ih => rw [List.replicate_succ, List.all_cons, ih]; rfl
theorem szle {n : Nat} (h : n ≤ 1000000) : n ≤ sizeLine := Nat.le_of_lt (by rw [sizeLine_eq]; omega)
section
variable {K : PySem.W.Frag} {σ : L2.St} {H : Hp} {Q : VK} {ta : TE}
theorem w_lstRg {te : L2.St → Hp → (Int → Int → Hp → Prop) → Prop} (q : te σ H fun a b H1 => RgOk a b ∧ ∀ q, H1 q = none → Q (.ref q) (upd H1 q (.lst (rgV a b)))) : tLstRg te σ H Q := q
theorem w_rg1 {R : Int → Int → Hp → Prop} (q : ta σ H fun x H1 => asInt x H1 fun n H2 => R 0 n H2) : tRg1 ta σ H R := q
theorem w_revL (q : ta σ H fun x H1 => ∃ a xs, x = .ref a ∧ SqL K H1 a xs ∧ ∀ p, H1 p = none → Q (.ref p) (upd H1 p (.lst xs.reverse))) : tRevL K ta σ H Q := q
end
def nV (l : List Nat) : List V := l.map fun k => V.int (k : Nat)
theorem rgV0 (n : Int) : rgV 0 n = nV (List.range n.toNat) := by
  unfold rgV nV
  rw [Int.sub_zero]
  refine List.map_congr_left fun k _ => ?_
  rw [Int.zero_add]
theorem nV_rev (l : List Nat) : (nV l).reverse = nV l.reverse := by
  unfold nV
  rw [List.map_reverse]
theorem nV_get {l : List Nat} {i : Nat} {x : V} (h : (nV l)[i]? = some x) : ∃ k, l[i]? = some k ∧ x = .int (k : Nat) := by
  unfold nV at h
  rw [List.getElem?_map] at h
  cases e : l[i]? with
  | none => rw [e] at h; cases h
  | some k =>
    rw [e] at h
    exact ⟨k, rfl, (Option.some.inj h).symm⟩
theorem pick_ix {ns : List Int} {i lo hi : Int} (h0 : 0 ≤ i) (h1 : i < (ns.length : Int)) (hb : ∀ x ∈ ns, lo ≤ x ∧ x ≤ hi) : ∃ m, atI (ns.map V.int) i = some (.int m) ∧ lo ≤ m ∧ m ≤ hi := by
  have hi : i.toNat < ns.length := by omega
  refine ⟨ns[i.toNat], ?_, hb _ (List.getElem_mem hi)⟩
  refine at_of (j := i.toNat) (by omega) ?_
  rw [List.getElem?_map, List.getElem?_eq_getElem hi]
  rfl
theorem rep_flat {α : Type} (n : Nat) (x : α) : (List.replicate n [x]).flatten = List.replicate n x := by
  induction n with
  | zero => rfl
  | succ n ih => rw [List.replicate_succ, List.flatten_cons, ih]; rfl
theorem cell_at {cells : List Int} {i : Int} (h0 : 0 ≤ i) (h1 : i < ((cells.map V.int).length : Nat)) : ∃ x, x ∈ cells ∧ atI (cells.map V.int) i = some (.int x) := by
  rw [List.length_map] at h1
  have hi : i.toNat < cells.length := by omega
  refine ⟨cells[i.toNat], List.getElem_mem hi, ?_⟩
  refine at_of (j := i.toNat) (by omega) ?_
  rw [List.getElem?_map, List.getElem?_eq_getElem hi]
  rfl
theorem cut63 {ns : List Int} (h : ns.length ≤ 63) : cutV (ns.map V.int) none (some 63) = ns.map V.int := by
  unfold cutV
  rw [HT.sIx_none, show HT.sIx (ns.map V.int).length (ns.map V.int).length (some 63) = min 63 (ns.map V.int).length from HT.sIx_nat _ _ 63, List.drop_zero, List.length_map]
  refine List.take_of_length_le ?_
  rw [List.length_map]
  omega
theorem map_get {ns : List Int} {i : Nat} {x : V} (h : (ns.map V.int)[i]? = some x) : ∃ c, x = .int c := by
  rw [List.getElem?_map] at h
  cases e : ns[i]? with
  | none => rw [e] at h; cases h
  | some c =>
    rw [e] at h
    exact ⟨c, (Option.some.inj h).symm⟩
/-! data of modest size, no dicts, plain signs -/
mutual
def good : PyData → Bool
  | .none | .bool _ | .int _ => true
  | .str x => PyData.strOk x && decide (x.length ≤ 100000)
  | .list ds | .tuple ds => decide (ds.length ≤ 100000) && goodAll ds
  | .dict _ => false
def goodAll : List PyData → Bool
  | [] => true
  | d :: ds => good d && goodAll ds
end
theorem goodAll_iff : ∀ {ds : List PyData}, goodAll ds = true ↔ ∀ d ∈ ds, good d = true
  | [] => by simp [goodAll]
  | d :: ds => by simp [goodAll, goodAll_iff (ds := ds)]
mutual
theorem lay_good : ∀ d : PyData, good d = true → d.canLay0 = true
  | .none, _ => rfl
  | .bool _, _ => rfl
  | .int _, _ => rfl
  | .str x, h => by
    rw [good, Bool.and_eq_true] at h
    exact h.1
  | .list ds, h => by
    rw [good, Bool.and_eq_true] at h
    exact lay_goodAll ds h.2
  | .tuple ds, h => by
    rw [good, Bool.and_eq_true] at h
    exact lay_goodAll ds h.2
  | .dict _, h => by cases h
theorem lay_goodAll : ∀ ds : List PyData, goodAll ds = true → PyData.canLayAll0 ds = true
  | [], _ => rfl
  | d :: ds, h => by
    rw [goodAll, Bool.and_eq_true] at h
    rw [PyData.canLayAll0, lay_good d h.1, lay_goodAll ds h.2]
    rfl
end
theorem good_item {d e : PyData} {i : Nat} (h : good d = true) (he : (itemsD d)[i]? = some e) : good e = true := by
  cases d with
  | list ds =>
    rw [good, Bool.and_eq_true] at h
    exact goodAll_iff.mp h.2 e (List.mem_of_getElem? he)
  | tuple ds =>
    rw [good, Bool.and_eq_true] at h
    exact goodAll_iff.mp h.2 e (List.mem_of_getElem? he)
  | _ => simp [itemsD] at he
theorem good_len {d : PyData} (h : good d = true) : (itemsD d).length ≤ 100000 := by
  cases d with
  | list ds =>
    rw [good, Bool.and_eq_true] at h
    exact of_decide_eq_true h.1
  | tuple ds =>
    rw [good, Bool.and_eq_true] at h
    exact of_decide_eq_true h.1
  | _ => exact Nat.zero_le _
theorem good_shaped {d : PyData} (h : good d = true) (hd : d.depth ≤ 64) : SeqAt.shaped d = true := by
  unfold SeqAt.shaped
  rw [lay_good d h, decide_eq_true hd]
  rfl
theorem good_refl {d : PyData} (h : good d = true) : PyData.eqv d d = true := SeqAt.eqv_refl d (lay_good d h)
theorem good_list {ds : List PyData} (hl : ds.length ≤ 100000) (h : ∀ d ∈ ds, good d = true) : good (.list ds) = true := by
  rw [good, Bool.and_eq_true]
  exact ⟨decide_eq_true hl, goodAll_iff.mpr h⟩
theorem good_tuple {ds : List PyData} (hl : ds.length ≤ 100000) (h : ∀ d ∈ ds, good d = true) : good (.tuple ds) = true := by
  rw [good, Bool.and_eq_true]
  exact ⟨decide_eq_true hl, goodAll_iff.mpr h⟩
theorem depth_list {ds : List PyData} {n : Nat} (h : ∀ d ∈ ds, d.depth ≤ n) : (PyData.list ds).depth ≤ n + 1 := by
  have key : ∀ ds : List PyData, (∀ d ∈ ds, d.depth ≤ n) → PyData.depthAll ds ≤ n := by
    intro ds
    induction ds with
    | nil => intro _; exact Nat.zero_le _
    | cons d ds ih =>
      intro h
      rw [PyData.depthAll]
      exact Nat.max_le.mpr ⟨h d (List.mem_cons_self ..), ih fun e he => h e (List.mem_cons_of_mem _ he)⟩
  rw [PyData.depth]
  exact Nat.succ_le_succ (key ds h)
theorem depth_tuple {ds : List PyData} {n : Nat} (h : ∀ d ∈ ds, d.depth ≤ n) : (PyData.tuple ds).depth ≤ n + 1 := depth_list (ds := ds) h
/-! == and != of equal data -/
section
variable {K : PySem.W.Frag} {F H : Hp} {x y : V} {d : PyData} {Q : VK}
theorem u_eqD (w : Same F H) (hx : Dp K F x d) (hy : Dp K F y d) (hg : good d = true) (hd : d.depth ≤ 64) (q : Q (.bl true) H) : rEqD K x y H Q :=
  ⟨d, d, dp_same w _ _ hx, dp_same w _ _ hy, good_shaped hg hd, good_shaped hg hd, by rw [good_refl hg]; exact q⟩
theorem u_neD (w : Same F H) (hx : Dp K F x d) (hy : Dp K F y d) (hg : good d = true) (hd : d.depth ≤ 64) (q : Q (.bl false) H) : rNeD K x y H Q :=
  ⟨d, d, dp_same w _ _ hx, dp_same w _ _ hy, good_shaped hg hd, good_shaped hg hd, by rw [good_refl hg]; exact q⟩
end
/-- two things of the same data -/
def φalike (K : PySem.W.Frag) (n : Nat) : V → V → Hp → VK → Prop := fun x y H Q => ∃ (F : Hp) (d : PyData), Same F H ∧ Dp K F x d ∧ Dp K F y d ∧ d.depth < n ∧ good d = true ∧
  ∀ F2 H2 : Hp, Gr [] F H F2 H2 → Q (.bl true) H2
theorem alike0 {K : PySem.W.Frag} {vs : List V} {H : Hp} {Q : VK} {E : XK} (h : S2 (φalike K 0) vs H Q E) : False := by
  match vs, h with
  | [_, _], h =>
    obtain ⟨F, d, _, _, _, hn, _⟩ := h
    exact absurd hn (Nat.not_lt_zero _)
end R

namespace R
open PySem L2
/-! ### data taken apart -/
section
variable {K : PySem.W.Frag} {F : Hp} {x v : V}
theorem dp_int {i : Int} (h : Dp K F x (.int i)) : x = .int i := by cases h; rfl
theorem dp_str {s : Str} (h : Dp K F x (.str s)) : x = .str s := by cases h; rfl
theorem dp_non (h : Dp K F x .none) : x = .non := by cases h; rfl
theorem dp_bool {b : Bool} (h : Dp K F x (.bool b)) : x = .bl b := by cases h; rfl
theorem dp_list {ds : List PyData} (h : Dp K F x (.list ds)) : ∃ (a : Addr) (vs : List V), x = .ref a ∧ SqL K F a vs ∧ DpAll K F vs ds := by
  cases h with
  | lst hs ha => exact ⟨_, _, rfl, hs, ha⟩
theorem dp_tup {ds : List PyData} (h : Dp K F x (.tuple ds)) : ∃ (a : Addr) (vs : List V), x = .ref a ∧ SqT K F a vs ∧ DpAll K F vs ds := by
  cases h with
  | tup hs ha => exact ⟨_, _, rfl, hs, ha⟩
theorem dpa_cons {vs : List V} {d : PyData} {ds : List PyData} (h : DpAll K F vs (d :: ds)) : ∃ v us, vs = v :: us ∧ Dp K F v d ∧ DpAll K F us ds := by
  cases h with
  | cons h t => exact ⟨_, _, rfl, h, t⟩
theorem dpa_nil {vs : List V} (h : DpAll K F vs []) : vs = [] := by cases h; rfl
theorem dp_tup3 {d1 d2 d3 : PyData} (h : Dp K F x (.tuple [d1, d2, d3])) : ∃ (a : Addr) (v1 v2 v3 : V), x = .ref a ∧ SqT K F a [v1, v2, v3] ∧ Dp K F v1 d1 ∧ Dp K F v2 d2 ∧ Dp K F v3 d3 := by
  obtain ⟨a, vs, rfl, hs, h0⟩ := dp_tup h
  obtain ⟨v1, us, rfl, h1, h0⟩ := dpa_cons h0
  obtain ⟨v2, us, rfl, h2, h0⟩ := dpa_cons h0
  obtain ⟨v3, us, rfl, h3, h0⟩ := dpa_cons h0
  cases dpa_nil h0
  exact ⟨a, v1, v2, v3, rfl, hs, h1, h2, h3⟩
theorem dp_tup4 {d1 d2 d3 d4 : PyData} (h : Dp K F x (.tuple [d1, d2, d3, d4])) : ∃ (a : Addr) (v1 v2 v3 v4 : V), x = .ref a ∧ SqT K F a [v1, v2, v3, v4] ∧ Dp K F v1 d1 ∧ Dp K F v2 d2 ∧ Dp K F v3 d3 ∧ Dp K F v4 d4 := by
  obtain ⟨a, vs, rfl, hs, h0⟩ := dp_tup h
  obtain ⟨v1, us, rfl, h1, h0⟩ := dpa_cons h0
  obtain ⟨v2, us, rfl, h2, h0⟩ := dpa_cons h0
  obtain ⟨v3, us, rfl, h3, h0⟩ := dpa_cons h0
  obtain ⟨v4, us, rfl, h4, h0⟩ := dpa_cons h0
  cases dpa_nil h0
  exact ⟨a, v1, v2, v3, v4, rfl, hs, h1, h2, h3, h4⟩
end
/-! ### texts -/
/-- a text of plain signs -/
def okS (z : Str) : Prop := PyData.strOk z = true
instance (z : Str) : Decidable (okS z) := inferInstanceAs (Decidable (PyData.strOk z = true))
theorem ok_cat {a b : Str} (h : okS a) (h' : okS b) : okS (a ++ b) := by
  have e : (a ++ b).cps.toList = a.cps.toList ++ b.cps.toList := TL.tl_append a b
  have h1 : a.cps.all (· < 0x110000) = true := h
  have h2 : b.cps.all (· < 0x110000) = true := h'
  show (a ++ b).cps.all (· < 0x110000) = true
  rw [← Array.all_toList] at h1 h2 ⊢
  rw [e, List.all_append, h1, h2]
  rfl
theorem joined (ys : List Str) (h : ∀ y ∈ ys, y.length = 1 ∧ okS y) : (Txt.join ⟨#[]⟩ ys).length = ys.length ∧ okS (Txt.join ⟨#[]⟩ ys) := by
  have e : TL.tl (Txt.join ⟨#[]⟩ ys) = (ys.map TL.tl).flatten := by
    rw [TL.join_eq, TL.tl_join]
    have key : ∀ l : List (List Nat), TL.joinL [] l = l.flatten := by
      intro l
      induction l with
      | nil => rfl
      | cons p r ih =>
        cases r with
        | nil => simp [TL.joinL]
        | cons q r =>
          show p ++ ([] ++ TL.joinL [] (q :: r)) = _
          rw [ih, List.nil_append]
          rfl
    exact key _
  have hl : ∀ z : Str, z.length = (TL.tl z).length := fun z => by simp [TL.tl, Str.length]
  constructor
  · rw [hl, e]
    clear e
    induction ys with
    | nil => rfl
    | cons y r ih =>
      rw [List.map_cons, List.flatten_cons, List.length_append, ih fun z hz => h z (List.mem_cons_of_mem _ hz), ← hl, (h y (List.mem_cons_self ..)).1, List.length_cons]
      omega
  · show (Txt.join ⟨#[]⟩ ys).cps.all (· < 0x110000) = true
    rw [← Array.all_toList]
    show (TL.tl (Txt.join ⟨#[]⟩ ys)).all _ = true
    rw [e, List.all_eq_true]
    intro c hc
    obtain ⟨l, hl1, hc⟩ := List.mem_flatten.mp hc
    obtain ⟨y, hy, rfl⟩ := List.mem_map.mp hl1
    have h2 : y.cps.all (· < 0x110000) = true := (h y hy).2
    rw [← Array.all_toList, List.all_eq_true] at h2
    exact h2 c hc
theorem sum_ones : ∀ (ys : List Str), (∀ y ∈ ys, y.length = 1 ∧ okS y) → (ys.map (·.length)).sum = ys.length
  | [], _ => rfl
  | y :: r, h => by
    rw [List.map_cons, List.sum_cons, sum_ones r fun z hz => h z (List.mem_cons_of_mem _ hz), (h y (List.mem_cons_self ..)).1, List.length_cons]
    omega
theorem at_of' {α : Type} {xs : List α} {z : Int} {j : Nat} {v : α} (e : z = (j : Int)) (h : xs[j]? = some v) : atI xs z = some v := by
  rw [e]
  exact atI_nat h
theorem sign_at {z : Str} {r : Int} (ok : okS z) (h0 : 0 ≤ r) (h1 : r < (z.length : Nat)) : ∃ c : Nat, atI z.cps.toList r = some c ∧ okS ⟨#[c]⟩ := by
  have hi : r.toNat < z.cps.toList.length := by
    have : z.cps.toList.length = z.length := by simp [Str.length]
    omega
  refine ⟨z.cps.toList[r.toNat], at_of' (by omega) (List.getElem?_eq_getElem hi), ?_⟩
  have h2 : z.cps.all (· < 0x110000) = true := ok
  rw [← Array.all_toList, List.all_eq_true] at h2
  have h3 := h2 _ (List.getElem_mem hi)
  show (#[z.cps.toList[r.toNat]] : Array Nat).all (· < 0x110000) = true
  simpa using h3
theorem sign_get {z : Str} {k : Nat} (h1 : k < z.length) : atI z.cps.toList (k : Int) = some (z.cps.toList.getD k 0) := by
  have hi : k < z.cps.toList.length := by
    have : z.cps.toList.length = z.length := by simp [Str.length]
    omega
  refine atI_nat ?_
  rw [List.getD_eq_getElem?_getD, List.getElem?_eq_getElem hi]
  rfl
theorem ok_sign {z : Str} {k : Nat} (ok : okS z) (h1 : k < z.length) : okS ⟨#[z.cps.toList.getD k 0]⟩ := by
  have hi : k < z.cps.toList.length := by
    have : z.cps.toList.length = z.length := by simp [Str.length]
    omega
  have h2 : z.cps.all (· < 0x110000) = true := ok
  rw [← Array.all_toList, List.all_eq_true] at h2
  have h3 := h2 _ (List.getElem_mem hi)
  rw [List.getD_eq_getElem?_getD, List.getElem?_eq_getElem hi]
  show (#[z.cps.toList[k]] : Array Nat).all (· < 0x110000) = true
  simpa using h3
/-! ### rows of a plan -/
inductive Wd where | copy | keep | lay
  deriving DecidableEq
def Wd.s : Wd → Str
  | .copy => "copy" | .keep => "keep" | .lay => "lay"
inductive PRow where
  | put (to : Int) (s : Str)
  | mv (w : Wd) (to at_ n : Int)
def PRow.d : PRow → PyData
  | .put to s => .tuple [.str "put", .int to, .str s]
  | .mv w to a n => .tuple [.str w.s, .int to, .int a, .int n]
def PRow.size : PRow → Nat
  | .put _ s => s.length
  | .mv _ _ _ n => n.toNat
def PRow.ok : PRow → Prop
  | .put _ s => okS s ∧ s.length ≤ 5000
  | .mv _ _ _ n => 0 ≤ n ∧ n ≤ 5000
def wr (a : Str) (i : Int) (b : Str) (x : PyData) : PyData := .tuple [.str a, .int i, .str b, x]
def Wd.cell (w : Wd) : Str := if w = .keep then "slot" else "cell"
def Wd.src (w : Wd) : Str := if w = .lay then "slot" else "cell"
def PRow.steps (w : Wd) (to a n : Int) : List Nat := if w = .copy ∧ a < to then (List.range n.toNat).reverse else List.range n.toNat
def PRow.writes : PRow → List PyData
  | .put to s => (List.range s.length).map fun (k : Nat) => wr "cell" (to + k) "sign" (.str ⟨#[s.cps.toList.getD k 0]⟩)
  | .mv w to a n => (PRow.steps w to a n).map fun (k : Nat) => wr w.cell (to + k) w.src (.int (a + k))
theorem PRow.steps_len (w : Wd) (to a n : Int) : (PRow.steps w to a n).length = n.toNat := by
  unfold PRow.steps
  split
  · rw [List.length_reverse, List.length_range]
  · rw [List.length_range]
theorem PRow.writes_len (r : PRow) : r.writes.length = r.size := by
  cases r with
  | put to s => simp [PRow.writes, PRow.size]
  | mv w to a n => simp [PRow.writes, PRow.size, PRow.steps_len]
section
variable {K : PySem.W.Frag} {F : Hp} {x : V}
theorem dp_put {to : Int} {s : Str} (h : Dp K F x (PRow.put to s).d) : ∃ a, x = .ref a ∧ SqT K F a [.str "put", .int to, .str s] := by
  obtain ⟨a, v1, v2, v3, rfl, hs, h1, h2, h3⟩ := dp_tup3 h
  rw [dp_str h1, dp_int h2, dp_str h3] at hs
  exact ⟨a, rfl, hs⟩
theorem dp_mv {w : Wd} {to a n : Int} (h : Dp K F x (PRow.mv w to a n).d) : ∃ p, x = .ref p ∧ SqT K F p [.str w.s, .int to, .int a, .int n] := by
  obtain ⟨p, v1, v2, v3, v4, rfl, hs, h1, h2, h3, h4⟩ := dp_tup4 h
  rw [dp_str h1, dp_int h2, dp_int h3, dp_int h4] at hs
  exact ⟨p, rfl, hs⟩
end
/-- a new list of these data -/
structure NewL (K : PySem.W.Frag) (H F2 H2 : Hp) (a : Addr) (ds : List PyData) : Prop where
  nw : H a = none
  ex : ∃ vs, Mu F2 H2 a (.lst vs) ∧ DpAll K F2 vs ds
def φrow_writes (K : PySem.W.Frag) : V → Hp → VK → Prop := fun x H Q => ∃ (F : Hp) (r : PRow), Same F H ∧ Dp K F x r.d ∧ r.ok ∧
  ∀ (a : Addr) (F2 H2 : Hp), Gr [] F H F2 H2 → NewL K H F2 H2 a r.writes → Q (.ref a) H2
def φwrites (K : PySem.W.Frag) : V → Hp → VK → Prop := fun x H Q => ∃ (F : Hp) (rs : List PRow), Same F H ∧ Dp K F x (.list (rs.map PRow.d)) ∧ (∀ r ∈ rs, r.ok) ∧ (rs.map PRow.size).sum ≤ 50000 ∧
  ∀ (a : Addr) (F2 H2 : Hp), Gr [] F H F2 H2 → NewL K H F2 H2 a (rs.flatMap PRow.writes) → Q (.ref a) H2
/-! ### the law's makers -/
def φsign (K : PySem.W.Frag) : V → V → Hp → VK → Prop := fun x y H Q => ∃ (b : Addr) (f : Bool) (F : Hp), x = .ref b ∧ y = .bl f ∧ Same F H ∧ Bag K F H b ∧
  ∀ (s : Str) (F2 H2 : Hp), Gr [b] F H F2 H2 → Bag K F2 H2 b → s.length = 1 → okS s → Q (.str s) H2
def φtext (K : PySem.W.Frag) : V → V → V → Hp → VK → Prop := fun x y z H Q => ∃ (b : Addr) (f : Bool) (n : Int) (F : Hp), x = .ref b ∧ y = .bl f ∧ z = .int n ∧ Same F H ∧ Bag K F H b ∧ 0 ≤ n ∧ n ≤ 5000 ∧
  ∀ (s : Str) (F2 H2 : Hp), Gr [b] F H F2 H2 → Bag K F2 H2 b → (s.length : Int) = n → okS s → Q (.str s) H2
theorem w_ixL1 {z : Str} {r : Int} {n : Int} {H : Hp} {Q : VK} (ok : okS z) (hn : (z.length : Int) = n) (hs : z.length ≤ 1000) (r0 : 0 ≤ r) (r1 : r < n) (q : ∀ s : Str, s.length = 1 → okS s → Q (.str s) H) : rIxS (.str z) (.int r) H Q := by
  obtain ⟨c, ec, oc⟩ := sign_at (z := z) ok r0 (by rw [hn]; exact r1)
  exact w_ixS (le1000 hs) ec (q _ rfl oc)
/-- a list of truths of this length, that may change -/
def Hs (F H : Hp) (t : Addr) (n : Nat) : Prop := ∃ bs : List Bool, bs.length = n ∧ Mu F H t (.lst (bs.map V.bl))
theorem Hs.keep {M : List Addr} {F H F2 H2 : Hp} {t : Addr} {n : Nat} (g : Gr M F H F2 H2) (h : Hs F H t n) (ht : t ∉ M) : Hs F2 H2 t n := by
  obtain ⟨bs, l, m⟩ := h
  exact ⟨bs, l, g.mu m ht⟩
theorem Hs.addm {F H : Hp} {t p : Addr} {n : Nat} {u : HO} (h : Hs F H t n) (hp : H p = none) : Hs F (upd H p u) t n := by
  obtain ⟨bs, l, m⟩ := h
  exact ⟨bs, l, m.addm hp⟩
theorem Hs.add {F H : Hp} {t p : Addr} {n : Nat} {u : HO} (h : Hs F H t n) (hp : H p = none) : Hs (upd F p u) (upd H p u) t n := by
  obtain ⟨bs, l, m⟩ := h
  exact ⟨bs, l, m.add hp⟩
theorem Hs.ne_new {F H : Hp} {t q : Addr} {n : Nat} (h : Hs F H t n) (hq : H q = none) : t ≠ q := by
  obtain ⟨_, _, m⟩ := h
  exact m.ne_new hq
theorem Hs.put {F H : Hp} {t q : Addr} {n : Nat} {u : HO} (h : Hs F H t n) (hq : t ≠ q) : Hs F (upd H q u) t n := by
  obtain ⟨bs, l, m⟩ := h
  exact ⟨bs, l, m.oth hq⟩
theorem Hs.set {F H : Hp} {t p : Addr} {n : Nat} {cs : List Bool} (h : Hs F H t n) (hp : t = p → cs.length = n) (m : Mu F H p (.lst (cs.map V.bl))) {j : Nat} : Hs F (upd H p (.lst ((cs.map V.bl).set j (V.bl true)))) t n := by
  by_cases e : t = p
  · subst e
    refine ⟨cs.set j true, by rw [List.length_set]; exact hp rfl, ?_⟩
    rw [List.map_set]
    exact m.wr
  · obtain ⟨bs, l, m'⟩ := h
    exact ⟨bs, l, m'.oth e⟩
theorem ixN_in {n : Nat} {i : Int} (h0 : 0 ≤ i) (h1 : i < (n : Int)) : ixN n i = some i.toNat := by
  unfold ixN
  rw [if_pos h0, if_pos h1]
theorem u_emp {K : PySem.W.Frag} {H : Hp} {a p : Addr} {bs : List Bool} {Q : VK} (ha : SqL K H a (bs.map V.bl)) (hp : SqL K H p []) (hl : bs.length ≤ 1000) (q : Q (.bl (decide (bs.length = 0))) H) : rEqD K (.ref a) (.ref p) H Q := by
  have key : ∀ bs : List Bool, DpAll K H (bs.map V.bl) (bs.map PyData.bool) := by
    intro bs
    induction bs with
    | nil => exact .nil
    | cons b bs ih => exact .cons (.bl b) ih
  refine ⟨.list (bs.map PyData.bool), .list [], .lst ha (key bs), .lst hp .nil, ?_, ?_, ?_⟩
  · refine good_shaped (good_list (by rw [List.length_map]; omega) fun d hd => ?_) (Nat.le_trans (depth_list (n := 0) fun d hd => ?_) (by decide))
    · obtain ⟨b, _, rfl⟩ := List.mem_map.mp hd
      rfl
    · obtain ⟨b, _, rfl⟩ := List.mem_map.mp hd
      exact Nat.le_refl _
  · exact good_shaped rfl (by decide)
  · have e : PyData.eqv (.list (bs.map PyData.bool)) (.list []) = decide (bs.length = 0) := by
      cases bs with
      | nil => rfl
      | cons b bs => rfl
    rw [e]
    exact q
def φany_row (K : PySem.W.Frag) : V → V → V → V → Hp → VK → Prop := fun x y z u H Q => ∃ (b hd t0 t1 : Addr) (n0 n1 : Nat) (f : Bool) (wd : Int) (F : Hp), x = .ref b ∧ y = .ref hd ∧ z = .bl f ∧ u = .int wd ∧ Same F H ∧ Bag K F H b ∧
  SqL K F hd [.ref t0, .ref t1] ∧ Hs F H t0 n0 ∧ Hs F H t1 n1 ∧ t0 ≠ t1 ∧ b ≠ t0 ∧ b ≠ t1 ∧ n0 ≤ 1000 ∧ n1 ≤ 1000 ∧ 0 ≤ wd ∧ wd ≤ 5000 ∧
  ∀ (v : V) (F2 H2 : Hp), Gr [b, t0, t1] F H F2 H2 → Bag K F2 H2 b → Hs F2 H2 t0 n0 → Hs F2 H2 t1 n1 → (v = .non ∨ ∃ r : PRow, Dp K F2 v r.d ∧ r.ok ∧ (r.size : Int) ≤ wd) → Q v H2
def φany_plan (K : PySem.W.Frag) : V → V → V → V → V → V → V → Hp → VK → Prop := fun x1 x2 x3 x4 x5 x6 x7 H Q => ∃ (b : Addr) (n big slots rows most : Int) (f : Bool) (F : Hp), x1 = .ref b ∧ x2 = .int n ∧ x3 = .int big ∧ x4 = .int slots ∧ x5 = .int rows ∧ x6 = .bl f ∧ x7 = .int most ∧ Same F H ∧ Bag K F H b ∧
  0 ≤ n ∧ n ≤ big ∧ big ≤ 400 ∧ 0 ≤ slots ∧ slots ≤ 400 ∧ 0 ≤ rows ∧ rows ≤ 1000 ∧ 0 ≤ most ∧ most ≤ 5000 ∧
  ∀ (a : Addr) (rs : List PRow) (F2 H2 : Hp), Gr [b] F H F2 H2 → Bag K F2 H2 b → NewL K H F2 H2 a (rs.map PRow.d) → (∀ r ∈ rs, r.ok) → (rs.map PRow.size).sum ≤ 6000 → rs.length ≤ 2000 → Q (.ref a) H2
/-- four numbers: n, big, slots, rows -/
def φshape (K : PySem.W.Frag) : V → Hp → VK → Prop := fun x H Q => ∃ (b : Addr) (F : Hp), x = .ref b ∧ Same F H ∧ Bag K F H b ∧
  ∀ (t : Addr) (n big slots rows : Int) (F2 H2 : Hp), Gr [b] F H F2 H2 → Bag K F2 H2 b → F2 t = some (.tup [.int n, .int big, .int slots, .int rows]) → 0 ≤ n → n ≤ big → big ≤ 400 → 0 ≤ slots → slots ≤ 400 → 0 ≤ rows → rows ≤ 1000 → Q (.ref t) H2
theorem size_snoc (rs : List PRow) (r : PRow) : ((rs ++ [r]).map PRow.size).sum = (rs.map PRow.size).sum + r.size := by
  rw [List.map_append, List.sum_append]
  rfl
theorem ok_snoc {rs : List PRow} {r : PRow} (h : ∀ x ∈ rs, x.ok) (hr : r.ok) : ∀ x ∈ rs ++ [r], x.ok := by
  intro x hx
  rcases List.mem_append.mp hx with h1 | h1
  · exact h x h1
  · rw [List.mem_singleton.mp h1]
    exact hr
theorem row_at {K : PySem.W.Frag} {F : Hp} {us : List V} {rs : List PRow} {i : Nat} {x : V} (h : DpAll K F us (rs.map PRow.d)) (hx : us[i]? = some x) : ∃ r, rs[i]? = some r ∧ Dp K F x r.d := by
  have hl := dpa_len h
  have hi := (List.getElem?_eq_some_iff.mp hx).1
  rw [List.length_map] at hl
  have hr : rs[i]? = some rs[i] := List.getElem?_eq_getElem (by omega)
  obtain ⟨v, hv, dv⟩ := dpa_get (i := i) (d := rs[i].d) h (by rw [List.getElem?_map, hr]; rfl)
  rw [hx] at hv
  rw [Option.some.inj hv]
  exact ⟨_, hr, dv⟩
theorem flat_len : ∀ (rs : List PRow) (i : Nat), ((rs.take i).flatMap PRow.writes).length ≤ (rs.map PRow.size).sum
  | [], i => by simp
  | r :: rs, 0 => by simp
  | r :: rs, i + 1 => by
    rw [List.take_succ_cons, List.flatMap_cons, List.length_append, PRow.writes_len, List.map_cons, List.sum_cons]
    exact Nat.add_le_add_left (flat_len rs i) _
theorem flat_take {rs : List PRow} {i : Nat} {r : PRow} (h : rs[i]? = some r) : (rs.take (i + 1)).flatMap PRow.writes = (rs.take i).flatMap PRow.writes ++ r.writes := by
  rw [List.take_add_one, h, List.flatMap_append]
  simp
theorem rev_get {n i : Nat} (h : i < n) : (List.range n).reverse[i]? = some (n - 1 - i) := by
  rw [List.getElem?_reverse (by rw [List.length_range]; exact h), List.length_range, List.getElem?_range (by omega)]
theorem wr_good {a b : Str} {i : Int} {x : PyData} (ha : okS a ∧ a.length ≤ 100) (hb : okS b ∧ b.length ≤ 100) (hx : good x = true) : good (wr a i b x) = true := by
  refine good_tuple (by simp) fun d hd => ?_
  simp only [List.mem_cons, List.not_mem_nil, or_false] at hd
  rcases hd with rfl | rfl | rfl | rfl
  · rw [good, ha.1, decide_eq_true (show a.length ≤ 100000 by omega)]
    rfl
  · rfl
  · rw [good, hb.1, decide_eq_true (show b.length ≤ 100000 by omega)]
    rfl
  · exact hx
theorem wr_depth {a b : Str} {i : Int} {x : PyData} (hx : x.depth = 0) : (wr a i b x).depth ≤ 1 := by
  refine depth_tuple fun d hd => ?_
  simp only [List.mem_cons, List.not_mem_nil, or_false] at hd
  rcases hd with rfl | rfl | rfl | rfl
  · exact Nat.le_refl _
  · exact Nat.le_refl _
  · exact Nat.le_refl _
  · omega
theorem cell_ok : okS "cell" ∧ ("cell" : Str).length ≤ 100 := by decide +kernel
theorem slot_ok : okS "slot" ∧ ("slot" : Str).length ≤ 100 := by decide +kernel
theorem sign_ok : okS "sign" ∧ ("sign" : Str).length ≤ 100 := by decide +kernel
theorem str_good {z : Str} (h : okS z) (hl : z.length ≤ 100000) : good (.str z) = true := by
  rw [good, h, decide_eq_true hl]
  rfl
theorem writes_good {r : PRow} (h : r.ok) : ∀ d ∈ r.writes, good d = true ∧ d.depth ≤ 1 := by
  intro d hd
  cases r with
  | put to s =>
    obtain ⟨k, hk, rfl⟩ := List.mem_map.mp hd
    have hk2 := List.mem_range.mp hk
    exact ⟨wr_good cell_ok sign_ok (str_good (ok_sign h.1 hk2) (by show 1 ≤ 100000; decide)), wr_depth rfl⟩
  | mv w to a n =>
    obtain ⟨k, hk, rfl⟩ := List.mem_map.mp hd
    refine ⟨wr_good ?_ ?_ rfl, wr_depth rfl⟩
    · cases w <;> first | exact cell_ok | exact slot_ok
    · cases w <;> first | exact cell_ok | exact slot_ok
theorem row_good {r : PRow} (h : r.ok) : good r.d = true ∧ r.d.depth ≤ 1 := by
  cases r with
  | put to s =>
    constructor
    · refine good_tuple (by simp) fun d hd => ?_
      simp only [List.mem_cons, List.not_mem_nil, or_false] at hd
      rcases hd with rfl | rfl | rfl
      · decide +kernel
      · rfl
      · exact str_good h.1 (Nat.le_trans h.2 (by decide))
    · refine depth_tuple fun d hd => ?_
      simp only [List.mem_cons, List.not_mem_nil, or_false] at hd
      rcases hd with rfl | rfl | rfl <;> exact Nat.le_refl _
  | mv w to a n =>
    constructor
    · refine good_tuple (by simp) fun d hd => ?_
      simp only [List.mem_cons, List.not_mem_nil, or_false] at hd
      rcases hd with rfl | rfl | rfl | rfl
      · cases w <;> decide +kernel
      · rfl
      · rfl
      · rfl
    · refine depth_tuple fun d hd => ?_
      simp only [List.mem_cons, List.not_mem_nil, or_false] at hd
      rcases hd with rfl | rfl | rfl | rfl <;> exact Nat.le_refl _
theorem all_good {rs : List PRow} (h : ∀ r ∈ rs, r.ok) (hl : rs.length ≤ 100000) : good (.list (rs.map PRow.d)) = true ∧ (PyData.list (rs.map PRow.d)).depth ≤ 2 := by
  constructor
  · refine good_list (by rw [List.length_map]; exact hl) fun d hd => ?_
    obtain ⟨r, hr, rfl⟩ := List.mem_map.mp hd
    exact (row_good (h r hr)).1
  · refine depth_list fun d hd => ?_
    obtain ⟨r, hr, rfl⟩ := List.mem_map.mp hd
    exact (row_good (h r hr)).2
theorem all_wgood {rs : List PRow} (h : ∀ r ∈ rs, r.ok) (hl : (rs.map PRow.size).sum ≤ 100000) : good (.list (rs.flatMap PRow.writes)) = true ∧ (PyData.list (rs.flatMap PRow.writes)).depth ≤ 2 := by
  constructor
  · refine good_list ?_ fun d hd => ?_
    · have := flat_len rs rs.length
      rw [List.take_length] at this
      omega
    · obtain ⟨r, hr, hd⟩ := List.mem_flatMap.mp hd
      exact (writes_good (h r hr) d hd).1
  · refine depth_list fun d hd => ?_
    obtain ⟨r, hr, hd⟩ := List.mem_flatMap.mp hd
    exact (writes_good (h r hr) d hd).2
def φlaw (K : PySem.W.Frag) : V → Hp → VK → Prop := fun x H Q => ∃ (a : Addr) (ns : List Int), x = .ref a ∧ SqL K H a (ns.map V.int) ∧ ns.length ≤ 63 ∧ ∀ H', Q (.bl true) H'
theorem law_start {K : PySem.W.Frag} {H : Hp} (a : Addr) (ns : List Int) (hl : ns.length ≤ 63) (hO : Only H) (hS : SqL K H a (ns.map V.int)) : (S1 (φlaw K)) [.ref a] H (fun v _ => v = .bl true) fun _ _ _ => False := ⟨a, ns, rfl, hS, hl, fun _ => rfl⟩
end R

namespace R
open PySem PySem.Spec PyProof.Rows L2
section
variable {X : Cx} {pins : List (Addr × Obj)} {σ : L2.St} {H : Hp} {s : Shared} {a b : Addr} {A : Around} {E : Value → Shared → Prop}
theorem d_setdT {kvs : List (List Key × V)} {k : List Key} {d : V} {r : Value} {Q : Value → Shared → Prop} (hu : A.units + 1 < cLine) (I : Inv X pins σ H s) (e : H a = some (.dT kvs)) (eb : H b = some (.tup (k.map kV))) (rd : RelV d r) (hl : kvs.length < sizeLine)
    (h1 : ∀ v, valV kvs k = some v → ∀ w' s', Inv X pins σ H s' → RelV v w' → Q w' s') (h2 : valV kvs k = none → ∀ w' s', Inv X pins σ (upd H a (.dT (putK kvs k d))) s' → RelV d w' → Q w' s') :
    wpAny (model X.prog X.w) A (call (.builtin "dict.setdefault") [.ref a, .ref b, r]) Q E s := by
  obtain ⟨z, hd, xs, rel, dd⟩ := dt_of I.hok e
  have hz : xs.length ≤ sizeLine := by rw [← Paired.length rel]; exact z
  have hl2 : (putK kvs k d).length ≤ sizeLine := by have := length_putK kvs k d; omega
  refine PySem.call_setdefault_heap (hsz := hz) (tupleKind_room_in1 hu) (key_of I.hok eb) hd dd (fun p hp => ?_) fun hn h' dd' hs => ?_
  · have q := rel.val k
    rw [hp] at q
    cases q0 : valV kvs k with
    | none =>
      rw [q0] at q
      exact (show False from q).elim
    | some v0 =>
      rw [q0] at q
      exact h1 v0 q0 _ _ (I.tok _) q
  · have q := rel.val k
    rw [hn] at q
    cases q0 : valV kvs k with
    | some v0 =>
      rw [q0] at q
      exact (show False from q).elim
    | none =>
      obtain ⟨q1, es, ep, hq, h2', h3, h4, h5', h5⟩ := dd'
      refine h2 q0 _ _ (d_write I (by rw [e]; exact True.intro) hs ⟨q1, hq⟩ ⟨hl2, hd, _, (rel.put k eb rd).keeps fun c ys ec => ?_, q1, es, ep, hq, h2', h3, h4, h5⟩) rd
      rw [upd_ne (ne_of ec e (fun z => nomatch z))]
      exact ec
end
/-- d.setdefault(t, z), t a tuple -/
def tDSetT (td ty tx : TE) : TE := fun σ H Q => td σ H fun x H1 => ∃ a, x = .ref a ∧ IsD H1 a ∧ ty σ H1 fun y H2 => tx σ H2 fun z H3 => ∃ (b : Addr) (kvs : List (List Key × V)) (k : List Key), H3 a = some (.dT kvs) ∧ y = .ref b ∧ H3 b = some (.tup (k.map kV)) ∧ kvs.length < sizeLine ∧
  (∀ v, valV kvs k = some v → Q v H3) ∧ (valV kvs k = none → Q z (upd H3 a (.dT (putK kvs k z))))
section
variable {X : Cx} {o e f : Expr} {td ty tx : TE} {apos cpos : Pos}
theorem pe_dsetT (hu : X.A.units + 1 < cLine) (ho : PE X o td) (he : PE X e ty) (hf : PE X f tx) (m : M2 X o "setdefault" apos e f cpos) : PE X (.Call (.Attribute o "setdefault" apos) [e, f] [] cpos) (tDSetT td ty tx) := by
  refine ⟨fun pins s σ H Q I h => ?_⟩
  refine wpAny_Call_method m.base m.few m.line PySem.F.plainAttrs_dict PySem.F.slot_dict_setdefault PySem.F.type_dict_setdefault (thn (ho.run pins s σ H _ I h) fun u s1 ⟨x, H1, I1, rx, a, ex, d, q1⟩ => ?_)
  subst ex
  obtain rfl : u = Value.ref a := rx
  obtain ⟨t1, t2, _⟩ := isD_at I1 d
  refine ⟨t1, t2, ?_⟩
  rw [m.trees]
  refine Calls.callWith_builtin rfl (Calls.evalArgs_plain (Calls.spliced_cons (thn (he.run pins s1 σ H1 _ I1 q1) fun iv s2 ⟨y, H2, I2, ry, q2⟩ =>
    Calls.spliced_cons (thn (hf.run pins s2 σ H2 _ I2 q2) fun fv s3 ⟨z, H3, I3, rz, b, kvs, k, ea, ey, eb, hl, q3, q4⟩ => Calls.spliced_nil ?_))))
  subst ey
  obtain rfl : iv = Value.ref b := ry
  exact d_setdT hu I3 ea eb rz hl (fun v hv w' s4 I4 rw' => ⟨v, _, I4, rw', q3 v hv⟩) fun hn w' s4 I4 rw' => ⟨z, _, I4, rw', q4 hn⟩
end
section
variable {X : Cx}
/-- sorted(d) of a dict of int keys, any number of them -/
def rSortD : List V → Hp → VK → Prop := fun xs H Q => ∃ (a : Addr) (kvs : List (Key × V)) (ks : List Int), xs = [.ref a] ∧ Rd H a (.dK kvs) ∧ kvs.map (·.1) = ks.map Sum.inl ∧
    ∀ (ys : List Int) (p : Addr), ys.Perm ks → ys.Pairwise (· ≤ ·) → H p = none → Q (.ref p) (upd H p (.lst (ys.map V.int)))
theorem clSortD (hcalm : X.calm = true := by rfl) : CallR X (.builtin "sorted") rSortD := by
  intro pins s σ H xs us Q I r q
  obtain ⟨a, kvs, ks, ex, hd, hks, q⟩ := q
  subst ex
  obtain ⟨u, eu, rx⟩ := vals1 r
  subst eu
  cases rx
  obtain ⟨z, lo, vs, rel, dd⟩ := dk_rd I.hok hd
  obtain ⟨ep, hat⟩ := dd.dictAt
  have hkeys : vs.map (·.1) = ks.map Sum.inl := rel.keys.symm.trans hks
  have hl : vs.length = ks.length := by
    have e := congrArg List.length hkeys
    rw [List.length_map, List.length_map] at e
    exact e
  have h16 : vs.length ≤ sizeLine := by rw [← rel.length]; exact z
  refine Calls.call_function_entry PyProof.Rows.kind_sorted PyProof.Rows.plain_sorted PyProof.Rows.entry_sorted (PyProof.Rows.args_sorted1 _) ?_
  unfold Builtin.«sorted»
  refine wpAny_bind (m := checkCount "sorted" 1 1 _) (wpAny_pure ?_)
  refine wpAny_bind (PySem.W.kdu_collect (A := X.A.in1) (PySem.W.kdl_dict (knd := mixKind X.prog X.w) (kvs := vs) (ep := ep) lo) (I.ok.hd hcalm) hat h16 fun h' tk acc hk hacc => ?_)
  have hal : acc.toList.length = ks.length := by rw [Array.length_toList, hacc.1, hl]
  have hS : IntsAre acc.toList ks := ints_each hal fun j v e => by
    obtain ⟨k, x, e1, e2⟩ := hacc.2 j v (by rw [← Array.getElem?_toList]; exact e)
    have e3 : (vs.map (·.1))[j]? = some k := by rw [List.getElem?_map, e1]; rfl
    rw [hkeys, List.getElem?_map] at e3
    cases e4 : ks[j]? with
    | none => rw [e4] at e3; cases e3
    | some y =>
      rw [e4] at e3
      have e5 : Sum.inl y = k := Option.some.inj e3
      subst e5
      rcases keyIs_shape (show keyIs (Sum.inl y) v = true from e2) with ⟨i, t, ek, ev⟩ | ⟨z, t, ek, ev⟩
      · cases ek
        exact ⟨y, t, rfl, ev⟩
      · cases ek
  have I1 : Inv X pins σ H { s with heap := h', toks := tk } := I.kept hk
  have hz2 : acc.toList.length ≤ sizeLine := by rw [hal, ← hl]; exact h16
  refine wpAny_bind (wpAny_newList ?_ hz2)
  have hoL : (h'.push (seqObj "list" acc.toList.toArray 0)).get? h'.objs.size = some (seqObj "list" acc.toList.toArray 0) := Heap.get?_push_size _ rfl
  show wpAny _ _ _ _ _ { s with heap := h'.push (seqObj "list" acc.toList.toArray 0), toks := tk }
  refine wpAny_bind (wpAny_holding (wpAny_call_entry PyProof.Rows.slot_list_sort ⟨_, hoL, rfl⟩ PyProof.Rows.entry_list_sort
    (SrtO.list_sort_ord (s := { s with heap := h'.push (seqObj "list" acc.toList.toArray 0), toks := tk }) SrtO.swo_int hoL hz2 (fun h2 => SrtO.ints_sortable hS h2) fun out h1 h2 => ⟨_, rfl, ?_⟩) (PyProof.Rows.args_list_sort _)))
  obtain ⟨k1, k2, k3⟩ := SrtO.ints_out hS h1 h2
  obtain ⟨e', he'⟩ := PyProof.Rows.sortedHeap_at (vs := acc.toList) (out := out.toArray) hoL
  have hlen : ((out.map SrtO.iv).map V.int).length ≤ sizeLine := by
    rw [List.length_map, k2.length_eq, ← hl]
    exact h16
  refine wpAny_pure ⟨_, rfl, .ref h'.objs.size, upd H h'.objs.size (.lst ((out.map SrtO.iv).map V.int)), I1.laid (t' := tk) (fun b u e => ?_) (Nat.le_refl _)
    (show ObjOk X.prog X.w _ _ _ (.lst ((out.map SrtO.iv).map V.int)) from ⟨hlen, out, e', vals_of_ints k1, he'⟩), rfl, q _ _ k2 k3 (I1.hok.fresh (Nat.le_refl _))⟩
  have hb : b < h'.objs.size := Heap.lt_size e
  rw [PyProof.Rows.sortedHeap_old (Nat.ne_of_lt hb) (by rw [size_push']; exact Nat.lt_succ_of_lt hb)]
  exact Heap.get?_push_of_some _ e
end
end R

namespace R
open PySem L2
/-! ### dicts in a reading -/
def gDGet (x y : V) (H : Hp) (Q : VK) : Prop := ∃ a v, x = .ref a ∧ DGet H a y (some v) ∧ Q v H
def gDIn (x y : V) (H : Hp) (Q : VK) : Prop := ∃ a o, x = .ref a ∧ DGet H a y o ∧ Q (.bl o.isSome) H
def gDNotIn (x y : V) (H : Hp) (Q : VK) : Prop := ∃ a o, x = .ref a ∧ DGet H a y o ∧ Q (.bl (!o.isSome)) H
def gDPut (x y v : V) (H : Hp) (Z : Hp → Prop) : Prop := ∃ a H4, x = .ref a ∧ DPut H a y v H4 ∧ Z H4
section
variable {K : PySem.W.Frag} {σ : L2.St} {H : Hp} {Q : VK} {td ty tv tx te : TE} {x y v : V} {nx bk ct : L2.St → Hp → Prop} {rt : VK} {D p : Addr} {kvs : List (List Key × V)} {ks : List Key}
theorem w_dnewT (q : ∀ p, H p = none → Q (.ref p) (upd H p (.dT []))) : tDNewT σ H Q := q
theorem w_dnewK (q : ∀ p, H p = none → Q (.ref p) (upd H p (.dK []))) : tDNewK σ H Q := q
theorem w_dget (q : td σ H fun x H1 => ty σ H1 fun y H2 => gDGet x y H2 Q) : tDGet td ty σ H Q := q
theorem w_din (q : ty σ H fun y H1 => td σ H1 fun x H2 => gDIn x y H2 Q) : tDIn ty td σ H Q := q
theorem w_dnotin (q : ty σ H fun y H1 => td σ H1 fun x H2 => gDNotIn x y H2 Q) : tDNotIn ty td σ H Q := q
theorem w_dput (q : tv σ H fun v H1 => td σ H1 fun x H2 => ty σ H2 fun y H3 => gDPut x y v H3 fun H4 => nx σ H4) : sDPut td ty tv ⟨nx, rt, bk, ct⟩ σ H := q
theorem w_dsetT (q : td σ H fun x H1 => ∃ a, x = .ref a ∧ IsD H1 a ∧ ty σ H1 fun y H2 => tx σ H2 fun z H3 => ∃ (b : Addr) (kvs : List (List Key × V)) (k : List Key), H3 a = some (.dT kvs) ∧ y = .ref b ∧ H3 b = some (.tup (k.map kV)) ∧ kvs.length < sizeLine ∧
  (∀ v, valV kvs k = some v → Q v H3) ∧ (valV kvs k = none → Q z (upd H3 a (.dT (putK kvs k z))))) : tDSetT td ty tx σ H Q := q
theorem w_dgetT (h : H D = some (.dT kvs)) (hp : H p = some (.tup (ks.map kV))) (e : valV kvs ks = some v) (q : Q v H) : gDGet (.ref D) (.ref p) H Q := ⟨D, v, rfl, e ▸ DGet.t h hp, q⟩
theorem w_dinT (h : H D = some (.dT kvs)) (hp : H p = some (.tup (ks.map kV))) (e : valV kvs ks = some v) (q : Q (.bl true) H) : gDIn (.ref D) (.ref p) H Q := ⟨D, some v, rfl, e ▸ DGet.t h hp, q⟩
theorem w_dinF (h : H D = some (.dT kvs)) (hp : H p = some (.tup (ks.map kV))) (e : valV kvs ks = none) (q : Q (.bl false) H) : gDIn (.ref D) (.ref p) H Q := ⟨D, none, rfl, e ▸ DGet.t h hp, q⟩
theorem w_dnotinT (h : H D = some (.dT kvs)) (hp : H p = some (.tup (ks.map kV))) (e : valV kvs ks = some v) (q : Q (.bl false) H) : gDNotIn (.ref D) (.ref p) H Q := ⟨D, some v, rfl, e ▸ DGet.t h hp, q⟩
theorem w_dnotinF (h : H D = some (.dT kvs)) (hp : H p = some (.tup (ks.map kV))) (e : valV kvs ks = none) (q : Q (.bl true) H) : gDNotIn (.ref D) (.ref p) H Q := ⟨D, none, rfl, e ▸ DGet.t h hp, q⟩
theorem w_dputT {Z : Hp → Prop} (h : H D = some (.dT kvs)) (hp : H p = some (.tup (ks.map kV))) (hl : kvs.length < sizeLine) (q : Z (upd H D (.dT (putK kvs ks v)))) : gDPut (.ref D) (.ref p) v H Z := ⟨D, _, rfl, DPut.t h hp hl, q⟩
theorem w_dputI {Z : Hp → Prop} {kvs : List (Key × V)} {i : Int} (h : H D = some (.dK kvs)) (hl : kvs.length < sizeLine) (q : Z (upd H D (.dK (putK kvs (.inl i) v)))) : gDPut (.ref D) (.int i) v H Z := ⟨D, _, rfl, DPut.k (k := .inl i) h hl, q⟩
end
section
variable {X : Cx} {K : PySem.W.Frag}
theorem clSortI (h : X.K = K := by rfl) : CallR X (.builtin "sorted") (rSortedI K) := by subst h; exact cr_sortedI
end
theorem w_rg2 {σ : L2.St} {H : Hp} {ta tb : TE} {R : Int → Int → Hp → Prop} (q : ta σ H fun x H1 => tb σ H1 fun y H2 => ∃ i j, x = .int i ∧ y = .int j ∧ R i j H2) : tRg2 ta tb σ H R := q
/-! ### writes as acts -/
structure WAct where
  w : Str
  n : Int
  s : Str
  x : Key
def keyD : Key → PyData
  | .inl i => .int i
  | .inr z => .str z
def WAct.d (t : WAct) : PyData := .tuple [.str t.w, .int t.n, .str t.s, keyD t.x]
def WAct.wk (t : WAct) : List Key := [.inr t.w, .inl t.n]
def WAct.rk (t : WAct) : List Key := [.inr t.s, t.x]
def keyOk : Key → Prop
  | .inl _ => True
  | .inr z => okS z ∧ z.length ≤ 100
def WAct.ok (t : WAct) : Prop := (okS t.w ∧ t.w.length ≤ 100) ∧ (okS t.s ∧ t.s.length ≤ 100) ∧ keyOk t.x
theorem dp_key {K : PySem.W.Frag} {F : Hp} {x : V} {k : Key} (h : Dp K F x (keyD k)) : x = kV k := by
  cases k with
  | inl i => exact dp_int h
  | inr z => exact dp_str h
theorem key_dp {K : PySem.W.Frag} {F : Hp} (k : Key) : Dp K F (kV k) (keyD k) := by
  cases k with
  | inl i => exact .int i
  | inr z => exact .str z
theorem dp_act {K : PySem.W.Frag} {F : Hp} {x : V} {t : WAct} (h : Dp K F x t.d) : ∃ p, x = .ref p ∧ SqT K F p [.str t.w, .int t.n, .str t.s, kV t.x] := by
  obtain ⟨p, v1, v2, v3, v4, rfl, hs, h1, h2, h3, h4⟩ := dp_tup4 h
  rw [dp_str h1, dp_int h2, dp_str h3, dp_key h4] at hs
  exact ⟨p, rfl, hs⟩
theorem act_good {t : WAct} (h : t.ok) : good t.d = true ∧ t.d.depth ≤ 1 := by
  obtain ⟨⟨h1, h2⟩, ⟨h3, h4⟩, h5⟩ := h
  constructor
  · refine good_tuple (by simp) fun d hd => ?_
    simp only [List.mem_cons, List.not_mem_nil, or_false] at hd
    rcases hd with rfl | rfl | rfl | rfl
    · exact str_good h1 (by omega)
    · rfl
    · exact str_good h3 (by omega)
    · revert h5
      cases t.x with
      | inl i => intro _; rfl
      | inr z => intro h5; exact str_good h5.1 (Nat.le_trans h5.2 (by decide))
  · refine depth_tuple fun d hd => ?_
    simp only [List.mem_cons, List.not_mem_nil, or_false] at hd
    rcases hd with rfl | rfl | rfl | rfl
    · exact Nat.le_refl _
    · exact Nat.le_refl _
    · exact Nat.le_refl _
    · cases t.x <;> exact Nat.le_refl _
theorem acts_good {ts : List WAct} (h : ∀ t ∈ ts, t.ok) (hl : ts.length ≤ 100000) : good (.list (ts.map WAct.d)) = true ∧ (PyData.list (ts.map WAct.d)).depth ≤ 2 := by
  constructor
  · refine good_list (by rw [List.length_map]; exact hl) fun d hd => ?_
    obtain ⟨r, hr, rfl⟩ := List.mem_map.mp hd
    exact (act_good (h r hr)).1
  · refine depth_list fun d hd => ?_
    obtain ⟨r, hr, rfl⟩ := List.mem_map.mp hd
    exact (act_good (h r hr)).2
def natsD (ms : List Nat) : PyData := .list (ms.map fun k => .int (k : Nat))
theorem dpa_nV {K : PySem.W.Frag} {F : Hp} : ∀ ms : List Nat, DpAll K F (nV ms) (ms.map fun k => PyData.int (k : Nat))
  | [] => .nil
  | m :: ms => .cons (.int _) (dpa_nV ms)
theorem nats_good {ms : List Nat} (hl : ms.length ≤ 100000) : good (natsD ms) = true ∧ (natsD ms).depth ≤ 1 := by
  constructor
  · refine good_list (by rw [List.length_map]; exact hl) fun d hd => ?_
    obtain ⟨r, hr, rfl⟩ := List.mem_map.mp hd
    rfl
  · refine depth_list fun d hd => ?_
    obtain ⟨r, hr, rfl⟩ := List.mem_map.mp hd
    exact Nat.le_refl _
/-! ### the fault of a row of acts -/
def getN (kvs : List (List Key × Nat)) (k : List Key) : Option Nat := (kvs.find? fun kv => decide (kv.1 = k)).map (·.2)
def toV (kvs : List (List Key × Nat)) : List (List Key × V) := kvs.map fun p => (p.1, V.int (p.2 : Nat))
theorem valV_toV (k : List Key) : ∀ kvs : List (List Key × Nat), valV (toV kvs) k = (getN kvs k).map fun n => V.int (n : Nat)
  | [] => rfl
  | p :: r => by
    have ih := valV_toV k r
    by_cases e : p.1 = k
    · rw [show toV (p :: r) = (p.1, V.int (p.2 : Nat)) :: toV r from rfl, valV_pos (p := (p.1, V.int (p.2 : Nat))) e]
      simp [getN, List.find?_cons, e]
    · rw [show toV (p :: r) = (p.1, V.int (p.2 : Nat)) :: toV r from rfl, valV_neg (p := (p.1, V.int (p.2 : Nat))) e, ih]
      simp [getN, List.find?_cons, e]
theorem valV_some {kvs : List (List Key × Nat)} {k : List Key} {n : Nat} (e : getN kvs k = some n) : valV (toV kvs) k = some (.int (n : Nat)) := by rw [valV_toV, e]; rfl
theorem valV_none {kvs : List (List Key × Nat)} {k : List Key} (e : getN kvs k = none) : valV (toV kvs) k = none := by rw [valV_toV, e]; rfl
theorem put_toV {kvs : List (List Key × Nat)} {k : List Key} {j : Nat} (e : getN kvs k = none) : putK (toV kvs) k (.int (j : Nat)) = toV (kvs ++ [(k, j)]) := by
  rw [putK_new _ (valV_none e)]
  simp [toV]
theorem getN_mem {kvs : List (List Key × Nat)} {k : List Key} {n : Nat} (e : getN kvs k = some n) : ∃ p ∈ kvs, p.2 = n := by
  unfold getN at e
  cases h : kvs.find? fun kv => decide (kv.1 = k) with
  | none => rw [h] at e; cases e
  | some p =>
    rw [h] at e
    exact ⟨p, List.mem_of_find?_eq_some h, Option.some.inj e⟩
def stepN (kvs : List (List Key × Nat)) (t : WAct) (j : Nat) : List (List Key × Nat) := if t.s = "sign" then kvs else
  match getN kvs t.rk with
  | some _ => kvs
  | none => kvs ++ [(t.rk, j)]
theorem step_sign {kvs : List (List Key × Nat)} {t : WAct} {j : Nat} (h : t.s = "sign") : stepN kvs t j = kvs := by unfold stepN; rw [if_pos h]
theorem step_old {kvs : List (List Key × Nat)} {t : WAct} {j n : Nat} (h : ¬ t.s = "sign") (e : getN kvs t.rk = some n) : stepN kvs t j = kvs := by unfold stepN; rw [if_neg h, e]
theorem step_new {kvs : List (List Key × Nat)} {t : WAct} {j : Nat} (h : ¬ t.s = "sign") (e : getN kvs t.rk = none) : stepN kvs t j = kvs ++ [(t.rk, j)] := by unfold stepN; rw [if_neg h, e]
theorem step_mem {kvs : List (List Key × Nat)} {t : WAct} {j : Nat} {p : List Key × Nat} (h : p ∈ stepN kvs t j) : p ∈ kvs ∨ p.2 = j := by
  unfold stepN at h
  split at h
  · exact .inl h
  · split at h
    · exact .inl h
    · rcases List.mem_append.mp h with h | h
      · exact .inl h
      · rw [List.mem_singleton.mp h]
        exact .inr rfl
def faultGo : List WAct → List (List Key × Nat) → Nat → Option (Nat × Nat)
  | [], _, _ => none
  | t :: ts, kvs, j => match getN kvs t.wk with
    | some i => some (i, j)
    | none => faultGo ts (stepN kvs t j) (j + 1)
theorem go_hit {t : WAct} {ts : List WAct} {kvs : List (List Key × Nat)} {j i : Nat} (e : getN kvs t.wk = some i) : faultGo (t :: ts) kvs j = some (i, j) := by rw [faultGo, e]
theorem go_miss {t : WAct} {ts : List WAct} {kvs : List (List Key × Nat)} {j : Nat} (e : getN kvs t.wk = none) : faultGo (t :: ts) kvs j = faultGo ts (stepN kvs t j) (j + 1) := by rw [faultGo, e]
def stretch (acts : List WAct) (first last : Nat) : List WAct := (acts.drop first).take (last - first)
def faultFrom (acts : List WAct) (first last : Nat) : Option (Nat × Nat) := faultGo (stretch acts first last) [] first
def firstFault (acts : List WAct) : Nat → List Nat → Option (Nat × Nat)
  | _, [] => none
  | first, l :: ls => match faultFrom acts first l with
    | some p => some p
    | none => firstFault acts l ls
theorem first_hit {acts : List WAct} {first l : Nat} {ls : List Nat} {p : Nat × Nat} (e : faultFrom acts first l = some p) : firstFault acts first (l :: ls) = some p := by rw [firstFault, e]
theorem first_miss {acts : List WAct} {first l : Nat} {ls : List Nat} (e : faultFrom acts first l = none) : firstFault acts first (l :: ls) = firstFault acts l ls := by rw [firstFault, e]
theorem stretch_len (acts : List WAct) (first last : Nat) (hl : last ≤ acts.length) : (stretch acts first last).length = last - first := by
  unfold stretch
  rw [List.length_take, List.length_drop]
  omega
theorem stretch_at {acts : List WAct} {first last i : Nat} (h : i < last - first) (hl : last ≤ acts.length) : ∃ t, acts[first + i]? = some t ∧ (stretch acts first last).drop i = t :: (stretch acts first last).drop (i + 1) := by
  have h1 : i < (stretch acts first last).length := by rw [stretch_len _ _ _ hl]; exact h
  refine ⟨(stretch acts first last)[i], ?_, List.drop_eq_getElem_cons h1⟩
  have e : (stretch acts first last)[i]? = acts[first + i]? := by
    unfold stretch
    rw [List.getElem?_take_of_lt h, List.getElem?_drop]
  rw [← e]
  exact List.getElem?_eq_getElem h1
theorem go_range : ∀ (ts : List WAct) (kvs : List (List Key × Nat)) (j lo i b : Nat), lo ≤ j → (∀ p ∈ kvs, lo ≤ p.2 ∧ p.2 < j) → faultGo ts kvs j = some (i, b) → lo ≤ i ∧ i < b ∧ b < j + ts.length
  | [], _, _, _, _, _, _, _, e => by rw [faultGo] at e; cases e
  | t :: ts, kvs, j, lo, i, b, hlo, hk, e => by
    cases h : getN kvs t.wk with
    | some n =>
      rw [go_hit h] at e
      have e' := Option.some.inj e
      cases e'
      obtain ⟨p, hp, rfl⟩ := getN_mem h
      have := hk p hp
      rw [List.length_cons]
      exact ⟨this.1, this.2, by omega⟩
    | none =>
      rw [go_miss h] at e
      have := go_range ts (stepN kvs t j) (j + 1) lo i b (by omega) (fun p hp => by
        rcases step_mem hp with hp | hp
        · have := hk p hp
          omega
        · omega) e
      rw [List.length_cons]
      omega
theorem from_range {acts : List WAct} {first last i b : Nat} (hl : last ≤ acts.length) (e : faultFrom acts first last = some (i, b)) : first ≤ i ∧ i < b ∧ b < last := by
  have := go_range (stretch acts first last) [] first first i b (Nat.le_refl _) (fun p hp => by cases hp) e
  rw [stretch_len _ _ _ hl] at this
  omega
/-- a fault as a value -/
def ResV (F : Hp) (v : V) : Option (Nat × Nat) → Prop
  | none => v = .non
  | some (i, j) => ∃ p, v = .ref p ∧ F p = some (.tup [.int (i : Nat), .int (j : Nat)])
theorem ResV.same {F F2 : Hp} {v : V} {o : Option (Nat × Nat)} (h : ResV F v o) (w : Same F F2) : ResV F2 v o := by
  cases o with
  | none => exact h
  | some p =>
    obtain ⟨a, e1, e2⟩ := h
    exact ⟨a, e1, w _ _ e2⟩
def φfault (K : PySem.W.Frag) : V → V → V → Hp → VK → Prop := fun x y z H Q => ∃ (F : Hp) (acts : List WAct) (first last : Nat), y = .int (first : Nat) ∧ z = .int (last : Nat) ∧ Same F H ∧ Dp K F x (.list (acts.map WAct.d)) ∧ first ≤ acts.length ∧ last ≤ acts.length ∧ acts.length ≤ 100000 ∧
  ∀ (v : V) (F2 H2 : Hp), Gr [] F H F2 H2 → ResV F2 v (faultFrom acts first last) → Q v H2
def φmark (K : PySem.W.Frag) : V → V → Hp → VK → Prop := fun x y H Q => ∃ (F : Hp) (acts : List WAct) (m : Addr) (ms : List Nat), y = .ref m ∧ Same F H ∧ Dp K F x (.list (acts.map WAct.d)) ∧ F m = some (.lst (nV ms)) ∧ (∀ k ∈ ms, k ≤ acts.length) ∧ acts.length ≤ 100000 ∧ ms.length ≤ 100000 ∧
  ∀ (v : V) (F2 H2 : Hp), Gr [] F H F2 H2 → ResV F2 v (firstFault acts 0 (ms ++ [acts.length])) → Q v H2
theorem act_at {K : PySem.W.Frag} {F : Hp} {us : List V} {acts : List WAct} {i : Nat} {t : WAct} (h : DpAll K F us (acts.map WAct.d)) (e : acts[i]? = some t) : ∃ p, us[i]? = some (.ref p) ∧ SqT K F p [.str t.w, .int t.n, .str t.s, kV t.x] := by
  obtain ⟨v, gv, dv⟩ := dpa_get (i := i) (d := t.d) h (by rw [List.getElem?_map, e]; rfl)
  obtain ⟨p, rfl, hp⟩ := dp_act dv
  exact ⟨p, gv, hp⟩
/-! ### the law's makers -/
def φnumber (K : PySem.W.Frag) : V → V → V → Hp → VK → Prop := fun x y z H Q => ∃ (b : Addr) (base wide : Int) (F : Hp), x = .ref b ∧ y = .int base ∧ z = .int wide ∧ Same F H ∧ Bag K F H b ∧ 0 < wide ∧ wide < 2 ^ 200 ∧
  ∀ (r : Int) (F2 H2 : Hp), Gr [b] F H F2 H2 → Bag K F2 H2 b → Q (.int r) H2
def φany_writes (K : PySem.W.Frag) : V → V → Hp → VK → Prop := fun x y H Q => ∃ (b : Addr) (many : Int) (F : Hp), x = .ref b ∧ y = .int many ∧ Same F H ∧ Bag K F H b ∧ 0 ≤ many ∧ many ≤ 3000 ∧
  ∀ (a : Addr) (acts : List WAct) (F2 H2 : Hp), Gr [b] F H F2 H2 → Bag K F2 H2 b → Dp K F2 (.ref a) (.list (acts.map WAct.d)) → (∀ t ∈ acts, t.ok) → acts.length ≤ 3000 → (acts.length : Int) ≤ many → Q (.ref a) H2
/-- marks that stay -/
structure Mks (F : Hp) (p : Addr) (n : Nat) (ms : List Nat) : Prop where
  at_ : F p = some (.lst (nV ms))
  ok : ∀ k ∈ ms, 1 ≤ k ∧ k < n
  len : ms.length ≤ 20000
theorem Mks.same {F F2 : Hp} {p : Addr} {n : Nat} {ms : List Nat} (h : Mks F p n ms) (w : Same F F2) : Mks F2 p n ms := ⟨w _ _ h.at_, h.ok, h.len⟩
def φgood_marks (K : PySem.W.Frag) : V → V → V → Hp → VK → Prop := fun x y z H Q => ∃ (b : Addr) (often : Int) (acts : List WAct) (F : Hp), x = .ref b ∧ z = .int often ∧ Same F H ∧ Bag K F H b ∧ Dp K F y (.list (acts.map WAct.d)) ∧ acts.length ≤ 3000 ∧ 0 < often ∧ often < 2 ^ 200 ∧
  ∀ (p : Addr) (ms : List Nat) (F2 H2 : Hp), Gr [b] F H F2 H2 → Bag K F2 H2 b → Mks F2 p acts.length ms → Q (.ref p) H2
def φany_marks (K : PySem.W.Frag) : V → V → Hp → VK → Prop := fun x y H Q => ∃ (b : Addr) (acts : List WAct) (F : Hp), x = .ref b ∧ Same F H ∧ Bag K F H b ∧ Dp K F y (.list (acts.map WAct.d)) ∧ acts.length ≤ 3000 ∧
  ∀ (p : Addr) (ms : List Nat) (F2 H2 : Hp), Gr [b] F H F2 H2 → Bag K F2 H2 b → Mks F2 p acts.length ms → Q (.ref p) H2
theorem ints_nat {n : Nat} : ∀ {ys : List Int}, (∀ k ∈ ys, 1 ≤ k ∧ k < (n : Int)) → ∃ ms : List Nat, ys.map V.int = nV ms ∧ (∀ k ∈ ms, 1 ≤ k ∧ k < n) ∧ ms.length = ys.length
  | [], _ => ⟨[], rfl, by simp, rfl⟩
  | y :: ys, h => by
    obtain ⟨ms, e, h1, h2⟩ := ints_nat (ys := ys) fun k hk => h k (List.mem_cons_of_mem _ hk)
    have hy := h y (List.mem_cons_self ..)
    refine ⟨y.toNat :: ms, ?_, fun k hk => ?_, by rw [List.length_cons, List.length_cons, h2]⟩
    · show V.int y :: ys.map V.int = V.int (y.toNat : Nat) :: nV ms
      rw [e, Int.toNat_of_nonneg (by omega)]
    · rcases List.mem_cons.mp hk with rfl | hk
      · omega
      · exact h1 k hk
theorem put_ints {kvs : List (Key × V)} {ks : List Int} (h : kvs.map (·.1) = ks.map Sum.inl) (i : Int) (v : V) : ∃ ks' : List Int, (putK kvs (.inl i) v).map (·.1) = ks'.map Sum.inl ∧ ∀ k ∈ ks', k ∈ ks ∨ k = i := by
  cases e : valV kvs (.inl i) with
  | none =>
    rw [putK_new v e]
    refine ⟨ks ++ [i], by rw [List.map_append, List.map_append, h]; rfl, fun k hk => ?_⟩
    rcases List.mem_append.mp hk with hk | hk
    · exact .inl hk
    · exact .inr (List.mem_singleton.mp hk)
  | some u =>
    refine ⟨ks, ?_, fun k hk => .inl hk⟩
    rw [← h]
    unfold putK
    rw [valV_any, e]
    show (kvs.map fun kv => if kv.1 = (.inl i : Key) then (kv.1, v) else kv).map (·.1) = _
    rw [List.map_map]
    refine List.map_congr_left fun kv _ => ?_
    show (if kv.1 = (.inl i : Key) then (kv.1, v) else kv).1 = kv.1
    split <;> rfl
theorem cut_take (l : List Nat) (i : Nat) : cutV (nV l) none (some (i : Int)) = nV (l.take i) := by
  unfold cutV
  rw [HT.sIx_none, HT.sIx_nat, List.drop_zero, Nat.sub_zero]
  unfold nV
  rw [List.map_take, List.length_map]
  by_cases h : i ≤ l.length
  · rw [Nat.min_eq_left h]
  · rw [Nat.min_eq_right (by omega), List.take_of_length_le (by rw [List.length_map]; exact Nat.le_refl _), List.take_of_length_le (by rw [List.length_map]; omega)]
theorem cut_drop (l : List Nat) (i : Nat) : cutV (nV l) (some (i : Int)) none = nV (l.drop i) := by
  unfold cutV
  rw [HT.sIx_none, HT.sIx_nat]
  unfold nV
  rw [List.map_drop, List.length_map]
  by_cases h : i ≤ l.length
  · rw [Nat.min_eq_left h]
    refine List.take_of_length_le ?_
    rw [List.length_drop, List.length_map]
    exact Nat.le_refl _
  · rw [Nat.min_eq_right (by omega), Nat.sub_self, List.take_zero, List.drop_eq_nil_of_le (by rw [List.length_map]; omega)]
theorem pick_int {ns : List Int} {i : Int} (h0 : 0 ≤ i) (h1 : i < (ns.length : Int)) : ∃ m, atI (ns.map V.int) i = some (.int m) := by
  have hi : i.toNat < ns.length := by omega
  refine ⟨ns[i.toNat], at_of (j := i.toNat) (by omega) ?_⟩
  rw [List.getElem?_map, List.getElem?_eq_getElem hi]
  rfl
theorem pick_str {zs : List Str} {i : Int} (h0 : 0 ≤ i) (h1 : i < (zs.length : Int)) : ∃ z ∈ zs, atI (zs.map V.str) i = some (.str z) := by
  have hi : i.toNat < zs.length := by omega
  refine ⟨zs[i.toNat], List.getElem_mem hi, at_of (j := i.toNat) (by omega) ?_⟩
  rw [List.getElem?_map, List.getElem?_eq_getElem hi]
  rfl
theorem nV_flat (l : List Nat) : (nV l).all flatV = true := by
  induction l with
  | nil => rfl
  | cons m l ih => exact ih
theorem u_empN {K : PySem.W.Frag} {H : Hp} {a p : Addr} {ms : List Nat} {Q : VK} (ha : SqL K H a (nV ms)) (hp : SqL K H p []) (hl : ms.length ≤ 100000) (q : Q (.bl (decide (ms.length = 0))) H) : rEqD K (.ref a) (.ref p) H Q := by
  have g := nats_good hl
  refine ⟨natsD ms, .list [], .lst ha (dpa_nV ms), .lst hp .nil, good_shaped g.1 (Nat.le_trans g.2 (by decide)), good_shaped rfl (by decide), ?_⟩
  have e : PyData.eqv (natsD ms) (.list []) = decide (ms.length = 0) := by
    cases ms with
    | nil => rfl
    | cons b bs => rfl
  rw [e]
  exact q
theorem w_inN {K : PySem.W.Frag} {H : Hp} {p : Addr} {ms : List Nat} {x : Int} {Q : VK} (h : SqL K H p (nV ms)) (q : ∀ c, Q (.bl c) H) : rIn K false (.int x) (.ref p) H Q := ⟨p, _, rfl, .inl h, rfl, nV_flat ms, q _⟩
/-- a list of lists of marks -/
def PL (F : Hp) (n : Nat) (v : V) : Prop := ∃ p ms, v = .ref p ∧ Mks F p n ms
theorem PL.same {F F2 : Hp} {n : Nat} {v : V} (h : PL F n v) (w : Same F F2) : PL F2 n v := by
  obtain ⟨p, ms, e, m⟩ := h
  exact ⟨p, ms, e, m.same w⟩
end R

namespace R
open PySem L2
/-! ### parts of the heap, one beside the other -/
structure Own where
  as : List Addr
  φ : Hp → Hp → Prop
  st : ∀ {F H F2 H2 : Hp}, Same F F2 → (∀ a ∈ as, ∀ o, H a = some o → H2 a = some o) → (∀ a ∈ as, F a = none → F2 a = none) → φ F H → φ F2 H2
  al : ∀ {F H : Hp}, φ F H → ∀ a ∈ as, H a ≠ none
theorem Own.gr (o : Own) {M : List Addr} {F H F2 H2 : Hp} (g : Gr M F H F2 H2) (h : ∀ a ∈ o.as, a ∉ M) (x : o.φ F H) : o.φ F2 H2 :=
  o.st g.ff (fun a m u e => g.hh a u (h a m) e) (fun a m e => g.nw a (o.al x a m) e) x
def mu (p : Addr) (o : HO) : Own := ⟨[p], fun F H => Mu F H p o, fun s h n m => ⟨n p (List.mem_singleton.mpr rfl) m.n, h p (List.mem_singleton.mpr rfl) o m.h⟩, fun m a h => by
  rw [List.mem_singleton.mp h]
  exact ne_none m.h⟩
def bag (K : PySem.W.Frag) (b : Addr) : Own := ⟨[b], fun F H => Bag K F H b, fun s h n m => by
  obtain ⟨c, cells, i, cur, st, k, h1, h2, h3, h4⟩ := m.ex
  exact ⟨c, cells, i, cur, st, k, n b (List.mem_singleton.mpr rfl) h1, h b (List.mem_singleton.mpr rfl) _ h2, sqL_same s h3, h4⟩, fun m a h => by
  rw [List.mem_singleton.mp h]
  obtain ⟨c, cells, i, cur, st, k, h1, h2, h3, h4⟩ := m.ex
  exact ne_none h2⟩
def pur (φ : Hp → Prop) (h : ∀ {F F2 : Hp}, Same F F2 → φ F → φ F2) : Own := ⟨[], fun F _ => φ F, fun s _ _ x => h s x, fun _ a h => nomatch h⟩
def dat (K : PySem.W.Frag) (v : V) (d : PyData) : Own := pur (fun F => Dp K F v d) fun s x => dp_same s _ _ x
def dpa (K : PySem.W.Frag) (vs : List V) (ds : List PyData) : Own := pur (fun F => DpAll K F vs ds) fun s x => dpa_same s _ _ x
def imL (K : PySem.W.Frag) (a : Addr) (xs : List V) : Own := pur (fun F => SqL K F a xs) fun s x => sqL_same s x
def imT (K : PySem.W.Frag) (a : Addr) (xs : List V) : Own := pur (fun F => SqT K F a xs) fun s x => sqT_same s x
/-- an object that stays -/
def fx (p : Addr) (o : HO) : Own := pur (fun F => F p = some o) fun s x => s _ _ x
abbrev ads (L : List Own) : List Addr := L.flatMap Own.as
structure St (F H : Hp) (L : List Own) : Prop where
  s : Same F H
  i : ∀ o ∈ L, o.φ F H
  d : (ads L).Nodup
structure W (M : List Addr) (F0 H0 F H : Hp) (L : List Own) : Prop where
  g : Gr M F0 H0 F H
  i : ∀ o ∈ L, o.φ F H
  d : (ads L).Nodup
  o : ∀ a ∈ ads L, a ∈ M ∨ H0 a = none
/-- D taken out of L leaves Rs -/
inductive Rm (x : Own) : List Own → List Own → Prop
  | here {L : List Own} : Rm x (x :: L) L
  | there {y : Own} {L Rs : List Own} : Rm x L Rs → Rm x (y :: L) (y :: Rs)
inductive Pick : List Own → List Own → List Own → Prop
  | nil {L : List Own} : Pick L [] L
  | cons {o : Own} {L L1 D Rs : List Own} : Rm o L L1 → Pick L1 D Rs → Pick L (o :: D) Rs
theorem Rm.perm {x : Own} {L Rs : List Own} (h : Rm x L Rs) : L.Perm (x :: Rs) := by
  induction h with
  | here => exact .refl _
  | there _ ih => exact (ih.cons _).trans (.swap _ _ _)
theorem Pick.perm {L D Rs : List Own} (h : Pick L D Rs) : L.Perm (D ++ Rs) := by
  induction h with
  | nil => exact .refl _
  | cons h _ ih => exact h.perm.trans (ih.cons _)
theorem ads_perm {L L' : List Own} (h : L.Perm L') : (ads L).Perm (ads L') := h.flatMap_right Own.as
theorem ads_app (L L' : List Own) : ads (L ++ L') = ads L ++ ads L' := by simp [ads]
section
variable {K : PySem.W.Frag} {M N : List Addr} {F0 H0 F H F1 H1 F2 H2 : Hp} {L L2 D Rs : List Own} {p a : Addr} {u o2 : HO}
theorem W.perm (w : W M F0 H0 F H L) (h : L.Perm L2) : W M F0 H0 F H L2 :=
  ⟨w.g, fun o m => w.i o (h.mem_iff.mpr m), (ads_perm h).nodup_iff.mp w.d, fun a m => w.o a ((ads_perm h).mem_iff.mpr m)⟩
theorem W.to (w : W M F0 H0 F H L) (k : Pick L D Rs) : W M F0 H0 F H D := by
  have w := w.perm k.perm
  refine ⟨w.g, fun o m => w.i o (List.mem_append_left _ m), ?_, fun a m => w.o a (by rw [ads_app]; exact List.mem_append_left _ m)⟩
  have h := w.d
  rw [ads_app] at h
  exact (List.nodup_append.mp h).1
def Pk (L D : List Own) : Prop := ∃ Rs, Pick L D Rs
theorem W.pk (w : W M F0 H0 F H L) (k : Pk L D) : W M F0 H0 F H D := k.elim fun _ k => w.to k
theorem W.st (w : W M F0 H0 F H L) (k : Pick L D Rs) : St F H D := ⟨w.g.fh, (w.to k).i, (w.to k).d⟩
theorem St.w (s : St F H L) (h : M = ads L := by rfl) : W M F H F H L := ⟨.refl s.s, s.i, s.d, fun a m => .inl (by rw [h]; exact m)⟩
theorem W.start (s : Same F H) : W M F H F H [] := ⟨.refl s, (fun _ h => nomatch h), .nil, (fun _ h => nomatch h)⟩
theorem W.call (w : W M F0 H0 F H L) (k : Pick L D Rs) (w2 : W N F H F2 H2 L2) (hN : N = ads D := by rfl) : W M F0 H0 F2 H2 (L2 ++ Rs) := by
  subst hN
  have w := w.perm k.perm
  have hd := w.d
  have ho := w.o
  rw [ads_app] at hd ho
  obtain ⟨d1, d2, d3⟩ := List.nodup_append.mp hd
  have hR : ∀ a ∈ ads Rs, H a ≠ none := fun a m => by
    obtain ⟨o, mo, ma⟩ := List.mem_flatMap.mp m
    exact o.al (w.i o (List.mem_append_right _ mo)) a ma
  refine ⟨w.g.transN w2.g fun x m => ho x (List.mem_append_left _ m), fun o m => ?_, ?_, fun a m => ?_⟩
  · rcases List.mem_append.mp m with m | m
    · exact w2.i o m
    · refine o.gr w2.g (fun a ha hb => d3 a hb a (List.mem_flatMap.mpr ⟨o, m, ha⟩) rfl) (w.i o (List.mem_append_right _ m))
  · rw [ads_app]
    refine List.nodup_append.mpr ⟨w2.d, d2, fun a ha b hb e => ?_⟩
    subst e
    rcases w2.o a ha with h | h
    · exact d3 a h a hb rfl
    · exact hR a hb h
  · rw [ads_app] at m
    rcases List.mem_append.mp m with m | m
    · rcases w2.o a m with h | h
      · exact ho a (List.mem_append_left _ h)
      · exact .inr (w.g.fresh h)
    · exact ho a (List.mem_append_right _ m)
theorem W.ws (w : W M F0 H0 F H L) : Same F0 H := w.g.ws
theorem W.fh (w : W M F0 H0 F H L) : Same F H := w.g.fh
theorem W.ff (w : W M F0 H0 F H L) : Same F0 F := w.g.ff
theorem W.push (w : W M F0 H0 F H L) (o : Own) (h : o.φ F H) (e : o.as = [] := by rfl) : W M F0 H0 F H (o :: L) := by
  refine ⟨w.g, fun q m => ?_, ?_, fun a m => ?_⟩
  · rcases List.mem_cons.mp m with rfl | m
    · exact h
    · exact w.i q m
  · show ((o :: L).flatMap Own.as).Nodup
    rw [List.flatMap_cons, e]
    exact w.d
  · have m' : a ∈ (o :: L).flatMap Own.as := m
    rw [List.flatMap_cons, e] at m'
    exact w.o a m'
/-- a new object that stays -/
theorem W.im (w : W M F0 H0 F H L) (h : H p = none) : W M F0 H0 (upd F p u) (upd H p u) L := by
  have w2 : W [] F H (upd F p u) (upd H p u) [] := ⟨.im w.g.fh h, (fun _ h => nomatch h), .nil, (fun _ h => nomatch h)⟩
  exact w.call .nil w2
/-- a new object that may change -/
theorem W.nw (w : W M F0 H0 F H L) (h : H p = none) : W M F0 H0 F (upd H p u) (mu p u :: L) := by
  have w2 : W [] F H F (upd H p u) [mu p u] := by
    refine ⟨.new w.g.fh h, fun q m => ?_, ?_, fun a m => ?_⟩
    · rw [List.mem_singleton.mp m]
      exact Mu.new w.g.fh h
    · show ([p] : List Addr).Nodup
      simp
    · have : a = p := List.mem_singleton.mp m
      subst this
      exact .inr h
  exact w.call .nil w2
/-- a change -/
theorem W.wr (w : W M F0 H0 F H L) (k : Pick L [mu p o2] Rs) : W M F0 H0 F (upd H p u) (mu p u :: Rs) := by
  have m : Mu F H p o2 := (w.to k).i _ (List.mem_singleton.mpr rfl)
  have w2 : W [p] F H F (upd H p u) [mu p u] := by
    refine ⟨.wr w.g.fh m.n (List.mem_singleton.mpr rfl), fun q h => ?_, ?_, fun a h => ?_⟩
    · rw [List.mem_singleton.mp h]
      exact m.wr
    · show ([p] : List Addr).Nodup
      simp
    · exact .inl h
  exact w.call k w2 rfl
/-- an object that changes no more -/
theorem W.fz (w : W M F0 H0 F H L) (k : Pick L [mu p u] Rs) (hn : H0 p = none) : W M F0 H0 (upd F p u) H Rs := by
  have w := w.perm k.perm
  have m : Mu F H p u := w.i _ (List.mem_cons_self ..)
  have hd := w.d
  rw [ads_app] at hd
  obtain ⟨d1, d2, d3⟩ := List.nodup_append.mp hd
  refine ⟨w.g.frz hn m, fun o ho => ?_, d2, fun a ha => w.o a (by rw [ads_app]; exact List.mem_append_right _ ha)⟩
  have hp : ∀ a ∈ o.as, a ≠ p := fun a ha e => d3 p (List.mem_singleton.mpr rfl) a (List.mem_flatMap.mpr ⟨o, ho, ha⟩) e.symm
  refine o.st (Same.new m.n) (fun a _ _ e => e) (fun a ha e => ?_) (w.i o (List.mem_append_right _ ho))
  rw [upd_ne (hp a ha)]
  exact e
theorem W.fzL {xs : List V} (w : W M F0 H0 F H L) (k : Pick L [mu p (.lst xs)] Rs) (hn : H0 p = none) : ∃ F2, W M F0 H0 F2 H (fx p (.lst xs) :: Rs) := ⟨_, (w.fz k hn).push (fx p (.lst xs)) upd_same⟩
theorem W.fzD {xs : List V} {ds : List PyData} (w : W M F0 H0 F H L) (k : Pick L [mu p (.lst xs)] Rs) (hn : H0 p = none) (h : DpAll K F xs ds) : ∃ F2, W M F0 H0 F2 H (dat K (.ref p) (.list ds) :: Rs) := by
  have m : Mu F H p (.lst xs) := (w.to k).i _ (List.mem_singleton.mpr rfl)
  exact ⟨_, (w.fz k hn).push _ (.lst (sqL_of upd_same) (dpa_same (Same.new m.n) _ _ h))⟩
end
inductive App : List Own → List Own → List Own → Prop
  | nil {Rs : List Own} : App [] Rs Rs
  | cons {o : Own} {L Rs L' : List Own} : App L Rs L' → App (o :: L) Rs (o :: L')
theorem App.eq {L Rs L' : List Own} (h : App L Rs L') : L ++ Rs = L' := by
  induction h with
  | nil => rfl
  | cons _ ih => rw [List.cons_append, ih]
section
variable {K : PySem.W.Frag} {M N : List Addr} {F0 H0 F H F1 H1 F2 H2 : Hp} {L L2 L3 D Rs : List Own} {p a : Addr} {u o2 : HO} {xs ys : List V} {ds : List PyData} {d : PyData} {v : V}
theorem W.cal (w : W M F0 H0 F H L) (k : Pick L D Rs) (w2 : W N F H F2 H2 L2) (e : App L2 Rs L3) (hN : N = ads D := by rfl) : W M F0 H0 F2 H2 L3 := by
  rw [← e.eq]
  exact w.call k w2 hN
/-- .. by what the older promises tell -/
theorem W.gr (w : W M F0 H0 F H L) (k : Pick L D Rs) (g : Gr N F H F2 H2) (i : ∀ o ∈ D, o.φ F2 H2) (e : App D Rs L3) (hN : N = ads D := by rfl) : W M F0 H0 F2 H2 L3 :=
  w.cal k (L2 := D) ⟨g, i, (w.to k).d, fun a m => .inl (by rw [hN]; exact m)⟩ e hN
theorem W.gr0 (w : W M F0 H0 F H L) (g : Gr [] F H F2 H2) : W M F0 H0 F2 H2 L := w.gr (D := []) .nil g (fun _ h => nomatch h) .nil
theorem W.gr1 {o : Own} (w : W M F0 H0 F H L) (k : Pick L [o] Rs) (g : Gr N F H F2 H2) (i : o.φ F2 H2) (hN : N = ads [o] := by rfl) : W M F0 H0 F2 H2 (o :: Rs) :=
  w.gr k g (fun q m => by rw [List.mem_singleton.mp m]; exact i) (.cons .nil) hN
/-- a new list that an older promise tells -/
theorem W.newL (w : W M F0 H0 F H L) (hn : H0 a = none) (m : Mu F H a u) (hd : a ∉ ads L) : W M F0 H0 F H (mu a u :: L) := by
  refine ⟨w.g, fun q h => ?_, ?_, fun x h => ?_⟩
  · rcases List.mem_cons.mp h with rfl | h
    · exact m
    · exact w.i q h
  · exact List.nodup_cons.mpr ⟨hd, w.d⟩
  · rcases List.mem_cons.mp h with rfl | h
    · exact .inr hn
    · exact w.o x h
theorem W.not_new (w : W M F0 H0 F H L) (h : H a = none) : a ∉ ads L := fun m => by
  obtain ⟨o, mo, ma⟩ := List.mem_flatMap.mp m
  exact o.al (w.i o mo) a ma h
/-- a call with a new list told by an older promise -/
theorem W.grL (w : W M F0 H0 F H L) (k : Pick L D Rs) (g : Gr N F H F2 H2) (i : ∀ o ∈ D, o.φ F2 H2) (l : NewL K H F2 H2 a ds) (e : App D Rs L3) (hN : N = ads D := by rfl) : ∃ xs, H0 a = none ∧ DpAll K F2 xs ds ∧ W M F0 H0 F2 H2 (mu a (.lst xs) :: L3) := by
  obtain ⟨na, xs, m, dx⟩ := l
  have w2 := w.gr k g i e hN
  refine ⟨xs, w.g.fresh na, dx, w2.newL (w.g.fresh na) m fun h => ?_⟩
  refine w.not_new na ((ads_perm k.perm).mem_iff.mpr ?_)
  rw [e.eq]
  exact h
theorem W.grL0 (w : W M F0 H0 F H L) (g : Gr [] F H F2 H2) (l : NewL K H F2 H2 a ds) : ∃ xs, H0 a = none ∧ DpAll K F2 xs ds ∧ W M F0 H0 F2 H2 (mu a (.lst xs) :: L) := w.grL (D := []) .nil g (fun _ h => nomatch h) l .nil
theorem W.mu (w : W M F0 H0 F H L) (m : mu p u ∈ L) : Mu F H p u := w.i _ m
theorem W.bag {b : Addr} (w : W M F0 H0 F H L) (m : bag K b ∈ L) : Bag K F H b := w.i _ m
theorem W.dat (w : W M F0 H0 F H L) (m : dat K v d ∈ L) : Dp K F v d := w.i _ m
theorem W.dpa (w : W M F0 H0 F H L) (m : dpa K xs ds ∈ L) : DpAll K F xs ds := w.i _ m
theorem W.imL (w : W M F0 H0 F H L) (m : imL K p xs ∈ L) : SqL K F p xs := w.i _ m
theorem W.imT (w : W M F0 H0 F H L) (m : imT K p xs ∈ L) : SqT K F p xs := w.i _ m
theorem W.at_ (w : W M F0 H0 F H L) (m : R.mu p u ∈ L) : H p = some u := (w.mu m).h
theorem W.sqM (w : W M F0 H0 F H L) (m : R.mu p (.lst xs) ∈ L) : SqL K H p xs := (w.mu m).sq
theorem W.fx (w : W M F0 H0 F H L) (m : R.fx p u ∈ L) : H p = some u := w.fh _ _ (w.i _ m)
theorem W.sqF (w : W M F0 H0 F H L) (m : R.fx p (.lst xs) ∈ L) : SqL K H p xs := sqL_of (w.fx m)
theorem W.stF (w : W M F0 H0 F H L) (m : R.fx p (.tup xs) ∈ L) : SqT K H p xs := sqT_of (w.fx m)
theorem W.sqI (w : W M F0 H0 F H L) (m : R.imL K p xs ∈ L) : SqL K H p xs := sqL_same w.fh (w.imL m)
theorem W.sq0 (w : W M F0 H0 F H L) (h : SqL K F0 p xs) : SqL K H p xs := sqL_same w.ws h
theorem W.stI (w : W M F0 H0 F H L) (m : R.imT K p xs ∈ L) : SqT K H p xs := sqT_same w.fh (w.imT m)
theorem W.st0 (w : W M F0 H0 F H L) (h : SqT K F0 p xs) : SqT K H p xs := sqT_same w.ws h
theorem W.dp0 (w : W M F0 H0 F H L) (h : Dp K F0 v d) : Dp K F v d := dp_same w.ff _ _ h
theorem W.dpa0 (w : W M F0 H0 F H L) (h : DpAll K F0 xs ds) : DpAll K F xs ds := dpa_same w.ff _ _ h
theorem W.dpH (w : W M F0 H0 F H L) (h : Dp K F v d) : Dp K H v d := dp_same w.fh _ _ h
/-- a list of data that may change, as data for a while -/
theorem W.dpM (w : W M F0 H0 F H L) (m : R.mu p (.lst xs) ∈ L) (h : DpAll K F xs ds) : Dp K H (.ref p) (.list ds) := .lst (w.sqM m) (dpa_same w.fh _ _ h)
/-- a list of data opened -/
theorem W.open (w : W M F0 H0 F H L) (h : Dp K F v (.list ds)) : ∃ a xs, v = .ref a ∧ W M F0 H0 F H (R.imL K a xs :: R.dpa K xs ds :: L) := by
  obtain ⟨a, xs, rfl, h1, h2⟩ := dp_list h
  exact ⟨a, xs, rfl, (w.push (R.dpa K xs ds) h2).push (R.imL K a xs) h1⟩
end
/-! ### steps -/
def mkT (xs : List V) (H : Hp) (Q : VK) : Prop := xs.length ≤ sizeLine ∧ ∀ p, H p = none → Q (.ref p) (upd H p (.tup xs))
def mkL (xs : List V) (H : Hp) (Q : VK) : Prop := xs.length ≤ sizeLine ∧ ∀ p, H p = none → Q (.ref p) (upd H p (.lst xs))
def forG (g : TG) (tb : TS) (D : Ends) (J : It) (σ : L2.St) (H : Hp) : Prop := ∃ W : Nat → Nat → L2.St → Hp → Prop, (∃ m, W 0 m σ H) ∧ ∀ i m σ H, W i m σ H →
  (J.stop i H ∧ D.nx σ H) ∨ (J.go i H ∧ ∃ N : L2.St → Hp → Prop, (∀ σ' H', N σ' H' → ∃ m', m' < m ∧ W (i + 1) m' σ' H') ∧ ∀ x H', J.yld i H x H' → g x σ H' fun σ2 H2 => tb ⟨N, D.rt, D.nx, N⟩ σ2 H2)
def lcG (g : TG) (tt : TT) (te : TE) (vs : List Nat) (J : It) (σ : L2.St) (H : Hp) (Q : VK) : Prop := ∀ D, H D = none → ∃ W : Nat → Nat → Hp → Prop, (∃ m, W 0 m (upd H D (.lst []))) ∧ ∀ i m H, W i m H →
  (J.stop i H ∧ Q (.ref D) H) ∨ (J.go i H ∧ ∃ Nx : Hp → Prop, (∀ H', Nx H' → ∃ m', m' < m ∧ W (i + 1) m' H') ∧ ∀ x H', J.yld i H x H' → g x (wipe σ vs) H' fun σ2 H2 => wipe σ2 vs = wipe σ vs ∧ tt σ2 H2 fun b H3 =>
    if b = true then te σ2 H3 fun y H4 => ∃ acc, H4 D = some (.lst acc) ∧ acc.length < sizeLine ∧ Nx (upd H4 D (.lst (acc ++ [y]))) else Nx H3)
def accG (D : Addr) (Z : Hp → Prop) (y : V) (H : Hp) : Prop := ∃ acc, H D = some (.lst acc) ∧ acc.length < sizeLine ∧ Z (upd H D (.lst (acc ++ [y])))
def Nx (M : List Addr) (F0 H0 : Hp) (Inv : L2.St → List Own → Prop) : L2.St → Hp → Prop := fun σ H => ∃ L F, Inv σ L ∧ W M F0 H0 F H L
def NxM (M : List Addr) (F0 H0 : Hp) (Inv : Nat → L2.St → List Own → Prop) (m : Nat) : L2.St → Hp → Prop := fun σ H => ∃ m', m' < m ∧ ∃ L F, Inv m' σ L ∧ W M F0 H0 F H L
def NxC (M : List Addr) (F0 H0 : Hp) (P : List V → List Own → Prop) (D : Addr) : Hp → Prop := fun H => ∃ ys L F, P ys L ∧ W M F0 H0 F H (mu D (.lst ys) :: L)
section
variable {K : PySem.W.Frag} {M N : List Addr} {F0 H0 F H : Hp} {L Rs T : List Own} {σ : L2.St} {Q : VK} {ta tb te : TE} {x y v : V} {nx bk ct : L2.St → Hp → Prop} {rt : VK} {p q a D : Addr} {xs ys : List V} {u : HO}
variable {t : TA} {wi : TI} {g : TG} {tbody : TS} {c tt : TT} {vs : List Nat} {ts us : TS}
theorem x_tup (h : t σ H fun xs H1 => mkT xs H1 Q) : tTup t σ H Q := h
theorem x_lst (h : t σ H fun xs H1 => mkL xs H1 Q) : tLst t σ H Q := h
theorem x_for (h : wi σ H fun J H1 => forG g tbody ⟨nx, rt, bk, ct⟩ J σ H1) : tFor wi g tbody ⟨nx, rt, bk, ct⟩ σ H := h
theorem x_lc (h : wi σ H fun J H1 => lcG g tt te vs J σ H1 Q) : tLc wi g tt te vs σ H Q := h
theorem x_wp {a b : L2.St} {B : Prop} (h : a = b) (q : B) : a = b ∧ B := ⟨h, q⟩
theorem n_tup (w : W M F0 H0 F H L) (hs : xs.length ≤ sizeLine) (h : ∀ p F2 H2, W M F0 H0 F2 H2 (fx p (.tup xs) :: L) → Q (.ref p) H2) : mkT xs H Q :=
  ⟨hs, fun p np => h p _ _ ((w.im (u := .tup xs) np).push (fx p (.tup xs)) upd_same)⟩
theorem n_new (w : W M F0 H0 F H L) (h : ∀ p F2 H2, W M F0 H0 F2 H2 (mu p u :: L) → H0 p = none → Q (.ref p) H2) : ∀ p, H p = none → Q (.ref p) (upd H p u) := fun p np => h p _ _ (w.nw np) (w.g.fresh np)
theorem n_lst (w : W M F0 H0 F H L) (hs : xs.length ≤ sizeLine) (h : ∀ p F2 H2, W M F0 H0 F2 H2 (mu p (.lst xs) :: L) → H0 p = none → Q (.ref p) H2) : mkL xs H Q := ⟨hs, n_new w h⟩
theorem n_slL {lo hi : Option Int} (w : W M F0 H0 F H L) (hs : SqL K H p xs) (h : ∀ p F2 H2, W M F0 H0 F2 H2 (mu p (.lst (cutV xs lo hi)) :: L) → H0 p = none → Q (.ref p) H2) : rSlL K (.ref p) lo hi H Q := w_slL xs hs (n_new w h)
theorem n_listOf (w : W M F0 H0 F H L) (hs : SqL K H p xs) (h : ∀ p F2 H2, W M F0 H0 F2 H2 (mu p (.lst xs) :: L) → H0 p = none → Q (.ref p) H2) : rListOf K [.ref p] H Q := w_listOf xs hs (n_new w h)
def revG (K : PySem.W.Frag) (x : V) (H : Hp) (Q : VK) : Prop := ∃ a xs, x = .ref a ∧ SqL K H a xs ∧ ∀ p, H p = none → Q (.ref p) (upd H p (.lst xs.reverse))
theorem x_revL (h : ta σ H fun x H1 => revG K x H1 Q) : tRevL K ta σ H Q := h
theorem n_revL (w : W M F0 H0 F H L) (hs : SqL K H p xs) (h : ∀ p F2 H2, W M F0 H0 F2 H2 (mu p (.lst xs.reverse) :: L) → H0 p = none → Q (.ref p) H2) : revG K (.ref p) H Q := ⟨p, xs, rfl, hs, n_new w h⟩
def lrgG (a b : Int) (H : Hp) (Q : VK) : Prop := RgOk a b ∧ ∀ q, H q = none → Q (.ref q) (upd H q (.lst (rgV a b)))
theorem x_lstRg {te : L2.St → Hp → (Int → Int → Hp → Prop) → Prop} (h : te σ H fun a b H1 => lrgG a b H1 Q) : tLstRg te σ H Q := h
theorem n_lstRg {i j : Int} (w : W M F0 H0 F H L) (hs : RgOk i j) (h : ∀ p F2 H2, W M F0 H0 F2 H2 (mu p (.lst (rgV i j)) :: L) → H0 p = none → Q (.ref p) H2) : lrgG i j H Q := ⟨hs, n_new w h⟩
theorem n_cat (w : W M F0 H0 F H L) (h1 : H p = some (.lst xs)) (h2 : H q = some (.lst ys)) (hs : xs.length + ys.length ≤ sizeLine) (h : ∀ p F2 H2, W M F0 H0 F2 H2 (mu p (.lst (xs ++ ys)) :: L) → H0 p = none → Q (.ref p) H2) : rCat (.ref p) (.ref q) H Q :=
  ⟨p, q, xs, ys, rfl, rfl, h1, h2, hs, n_new w h⟩
theorem n_rep {k : Int} (w : W M F0 H0 F H L) (h1 : H p = some (.lst xs)) (h2 : -(2 ^ 63) ≤ k) (h3 : k < 2 ^ 63) (hs : xs.length * k.toNat ≤ sizeLine) (h : ∀ p F2 H2, W M F0 H0 F2 H2 (mu p (.lst (List.replicate k.toNat xs).flatten) :: L) → H0 p = none → Q (.ref p) H2) : rRep (.ref p) (.int k) H Q :=
  ⟨p, k, xs, rfl, rfl, h1, h2, h3, hs, n_new w h⟩
theorem n_app (w : W M F0 H0 F H L) (k : Pick L [mu p (.lst xs)] Rs) (hn : xs.length < sizeLine) (h : ∀ H2, W M F0 H0 F H2 (mu p (.lst (xs ++ [y])) :: Rs) → Q .non H2) : rAppend (.ref p) [y] H Q :=
  w_app xs ((w.to k).at_ (List.mem_singleton.mpr rfl)) hn (h _ (w.wr k))
theorem n_setL {k : Int} {Z : Hp → Prop} (w : W M F0 H0 F H L) (kk : Pick L [mu p (.lst xs)] Rs) (j : Nat) (e : ixN xs.length k = some j) (h : ∀ H2, W M F0 H0 F H2 (mu p (.lst (xs.set j v)) :: Rs) → Z H2) : rSetL (.ref p) (.int k) v H Z :=
  w_setL xs j ((w.to kk).at_ (List.mem_singleton.mpr rfl)) e (h _ (w.wr kk))
theorem n_draw {m : Int} {E : XK} {b : Addr} (w : W M F0 H0 F H L) (k : Pick L [bag K b] Rs) (h0 : 0 < m) (h1 : m < 2 ^ 200) (h : ∀ r F2 H2, W M F0 H0 F2 H2 (bag K b :: Rs) → 0 ≤ r → r < m → Q (.int r) H2) : S2 (φdraw K) ([.ref b, .int m] ++ []) H Q E :=
  u_draw w.fh ((w.to k).bag (List.mem_singleton.mpr rfl)) h0 h1 fun r F2 H2 g hb r0 r1 => h r F2 H2 (w.gr1 k g hb) r0 r1
def rg1G (vs : List V) (H : Hp) (Rr : It → Hp → Prop) : Prop := ∃ j : Int, vs = [.int j] ∧ -(2 ^ 62) ≤ j ∧ j < 2 ^ 62 ∧ Rr (Itr 0 j.toNat) H
def rg2G (vs : List V) (H : Hp) (Rr : It → Hp → Prop) : Prop := ∃ i j : Int, vs = [.int i, .int j] ∧ (-(2 ^ 62) ≤ i ∧ i < 2 ^ 62 ∧ -(2 ^ 62) ≤ j ∧ j < 2 ^ 62) ∧ Rr (Itr i (j - i).toNat) H
def ilG (K : PySem.W.Frag) (x : V) (H : Hp) (Rr : It → Hp → Prop) : Prop := ∃ a, x = .ref a ∧ (∃ xs, SqL K H a xs) ∧ Rr (Itl K a) H
def itG (K : PySem.W.Frag) (x : V) (H : Hp) (Rr : It → Hp → Prop) : Prop := ∃ a, x = .ref a ∧ (∃ xs, SqT K H a xs) ∧ Rr (Itt K a) H
def isG (x : V) (H : Hp) (Rr : It → Hp → Prop) : Prop := ∃ z, x = .str z ∧ Rr (Its z) H
theorem x_rng1 {Rr : It → Hp → Prop} (h : t σ H fun vs H1 => rg1G vs H1 Rr) : iRng1 t σ H Rr := h
theorem x_rng2 {Rr : It → Hp → Prop} (h : t σ H fun vs H1 => rg2G vs H1 Rr) : iRng2 t σ H Rr := h
theorem x_il {Rr : It → Hp → Prop} (h : te σ H fun x H1 => ilG K x H1 Rr) : iList K te σ H Rr := h
theorem x_it {Rr : It → Hp → Prop} (h : te σ H fun x H1 => itG K x H1 Rr) : iTup K te σ H Rr := h
theorem x_is {Rr : It → Hp → Prop} (h : te σ H fun x H1 => isG x H1 Rr) : iStr te σ H Rr := h
theorem n_rng1 {j : Int} {Rr : It → Hp → Prop} (h0 : -(2 ^ 62) ≤ j) (h1 : j < 2 ^ 62) (h : Rr (Itr 0 j.toNat) H) : rg1G [.int j] H Rr := ⟨j, rfl, h0, h1, h⟩
theorem n_rng2 {i j : Int} {Rr : It → Hp → Prop} (h0 : -(2 ^ 62) ≤ i) (h1 : i < 2 ^ 62) (h2 : -(2 ^ 62) ≤ j) (h3 : j < 2 ^ 62) (h : Rr (Itr i (j - i).toNat) H) : rg2G [.int i, .int j] H Rr := ⟨i, j, rfl, ⟨h0, h1, h2, h3⟩, h⟩
theorem n_il {Rr : It → Hp → Prop} (hs : SqL K H a xs) (h : Rr (Itl K a) H) : ilG K (.ref a) H Rr := ⟨a, rfl, ⟨xs, hs⟩, h⟩
theorem n_it {Rr : It → Hp → Prop} (hs : SqT K H a xs) (h : Rr (Itt K a) H) : itG K (.ref a) H Rr := ⟨a, rfl, ⟨xs, hs⟩, h⟩
theorem n_is {z : Str} {Rr : It → Hp → Prop} (h : Rr (Its z) H) : isG (.str z) H Rr := ⟨z, rfl, h⟩
theorem nx_mk {Inv : L2.St → List Own → Prop} {L2 : List Own} (w : W M F0 H0 F H L) (h : Inv σ L2) (k : Pk L L2) : Nx M F0 H0 Inv σ H := ⟨L2, F, h, w.pk k⟩
theorem nxm_mk {Inv : Nat → L2.St → List Own → Prop} {m m' : Nat} {L2 : List Own} (w : W M F0 H0 F H L) (hm : m' < m) (h : Inv m' σ L2) (k : Pk L L2) : NxM M F0 H0 Inv m σ H := ⟨m', hm, L2, F, h, w.pk k⟩
def addsG : R2 := fun x y H Q => ∃ a b, x = .str a ∧ y = .str b ∧ a.length + b.length ≤ sizeLine ∧ Q (.str (a ++ b)) H
theorem opAddS {X : Cx} : OpR X (binaryOp .Add) addsG := op_add_str
theorem n_adds {a b : Str} (hl : a.length + b.length ≤ sizeLine) (h : Q (.str (a ++ b)) H) : addsG (.str a) (.str b) H Q := ⟨a, b, rfl, rfl, hl, h⟩
theorem x_aug {i : Nat} {ti : TIp} {x : V} {H : Hp} (h : σ[i]? = some (some x)) (q : te σ H fun y H1 => ti x y H1 fun z H2 => nx (σ.set i (some z)) H2) : tAug i te ti ⟨nx, rt, bk, ct⟩ σ H := ⟨x, h, q⟩
theorem n_ipI {g : Int → Int → Int} {i j : Int} {Z : VK} (q : Z (.int (g i j)) H) : ipI g (.int i) (.int j) H Z := ⟨i, j, rfl, rfl, q⟩
/-- loops -/
theorem n_forR {n : Nat} (w : W M F0 H0 F H L) (Inv : Nat → L2.St → List Own → Prop) {L1 : List Own} (h0 : Inv 0 σ L1)
    (hs : ∀ (i : Nat) σ L F H, i < n → Inv i σ L → W M F0 H0 F H L → g (.int (i : Int)) σ H fun σ2 H2 => tbody ⟨Nx M F0 H0 (Inv (i + 1)), rt, nx, Nx M F0 H0 (Inv (i + 1))⟩ σ2 H2)
    (hd : ∀ σ L F H, Inv n σ L → W M F0 H0 F H L → nx σ H) (k : Pk L L1 := by walk_at "pk") : forG g tbody ⟨nx, rt, bk, ct⟩ (Itr 0 n) σ H :=
  f_range0 (fun i σ H => Nx M F0 H0 (Inv i) σ H) ⟨L1, F, h0, w.pk k⟩ (fun i σ H hi ⟨L, F, h, w⟩ => hs i σ L F H hi h w) fun σ H ⟨L, F, h, w⟩ => hd σ L F H h w
theorem n_forRL {lo : Int} {n : Nat} (w : W M F0 H0 F H L) (Inv : Nat → L2.St → List Own → Prop) {L1 : List Own} (h0 : Inv 0 σ L1)
    (hs : ∀ (i : Nat) σ L F H, i < n → Inv i σ L → W M F0 H0 F H L → g (.int (lo + i)) σ H fun σ2 H2 => tbody ⟨Nx M F0 H0 (Inv (i + 1)), rt, nx, Nx M F0 H0 (Inv (i + 1))⟩ σ2 H2)
    (hd : ∀ σ L F H, Inv n σ L → W M F0 H0 F H L → nx σ H) (k : Pk L L1 := by walk_at "pk") : forG g tbody ⟨nx, rt, bk, ct⟩ (Itr lo n) σ H :=
  f_range (fun i σ H => Nx M F0 H0 (Inv i) σ H) ⟨L1, F, h0, w.pk k⟩ (fun i σ H hi ⟨L, F, h, w⟩ => hs i σ L F H hi h w) fun σ H ⟨L, F, h, w⟩ => hd σ L F H h w
theorem n_forL (xs : List V) (w : W M F0 H0 F H L) (Inv : Nat → L2.St → List Own → Prop) {L1 : List Own} (h0 : Inv 0 σ L1) (hl : ∀ i σ L F H, Inv i σ L → W M F0 H0 F H L → SqL K H a xs)
    (hs : ∀ (i : Nat) x σ L F H, xs[i]? = some x → Inv i σ L → W M F0 H0 F H L → g x σ H fun σ2 H2 => tbody ⟨Nx M F0 H0 (Inv (i + 1)), rt, nx, Nx M F0 H0 (Inv (i + 1))⟩ σ2 H2)
    (hd : ∀ σ L F H, Inv xs.length σ L → W M F0 H0 F H L → nx σ H) (k : Pk L L1 := by walk_at "pk") : forG g tbody ⟨nx, rt, bk, ct⟩ (Itl K a) σ H :=
  f_list (xs := xs) (fun i σ H => Nx M F0 H0 (Inv i) σ H) ⟨L1, F, h0, w.pk k⟩ (fun i σ H _ ⟨L, F, h, w⟩ => hl i σ L F H h w) (fun i x σ H hx ⟨L, F, h, w⟩ => hs i x σ L F H hx h w) fun σ H ⟨L, F, h, w⟩ => hd σ L F H h w
def whB (tb : TS) (rt : VK) (nx : L2.St → Hp → Prop) (M : List Addr) (F0 H0 : Hp) (Inv : Nat → L2.St → List Own → Prop) (m : Nat) (σ : L2.St) (H : Hp) : Prop :=
  ∃ N : L2.St → Hp → Prop, (∀ σ' H', N σ' H' → ∃ m', m' < m ∧ ∃ L F, Inv m' σ' L ∧ W M F0 H0 F H' L) ∧ tb ⟨N, rt, nx, N⟩ σ H
theorem n_turn {Inv : Nat → L2.St → List Own → Prop} {m : Nat} (h : tbody ⟨NxM M F0 H0 Inv m, rt, nx, NxM M F0 H0 Inv m⟩ σ H) : whB tbody rt nx M F0 H0 Inv m σ H := ⟨_, fun _ _ h => h, h⟩
theorem n_while (w : W M F0 H0 F H L) (Inv : Nat → L2.St → List Own → Prop) {m0 : Nat} {L1 : List Own} (h0 : Inv m0 σ L1)
    (hs : ∀ (m : Nat) σ L F H, Inv m σ L → W M F0 H0 F H L → c σ H fun b H1 => if b = true then whB tbody rt nx M F0 H0 Inv m σ H1 else nx σ H1) (k : Pk L L1 := by walk_at "pk") : tWhile c tbody ⟨nx, rt, bk, ct⟩ σ H :=
  w_while (fun m σ H => ∃ L F, Inv m σ L ∧ W M F0 H0 F H L) (m0 := m0) ⟨L1, F, h0, w.pk k⟩ fun m σ H ⟨L, F, h, w⟩ => hs m σ L F H h w
theorem n_cut (w : W M F0 H0 F H L) (Mid : L2.St → List Own → Prop) (h1 : ts ⟨Nx M F0 H0 Mid, rt, bk, ct⟩ σ H) (h2 : ∀ σ L F H, Mid σ L → W M F0 H0 F H L → us ⟨nx, rt, bk, ct⟩ σ H) : C8.tCut ts us ⟨nx, rt, bk, ct⟩ σ H :=
  w_cut (Nx M F0 H0 Mid) h1 fun σ' H' ⟨L, F, h, w⟩ => h2 σ' L F H' h w
theorem n_lcR {n : Nat} (w : W M F0 H0 F H L) (P : Nat → List V → List Own → Prop) {L1 : List Own} (h0 : P 0 [] L1)
    (hs : ∀ (i : Nat) ys L F H D, i < n → P i ys L → W M F0 H0 F H (mu D (.lst ys) :: L) → H0 D = none → g (.int (i : Int)) (wipe σ vs) H fun σ2 H2 => wipe σ2 vs = wipe σ vs ∧ tt σ2 H2 fun b H3 =>
      if b = true then te σ2 H3 (accG D (NxC M F0 H0 (P (i + 1)) D)) else NxC M F0 H0 (P (i + 1)) D H3)
    (hd : ∀ D ys L F H, P n ys L → W M F0 H0 F H (mu D (.lst ys) :: L) → H0 D = none → Q (.ref D) H) (k : Pk L L1 := by walk_at "pk") : lcG g tt te vs (Itr 0 n) σ H Q := fun D nD =>
  lc_rng (fun i H => NxC M F0 H0 (P i) D H) ⟨[], L1, F, h0, (w.pk k).nw nD⟩ (fun i H hi ⟨ys, L, F, h, w'⟩ => hs i ys L F H D hi h w' (w.g.fresh nD)) fun H ⟨ys, L, F, h, w'⟩ => hd D ys L F H h w' (w.g.fresh nD)
theorem n_lcL (xs : List V) (w : W M F0 H0 F H L) (P : Nat → List V → List Own → Prop) {L1 : List Own} (h0 : P 0 [] L1) (hl : ∀ i ys L F H D, P i ys L → W M F0 H0 F H (mu D (.lst ys) :: L) → SqL K H a xs)
    (hs : ∀ (i : Nat) x ys L F H D, xs[i]? = some x → P i ys L → W M F0 H0 F H (mu D (.lst ys) :: L) → H0 D = none → g x (wipe σ vs) H fun σ2 H2 => wipe σ2 vs = wipe σ vs ∧ tt σ2 H2 fun b H3 =>
      if b = true then te σ2 H3 (accG D (NxC M F0 H0 (P (i + 1)) D)) else NxC M F0 H0 (P (i + 1)) D H3)
    (hd : ∀ D ys L F H, P xs.length ys L → W M F0 H0 F H (mu D (.lst ys) :: L) → H0 D = none → Q (.ref D) H) (k : Pk L L1 := by walk_at "pk") : lcG g tt te vs (Itl K a) σ H Q := fun D nD =>
  lc_list (xs := xs) (fun i H => NxC M F0 H0 (P i) D H) ⟨[], L1, F, h0, (w.pk k).nw nD⟩ (fun i H _ ⟨ys, L, F, h, w'⟩ => hl i ys L F H D h w') (fun i x H hx ⟨ys, L, F, h, w'⟩ => hs i x ys L F H D hx h w' (w.g.fresh nD)) fun H ⟨ys, L, F, h, w'⟩ => hd D ys L F H h w' (w.g.fresh nD)
theorem n_popAt {k : Int} (w : W M F0 H0 F H L) (kk : Pick L [mu p (.lst xs)] Rs) (j : Nat) (hj : k = (j : Nat)) (hl : xs.length ≤ 100000) (hy : xs[j]? = some y) (h : ∀ H2, W M F0 H0 F H2 (mu p (.lst (xs.eraseIdx j)) :: Rs) → Q y H2) : rPopAt (.ref p) [.int k] H Q := by
  subst hj
  have hi := (List.getElem?_eq_some_iff.mp hy).1
  refine ⟨p, xs, _, j, y, rfl, rfl, (w.to kk).at_ (List.mem_singleton.mpr rfl), by omega, by omega, ?_, hy, h _ (w.wr kk)⟩
  simp only [seqIndex?]
  first
    | rw [if_neg (by omega), if_pos (by omega)]; simp
    | (split <;> simp_all <;> omega)
    | (simp; omega)
theorem n_pop (w : W M F0 H0 F H L) (kk : Pick L [mu p (.lst (xs ++ [y]))] Rs) (h : ∀ H2, W M F0 H0 F H2 (mu p (.lst xs) :: Rs) → Q y H2) : rPop (.ref p) [] H Q := by
  refine ⟨p, xs ++ [y], y, rfl, rfl, (w.to kk).at_ (List.mem_singleton.mpr rfl), by simp, ?_⟩
  rw [List.dropLast_concat]
  exact h _ (w.wr kk)
theorem n_ext (w : W M F0 H0 F H L) (hb : H q = some (.lst ys)) (kk : Pick L [mu p (.lst xs)] Rs) (hl : xs.length + ys.length ≤ sizeLine) (h : ∀ H2, W M F0 H0 F H2 (mu p (.lst (xs ++ ys)) :: Rs) → Q .non H2) : rExtend (.ref p) [.ref q] H Q :=
  ⟨p, q, xs, ys, rfl, rfl, (w.to kk).at_ (List.mem_singleton.mpr rfl), hb, hl, h _ (w.wr kk)⟩
theorem n_rev (w : W M F0 H0 F H L) (kk : Pick L [mu p (.lst xs)] Rs) (h : ∀ H2, W M F0 H0 F H2 (mu p (.lst xs.reverse) :: Rs) → Q .non H2) : rReverse (.ref p) [] H Q :=
  ⟨p, xs, rfl, rfl, (w.to kk).at_ (List.mem_singleton.mpr rfl), h _ (w.wr kk)⟩
theorem n_clear (w : W M F0 H0 F H L) (kk : Pick L [mu p (.lst xs)] Rs) (h : ∀ H2, W M F0 H0 F H2 (mu p (.lst []) :: Rs) → Q .non H2) : rClear (.ref p) [] H Q :=
  ⟨p, xs, rfl, rfl, (w.to kk).at_ (List.mem_singleton.mpr rfl), h _ (w.wr kk)⟩
/-- a call that only reads, told by a promise with a single list -/
theorem W.ro (w : W M F0 H0 F H L) {F2 H2 : Hp} (w2 : W [] H H F2 H2 [R.mu p u]) (hp : H p = none) : W M F0 H0 F H2 (R.mu p u :: L) := by
  have m := w2.mu (List.mem_singleton.mpr rfl)
  have w3 : W [] F H F H2 [R.mu p u] := by
    refine ⟨w2.g.back w.fh, fun o ho => ?_, w2.d, w2.o⟩
    rw [List.mem_singleton.mp ho]
    exact ⟨w.fh.free hp, m.h⟩
  exact w.call .nil w3
/-- .. with nothing -/
theorem W.ro0 (w : W M F0 H0 F H L) {F2 H2 : Hp} {L2 : List Own} (w2 : W [] H H F2 H2 L2) : W M F0 H0 F H2 L := by
  have w3 : W [] F H F H2 [] := ⟨w2.g.back w.fh, fun _ h => (nomatch h), .nil, fun _ h => (nomatch h)⟩
  exact w.call .nil w3
theorem W.ro0' (w : W M F0 H0 F H L) {F2 H2 : Hp} (g : Gr [] H H F2 H2) : W M F0 H0 F H2 L := w.gr0 (g.back w.fh)
theorem getD_of {l : List V} {j : Nat} (h : j < l.length) : l[j]? = some (l.getD j .non) := by
  rw [List.getD_eq_getElem?_getD, List.getElem?_eq_getElem h]
  rfl
theorem n_forJ (J : It) (n : Nat) (w : W M F0 H0 F H L) (Inv : Nat → L2.St → List Own → Prop) {L1 : List Own} (h0 : Inv 0 σ L1) (hg : ∀ i σ L F H, i < n → Inv i σ L → W M F0 H0 F H L → J.go i H) (ht : ∀ σ L F H, Inv n σ L → W M F0 H0 F H L → J.stop n H)
    (hs : ∀ (i : Nat) x σ L F H H', i < n → Inv i σ L → W M F0 H0 F H L → J.yld i H x H' → g x σ H' fun σ2 H2 => tbody ⟨Nx M F0 H0 (Inv (i + 1)), rt, nx, Nx M F0 H0 (Inv (i + 1))⟩ σ2 H2)
    (hd : ∀ σ L F H, Inv n σ L → W M F0 H0 F H L → nx σ H) (k : Pk L L1 := by walk_at "pk") : forG g tbody ⟨nx, rt, bk, ct⟩ J σ H := by
  refine ⟨fun i m σ H => m = n - i ∧ i ≤ n ∧ Nx M F0 H0 (Inv i) σ H, ⟨n, by simp, Nat.zero_le _, L1, F, h0, w.pk k⟩, ?_⟩
  rintro i m σ H ⟨rfl, hi, L, F, h, w⟩
  by_cases hlt : i < n
  · exact .inr ⟨hg i σ L F H hlt h w, Nx M F0 H0 (Inv (i + 1)), fun σ' H' p' => ⟨n - (i + 1), by omega, rfl, hlt, p'⟩, fun x H' y => hs i x σ L F H H' hlt h w y⟩
  · have e : i = n := by omega
    subst e
    exact .inl ⟨ht σ L F H h w, hd σ L F H h w⟩
theorem n_lcJ (J : It) (n : Nat) (w : W M F0 H0 F H L) (P : Nat → List V → List Own → Prop) {L1 : List Own} (h0 : P 0 [] L1) (hg : ∀ i ys L F H D, i < n → P i ys L → W M F0 H0 F H (mu D (.lst ys) :: L) → J.go i H) (ht : ∀ ys L F H D, P n ys L → W M F0 H0 F H (mu D (.lst ys) :: L) → J.stop n H)
    (hs : ∀ (i : Nat) x ys L F H H' D, i < n → P i ys L → W M F0 H0 F H (mu D (.lst ys) :: L) → J.yld i H x H' → H0 D = none → g x (wipe σ vs) H' fun σ2 H2 => wipe σ2 vs = wipe σ vs ∧ tt σ2 H2 fun b H3 =>
      if b = true then te σ2 H3 (accG D (NxC M F0 H0 (P (i + 1)) D)) else NxC M F0 H0 (P (i + 1)) D H3)
    (hd : ∀ D ys L F H, P n ys L → W M F0 H0 F H (mu D (.lst ys) :: L) → H0 D = none → Q (.ref D) H) (k : Pk L L1 := by walk_at "pk") : lcG g tt te vs J σ H Q := by
  intro D nD
  have hD := w.g.fresh nD
  refine ⟨fun i m H => m = n - i ∧ i ≤ n ∧ NxC M F0 H0 (P i) D H, ⟨n, by simp, Nat.zero_le _, [], L1, F, h0, (w.pk k).nw nD⟩, ?_⟩
  rintro i m H ⟨rfl, hi, ys, L, F, h, w⟩
  by_cases hlt : i < n
  · exact .inr ⟨hg i ys L F H D hlt h w, NxC M F0 H0 (P (i + 1)) D, fun H' p' => ⟨n - (i + 1), by omega, rfl, hlt, p'⟩, fun x H' y => hs i x ys L F H H' D hlt h w y hD⟩
  · have e : i = n := by omega
    subst e
    exact .inl ⟨ht ys L F H D h w, hd D ys L F H h w hD⟩
def sgnV (z : Str) (k : Nat) : V := .str ⟨#[z.cps.toList.getD k 0]⟩
theorem its_yld {z : Str} {i : Nat} {H H' : Hp} {x : V} (h : (Its z).yld i H x H') : H' = H ∧ x = sgnV z i := by
  obtain ⟨e, c, hc, rfl⟩ := h
  refine ⟨e, ?_⟩
  unfold sgnV
  rw [List.getD_eq_getElem?_getD, Array.getElem?_toList, hc]
  rfl
/-- over a text -/
theorem n_forS (z : Str) (w : W M F0 H0 F H L) (Inv : Nat → L2.St → List Own → Prop) {L1 : List Own} (h0 : Inv 0 σ L1)
    (hs : ∀ (i : Nat) σ L F H, i < z.length → Inv i σ L → W M F0 H0 F H L → g (sgnV z i) σ H fun σ2 H2 => tbody ⟨Nx M F0 H0 (Inv (i + 1)), rt, nx, Nx M F0 H0 (Inv (i + 1))⟩ σ2 H2)
    (hd : ∀ σ L F H, Inv z.length σ L → W M F0 H0 F H L → nx σ H) (k : Pk L L1 := by walk_at "pk") : forG g tbody ⟨nx, rt, bk, ct⟩ (Its z) σ H :=
  n_forJ (Its z) z.length w Inv h0 (fun i _ _ _ _ hi _ _ => hi) (fun _ _ _ _ _ _ => Nat.le_refl _) (fun i x σ L F H H' hi h w y => by obtain ⟨rfl, rfl⟩ := its_yld y; exact hs i σ L F _ hi h w) hd k
theorem n_lcS (z : Str) (w : W M F0 H0 F H L) (P : Nat → List V → List Own → Prop) {L1 : List Own} (h0 : P 0 [] L1)
    (hs : ∀ (i : Nat) ys L F H D, i < z.length → P i ys L → W M F0 H0 F H (mu D (.lst ys) :: L) → H0 D = none → g (sgnV z i) (wipe σ vs) H fun σ2 H2 => wipe σ2 vs = wipe σ vs ∧ tt σ2 H2 fun b H3 =>
      if b = true then te σ2 H3 (accG D (NxC M F0 H0 (P (i + 1)) D)) else NxC M F0 H0 (P (i + 1)) D H3)
    (hd : ∀ D ys L F H, P z.length ys L → W M F0 H0 F H (mu D (.lst ys) :: L) → H0 D = none → Q (.ref D) H) (k : Pk L L1 := by walk_at "pk") : lcG g tt te vs (Its z) σ H Q :=
  n_lcJ (Its z) z.length w P h0 (fun i _ _ _ _ _ hi _ _ => hi) (fun _ _ _ _ _ _ _ => Nat.le_refl _) (fun i x ys L F H H' D hi h w y hD => by obtain ⟨rfl, rfl⟩ := its_yld y; exact hs i ys L F _ D hi h w hD) hd k
/-- over enumerate(list) -/
def enG (K : PySem.W.Frag) (vs : List V) (H : Hp) (Rr : It → Hp → Prop) : Prop := ∃ a xs, vs = [.ref a] ∧ SqL K H a xs ∧ Rr (Ite K a) H
theorem x_en {Rr : It → Hp → Prop} (h : t σ H fun vs H1 => enG K vs H1 Rr) : iEnum K t σ H Rr := h
theorem n_en {Rr : It → Hp → Prop} (hs : SqL K H a xs) (h : Rr (Ite K a) H) : enG K [.ref a] H Rr := ⟨a, xs, rfl, hs, h⟩
theorem n_forE (xs : List V) (w : W M F0 H0 F H L) (Inv : Nat → L2.St → List Own → Prop) {L1 : List Own} (h0 : Inv 0 σ L1) (hl : ∀ i σ L F H, Inv i σ L → W M F0 H0 F H L → SqL K H a xs)
    (hs : ∀ (i : Nat) x T σ L F H, xs[i]? = some x → Inv i σ L → W M F0 H0 F H (fx T (.tup [.int (i : Nat), x]) :: L) → g (.ref T) σ H fun σ2 H2 => tbody ⟨Nx M F0 H0 (Inv (i + 1)), rt, nx, Nx M F0 H0 (Inv (i + 1))⟩ σ2 H2)
    (hd : ∀ σ L F H, Inv xs.length σ L → W M F0 H0 F H L → nx σ H) (k : Pk L L1 := by walk_at "pk") : forG g tbody ⟨nx, rt, bk, ct⟩ (Ite K a) σ H := by
  refine n_forJ (Ite K a) xs.length w Inv h0 (fun i σ L F H hi h w => ⟨xs, xs[i], hl i σ L F H h w, List.getElem?_eq_getElem hi⟩) (fun σ L F H h w => ⟨xs, hl _ σ L F H h w, Nat.le_refl _⟩) (fun i x σ L F H H' hi h w y => ?_) hd k
  obtain ⟨T, v, rfl, nT, rfl, hx⟩ := y
  exact hs i v T σ L _ _ (hx xs (hl i σ L F H h w)) h ((w.im (u := .tup [.int (i : Nat), v]) nT).push (fx T (.tup [.int (i : Nat), v])) upd_same)
/-- over a tuple -/
theorem n_forT (xs : List V) (w : W M F0 H0 F H L) (Inv : Nat → L2.St → List Own → Prop) {L1 : List Own} (h0 : Inv 0 σ L1) (hl : ∀ i σ L F H, Inv i σ L → W M F0 H0 F H L → SqT K H a xs)
    (hs : ∀ (i : Nat) x σ L F H, xs[i]? = some x → Inv i σ L → W M F0 H0 F H L → g x σ H fun σ2 H2 => tbody ⟨Nx M F0 H0 (Inv (i + 1)), rt, nx, Nx M F0 H0 (Inv (i + 1))⟩ σ2 H2)
    (hd : ∀ σ L F H, Inv xs.length σ L → W M F0 H0 F H L → nx σ H) (k : Pk L L1 := by walk_at "pk") : forG g tbody ⟨nx, rt, bk, ct⟩ (Itt K a) σ H := by
  refine n_forJ (Itt K a) xs.length w Inv h0 (fun i σ L F H hi h w => ⟨xs, xs[i], hl i σ L F H h w, List.getElem?_eq_getElem hi⟩) (fun σ L F H h w => ⟨xs, hl _ σ L F H h w, Nat.le_refl _⟩) (fun i x σ L F H H' hi h w y => ?_) hd k
  obtain ⟨rfl, y⟩ := y
  exact hs i x σ L F _ (y xs (hl i σ L F _ h w)) h w
theorem W.calB {b : Addr} {F2 H2 : Hp} {L2 L3 : List Own} (w : W M F0 H0 F H L) (k : Pick L [R.bag K b] Rs) (w2 : W [b] F H F2 H2 L2) (e : App L2 Rs L3) : W M F0 H0 F2 H2 L3 := w.cal k w2 e rfl
theorem W.bag0 {b : Addr} {F2 H2 : Hp} (g : Gr [] H H F2 H2) (h : Bag K F2 H2 b) : W [] H H F2 H2 [R.bag K b] := by
  obtain ⟨c, cells, i, cur, st, k, h1, h2, _⟩ := h.ex
  refine ⟨g, fun o m => ?_, ?_, fun a m => ?_⟩
  · rw [List.mem_singleton.mp m]
    exact h
  · show ([b] : List Addr).Nodup
    simp
  · rw [show a = b from List.mem_singleton.mp m]
    exact .inr (g.ff.free h1)
theorem mapB_get {bs : List Bool} {i : Nat} {x : V} (h : (bs.map V.bl)[i]? = some x) : ∃ c, x = .bl c := by
  rw [List.getElem?_map] at h
  cases e : bs[i]? with
  | none => rw [e] at h; cases h
  | some c => rw [e] at h; exact ⟨c, (Option.some.inj h).symm⟩
theorem n_acc (ys : List V) {P : List V → List Own → Prop} (w : W M F0 H0 F H L) (hp : P (ys ++ [y]) Rs) (k : Pk L (mu D (.lst ys) :: Rs)) (hl : ys.length < sizeLine) : accG D (NxC M F0 H0 P D) y H := by
  have w' := w.pk k
  refine ⟨ys, w'.at_ (List.mem_cons_self ..), hl, ys ++ [y], Rs, F, hp, ?_⟩
  exact w'.wr (.cons .here .nil)
end
end R

namespace R
open PySem PySem.Spec PyProof.Rows L2
section
variable {P : Program} {w : World} {A : Around} {E : Value → Shared → Prop} {s : Shared}
/-- set(xs) of a list of ints -/
theorem set_listI {l : Addr} {items : Array Value} (ns : List Int) {Q : Value → Shared → Prop} (hh : A.handled = none) (hl : s.heap.IsList l items) (hit : IntsAre items.toList ns) (hb : ns.length + 1 < scanBound)
    (h : ∀ (h' : Heap) (tk c : Nat), SetR w h' s.heap.objs.size (fun j => decide (j ∈ ns)) c → c ≤ ns.length → (∀ b o, s.heap.get? b = some o → h'.get? b = some o) → Q (.ref s.heap.objs.size) { s with heap := h', toks := tk }) :
    wpAny (model P w) A (call (.type "set") [.ref l]) Q E s := by
  have hisz : items.size = ns.length := by
    have q := IntsAre.length hit
    rw [Array.length_toList] at q
    exact q
  obtain ⟨c, tl, hmro⟩ := F.called_set.mro
  have hmade := F.called_set.made
  have hsub := F.called_set.sub
  refine wpAny_call (codeAny_of_tree ?_)
  show wpAny _ _ (callAny (.type "set") _) _ _ _
  refine wpAny_pure ⟨Code.quiet_builtin _ (by decide +kernel), codeAny_builtin F.entry_type_call ?_⟩
  rw [Around.under_plain (weight_type_call_type "set" [.ref l] []) rfl]
  have h1 := F.called_set.notType
  have h2 := F.called_set.canCreate
  have hct := F.typeCall_set_1 (.ref l)
  repeat (any_goals (first | assumption | wp_step))
  refine codeAny_mono (code_set_led1 (.ref l) (E := E) (Q₁ := fun obj s₁ => obj = .ref s.heap.objs.size ∧ s₁ = { s with heap := s.heap.push { cls := .type "set", dict := none, data := .set #[] 0 (.fresh 0 0 (!w.params.followText "set-order")) } }) ⟨rfl, rfl⟩) fun r s₁ hr => ?_
  cases r with
  | error e => exact hr
  | ok fl =>
    cases fl with
    | ret obj =>
      obtain ⟨rfl, rfl⟩ := hr
      have hS : (s.heap.push { cls := .type "set", dict := none, data := .set #[] 0 (.fresh 0 0 (!w.params.followText "set-order")) }).get? s.heap.objs.size = some { cls := .type "set", dict := none, data := .set #[] 0 (.fresh 0 0 (!w.params.followText "set-order")) } := Heap.get?_push_size _ rfl
      have hT : Shared.TypeIs { s with heap := s.heap.push { cls := .type "set", dict := none, data := .set #[] 0 (.fresh 0 0 (!w.params.followText "set-order")) } } (.ref s.heap.objs.size) "set" := ⟨_, hS, rfl⟩
      have hli := F.called_set.init.lookup
      have hbi := F.called_set.init.bind (.ref s.heap.objs.size)
      repeat (any_goals (first | assumption | wp_step))
      refine codeAny_mono (codeAny_call_builtin (R := wants (fun r s₂ => r = .none ∧ ∃ h' tk c, s₂ = { s with heap := h', toks := tk } ∧ SetR w h' s.heap.objs.size (fun j => decide (j ∈ ns)) c ∧ c ≤ ns.length ∧
          (∀ b o, s.heap.get? b = some o → h'.get? b = some o)) E) F.called_set.init.plain F.entry_set_init (check_set_init_1 hT ?_)) fun r₂ s₂ hr₂ => ?_
      · obtain ⟨ol, hol, hcl, nl, hdl⟩ := hl
        obtain ⟨ocls, odict, odata, oslots⟩ := ol
        simp only at hcl hdl
        subst hcl; subst hdl
        have hol' : (s.heap.push { cls := .type "set", dict := none, data := .set #[] 0 (.fresh 0 0 (!w.params.followText "set-order")) }).get? l = some { cls := .type "list", dict := odict, data := .seq items nl, slots := oslots } := Heap.get?_push_of_some _ hol
        have hsls := F.sub_list_set
        have hslf := F.sub_list_frozenset
        have hne : (Value.type "list" == Value.type "dict") = false := by decide
        have hl1 : (s.heap.push { cls := .type "set", dict := none, data := .set #[] 0 (.fresh 0 0 (!w.params.followText "set-order")) }).IsList l items := ⟨_, hol', rfl, nl, rfl⟩
        unfold Builtin.«set.__init__» noKeywords Builtin.Frozenset.updateFrom
        generalize hPI : pyIter = PI
        wp_walk
        subst hPI
        refine wpAny_pyIter_list hl1 ?_
        refine wpAny_bind (wpAny_runValue ?_)
        have hlS : l < s.heap.objs.size := Heap.lt_size hol
        have hh3 : A.in1.in1.in1.handled = none := by simp [hh]
        have hneI : l ≠ (s.heap.push { cls := .type "set", dict := none, data := .set #[] 0 (.fresh 0 0 (!w.params.followText "set-order")) }).objs.size := by
          rw [Heap.size_push]; exact Nat.ne_of_lt (Nat.lt_succ_of_lt hlS)
        have hSf : s.heap.objs.size ∉ [(s.heap.push { cls := .type "set", dict := none, data := .set #[] 0 (.fresh 0 0 (!w.params.followText "set-order")) }).objs.size, l] := by
          rw [Heap.size_push]; simp only [List.mem_cons, List.mem_singleton, List.not_mem_nil, or_false, not_or]
          exact ⟨Nat.ne_of_lt (Nat.lt_succ_self _), Nat.ne_of_gt hlS⟩
        have hval : ∀ (i : Nat) (v : Value), items[i]? = some v → ∃ k t, ns[i]? = some k ∧ v = .int k t := fun i v hv => by
          have hi : i < ns.length := by rw [← hisz]; exact (Array.getElem?_eq_some_iff.mp hv).1
          obtain ⟨t, e⟩ := PyProof.Rows.IntsAre.int_at hit i v (by rw [Array.getElem?_toList]; exact hv)
          refine ⟨ns[i], t, List.getElem?_eq_getElem hi, ?_⟩
          rw [e, List.getD_eq_getElem?_getD, List.getElem?_eq_getElem hi] <;> rfl
        refine set_update_ints ((Walks.list hh3 _ l hneI items).toS) s.heap.objs.size
          hSf ns hisz hb hval (items.size - 0) 0 _ (by omega) (Nat.zero_le _)
          ⟨⟨_, Heap.get?_push_size _ rfl, rfl, rfl⟩, (hl1.push _)⟩ ?hS0 ?hR
        case hS0 =>
          have hget : ((s.heap.push { cls := .type "set", dict := none, data := .set #[] 0 (.fresh 0 0 (!w.params.followText "set-order")) }).push { cls := .type "list_iterator", data := .fields #[.ref l, .int 0 0] }).get? s.heap.objs.size
              = some { cls := .type "set", dict := none, data := .set #[] 0 (.fresh 0 0 (!w.params.followText "set-order")) } := Heap.get?_push_of_some _ hS
          exact ⟨0, Nat.le_refl 0, setR_new_at hget⟩
        case hR =>
          intro s' c' hm hc' hS'
          obtain ⟨h', g2, d', tk', os'⟩ := s'
          have eg : g2 = s.gens := hm.gens
          have ed : d' = s.drawn := hm.drawn
          have eo : os' = s.os := hm.os
          subst eg; subst ed; subst eo
          show wpAny _ _ _ _ _ _
          refine wpAny_pure ?_
          show wpAny _ _ (ret Value.none) _ _ _
          rw [hisz] at hc'
          refine wpAny_pure ⟨rfl, h', tk', c', rfl, hS', hc', fun b o e => ?_⟩
          have hb0 : b < s.heap.objs.size := Heap.lt_size e
          have hb1 : b ≠ s.heap.objs.size := Nat.ne_of_lt hb0
          have hb2 : b ≠ (s.heap.push { cls := .type "set", dict := none, data := .set #[] 0 (.fresh 0 0 (!w.params.followText "set-order")) }).objs.size := by
            rw [Heap.size_push]; exact Nat.ne_of_lt (Nat.lt_succ_of_lt hb0)
          exact hm.heap b o (by simp only [List.mem_cons, List.mem_singleton, List.not_mem_nil, or_false, not_or]; exact ⟨hb1, hb2⟩) (Heap.get?_push_of_some _ (Heap.get?_push_of_some _ e))
      · cases r₂ with
        | error e => exact hr₂
        | ok fl₂ =>
          cases fl₂ with
          | ret r =>
            obtain ⟨rfl, h', tk, c', rfl, hS', hc', hk'⟩ := hr₂
            repeat (any_goals (first | assumption | wp_step))
            exact h _ _ _ hS' hc' hk'
          | _ => exact hr₂.elim
    | _ => exact hr.elim
/-- sorted of a set of ints, any number of them -/
theorem sorted_setN {a : Addr} {S : Int → Bool} {n : Nat} {Q : Value → Shared → Prop} (R : SetR w s.heap a S n) (hh : A.handled = none) (hz : n ≤ sizeLine)
    (hQ : ∀ s' p (out : Array Value) (c : Nat) (ns : List Int), (∀ b o, s.heap.get? b = some o → s'.heap.get? b = some o) → s'.gens = s.gens → s'.os = s.os → s.heap.objs.size ≤ p →
      s'.heap.get? p = some (seqObj "list" out c) → IntsAre out.toList ns → ns.Pairwise (· < ·) → (∀ k, k ∈ ns ↔ S k = true) → ns.length = n → Q (.ref p) s') :
    wpAny (model P w) A (call (.builtin "sorted") [.ref a]) Q E s := by
  obtain ⟨o, es, ep, t, ho, hex, hd, g, nd, hm, hb, hf, hn, hr, hl⟩ := R
  refine Calls.call_function_entry kind_sorted plain_sorted entry_sorted (args_sorted1 _) ?_
  unfold Builtin.«sorted»
  refine wpAny_bind (m := checkCount "sorted" 1 1 _) (wpAny_pure ?_)
  refine wpAny_bind (collect_set (A := A.in1) hh ⟨o, ho, hex.1, hd⟩ hf hb hr hl fun s1 vs k1 hz g1 o1 pm => ?_)
  have hvl : vs.length = n := by rw [pm.length_eq, List.length_map, Array.length_toList]; exact hn
  have hI : IntsAre vs (vs.map Builtin.Re.reRawOf) := ints_of vs fun v hv => by
    obtain ⟨e, he, q⟩ := List.mem_map.mp (pm.mem_iff.mp hv)
    obtain ⟨k, tk, h1, _⟩ := g e he
    exact ⟨k, tk, by rw [← q]; exact h1⟩
  have pk : (vs.map Builtin.Re.reRawOf).Perm (es.toList.map keyOf) := by
    have q := pm.map Builtin.Re.reRawOf
    rw [List.map_map] at q
    exact q
  have hz2 : vs.length ≤ sizeLine := by rw [hvl]; assumption
  refine wpAny_bind (wpAny_newList ?_ hz2)
  have hoL : (s1.heap.push (seqObj "list" vs.toArray 0)).get? s1.heap.objs.size = some (seqObj "list" vs.toArray 0) := Heap.get?_push_size _ rfl
  refine wpAny_bind (wpAny_holding (wpAny_call_entry slot_list_sort ⟨_, hoL, rfl⟩ entry_list_sort
    (SrtO.list_sort_ord SrtO.swo_int hoL hz2 (fun h2 => SrtO.ints_sortable hI h2) fun out h1 h2 => ⟨_, rfl, ?_⟩) (args_list_sort _)))
  obtain ⟨k1', k2, k3⟩ := SrtO.ints_out hI h1 h2
  obtain ⟨c, hc⟩ := sortedHeap_at (vs := vs) (out := out.toArray) hoL
  have pn : (out.map SrtO.iv).Perm (es.toList.map keyOf) := k2.trans pk
  refine wpAny_pure ⟨_, rfl, hQ _ s1.heap.objs.size out.toArray c (out.map SrtO.iv) (fun b u e => ?_) g1 o1 hz hc k1' (lt_of_le_nodup _ k3 (pn.nodup_iff.mpr nd)) (fun k => by rw [pn.mem_iff, ← hm k]) ?_⟩
  · have q := k1 b u e
    have hlt := Heap.lt_size q
    show (sortedHeap (s1.heap.push (seqObj "list" vs.toArray 0)) s1.heap.objs.size vs out.toArray).get? b = some u
    rw [sortedHeap_old (Nat.ne_of_lt hlt) (by rw [size_push']; exact Nat.lt_succ_of_lt hlt)]
    exact Heap.get?_push_of_some _ q
  · rw [pn.length_eq, List.length_map, Array.length_toList]; exact hn
end
section
variable {X : Cx} {K : PySem.W.Frag} {w : World}
def rSetL (K : PySem.W.Frag) (w : World) : List V → Hp → VK → Prop := fun xs H Q => ∃ (a : Addr) (ns : List Int), xs = [.ref a] ∧ SqL K H a (ns.map V.int) ∧ ns.length ≤ 4000 ∧ ∀ p c, c ≤ ns.length → H p = none → Q (.ref p) (upd H p (SetO w p (fun j => decide (j ∈ ns)) c))
theorem clSetL (hc : X.calm = true := by rfl) (h : X.K = K := by rfl) (hw : X.w = w := by rfl) : CallR X (.type "set") (rSetL K w) := by
  subst h hw
  intro pins s σ H vs us Q I r h
  obtain ⟨a, ns, rfl, ha, hl, q⟩ := h
  obtain ⟨u, rfl, rx⟩ := vals1 r
  cases rx
  obtain ⟨its, rv, pl, hz⟩ := I.list ha
  have hi : IntsAre its.toArray.toList ns := ints_of_vals rv
  refine set_listI ns (I.ok.hd hc) (let ⟨o, n, e, c, _, d⟩ := pl; ⟨o, e, c, n, d⟩) hi (by unfold scanBound; omega) fun h' tk c R1 hcn k => ?_
  exact ⟨.ref _, upd H s.heap.objs.size (SetO X.w s.heap.objs.size (fun j => decide (j ∈ ns)) c), I.laid (t' := tk) k (Nat.le_refl _) (setO_new R1), rfl, q _ _ hcn (I.hok.fresh (Nat.le_refl _))⟩
def rSortS (w : World) : List V → Hp → VK → Prop := fun vs H Q => ∃ (a : Addr) (S : Int → Bool) (n : Nat), vs = [V.ref a] ∧ H a = some (SetO w a S n) ∧ n ≤ 100000 ∧
  ∀ (ns : List Int) (p : Addr), ns.Pairwise (· < ·) → (∀ k : Int, k ∈ ns ↔ S k = true) → ns.length = n → H p = none → Q (.ref p) (upd H p (.lst (ns.map V.int)))
theorem clSortS (hc : X.calm = true := by rfl) (hw : X.w = w := by rfl) : CallR X (.builtin "sorted") (rSortS w) := by
  subst hw
  intro pins s σ H vs us Q I r h
  obtain ⟨a, S, n, rfl, ha, hz, q⟩ := h
  have R := setO_get I ha
  rw [Vals.ref1 r]
  have hz' : n ≤ sizeLine := Nat.le_of_lt (by rw [sizeLine_eq]; omega)
  refine sorted_setN R (I.ok.hd hc) hz' fun s' p out c ns k g o hp hg hi hs hm hl => ?_
  have hlen : (ns.map V.int).length ≤ sizeLine := by rw [List.length_map, hl]; exact hz'
  have hn : H p = none := I.hok.fresh hp
  have J : Inv X pins σ (upd H p (.lst (ns.map V.int))) { s with heap := s'.heap, gens := s'.gens, drawn := s'.drawn, toks := s'.toks } :=
    I.call (ch := []) (Un.laid k hp hn) (I.hok.laid k hp ⟨hlen, out.toList, c, vals_of_ints hi, hg⟩) (by rw [g]; exact I.bare) (fun _ z => nomatch z)
  have e : s' = { s with heap := s'.heap, gens := s'.gens, drawn := s'.drawn, toks := s'.toks } := by
    cases s'
    cases s
    cases o
    rfl
  rw [e]
  exact ⟨.ref p, _, J, rfl, q ns p hs hm hl hn⟩
end
end R

namespace R
open PySem PySem.Spec PyProof.Rows L2
/-! ### list(s) of a text -/
def chars (z : Str) : List V := z.cps.toList.map fun c => V.str ⟨#[c]⟩
theorem chars_len (z : Str) : (chars z).length = z.length := by simp [chars, Str.length]
def rListS : List V → Hp → VK → Prop := fun xs H Q => ∃ z : Str, xs = [.str z] ∧ z.length ≤ sizeLine ∧ ∀ q, H q = none → Q (.ref q) (upd H q (.lst (chars z)))
theorem clListS {X : Cx} (hc : X.calm = true := by rfl) : CallR X (.type "list") rListS := by
  intro pins s σ H xs us Q I r h
  obtain ⟨z, rfl, hz, q⟩ := h
  obtain ⟨u, rfl, rx⟩ := vals1 r
  obtain ⟨t, rfl⟩ := rx
  refine PySem.call_list_str (I.ok.hd hc) z t (fun h' tk acc c' hk e hi => ?_) hz
  refine ⟨.ref s.heap.objs.size, upd H s.heap.objs.size (.lst (chars z)), I.laid hk (Nat.le_refl _) ⟨by rw [chars_len]; exact hz, acc.toList, c', ?_, by rw [Array.toArray_toList]; exact e⟩, rfl, q _ (I.hok.fresh (Nat.le_refl _))⟩
  refine vals_of_idx _ _ (by rw [chars_len, Array.length_toList]; exact hi.1) fun j u hj => ?_
  obtain ⟨c, t', hc, rfl⟩ := hi.2 j u (by rw [← Array.getElem?_toList]; exact hj)
  refine ⟨.str ⟨#[c]⟩, ?_, ⟨_, rfl⟩⟩
  unfold chars
  rw [List.getElem?_map, Array.getElem?_toList, hc]
  rfl
theorem n_listS {M : List Addr} {F0 H0 F H : Hp} {L : List Own} {Q : VK} {z : Str} (w : W M F0 H0 F H L) (hz : z.length ≤ sizeLine) (h : ∀ p F2 H2, W M F0 H0 F2 H2 (mu p (.lst (chars z)) :: L) → H0 p = none → Q (.ref p) H2) : rListS [.str z] H Q := ⟨z, rfl, hz, n_new w h⟩
def sgn (z : Str) (k : Nat) : V := .str ⟨#[z.cps.toList.getD k 0]⟩
theorem chars_get {z : Str} {k : Nat} (h : k < z.length) : (chars z)[k]? = some (sgn z k) := by
  have hi : k < z.cps.toList.length := by
    have : z.cps.toList.length = z.length := by simp [Str.length]
    omega
  unfold chars sgn
  rw [List.getElem?_map, List.getD_eq_getElem?_getD, List.getElem?_eq_getElem hi]
  rfl
/-! ### flat values -/
def flatD : V → PyData
  | .int i => .int i
  | .str z => .str z
  | _ => .none
def FlatV (v : V) : Prop := v = .non ∨ (∃ i, v = .int i) ∨ ∃ z, v = .str z ∧ okS z ∧ z.length ≤ 100
theorem flat_dp {K : PySem.W.Frag} {F : Hp} {v : V} (h : FlatV v) : Dp K F v (flatD v) ∧ good (flatD v) = true ∧ (flatD v).depth ≤ 0 := by
  rcases h with rfl | ⟨i, rfl⟩ | ⟨z, rfl, h1, h2⟩
  · exact ⟨.non, rfl, Nat.le_refl _⟩
  · exact ⟨.int i, rfl, Nat.le_refl _⟩
  · exact ⟨.str z, str_good h1 (by omega), Nat.le_refl _⟩
theorem flat_dpa {K : PySem.W.Frag} {F : Hp} : ∀ {vs : List V}, (∀ v ∈ vs, FlatV v) → DpAll K F vs (vs.map flatD)
  | [], _ => .nil
  | v :: vs, h => .cons (flat_dp (h v (List.mem_cons_self ..))).1 (flat_dpa fun u hu => h u (List.mem_cons_of_mem _ hu))
theorem flat_good {vs : List V} (h : ∀ v ∈ vs, FlatV v) (hl : vs.length ≤ 100000) : good (.list (vs.map flatD)) = true ∧ (PyData.list (vs.map flatD)).depth ≤ 1 := by
  constructor
  · refine good_list (by rw [List.length_map]; exact hl) fun d hd => ?_
    obtain ⟨r, hr, rfl⟩ := List.mem_map.mp hd
    exact (flat_dp (K := default) (F := fun _ => none) (h r hr)).2.1
  · refine depth_list fun d hd => ?_
    obtain ⟨r, hr, rfl⟩ := List.mem_map.mp hd
    exact (flat_dp (K := default) (F := fun _ => none) (h r hr)).2.2
theorem chars_flat {z : Str} (h : okS z) : ∀ v ∈ chars z, FlatV v := by
  intro v hv
  obtain ⟨k, hk, e⟩ := List.getElem_of_mem hv
  rw [chars_len] at hk
  have e2 := chars_get hk
  rw [List.getElem?_eq_getElem (by rw [chars_len]; exact hk), e] at e2
  rw [Option.some.inj e2]
  exact .inr (.inr ⟨_, rfl, ok_sign h hk, by show 1 ≤ 100; decide⟩)
theorem flat_snoc {vs : List V} {v : V} (h : ∀ v ∈ vs, FlatV v) (hv : FlatV v) : ∀ u ∈ vs ++ [v], FlatV u := by
  intro u hu
  rcases List.mem_append.mp hu with hu | hu
  · exact h u hu
  · rw [List.mem_singleton.mp hu]
    exact hv
/-! ### slices -/
theorem cut_nat (xs : List V) (i j : Nat) : cutV xs (some (i : Int)) (some (j : Int)) = (xs.drop i).take (j - i) := by
  unfold cutV
  rw [HT.sIx_nat, HT.sIx_nat]
  by_cases h : i ≤ xs.length
  · rw [Nat.min_eq_left h]
    by_cases h2 : j ≤ xs.length
    · rw [Nat.min_eq_left h2]
    · rw [Nat.min_eq_right (by omega), List.take_of_length_le (by rw [List.length_drop]; exact Nat.le_refl _), List.take_of_length_le (by rw [List.length_drop]; omega)]
  · rw [Nat.min_eq_right (show xs.length ≤ i by omega), List.drop_eq_nil_of_le (Nat.le_refl _), List.drop_eq_nil_of_le (show xs.length ≤ i by omega), List.take_nil, List.take_nil]
theorem cut_to (xs : List V) (j : Nat) : cutV xs none (some (j : Int)) = xs.take j := by
  unfold cutV
  rw [HT.sIx_none, HT.sIx_nat, List.drop_zero, Nat.sub_zero]
  by_cases h : j ≤ xs.length
  · rw [Nat.min_eq_left h]
  · rw [Nat.min_eq_right (by omega), List.take_of_length_le (Nat.le_refl _), List.take_of_length_le (by omega)]
theorem cut_from (xs : List V) (i : Nat) : cutV xs (some (i : Int)) none = xs.drop i := by
  unfold cutV
  rw [HT.sIx_none, HT.sIx_nat]
  by_cases h : i ≤ xs.length
  · rw [Nat.min_eq_left h]
    exact List.take_of_length_le (by rw [List.length_drop]; exact Nat.le_refl _)
  · rw [Nat.min_eq_right (by omega), Nat.sub_self, List.take_zero, List.drop_eq_nil_of_le (by omega)]
/-! ### items put one by one from a place on -/
def putN {α : Type} (f : Nat → α) (l : List α) (to : Nat) : Nat → List α
  | 0 => l
  | n + 1 => (putN f l to n).set (to + n) (f n)
theorem putN_len {α : Type} (f : Nat → α) (l : List α) (to : Nat) : ∀ n, (putN f l to n).length = l.length
  | 0 => rfl
  | n + 1 => by rw [putN, List.length_set, putN_len f l to n]
theorem putN_get {α : Type} (f : Nat → α) (l : List α) (to : Nat) : ∀ (n i : Nat), (putN f l to n)[i]? = if to ≤ i ∧ i < to + n ∧ i < l.length then some (f (i - to)) else l[i]?
  | 0, i => by
    rw [putN, if_neg (by omega)]
  | n + 1, i => by
    rw [putN, List.getElem?_set, putN_len]
    by_cases e : to + n = i
    · subst e
      rw [if_pos rfl]
      by_cases hl : to + n < l.length
      · rw [if_pos hl, if_pos (by omega), show to + n - to = n by omega]
      · rw [if_neg hl, if_neg (by omega), List.getElem?_eq_none (by omega)]
    · rw [if_neg e, putN_get f l to n i]
      by_cases h : to ≤ i ∧ i < to + n ∧ i < l.length
      · rw [if_pos h, if_pos (by omega)]
      · rw [if_neg h, if_neg (by omega)]
theorem ixN_nat {n i j : Nat} (h : i + j < n) : ixN n ((i : Int) + j) = some (i + j) := by
  unfold ixN
  rw [if_pos (by omega), if_pos (by omega)]
  congr 1
/-! ### moves -/
inductive Mv where
  | put (to : Nat) (s : Str)
  | copy (to a n : Nat)
def Mv.d : Mv → PyData
  | .put to s => .tuple [.str "put", .int to, .str s]
  | .copy to a n => .tuple [.str "copy", .int to, .int a, .int n]
def Mv.to : Mv → Nat
  | .put to _ => to
  | .copy to _ _ => to
def Mv.len : Mv → Nat
  | .put _ s => s.length
  | .copy _ _ n => n
def Mv.lo : Mv → Nat
  | .put _ _ => 0
  | .copy _ a _ => a
def Mv.hi : Mv → Nat
  | .put _ _ => 0
  | .copy _ a n => a + n
def Mv.sOk : Mv → Prop
  | .put _ s => okS s ∧ s.length ≤ 1000
  | .copy to a _ => to ≠ a
structure MvOk (N : Nat) (m : Mv) : Prop where
  s : m.sOk
  p : 1 ≤ m.len
  t : m.to + m.len ≤ N
  h : m.hi ≤ N
def Mv.some (xs : List V) : Mv → List V
  | .put _ s => chars s
  | .copy _ a n => (xs.drop a).take n
def laidL (xs : List V) (to : Nat) (zs : List V) : List V := xs.take to ++ zs ++ xs.drop (to + zs.length)
def stepM (once : Bool) (xs now : List V) (m : Mv) : List V := laidL now m.to (m.some (if once then xs else now))
def runM (once : Bool) (xs : List V) (ms : List Mv) : List V := ms.foldl (stepM once xs) xs
theorem run_take {once : Bool} {xs : List V} {ms : List Mv} {i : Nat} {m : Mv} (h : ms[i]? = Option.some m) : runM once xs (ms.take (i + 1)) = stepM once xs (runM once xs (ms.take i)) m := by
  unfold runM
  rw [List.take_add_one, h, List.foldl_append]
  rfl
theorem some_len {xs : List V} {m : Mv} (h : m.hi ≤ xs.length) : (m.some xs).length = m.len := by
  cases m with
  | put to s => exact chars_len s
  | copy to a n =>
    show ((xs.drop a).take n).length = n
    have h' : a + n ≤ xs.length := h
    rw [List.length_take, List.length_drop]
    omega
theorem laid_len {xs zs : List V} {to : Nat} (h : to + zs.length ≤ xs.length) : (laidL xs to zs).length = xs.length := by
  unfold laidL
  rw [List.length_append, List.length_append, List.length_take, List.length_drop]
  omega
theorem step_len {once : Bool} {xs now : List V} {m : Mv} (e : now.length = xs.length) (h : MvOk xs.length m) : (stepM once xs now m).length = xs.length := by
  have h2 : (if once then xs else now).length = xs.length := by split <;> first | rfl | exact e
  have h3 := some_len (xs := if once then xs else now) (m := m) (by rw [h2]; exact h.h)
  unfold stepM
  rw [laid_len (by rw [h3, e]; exact h.t), e]
theorem run_len {once : Bool} {xs : List V} : ∀ {ms : List Mv}, (∀ m ∈ ms, MvOk xs.length m) → (runM once xs ms).length = xs.length := by
  have key : ∀ (ms : List Mv) (now : List V), now.length = xs.length → (∀ m ∈ ms, MvOk xs.length m) → (ms.foldl (stepM once xs) now).length = xs.length := by
    intro ms
    induction ms with
    | nil => intro now e _; exact e
    | cons m ms ih => intro now e h; exact ih _ (step_len e (h m (List.mem_cons_self ..))) fun q hq => h q (List.mem_cons_of_mem _ hq)
  intro ms h
  exact key _ xs rfl h
theorem laid_put {xs zs : List V} {to : Nat} (h : to + zs.length ≤ xs.length) : putN (fun k => zs.getD k .non) xs to zs.length = laidL xs to zs := by
  refine List.ext_getElem? fun i => ?_
  rw [putN_get]
  unfold laidL
  by_cases h1 : i < to
  · rw [if_neg (by omega), List.append_assoc, List.getElem?_append_left (by rw [List.length_take]; omega), List.getElem?_take_of_lt h1]
  · by_cases h2 : i < to + zs.length
    · rw [if_pos ⟨by omega, h2, by omega⟩, List.append_assoc, List.getElem?_append_right (by rw [List.length_take]; omega), List.getElem?_append_left (by rw [List.length_take]; omega), List.length_take, Nat.min_eq_left (by omega),
        List.getD_eq_getElem?_getD, List.getElem?_eq_getElem (by omega)]
      rfl
    · rw [if_neg (by omega), List.getElem?_append_right (by rw [List.length_append, List.length_take]; omega), List.getElem?_drop, List.length_append, List.length_take, Nat.min_eq_left (by omega)]
      congr 1
      omega
theorem mem_take {α : Type} {l : List α} {n : Nat} {x : α} (h : x ∈ l.take n) : x ∈ l := List.mem_of_mem_take h
theorem some_flat {xs : List V} {m : Mv} (hs : m.sOk) (h : ∀ v ∈ xs, FlatV v) : ∀ v ∈ m.some xs, FlatV v := by
  cases m with
  | put to s => exact chars_flat hs.1
  | copy to a n => exact fun v hv => h v (List.mem_of_mem_drop (List.mem_of_mem_take hv))
theorem run_flat {once : Bool} {xs : List V} (hx : ∀ v ∈ xs, FlatV v) : ∀ {ms : List Mv}, (∀ m ∈ ms, m.sOk) → ∀ v ∈ runM once xs ms, FlatV v := by
  have key : ∀ (ms : List Mv) (now : List V), (∀ v ∈ now, FlatV v) → (∀ m ∈ ms, m.sOk) → ∀ v ∈ ms.foldl (stepM once xs) now, FlatV v := by
    intro ms
    induction ms with
    | nil => intro now e _; exact e
    | cons m ms ih =>
      intro now e h
      refine ih _ (fun v hv => ?_) fun q hq => h q (List.mem_cons_of_mem _ hq)
      rcases List.mem_append.mp hv with hv | hv
      · rcases List.mem_append.mp hv with hv | hv
        · exact e v (List.mem_of_mem_take hv)
        · exact some_flat (h m (List.mem_cons_self ..)) (by split <;> assumption) v hv
      · exact e v (List.mem_of_mem_drop hv)
  intro ms h
  exact key _ xs hx h
section
variable {K : PySem.W.Frag} {F : Hp} {x : V}
theorem dp_mput {to : Nat} {s : Str} (h : Dp K F x (Mv.put to s).d) : ∃ a, x = .ref a ∧ SqT K F a [.str "put", .int to, .str s] := by
  obtain ⟨a, v1, v2, v3, rfl, hs, h1, h2, h3⟩ := dp_tup3 h
  rw [dp_str h1, dp_int h2, dp_str h3] at hs
  exact ⟨a, rfl, hs⟩
theorem dp_mcopy {to a n : Nat} (h : Dp K F x (Mv.copy to a n).d) : ∃ p, x = .ref p ∧ SqT K F p [.str "copy", .int to, .int a, .int n] := by
  obtain ⟨p, v1, v2, v3, v4, rfl, hs, h1, h2, h3, h4⟩ := dp_tup4 h
  rw [dp_str h1, dp_int h2, dp_int h3, dp_int h4] at hs
  exact ⟨p, rfl, hs⟩
theorem dp_mput' {p : Addr} {to : Nat} {s : Str} (h : SqT K F p [.str "put", .int to, .str s]) : Dp K F (.ref p) (Mv.put to s).d := .tup h (.cons (.str _) (.cons (.int _) (.cons (.str _) .nil)))
theorem dp_mcopy' {p : Addr} {to a n : Nat} (h : SqT K F p [.str "copy", .int to, .int a, .int n]) : Dp K F (.ref p) (Mv.copy to a n).d := .tup h (.cons (.str _) (.cons (.int _) (.cons (.int _) (.cons (.int _) .nil))))
/-- the first two items of a move -/
theorem dp_mv0 {m : Mv} (h : Dp K F x m.d) : ∃ p ys, x = .ref p ∧ SqT K F p ys ∧ ys[1]? = some (.int (m.to : Nat)) := by
  cases m with
  | put to s =>
    obtain ⟨p, rfl, hs⟩ := dp_mput h
    exact ⟨p, _, rfl, hs, rfl⟩
  | copy to a n =>
    obtain ⟨p, rfl, hs⟩ := dp_mcopy h
    exact ⟨p, _, rfl, hs, rfl⟩
/-- item i of a list of data -/
theorem dpa_at {α : Type} {f : α → PyData} {us : List V} {as : List α} {i : Nat} {y : V} (h : DpAll K F us (as.map f)) (hx : us[i]? = some y) : ∃ r, as[i]? = some r ∧ Dp K F y (f r) := by
  have hl := dpa_len h
  have hi := (List.getElem?_eq_some_iff.mp hx).1
  rw [List.length_map] at hl
  have hr : as[i]? = some as[i] := List.getElem?_eq_getElem (by omega)
  obtain ⟨v, hv, dv⟩ := dpa_get (i := i) (d := f as[i]) h (by rw [List.getElem?_map, hr]; rfl)
  rw [hx] at hv
  rw [Option.some.inj hv]
  exact ⟨_, hr, dv⟩
theorem dpa_perm {α : Type} {f : α → PyData} {us vs : List V} (p : us.Perm vs) : ∀ {as : List α}, DpAll K F us (as.map f) → ∃ bs, as.Perm bs ∧ DpAll K F vs (bs.map f) := by
  induction p with
  | nil => exact fun h => ⟨_, .refl _, h⟩
  | cons x _ ih =>
    intro as h
    cases as with
    | nil => cases h
    | cons a as =>
      cases h with
      | cons h t =>
        obtain ⟨bs, p, q⟩ := ih t
        exact ⟨a :: bs, p.cons _, .cons h q⟩
  | swap x y l =>
    intro as h
    cases as with
    | nil => cases h
    | cons a as =>
      cases h with
      | cons h t =>
        cases as with
        | nil => cases t
        | cons b as =>
          cases t with
          | cons h2 t => exact ⟨b :: a :: as, .swap _ _ _, .cons h2 (.cons h t)⟩
  | trans _ _ ih1 ih2 =>
    intro as h
    obtain ⟨bs, p, q⟩ := ih1 h
    obtain ⟨cs, p2, q2⟩ := ih2 q
    exact ⟨cs, p.trans p2, q2⟩
end
theorem mv_good {m : Mv} (h : m.sOk) : good m.d = true ∧ m.d.depth ≤ 1 := by
  cases m with
  | put to s =>
    constructor
    · refine good_tuple (by simp) fun d hd => ?_
      simp only [List.mem_cons, List.not_mem_nil, or_false] at hd
      rcases hd with rfl | rfl | rfl
      · decide +kernel
      · rfl
      · exact str_good h.1 (Nat.le_trans h.2 (by decide))
    · refine depth_tuple fun d hd => ?_
      simp only [List.mem_cons, List.not_mem_nil, or_false] at hd
      rcases hd with rfl | rfl | rfl <;> exact Nat.le_refl _
  | copy to a n =>
    constructor
    · refine good_tuple (by simp) fun d hd => ?_
      simp only [List.mem_cons, List.not_mem_nil, or_false] at hd
      rcases hd with rfl | rfl | rfl | rfl
      · decide +kernel
      · rfl
      · rfl
      · rfl
    · refine depth_tuple fun d hd => ?_
      simp only [List.mem_cons, List.not_mem_nil, or_false] at hd
      rcases hd with rfl | rfl | rfl | rfl <;> exact Nat.le_refl _
theorem mvs_good {ms : List Mv} (h : ∀ m ∈ ms, m.sOk) (hl : ms.length ≤ 100000) : good (.list (ms.map Mv.d)) = true ∧ (PyData.list (ms.map Mv.d)).depth ≤ 2 := by
  constructor
  · refine good_list (by rw [List.length_map]; exact hl) fun d hd => ?_
    obtain ⟨r, hr, rfl⟩ := List.mem_map.mp hd
    exact (mv_good (h r hr)).1
  · refine depth_list fun d hd => ?_
    obtain ⟨r, hr, rfl⟩ := List.mem_map.mp hd
    exact (mv_good (h r hr)).2
/-- no cell is written twice -/
def Apart (ms : List Mv) : Prop := ms.Pairwise fun m k => m.to + m.len ≤ k.to ∨ k.to + k.len ≤ m.to
theorem Apart.perm {ms ks : List Mv} (h : Apart ms) (p : ms.Perm ks) : Apart ks := (p.pairwise_iff (fun h => h.symm)).mp h
structure MvsOk (N : Nat) (ms : List Mv) : Prop where
  ok : ∀ m ∈ ms, MvOk N m
  ap : Apart ms
theorem MvsOk.perm {N : Nat} {ms ks : List Mv} (h : MvsOk N ms) (p : ms.Perm ks) : MvsOk N ks := ⟨fun m hm => h.ok m (p.mem_iff.mpr hm), h.ap.perm p⟩
theorem MvsOk.sub {N : Nat} {ms ks : List Mv} (h : MvsOk N ms) (p : ks.Sublist ms) : MvsOk N ks := ⟨fun m hm => h.ok m (p.mem hm), List.Pairwise.sublist p h.ap⟩
theorem nodup_lt : ∀ (N : Nat) (l : List Nat), l.Nodup → (∀ x ∈ l, x < N) → l.length ≤ N
  | 0, [], _, _ => Nat.le_refl _
  | 0, x :: l, _, h => absurd (h x (List.mem_cons_self ..)) (Nat.not_lt_zero _)
  | N + 1, l, hn, h => by
    have ih := nodup_lt N (l.erase N) (hn.erase N) fun x hx => by
      have h1 := h x (List.mem_of_mem_erase hx)
      have h2 : x ≠ N := fun e => by
        subst e
        exact (List.Nodup.mem_erase_iff hn).mp hx |>.1 rfl
      omega
    rw [List.length_erase] at ih
    split at ih <;> omega
/-- fewer than N + 1 of them -/
theorem MvsOk.len {N : Nat} {ms : List Mv} (h : MvsOk N ms) : ms.length ≤ N := by
  have hn : (ms.map Mv.to).Nodup := by
    refine List.pairwise_map.mpr (h.ap.imp_of_mem fun ha hb z => ?_)
    have := (h.ok _ ha).p
    have := (h.ok _ hb).p
    omega
  have hs : ∀ x ∈ ms.map Mv.to, x < N := fun x hx => by
    obtain ⟨m, hm, rfl⟩ := List.mem_map.mp hx
    have := (h.ok m hm).p
    have := (h.ok m hm).t
    omega
  have := nodup_lt N _ hn hs
  rwa [List.length_map] at this
/-! ### cuts and blocks -/
section
variable {K : PySem.W.Frag} {M : List Addr} {F0 H0 F H : Hp} {L : List Own} {Q : VK} {a : Addr} {ns : List Int} {wd : World}
theorem n_setI (w : W M F0 H0 F H L) (hs : SqL K H a (ns.map V.int)) (hl : ns.length ≤ 4000) (h : ∀ p c F2 H2, W M F0 H0 F2 H2 (mu p (SetO wd p (fun j => decide (j ∈ ns)) c) :: L) → c ≤ ns.length → H0 p = none → Q (.ref p) H2) : rSetL K wd [.ref a] H Q :=
  ⟨a, ns, rfl, hs, hl, fun p c hc np => h p c _ _ (w.nw np) hc (w.g.fresh np)⟩
theorem n_sortS {S : Int → Bool} {n : Nat} (w : W M F0 H0 F H L) (hs : H a = some (SetO wd a S n)) (hl : n ≤ 100000) (h : ∀ (ks : List Int) p F2 H2, W M F0 H0 F2 H2 (mu p (.lst (ks.map V.int)) :: L) → ks.Pairwise (· < ·) → (∀ k : Int, k ∈ ks ↔ S k = true) → ks.length = n → H0 p = none → Q (.ref p) H2) : rSortS wd [.ref a] H Q :=
  ⟨a, S, n, rfl, hs, hl, fun ks p h1 h2 h3 np => h ks p _ _ (w.nw np) h1 h2 h3 (w.g.fresh np)⟩
end
theorem cuts_nat {N : Nat} : ∀ {ns : List Int}, (∀ x ∈ ns, 0 ≤ x ∧ x ≤ (N : Int)) → ns.Pairwise (· < ·) → ∃ cs : List Nat, ns.map V.int = nV cs ∧ cs.Pairwise (· < ·) ∧ (∀ c ∈ cs, c ≤ N) ∧ (∀ k : Nat, k ∈ cs ↔ (k : Int) ∈ ns) ∧ cs.length = ns.length
  | [], _, _ => ⟨[], rfl, .nil, by simp, by simp, rfl⟩
  | x :: ns, h, p => by
    obtain ⟨p1, p2⟩ := List.pairwise_cons.mp p
    obtain ⟨cs, e, q1, q2, q3, q4⟩ := cuts_nat (ns := ns) (fun y hy => h y (List.mem_cons_of_mem _ hy)) p2
    have hx := h x (List.mem_cons_self ..)
    refine ⟨x.toNat :: cs, ?_, List.pairwise_cons.mpr ⟨fun c hc => ?_, q1⟩, fun c hc => ?_, fun k => ?_, by rw [List.length_cons, List.length_cons, q4]⟩
    · show V.int x :: ns.map V.int = V.int (x.toNat : Nat) :: nV cs
      rw [e, Int.toNat_of_nonneg hx.1]
    · have := p1 _ ((q3 c).mp hc)
      omega
    · rcases List.mem_cons.mp hc with rfl | hc
      · omega
      · exact q2 c hc
    · rw [List.mem_cons, List.mem_cons, q3]
      constructor
      · rintro (rfl | h)
        · exact .inl (Int.toNat_of_nonneg hx.1)
        · exact .inr h
      · rintro (h | h)
        · exact .inl (by omega)
        · exact .inr h
def blks : List Nat → List (Nat × Nat)
  | a :: b :: r => (a, b - a) :: blks (b :: r)
  | _ => []
def blkD (p : Nat × Nat) : PyData := .tuple [.int (p.1 : Nat), .int (p.2 : Nat)]
theorem blks_len : ∀ cs : List Nat, (blks cs).length = cs.length - 1
  | [] => rfl
  | [_] => rfl
  | a :: b :: r => by
    rw [blks, List.length_cons, blks_len (b :: r)]
    simp
theorem blks_get : ∀ {cs : List Nat} {i x y : Nat}, cs[i]? = some x → cs[i + 1]? = some y → (blks cs)[i]? = some (x, y - x)
  | [], _, _, _, h, _ => by simp at h
  | [_], 0, _, _, _, h => by simp at h
  | [_], i + 1, _, _, h, _ => by simp at h
  | a :: b :: r, 0, x, y, h1, h2 => by
    have e1 := Option.some.inj h1
    have e2 := Option.some.inj h2
    subst e1 e2
    rfl
  | a :: b :: r, i + 1, x, y, h1, h2 => by
    rw [blks, List.getElem?_cons_succ]
    exact blks_get (cs := b :: r) h1 h2
theorem blks_ok {N : Nat} : ∀ {cs : List Nat}, cs.Pairwise (· < ·) → (∀ c ∈ cs, c ≤ N) → ∀ p ∈ blks cs, 1 ≤ p.2 ∧ p.1 + p.2 ≤ N
  | [], _, _, p, h => by cases h
  | [_], _, _, p, h => by cases h
  | a :: b :: r, q, hN, p, h => by
    obtain ⟨q1, q2⟩ := List.pairwise_cons.mp q
    rcases List.mem_cons.mp h with rfl | h
    · have h1 := q1 b (List.mem_cons_self ..)
      have h2 := hN b (List.mem_cons_of_mem _ (List.mem_cons_self ..))
      exact ⟨by show 1 ≤ b - a; omega, by show a + (b - a) ≤ N; omega⟩
    · exact blks_ok q2 (fun c hc => hN c (List.mem_cons_of_mem _ hc)) p h
theorem blks_sum {N : Nat} : ∀ {a : Nat} {cs : List Nat}, (a :: cs).Pairwise (· < ·) → (∀ c ∈ (a :: cs), c ≤ N) → ((blks (a :: cs)).map (·.2)).sum + a ≤ N
  | a, [], _, h => by
    show 0 + a ≤ N
    have := h a (List.mem_cons_self ..)
    omega
  | a, b :: r, q, h => by
    obtain ⟨q1, q2⟩ := List.pairwise_cons.mp q
    have ih := blks_sum q2 fun c hc => h c (List.mem_cons_of_mem _ hc)
    have h1 := q1 b (List.mem_cons_self ..)
    rw [blks, List.map_cons, List.sum_cons]
    show (b - a) + _ + a ≤ N
    omega
theorem blk_sum {N : Nat} {cs : List Nat} (q : cs.Pairwise (· < ·)) (h : ∀ c ∈ cs, c ≤ N) : ((blks cs).map (·.2)).sum ≤ N := by
  cases cs with
  | nil => exact Nat.zero_le _
  | cons a cs =>
    have := blks_sum q h
    omega
theorem dp_blk {K : PySem.W.Frag} {F : Hp} {x : V} {p : Nat × Nat} (h : Dp K F x (blkD p)) : ∃ a, x = .ref a ∧ SqT K F a [.int (p.1 : Nat), .int (p.2 : Nat)] := by
  obtain ⟨a, vs, rfl, hs, h0⟩ := dp_tup h
  obtain ⟨v1, us, rfl, h1, h0⟩ := dpa_cons h0
  obtain ⟨v2, us, rfl, h2, h0⟩ := dpa_cons h0
  cases dpa_nil h0
  rw [dp_int h1, dp_int h2] at hs
  exact ⟨a, rfl, hs⟩
theorem sum_take_succ {l : List Nat} {i x : Nat} (h : l[i]? = some x) : (l.take (i + 1)).sum = (l.take i).sum + x := by
  rw [List.take_add_one, h, List.sum_append]
  rfl
theorem sum_take_le (l : List Nat) (i : Nat) : (l.take i).sum ≤ l.sum := by
  have := List.sum_append (l₁ := l.take i) (l₂ := l.drop i)
  rw [List.take_append_drop] at this
  omega
/-! ### promises -/
def φreads (K : PySem.W.Frag) : V → Hp → VK → Prop := fun x H Q => ∃ (F : Hp) (m : Mv), Same F H ∧ Dp K F x m.d ∧ ∀ t F2 H2, W [] F H F2 H2 [fx t (.tup [.int (m.lo : Nat), .int (m.hi : Nat)])] → Q (.ref t) H2
def φlands (K : PySem.W.Frag) : V → Hp → VK → Prop := fun x H Q => ∃ (F : Hp) (m : Mv), Same F H ∧ Dp K F x m.d ∧ m.sOk ∧ ∀ t F2 H2, W [] F H F2 H2 [fx t (.tup [.int (m.to : Nat), .int ((m.to + m.len : Nat) : Int)])] → Q (.ref t) H2
def φbrought (K : PySem.W.Frag) : V → V → Hp → VK → Prop := fun x y H Q => ∃ (F : Hp) (a : Addr) (xs : List V) (m : Mv), x = .ref a ∧ Same F H ∧ SqL K F a xs ∧ Dp K F y m.d ∧ m.sOk ∧
  ∀ p F2 H2, H p = none → W [] F H F2 H2 [mu p (.lst (m.some xs))] → Q (.ref p) H2
def φlaid (K : PySem.W.Frag) : V → V → V → Hp → VK → Prop := fun x y z H Q => ∃ (F : Hp) (a b : Addr) (xs zs : List V) (to : Nat), x = .ref a ∧ y = .int (to : Nat) ∧ z = .ref b ∧ Same F H ∧ SqL K F a xs ∧ F b = some (.lst zs) ∧ xs.length ≤ 100000 ∧ zs.length ≤ 100000 ∧
  ∀ p F2 H2, H p = none → W [] F H F2 H2 [mu p (.lst (laidL xs to zs))] → Q (.ref p) H2
def φrun (once : Bool) (K : PySem.W.Frag) : V → V → Hp → VK → Prop := fun x y H Q => ∃ (F : Hp) (a : Addr) (xs : List V) (ms : List Mv), x = .ref a ∧ Same F H ∧ SqL K F a xs ∧ Dp K F y (.list (ms.map Mv.d)) ∧ (∀ m ∈ ms, MvOk xs.length m) ∧ xs.length ≤ 10000 ∧
  ∀ p F2 H2, H p = none → W [] F H F2 H2 [mu p (.lst (runM once xs ms))] → Q (.ref p) H2
def φrunB (K : PySem.W.Frag) : V → V → V → Hp → VK → Prop := fun x y z H Q => ∃ (F : Hp) (a : Addr) (xs : List V) (ms : List Mv) (once : Bool), x = .ref a ∧ z = .bl once ∧ Same F H ∧ SqL K F a xs ∧ Dp K F y (.list (ms.map Mv.d)) ∧ (∀ m ∈ ms, MvOk xs.length m) ∧ xs.length ≤ 10000 ∧
  ∀ p F2 H2, H p = none → W [] F H F2 H2 [mu p (.lst (runM once xs ms))] → Q (.ref p) H2
def φtextN (K : PySem.W.Frag) : V → V → Hp → VK → Prop := fun x y H Q => ∃ (F : Hp) (b : Addr) (n : Int), x = .ref b ∧ y = .int n ∧ St F H [bag K b] ∧ 0 ≤ n ∧ n ≤ 1000 ∧
  ∀ (s : Str) F2 H2, W [b] F H F2 H2 [bag K b] → (s.length : Int) = n → okS s → Q (.str s) H2
def φturned (K : PySem.W.Frag) : V → V → Hp → VK → Prop := fun x y H Q => ∃ (F : Hp) (b a : Addr) (xs : List V), x = .ref b ∧ y = .ref a ∧ St F H [bag K b] ∧ SqL K F a xs ∧ xs.length ≤ 10000 ∧
  ∀ p ys F2 H2, H p = none → W [b] F H F2 H2 [mu p (.lst ys), bag K b] → xs.Perm ys → Q (.ref p) H2
def φmoves (K : PySem.W.Frag) : V → V → V → V → V → Hp → VK → Prop := fun x1 x2 x3 x4 x5 H Q => ∃ (F : Hp) (b : Addr) (N wide copies puts : Int), x1 = .ref b ∧ x2 = .int N ∧ x3 = .int wide ∧ x4 = .int copies ∧ x5 = .int puts ∧ St F H [bag K b] ∧ 1 ≤ N ∧ N ≤ 400 ∧ 1 ≤ wide ∧ wide ≤ 400 ∧ 0 ≤ copies ∧ copies ≤ 1000 ∧ 1 ≤ puts ∧ puts ≤ 1000 ∧
  ∀ p ys ms F2 H2, H p = none → W [b] F H F2 H2 [mu p (.lst ys), dpa K ys (ms.map Mv.d), bag K b] → MvsOk N.toNat ms → Q (.ref p) H2
def φblocks (K : PySem.W.Frag) : V → V → V → Hp → VK → Prop := fun x1 x2 x3 H Q => ∃ (F : Hp) (b : Addr) (N many : Int), x1 = .ref b ∧ x2 = .int N ∧ x3 = .int many ∧ St F H [bag K b] ∧ 1 ≤ N ∧ N ≤ 400 ∧ 0 ≤ many ∧ many ≤ 1000 ∧
  ∀ p ys ms F2 H2, H p = none → W [b] F H F2 H2 [mu p (.lst ys), dpa K ys (ms.map Mv.d), bag K b] → MvsOk N.toNat ms → Q (.ref p) H2
def φany_moves (K : PySem.W.Frag) : V → Hp → VK → Prop := fun x H Q => ∃ (F : Hp) (b : Addr), x = .ref b ∧ St F H [bag K b] ∧
  ∀ t p ys ms (N : Nat) F2 H2, H p = none → W [b] F H F2 H2 [fx t (.tup [.ref p, .int (N : Nat)]), mu p (.lst ys), dpa K ys (ms.map Mv.d), bag K b] → MvsOk N ms → 1 ≤ N → N ≤ 400 → Q (.ref t) H2
def φroom (K : PySem.W.Frag) : V → V → Hp → VK → Prop := fun x y H Q => ∃ (F : Hp) (b : Addr) (n : Int), x = .ref b ∧ y = .int n ∧ St F H [bag K b] ∧ 0 ≤ n ∧ n ≤ 1000 ∧
  ∀ p xs F2 H2, H p = none → W [b] F H F2 H2 [mu p (.lst xs), bag K b] → (xs.length : Int) = n → (∀ v ∈ xs, FlatV v) → Q (.ref p) H2
def φright22 (K : PySem.W.Frag) : V → V → V → Hp → VK → Prop := fun x y z H Q => ∃ (F : Hp) (a : Addr) (xs : List V) (ms : List Mv) (once : Bool), x = .ref a ∧ z = .bl once ∧ Same F H ∧ SqL K F a xs ∧ Dp K F y (.list (ms.map Mv.d)) ∧ MvsOk xs.length ms ∧ (∀ v ∈ xs, FlatV v) ∧ 1 ≤ xs.length ∧ xs.length ≤ 1000 ∧
  ∀ F2 H2, W [] F H F2 H2 [] → Q (.bl true) H2
end R

namespace R
open PySem L2
/-! ### a class of the text: its methods with their promises, its making -/
structure DM (P : Program) (w : World) (K : PySem.W.Frag) (mg : Str → Option Value) (base : Heap) (k : Nat) (C m : Str) (ps : List Str) (dvs : List V) (sp : Sp) : Prop where
  ex : ∃ (fd : FuncData) (ds : List Value), FnOk P w K mg base CX0 k (He.ma K (He.ga K C) m) fd ps sp ∧ Meth K (He.ga K C) m (He.ma K (He.ga K C) m) ∧ Cls K (He.ga K C) ∧ Binds K fd ps ds ∧ Vals dvs ds
structure DN (P : Program) (w : World) (K : PySem.W.Frag) (mg : Str → Option Value) (base : Heap) (k : Nat) (C : Str) (ps : List Str) (dvs : List V) (sp : Sp) : Prop where
  ex : ∃ (fd : FuncData) (ds : List Value), FnOk P w K mg base CX0 k (He.ma K (He.ga K C) "__init__") fd ps sp ∧ Mk K (He.ga K C) (He.ma K (He.ga K C) "__init__") ∧ mg C = some (.ref (He.ga K C)) ∧ Binds K fd ps ds ∧ Vals dvs ds
structure DNK (P : Program) (w : World) (K : PySem.W.Frag) (mg : Str → Option Value) (base : Heap) (k : Nat) (C : Str) (ps : List Str) (n : Nat) (ks : List Str) (tp : List (Nat × Nat)) (dvs : List V) (sp : Sp) : Prop where
  ex : ∃ (fd : FuncData) (ds : List Value), FnOk P w K mg base CX0 k (He.ma K (He.ga K C) "__init__") fd ps sp ∧ Mk K (He.ga K C) (He.ma K (He.ga K C) "__init__") ∧ mg C = some (.ref (He.ga K C)) ∧
    KBn K fd ps (n + 1) ks (fun us ws => pick .none tp us ws ds) (fun vs zs => pick .non tp vs zs dvs)
section
variable {X : Cx} {k j n : Nat} {ps ks : List Str} {sp : Sp} {dvs : List V} {C m x : Str} {p pos apos : Pos} {o e : Expr} {es : List Expr} {kws : List Keyword} {ta : TE} {t tk : TA} {tp : List (Nat × Nat)} {pl : Sem Bool}
theorem pmake (D : DN X.prog X.w X.K X.mg X.base k x ps dvs sp) (hr : Room j X.A) (ha : PA X (e :: es) t) (hj : k + 1 ≤ j := by first | decide | exact Nat.le_refl _ | omega) (hg : Gl X x := by rfl) (hdb : (x == ("__debug__" : Str)) = false := by decide)
    (he : starEach (e :: es) X.env = (false, eval e X.env) :: starEach es X.env := by rfl) (hpl : (backTo pos (starEach es X.env)).any (·.1) = false := by rfl) :
    PE X (.Call (.Name x p) (e :: es) [] pos) (tMake (He.ga X.K x) sp dvs E0 t) := by
  obtain ⟨fd, ds, F, M, hm, hb, hd⟩ := D.ex
  exact pe_make M F (hr.mono hj) hg hm hb hd pass0 ha hdb he hpl
theorem pmakeK (D : DNK X.prog X.w X.K X.mg X.base k x ps n ks tp dvs sp) (hr : Room j X.A) (ha : PA X (e :: es) t) (hkw : PK X kws tk) (hj : k + 1 ≤ j := by first | decide | exact Nat.le_refl _ | omega) (hg : Gl X x := by rfl)
    (h1 : (backToKw pos (keywordEach kws X.env)).all (·.1.isSome) = true := by rfl) (h2 : (backToKw pos (keywordEach kws X.env)).filterMap (·.1) = ks := by rfl) (h3 : (x == ("__debug__" : Str)) = false := by decide)
    (h4 : starEach (e :: es) X.env = (false, eval e X.env) :: starEach es X.env := by rfl) (h5 : ((backTo pos (starEach (e :: es) X.env)).any (·.1) || (backToKw pos (keywordEach kws X.env)).any (·.1.isNone)) = false := by rfl) :
    PE X (.Call (.Name x p) (e :: es) kws pos) (tMakeK (He.ga X.K x) n ks.length sp (fun vs zs => pick .non tp vs zs dvs) E0 t tk) := by
  obtain ⟨fd, ds, F, M, hm, hb⟩ := D.ex
  exact pe_makeK M F (hr.mono hj) hg hm hb pass0 ha hkw h1 h2 h3 h4 h5
theorem pmakeK0 (D : DNK X.prog X.w X.K X.mg X.base k x ps 0 ks tp dvs sp) (hr : Room j X.A) (hkw : PK X kws tk) (hj : k + 1 ≤ j := by first | decide | exact Nat.le_refl _ | omega) (hg : Gl X x := by rfl)
    (h1 : (backToKw pos (keywordEach kws X.env)).all (·.1.isSome) = true := by rfl) (h2 : (backToKw pos (keywordEach kws X.env)).filterMap (·.1) = ks := by rfl) (h3 : (x == ("__debug__" : Str)) = false := by decide)
    (h5 : ((backTo pos (starEach [] X.env)).any (·.1) || (backToKw pos (keywordEach kws X.env)).any (·.1.isNone)) = false := by rfl) :
    PE X (.Call (.Name x p) [] kws pos) (tMakeK (He.ga X.K x) 0 ks.length sp (fun vs zs => pick .non tp vs zs dvs) E0 tNil tk) := by
  obtain ⟨fd, ds, F, M, hm, hb⟩ := D.ex
  exact pe_makeK0 M F (hr.mono hj) hg hm hb pass0 hkw h1 h2 h3 h5
theorem pmeth (D : DM X.prog X.w X.K X.mg X.base k C m ps dvs sp) (hr : Room j X.A) (he : PE X o ta) (ha : PA X (e :: es) t) (hj : k ≤ j := by first | decide | exact Nat.le_refl _ | omega)
    (h1 : starEach (e :: es) X.env = (false, eval e X.env) :: starEach es X.env := by rfl) (h2 : (backTo pos (starEach es X.env)).any (·.1) = false := by rfl)
    (h3 : eval (.Call (.Attribute o m apos) (e :: es) [] pos) X.env = (eval o X.env >>= fun ov => standAt apos.atName >>= fun _ => holding [ov] (getMethod ov m pl) >>= fun q =>
      callWith pos q.1 q.2 (backTo pos (starEach (e :: es) X.env)) (backToKw pos (keywordEach [] X.env))) := by rfl) :
    PE X (.Call (.Attribute o m apos) (e :: es) [] pos) (tMeth (He.ga X.K C) m sp dvs E0 ta t) := by
  obtain ⟨fd, ds, F, M, c, hb, hd⟩ := D.ex
  exact pe_meth he c M F (hr.mono hj) hb hd pass0 ha h1 h2 h3
theorem pmeth0 (D : DM X.prog X.w X.K X.mg X.base k C m ps dvs sp) (hr : Room j X.A) (he : PE X o ta) (hj : k ≤ j := by first | decide | exact Nat.le_refl _ | omega)
    (h3 : eval (.Call (.Attribute o m apos) [] [] pos) X.env = (eval o X.env >>= fun ov => standAt apos.atName >>= fun _ => holding [ov] (getMethod ov m pl) >>= fun q =>
      callWith pos q.1 q.2 (backTo pos (starEach [] X.env)) (backToKw pos (keywordEach [] X.env))) := by rfl) :
    PE X (.Call (.Attribute o m apos) [] [] pos) (tMeth (He.ga X.K C) m sp dvs E0 ta tNil) := by
  obtain ⟨fd, ds, F, M, c, hb, hd⟩ := D.ex
  exact pe_meth0 he c M F (hr.mono hj) hb hd pass0 h3
end
/-! ### rules with the written part by its own name -/
section
variable {X : Cx} {K : PySem.W.Frag} {o value : Expr} {f : Str} {ta tv : TE} {pos p2 : Pos}
theorem psFld (ha : PE X o ta) (hv : PE X value tv) (hs : swapsWith value (some (.Attribute o f p2)) pos.line X.env = pure false) (h : X.K = K := by rfl) : PS X (.Assign [.Attribute o f p2] value pos) (sFld K ta tv f) := by
  subst h
  exact ps_fld ha hv hs
theorem psFldAug {op : Operator} {rd : V → V → Hp → VK → Prop} (ha : PE X o ta) (hv : PE X value tv) (hop : InOp X op rd) (h : X.K = K := by rfl) : PS X (.AugAssign (.Attribute o f p2) op value pos) (sFldAug K ta tv rd f) := by
  subst h
  exact ps_fldaug ha hv hop
def rDictP (K : PySem.W.Frag) : List V → Hp → VK → Prop := fun xs H Q => ∃ (a : Addr) (ps : List Addr) (kvs : List (Key × V)), xs = [.ref a] ∧ SqL K H a (ps.map V.ref) ∧ Paired (fun p kv => SqT K H p [kV kv.1, kv.2]) ps kvs ∧ ∀ p, H p = none → Q (.ref p) (upd H p (.dK (mergeK [] kvs)))
theorem clDictP (hc : X.calm = true := by rfl) (h : X.K = K := by rfl) : CallR X (.type "dict") (rDictP K) := by subst h; exact call_dictP hc
end
/-! ### steps -/
section
variable {K : PySem.W.Frag} {σ : L2.St} {H : Hp} {Q : VK} {ta tv : TE} {x v : V} {nx bk ct : L2.St → Hp → Prop} {rt : VK} {C a dx : Addr} {f m : Str} {fs : List (Str × V)}
/-- what an instance's field asks -/
def gFld (K : PySem.W.Frag) (f : Str) (x : V) (H : Hp) (Q : VK) : Prop := ∃ a C dx fs v, x = .ref a ∧ H a = some (.ins C dx fs) ∧ Cls K C ∧ NoAttr K C f ∧ fs.lookup f = some v ∧ Q v H
theorem w_fldE (q : ta σ H fun x H1 => gFld K f x H1 Q) : tFld K ta f σ H Q := q
theorem w_fld (c : Cls K C) (n : NoAttr K C f) (h : H a = some (.ins C dx fs)) (l : fs.lookup f = some v) (q : Q v H) : gFld K f (.ref a) H Q := ⟨a, C, dx, fs, v, rfl, h, c, n, l, q⟩
def gSFld (K : PySem.W.Frag) (f : Str) (x y : V) (H : Hp) (Z : Hp → Prop) : Prop := ∃ a C dx fs, x = .ref a ∧ H a = some (.ins C dx fs) ∧ Cls K C ∧ NoAttr K C f ∧ fs.length < 1000 ∧ Z (upd H a (.ins C dx (putF f y fs)))
theorem w_sfldE (q : tv σ H fun y H1 => ta σ H1 fun x H2 => gSFld K f x y H2 fun H3 => nx σ H3) : sFld K ta tv f ⟨nx, rt, bk, ct⟩ σ H := q
theorem w_sfld {Z : Hp → Prop} (c : Cls K C) (n : NoAttr K C f) (h : H a = some (.ins C dx fs)) (l : fs.length < 1000) (q : Z (upd H a (.ins C dx (putF f v fs)))) : gSFld K f (.ref a) v H Z := ⟨a, C, dx, fs, rfl, h, c, n, l, q⟩
theorem w_make {sp : Sp} {dvs : List V} {E : XK} {t : TA} (q : t σ H fun vs H1 => ∀ x dx, H1 x = none → H1 dx = none → dx ≠ x →
  sp (.ref x :: (vs ++ dvs)) (upd (upd H1 dx (.own x)) x (.ins C dx [])) (fun v H2 => v = .non ∧ Q (.ref x) H2) E) : tMake C sp dvs E t σ H Q := q
theorem w_makeK {n m : Nat} {sp : Sp} {gV : List V → List V → List V} {E : XK} {t tk : TA} (q : t σ H fun vs H1 => tk σ H1 fun zs H2 => vs.length = n ∧ zs.length = m ∧ ∀ x dx, H2 x = none → H2 dx = none → dx ≠ x →
  sp (gV (.ref x :: vs) zs) (upd (upd H2 dx (.own x)) x (.ins C dx [])) (fun v H3 => v = .non ∧ Q (.ref x) H3) E) : tMakeK C n m sp gV E t tk σ H Q := q
def gMeth (C : Addr) (m : Str) (x : V) (H : Hp) (P : Prop) : Prop := (∃ a dx fs, x = .ref a ∧ H a = some (.ins C dx fs) ∧ fs.lookup m = none) ∧ P
theorem w_meth {sp : Sp} {dvs : List V} {E : XK} {t : TA} (q : ta σ H fun x H1 => ∃ a dx fs, x = .ref a ∧ H1 a = some (.ins C dx fs) ∧ fs.lookup m = none ∧ t σ H1 fun vs H2 => sp (x :: (vs ++ dvs)) H2 Q E) : tMeth C m sp dvs E ta t σ H Q := q
end
end R

namespace R
open PySem PySem.Spec PyProof.Rows L2
/-! ### the head's facts with one more of the written part -/
def obsEG (n : Nat) (fa : List He.Fa) (fn : List He.DefD) (ex : PySem.W.Frag → Bool) (g : Addr → Option Obj) : He.AlD × Bool := (He.obsDG n fa fn g, ex (He.frG g (He.asD g n)))
def hookE (n : Nat) (fa : List He.Fa) (fn : List He.DefD) (ex : PySem.W.Frag → Bool) : PySem.W.Hook where
  α := He.AlD × Bool
  obs := fun s => obsEG n fa fn ex s.heap.get?
  val := fun _ => (He.valD fn, true)
  says := fun _ h => ∃ K : PySem.W.Frag, K.In h ∧ He.SaysD fa fn K ∧ ex K = true
  of := fun _ _ e => ⟨_, He.frG_in, congrArg Prod.fst e, congrArg Prod.snd e⟩
  keeps := fun _ _ _ ⟨K, hK, c⟩ k => ⟨K, PySem.W.Frag.In.keeps hK k, c⟩
theorem obsEG_eq {n : Nat} {fa : List He.Fa} {fn : List He.DefD} {ex : PySem.W.Frag → Bool} {g : Addr → Option Obj} {s : Shared} (h : ∀ a, g a = s.heap.get? a) : obsEG n fa fn ex g = (hookE n fa fn ex).obs s := by
  have e : g = s.heap.get? := funext h
  rw [e] <;> rfl
def eqV2 (a b : Option (Option Value)) : Bool := decide (a = b)
/-- what isinstance asks of an own class -/
def insB (K : PySem.W.Frag) (C : Str) : Bool := eqV2 (PySem.W.findIn K (.ref (He.ga K C)) "__class__") (some (some (.builtin "object.__class__"))) &&
  (eqV2 (PySem.W.specialIn K (.builtin "object.__class__") "__get__") (some (some (.builtin "getset_descriptor.__get__"))) &&
  (decide (PySem.W.takesIn K (.builtin "object.__class__") = some true) && (decide (PySem.W.mroIn K (He.ga K C) (.type "object") = some true) && decide (PySem.W.kitOne K (.ref (He.ga K C)) (.ref (He.ga K C)) = some true))))
theorem insB_ok {K : PySem.W.Frag} {C : Str} (c : Cls K (He.ga K C)) (h : insB K C = true) : C8.InsC K (He.ga K C) := by
  unfold insB at h
  simp only [Bool.and_eq_true, eqV2, decide_eq_true_eq] at h
  obtain ⟨h1, h2, h3, h4, h5⟩ := h
  exact ⟨c, h1, h2, h3, h4, h5⟩
/-- a class's own function for a special name -/
def spcB (K : PySem.W.Frag) (C m : Str) : Bool := eqV2 (PySem.W.findIn K (.ref (He.ga K C)) m) (some (some (.ref (He.ma K (He.ga K C) m)))) && PySem.W.isFn K (.ref (He.ma K (He.ga K C) m))
structure Spc (K : PySem.W.Frag) (C m : Str) : Prop where
  s : PySem.W.findIn K (.ref (He.ga K C)) m = some (some (.ref (He.ma K (He.ga K C) m)))
  f : PySem.W.isFn K (.ref (He.ma K (He.ga K C) m)) = true
theorem spcB_ok {K : PySem.W.Frag} {C m : Str} (h : spcB K C m = true) : Spc K C m := by
  unfold spcB at h
  simp only [Bool.and_eq_true, eqV2, decide_eq_true_eq] at h
  exact ⟨h.1, h.2⟩
section
variable {X : Cx} {K : PySem.W.Frag} {k : Nat} {C : Str} {ps : List Str} {sp : Sp}
def rIsC (K : PySem.W.Frag) (C : Str) : List V → Hp → VK → Prop := fun xs H Q => ∃ a dx fs, xs = [.ref a, .ref (He.ga K C)] ∧ H a = some (.ins (He.ga K C) dx fs) ∧ Q (.bl true) H
theorem clIsC (c : C8.InsC X.K (He.ga X.K C)) : CallR X (.builtin "isinstance") (rIsC X.K C) := C8.call_isC c
def aftI (Q : VK) : VK := fun v H2 => ∃ n : Int, v = .int n ∧ (0 ≤ n ∧ n < 2 ^ 63) ∧ Q (.int n) H2
def aftB (Q : VK) : VK := fun v H2 => ∃ k : Bool, v = .bl k ∧ Q (.bl k) H2
/-- len(x) by an own __len__ -/
def rLenO (C : Addr) (sp : Sp) : List V → Hp → VK → Prop := fun xs H Q => ∃ a dx fs, xs = [.ref a] ∧ H a = some (.ins C dx fs) ∧ sp [.ref a] H (aftI Q) E0
theorem clLenO (D : DM X.prog X.w X.K X.mg X.base k C "__len__" ps [] sp) {j : Nat} (hr : Room j X.A) (hj : k + 1 ≤ j) : CallR X (.builtin "len") (rLenO (He.ga X.K C) sp) := by
  obtain ⟨fd, ds, F, c, _, hb, hv⟩ := D.ex
  cases hv
  intro pins s σ H xs us Q I r h
  obtain ⟨a, dx, fs, rfl, ha, q⟩ := h
  rw [Vals.ref1 r]
  obtain ⟨mA, J, _⟩ := ins_get I.hok ha
  obtain ⟨od, J, _⟩ := J.look
  obtain ⟨m, hF⟩ := I.fr
  refine PySem.W.len_K hF I.ok.mod.kin J c.at_ c.fn ?_
  have e0 : Env0 X.prog X.w X.K X.mg X.base X.A.in1 X.stack s H := by
    have e := I.env0
    exact ⟨e.frames, e.mod, e.bs, e.bsz, e.funs, e.frf, e.hok, e.bare⟩
  have hl := F.len _ _ _ _ q
  refine wpAny_call (codeAny_mono (F.run X.A.in1 X.stack s H ⟨[.ref a], []⟩ [.ref a] [.ref a] _ E0 (hr.mono hj).in1 e0 (by
    have := hb s [.ref a] I.kIn (by simpa using hl)
    simpa using this) (.cons rfl .nil) q) fun r s' hq => ?_)
  cases r with
  | error e => exact pass0 pins σ H s e s' I hq
  | ok fl =>
    cases fl with
    | ret w =>
      obtain ⟨z, H', I', rz, n, ez, hn, q⟩ := I.after hq
      subst ez
      obtain ⟨t, rfl⟩ := rz
      exact ⟨hn, .int n, H', I'.tok _, ⟨_, rfl⟩, q⟩
    | next => exact False.elim hq
    | brk => exact False.elim hq
    | cont => exact False.elim hq
/-- x == y of two own instances by an own __eq__ -/
def rEqO (C : Addr) (sp : Sp) : R2 := fun x y H Q => ∃ a b dx dy fs gs, x = .ref a ∧ y = .ref b ∧ H a = some (.ins C dx fs) ∧ H b = some (.ins C dy gs) ∧ sp [.ref a, .ref b] H (aftB Q) E0
theorem opEqO (D : DM X.prog X.w X.K X.mg X.base k C "__eq__" ps [] sp) {j : Nat} (hr : Room j X.A) (hj : k ≤ j) : OpR X (compareOp .Eq) (rEqO (He.ga X.K C) sp) := by
  obtain ⟨fd, ds, F, c, _, hb, hv⟩ := D.ex
  cases hv
  intro pins s σ H x y u v Q I rx ry h
  obtain ⟨a, b, dx, dy, fs, gs, rfl, rfl, ha, hb', q⟩ := h
  cases rx
  cases ry
  obtain ⟨mA, J, _⟩ := ins_get I.hok ha
  obtain ⟨mB, J', _⟩ := ins_get I.hok hb'
  obtain ⟨od, J, _⟩ := J.look
  obtain ⟨od', J', _⟩ := J'.look
  obtain ⟨m, hF⟩ := I.fr
  show wpAny (model X.prog X.w) X.A (richCompare .Eq (.ref a) (.ref b)) (EP X pins σ Q) X.xe s
  refine PySem.W.cmp_K (op := .Eq) (tb := .ref (He.ga X.K C)) hr.units0 hF I.ok.mod.kin J J'.type (by simp [PySem.W.notFirst]) c.at_ c.fn ?_
  have hl := F.len _ _ _ _ q
  refine wpAny_call (codeAny_mono (F.run X.A X.stack s H ⟨[.ref a, .ref b], []⟩ [.ref a, .ref b] [.ref a, .ref b] _ E0 (hr.mono hj) I.env0 (by
    have := hb s [.ref a, .ref b] I.kIn (by simpa using hl)
    simpa using this) (.cons rfl (.cons rfl .nil)) q) fun r s' hq => ?_)
  cases r with
  | error e => exact pass0 pins σ H s e s' I hq
  | ok fl =>
    cases fl with
    | ret w =>
      obtain ⟨z, H', I', rz, n, ez, q⟩ := I.after hq
      subst ez
      cases rz
      exact ⟨.bl n, H', I', rfl, q⟩
    | next => exact False.elim hq
    | brk => exact False.elim hq
    | cont => exact False.elim hq
end
section
variable {K : PySem.W.Frag} {H : Hp} {Q : VK} {C : Str} {c : Addr} {a b dx dy : Addr} {fs gs : List (Str × V)} {sp : Sp}
theorem n_isC (h : H a = some (.ins (He.ga K C) dx fs)) (q : Q (.bl true) H) : rIsC K C [.ref a, .ref (He.ga K C)] H Q := ⟨a, dx, fs, rfl, h, q⟩
theorem n_lenO (h : H a = some (.ins c dx fs)) (q : sp [.ref a] H (aftI Q) E0) : rLenO c sp [.ref a] H Q := ⟨a, dx, fs, rfl, h, q⟩
theorem n_eqO (h : H a = some (.ins c dx fs)) (h' : H b = some (.ins c dy gs)) (q : sp [.ref a, .ref b] H (aftB Q) E0) : rEqO c sp (.ref a) (.ref b) H Q := ⟨a, b, dx, dy, fs, gs, rfl, rfl, h, h', q⟩
end
end R

namespace R
open PySem L2
/-! ### instances in a reading -/
def mthG (C : Addr) (m : Str) (x : V) (H : Hp) (P : Prop) : Prop := (∃ a dx fs, x = .ref a ∧ H a = some (.ins C dx fs) ∧ fs.lookup m = none) ∧ P
def aftG (Q : VK) (x : Addr) : VK := fun v H2 => v = .non ∧ Q (.ref x) H2
def makG (C : Addr) (sp : Sp) (ws : List V) (E : XK) (H : Hp) (Q : VK) : Prop := ∀ x dx, H x = none → H dx = none → dx ≠ x → sp (.ref x :: ws) (upd (upd H dx (.own x)) x (.ins C dx [])) (aftG Q x) E
section
variable {K : PySem.W.Frag} {M : List Addr} {F0 H0 F H : Hp} {L Rs : List Own} {σ : L2.St} {Q : VK} {ta : TE} {v : V} {nx bk ct : L2.St → Hp → Prop} {rt : VK} {C a dx : Addr} {f m : Str} {fs : List (Str × V)}
theorem n_fld (h : H a = some (.ins C dx fs)) (l : fs.lookup f = some v) (c : Cls K C) (n : NoAttr K C f) (q : Q v H) : gFld K f (.ref a) H Q := w_fld c n h l q
theorem n_sfld {Z : Hp → Prop} (w : W M F0 H0 F H L) (k : Pick L [mu a (.ins C dx fs)] Rs) (c : Cls K C) (n : NoAttr K C f) (l : fs.length < 1000) (q : ∀ H2, W M F0 H0 F H2 (mu a (.ins C dx (putF f v fs)) :: Rs) → Z H2) : gSFld K f (.ref a) v H Z :=
  w_sfld c n ((w.to k).at_ (List.mem_singleton.mpr rfl)) l (q _ (w.wr k))
theorem x_meth {sp : Sp} {dvs : List V} {E : XK} {t : TA} (q : ta σ H fun x H1 => mthG C m x H1 (t σ H1 fun vs H2 => sp (x :: (vs ++ dvs)) H2 Q E)) : tMeth C m sp dvs E ta t σ H Q := by
  refine w_meth ?_
  refine cast ?_ q
  congr 1
  funext x H1
  unfold mthG
  refine propext ⟨?_, ?_⟩
  · rintro ⟨⟨a, dx, fs, h1, h2, h3⟩, h4⟩
    exact ⟨a, dx, fs, h1, h2, h3, h4⟩
  · rintro ⟨a, dx, fs, h1, h2, h3, h4⟩
    exact ⟨⟨a, dx, fs, h1, h2, h3⟩, h4⟩
theorem n_meth {P : Prop} (h : H a = some (.ins C dx fs)) (l : fs.lookup m = none) (q : P) : mthG C m (.ref a) H P := ⟨⟨a, dx, fs, rfl, h, l⟩, q⟩
theorem x_make {sp : Sp} {dvs : List V} {E : XK} {t : TA} (q : t σ H fun vs H1 => makG C sp (vs ++ dvs) E H1 Q) : tMake C sp dvs E t σ H Q := q
theorem n_make {sp : Sp} {ws : List V} {E : XK} (w : W M F0 H0 F H L) (q : ∀ x dx H2, W M F0 H0 F H2 (mu x (.ins C dx []) :: mu dx (.own x) :: L) → H0 x = none → sp (.ref x :: ws) H2 (aftG Q x) E) : makG C sp ws E H Q := by
  intro x dx nx ndx hne
  have w1 := w.nw (u := .own x) ndx
  have nx1 : upd H dx (.own x) x = none := by rw [upd_ne hne.symm]; exact nx
  exact q x dx _ (w1.nw (u := .ins C dx []) nx1) (w.g.fresh nx)
end
/-! ### rows of a change -/
inductive CRow where
  | put (s : Str)
  | copy (a n : Nat)
def CRow.d : CRow → PyData
  | .put s => .tuple [.str "put", .str s]
  | .copy a n => .tuple [.str "copy", .int a, .int n]
def CRow.gives : CRow → Nat
  | .put s => s.length
  | .copy _ n => n
def CRow.hi : CRow → Nat
  | .put _ => 0
  | .copy a n => a + n
def CRow.sOk : CRow → Prop
  | .put s => okS s ∧ s.length ≤ 1000
  | .copy _ _ => True
structure CRowOk (size : Nat) (r : CRow) : Prop where
  s : r.sOk
  p : 1 ≤ r.gives
  h : r.hi ≤ size
abbrev givesL (rows : List CRow) : Nat := (rows.map CRow.gives).sum
structure RowsOk (size : Nat) (rows : List CRow) : Prop where
  ok : ∀ r ∈ rows, CRowOk size r
  sum : givesL rows ≤ 400
theorem rows_len : ∀ {rows : List CRow}, (∀ r ∈ rows, 1 ≤ r.gives) → rows.length ≤ givesL rows
  | [], _ => Nat.le_refl _
  | r :: rows, h => by
    have ih := rows_len (rows := rows) fun q hq => h q (List.mem_cons_of_mem _ hq)
    have h1 := h r (List.mem_cons_self ..)
    show rows.length + 1 ≤ r.gives + givesL rows
    omega
theorem RowsOk.len {size : Nat} {rows : List CRow} (h : RowsOk size rows) : rows.length ≤ 400 := Nat.le_trans (rows_len fun r hr => (h.ok r hr).p) h.sum
section
variable {K : PySem.W.Frag} {F : Hp} {x : V}
theorem dp_cput {s : Str} (h : Dp K F x (CRow.put s).d) : ∃ a, x = .ref a ∧ SqT K F a [.str "put", .str s] := by
  obtain ⟨a, vs, rfl, hs, h0⟩ := dp_tup h
  obtain ⟨v1, us, rfl, h1, h0⟩ := dpa_cons h0
  obtain ⟨v2, us, rfl, h2, h0⟩ := dpa_cons h0
  cases dpa_nil h0
  rw [dp_str h1, dp_str h2] at hs
  exact ⟨a, rfl, hs⟩
theorem dp_ccopy {a n : Nat} (h : Dp K F x (CRow.copy a n).d) : ∃ p, x = .ref p ∧ SqT K F p [.str "copy", .int a, .int n] := by
  obtain ⟨a, v1, v2, v3, rfl, hs, h1, h2, h3⟩ := dp_tup3 h
  rw [dp_str h1, dp_int h2, dp_int h3] at hs
  exact ⟨a, rfl, hs⟩
theorem dp_cput' {p : Addr} {s : Str} (h : SqT K F p [.str "put", .str s]) : Dp K F (.ref p) (CRow.put s).d := .tup h (.cons (.str _) (.cons (.str _) .nil))
theorem dp_ccopy' {p : Addr} {a n : Nat} (h : SqT K F p [.str "copy", .int a, .int n]) : Dp K F (.ref p) (CRow.copy a n).d := .tup h (.cons (.str _) (.cons (.int _) (.cons (.int _) .nil)))
end
theorem crow_good {m : CRow} (h : m.sOk) : good m.d = true ∧ m.d.depth ≤ 1 := by
  cases m with
  | put s =>
    constructor
    · refine good_tuple (by simp) fun d hd => ?_
      simp only [List.mem_cons, List.not_mem_nil, or_false] at hd
      rcases hd with rfl | rfl
      · decide +kernel
      · exact str_good h.1 (Nat.le_trans h.2 (by decide))
    · refine depth_tuple fun d hd => ?_
      simp only [List.mem_cons, List.not_mem_nil, or_false] at hd
      rcases hd with rfl | rfl <;> exact Nat.le_refl _
  | copy a n =>
    constructor
    · refine good_tuple (by simp) fun d hd => ?_
      simp only [List.mem_cons, List.not_mem_nil, or_false] at hd
      rcases hd with rfl | rfl | rfl
      · decide +kernel
      · rfl
      · rfl
    · refine depth_tuple fun d hd => ?_
      simp only [List.mem_cons, List.not_mem_nil, or_false] at hd
      rcases hd with rfl | rfl | rfl <;> exact Nat.le_refl _
theorem crows_good {ms : List CRow} (h : ∀ m ∈ ms, m.sOk) (hl : ms.length ≤ 100000) : good (.list (ms.map CRow.d)) = true ∧ (PyData.list (ms.map CRow.d)).depth ≤ 2 := by
  constructor
  · refine good_list (by rw [List.length_map]; exact hl) fun d hd => ?_
    obtain ⟨r, hr, rfl⟩ := List.mem_map.mp hd
    exact (crow_good (h r hr)).1
  · refine depth_list fun d hd => ?_
    obtain ⟨r, hr, rfl⟩ := List.mem_map.mp hd
    exact (crow_good (h r hr)).2
/-- a change that stays -/
def insC (C dx r : Addr) (n : Nat) : HO := .ins C dx [("size", .int (n : Nat)), ("rows", .ref r)]
def Chg (K : PySem.W.Frag) (F : Hp) (x : V) (n : Nat) (rows : List CRow) : Prop := ∃ c dx r vs, x = .ref c ∧ F c = some (insC (He.ga K "Change") dx r n) ∧ F r = some (.lst vs) ∧ DpAll K F vs (rows.map CRow.d)
theorem Chg.same {K : PySem.W.Frag} {F F2 : Hp} {x : V} {n : Nat} {rows : List CRow} (s : Same F F2) (h : Chg K F x n rows) : Chg K F2 x n rows := by
  obtain ⟨c, dx, r, vs, e, h1, h2, h3⟩ := h
  exact ⟨c, dx, r, vs, e, s _ _ h1, s _ _ h2, dpa_same s _ _ h3⟩
def chg (K : PySem.W.Frag) (x : V) (n : Nat) (rows : List CRow) : Own := pur (fun F => Chg K F x n rows) fun s h => h.same s
/-! ### moves of a change -/
def movesGo : Nat → List CRow → List Mv
  | _, [] => []
  | to, .put s :: r => .put to s :: movesGo (to + s.length) r
  | to, .copy a n :: r => if a = to then movesGo (to + n) r else .copy to a n :: movesGo (to + n) r
theorem moves_snoc : ∀ (l : List CRow) (to : Nat) (r : CRow), movesGo to (l ++ [r]) = movesGo to l ++ movesGo (to + givesL l) [r]
  | [], to, r => rfl
  | .put s :: l, to, r => by
    show Mv.put to s :: movesGo (to + s.length) (l ++ [r]) = Mv.put to s :: movesGo (to + s.length) l ++ movesGo (to + (s.length + givesL l)) [r]
    rw [moves_snoc l, List.cons_append, Nat.add_assoc]
  | .copy a n :: l, to, r => by
    show (if a = to then movesGo (to + n) (l ++ [r]) else .copy to a n :: movesGo (to + n) (l ++ [r])) = (if a = to then movesGo (to + n) l else .copy to a n :: movesGo (to + n) l) ++ movesGo (to + (n + givesL l)) [r]
    rw [moves_snoc l, Nat.add_assoc]
    split <;> rfl
theorem moves_take {rows : List CRow} {i : Nat} {r : CRow} (h : rows[i]? = some r) : movesGo 0 (rows.take (i + 1)) = movesGo 0 (rows.take i) ++ movesGo (givesL (rows.take i)) [r] := by
  rw [List.take_add_one, h]
  show movesGo 0 (rows.take i ++ [r]) = _
  rw [moves_snoc, Nat.zero_add]
theorem gives_take {rows : List CRow} {i : Nat} {r : CRow} (h : rows[i]? = some r) : givesL (rows.take (i + 1)) = givesL (rows.take i) + r.gives := by
  unfold givesL
  rw [List.take_add_one, h, List.map_append, List.sum_append]
  rfl
theorem gives_le (rows : List CRow) (i : Nat) : givesL (rows.take i) ≤ givesL rows := by
  have := List.sum_append (l₁ := (rows.take i).map CRow.gives) (l₂ := (rows.drop i).map CRow.gives)
  rw [← List.map_append, List.take_append_drop] at this
  show ((rows.take i).map CRow.gives).sum ≤ (rows.map CRow.gives).sum
  omega
theorem moves_len : ∀ (rows : List CRow) (to : Nat), (movesGo to rows).length ≤ rows.length
  | [], _ => Nat.le_refl _
  | .put s :: r, to => Nat.succ_le_succ (moves_len r _)
  | .copy a n :: r, to => by
    show (if a = to then movesGo (to + n) r else .copy to a n :: movesGo (to + n) r).length ≤ r.length + 1
    have := moves_len r (to + n)
    split
    · omega
    · exact Nat.succ_le_succ this
/-- the moves lie in a room as great as the greater text, no cell is written twice -/
theorem moves_ok {size : Nat} : ∀ (rows : List CRow) (to : Nat), (∀ r ∈ rows, CRowOk size r) → (∀ m ∈ movesGo to rows, MvOk (max size (to + givesL rows)) m ∧ to ≤ m.to) ∧ Apart (movesGo to rows)
  | [], to, _ => ⟨by simp [movesGo], .nil⟩
  | .put s :: r, to, h => by
    have h1 := h _ (List.mem_cons_self ..)
    obtain ⟨i1, i2⟩ := moves_ok r (to + s.length) fun q hq => h q (List.mem_cons_of_mem _ hq)
    have e : to + givesL (.put s :: r) = to + s.length + givesL r := by show to + (s.length + givesL r) = _; omega
    have hs : 1 ≤ s.length := h1.p
    rw [e]
    refine ⟨fun m hm => ?_, ?_⟩
    · rcases List.mem_cons.mp hm with rfl | hm
      · exact ⟨⟨h1.s, h1.p, by show to + s.length ≤ _; omega, Nat.zero_le _⟩, Nat.le_refl _⟩
      · exact ⟨(i1 m hm).1, by have := (i1 m hm).2; omega⟩
    · exact List.pairwise_cons.mpr ⟨fun m hm => .inl (i1 m hm).2, i2⟩
  | .copy a n :: r, to, h => by
    have h1 := h _ (List.mem_cons_self ..)
    obtain ⟨i1, i2⟩ := moves_ok r (to + n) fun q hq => h q (List.mem_cons_of_mem _ hq)
    have e : to + givesL (.copy a n :: r) = to + n + givesL r := by show to + (n + givesL r) = _; omega
    have hs : 1 ≤ n := h1.p
    have hh : a + n ≤ size := h1.h
    rw [e]
    show (∀ m ∈ (if a = to then movesGo (to + n) r else .copy to a n :: movesGo (to + n) r), _) ∧ Apart (if a = to then movesGo (to + n) r else .copy to a n :: movesGo (to + n) r)
    split
    · exact ⟨fun m hm => ⟨(i1 m hm).1, by have := (i1 m hm).2; omega⟩, i2⟩
    · rename_i hne
      refine ⟨fun m hm => ?_, List.pairwise_cons.mpr ⟨fun m hm => .inl (i1 m hm).2, i2⟩⟩
      rcases List.mem_cons.mp hm with rfl | hm
      · exact ⟨⟨Ne.symm hne, h1.p, by show to + n ≤ _; omega, by show a + n ≤ _; omega⟩, Nat.le_refl _⟩
      · exact ⟨(i1 m hm).1, by have := (i1 m hm).2; omega⟩
/-! ### promises -/
def φgives (K : PySem.W.Frag) : V → V → Hp → VK → Prop := fun x y H Q => ∃ (F : Hp) (r : CRow) (n : Nat), y = .int (n : Nat) ∧ Same F H ∧ Dp K F x r.d ∧ CRowOk n r ∧ ∀ F2 H2, W [] F H F2 H2 [] → Q (.int (r.gives : Nat)) H2
def φinit (K : PySem.W.Frag) : V → V → V → Hp → VK → Prop := fun x y z H Q => ∃ (F : Hp) (c dx a : Addr) (vs : List V) (n : Nat) (rows : List CRow), x = .ref c ∧ y = .int (n : Nat) ∧ z = .ref a ∧ St F H [mu c (.ins (He.ga K "Change") dx [])] ∧ SqL K F a vs ∧ DpAll K F vs (rows.map CRow.d) ∧ n ≤ 400 ∧ RowsOk n rows ∧
  ∀ r F2 H2, H r = none → W [c] F H F2 H2 [mu c (insC (He.ga K "Change") dx r n), mu r (.lst vs)] → Q .non H2
def φmoves_of (K : PySem.W.Frag) : V → Hp → VK → Prop := fun x H Q => ∃ (F : Hp) (n : Nat) (rows : List CRow), Same F H ∧ Chg K F x n rows ∧ RowsOk n rows ∧
  ∀ p ys F2 H2, H p = none → W [] F H F2 H2 [mu p (.lst ys), dpa K ys ((movesGo 0 rows).map Mv.d)] → Q (.ref p) H2
def φlmoves_of (K : PySem.W.Frag) : V → Hp → VK → Prop := fun x H Q => ∃ (F : Hp) (a : Addr) (vs : List V) (n : Nat) (rows : List CRow), x = .ref a ∧ Same F H ∧ SqL K F a vs ∧ DpAll K F vs (rows.map CRow.d) ∧ RowsOk n rows ∧
  ∀ p ys F2 H2, H p = none → W [] F H F2 H2 [mu p (.lst ys), dpa K ys ((movesGo 0 rows).map Mv.d)] → Q (.ref p) H2
/-- the making of a change -/
theorem c_init {K : PySem.W.Frag} {M : List Addr} {F0 H0 F H : Hp} {L Rs : List Own} {Q : VK} {E : XK} {c dx a : Addr} {vs : List V} {n : Nat} {rows : List CRow} (w : W M F0 H0 F H L) (k : Pick L [mu c (.ins (He.ga K "Change") dx [])] Rs) (hc : H0 c = none) (hs : SqL K F a vs) (hd : DpAll K F vs (rows.map CRow.d)) (hn : n ≤ 400) (ok : RowsOk n rows)
    (q : ∀ F2 H2, W M F0 H0 F2 H2 (chg K (.ref c) n rows :: Rs) → Q (.ref c) H2) : S3 (φinit K) [.ref c, .int (n : Nat), .ref a] H (aftG Q c) E := by
  refine ⟨F, c, dx, a, vs, n, rows, rfl, rfl, rfl, w.st k, hs, hd, hn, ok, fun r F2 H2 hr w2 => ⟨rfl, ?_⟩⟩
  have hr' := w.g.fresh hr
  have hd2 := dpa_same w2.ff _ _ hd
  have w := w.cal k w2 (.cons (.cons .nil)) rfl
  have m1 := w.mu (p := c) (List.mem_cons_self ..)
  have w := w.fz (.cons .here .nil) hc
  have hd2 := dpa_same (Same.new (o := insC (He.ga K "Change") dx r n) m1.n) _ _ hd2
  have m2 := w.mu (p := r) (List.mem_cons_self ..)
  have w := w.fz (.cons .here .nil) hr'
  have hd2 := dpa_same (Same.new (o := .lst vs) m2.n) _ _ hd2
  refine q _ _ (w.push _ ⟨c, dx, r, vs, rfl, ?_, upd_same, hd2⟩)
  have hne : c ≠ r := fun e => by
    subst e
    have := m2.n
    rw [upd_same] at this
    cases this
  rw [upd_ne hne, upd_same]
theorem crows_snoc {n : Nat} {rows : List CRow} {r : CRow} (h : ∀ q ∈ rows, CRowOk n q) (hr : CRowOk n r) : ∀ q ∈ rows ++ [r], CRowOk n q := by
  intro q hq
  rcases List.mem_append.mp hq with hq | hq
  · exact h q hq
  · rw [List.mem_singleton.mp hq]
    exact hr
theorem gives_snoc (rows : List CRow) (r : CRow) : givesL (rows ++ [r]) = givesL rows + r.gives := by
  unfold givesL
  rw [List.map_append, List.sum_append]
  rfl
def φcrows (K : PySem.W.Frag) : V → V → V → V → V → Hp → VK → Prop := fun x1 x2 x3 x4 x5 H Q => ∃ (F : Hp) (b : Addr) (n : Nat) (most many wide : Int), x1 = .ref b ∧ x2 = .int (n : Nat) ∧ x3 = .int most ∧ x4 = .int many ∧ x5 = .int wide ∧ St F H [bag K b] ∧ n ≤ 400 ∧ 0 ≤ most ∧ most ≤ 400 ∧ 0 ≤ many ∧ many ≤ 1000 ∧ 1 ≤ wide ∧ wide ≤ 400 ∧
  ∀ p ys rows F2 H2, H p = none → W [b] F H F2 H2 [mu p (.lst ys), dpa K ys (rows.map CRow.d), bag K b] → RowsOk n rows → Q (.ref p) H2
def φmrows (K : PySem.W.Frag) : V → V → V → V → Hp → VK → Prop := fun x1 x2 x3 x4 H Q => ∃ (F : Hp) (b : Addr) (n : Nat) (many other : Int), x1 = .ref b ∧ x2 = .int (n : Nat) ∧ x3 = .int many ∧ x4 = .int other ∧ St F H [bag K b] ∧ n ≤ 400 ∧ 0 ≤ many ∧ many ≤ 1000 ∧ 1 ≤ other ∧ other ≤ 400 ∧
  ∀ p ys rows F2 H2, H p = none → W [b] F H F2 H2 [mu p (.lst ys), dpa K ys (rows.map CRow.d), bag K b] → RowsOk n rows → Q (.ref p) H2
def φchange_of (K : PySem.W.Frag) : V → Hp → VK → Prop := fun x H Q => ∃ (F : Hp) (b : Addr), x = .ref b ∧ St F H [bag K b] ∧
  ∀ t p ys rows (n : Nat) F2 H2, H p = none → W [b] F H F2 H2 [fx t (.tup [.int (n : Nat), .ref p]), mu p (.lst ys), dpa K ys (rows.map CRow.d), bag K b] → n ≤ 400 → RowsOk n rows → Q (.ref t) H2
/-! ### the makers of k01 .. k16 -/
theorem cut_last (xs : List V) : cutV xs (some (-1)) none = xs.drop (xs.length - 1) := by
  unfold cutV
  rw [HT.sIx_none]
  have e : HT.sIx xs.length 0 (some (-1)) = xs.length - 1 := by
    unfold HT.sIx
    simp
    omega
  rw [e]
  exact List.take_of_length_le (by rw [List.length_drop]; exact Nat.le_refl _)
theorem cut_last_snoc (xs : List V) (v : V) : cutV (xs ++ [v]) (some (-1)) none = [v] := by
  rw [cut_last, List.length_append]
  show (xs ++ [v]).drop (xs.length + 1 - 1) = [v]
  rw [Nat.add_sub_cancel, List.drop_left]
def sig93 : Str := "!\"#$&'()*+,-./0123456789:;<=>?@ABCDEFGHIJKLMNOPQRSTUVWXYZ" ++ "[\\]^_`abcdefghijklmnopqrstuvwxyz{|}~"
theorem sig_len : sig93.length = 93 := by decide +kernel
theorem sig_ok : okS sig93 := by decide +kernel
def φsigns : Hp → VK → Prop := fun H Q => Q (.str sig93) H
def φwhole' : V → Hp → VK → Prop := fun x H Q => ∃ i, x = .int i ∧ Q (.bl true) H
/-- the last row at the end of a list, or none -/
def φrow1 (K : PySem.W.Frag) : V → V → V → V → Hp → VK → Prop := fun x1 x2 x3 x4 H Q => ∃ (F : Hp) (b l : Addr) (n : Nat) (left : Int) (zs : List V), x1 = .ref b ∧ x2 = .int (n : Nat) ∧ x3 = .int left ∧ x4 = .ref l ∧ St F H [bag K b] ∧ SqL K F l zs ∧ (zs = [] ∨ ∃ v r, zs = [v] ∧ Dp K F v (CRow.d r) ∧ CRowOk n r) ∧ n ≤ 400 ∧ 1 ≤ left ∧ left ≤ 400 ∧
  ∀ v r F2 H2, W [b] F H F2 H2 [dat K v (CRow.d r), bag K b] → CRowOk n r → (r.gives : Int) ≤ left → Q v H2
def φrows1 (K : PySem.W.Frag) : V → V → V → V → Hp → VK → Prop := fun x1 x2 x3 x4 H Q => ∃ (F : Hp) (b : Addr) (n : Nat) (many most : Int), x1 = .ref b ∧ x2 = .int (n : Nat) ∧ x3 = .int many ∧ x4 = .int most ∧ St F H [bag K b] ∧ n ≤ 400 ∧ 0 ≤ many ∧ many ≤ 1000 ∧ 0 ≤ most ∧ most ≤ 400 ∧
  ∀ p ys rows F2 H2, H p = none → W [b] F H F2 H2 [mu p (.lst ys), dpa K ys (rows.map CRow.d), bag K b] → RowsOk n rows → (givesL rows : Int) ≤ most → Q (.ref p) H2
def φsize1 (K : PySem.W.Frag) : V → Hp → VK → Prop := fun x H Q => ∃ (F : Hp) (b : Addr), x = .ref b ∧ St F H [bag K b] ∧ ∀ (n : Nat) F2 H2, W [b] F H F2 H2 [bag K b] → n ≤ 400 → Q (.int (n : Nat)) H2
/-- len(change) -/
def φclen (K : PySem.W.Frag) : V → Hp → VK → Prop := fun x H Q => ∃ (F : Hp) (n : Nat) (rows : List CRow), Same F H ∧ Chg K F x n rows ∧ rows.length ≤ 100000 ∧ ∀ F2 H2, W [] F H F2 H2 [] → Q (.int (rows.length : Nat)) H2
def CRow.puts : CRow → Nat
  | .put s => s.length
  | .copy _ _ => 0
def costL (p : Int) (rows : List CRow) : Int := p * (rows.length : Nat) + ((rows.map CRow.puts).sum : Nat)
def φcost (K : PySem.W.Frag) : V → V → Hp → VK → Prop := fun x y H Q => ∃ (F : Hp) (n : Nat) (p : Int) (rows : List CRow), y = .int p ∧ Same F H ∧ Chg K F x n rows ∧ RowsOk n rows ∧ 0 ≤ p ∧ p ≤ 1000 ∧ ∀ F2 H2, W [] F H F2 H2 [] → Q (.int (costL p rows)) H2
def φlcost (K : PySem.W.Frag) : V → V → Hp → VK → Prop := fun x y H Q => ∃ (F : Hp) (a : Addr) (vs : List V) (n : Nat) (p : Int) (rows : List CRow), x = .ref a ∧ y = .int p ∧ Same F H ∧ SqL K F a vs ∧ DpAll K F vs (rows.map CRow.d) ∧ RowsOk n rows ∧ 0 ≤ p ∧ p ≤ 1000 ∧ ∀ F2 H2, W [] F H F2 H2 [] → Q (.int (costL p rows)) H2
def φsame (K : PySem.W.Frag) : V → V → V → Hp → VK → Prop := fun x y z H Q => ∃ (F : Hp) (a : Addr) (vs : List V) (n : Nat) (rows : List CRow), y = .int (n : Nat) ∧ z = .ref a ∧ Same F H ∧ SqL K F a vs ∧ DpAll K F vs (rows.map CRow.d) ∧ Chg K F x n rows ∧ RowsOk n rows ∧ ∀ F2 H2, W [] F H F2 H2 [] → Q (.bl true) H2
theorem costL_take {p : Int} {rows : List CRow} {i : Nat} {r : CRow} (h : rows[i]? = some r) : costL p (rows.take (i + 1)) = costL p (rows.take i) + p + (r.puts : Nat) := by
  have hi := (List.getElem?_eq_some_iff.mp h).1
  unfold costL
  rw [List.length_take, List.length_take, Nat.min_eq_left (by omega), Nat.min_eq_left (by omega)]
  have e1 : ((rows.take (i + 1)).map CRow.puts).sum = ((rows.take i).map CRow.puts).sum + r.puts := by
    rw [List.take_add_one, h, List.map_append, List.sum_append]
    rfl
  rw [e1]
  have e : p * ((i + 1 : Nat) : Int) = p * (i : Nat) + p := by rw [Int.natCast_add, Int.mul_add]; simp
  rw [e]
  omega
theorem n_signs {H : Hp} {Q : VK} {E : XK} (q : Q (.str sig93) H) : S0 φsigns ([] ++ []) H Q E := q
end R

namespace R
open PySem PySem.StrLaws Builtin.Str L2
/-! ### stretches of a text, by its signs -/
def segL (N : List Nat) (i j : Nat) : List Nat := (N.drop i).take (j - i)
def inB (O x : List Nat) : Bool := (List.range (O.length + 1)).any fun a => decide (a + x.length ≤ O.length ∧ (O.drop a).take x.length = x)
theorem inB_iff {O x : List Nat} : inB O x = true ↔ ∃ a, a + x.length ≤ O.length ∧ (O.drop a).take x.length = x := by
  unfold inB
  rw [List.any_eq_true]
  constructor
  · rintro ⟨a, _, h⟩
    exact ⟨a, of_decide_eq_true h⟩
  · rintro ⟨a, h1, h2⟩
    exact ⟨a, List.mem_range.mpr (by omega), decide_eq_true ⟨h1, h2⟩⟩
theorem inB_take {O x : List Nat} (n : Nat) (h : inB O x = true) : inB O (x.take n) = true := by
  obtain ⟨a, h1, h2⟩ := inB_iff.mp h
  refine inB_iff.mpr ⟨a, by rw [List.length_take]; omega, ?_⟩
  conv => rhs; rw [← h2]
  rw [List.take_take, List.length_take]
theorem inB_drop {O x : List Nat} (n : Nat) (h : inB O x = true) : inB O (x.drop n) = true := by
  obtain ⟨a, h1, h2⟩ := inB_iff.mp h
  by_cases hn : n ≤ x.length
  · refine inB_iff.mpr ⟨a + n, by rw [List.length_drop]; omega, ?_⟩
    rw [List.length_drop]
    conv => rhs; rw [← h2]
    rw [List.drop_take, List.drop_drop]
  · rw [List.drop_eq_nil_of_le (by omega)]
    exact inB_iff.mpr ⟨0, by simp, rfl⟩
theorem seg_len {N : List Nat} {i j : Nat} (h : j ≤ N.length) : (segL N i j).length = j - i := by
  unfold segL
  rw [List.length_take, List.length_drop]
  omega
theorem in_less {O N : List Nat} {i j : Nat} (h : inB O (segL N i (j + 1)) = true) : inB O (segL N i j) = true := by
  have e : segL N i j = (segL N i (j + 1)).take (j - i) := by
    unfold segL
    rw [List.take_take]
    congr 1
    omega
  rw [e]
  exact inB_take _ h
theorem in_later {O N : List Nat} {i k j : Nat} (hk : i ≤ k) (h : inB O (segL N i j) = true) : inB O (segL N k j) = true := by
  have e : segL N k j = (segL N i j).drop (k - i) := by
    unfold segL
    rw [List.drop_take, List.drop_drop]
    congr 1
    · omega
    · congr 1
      omega
  rw [e]
  exact inB_drop _ h
/-! ### the least cost of each beginning -/
def minTo (f : Nat → Nat) : Nat → Nat
  | 0 => f 0
  | k + 1 => min (minTo f k) (f (k + 1))
theorem minTo_le {f : Nat → Nat} : ∀ {k i : Nat}, i ≤ k → minTo f k ≤ f i
  | 0, i, h => by
    have : i = 0 := by omega
    subst this
    exact Nat.le_refl _
  | k + 1, i, h => by
    rw [minTo]
    by_cases e : i = k + 1
    · subst e
      exact Nat.min_le_right _ _
    · exact Nat.le_trans (Nat.min_le_left _ _) (minTo_le (by omega))
theorem minTo_at {f : Nat → Nat} : ∀ k : Nat, ∃ i, i ≤ k ∧ minTo f k = f i
  | 0 => ⟨0, Nat.le_refl _, rfl⟩
  | k + 1 => by
    obtain ⟨i, hi, e⟩ := minTo_at (f := f) k
    rw [minTo]
    by_cases h : minTo f k ≤ f (k + 1)
    · exact ⟨i, by omega, by rw [Nat.min_eq_left h, e]⟩
    · exact ⟨k + 1, Nat.le_refl _, Nat.min_eq_right (by omega)⟩
theorem minTo_congr {f g : Nat → Nat} : ∀ {k : Nat}, (∀ i, i ≤ k → f i = g i) → minTo f k = minTo g k
  | 0, h => h 0 (Nat.le_refl _)
  | k + 1, h => by rw [minTo, minTo, minTo_congr fun i hi => h i (by omega), h (k + 1) (Nat.le_refl _)]
section
variable (p : Nat) (O N : List Nat)
def stepC (i j : Nat) : Nat := if inB O (segL N i j) = true then 0 else j - i
/-- the least costs of the beginnings up to j -/
def leastL : Nat → List Nat
  | 0 => [0]
  | j + 1 => leastL j ++ [minTo (fun i => (leastL j).getD i 0 + p + stepC O N i (j + 1)) j]
def lea (j : Nat) : Nat := (leastL p O N j).getD j 0
theorem least_len : ∀ j, (leastL p O N j).length = j + 1
  | 0 => rfl
  | j + 1 => by rw [leastL, List.length_append, least_len j]; rfl
theorem least_get : ∀ {j i : Nat}, i ≤ j → (leastL p O N j)[i]? = some (lea p O N i)
  | 0, i, h => by
    have : i = 0 := by omega
    subst this
    rfl
  | j + 1, i, h => by
    by_cases e : i = j + 1
    · subst e
      unfold lea
      rw [List.getD_eq_getElem?_getD]
      have hl := least_len p O N (j + 1)
      rw [List.getElem?_eq_getElem (by omega)]
      rfl
    · rw [leastL, List.getElem?_append_left (by rw [least_len]; omega)]
      exact least_get (by omega)
theorem lea_succ (j : Nat) : lea p O N (j + 1) = minTo (fun i => lea p O N i + p + stepC O N i (j + 1)) j := by
  have e : lea p O N (j + 1) = minTo (fun i => (leastL p O N j).getD i 0 + p + stepC O N i (j + 1)) j := by
    unfold lea
    rw [leastL, List.getD_eq_getElem?_getD, List.getElem?_append_right (by rw [least_len]; omega), least_len]
    simp
  rw [e]
  refine minTo_congr fun i hi => ?_
  rw [List.getD_eq_getElem?_getD, least_get p O N hi]
  rfl
theorem lea_le {i j : Nat} (h : i ≤ j) : lea p O N (j + 1) ≤ lea p O N i + p + stepC O N i (j + 1) := by
  rw [lea_succ]
  exact minTo_le (f := fun i => lea p O N i + p + stepC O N i (j + 1)) h
theorem lea_at (j : Nat) : ∃ i, i ≤ j ∧ lea p O N (j + 1) = lea p O N i + p + stepC O N i (j + 1) := by
  rw [lea_succ]
  exact minTo_at (f := fun i => lea p O N i + p + stepC O N i (j + 1)) j
theorem lea_mono1 (j : Nat) : lea p O N j ≤ lea p O N (j + 1) := by
  obtain ⟨i, hi, e⟩ := lea_at p O N j
  rw [e]
  by_cases hij : i = j
  · subst hij
    omega
  · obtain ⟨k, rfl⟩ : ∃ k, j = k + 1 := ⟨j - 1, by omega⟩
    have h1 := lea_le p O N (i := i) (j := k) (by omega)
    have h2 : stepC O N i (k + 1) ≤ stepC O N i (k + 1 + 1) := by
      unfold stepC
      by_cases h : inB O (segL N i (k + 1 + 1)) = true
      · rw [if_pos h, if_pos (in_less h)]
        exact Nat.le_refl _
      · rw [if_neg h]
        split <;> omega
    omega
theorem lea_mono {i j : Nat} (h : i ≤ j) : lea p O N i ≤ lea p O N j := by
  obtain ⟨d, rfl⟩ := Nat.le.dest h
  clear h
  induction d with
  | zero => exact Nat.le_refl _
  | succ d ih => exact Nat.le_trans ih (lea_mono1 p O N (i + d))
/-- what the table's row tells of the beginning of j signs -/
def TabOk (j : Nat) (t : Int) : Prop := j = 0 ∨ (∃ i : Nat, t = (i : Int) ∧ i < j ∧ inB O (segL N i j) = true ∧ lea p O N j = lea p O N i + p) ∨ ∃ i : Nat, t = -1 - (i : Int) ∧ i < j ∧ lea p O N j = lea p O N i + p + (j - i)
/-- the least put behind j signs -/
structure PutOk (j pc pf : Nat) : Prop where
  lt : pf < j
  at_ : pc = lea p O N pf + p + (j - pf)
  le : ∀ i, i < j → pc ≤ lea p O N i + p + (j - i)
theorem put_new {j pc pf : Nat} (h : PutOk p O N j pc pf) (hc : lea p O N j + p < pc) : PutOk p O N (j + 1) (lea p O N j + p + 1) j := by
  refine ⟨Nat.lt_succ_self j, by omega, fun i hi => ?_⟩
  by_cases e : i = j
  · subst e
    omega
  · have := h.le i (by omega)
    omega
theorem put_first : PutOk p O N 1 (lea p O N 0 + p + 1) 0 := by
  refine ⟨by omega, by omega, fun i hi => ?_⟩
  have : i = 0 := by omega
  subst this
  omega
theorem put_old {j pc pf : Nat} (h : PutOk p O N j pc pf) (hc : ¬ lea p O N j + p < pc) : PutOk p O N (j + 1) (pc + 1) pf := by
  refine ⟨by have := h.lt; omega, by have := h.at_; have := h.lt; omega, fun i hi => ?_⟩
  by_cases e : i = j
  · subst e
    omega
  · have := h.le i (by omega)
    omega
theorem tab_copy {j pc pf cf : Nat} (h : PutOk p O N (j + 1) pc pf) (h1 : cf < j + 1) (h2 : ∀ i, i < cf → inB O (segL N i (j + 1)) = false) (h3 : inB O (segL N cf (j + 1)) = true) (hc : lea p O N cf + p ≤ pc) : lea p O N (j + 1) = lea p O N cf + p := by
  have a := lea_le p O N (i := cf) (j := j) (by omega)
  have e : stepC O N cf (j + 1) = 0 := by unfold stepC; rw [if_pos h3]
  obtain ⟨i, hi, b⟩ := lea_at p O N j
  have c : lea p O N cf + p ≤ lea p O N i + p + stepC O N i (j + 1) := by
    by_cases hl : i < cf
    · have z := h.le i (by omega)
      have e2 : stepC O N i (j + 1) = j + 1 - i := by unfold stepC; rw [if_neg (by rw [h2 i hl]; decide)]
      omega
    · have := lea_mono p O N (i := cf) (j := i) (by omega)
      omega
  omega
theorem tab_put {j pc pf cf : Nat} (h : PutOk p O N (j + 1) pc pf) (h2 : ∀ i, i < cf → inB O (segL N i (j + 1)) = false) (hc : ¬ (cf < j + 1 ∧ lea p O N cf + p ≤ pc)) : lea p O N (j + 1) = pc := by
  obtain ⟨i, hi, b⟩ := lea_at p O N j
  have a := lea_le p O N (i := pf) (j := j) (by have := h.lt; omega)
  have e : stepC O N pf (j + 1) ≤ j + 1 - pf := by unfold stepC; split <;> omega
  have e0 := h.at_
  have c : pc ≤ lea p O N i + p + stepC O N i (j + 1) := by
    by_cases hl : i < cf
    · have z := h.le i (by omega)
      have e2 : stepC O N i (j + 1) = j + 1 - i := by unfold stepC; rw [if_neg (by rw [h2 i hl]; decide)]
      omega
    · have := lea_mono p O N (i := cf) (j := i) (by omega)
      have : ¬ lea p O N cf + p ≤ pc := fun z => hc ⟨by omega, z⟩
      omega
  omega
theorem lea_bound : ∀ j, lea p O N j ≤ j * (p + 1)
  | 0 => by show (0 : Nat) ≤ _; omega
  | j + 1 => by
    have h := lea_le p O N (i := j) (j := j) (Nat.le_refl _)
    have e : stepC O N j (j + 1) ≤ 1 := by unfold stepC; split <;> omega
    have ih := lea_bound j
    rw [Nat.succ_mul]
    omega
/-- any rows that make the new text cost at least so much -/
def CRow.mk (O : List Nat) : CRow → List Nat
  | .put s => s.cps.toList
  | .copy a n => (O.drop a).take n
def CRow.cst (p : Nat) (r : CRow) : Nat := p + r.puts
theorem least_any {n : Nat} (hO : O.length = n) : ∀ (rows : List CRow), (∀ r ∈ rows, CRowOk n r) → ∀ j, j ≤ N.length → rows.flatMap (CRow.mk O) = N.take j → lea p O N j ≤ (rows.map (CRow.cst p)).sum := by
  have key : ∀ (k : Nat) (rows : List CRow), rows.length = k → (∀ r ∈ rows, CRowOk n r) → ∀ j, j ≤ N.length → rows.flatMap (CRow.mk O) = N.take j → lea p O N j ≤ (rows.map (CRow.cst p)).sum := by
   intro k
   induction k with
   | zero =>
    intro rows hz _ j hj h
    rw [List.eq_nil_of_length_eq_zero hz] at h ⊢
    have : j = 0 := by
      have e := congrArg List.length h
      rw [List.length_take] at e
      simp at e
      omega
    subst this
    exact Nat.zero_le _
   | succ k ih =>
    intro rows' hz hok j hj h
    rcases List.eq_nil_or_concat rows' with rfl | ⟨rows, r, rfl⟩
    · cases hz
    rw [List.concat_eq_append] at hz hok h ⊢
    rw [List.length_append] at hz
    have ro := hok r (List.mem_append_right _ (List.mem_singleton.mpr rfl))
    have hl : (CRow.mk O r).length = r.gives := by
      cases r with
      | put s => simp [CRow.mk, CRow.gives, Str.length]
      | copy a k =>
        have := ro.h
        show ((O.drop a).take k).length = k
        rw [List.length_take, List.length_drop]
        have h2 : a + k ≤ n := this
        omega
    rw [List.flatMap_append, List.flatMap_cons, List.flatMap_nil, List.append_nil] at h
    have hlen := congrArg List.length h
    rw [List.length_append, hl, List.length_take, Nat.min_eq_left hj] at hlen
    have hp := ro.p
    obtain ⟨i, hi⟩ : ∃ i, i = (rows.flatMap (CRow.mk O)).length := ⟨_, rfl⟩
    rw [← hi] at hlen
    have h1 : rows.flatMap (CRow.mk O) = N.take i := by
      have e := congrArg (List.take i) h
      rw [hi, List.take_left, ← hi, List.take_take, Nat.min_eq_left (by omega)] at e
      exact e
    have h2 : CRow.mk O r = segL N i j := by
      have e := congrArg (List.drop i) h
      rw [hi, List.drop_left, ← hi, List.drop_take] at e
      exact e
    have ih' := ih rows (by simpa using hz) (fun q hq => hok q (List.mem_append_left _ hq)) i (by omega) h1
    obtain ⟨k, rfl⟩ : ∃ k, j = k + 1 := ⟨j - 1, by omega⟩
    have hle := lea_le p O N (i := i) (j := k) (by omega)
    rw [List.map_append, List.sum_append]
    show _ ≤ _ + ((p + r.puts) + 0)
    have hs : stepC O N i (k + 1) ≤ r.puts := by
      unfold stepC
      cases r with
      | put s =>
        have e : s.length = k + 1 - i := by
          have : (CRow.put s).gives = s.length := rfl
          omega
        show (if _ then 0 else _) ≤ s.length
        split <;> omega
      | copy a m =>
        rw [if_pos]
        · exact Nat.zero_le _
        · rw [← h2]
          have hh : a + m ≤ n := ro.h
          refine inB_iff.mpr ⟨a, ?_, ?_⟩
          · show a + ((O.drop a).take m).length ≤ O.length
            rw [List.length_take, List.length_drop]
            omega
          · show (O.drop a).take ((O.drop a).take m).length = (O.drop a).take m
            rw [List.length_take, List.length_drop]
            congr 1
            omega
    omega
  exact fun rows => key rows.length rows rfl
end
theorem cost_sum (p : Nat) (rows : List CRow) : costL (p : Int) rows = (((rows.map (CRow.cst p)).sum : Nat) : Int) := by
  unfold costL
  have key : ∀ rows : List CRow, (rows.map (CRow.cst p)).sum = p * rows.length + (rows.map CRow.puts).sum := by
    intro rows
    induction rows with
    | nil => rfl
    | cons r rows ih =>
      rw [List.map_cons, List.sum_cons, ih, List.length_cons, List.map_cons, List.sum_cons, Nat.mul_succ]
      unfold CRow.cst
      omega
  rw [key]
  simp
/-! ### texts by their signs -/
abbrev cd (z : Str) : List Nat := z.cps.toList
theorem cd_len (z : Str) : (cd z).length = z.length := by simp [Str.length]
theorem cd_inj {a b : Str} (h : cd a = cd b) : a = b := by
  obtain ⟨x⟩ := a
  obtain ⟨y⟩ := b
  have e : x = y := Array.toList_inj.mp h
  rw [e]
theorem cut_cd (z : Str) (i j : Nat) : cd (cutS z (some (i : Int)) (some (j : Int))) = segL (cd z) i j := by
  unfold cutS segL
  rw [HT.sIx_nat, HT.sIx_nat]
  show ((z.cps.toList.drop _).take _).toArray.toList = _
  rw [List.toList_toArray]
  have hl : z.cps.toList.length = z.length := cd_len z
  have hl2 := cd_len z
  by_cases h : i ≤ z.length
  · rw [Nat.min_eq_left h]
    by_cases h2 : j ≤ z.length
    · rw [Nat.min_eq_left h2]
    · rw [Nat.min_eq_right (by omega), List.take_of_length_le (by rw [List.length_drop]; omega), List.take_of_length_le (by rw [List.length_drop]; omega)]
  · rw [Nat.min_eq_right (show z.length ≤ i by omega), List.drop_eq_nil_of_le (by omega), List.drop_eq_nil_of_le (by omega), List.take_nil, List.take_nil]
theorem subAt_cd {x y : Str} {i : Nat} : subAt x y i = true ↔ ((cd x).drop i).take y.length = cd y := by
  unfold subAt
  rw [beq_iff_eq, ← Array.toList_inj, Array.toList_extract]
  show (x.cps.toList.drop i).take (i + y.length - i) = _ ↔ _
  rw [Nat.add_sub_cancel_left]
theorem found_inB (x y : Str) : (!(occurrences x y 0 x.length 1).isEmpty) = inB (cd x) (cd y) := by
  rw [Bool.eq_iff_iff, found_iff, inB_iff]
  constructor
  · rintro ⟨i, h1, h2⟩
    exact ⟨i, by rw [cd_len, cd_len]; exact h1, by rw [cd_len]; exact subAt_cd.mp h2⟩
  · rintro ⟨i, h1, h2⟩
    rw [cd_len] at h1 h2
    rw [cd_len] at h1
    exact ⟨i, h1, subAt_cd.mpr h2⟩
theorem find_cd {x y : Str} (h : inB (cd x) (cd y) = true) : ∃ a : Nat, Txt.find x y = (a : Int) ∧ a + y.length ≤ x.length ∧ ((cd x).drop a).take y.length = cd y := by
  rcases occ_head x y 1 (Nat.le_refl _) with ⟨h0, _⟩ | ⟨i, r, h0, ⟨h1, h2⟩, _⟩
  · rw [← found_inB, h0] at h
    cases h
  · refine ⟨i, ?_, h1, subAt_cd.mp h2⟩
    unfold Txt.find
    rw [h0]
def notinG : R2 := fun x y H Q => ∃ a b, x = .str a ∧ y = .str b ∧ Q (.bl (!inB (cd b) (cd a))) H
def inG : R2 := fun x y H Q => ∃ a b, x = .str a ∧ y = .str b ∧ Q (.bl (inB (cd b) (cd a))) H
section
variable {X : Cx} {H : Hp} {Q : VK} {a b : Str}
theorem opNotInS : OpR X (compareOp .NotIn) notinG := by
  intro pins s σ H x y v u Q I rx ry h
  obtain ⟨a, b, h1, h2, q⟩ := h
  exact op_notin_str pins s σ H x y v u Q I rx ry ⟨a, b, h1, h2, by rw [found_inB]; exact q⟩
theorem opInS : OpR X (compareOp .In) inG := by
  intro pins s σ H x y v u Q I rx ry h
  obtain ⟨a, b, h1, h2, q⟩ := h
  exact op_in_str pins s σ H x y v u Q I rx ry ⟨a, b, h1, h2, by rw [found_inB]; exact q⟩
theorem n_notin (q : Q (.bl (!inB (cd b) (cd a))) H) : notinG (.str a) (.str b) H Q := ⟨a, b, rfl, rfl, q⟩
theorem n_in (q : Q (.bl (inB (cd b) (cd a))) H) : inG (.str a) (.str b) H Q := ⟨a, b, rfl, rfl, q⟩
def findG : V → List V → Hp → VK → Prop := fun x xs H Q => ∃ a b, x = .str a ∧ xs = [.str b] ∧ Q (.int (Txt.find a b)) H
theorem mtFind : MtR X "str.find" findG := mt_find
theorem n_find (q : Q (.int (Txt.find a b)) H) : findG (.str a) [.str b] H Q := ⟨a, b, rfl, rfl, q⟩
end
/-! ### the table -/
def prD (c : Nat × Int) : PyData := .tuple [.int (c.1 : Nat), .int c.2]
theorem dp_pr {K : PySem.W.Frag} {F : Hp} {x : V} {p : Nat × Int} (h : Dp K F x (prD p)) : ∃ a, x = .ref a ∧ SqT K F a [.int (p.1 : Nat), .int p.2] := by
  obtain ⟨a, vs, rfl, hs, h0⟩ := dp_tup h
  obtain ⟨v1, us, rfl, h1, h0⟩ := dpa_cons h0
  obtain ⟨v2, us, rfl, h2, h0⟩ := dpa_cons h0
  cases dpa_nil h0
  rw [dp_int h1, dp_int h2] at hs
  exact ⟨a, rfl, hs⟩
def TabAll (p : Nat) (O N : List Nat) (ps : List (Nat × Int)) : Prop := ∀ k c t, ps[k]? = some (c, t) → c = lea p O N k ∧ TabOk p O N k t
def φtable (K : PySem.W.Frag) : V → V → V → Hp → VK → Prop := fun x y z H Q => ∃ (F : Hp) (o nw : Str) (p : Nat), x = .str o ∧ y = .str nw ∧ z = .int (p : Nat) ∧ Same F H ∧ o.length ≤ 1000 ∧ nw.length ≤ 1000 ∧ p ≤ 1000 ∧
  ∀ a ys ps F2 H2, H a = none → W [] F H F2 H2 [mu a (.lst ys), dpa K ys (ps.map prD)] → ps.length = nw.length + 1 → TabAll p (cd o) (cd nw) ps → Q (.ref a) H2
/-- rows that make the new text at the least cost -/
structure Made (p : Nat) (o nw : Str) (rows : List CRow) : Prop where
  ok : RowsOk o.length rows
  mkN : rows.flatMap (CRow.mk (cd o)) = cd nw
  cst : (rows.map (CRow.cst p)).sum = lea p (cd o) (cd nw) nw.length
def φfound (K : PySem.W.Frag) : V → V → V → Hp → VK → Prop := fun x y z H Q => ∃ (F : Hp) (o nw : Str) (p : Nat), x = .str o ∧ y = .str nw ∧ z = .int (p : Nat) ∧ Same F H ∧ o.length ≤ 400 ∧ nw.length ≤ 400 ∧ okS o ∧ okS nw ∧ p ≤ 1000 ∧
  ∀ v rows F2 H2, W [] F H F2 H2 [chg K v o.length rows] → Made p o nw rows → Q v H2
theorem ok_codes {z : Str} : okS z ↔ ∀ c ∈ cd z, c < 0x110000 := by
  show (z.cps.all (· < 0x110000)) = true ↔ _
  rw [← Array.all_toList, List.all_eq_true]
  exact ⟨fun h c hc => of_decide_eq_true (h c hc), fun h c hc => decide_eq_true (h c hc)⟩
theorem ok_cut {z : Str} (h : okS z) (i j : Nat) : okS (cutS z (some (i : Int)) (some (j : Int))) := by
  rw [ok_codes, cut_cd]
  intro c hc
  exact ok_codes.mp h c (List.mem_of_mem_drop (List.mem_of_mem_take hc))
theorem seg_drop {N : List Nat} {i j : Nat} (h : i ≤ j) : segL N i j ++ N.drop j = N.drop i := by
  unfold segL
  have e : N.drop j = (N.drop i).drop (j - i) := by
    rw [List.drop_drop]
    congr 1
    omega
  rw [e, List.take_append_drop]
theorem dpa_rev {K : PySem.W.Frag} {F : Hp} : ∀ {vs : List V} {ds : List PyData}, DpAll K F vs ds → DpAll K F vs.reverse ds.reverse
  | _, _, .nil => .nil
  | _, _, .cons h t => by
    rw [List.reverse_cons, List.reverse_cons]
    exact dpa_app (dpa_rev t) (.cons h .nil)
theorem mk_len {O : List Nat} {n : Nat} (hO : O.length = n) {r : CRow} (ro : CRowOk n r) : (CRow.mk O r).length = r.gives := by
  cases r with
  | put s => simp [CRow.mk, CRow.gives, Str.length]
  | copy a k =>
    have h2 : a + k ≤ n := ro.h
    show ((O.drop a).take k).length = k
    rw [List.length_take, List.length_drop]
    omega
theorem mks_len {O : List Nat} {n : Nat} (hO : O.length = n) : ∀ {rows : List CRow}, (∀ r ∈ rows, CRowOk n r) → (rows.flatMap (CRow.mk O)).length = givesL rows
  | [], _ => rfl
  | r :: rows, h => by
    rw [List.flatMap_cons, List.length_append, mk_len hO (h r (List.mem_cons_self ..)), mks_len hO fun q hq => h q (List.mem_cons_of_mem _ hq)]
    rfl
/-! ### cells -/
def CRow.cellV : CRow → List V
  | .put s => chars s
  | .copy a n => (List.range n).map fun k => V.int ((a + k : Nat) : Int)
abbrev cellsV (rows : List CRow) : List V := rows.flatMap CRow.cellV
theorem cellV_len (r : CRow) : r.cellV.length = r.gives := by
  cases r with
  | put s => exact chars_len s
  | copy a n => simp [CRow.cellV, CRow.gives]
theorem cells_len : ∀ rows : List CRow, (cellsV rows).length = givesL rows
  | [] => rfl
  | r :: rows => by
    show (r.cellV ++ cellsV rows).length = r.gives + givesL rows
    rw [List.length_append, cellV_len, cells_len rows]
/-- a cell of a change of this size: a place or a sign -/
def CellOk (n : Nat) (v : V) : Prop := (∃ i : Nat, v = .int (i : Nat) ∧ i < n) ∨ ∃ c : Nat, v = .str ⟨#[c]⟩ ∧ c < 0x110000
theorem chars_get' {z : Str} {v : V} (h : v ∈ chars z) : ∃ c ∈ cd z, v = .str ⟨#[c]⟩ := by
  unfold chars at h
  obtain ⟨c, hc, rfl⟩ := List.mem_map.mp h
  exact ⟨c, hc, rfl⟩
theorem cells_ok {n : Nat} {rows : List CRow} (h : ∀ r ∈ rows, CRowOk n r) : ∀ v ∈ cellsV rows, CellOk n v := by
  intro v hv
  obtain ⟨r, hr, hv⟩ := List.mem_flatMap.mp hv
  have ro := h r hr
  cases r with
  | put s =>
    obtain ⟨c, hc, rfl⟩ := chars_get' hv
    exact .inr ⟨c, rfl, ok_codes.mp ro.s.1 c hc⟩
  | copy a k =>
    obtain ⟨j, hj, rfl⟩ := List.mem_map.mp hv
    have := List.mem_range.mp hj
    have hh : a + k ≤ n := ro.h
    exact .inl ⟨a + j, rfl, by omega⟩
theorem CellOk.flat {n : Nat} {v : V} (h : CellOk n v) : FlatV v := by
  rcases h with ⟨i, rfl, _⟩ | ⟨c, rfl, hc⟩
  · exact .inr (.inl ⟨_, rfl⟩)
  · refine .inr (.inr ⟨_, rfl, ok_codes.mpr fun d hd => ?_, by show 1 ≤ 100; decide⟩)
    have : d = c := by simpa using hd
    rw [this]
    exact hc
/-- the sign that a cell gives of an old text -/
def outS (o : Str) : V → Str
  | .int i => ⟨#[(cd o).getD i.toNat 0]⟩
  | .str z => z
  | _ => ⟨#[]⟩
theorem outs_chars (o : Str) (l : List Nat) : ((l.map fun c => V.str ⟨#[c]⟩).map (outS o)).flatMap cd = l := by
  induction l with
  | nil => rfl
  | cons c l ih =>
    rw [List.map_cons, List.map_cons, List.flatMap_cons, ih]
    rfl
theorem outs_range (o : Str) (a : Nat) : ∀ n, a + n ≤ (cd o).length → (((List.range n).map fun k => V.int ((a + k : Nat) : Int)).map (outS o)).flatMap cd = ((cd o).drop a).take n
  | 0, _ => by simp
  | n + 1, h => by
    rw [List.range_succ, List.map_append, List.map_append, List.flatMap_append, outs_range o a n (by omega)]
    have e : ((cd o).drop a)[n]? = some ((cd o).getD (a + n) 0) := by
      rw [List.getElem?_drop, List.getD_eq_getElem?_getD, List.getElem?_eq_getElem (by omega)]
      rfl
    rw [List.take_add_one, e]
    rfl
theorem outs_rows (o : Str) {rows : List CRow} (h : ∀ r ∈ rows, CRowOk o.length r) : ((cellsV rows).map (outS o)).flatMap cd = rows.flatMap (CRow.mk (cd o)) := by
  induction rows with
  | nil => rfl
  | cons r rows ih =>
    show ((r.cellV ++ cellsV rows).map (outS o)).flatMap cd = CRow.mk (cd o) r ++ _
    rw [List.map_append, List.flatMap_append, ih fun q hq => h q (List.mem_cons_of_mem _ hq)]
    congr 1
    cases r with
    | put s => exact outs_chars o _
    | copy a n =>
      have hh : a + n ≤ o.length := (h _ (List.mem_cons_self ..)).h
      exact outs_range o a n (by rw [cd_len]; exact hh)
theorem join_cd (ys : List Str) : cd (Txt.join ⟨#[]⟩ ys) = ys.flatMap cd := by
  have e : TL.tl (Txt.join ⟨#[]⟩ ys) = (ys.map TL.tl).flatten := by
    rw [TL.join_eq, TL.tl_join]
    have key : ∀ l : List (List Nat), TL.joinL [] l = l.flatten := by
      intro l
      induction l with
      | nil => rfl
      | cons a l ih =>
        cases l with
        | nil => simp [TL.joinL]
        | cons b l =>
          rw [TL.joinL, ih]
          simp
    exact key _
  exact e.trans (by rw [List.flatMap_def])
theorem outS_ok {o : Str} {n : Nat} {v : V} (hn : o.length = n) (ok : okS o) (h : CellOk n v) : (outS o v).length = 1 ∧ okS (outS o v) := by
  rcases h with ⟨i, rfl, hi⟩ | ⟨c, rfl, hc⟩
  · refine ⟨rfl, ?_⟩
    show okS ⟨#[(cd o).getD i 0]⟩
    exact ok_sign ok (by omega)
  · exact ⟨rfl, ok_codes.mpr fun d hd => by
      have hd' : d ∈ [c] := hd
      rw [List.mem_singleton.mp hd']
      exact hc⟩
/-! ### promises -/
def φcells (K : PySem.W.Frag) : V → Hp → VK → Prop := fun x H Q => ∃ (F : Hp) (n : Nat) (rows : List CRow), Same F H ∧ Chg K F x n rows ∧ RowsOk n rows ∧ n ≤ 1000 ∧ ∀ p F2 H2, H p = none → W [] F H F2 H2 [mu p (.lst (cellsV rows))] → Q (.ref p) H2
def φlcells (K : PySem.W.Frag) : V → Hp → VK → Prop := fun x H Q => ∃ (F : Hp) (a : Addr) (vs : List V) (n : Nat) (rows : List CRow), x = .ref a ∧ Same F H ∧ SqL K F a vs ∧ DpAll K F vs (rows.map CRow.d) ∧ RowsOk n rows ∧ ∀ p F2 H2, H p = none → W [] F H F2 H2 [mu p (.lst (cellsV rows))] → Q (.ref p) H2
def φdoneC (K : PySem.W.Frag) : V → V → Hp → VK → Prop := fun x y H Q => ∃ (F : Hp) (o : Str) (rows : List CRow), y = .str o ∧ Same F H ∧ Chg K F x o.length rows ∧ RowsOk o.length rows ∧ okS o ∧ o.length ≤ 1000 ∧ ∀ s F2 H2, W [] F H F2 H2 [] → cd s = rows.flatMap (CRow.mk (cd o)) → okS s → Q (.str s) H2
def φldone (K : PySem.W.Frag) : V → V → Hp → VK → Prop := fun x y H Q => ∃ (F : Hp) (a : Addr) (cs : List V) (o : Str), x = .ref a ∧ y = .str o ∧ Same F H ∧ SqL K F a cs ∧ (∀ v ∈ cs, CellOk o.length v) ∧ cs.length ≤ 1000 ∧ okS o ∧ o.length ≤ 1000 ∧ ∀ s F2 H2, W [] F H F2 H2 [] → cd s = (cs.map (outS o)).flatMap cd → okS s → Q (.str s) H2
theorem cut_cd_to (z : Str) (j : Nat) : cd (cutS z none (some (j : Int))) = (cd z).take j := by
  have hl : z.cps.toList.length = z.length := cd_len z
  unfold cutS
  rw [HT.sIx_none, HT.sIx_nat]
  show ((z.cps.toList.drop 0).take _).toArray.toList = z.cps.toList.take j
  rw [List.toList_toArray, List.drop_zero, Nat.sub_zero]
  by_cases h : j ≤ z.length
  · rw [Nat.min_eq_left h]
  · rw [Nat.min_eq_right (by omega), List.take_of_length_le (by omega), List.take_of_length_le (by omega)]
theorem cut_cd_from (z : Str) (i : Nat) : cd (cutS z (some (i : Int)) none) = (cd z).drop i := by
  have hl : z.cps.toList.length = z.length := cd_len z
  unfold cutS
  rw [HT.sIx_none, HT.sIx_nat]
  show ((z.cps.toList.drop _).take _).toArray.toList = z.cps.toList.drop i
  rw [List.toList_toArray]
  by_cases h : i ≤ z.length
  · rw [Nat.min_eq_left h]
    exact List.take_of_length_le (by rw [List.length_drop]; omega)
  · rw [Nat.min_eq_right (by omega), Nat.sub_self, List.take_zero, List.drop_eq_nil_of_le (by omega)]
theorem ok_to {z : Str} (h : okS z) (j : Nat) : okS (cutS z none (some (j : Int))) := by
  rw [ok_codes, cut_cd_to]
  exact fun c hc => ok_codes.mp h c (List.mem_of_mem_take hc)
theorem ok_from {z : Str} (h : okS z) (j : Nat) : okS (cutS z (some (j : Int)) none) := by
  rw [ok_codes, cut_cd_from]
  exact fun c hc => ok_codes.mp h c (List.mem_of_mem_drop hc)
theorem len_to (z : Str) (j : Nat) : (cutS z none (some (j : Int))).length = min j z.length := by rw [← cd_len, cut_cd_to, List.length_take, cd_len]
theorem len_from (z : Str) (j : Nat) : (cutS z (some (j : Int)) none).length = z.length - j := by rw [← cd_len, cut_cd_from, List.length_drop, cd_len]
theorem len_app (a b : Str) : (a ++ b).length = a.length + b.length := by
  rw [← cd_len, ← cd_len, ← cd_len, ← List.length_append]
  congr 1
  exact TL.tl_append a b
theorem least_succ (p : Nat) (O N : List Nat) (j : Nat) : leastL p O N (j + 1) = leastL p O N j ++ [lea p O N (j + 1)] := by
  have h := least_get p O N (j := j + 1) (i := j + 1) (Nat.le_refl _)
  rw [leastL, List.getElem?_append_right (by rw [least_len]; omega), least_len, Nat.sub_self] at h
  rw [leastL]
  congr 2
  exact Option.some.inj h
theorem least_last (p : Nat) (O N : List Nat) (j : Nat) : ∃ l, leastL p O N j = l ++ [lea p O N j] := by
  cases j with
  | zero => exact ⟨[], rfl⟩
  | succ j => exact ⟨_, least_succ p O N j⟩
def φwholeI : V → Hp → VK → Prop := fun x H Q => ∃ i, x = .int i ∧ Q (.bl true) H
def φmakes (K : PySem.W.Frag) : V → V → V → Hp → VK → Prop := fun x y z H Q => ∃ (F : Hp) (o l : Str) (rows : List CRow), y = .str o ∧ z = .str l ∧ Same F H ∧ Chg K F x o.length rows ∧ RowsOk o.length rows ∧ okS o ∧ okS l ∧ o.length ≤ 1000 ∧ l.length ≤ 1000 ∧ rows.flatMap (CRow.mk (cd o)) = cd l ∧ ∀ F2 H2, W [] F H F2 H2 [] → Q (.bl true) H2
def φold_new (K : PySem.W.Frag) : V → Hp → VK → Prop := fun x H Q => ∃ (F : Hp) (b : Addr), x = .ref b ∧ St F H [bag K b] ∧ ∀ t o l F2 H2, W [b] F H F2 H2 [fx t (.tup [.str o, .str l]), bag K b] → okS o → okS l → o.length ≤ 60 → l.length ≤ 63 → Q (.ref t) H2
def φleast (K : PySem.W.Frag) : V → V → V → Hp → VK → Prop := fun x y z H Q => ∃ (F : Hp) (o l : Str) (p : Nat), x = .str o ∧ y = .str l ∧ z = .int (p : Nat) ∧ Same F H ∧ o.length ≤ 1000 ∧ l.length ≤ 1000 ∧ p ≤ 1000 ∧ ∀ F2 H2, W [] F H F2 H2 [] → Q (.int ((lea p (cd o) (cd l) l.length : Nat) : Int)) H2
/-! ### plain finds -/
theorem seg_all (N : List Nat) : segL N 0 N.length = N := by
  unfold segL
  rw [List.drop_zero, Nat.sub_zero, List.take_length]
theorem lea_zero (p : Nat) (O N : List Nat) : lea p O N 0 = 0 := rfl
theorem lea_copy {p : Nat} {O N : List Nat} (h : inB O N = true) (hn : N ≠ []) : lea p O N N.length ≤ p := by
  have hl : 1 ≤ N.length := List.length_pos_iff.mpr hn
  obtain ⟨k, ek⟩ : ∃ k, N.length = k + 1 := ⟨N.length - 1, by omega⟩
  have h1 := lea_le p O N (i := 0) (j := k) (Nat.zero_le _)
  have h2 : stepC O N 0 (k + 1) = 0 := by unfold stepC; rw [← ek, seg_all, if_pos h]
  rw [h2, lea_zero] at h1
  rw [ek]
  omega
theorem lea_put {p : Nat} {O N : List Nat} (hn : N ≠ []) : lea p O N N.length ≤ p + N.length := by
  have hl : 1 ≤ N.length := List.length_pos_iff.mpr hn
  obtain ⟨k, ek⟩ : ∃ k, N.length = k + 1 := ⟨N.length - 1, by omega⟩
  have h1 := lea_le p O N (i := 0) (j := k) (Nat.zero_le _)
  have h2 : stepC O N 0 (k + 1) ≤ k + 1 := by unfold stepC; split <;> omega
  rw [lea_zero] at h1
  rw [ek]
  omega
theorem cst_cons {p : Nat} {r : CRow} {rows : List CRow} : ((r :: rows).map (CRow.cst p)).sum = (p + r.puts) + (rows.map (CRow.cst p)).sum := by
  rw [List.map_cons, List.sum_cons]
  rfl
theorem no_rows {p : Nat} {o l : Str} {rows : List CRow} (m : Made p o l rows) (h : cd l = []) : rows = [] := by
  have h1 := mks_len (cd_len o) m.ok.ok
  rw [m.mkN, h] at h1
  have h2 := rows_len (rows := rows) fun r hr => (m.ok.ok r hr).p
  exact List.eq_nil_of_length_eq_zero (by rw [← h1] at h2; exact Nat.le_zero.mp h2)
theorem one_copy {p : Nat} {o l : Str} {rows : List CRow} (m : Made p o l rows) (hp : 1 ≤ p) (h : inB (cd o) (cd l) = true) (hn : cd l ≠ []) : ∃ a n, rows = [.copy a n] := by
  have h1 := m.cst
  have h2 := lea_copy (p := p) h hn
  rw [cd_len] at h2
  cases rows with
  | nil =>
    have := m.mkN
    exact absurd this.symm hn
  | cons r rows =>
    rw [cst_cons] at h1
    cases rows with
    | cons r2 rows =>
      rw [cst_cons] at h1
      omega
    | nil =>
      cases r with
      | copy a n => exact ⟨a, n, rfl⟩
      | put s =>
        have h3 : 1 ≤ s.length := (m.ok.ok _ (List.mem_cons_self ..)).p
        have h4 : (CRow.put s).puts = s.length := rfl
        omega
theorem puts_all {p : Nat} {O : List Nat} {n : Nat} (hO : O.length = n) : ∀ {rows : List CRow}, (∀ r ∈ rows, CRowOk n r) → (∀ c ∈ rows.flatMap (CRow.mk O), inB O [c] = false) → (rows.map (CRow.cst p)).sum = p * rows.length + (rows.flatMap (CRow.mk O)).length ∧ ∀ r ∈ rows, ∃ s, r = .put s
  | [], _, _ => ⟨rfl, fun r h => by cases h⟩
  | r :: rows, hok, h => by
    have ro := hok r (List.mem_cons_self ..)
    obtain ⟨i1, i2⟩ := puts_all (p := p) hO (rows := rows) (fun q hq => hok q (List.mem_cons_of_mem _ hq)) fun c hc => h c (by rw [List.flatMap_cons]; exact List.mem_append_right _ hc)
    cases r with
    | put s =>
      refine ⟨?_, fun q hq => ?_⟩
      · rw [cst_cons, i1, List.flatMap_cons, List.length_append, List.length_cons, Nat.mul_succ]
        have e1 : (CRow.mk O (.put s)).length = s.length := cd_len s
        have e2 : (CRow.put s).puts = s.length := rfl
        omega
      · rcases List.mem_cons.mp hq with rfl | hq
        · exact ⟨s, rfl⟩
        · exact i2 q hq
    | copy a k =>
      exfalso
      have h1 : 1 ≤ k := ro.p
      have h2 : a + k ≤ n := ro.h
      have h3 : a < O.length := by omega
      have hm : O[a] ∈ CRow.mk O (.copy a k) := by
        show O[a] ∈ (O.drop a).take k
        refine List.mem_take_iff_getElem.mpr ⟨0, by rw [List.length_drop]; omega, ?_⟩
        simp
      have h4 := h _ (by rw [List.flatMap_cons]; exact List.mem_append_left _ hm)
      have h5 : inB O [O[a]] = true := by
        refine inB_iff.mpr ⟨a, by show a + 1 ≤ O.length; omega, ?_⟩
        show (O.drop a).take 1 = [O[a]]
        rw [List.drop_eq_getElem_cons h3]
        rfl
      rw [h4] at h5
      cases h5
theorem one_put {p : Nat} {o l : Str} {rows : List CRow} (m : Made p o l rows) (hp : 1 ≤ p) (h : ∀ c ∈ cd l, inB (cd o) [c] = false) (hn : cd l ≠ []) : rows = [.put l] := by
  have h1 := m.cst
  have h2 := lea_put (p := p) (O := cd o) hn
  rw [cd_len] at h2
  obtain ⟨h3, h4⟩ := puts_all (p := p) (cd_len o) m.ok.ok (fun c hc => h c (by rw [← m.mkN]; exact hc))
  rw [m.mkN, cd_len] at h3
  have h5 : p * rows.length ≤ p := by omega
  match rows, h4, h5, m.mkN with
  | [], _, _, e => exact absurd e.symm hn
  | [r], h4, _, e =>
    obtain ⟨s, rfl⟩ := h4 _ (List.mem_singleton.mpr rfl)
    have e2 : cd s = cd l := by
      rw [List.flatMap_cons, List.flatMap_nil, List.append_nil] at e
      exact e
    rw [cd_inj e2]
  | r1 :: r2 :: rows, _, h5, _ =>
    rw [List.length_cons, List.length_cons, Nat.mul_succ, Nat.mul_succ] at h5
    omega
theorem in_seg (O : List Nat) (i j : Nat) : inB O (segL O i j) = true := by
  by_cases h : i ≤ O.length
  · refine inB_iff.mpr ⟨i, ?_, ?_⟩
    · unfold segL
      rw [List.length_take, List.length_drop]
      omega
    · unfold segL
      rw [List.length_take, List.length_drop]
      by_cases h2 : j - i ≤ O.length - i
      · rw [Nat.min_eq_left h2]
      · rw [Nat.min_eq_right (by omega), List.take_of_length_le (by rw [List.length_drop]; exact Nat.le_refl _), List.take_of_length_le (by rw [List.length_drop]; omega)]
  · unfold segL
    rw [List.drop_eq_nil_of_le (by omega), List.take_nil]
    exact inB_iff.mpr ⟨0, by simp, rfl⟩
theorem in_nil (O : List Nat) : inB O [] = true := inB_iff.mpr ⟨0, by simp, rfl⟩
def φone_copy (K : PySem.W.Frag) : V → V → V → Hp → VK → Prop := fun x y z H Q => ∃ (F : Hp) (o l : Str) (p : Nat) (rows : List CRow), y = .str o ∧ z = .str l ∧ Same F H ∧ Chg K F x o.length rows ∧ Made p o l rows ∧ 1 ≤ p ∧ okS o ∧ okS l ∧ o.length ≤ 400 ∧ l.length ≤ 400 ∧ inB (cd o) (cd l) = true ∧ ∀ F2 H2, W [] F H F2 H2 [] → Q (.bl true) H2
end R

namespace R
open PySem PySem.Spec PyProof.Rows L2
/-! ### xs[a:b] = ys -/
def setSlG (v x : V) (l u : Option Int) (H : Hp) (Z : Hp → Prop) : Prop := ∃ (p b : Addr) (xs ys : List V) (a c : Int), v = .ref b ∧ x = .ref p ∧ l = some a ∧ u = some c ∧ H p = some (.lst xs) ∧ H b = some (.lst ys) ∧ p ≠ b ∧ 0 ≤ a ∧ a ≤ c ∧ c ≤ xs.length ∧ xs.length + ys.length ≤ sizeLine ∧ Z (upd H p (.lst (xs.take a.toNat ++ ys ++ xs.drop c.toNat)))
def tSetSl (tv to : TE) (tl th : TO) : TS := fun D σ H => tv σ H fun v H1 => to σ H1 fun x H2 => tl σ H2 fun l H3 => th σ H3 fun u H4 => setSlG v x l u H4 fun H5 => D.nx σ H5
theorem ps_setSl {X : Cx} {o value : Expr} {lo hi : Option Expr} {p2 pos pos' : Pos} {tv to : TE} {tl th : TO} (hv : PE X value tv) (ho : PE X o to) (hl : PO X lo tl) (hu : PO X hi th)
    (hs : swapsWith value (some (.Subscript o (.Slice lo hi none p2) pos')) pos.line X.env = pure false) : PS X (.Assign [.Subscript o (.Slice lo hi none p2) pos'] value pos) (tSetSl tv to tl th) := by
  refine ⟨fun pins s σ H D I h => ?_⟩
  refine wpAny_Assign_Subscript (thn (hv.run pins s σ H _ I h) fun r s1 ⟨v, H1, I1, rv, q1⟩ => thn (ho.run pins s1 σ H1 _ I1 q1) fun w s2 ⟨x, H2, I2, rx, q2⟩ =>
    wpAny_Slice (thn (hl.run pins s2 σ H2 _ I2 q2) fun vl s3 ⟨l, H3, I3, pl, q3⟩ => thn (hu.run pins s3 σ H3 _ I3 q3) fun vu s4 ⟨u, H4, I4, pu, q4⟩ => ?_)) hs
  rw [evalPart_none]
  refine wpAny_pure ?_
  have I5 : Inv X pins σ H4 { s4 with heap := s4.heap.push { cls := .type "slice", data := .fields #[vl, vu, .none] } } := I4.kept (t' := s4.toks) fun b ob q => Heap.get?_push_of_some _ q
  obtain ⟨p, b, xs, ys, a, c, rfl, rfl, rfl, rfl, hp, hb, hne, h0, hac, hc, hz, q⟩ := q4
  obtain rfl : r = Value.ref b := rv
  obtain rfl : w = Value.ref p := rx
  cases pl with
  | int a ta =>
    cases pu with
    | int c tc => exact set_slice I5 hp hb hne (Heap.IsSliceOf.new ..) ⟨ta, rfl⟩ ⟨tc, rfl⟩ h0 hac hc hz fun s' I' => ⟨σ, _, I', q⟩
section
variable {K : PySem.W.Frag} {M : List Addr} {F0 H0 F H : Hp} {L Rs : List Own} {p b : Addr} {xs ys : List V}
theorem x_setSl {tv to : TE} {tl th : TO} {D : Ends} {σ : L2.St} (q : tv σ H fun v H1 => to σ H1 fun x H2 => tl σ H2 fun l H3 => th σ H3 fun u H4 => setSlG v x l u H4 fun H5 => D.nx σ H5) : tSetSl tv to tl th D σ H := q
theorem n_setSl {a c : Nat} {Z : Hp → Prop} (w : W M F0 H0 F H L) (k : Pick L [mu p (.lst xs), mu b (.lst ys)] Rs) (hac : a ≤ c) (hc : c ≤ xs.length) (hz : xs.length + ys.length ≤ sizeLine)
    (h : ∀ H2, W M F0 H0 F H2 (mu p (.lst (xs.take a ++ ys ++ xs.drop c)) :: mu b (.lst ys) :: Rs) → Z H2) : setSlG (.ref b) (.ref p) (some (a : Nat)) (some (c : Nat)) H Z := by
  have w2 := w.to k
  have h1 : H p = some (.lst xs) := w2.at_ (List.mem_cons_self ..)
  have h2 : H b = some (.lst ys) := w2.at_ (List.mem_cons_of_mem _ (List.mem_cons_self ..))
  have hd := w2.d
  have hne : p ≠ b := fun e => by
    subst e
    have : (p :: p :: []).Nodup := hd
    exact absurd (List.mem_singleton.mpr rfl) (List.nodup_cons.mp this).1
  refine ⟨p, b, xs, ys, a, c, rfl, rfl, rfl, rfl, h1, h2, hne, by omega, by omega, by omega, hz, ?_⟩
  have w3 : W M F0 H0 F H (mu p (.lst xs) :: mu b (.lst ys) :: Rs) := w.perm k.perm
  rw [show ((a : Nat) : Int).toNat = a from rfl, show ((c : Nat) : Int).toNat = c from rfl]
  exact h _ (w3.wr (.cons .here .nil))
end
end R

namespace R
open PySem PySem.Spec PyProof.Rows L2
/-! ### rows of a plan, judged -/
inductive JR where
  | put (to : Int) (s : Str)
  | keep (to f m : Int)
  | lay (to f m : Int)
  | copy (to f m : Int)
def JR.d : JR → PyData
  | .put to s => .tuple [.str "put", .int to, .str s]
  | .keep to f m => .tuple [.str "keep", .int to, .int f, .int m]
  | .lay to f m => .tuple [.str "lay", .int to, .int f, .int m]
  | .copy to f m => .tuple [.str "copy", .int to, .int f, .int m]
def JR.sOk : JR → Prop
  | .put _ s => okS s ∧ s.length ≤ 1000
  | _ => True
def JR.to : JR → Int
  | .put to _ => to
  | .keep to _ _ => to
  | .lay to _ _ => to
  | .copy to _ _ => to
def JR.isK : JR → Bool
  | .keep _ _ _ => true
  | _ => false
def heldV (xs : List V) (f m : Int) : Option (List V) := if f < 0 ∨ m < 1 ∨ (xs.length : Int) < f + m then none else if inV .non ((xs.drop f.toNat).take m.toNat) = true then none else some ((xs.drop f.toNat).take m.toNat)
def whatV (cs ss : List V) : JR → Option (List V)
  | .put _ s => if s.length = 0 then none else some (chars s)
  | .lay _ f m => heldV ss f m
  | .copy to f m => if to = f then none else heldV cs f m
  | .keep _ f m => heldV cs f m
def goalV (r : JR) (cs ss : List V) : List V := if r.isK then ss else cs
def doneV (r : JR) (cs ss : List V) : Option (List V × List V) := match whatV cs ss r with
  | none => none
  | some ys => if r.to < 0 ∨ ((goalV r cs ss).length : Int) < r.to + (ys.length : Int) then none else
    some (if r.isK then (cs, laidL ss r.to.toNat ys) else (laidL cs r.to.toNat ys, ss))
def stepsJ : List JR → List V × List V → Option (List V × List V)
  | [], st => some st
  | r :: rs, st => (doneV r st.1 st.2).bind (stepsJ rs)
theorem steps_app : ∀ (a b : List JR) (st : List V × List V), stepsJ (a ++ b) st = (stepsJ a st).bind (stepsJ b)
  | [], _, _ => rfl
  | r :: a, b, st => by
    show (doneV r st.1 st.2).bind (stepsJ (a ++ b)) = ((doneV r st.1 st.2).bind (stepsJ a)).bind (stepsJ b)
    cases doneV r st.1 st.2 with
    | none => rfl
    | some s2 => exact steps_app a b s2
theorem steps_take {rows : List JR} {i : Nat} {r : JR} {st s2 : List V × List V} (hr : rows[i]? = some r) (h : stepsJ (rows.take i) st = some s2) : stepsJ (rows.take (i + 1)) st = doneV r s2.1 s2.2 := by
  rw [List.take_add_one, hr, steps_app, h]
  show (doneV r s2.1 s2.2).bind (stepsJ []) = _
  cases doneV r s2.1 s2.2 <;> rfl
/-- what a room is: flat, and how long -/
theorem held_len {xs ys : List V} {f m : Int} (h : heldV xs f m = some ys) : 1 ≤ ys.length ∧ ys.length ≤ xs.length := by
  unfold heldV at h
  split at h
  · cases h
  · split at h
    · cases h
    · cases h
      rw [List.length_take, List.length_drop]
      omega
theorem held_mem {xs ys : List V} {f m : Int} (h : heldV xs f m = some ys) : ∀ v ∈ ys, v ∈ xs := by
  unfold heldV at h
  split at h
  · cases h
  · split at h
    · cases h
    · cases h
      exact fun v hv => List.mem_of_mem_drop (List.mem_of_mem_take hv)
theorem what_len {cs ss ys : List V} {r : JR} (hr : r.sOk) (h : whatV cs ss r = some ys) : 1 ≤ ys.length ∧ (ys.length ≤ 1000 ∨ ys.length ≤ cs.length ∨ ys.length ≤ ss.length) := by
  cases r with
  | put to s =>
    unfold whatV at h
    simp only at h
    split at h
    · cases h
    · cases h
      rw [chars_len]
      exact ⟨by omega, .inl hr.2⟩
  | keep to f m => exact ⟨(held_len h).1, .inr (.inl (held_len h).2)⟩
  | lay to f m => exact ⟨(held_len h).1, .inr (.inr (held_len h).2)⟩
  | copy to f m =>
    unfold whatV at h
    simp only at h
    split at h
    · cases h
    · exact ⟨(held_len h).1, .inr (.inl (held_len h).2)⟩
theorem what_flat {cs ss ys : List V} {r : JR} (hr : r.sOk) (hc : ∀ v ∈ cs, FlatV v) (hs : ∀ v ∈ ss, FlatV v) (h : whatV cs ss r = some ys) : ∀ v ∈ ys, FlatV v := by
  cases r with
  | put to s =>
    unfold whatV at h
    simp only at h
    split at h
    · cases h
    · cases h
      exact chars_flat hr.1
  | keep to f m => exact fun v hv => hc v (held_mem h v hv)
  | lay to f m => exact fun v hv => hs v (held_mem h v hv)
  | copy to f m =>
    unfold whatV at h
    simp only at h
    split at h
    · cases h
    · exact fun v hv => hc v (held_mem h v hv)
theorem laidL_mem {xs zs : List V} {to : Nat} : ∀ v ∈ laidL xs to zs, v ∈ xs ∨ v ∈ zs := fun v hv => by
  unfold laidL at hv
  rcases List.mem_append.mp hv with hv | hv
  · rcases List.mem_append.mp hv with hv | hv
    · exact .inl (List.mem_of_mem_take hv)
    · exact .inr hv
  · exact .inl (List.mem_of_mem_drop hv)
theorem laidL_len {xs zs : List V} {to : Nat} (h : to + zs.length ≤ xs.length) : (laidL xs to zs).length = xs.length := by
  unfold laidL
  rw [List.length_append, List.length_append, List.length_take, List.length_drop]
  omega
structure StJ (a b : Nat) (st : List V × List V) : Prop where
  c : st.1.length = a
  s : st.2.length = b
  fc : ∀ v ∈ st.1, FlatV v
  fs : ∀ v ∈ st.2, FlatV v
theorem StJ.step {a b : Nat} {st s2 : List V × List V} {r : JR} (h : StJ a b st) (hr : r.sOk) (hd : doneV r st.1 st.2 = some s2) : StJ a b s2 := by
  unfold doneV at hd
  cases hw : whatV st.1 st.2 r with
  | none => rw [hw] at hd; cases hd
  | some ys =>
    rw [hw] at hd
    have hf := what_flat hr h.fc h.fs hw
    simp only at hd
    split at hd
    · cases hd
    · rename_i hn
      cases hd
      unfold goalV at hn
      cases hk : r.isK with
      | true =>
        rw [hk, if_pos rfl] at hn
        rw [if_pos rfl]
        exact ⟨h.c, by show (laidL st.2 _ ys).length = b; rw [laidL_len (by omega)]; exact h.s, h.fc, fun v hv => (laidL_mem v hv).elim (h.fs v) (hf v)⟩
      | false =>
        rw [hk, if_neg (by decide)] at hn
        rw [if_neg (by decide)]
        exact ⟨by show (laidL st.1 _ ys).length = a; rw [laidL_len (by omega)]; exact h.c, h.s, fun v hv => (laidL_mem v hv).elim (h.fc v) (hf v), h.fs⟩
theorem StJ.steps {a b : Nat} : ∀ {rows : List JR} {st s2 : List V × List V}, StJ a b st → (∀ r ∈ rows, r.sOk) → stepsJ rows st = some s2 → StJ a b s2
  | [], st, s2, h, _, e => by cases e; exact h
  | r :: rows, st, s2, h, hr, e => by
    have e2 : (doneV r st.1 st.2).bind (stepsJ rows) = some s2 := e
    cases hd : doneV r st.1 st.2 with
    | none => rw [hd] at e2; cases e2
    | some s3 =>
      rw [hd] at e2
      exact (h.step (hr r (List.mem_cons_self ..)) hd).steps (fun q hq => hr q (List.mem_cons_of_mem _ hq)) e2
theorem flat_all {xs : List V} (h : ∀ v ∈ xs, FlatV v) : xs.all flatV = true := by
  rw [List.all_eq_true]
  intro v hv
  rcases h v hv with rfl | ⟨i, rfl⟩ | ⟨z, rfl, _⟩ <;> rfl
theorem scal_flat {u v : V} (hu : FlatV u) (hv : FlatV v) : scal u v = true := by
  rcases hu with rfl | ⟨i, rfl⟩ | ⟨z, rfl, _⟩ <;> rcases hv with rfl | ⟨j, rfl⟩ | ⟨y, rfl, _⟩ <;> rfl
theorem cell_flat {n : Nat} {v : V} (h : CellOk n v) : FlatV v := by
  rcases h with ⟨i, rfl, _⟩ | ⟨c, rfl, hc⟩
  · exact .inr (.inl ⟨_, rfl⟩)
  · refine .inr (.inr ⟨_, rfl, ?_, by show 1 ≤ 100; decide⟩)
    show (⟨#[c]⟩ : Str).cps.all (· < 0x110000) = true
    rw [← Array.all_toList]
    simpa using hc
/-! ### by data -/
section
variable {K : PySem.W.Frag} {F : Hp} {x : V}
theorem dp_jput {to : Int} {s : Str} (h : Dp K F x (JR.put to s).d) : ∃ a, x = .ref a ∧ SqT K F a [.str "put", .int to, .str s] := by
  obtain ⟨a, v1, v2, v3, rfl, hs, h1, h2, h3⟩ := dp_tup3 h
  rw [dp_str h1, dp_int h2, dp_str h3] at hs
  exact ⟨a, rfl, hs⟩
theorem dp_j4 {wd : Str} {to f m : Int} (h : Dp K F x (.tuple [.str wd, .int to, .int f, .int m])) : ∃ a, x = .ref a ∧ SqT K F a [.str wd, .int to, .int f, .int m] := by
  obtain ⟨p, v1, v2, v3, v4, rfl, hs, h1, h2, h3, h4⟩ := dp_tup4 h
  rw [dp_str h1, dp_int h2, dp_int h3, dp_int h4] at hs
  exact ⟨p, rfl, hs⟩
end
/-! ### promises -/
def φheld44 (K : PySem.W.Frag) (els : Bool) : V → V → V → Hp → VK → Prop := fun x y z H Q => ∃ (F : Hp) (a : Addr) (xs : List V) (f m : Int), x = .ref a ∧ y = .int f ∧ z = .int m ∧ Same F H ∧ SqL K F a xs ∧ (∀ v ∈ xs, FlatV v) ∧ xs.length ≤ 1000 ∧
  (heldV xs f m = none → els = true → ∀ F2 H2, W [] F H F2 H2 [] → Q .non H2) ∧ (heldV xs f m = none → els = false → ∀ p F2 H2, H p = none → W [] F H F2 H2 [mu p (.lst [])] → Q (.ref p) H2) ∧
  ∀ ys, heldV xs f m = some ys → ∀ p F2 H2, H p = none → W [] F H F2 H2 [mu p (.lst ys)] → Q (.ref p) H2
def φwhat44 (K : PySem.W.Frag) (els : Bool) : V → V → V → Hp → VK → Prop := fun x y z H Q => ∃ (F : Hp) (a b : Addr) (cs ss : List V) (r : JR), y = .ref a ∧ z = .ref b ∧ Same F H ∧ Dp K F x r.d ∧ SqL K F a cs ∧ SqL K F b ss ∧ r.sOk ∧ (∀ v ∈ cs, FlatV v) ∧ (∀ v ∈ ss, FlatV v) ∧ cs.length ≤ 1000 ∧ ss.length ≤ 1000 ∧
  (whatV cs ss r = none → els = true → ∀ F2 H2, W [] F H F2 H2 [] → Q .non H2) ∧ (whatV cs ss r = none → els = false → ∀ p F2 H2, H p = none → W [] F H F2 H2 [mu p (.lst [])] → Q (.ref p) H2) ∧
  ∀ ys, whatV cs ss r = some ys → ∀ p F2 H2, H p = none → W [] F H F2 H2 [mu p (.lst ys)] → Q (.ref p) H2
def φdone44 (K : PySem.W.Frag) : V → V → V → Hp → VK → Prop := fun x y z H Q => ∃ (F : Hp) (a b : Addr) (cs ss : List V) (r : JR), y = .ref a ∧ z = .ref b ∧ St F H [mu a (.lst cs), mu b (.lst ss)] ∧ Dp K F x r.d ∧ r.sOk ∧ (∀ v ∈ cs, FlatV v) ∧ (∀ v ∈ ss, FlatV v) ∧ cs.length ≤ 1000 ∧ ss.length ≤ 1000 ∧
  (doneV r cs ss = none → ∀ F2 H2, W [a, b] F H F2 H2 [mu a (.lst cs), mu b (.lst ss)] → Q (.bl false) H2) ∧
  ∀ cs2 ss2, doneV r cs ss = some (cs2, ss2) → ∀ F2 H2, W [a, b] F H F2 H2 [mu a (.lst cs2), mu b (.lst ss2)] → Q (.bl true) H2
/-- the first fault -/
inductive PfOk (due : List V) (rows : List JR) (st0 : List V × List V) : PyData → Prop where
  | row (i : Nat) (r : JR) (st : List V × List V) : rows[i]? = some r → stepsJ (rows.take i) st0 = some st → doneV r st.1 st.2 = none → PfOk due rows st0 (.tuple [.str "row", .int (i : Nat)])
  | cell (p : Nat) (u v : V) (st : List V × List V) : stepsJ rows st0 = some st → due[p]? = some u → st.1[p]? = some v → v ≠ u → (∀ q, q < p → st.1[q]? = due[q]?) → PfOk due rows st0 (.tuple [.str "cell", .int (p : Nat)])
  | none (st : List V × List V) : stepsJ rows st0 = some st → (∀ q, q < due.length → st.1[q]? = due[q]?) → PfOk due rows st0 .none
def st0J (n big extra : Nat) : List V × List V := ((List.range n).map (fun (k : Nat) => V.int (k : Nat)) ++ List.replicate (big - n) .non, List.replicate extra .non)
theorem st0_ok (n big extra : Nat) : StJ (n + (big - n)) extra (st0J n big extra) := by
  refine ⟨?_, ?_, fun v hv => ?_, fun v hv => ?_⟩
  · show ((List.range n).map (fun (k : Nat) => V.int (k : Nat)) ++ List.replicate (big - n) V.non).length = _
    rw [List.length_append, List.length_map, List.length_range, List.length_replicate]
  · exact List.length_replicate
  · rcases List.mem_append.mp hv with hv | hv
    · obtain ⟨k, _, rfl⟩ := List.mem_map.mp hv
      exact .inr (.inl ⟨_, rfl⟩)
    · rw [List.eq_of_mem_replicate hv]; exact .inl rfl
  · rw [List.eq_of_mem_replicate hv]; exact .inl rfl
def φfault44 (K : PySem.W.Frag) : V → V → V → Hp → VK → Prop := fun x y z H Q => ∃ (F : Hp) (a : Addr) (vs : List V) (n extra : Nat) (rows : List CRow) (js : List JR), y = .ref a ∧ z = .int (extra : Nat) ∧ Same F H ∧ Chg K F x n rows ∧ RowsOk n rows ∧ n ≤ 400 ∧ SqL K F a vs ∧ DpAll K F vs (js.map JR.d) ∧ (∀ r ∈ js, r.sOk) ∧ js.length ≤ 1000 ∧ extra ≤ 400 ∧
  ∀ v d F2 H2, W [] F H F2 H2 [dat K v d] → PfOk (cellsV rows) js (st0J n (cellsV rows).length extra) d → Q v H2
theorem n_eqF {K : PySem.W.Frag} {H : Hp} {Q : VK} {p r : Addr} {ys : List V} (h1 : SqL K H p ys) (h2 : SqL K H r []) (hf : ∀ v ∈ ys, FlatV v) (hl : ys.length ≤ 100000) (q : Q (.bl (decide (ys = []))) H) : rEqD K (.ref p) (.ref r) H Q := by
  have g := flat_good hf hl
  refine ⟨_, _, .lst h1 (flat_dpa hf), .lst h2 .nil, good_shaped g.1 (Nat.le_trans g.2 (by decide)), good_shaped rfl (by decide), ?_⟩
  cases ys <;> exact q
theorem ixNatJ {n j : Nat} (h : j < n) : ixN n ((j : Nat) : Int) = some j := by
  unfold ixN
  rw [if_pos (by omega), if_pos (by omega)]
  rfl
def φwalk44 (K : PySem.W.Frag) : V → V → V → Hp → VK → Prop := fun x y z H Q => ∃ (F : Hp) (sp a b : Addr) (vs : List V) (js : List JR) (cs ss : List V) (A B : Nat), x = .ref sp ∧ y = .ref a ∧ z = .ref b ∧ St F H [mu a (.lst cs), mu b (.lst ss)] ∧ SqL K F sp vs ∧ DpAll K F vs (js.map JR.d) ∧ (∀ r ∈ js, r.sOk) ∧ StJ A B (cs, ss) ∧ A ≤ 1000 ∧ B ≤ 1000 ∧ js.length ≤ 1000 ∧
  (∀ (i : Nat) (r : JR) (st : List V × List V), js[i]? = some r → stepsJ (js.take i) (cs, ss) = some st → doneV r st.1 st.2 = none → ∀ F2 H2, W [a, b] F H F2 H2 [mu a (.lst st.1), mu b (.lst st.2)] → Q (.int (i : Nat)) H2) ∧
  ∀ st : List V × List V, stepsJ js (cs, ss) = some st → ∀ F2 H2, W [a, b] F H F2 H2 [mu a (.lst st.1), mu b (.lst st.2)] → Q .non H2
def φnumber44 (K : PySem.W.Frag) : V → V → Hp → VK → Prop := fun x y H Q => ∃ (F : Hp) (b : Addr) (n : Int), x = .ref b ∧ y = .int n ∧ St F H [bag K b] ∧
  ∀ (m : Int) F2 H2, W [b] F H F2 H2 [bag K b] → Q (.int m) H2
def φanyrow44 (K : PySem.W.Frag) : V → V → V → Hp → VK → Prop := fun x y z H Q => ∃ (F : Hp) (b : Addr) (big extra : Nat), x = .ref b ∧ y = .int (big : Nat) ∧ z = .int (extra : Nat) ∧ St F H [bag K b] ∧ big ≤ 400 ∧ extra ≤ 400 ∧
  ∀ t (r : JR) F2 H2, W [b] F H F2 H2 [dat K (.ref t) r.d, bag K b] → r.sOk → Q (.ref t) H2
def cellRow : V → CRow
  | .int i => .copy i.toNat 1
  | .str s => .put s
  | _ => .copy 0 0
def φrowsof44 (K : PySem.W.Frag) : V → Hp → VK → Prop := fun x H Q => ∃ (F : Hp) (a : Addr) (cs : List V) (n : Nat), x = .ref a ∧ Same F H ∧ SqL K F a cs ∧ (∀ v ∈ cs, CellOk n v) ∧ cs.length ≤ 400 ∧
  ∀ p ys F2 H2, H p = none → W [] F H F2 H2 [mu p (.lst ys), dpa K ys ((cs.map cellRow).map CRow.d)] → Q (.ref p) H2
/-- rows that can be done, one that can't, the cells they leave -/
structure DrOk (n big extra : Nat) (good : List JR) (bad : Option (Nat × JR)) (cs : List V) : Prop where
  s : ∀ r ∈ good, r.sOk
  l : good.length ≤ 400
  g : ∃ ss, stepsJ good (st0J n big extra) = some (cs, ss)
  b : ∀ k r, bad = some (k, r) → r.sOk ∧ k ≤ good.length ∧ ∃ st, stepsJ (good.take k) (st0J n big extra) = some st ∧ doneV r st.1 st.2 = none
  c : ∀ v ∈ cs, CellOk n v
  z : cs.length = big
theorem pick_any {ns : List Int} {i : Int} (h0 : 0 ≤ i) (h1 : i < (ns.length : Int)) : ∃ m, atI (ns.map V.int) i = some (.int m) := by
  have hi : i.toNat < ns.length := by omega
  refine ⟨ns[i.toNat], at_of (j := i.toNat) (by omega) ?_⟩
  rw [List.getElem?_map, List.getElem?_eq_getElem hi]
  rfl
theorem jr_good {m : JR} (h : m.sOk) : good m.d = true ∧ m.d.depth ≤ 1 := by
  have d4 : ∀ (wd : Str) (a b c : Int), good (.str wd) = true → good (.tuple [.str wd, .int a, .int b, .int c]) = true ∧ (PyData.tuple [.str wd, .int a, .int b, .int c]).depth ≤ 1 := fun wd a b c hw => by
    constructor
    · refine good_tuple (by simp) fun d hd => ?_
      simp only [List.mem_cons, List.not_mem_nil, or_false] at hd
      rcases hd with rfl | rfl | rfl | rfl <;> first | exact hw | rfl
    · refine depth_tuple fun d hd => ?_
      simp only [List.mem_cons, List.not_mem_nil, or_false] at hd
      rcases hd with rfl | rfl | rfl | rfl <;> exact Nat.le_refl _
  cases m with
  | put to s =>
    constructor
    · refine good_tuple (by simp) fun d hd => ?_
      simp only [List.mem_cons, List.not_mem_nil, or_false] at hd
      rcases hd with rfl | rfl | rfl
      · decide +kernel
      · rfl
      · exact str_good h.1 (Nat.le_trans h.2 (by decide))
    · refine depth_tuple fun d hd => ?_
      simp only [List.mem_cons, List.not_mem_nil, or_false] at hd
      rcases hd with rfl | rfl | rfl <;> exact Nat.le_refl _
  | keep to f m => exact d4 _ _ _ _ (by decide +kernel)
  | lay to f m => exact d4 _ _ _ _ (by decide +kernel)
  | copy to f m => exact d4 _ _ _ _ (by decide +kernel)
theorem jrs_good {ms : List JR} (h : ∀ m ∈ ms, m.sOk) (hl : ms.length ≤ 100000) : good (.list (ms.map JR.d)) = true ∧ (PyData.list (ms.map JR.d)).depth ≤ 2 := by
  constructor
  · refine good_list (by rw [List.length_map]; exact hl) fun d hd => ?_
    obtain ⟨r, hr, rfl⟩ := List.mem_map.mp hd
    exact (jr_good (h r hr)).1
  · refine depth_list fun d hd => ?_
    obtain ⟨r, hr, rfl⟩ := List.mem_map.mp hd
    exact (jr_good (h r hr)).2
/-- cells stay cells -/
theorem what_cell {n : Nat} {cs ss ys : List V} {r : JR} (hr : r.sOk) (hc : ∀ v ∈ cs, CellOk n v) (hs : ∀ v ∈ ss, v = .non ∨ CellOk n v) (h : whatV cs ss r = some ys) : ∀ v ∈ ys, CellOk n v := by
  have hnon : ∀ {xs : List V} {f m : Int}, heldV xs f m = some ys → .non ∉ ys := fun {xs f m} h => by
    unfold heldV at h
    split at h
    · cases h
    · split at h
      · cases h
      · rename_i hi
        cases h
        intro hz
        refine hi ?_
        unfold inV
        exact List.any_eq_true.mpr ⟨.non, hz, rfl⟩
  cases r with
  | put to s =>
    unfold whatV at h
    simp only at h
    split at h
    · cases h
    · cases h
      intro v hv
      obtain ⟨c, hcm, rfl⟩ := chars_get' hv
      have h2 : s.cps.all (· < 0x110000) = true := hr.1
      rw [← Array.all_toList, List.all_eq_true] at h2
      exact .inr ⟨c, rfl, by simpa using h2 c hcm⟩
  | keep to f m => exact fun v hv => hc v (held_mem h v hv)
  | lay to f m => exact fun v hv => (hs v (held_mem h v hv)).elim (fun e => absurd (e ▸ hv) (hnon h)) id
  | copy to f m =>
    unfold whatV at h
    simp only at h
    split at h
    · cases h
    · exact fun v hv => hc v (held_mem h v hv)
structure DrI (n big extra i : Nat) (good : List JR) (bad : Option (Nat × JR)) (cs ss : List V) : Prop where
  s : ∀ r ∈ good, r.sOk
  l : good.length ≤ i
  g : stepsJ good (st0J n big extra) = some (cs, ss)
  b : ∀ k r, bad = some (k, r) → r.sOk ∧ k ≤ good.length ∧ ∃ st, stepsJ (good.take k) (st0J n big extra) = some st ∧ doneV r st.1 st.2 = none
  c : (1 ≤ i ∨ big = n) → ∀ v ∈ cs, CellOk n v
  f : ∀ v ∈ ss, v = .non ∨ CellOk n v
  j : StJ big extra (cs, ss)
  o : i = 0 → cs = (st0J n big extra).1
theorem drI_nil {n big : Nat} (hn : n ≤ big) (extra : Nat) : DrI n big extra 0 [] none (st0J n big extra).1 (st0J n big extra).2 := by
  refine ⟨(fun r h => nomatch h), Nat.le_refl _, rfl, (fun k r h => nomatch h), fun h v hv => ?_, fun v hv => ?_, ?_, fun _ => rfl⟩
  · have e : big = n := h.resolve_left (by decide)
    subst e
    rcases List.mem_append.mp hv with hv | hv
    · obtain ⟨k, hk, rfl⟩ := List.mem_map.mp hv
      exact .inl ⟨k, rfl, List.mem_range.mp hk⟩
    · rw [Nat.sub_self] at hv
      cases hv
  · exact .inl (List.eq_of_mem_replicate hv)
  · have := st0_ok n big extra
    rwa [show n + (big - n) = big by omega] at this
/-- the first row, where the new text is longer -/
theorem first_row {n big extra : Nat} {ss : List V} {s : Str} (hs : s.length = big - n) (hb : n < big) : doneV (.put (n : Nat) s) (st0J n big extra).1 ss = some ((List.range n).map (fun (k : Nat) => V.int (k : Nat)) ++ chars s, ss) := by
  have hw : whatV (st0J n big extra).1 ss (.put (n : Nat) s) = some (chars s) := if_neg (by omega)
  have hl : (st0J n big extra).1.length = big := by
    show ((List.range n).map (fun (k : Nat) => V.int (k : Nat)) ++ List.replicate (big - n) V.non).length = _
    rw [List.length_append, List.length_map, List.length_range, List.length_replicate]
    omega
  unfold doneV
  rw [hw]
  show (if (n : Int) < 0 ∨ ((st0J n big extra).1.length : Int) < (n : Int) + ((chars s).length : Int) then none else some (laidL (st0J n big extra).1 n (chars s), ss)) = _
  rw [if_neg (by rw [hl, chars_len]; omega)]
  congr 2
  unfold laidL
  show ((List.range n).map (fun (k : Nat) => V.int (k : Nat)) ++ List.replicate (big - n) V.non).take n ++ chars s ++ ((List.range n).map (fun (k : Nat) => V.int (k : Nat)) ++ List.replicate (big - n) V.non).drop (n + (chars s).length) = _
  rw [List.take_left' (by rw [List.length_map, List.length_range]), List.drop_of_length_le (by rw [List.length_append, List.length_map, List.length_range, List.length_replicate, chars_len]; omega), List.append_nil]
theorem DrI.skip {n big extra i : Nat} {good : List JR} {bad : Option (Nat × JR)} {cs ss : List V} {r : JR} (h : DrI n big extra i good bad cs ss) (hf : i = 0 → n < big → ∃ s : Str, r = .put (n : Nat) s ∧ s.length = big - n) (hn : doneV r cs ss = none) : DrI n big extra (i + 1) good bad cs ss := by
  refine ⟨h.s, Nat.le_succ_of_le h.l, h.g, h.b, fun _ => ?_, h.f, h.j, fun e => nomatch e⟩
  by_cases e0 : i = 0
  · by_cases hb : n < big
    · obtain ⟨s, rfl, hs⟩ := hf e0 hb
      rw [h.o e0, first_row hs hb] at hn
      cases hn
    · have hl := h.j.c
      refine h.c (.inr ?_)
      have e1 := h.o e0
      have : (st0J n big extra).1.length = n + (big - n) := (st0_ok n big extra).c
      have hl : cs.length = big := hl
      rw [e1, this] at hl
      omega
  · exact h.c (.inl (by omega))
theorem DrI.bad {n big extra i : Nat} {good : List JR} {cs ss : List V} {r : JR} (h : DrI n big extra i good none cs ss) (hr : r.sOk) (hn : doneV r cs ss = none) : DrI n big extra i good (some (good.length, r)) cs ss := by
  refine ⟨h.s, h.l, h.g, fun k r2 e => ?_, h.c, h.f, h.j, h.o⟩
  cases e
  exact ⟨hr, Nat.le_refl _, (cs, ss), by rw [List.take_length]; exact h.g, hn⟩
theorem DrI.add {n big extra i : Nat} {good : List JR} {bad : Option (Nat × JR)} {cs ss : List V} {r : JR} {st : List V × List V} (h : DrI n big extra i good bad cs ss) (hr : r.sOk) (hf : i = 0 → n < big → ∃ s : Str, r = .put (n : Nat) s ∧ s.length = big - n) (hd : doneV r cs ss = some st) : DrI n big extra (i + 1) (good ++ [r]) bad st.1 st.2 := by
  have key : (∀ v ∈ st.1, CellOk n v) ∧ ∀ v ∈ st.2, v = .non ∨ CellOk n v := by
    by_cases hc : i = 0 ∧ n < big
    · obtain ⟨s, rfl, hs⟩ := hf hc.1 hc.2
      rw [h.o hc.1, first_row hs hc.2] at hd
      cases hd
      refine ⟨fun v hv => ?_, h.f⟩
      rcases List.mem_append.mp hv with hv | hv
      · obtain ⟨k, hk, rfl⟩ := List.mem_map.mp hv
        exact .inl ⟨k, rfl, List.mem_range.mp hk⟩
      · obtain ⟨c, hcm, rfl⟩ := chars_get' hv
        have h2 : s.cps.all (· < 0x110000) = true := hr.1
        rw [← Array.all_toList, List.all_eq_true] at h2
        exact .inr ⟨c, rfl, by simpa using h2 c hcm⟩
    · have hcc : ∀ v ∈ cs, CellOk n v := by
        by_cases e0 : i = 0
        · refine h.c (.inr ?_)
          have hl : cs.length = big := h.j.c
          have : (st0J n big extra).1.length = n + (big - n) := (st0_ok n big extra).c
          rw [h.o e0, this] at hl
          omega
        · exact h.c (.inl (by omega))
      unfold doneV at hd
      cases hw : whatV cs ss r with
      | none => rw [hw] at hd; cases hd
      | some ys =>
        rw [hw] at hd
        have hy := what_cell hr hcc h.f hw
        simp only at hd
        split at hd
        · cases hd
        · cases hd
          cases hk : r.isK with
          | true =>
            rw [if_pos rfl]
            exact ⟨hcc, fun v hv => (laidL_mem v hv).elim (h.f v) fun z => .inr (hy v z)⟩
          | false =>
            rw [if_neg (by decide)]
            exact ⟨fun v hv => (laidL_mem v hv).elim (hcc v) (hy v), h.f⟩
  refine ⟨fun r2 h2 => ?_, by rw [List.length_append]; exact Nat.succ_le_succ h.l, ?_, fun k r2 e => ?_, fun _ => key.1, key.2, h.j.step hr hd, fun e => nomatch e⟩
  · rcases List.mem_append.mp h2 with h2 | h2
    · exact h.s r2 h2
    · rw [List.mem_singleton.mp h2]; exact hr
  · rw [steps_app, h.g]
    show (doneV r cs ss).bind (stepsJ []) = _
    rw [hd]
    rfl
  · obtain ⟨b1, b2, b3⟩ := h.b k r2 e
    refine ⟨b1, by rw [List.length_append]; omega, ?_⟩
    rw [List.take_append_of_le_length b2]
    exact b3
theorem DrI.done {n big extra i : Nat} {good : List JR} {bad : Option (Nat × JR)} {cs ss : List V} (h : DrI n big extra i good bad cs ss) (h1 : 1 ≤ i) (h2 : i ≤ 400) : DrOk n big extra good bad cs :=
  ⟨h.s, Nat.le_trans h.l h2, ⟨ss, h.g⟩, h.b, h.c (.inl h1), h.j.c⟩
def badD : Option (Nat × JR) → PyData
  | none => .none
  | some (k, r) => .tuple [.int (k : Nat), r.d]
def φdrawn44 (K : PySem.W.Frag) : V → V → V → V → V → Hp → VK → Prop := fun x1 x2 x3 x4 x5 H Q => ∃ (F : Hp) (b : Addr) (n big extra many : Nat), x1 = .ref b ∧ x2 = .int (n : Nat) ∧ x3 = .int (big : Nat) ∧ x4 = .int (extra : Nat) ∧ x5 = .int (many : Nat) ∧ St F H [bag K b] ∧ n ≤ big ∧ big ≤ 100 ∧ extra ≤ 400 ∧ 1 ≤ many ∧ many ≤ 400 ∧
  ∀ t pg pc vg vb (good : List JR) (bad : Option (Nat × JR)) (cs : List V) F2 H2, H pg = none → H pc = none → W [b] F H F2 H2 [fx t (.tup [.ref pg, vb, .ref pc]), mu pg (.lst vg), dpa K vg (good.map JR.d), dat K vb (badD bad), mu pc (.lst cs), bag K b] → DrOk n big extra good bad cs → Q (.ref t) H2
def φright44 (K : PySem.W.Frag) : V → V → V → V → Hp → VK → Prop := fun x1 x2 x3 x4 H Q => ∃ (F : Hp) (a : Addr) (vs : List V) (n extra : Nat) (rows : List CRow) (js : List JR) (d : PyData), x2 = .ref a ∧ x3 = .int (extra : Nat) ∧ Same F H ∧ Chg K F x1 n rows ∧ RowsOk n rows ∧ n ≤ 400 ∧ SqL K F a vs ∧ DpAll K F vs (js.map JR.d) ∧ (∀ r ∈ js, r.sOk) ∧ js.length ≤ 1000 ∧ extra ≤ 400 ∧ Dp K F x4 d ∧ (∀ d2, PfOk (cellsV rows) js (st0J n (cellsV rows).length extra) d2 → d2 = d) ∧ good d = true ∧ d.depth ≤ 3 ∧
  ∀ F2 H2, W [] F H F2 H2 [] → Q (.bl true) H2
/-! ### one fault -/
theorem steps_fail {rows : List JR} {i : Nat} {r : JR} {st0 st : List V × List V} (hr : rows[i]? = some r) (h : stepsJ (rows.take i) st0 = some st) (hn : doneV r st.1 st.2 = none) (j : Nat) (hj : i < j) : stepsJ (rows.take j) st0 = none := by
  have e1 := steps_take hr h
  rw [hn] at e1
  have e2 : rows.take j = rows.take (i + 1) ++ (rows.drop (i + 1)).take (j - (i + 1)) := by
    rw [← List.take_add, show i + 1 + (j - (i + 1)) = j by omega]
  rw [e2, steps_app, e1]
  rfl
theorem pf_one {due : List V} {rows : List JR} {st0 : List V × List V} {d1 d2 : PyData} (h1 : PfOk due rows st0 d1) (h2 : PfOk due rows st0 d2) : d1 = d2 := by
  have nofull : ∀ {i : Nat} {r : JR} {st s2 : List V × List V}, rows[i]? = some r → stepsJ (rows.take i) st0 = some st → doneV r st.1 st.2 = none → stepsJ rows st0 = some s2 → False := fun {i r st s2} a b c d => by
    have := steps_fail a b c rows.length (List.getElem?_eq_some_iff.mp a).1
    rw [List.take_length, d] at this
    cases this
  cases h1 with
  | row i r st a b c =>
    cases h2 with
    | row i2 r2 st2 a2 b2 c2 =>
      rcases Nat.lt_trichotomy i i2 with h | h | h
      · have := steps_fail a b c i2 h
        rw [b2] at this
        cases this
      · rw [h]
      · have := steps_fail a2 b2 c2 i h
        rw [b] at this
        cases this
    | cell p u v st2 a2 => exact (nofull a b c a2).elim
    | none st2 a2 => exact (nofull a b c a2).elim
  | cell p u v st a b c ne lt =>
    cases h2 with
    | row i2 r2 st2 a2 b2 c2 => exact (nofull a2 b2 c2 a).elim
    | cell p2 u2 v2 st2 a2 b2 c2 ne2 lt2 =>
      rw [a] at a2
      cases a2
      rcases Nat.lt_trichotomy p p2 with h | h | h
      · have := lt2 p h
        rw [b, c] at this
        exact absurd (Option.some.inj this) ne
      · rw [h]
      · have := lt p2 h
        rw [b2, c2] at this
        exact absurd (Option.some.inj this) ne2
    | none st2 a2 e2 =>
      rw [a] at a2
      cases a2
      have := e2 p (List.getElem?_eq_some_iff.mp b).1
      rw [b, c] at this
      exact absurd (Option.some.inj this) ne
  | none st a e =>
    cases h2 with
    | row i2 r2 st2 a2 b2 c2 => exact (nofull a2 b2 c2 a).elim
    | cell p2 u2 v2 st2 a2 b2 c2 ne2 lt2 =>
      rw [a] at a2
      cases a2
      have := e p2 (List.getElem?_eq_some_iff.mp b2).1
      rw [b2, c2] at this
      exact absurd (Option.some.inj this) ne2
    | none st2 a2 e2 => rfl
theorem cell_rows {n : Nat} {cs : List V} (h : ∀ v ∈ cs, CellOk n v) (hl : cs.length ≤ 400) : RowsOk n (cs.map cellRow) := by
  have h1 : ∀ v ∈ cs, CRowOk n (cellRow v) ∧ (cellRow v).gives = 1 := fun v hv => by
    rcases h v hv with ⟨i, rfl, hi⟩ | ⟨c, rfl, hc⟩
    · exact ⟨⟨trivial, by show 1 ≤ 1; omega, by show i + 1 ≤ n; omega⟩, rfl⟩
    · refine ⟨⟨⟨?_, by show 1 ≤ 1000; decide⟩, by show 1 ≤ 1; omega, Nat.zero_le _⟩, rfl⟩
      show (⟨#[c]⟩ : Str).cps.all (· < 0x110000) = true
      rw [← Array.all_toList]
      simpa using hc
  refine ⟨fun r hr => ?_, ?_⟩
  · obtain ⟨v, hv, rfl⟩ := List.mem_map.mp hr
    exact (h1 v hv).1
  · have e : ∀ cs : List V, (∀ v ∈ cs, (cellRow v).gives = 1) → givesL (cs.map cellRow) = cs.length := by
      intro cs
      induction cs with
      | nil => intro _; rfl
      | cons v cs ih =>
        intro h
        show (cellRow v).gives + givesL (cs.map cellRow) = cs.length + 1
        rw [h v (List.mem_cons_self ..), ih fun u hu => h u (List.mem_cons_of_mem _ hu)]
        omega
    rw [e cs fun v hv => (h1 v hv).2]
    exact hl
theorem cell_back {n : Nat} : ∀ {cs : List V}, (∀ v ∈ cs, CellOk n v) → cellsV (cs.map cellRow) = cs
  | [], _ => rfl
  | v :: cs, h => by
    have ih := cell_back (cs := cs) fun u hu => h u (List.mem_cons_of_mem _ hu)
    have e : cellsV ((v :: cs).map cellRow) = (cellRow v).cellV ++ cellsV (cs.map cellRow) := rfl
    rw [e, ih]
    rcases h v (List.mem_cons_self ..) with ⟨i, rfl, hi⟩ | ⟨c, rfl, hc⟩
    · rfl
    · rfl
theorem one_str {s : Str} (h : s.length = 1) (ho : okS s) : ∃ c, s = ⟨#[c]⟩ ∧ c < 0x110000 := by
  obtain ⟨⟨l⟩⟩ := s
  match l, h with
  | [c], _ =>
    refine ⟨c, rfl, ?_⟩
    have h2 : (⟨#[c]⟩ : Str).cps.all (· < 0x110000) = true := ho
    rw [← Array.all_toList] at h2
    simpa using h2
theorem pf_good {n big extra : Nat} {good : List JR} {bad : Option (Nat × JR)} {cs : List V} (h : DrOk n big extra good bad cs) : PfOk cs good (st0J n cs.length extra) .none := by
  obtain ⟨ss, hg⟩ := h.g
  rw [h.z]
  exact .none (cs, ss) hg fun q _ => rfl
theorem pf_bad {n big extra k : Nat} {r : JR} {good : List JR} {cs : List V} (h : DrOk n big extra good (some (k, r)) cs) : PfOk cs (good.take k ++ [r] ++ good.drop k) (st0J n cs.length extra) (.tuple [.str "row", .int (k : Nat)]) := by
  obtain ⟨hr, hk, st, hs, hd⟩ := h.b k r rfl
  have hl : (good.take k).length = k := by rw [List.length_take]; omega
  rw [h.z]
  refine .row k r st ?_ ?_ hd
  · rw [List.append_assoc, List.getElem?_append_right (by omega), hl, Nat.sub_self]
    rfl
  · rw [List.append_assoc, List.take_left' hl]
    exact hs
theorem pf_cell {n big extra p : Nat} {good : List JR} {bad : Option (Nat × JR)} {cs : List V} {u v : V} (h : DrOk n big extra good bad cs) (hv : cs[p]? = some v) (hne : u ≠ v) : PfOk (cs.take p ++ [u] ++ cs.drop (p + 1)) good (st0J n (cs.take p ++ [u] ++ cs.drop (p + 1)).length extra) (.tuple [.str "cell", .int (p : Nat)]) := by
  obtain ⟨ss, hg⟩ := h.g
  have hp := (List.getElem?_eq_some_iff.mp hv).1
  have hl : (cs.take p).length = p := by rw [List.length_take]; omega
  have hz : (cs.take p ++ [u] ++ cs.drop (p + 1)).length = big := by
    rw [List.length_append, List.length_append, hl, List.length_drop, ← h.z]
    show p + 1 + _ = _
    omega
  rw [hz]
  refine .cell p u v (cs, ss) hg ?_ hv (fun e => hne e.symm) fun q hq => ?_
  · rw [List.append_assoc, List.getElem?_append_right (by omega), hl, Nat.sub_self]
    rfl
  · rw [List.append_assoc, List.getElem?_append_left (by omega), List.getElem?_take_of_lt hq]
theorem dpa_takeJ {K : PySem.W.Frag} {F : Hp} : ∀ {vs : List V} {ds : List PyData} (n : Nat), DpAll K F vs ds → DpAll K F (vs.take n) (ds.take n)
  | _, _, 0, _ => by rw [List.take_zero, List.take_zero]; exact .nil
  | _, _, n + 1, .nil => .nil
  | _, _, n + 1, .cons d t => .cons d (dpa_takeJ n t)
theorem dpa_dropJ {K : PySem.W.Frag} {F : Hp} : ∀ {vs : List V} {ds : List PyData} (n : Nat), DpAll K F vs ds → DpAll K F (vs.drop n) (ds.drop n)
  | _, _, 0, h => h
  | _, _, n + 1, .nil => .nil
  | _, _, n + 1, .cons d t => dpa_dropJ n t
theorem rr_good (k : Nat) : good (.tuple [.str "row", .int (k : Nat)]) = true := by
  refine good_tuple (by simp) fun d hd => ?_
  rcases List.mem_cons.mp hd with rfl | hd
  · decide +kernel
  · rw [List.mem_singleton.mp hd]; rfl
theorem rc_good (k : Nat) : good (.tuple [.str "cell", .int (k : Nat)]) = true := by
  refine good_tuple (by simp) fun d hd => ?_
  rcases List.mem_cons.mp hd with rfl | hd
  · decide +kernel
  · rw [List.mem_singleton.mp hd]; rfl
end R

namespace Z
open PySem PySem.Spec PyProof.Rows L2 R

local macro_rules | `(tactic| walk_at "osq") => `(tactic| first
  | assumption
  | exact sqL_of upd_same
  | exact sqL_of (by assumption)
  | exact sqL_same (by assumption) (by assumption)
  | exact Mu.sq (by assumption)
  | exact sqL_same (Gr.ws (by assumption)) (by assumption)
  | exact sqL_same (Gr.fh (by assumption)) (by assumption))
local macro_rules | `(tactic| walk_at "ost") => `(tactic| first
  | assumption
  | exact sqT_of upd_same
  | exact sqT_of (by assumption)
  | exact sqT_same (by assumption) (by assumption)
  | exact sqT_same (Gr.ws (by assumption)) (by assumption)
  | exact sqT_same (Gr.fh (by assumption)) (by assumption))
local macro_rules | `(tactic| walk_at "owp") => `(tactic| dsimp only [wipe, List.map, List.set_cons_succ, List.set_cons_zero])
local macro_rules | `(tactic| walk_at "og1") => `(tactic| first
  | with_reducible refine w_seq ?_
  | with_reducible refine w_asg ?_
  | with_reducible refine w_v0 ?_ | with_reducible refine w_v1 ?_ | with_reducible refine w_v2 ?_ | with_reducible refine w_v3 ?_
  | with_reducible refine w_v4 ?_ | with_reducible refine w_v5 ?_ | with_reducible refine w_v6 ?_ | with_reducible refine w_v7 ?_
  | with_reducible refine w_v8 ?_ | with_reducible refine w_v9 ?_ | with_reducible refine w_v10 ?_ | with_reducible refine w_v11 ?_
  | with_reducible refine w_v12 ?_ | with_reducible refine w_v13 ?_
  | with_reducible refine w_n0 ?_ | with_reducible refine w_n1 ?_ | with_reducible refine w_n2 ?_ | with_reducible refine w_n3 ?_
  | with_reducible refine w_n4 ?_ | with_reducible refine w_n5 ?_ | with_reducible refine w_n6 ?_ | with_reducible refine w_n7 ?_
  | with_reducible refine w_n8 ?_ | with_reducible refine w_n9 ?_ | with_reducible refine w_n10 ?_ | with_reducible refine w_n11 ?_
  | with_reducible refine w_n12 ?_ | with_reducible refine w_n13 ?_
  | with_reducible refine w_c ?_ | with_reducible refine w_op ?_ | with_reducible refine w_un ?_
  | with_reducible refine w_add ?_ | with_reducible refine w_subt ?_
  | with_reducible refine w_lt ?_ | with_reducible refine w_le ?_ | with_reducible refine w_gt ?_ | with_reducible refine w_ge ?_
  | ((with_reducible refine w_mul ?c ?_); (case c => first | exact .inl ⟨by omega, by omega⟩ | exact .inr ⟨by omega, by omega⟩))
  | ((with_reducible refine w_mod ?c ?_); (case c => first | omega | decide))
  | ((with_reducible refine w_fdiv ?c ?_); (case c => exact divw_ok (by omega) (by omega)))
  | ((with_reducible refine w_pow ?c ?_); (case c => exact ⟨by omega, by omega, by omega⟩))
  | with_reducible refine w_neg ?_ | with_reducible refine w_bits ?_
  | with_reducible refine w_eqI ?_ | with_reducible refine w_neI ?_ | with_reducible refine w_eqS ?_ | with_reducible refine w_neS ?_
  | with_reducible refine w_eqB ?_ | with_reducible refine w_neB ?_ | with_reducible refine w_isN ?_ | with_reducible refine w_notN ?_
  | with_reducible refine w_test ?_ | with_reducible refine w_tB ?_ | with_reducible refine w_asBl ?_
  | with_reducible refine w_and ?_ | with_reducible refine w_or ?_ | with_reducible refine w_not ?_ | with_reducible refine w_if ?_
  | with_reducible refine w_truth ?_ | with_reducible refine w_yes ?_
  | with_reducible refine w_andV ?_ | with_reducible refine w_orV ?_ | with_reducible refine w_notV ?_
  | with_reducible refine w_nil ?_ | with_reducible refine w_cons ?_ | with_reducible refine w_call ?_ | with_reducible refine w_callN ?_
  | with_reducible refine w_CB ?_ | with_reducible refine w_tup ?_ | with_reducible refine w_lst ?_ | with_reducible refine w_sl ?_
  | with_reducible refine w_nop ?_ | with_reducible refine w_part ?_ | with_reducible refine w_asInt ?_
  | with_reducible refine w_BM0 ?_ | with_reducible refine w_BM ?_ | with_reducible refine w_M0 ?_ | with_reducible refine w_M1 ?_
  | with_reducible refine w_asStr ?_ | with_reducible refine w_sub ?_
  | with_reducible refine w_ret ?_ | with_reducible refine w_retN ?_ | with_reducible refine w_drop ?_ | with_reducible refine w_ifS ?_
  | with_reducible refine w_nx ?_ | with_reducible refine w_cont ?_ | with_reducible refine w_brk ?_
  | with_reducible refine w_for ?_ | with_reducible refine w_rng1 ?_ | with_reducible refine w_rng2 ?_ | with_reducible refine w_ilist ?_ | with_reducible refine w_itup ?_ | with_reducible refine w_istr ?_
  | with_reducible refine w_lc ?_
  | with_reducible refine w_tt ?_ | with_reducible refine w_ff ?_ | with_reducible refine w_ntt ?_ | with_reducible refine w_nff ?_
  | with_reducible refine w_int1 ?_ | with_reducible refine w_int1b ?_ | with_reducible refine w_abs ?_
  | with_reducible refine w_min2 ?_ | with_reducible refine w_max2 ?_ | with_reducible refine w_min3 ?_
  | ((with_reducible apply w_ixL _ _ ?c ?d); (case c => walk_at "osq"); (case d => rfl))
  | ((with_reducible apply w_b1 _ _ _ _ _ ?c); (case c => first | exact upd_same | assumption))
  | ((with_reducible apply w_b2 _ _ _ _ _ ?c); (case c => first | exact upd_same | assumption))
  | ((with_reducible apply w_b3 _ _ _ _ _ ?c); (case c => first | exact upd_same | assumption))
  | ((with_reducible apply w_b4 _ _ _ _ _ ?c); (case c => first | exact upd_same | assumption))
  | ((with_reducible apply w_setL _ _ ?c ?d); (case c => first | exact upd_same | assumption); (case d => rfl))
  | ((with_reducible apply w_lenQ _ ?c); (case c => walk_at "osq"))
  | ((with_reducible apply w_ixT _ _ ?c ?d); (case c => walk_at "ost"); (case d => rfl))
  | ((with_reducible apply w_lenS ?c); (case c => first | assumption | exact szle (by omega)))
  | ((with_reducible apply w_tgt _ ?c ?d); (case c => walk_at "ost"); (case d => rfl)) | with_reducible refine w_gc ?_ | with_reducible refine w_gn ?_
  | with_reducible refine w_self ?_ | with_reducible refine w_nself ?_
  | ((with_reducible refine w_iteF ?c ?_); (case c => decide +kernel))
  | ((with_reducible refine w_iteT ?c ?_); (case c => decide +kernel))
  | with_reducible refine w_lstRg ?_ | with_reducible refine w_rg1 ?_ | with_reducible refine w_revL ?_
  | ((with_reducible apply w_app _ ?c ?d); (case c => first | exact upd_same | assumption | exact Mu.h (by assumption)); (case d => first | exact small_lt (by omega) | assumption))
  | ((with_reducible apply w_tyL _ ?c); (case c => walk_at "osq"))
  | ((with_reducible apply w_slL _ ?c); (case c => walk_at "osq"))
  | ((with_reducible apply w_listOf _ ?c); (case c => walk_at "osq")))
local macro_rules | `(tactic| walk_at "og") => `(tactic| repeat walk_at "og1")

local macro_rules | `(tactic| walk_at "memr") => `(tactic| first | with_reducible exact List.mem_cons_self .. | ((with_reducible refine List.mem_cons_of_mem _ ?_); walk_at "memr"))
local macro_rules | `(tactic| walk_at "memd") => `(tactic| first | exact List.mem_cons_self .. | ((with_reducible refine List.mem_cons_of_mem _ ?_); walk_at "memd"))
local macro_rules | `(tactic| walk_at "mem") => `(tactic| first | walk_at "memr" | walk_at "memd")
local macro_rules | `(tactic| walk_at "rm") => `(tactic| first | with_reducible exact Rm.here | ((with_reducible apply Rm.there); walk_at "rm"))
local macro_rules | `(tactic| walk_at "rmd") => `(tactic| first | exact Rm.here | ((with_reducible apply Rm.there); walk_at "rmd"))
local macro_rules | `(tactic| walk_at "pick") => `(tactic| first | with_reducible exact Pick.nil | ((with_reducible apply Pick.cons); (first | walk_at "rm" | walk_at "rmd"); walk_at "pick"))
local macro_rules | `(tactic| walk_at "pk") => `(tactic| exact ⟨_, by walk_at "pick"⟩)
local macro_rules | `(tactic| walk_at "app") => `(tactic| first | with_reducible exact App.nil | ((with_reducible apply App.cons); walk_at "app"))
local macro_rules | `(tactic| walk_at "w") => `(tactic| first | assumption | exact W.to (by assumption) (by walk_at "pick"))
local macro_rules | `(tactic| walk_at "lb") => `(tactic| first | assumption | omega | exact szle (by simp) | exact szle (by omega) | exact szle (by simp; omega) | exact small_lt (by omega) | exact small_lt (by simp; omega))
local macro_rules | `(tactic| walk_at "sq") => `(tactic| first
  | assumption
  | exact W.sqM (by assumption) (by walk_at "mem")
  | exact W.sqF (by assumption) (by walk_at "mem")
  | exact W.sqI (by assumption) (by walk_at "mem")
  | exact W.sq0 (by assumption) (by assumption))
local macro_rules | `(tactic| walk_at "st") => `(tactic| first
  | assumption
  | exact W.stF (by assumption) (by walk_at "mem")
  | exact W.stI (by assumption) (by walk_at "mem")
  | exact W.st0 (by assumption) (by assumption))
local macro_rules | `(tactic| walk_at "at") => `(tactic| first
  | assumption
  | exact W.at_ (by assumption) (by walk_at "mem")
  | exact W.fx (by assumption) (by walk_at "mem"))
local macro_rules | `(tactic| walk_at "wp") => `(tactic| dsimp only [wipe, List.map, List.set_cons_succ, List.set_cons_zero])
local macro_rules | `(tactic| walk_at "go1") => `(tactic| first
  | with_reducible refine w_seq ?_
  | with_reducible refine w_asg ?_
  | with_reducible refine w_v0 ?_ | with_reducible refine w_v1 ?_ | with_reducible refine w_v2 ?_ | with_reducible refine w_v3 ?_
  | with_reducible refine w_v4 ?_ | with_reducible refine w_v5 ?_ | with_reducible refine w_v6 ?_ | with_reducible refine w_v7 ?_
  | with_reducible refine w_v8 ?_ | with_reducible refine w_v9 ?_ | with_reducible refine w_v10 ?_ | with_reducible refine w_v11 ?_
  | with_reducible refine w_v12 ?_ | with_reducible refine w_v13 ?_
  | with_reducible refine w_n0 ?_ | with_reducible refine w_n1 ?_ | with_reducible refine w_n2 ?_ | with_reducible refine w_n3 ?_
  | with_reducible refine w_n4 ?_ | with_reducible refine w_n5 ?_ | with_reducible refine w_n6 ?_ | with_reducible refine w_n7 ?_
  | with_reducible refine w_n8 ?_ | with_reducible refine w_n9 ?_ | with_reducible refine w_n10 ?_ | with_reducible refine w_n11 ?_
  | with_reducible refine w_n12 ?_ | with_reducible refine w_n13 ?_
  | with_reducible refine w_c ?_ | with_reducible refine w_op ?_ | with_reducible refine w_un ?_
  | with_reducible refine w_add ?_ | with_reducible refine w_subt ?_
  | with_reducible refine w_lt ?_ | with_reducible refine w_le ?_ | with_reducible refine w_gt ?_ | with_reducible refine w_ge ?_
  | ((with_reducible refine w_mul ?c ?_); (case c => first | exact .inl ⟨by omega, by omega⟩ | exact .inr ⟨by omega, by omega⟩))
  | ((with_reducible refine w_mod ?c ?_); (case c => first | omega | decide))
  | ((with_reducible refine w_fdiv ?c ?_); (case c => exact divw_ok (by omega) (by omega)))
  | ((with_reducible refine w_pow ?c ?_); (case c => exact ⟨by omega, by omega, by omega⟩))
  | with_reducible refine w_neg ?_ | with_reducible refine w_bits ?_
  | with_reducible refine w_eqI ?_ | with_reducible refine w_neI ?_ | with_reducible refine w_eqS ?_ | with_reducible refine w_neS ?_
  | with_reducible refine w_eqB ?_ | with_reducible refine w_neB ?_ | with_reducible refine w_isN ?_ | with_reducible refine w_notN ?_
  | with_reducible refine w_test ?_ | with_reducible refine w_tB ?_ | with_reducible refine w_asBl ?_
  | with_reducible refine w_and ?_ | with_reducible refine w_or ?_ | with_reducible refine w_not ?_ | with_reducible refine w_if ?_
  | with_reducible refine w_truth ?_ | with_reducible refine w_yes ?_
  | with_reducible refine w_andV ?_ | with_reducible refine w_orV ?_ | with_reducible refine w_notV ?_
  | with_reducible refine w_nil ?_ | with_reducible refine w_cons ?_ | with_reducible refine w_call ?_ | with_reducible refine w_callN ?_
  | with_reducible refine w_CB ?_ | with_reducible refine w_sl ?_
  | with_reducible refine w_nop ?_ | with_reducible refine w_part ?_ | with_reducible refine w_asInt ?_
  | with_reducible refine w_BM0 ?_ | with_reducible refine w_BM ?_ | with_reducible refine w_M0 ?_ | with_reducible refine w_M1 ?_
  | with_reducible refine w_asStr ?_ | with_reducible refine w_sub ?_
  | with_reducible refine w_ret ?_ | with_reducible refine w_retN ?_ | with_reducible refine w_drop ?_ | with_reducible refine w_ifS ?_
  | with_reducible refine w_nx ?_ | with_reducible refine w_cont ?_ | with_reducible refine w_brk ?_
 
 
  | ((with_reducible refine n_adds ?c ?_); (case c => first | exact szle (by decide +kernel) | exact szle (by omega)))
  | ((with_reducible apply x_aug ?c ?_); (case c => rfl))
  | ((with_reducible refine n_ipI ?_); (try dsimp only [List.set_cons_succ, List.set_cons_zero]))
  | with_reducible refine w_fldE ?_ | with_reducible refine w_sfldE ?_ | with_reducible refine x_meth ?_ | with_reducible refine x_make ?_
  | ((with_reducible apply n_fld ?c ?d ?a ?b); (case c => walk_at "at"); (case d => rfl); (case a => assumption); (case b => assumption))
  | ((with_reducible apply n_meth ?c ?d); (case c => walk_at "at"); (case d => rfl))
  | with_reducible refine x_tup ?_ | with_reducible refine x_lst ?_ | with_reducible refine x_for ?_ | with_reducible refine x_lc ?_ | with_reducible refine x_revL ?_ | with_reducible refine x_lstRg ?_
  | with_reducible refine w_dnewT ?_ | with_reducible refine w_dnewK ?_ | with_reducible refine w_dget ?_ | with_reducible refine w_din ?_
  | with_reducible refine w_dnotin ?_ | with_reducible refine w_dput ?_ | with_reducible refine w_dsetT ?_ | with_reducible refine w_rg2 ?_
  | with_reducible refine w_chain3 ?_ | with_reducible refine w_chain ?_
  | with_reducible refine x_rng1 ?_ | with_reducible refine x_rng2 ?_ | with_reducible refine x_il ?_ | with_reducible refine x_it ?_ | with_reducible refine x_is ?_
  | ((with_reducible refine n_rng1 ?c ?d ?_); (case c => omega); (case d => omega))
  | ((with_reducible refine n_rng2 ?c ?d ?e ?f ?_); (case c => omega); (case d => omega); (case e => omega); (case f => omega))
  | ((with_reducible apply n_il ?c ?_); (case c => walk_at "sq"))
  | ((with_reducible apply n_it ?c ?_); (case c => walk_at "st"))
  | with_reducible refine n_is ?_
  | ((with_reducible apply w_lenQT _ ?c); (case c => walk_at "st"))
  | ((with_reducible refine x_wp ?c ?_); (case c => rfl))
  | with_reducible refine w_tt ?_ | with_reducible refine w_ff ?_ | with_reducible refine w_ntt ?_ | with_reducible refine w_nff ?_
  | with_reducible refine w_int1 ?_ | with_reducible refine w_int1b ?_ | with_reducible refine w_abs ?_
  | with_reducible refine w_min2 ?_ | with_reducible refine w_max2 ?_ | with_reducible refine w_min3 ?_
  | ((with_reducible apply w_ixL _ _ ?c ?d); (case c => walk_at "sq"); (case d => rfl))
  | ((with_reducible apply w_lenQ _ ?c); (case c => walk_at "sq"))
  | ((with_reducible apply w_ixT _ _ ?c ?d); (case c => walk_at "st"); (case d => rfl))
  | ((with_reducible apply w_lenS ?c); (case c => first | assumption | exact szle (by omega)))
  | ((with_reducible apply w_tgt _ ?c ?d); (case c => walk_at "st"); (case d => rfl)) | with_reducible refine w_gc ?_ | with_reducible refine w_gn ?_
  | with_reducible refine w_self ?_ | with_reducible refine w_nself ?_
  | ((with_reducible refine w_iteF ?c ?_); (case c => decide +kernel))
  | ((with_reducible refine w_iteT ?c ?_); (case c => decide +kernel))
  | with_reducible refine w_rg1 ?_
  | ((with_reducible apply w_tyL _ ?c); (case c => walk_at "sq")))
local macro_rules | `(tactic| walk_at "go") => `(tactic| repeat walk_at "go1")

local macro_rules | `(tactic| walk_at "go1") => `(tactic| first
  | with_reducible refine x_setSl ?_ | with_reducible refine x_en ?_)

def topS (i : Nat) : Stmt := PySem.Challenge.pw_remadehere_k44_any_rows_judged.main.body.getD i (.Pass ⟨0, 0, 0, 0⟩)
abbrev s_gives : Stmt := topS 6
theorem sc_gives : FnScope ["row", "size"] ["row", "size"] (defScope s_gives) := ⟨rfl, rfl, rfl, by decide +kernel, rfl, by decide +kernel, by decide +kernel⟩
abbrev s_ChangeX_initX : Stmt := inClass (topS 8) 0
theorem sc_ChangeX_initX : FnScope ["self", "size", "rows", "many", "k", "more"] ["self", "size", "rows"] (defScope s_ChangeX_initX) := ⟨rfl, rfl, rfl, by decide +kernel, rfl, by decide +kernel, by decide +kernel⟩
abbrev s_Change_cells : Stmt := inClass (topS 8) 4
theorem sc_Change_cells : FnScope ["self", "found", "row"] ["self"] (defScope s_Change_cells) := ⟨rfl, rfl, rfl, by decide +kernel, rfl, by decide +kernel, by decide +kernel⟩
abbrev s_held : Stmt := topS 10
theorem sc_held : FnScope ["some", "first", "many", "found"] ["some", "first", "many"] (defScope s_held) := ⟨rfl, rfl, rfl, by decide +kernel, rfl, by decide +kernel, by decide +kernel⟩
abbrev s_brought : Stmt := topS 11
theorem sc_brought : FnScope ["row", "cells", "slots"] ["row", "cells", "slots"] (defScope s_brought) := ⟨rfl, rfl, rfl, by decide +kernel, rfl, by decide +kernel, by decide +kernel⟩
abbrev s_done : Stmt := topS 12
theorem sc_done : FnScope ["row", "cells", "slots", "some", "goal", "to"] ["row", "cells", "slots"] (defScope s_done) := ⟨rfl, rfl, rfl, by decide +kernel, rfl, by decide +kernel, by decide +kernel⟩
abbrev s_plan_fault : Stmt := topS 13
theorem sc_plan_fault : FnScope ["change", "plan", "spare", "due", "cells", "slots", "k", "row", "place", "one"] ["change", "plan", "spare"] (defScope s_plan_fault) := ⟨rfl, rfl, rfl, by decide +kernel, rfl, by decide +kernel, by decide +kernel⟩
abbrev s_law_bag : Stmt := topS 15
theorem sc_law_bag : FnScope ["script", "stir", "cell"] ["script"] (defScope s_law_bag) := ⟨rfl, rfl, rfl, by decide +kernel, rfl, by decide +kernel, by decide +kernel⟩
abbrev s_law_stirred : Stmt := topS 16
theorem sc_law_stirred : FnScope ["bag", "many", "found", "k"] ["bag", "many"] (defScope s_law_stirred) := ⟨rfl, rfl, rfl, by decide +kernel, rfl, by decide +kernel, by decide +kernel⟩
abbrev s_law_draw : Stmt := topS 17
theorem sc_law_draw : FnScope ["bag", "many", "found"] ["bag", "many"] (defScope s_law_draw) := ⟨rfl, rfl, rfl, by decide +kernel, rfl, by decide +kernel, by decide +kernel⟩
abbrev s_law_text : Stmt := topS 18
theorem sc_law_text : FnScope ["bag", "many", "some", "width", "first", "k"] ["bag", "many"] (defScope s_law_text) := ⟨rfl, rfl, rfl, by decide +kernel, rfl, by decide +kernel, by decide +kernel⟩
abbrev s_law_alike : Stmt := topS 19
theorem sc_law_alike : FnScope ["found", "due", "k"] ["found", "due"] (defScope s_law_alike) := ⟨rfl, rfl, rfl, by decide +kernel, rfl, by decide +kernel, by decide +kernel⟩
abbrev s_law_held : Stmt := topS 20
theorem sc_law_held : FnScope ["some", "first", "many", "found"] ["some", "first", "many"] (defScope s_law_held) := ⟨rfl, rfl, rfl, by decide +kernel, rfl, by decide +kernel, by decide +kernel⟩
abbrev s_law_what : Stmt := topS 21
theorem sc_law_what : FnScope ["row", "cells", "slots"] ["row", "cells", "slots"] (defScope s_law_what) := ⟨rfl, rfl, rfl, by decide +kernel, rfl, by decide +kernel, by decide +kernel⟩
abbrev s_law_walk : Stmt := topS 22
theorem sc_law_walk : FnScope ["steps", "cells", "slots", "k", "some", "goal", "to", "j"] ["steps", "cells", "slots"] (defScope s_law_walk) := ⟨rfl, rfl, rfl, by decide +kernel, rfl, by decide +kernel, by decide +kernel⟩
abbrev s_law_number : Stmt := topS 23
theorem sc_law_number : FnScope ["bag", "number", "way"] ["bag", "number"] (defScope s_law_number) := ⟨rfl, rfl, rfl, by decide +kernel, rfl, by decide +kernel, by decide +kernel⟩
abbrev s_law_any_row : Stmt := topS 24
theorem sc_law_any_row : FnScope ["bag", "big", "extra", "word", "many", "most", "to", "at"] ["bag", "big", "extra"] (defScope s_law_any_row) := ⟨rfl, rfl, rfl, by decide +kernel, rfl, by decide +kernel, by decide +kernel⟩
abbrev s_law_rows_of : Stmt := topS 25
theorem sc_law_rows_of : FnScope ["cells", "one"] ["cells"] (defScope s_law_rows_of) := ⟨rfl, rfl, rfl, by decide +kernel, rfl, by decide +kernel, by decide +kernel⟩
abbrev s_law_drawn : Stmt := topS 26
theorem sc_law_drawn : FnScope ["bag", "n", "big", "extra", "many", "cells", "slots", "good", "bad", "k", "row"] ["bag", "n", "big", "extra", "many"] (defScope s_law_drawn) := ⟨rfl, rfl, rfl, by decide +kernel, rfl, by decide +kernel, by decide +kernel⟩
abbrev s_law_right : Stmt := topS 27
theorem sc_law_right : FnScope ["made", "steps", "extra", "due", "handed"] ["made", "steps", "extra", "due"] (defScope s_law_right) := ⟨rfl, rfl, rfl, by decide +kernel, rfl, by decide +kernel, by decide +kernel⟩
abbrev s_law : Stmt := topS 28
theorem sc_law : FnScope ["script", "bag", "large", "extra", "n", "big", "good", "bad", "cells", "made", "at", "row", "other"] ["script"] (defScope s_law) := ⟨rfl, rfl, rfl, by decide +kernel, rfl, by decide +kernel, by decide +kernel⟩
structure Txt (K : PySem.W.Frag) (mg : Str → Option Value) : Prop where
  b_abs : mg "abs" = none
  b_all : mg "all" = none
  b_bool : mg "bool" = none
  b_enumerate : mg "enumerate" = none
  b_int : mg "int" = none
  b_isinstance : mg "isinstance" = none
  b_len : mg "len" = none
  b_list : mg "list" = none
  b_max : mg "max" = none
  b_range : mg "range" = none
  b_str : mg "str" = none
  b_tuple : mg "tuple" = none
  c_MOST : ∃ t, mg "MOST" = some (.int 400 t)
  k_Change : Cls K (He.ga K "Change")
  na_Change_size : NoAttr K (He.ga K "Change") "size"
  na_Change_rows : NoAttr K (He.ga K "Change") "rows"
section
variable {P : Program} {w : World} {K : PySem.W.Frag} {mg : Str → Option Value} {base : Heap}
-- gives
theorem ok_gives {f : Addr} {fd : FuncData} (F : FunD K "gives" "gives" (defArgs s_gives) (defBody s_gives) (defScope s_gives) [] [] f fd) (T : Txt K mg)  : FnOk P w K mg base CX0 1 f fd ["row", "size"] (S2 (φgives K)) := by
  refine F.ok sc_gives (fun vs H Q E h => ?_) (fun cdv A outer s H vs Q E hr h => ?_)
  · exact S2.len h
  · match vs, h with
    | [v0, v1], h =>
    have hu := hu_of hr
    refine ⟨_, PSs.nox (pss_cons (ps_if (pt_cmpR op_eq (pe_ix (ixT (K := K)) (pv 0) pe_int (fun _ _ => rfl)) pe_str (nomark _)) (pss_one (ps_ret (pe_callB clLenS (by rfl) T.b_len (by decide +kernel) (pa_cons (pe_ix (ixT (K := K)) (pv 0) pe_int (fun _ _ => rfl)) pa_nil)))) pss_nil)
      (pss_cons (ps_if (PW.pt (pw_or (pt_cmpR op_lt (pe_ix (ixT (K := K)) (pv 0) pe_int (fun _ _ => rfl)) pe_int (nomark _)) (pw_or (pt_cmpR op_lt (pe_ix (ixT (K := K)) (pv 0) pe_int (fun _ _ => rfl)) pe_int (nomark _)) (pw_or1 (pt_cmpR op_gt (pe_op op_add (pe_ix (ixT (K := K)) (pv 0) pe_int (fun _ _ => rfl)) (pe_ix (ixT (K := K)) (pv 0) pe_int (fun _ _ => rfl))) (pv 1) (nomark _)))))) (pss_one (ps_ret pe_int)) pss_nil)
      (pss_one (ps_ret (pe_ix (ixT (K := K)) (pv 0) pe_int (fun _ _ => rfl)))))), ?_⟩
    rw [show start ["row", "size"] [v0, v1] = [some v0, some v1] from rfl]
    obtain ⟨F, r, n, rfl, hw, hx, hok, q⟩ := h
    have w := W.start (M := []) hw
    cases r with
    | put s =>
      obtain ⟨a, rfl, hT⟩ := dp_cput hx
      have hl := hok.s.2
      walk_at "go"
      exact q _ _ w
    | copy a k =>
      obtain ⟨p, rfl, hT⟩ := dp_ccopy hx
      have hp : 1 ≤ k := hok.p
      have hh : a + k ≤ n := hok.h
      walk_at "go"
      refine w_iteF (by omega) ?_
      walk_at "go"
      refine w_iteF (by omega) ?_
      walk_at "go"
      refine w_iteF (by omega) ?_
      walk_at "go"
      exact q _ _ w
-- Change.__init__
theorem ok_ChangeX_initX {f : Addr} {fd : FuncData} (F : FunD K "__init__" "Change.__init__" (defArgs s_ChangeX_initX) (defBody s_ChangeX_initX) (defScope s_ChangeX_initX) [] [] f fd) (T : Txt K mg) (D_gives : DO P w K mg base 1 "gives" ["row", "size"] [] (S2 (φgives K))) : FnOk P w K mg base CX0 2 f fd ["self", "size", "rows"] (S3 (φinit K)) := by
  refine F.ok sc_ChangeX_initX (fun vs H Q E h => ?_) (fun cdv A outer s H vs Q E hr h => ?_)
  · exact S3.len h
  · match vs, h with
    | [v0, v1, v2], h =>
    have hu := hu_of hr
    refine ⟨_, PSs.nox (pss_cons (ps_if (PW.pt (pw_or (pt_cmpR op_lt (pv 1) pe_int (nomark _)) (pw_or1 (pt_cmpR op_gt (pv 1) (pe_gint (by rfl) T.c_MOST) (nomark _))))) (pss_one ps_never) pss_nil)
      (pss_cons (ps_set (i := 3) sc_ChangeX_initX.nd rfl (.inl rfl) pe_int)
      (pss_cons (ps_for PassesOwn.never rfl (pi_range1 rfl T.b_range (pa_cons (pe_callB (clLenQ (K := K)) (by rfl) T.b_len (by decide +kernel) (pa_cons (pv 2) pa_nil)) pa_nil)) (pg_name (i := 4) sc_ChangeX_initX.nd rfl (.inl rfl)) (pss_cons (ps_set (i := 5) sc_ChangeX_initX.nd rfl (.inl rfl) (pcall D_gives hr (pa_cons (pe_ix (ixL (K := K)) (pv 2) (pv 4) (fun _ _ => rfl)) (pa_cons (pv 1) pa_nil))))
      (pss_cons (ps_set (i := 3) sc_ChangeX_initX.nd rfl (.inl rfl) (pe_op op_add (pv 3) (pv 5)))
      (pss_one (ps_if (PW.pt (pw_or (pt_cmpR op_eq (pv 5) pe_int (nomark _)) (pw_or1 (pt_cmpR op_gt (pv 3) (pe_gint (by rfl) T.c_MOST) (nomark _))))) (pss_one ps_never) pss_nil)))))
      (pss_cons (psFld (K := K) (pv 0) (pv 1) rfl)
      (pss_one (psFld (K := K) (pv 0) (pe_callTy (clListOf (K := K)) (by rfl) T.b_list (by decide +kernel) (pa_cons (pv 2) pa_nil)) rfl)))))), ?_⟩
    rw [show start ["self", "size", "rows", "many", "k", "more"] [v0, v1, v2] = [some v0, some v1, some v2, none, none, none] from rfl]
    have kC := T.k_Change
    have kS := T.na_Change_size
    have kR := T.na_Change_rows
    
    obtain ⟨F, c, dx, a, vs, n, rows, rfl, rfl, rfl, s0, hS, hD, hn, hok, q⟩ := h
    have w := s0.w (M := [c])
    have hrl := hok.len
    have hvl : vs.length = rows.length := by rw [dpa_len hD, List.length_map]
    obtain ⟨tM, eM⟩ := T.c_MOST
    walk_at "go"
    refine w_iteF (by omega) ?_
    walk_at "go"
    refine w_iteF (by omega) ?_
    walk_at "go"
    refine n_forR w (fun i σ L => ∃ y4 y5, σ = [some (.ref c), some (.int (n : Nat)), some (.ref a), some (.int ((givesL (rows.take i) : Nat) : Int)), y4, y5] ∧ L = [mu c (.ins (He.ga K "Change") dx [])]) ⟨none, none, rfl, rfl⟩ (fun i σ L F' H' hi hp w => ?_) (fun σ L F' H' hp w => ?_)
    · obtain ⟨y4, y5, rfl, rfl⟩ := hp
      have hi2 : i < vs.length := by omega
      obtain ⟨r, hr, dr⟩ := dpa_at hD (getD_of hi2)
      have ro := hok.ok r (List.mem_of_getElem? hr)
      have g1 := gives_take hr
      have g2 := gives_le rows (i + 1)
      have g3 := hok.sum
      have g4 := ro.p
      walk_at "go"
      refine w_ixL _ _ (by walk_at "sq") (atI_nat (getD_of hi2)) ?_
      walk_at "go"
      refine ⟨F', r, n, rfl, w.fh, w.dp0 dr, ro, fun F2 H2 w2 => ?_⟩
      replace w := w.cal .nil w2 (by walk_at "app")
      walk_at "go"
      refine w_iteF (by omega) ?_
      walk_at "go"
      refine w_iteF (by omega) ?_
      walk_at "go"
      exact nx_mk w ⟨_, _, by rw [g1]; rfl, rfl⟩ (by walk_at "pk")
    · obtain ⟨y4, y5, rfl, rfl⟩ := hp
      walk_at "go"
      refine n_sfld w (by walk_at "pick") kC kS (by show (0 : Nat) < 1000; decide) fun H2 w => ?_
      walk_at "go"
      refine n_listOf w (by walk_at "sq") fun r F3 H3 w hr => ?_
      walk_at "go"
      refine n_sfld w (by walk_at "pick") kC kR (by show (1 : Nat) < 1000; decide) fun H4 w => ?_
      exact q r F3 H4 hr (by walk_at "w")
-- Change.cells
theorem ok_Change_cells {f : Addr} {fd : FuncData} (F : FunD K "cells" "Change.cells" (defArgs s_Change_cells) (defBody s_Change_cells) (defScope s_Change_cells) [] [] f fd) (T : Txt K mg)  : FnOk P w K mg base CX0 1 f fd ["self"] (S1 (φcells K)) := by
  refine F.ok sc_Change_cells (fun vs H Q E h => ?_) (fun cdv A outer s H vs Q E hr h => ?_)
  · exact S1.len h
  · match vs, h with
    | [v0], h =>
    have hu := hu_of hr
    refine ⟨_, PSs.nox (pss_cons (ps_set (i := 1) sc_Change_cells.nd rfl (.inl rfl) (pe_lst pa_nil))
      (pss_cons (ps_for PassesOwn.never rfl (pi_list (peFld (K := K) (pv 0))) (pg_name (i := 2) sc_Change_cells.nd rfl (.inl rfl)) (pss_one (ps_if (pt_cmpR op_eq (pe_ix (ixT (K := K)) (pv 2) pe_int (fun _ _ => rfl)) pe_str (nomark _)) (pss_one (ps_expr (peBM (K := K) PySem.F.plainAttrs_list PySem.F.slot_list_extend PySem.F.type_list_extend mt_extend (pv 1) (pa_cons (pe_callTy clListS (by rfl) T.b_list (by decide +kernel) (pa_cons (pe_ix (ixT (K := K)) (pv 2) pe_int (fun _ _ => rfl)) pa_nil)) pa_nil)))) (pss_one (ps_expr (peBM (K := K) PySem.F.plainAttrs_list PySem.F.slot_list_extend PySem.F.type_list_extend mt_extend (pv 1) (pa_cons (pe_listRg rfl (by rfl) T.b_list (prg_2 (by rfl) T.b_range (pe_ix (ixT (K := K)) (pv 2) pe_int (fun _ _ => rfl)) (pe_op op_add (pe_ix (ixT (K := K)) (pv 2) pe_int (fun _ _ => rfl)) (pe_ix (ixT (K := K)) (pv 2) pe_int (fun _ _ => rfl))))) pa_nil)))))))
      (pss_one (ps_ret (pv 1))))), ?_⟩
    rw [show start ["self", "found", "row"] [v0] = [some v0, none, none] from rfl]
    have kC := T.k_Change
    have kS := T.na_Change_size
    have kR := T.na_Change_rows
    
    obtain ⟨F, n, rows, hw, hC, hok, hn, q⟩ := h
    obtain ⟨c, dx, r, vs, rfl, hc, hr, hD⟩ := hC
    have w := ((W.start (M := []) hw).push (fx c _) hc).push (fx r (.lst vs)) hr
    unfold insC at w
    walk_at "go"
    refine n_lst w (szle (by simp)) fun f F1 H1 w hf => ?_
    walk_at "go"
    refine n_forL vs w (fun i σ L => ∃ y2, σ = [some (.ref c), some (.ref f), y2] ∧ L = [mu f (.lst (cellsV (rows.take i))), fx r (.lst vs)]) ⟨none, rfl, rfl⟩ (fun i σ L F' H' hp w => ?_) (fun i x σ L F' H' hx hp w => ?_) (fun σ L F' H' hp w => ?_)
    · obtain ⟨y2, rfl, rfl⟩ := hp
      walk_at "sq"
    · obtain ⟨y2, rfl, rfl⟩ := hp
      obtain ⟨m, hm, dm⟩ := dpa_at hD hx
      have mo := hok.ok m (List.mem_of_getElem? hm)
      have e1 : cellsV (rows.take (i + 1)) = cellsV (rows.take i) ++ m.cellV := by
        unfold cellsV
        rw [List.take_add_one, hm, List.flatMap_append]
        simp
      have l1 := cells_len (rows.take i)
      have l2 := gives_le rows i
      have l3 := hok.sum
      cases m with
      | put s =>
        obtain ⟨pm, rfl, hT⟩ := dp_cput dm
        have hT := sqT_same (K := K) w.ws hT
        have hsl := mo.s.2
        walk_at "go"
        refine n_listS w (szle (by omega)) fun p2 F2 H2 w hp2 => ?_
        walk_at "go"
        refine n_ext w (by walk_at "at") (by walk_at "pick") (szle (by rw [chars_len]; omega)) fun H3 w => ?_
        rw [show chars s = (CRow.put s).cellV from rfl] at w
        rw [← e1] at w
        exact nx_mk w ⟨_, rfl, rfl⟩ (by walk_at "pk")
      | copy a k =>
        obtain ⟨pm, rfl, hT⟩ := dp_ccopy dm
        have hT := sqT_same (K := K) w.ws hT
        have hh : a + k ≤ n := mo.h
        have hk : 1 ≤ k := mo.p
        have hk2 := gives_take hm
        have hk3 := gives_le rows (i + 1)
        replace hk2 : givesL (rows.take (i + 1)) = givesL (rows.take i) + k := hk2
        walk_at "go"
        refine ⟨_, _, rfl, rfl, ?_⟩
        refine n_lstRg w (RgOk.of_le (by omega) (by omega) (by omega) (by omega)) fun p2 F2 H2 w hp2 => ?_
        rw [show rgV (a : Int) ((a : Int) + (k : Nat)) = CRow.cellV (.copy a k) by unfold rgV CRow.cellV; rw [show ((a : Int) + (k : Nat) - (a : Int)).toNat = k by omega]; rfl] at w
        walk_at "go"
        refine n_ext w (by walk_at "at") (by walk_at "pick") (szle (by rw [cellV_len]; show _ + k ≤ _; omega)) fun H3 w => ?_
        rw [← e1] at w
        exact nx_mk w ⟨_, rfl, rfl⟩ (by walk_at "pk")
    · obtain ⟨y2, rfl, rfl⟩ := hp
      rw [List.take_of_length_le (by rw [dpa_len hD, List.length_map]; exact Nat.le_refl _)] at w
      walk_at "go"
      exact q f F' H' hf (by walk_at "w")
-- held
theorem ok_held {f : Addr} {fd : FuncData} (F : FunD K "held" "held" (defArgs s_held) (defBody s_held) (defScope s_held) [] [] f fd) (T : Txt K mg)  : FnOk P w K mg base CX0 1 f fd ["some", "first", "many"] (S3 (φheld44 K true)) := by
  refine F.ok sc_held (fun vs H Q E h => ?_) (fun cdv A outer s H vs Q E hr h => ?_)
  · exact S3.len h
  · match vs, h with
    | [v0, v1, v2], h =>
    have hu := hu_of hr
    refine ⟨_, PSs.nox (pss_cons (ps_if (PW.pt (pw_or (pt_cmpR op_lt (pv 1) pe_int (nomark _)) (pw_or (pt_cmpR op_lt (pv 2) pe_int (nomark _)) (pw_or1 (pt_cmpR op_gt (pe_op op_add (pv 1) (pv 2)) (pe_callB (clLenQ (K := K)) (by rfl) T.b_len (by decide +kernel) (pa_cons (pv 0) pa_nil)) (nomark _)))))) (pss_one (ps_ret pe_non)) pss_nil)
      (pss_cons (ps_set (i := 3) sc_held.nd rfl (.inl rfl) (pe_slice (slL (K := K)) (pv 0) (po_some (pv 1)) (po_some (pe_op op_add (pv 1) (pv 2)))))
      (pss_one (ps_ret (pe_ifExp (pt_cmpR (opIn (K := K)) pe_non (pv 3) (by rfl)) pe_non (pv 3)))))), ?_⟩
    rw [show start ["some", "first", "many", "found"] [v0, v1, v2] = [some v0, some v1, some v2, none] from rfl]
    obtain ⟨F, a, xs, f, m, rfl, rfl, rfl, hw, hS, hf, hl, q1, q2, q3⟩ := h
    have w := (W.start (M := []) hw).push (imL K a xs) hS
    walk_at "go"
    by_cases h1 : f < 0
    · rw [decide_eq_true h1]
      walk_at "go"
      have hn : heldV xs f m = none := by unfold heldV; rw [if_pos (.inl h1)]
      exact q1 hn rfl _ _ (w.to .nil)
    rw [decide_eq_false h1]
    walk_at "go"
    by_cases h2 : m < 1
    · rw [decide_eq_true h2]
      walk_at "go"
      have hn : heldV xs f m = none := by unfold heldV; rw [if_pos (.inr (.inl h2))]
      exact q1 hn rfl _ _ (w.to .nil)
    rw [decide_eq_false h2]
    walk_at "go"
    by_cases h3 : (xs.length : Int) < f + m
    · rw [decide_eq_true h3]
      walk_at "go"
      have hn : heldV xs f m = none := by unfold heldV; rw [if_pos (.inr (.inr h3))]
      exact q1 hn rfl _ _ (w.to .nil)
    rw [decide_eq_false h3]
    obtain ⟨fn, rfl⟩ : ∃ fn : Nat, f = (fn : Nat) := ⟨f.toNat, by omega⟩
    obtain ⟨mn, rfl⟩ : ∃ mn : Nat, m = (mn : Nat) := ⟨m.toNat, by omega⟩
    have he : heldV xs (fn : Nat) (mn : Nat) = if inV .non ((xs.drop fn).take mn) = true then none else some ((xs.drop fn).take mn) := by
      unfold heldV
      rw [if_neg (fun h => h.elim h1 fun h => h.elim h2 h3)]
      rfl
    walk_at "go"
    rw [show ((fn : Nat) : Int) + ((mn : Nat) : Int) = ((fn + mn : Nat) : Int) by omega]
    refine n_slL w (by walk_at "sq") fun p F1 H1 w hp => ?_
    rw [cut_nat, show fn + mn - fn = mn by omega] at w
    walk_at "go"
    refine ⟨p, (xs.drop fn).take mn, rfl, .inl (by walk_at "sq"), rfl, flat_all fun v hv => hf v (List.mem_of_mem_drop (List.mem_of_mem_take hv)), ?_⟩
    cases hi : inV .non ((xs.drop fn).take mn) with
    | true =>
      have hn : heldV xs (fn : Nat) (mn : Nat) = none := by rw [he, hi]; rfl
      walk_at "go"
      exact q1 hn rfl _ _ (w.to .nil)
    | false =>
      walk_at "go"
      rw [show (if false = true then !false else false) = false from rfl]
      walk_at "go"
      exact q3 _ (by rw [he, hi]; rfl) p _ _ hp (w.to (by walk_at "pick"))
-- brought
theorem ok_brought {f : Addr} {fd : FuncData} (F : FunD K "brought" "brought" (defArgs s_brought) (defBody s_brought) (defScope s_brought) [] [] f fd) (T : Txt K mg) (D_held : DO P w K mg base 1 "held" ["some", "first", "many"] [] (S3 (φheld44 K true))) : FnOk P w K mg base CX0 2 f fd ["row", "cells", "slots"] (S3 (φwhat44 K true)) := by
  refine F.ok sc_brought (fun vs H Q E h => ?_) (fun cdv A outer s H vs Q E hr h => ?_)
  · exact S3.len h
  · match vs, h with
    | [v0, v1, v2], h =>
    have hu := hu_of hr
    refine ⟨_, PSs.nox (pss_cons (ps_if (pt_cmpR op_eq (pe_ix (ixT (K := K)) (pv 0) pe_int (fun _ _ => rfl)) pe_str (nomark _)) (pss_one (ps_ret (pe_ifExp (pt_cmpR op_gt (pe_callB clLenS (by rfl) T.b_len (by decide +kernel) (pa_cons (pe_ix (ixT (K := K)) (pv 0) pe_int (fun _ _ => rfl)) pa_nil)) pe_int (nomark _)) (pe_callTy clListS (by rfl) T.b_list (by decide +kernel) (pa_cons (pe_ix (ixT (K := K)) (pv 0) pe_int (fun _ _ => rfl)) pa_nil)) pe_non))) pss_nil)
      (pss_cons (ps_if (pt_cmpR op_eq (pe_ix (ixT (K := K)) (pv 0) pe_int (fun _ _ => rfl)) pe_str (nomark _)) (pss_one (ps_ret (pcall D_held hr (pa_cons (pv 2) (pa_cons (pe_ix (ixT (K := K)) (pv 0) pe_int (fun _ _ => rfl)) (pa_cons (pe_ix (ixT (K := K)) (pv 0) pe_int (fun _ _ => rfl)) pa_nil)))))) pss_nil)
      (pss_cons (ps_if (PW.pt (pw_and (pt_cmpR op_eq (pe_ix (ixT (K := K)) (pv 0) pe_int (fun _ _ => rfl)) pe_str (nomark _)) (pw_and1 (pt_cmpR op_eq (pe_ix (ixT (K := K)) (pv 0) pe_int (fun _ _ => rfl)) (pe_ix (ixT (K := K)) (pv 0) pe_int (fun _ _ => rfl)) (nomark _))))) (pss_one (ps_ret pe_non)) pss_nil)
      (pss_one (ps_ret (pcall D_held hr (pa_cons (pv 1) (pa_cons (pe_ix (ixT (K := K)) (pv 0) pe_int (fun _ _ => rfl)) (pa_cons (pe_ix (ixT (K := K)) (pv 0) pe_int (fun _ _ => rfl)) pa_nil))))))))), ?_⟩
    rw [show start ["row", "cells", "slots"] [v0, v1, v2] = [some v0, some v1, some v2] from rfl]
    obtain ⟨F, a, b, cs, ss, r, rfl, rfl, hw, hD, hC, hSs, hr, hcf, hsf, hcl, hsl, q1, q2, q3⟩ := h
    have w := ((W.start (M := []) hw).push (imL K a cs) hC).push (imL K b ss) hSs
    cases r with
    | put to s =>
      obtain ⟨pa, rfl, hT⟩ := dp_jput hD
      replace w := w.push (imT K pa [.str "put", .int to, .str s]) hT
      have hs2 := hr.2
      walk_at "go"
      by_cases h0 : s.length = 0
      · rw [decide_eq_false (show ¬ (0 : Int) < ((s.length : Nat) : Int) by omega)]
        have hn : whatV cs ss (.put to s) = none := if_pos h0
        walk_at "go"
        exact q1 hn rfl _ _ (w.to .nil)
      · rw [decide_eq_true (show (0 : Int) < ((s.length : Nat) : Int) by omega)]
        have hn : whatV cs ss (.put to s) = some (chars s) := if_neg h0
        walk_at "go"
        exact n_listS w (szle (by omega)) fun p6 F6 H6 w hp6 => q3 _ hn p6 _ _ hp6 (w.to (by walk_at "pick"))
    | keep to f m =>
      obtain ⟨pa, rfl, hT⟩ := dp_j4 hD
      replace w := w.push (imT K pa [.str (Str.ofString "keep"), .int to, .int f, .int m]) hT
      walk_at "go"
      exact ⟨F, a, cs, f, m, rfl, rfl, rfl, hw, hC, hcf, hcl, q1, q2, q3⟩
    | lay to f m =>
      obtain ⟨pa, rfl, hT⟩ := dp_j4 hD
      replace w := w.push (imT K pa [.str (Str.ofString "lay"), .int to, .int f, .int m]) hT
      walk_at "go"
      exact ⟨F, b, ss, f, m, rfl, rfl, rfl, hw, hSs, hsf, hsl, q1, q2, q3⟩
    | copy to f m =>
      obtain ⟨pa, rfl, hT⟩ := dp_j4 hD
      replace w := w.push (imT K pa [.str (Str.ofString "copy"), .int to, .int f, .int m]) hT
      walk_at "go"
      by_cases e : to = f
      · rw [decide_eq_true e]
        have hn : whatV cs ss (.copy to f m) = none := if_pos e
        walk_at "go"
        exact q1 hn rfl _ _ (w.to .nil)
      · rw [decide_eq_false e]
        have hn : whatV cs ss (.copy to f m) = heldV cs f m := if_neg e
        rw [hn] at q1 q2 q3
        walk_at "go"
        exact ⟨F, a, cs, f, m, rfl, rfl, rfl, hw, hC, hcf, hcl, q1, q2, q3⟩
-- done
theorem ok_done {f : Addr} {fd : FuncData} (F : FunD K "done" "done" (defArgs s_done) (defBody s_done) (defScope s_done) [] [] f fd) (T : Txt K mg) (D_brought : DO P w K mg base 2 "brought" ["row", "cells", "slots"] [] (S3 (φwhat44 K true))) : FnOk P w K mg base CX0 3 f fd ["row", "cells", "slots"] (S3 (φdone44 K)) := by
  refine F.ok sc_done (fun vs H Q E h => ?_) (fun cdv A outer s H vs Q E hr h => ?_)
  · exact S3.len h
  · match vs, h with
    | [v0, v1, v2], h =>
    have hu := hu_of hr
    refine ⟨_, PSs.nox (pss_cons (ps_set (i := 3) sc_done.nd rfl (.inl rfl) (pcall D_brought hr (pa_cons (pv 0) (pa_cons (pv 1) (pa_cons (pv 2) pa_nil)))))
      (pss_cons (ps_set (i := 4) sc_done.nd rfl (.inl rfl) (pe_ifExp (pt_cmpR op_eq (pe_ix (ixT (K := K)) (pv 0) pe_int (fun _ _ => rfl)) pe_str (nomark _)) (pv 2) (pv 1)))
      (pss_cons (ps_set (i := 5) sc_done.nd rfl (.inl rfl) (pe_ix (ixT (K := K)) (pv 0) pe_int (fun _ _ => rfl)))
      (pss_cons (ps_if (PW.pt (pw_or (pt_cmp (pc_isN (pv 3)) (by rfl)) (pw_or (pt_cmpR op_lt (pv 5) pe_int (nomark _)) (pw_or1 (pt_cmpR op_gt (pe_op op_add (pv 5) (pe_callB (clLenQ (K := K)) (by rfl) T.b_len (by decide +kernel) (pa_cons (pv 3) pa_nil))) (pe_callB (clLenQ (K := K)) (by rfl) T.b_len (by decide +kernel) (pa_cons (pv 4) pa_nil)) (nomark _)))))) (pss_one (ps_ret pe_bl)) pss_nil)
      (pss_cons (ps_setSl (pv 3) (pv 4) (po_some (pv 5)) (po_some (pe_op op_add (pv 5) (pe_callB (clLenQ (K := K)) (by rfl) T.b_len (by decide +kernel) (pa_cons (pv 3) pa_nil)))) rfl)
      (pss_one (ps_ret pe_bl))))))), ?_⟩
    rw [show start ["row", "cells", "slots", "some", "goal", "to"] [v0, v1, v2] = [some v0, some v1, some v2, none, none, none] from rfl]
    obtain ⟨F, a, b, cs, ss, r, rfl, rfl, s0, hD, hr, hcf, hsf, hcl, hsl, q1, q2⟩ := h
    have w := s0.w (M := [a, b])
    cases r with
    | put to s =>
      obtain ⟨pa, rfl, hT⟩ := dp_jput hD
      replace w := w.push (imT K pa [.str (Str.ofString "put"), .int to, .str s]) hT
      walk_at "go"
      refine ⟨H, a, b, cs, ss, .put to s, rfl, rfl, Same.refl _, dp_same w.fh _ _ hD, w.sqM (by walk_at "mem"), w.sqM (by walk_at "mem"), hr, hcf, hsf, hcl, hsl, fun hn _ F2 H2 w2 => ?_, (fun _ h => nomatch h), fun ys hy p F2 H2 hp w2 => ?_⟩
      · replace w := w.ro0 w2
        walk_at "go"
        exact q1 (by unfold doneV; rw [hn]) _ _ (w.to (by walk_at "pick"))
      · replace w := w.ro w2 hp
        have hyl := what_len hr hy
        have hdn : doneV (.put to s) cs ss = if to < 0 ∨ ((cs.length : Nat) : Int) < to + (ys.length : Int) then none else some (laidL cs to.toNat ys, ss) := by unfold doneV; rw [hy]; rfl
        walk_at "go"
        rw [decide_eq_false (show ¬ V.ref p = V.non from fun e => nomatch e)]
        walk_at "go"
        by_cases h1 : to < 0
        · rw [decide_eq_true h1]
          walk_at "go"
          exact q1 (by rw [hdn, if_pos (.inl h1)]) _ _ (w.to (by walk_at "pick"))
        · rw [decide_eq_false h1]
          walk_at "go"
          by_cases h2 : ((cs.length : Nat) : Int) < to + (ys.length : Int)
          · rw [decide_eq_true h2]
            walk_at "go"
            exact q1 (by rw [hdn, if_pos (.inr h2)]) _ _ (w.to (by walk_at "pick"))
          · rw [decide_eq_false h2]
            obtain ⟨tn, rfl⟩ : ∃ tn : Nat, to = (tn : Nat) := ⟨to.toNat, by omega⟩
            walk_at "go"
            rw [show ((tn : Nat) : Int) + ((ys.length : Nat) : Int) = ((tn + ys.length : Nat) : Int) by omega]
            refine n_setSl (xs := cs) (ys := ys) w (by walk_at "pick") (by omega) (by omega) (szle (by omega)) fun H5 w => ?_
            walk_at "go"
            exact q2 _ _ (by rw [hdn, if_neg (fun h => h.elim h1 h2)]) _ _ (w.to (by walk_at "pick"))
    | keep to f m =>
      obtain ⟨pa, rfl, hT⟩ := dp_j4 hD
      replace w := w.push (imT K pa [.str (Str.ofString "keep"), .int to, .int f, .int m]) hT
      walk_at "go"
      refine ⟨H, a, b, cs, ss, .keep to f m, rfl, rfl, Same.refl _, dp_same w.fh _ _ hD, w.sqM (by walk_at "mem"), w.sqM (by walk_at "mem"), hr, hcf, hsf, hcl, hsl, fun hn _ F2 H2 w2 => ?_, (fun _ h => nomatch h), fun ys hy p F2 H2 hp w2 => ?_⟩
      · replace w := w.ro0 w2
        walk_at "go"
        exact q1 (by unfold doneV; rw [hn]) _ _ (w.to (by walk_at "pick"))
      · replace w := w.ro w2 hp
        have hyl := what_len hr hy
        have hdn : doneV (.keep to f m) cs ss = if to < 0 ∨ ((ss.length : Nat) : Int) < to + (ys.length : Int) then none else some (cs, laidL ss to.toNat ys) := by unfold doneV; rw [hy]; rfl
        walk_at "go"
        rw [decide_eq_false (show ¬ V.ref p = V.non from fun e => nomatch e)]
        walk_at "go"
        by_cases h1 : to < 0
        · rw [decide_eq_true h1]
          walk_at "go"
          exact q1 (by rw [hdn, if_pos (.inl h1)]) _ _ (w.to (by walk_at "pick"))
        · rw [decide_eq_false h1]
          walk_at "go"
          by_cases h2 : ((ss.length : Nat) : Int) < to + (ys.length : Int)
          · rw [decide_eq_true h2]
            walk_at "go"
            exact q1 (by rw [hdn, if_pos (.inr h2)]) _ _ (w.to (by walk_at "pick"))
          · rw [decide_eq_false h2]
            obtain ⟨tn, rfl⟩ : ∃ tn : Nat, to = (tn : Nat) := ⟨to.toNat, by omega⟩
            walk_at "go"
            rw [show ((tn : Nat) : Int) + ((ys.length : Nat) : Int) = ((tn + ys.length : Nat) : Int) by omega]
            refine n_setSl (xs := ss) (ys := ys) w (by walk_at "pick") (by omega) (by omega) (szle (by omega)) fun H5 w => ?_
            walk_at "go"
            exact q2 _ _ (by rw [hdn, if_neg (fun h => h.elim h1 h2)]) _ _ (w.to (by walk_at "pick"))
    | lay to f m =>
      obtain ⟨pa, rfl, hT⟩ := dp_j4 hD
      replace w := w.push (imT K pa [.str (Str.ofString "lay"), .int to, .int f, .int m]) hT
      walk_at "go"
      refine ⟨H, a, b, cs, ss, .lay to f m, rfl, rfl, Same.refl _, dp_same w.fh _ _ hD, w.sqM (by walk_at "mem"), w.sqM (by walk_at "mem"), hr, hcf, hsf, hcl, hsl, fun hn _ F2 H2 w2 => ?_, (fun _ h => nomatch h), fun ys hy p F2 H2 hp w2 => ?_⟩
      · replace w := w.ro0 w2
        walk_at "go"
        exact q1 (by unfold doneV; rw [hn]) _ _ (w.to (by walk_at "pick"))
      · replace w := w.ro w2 hp
        have hyl := what_len hr hy
        have hdn : doneV (.lay to f m) cs ss = if to < 0 ∨ ((cs.length : Nat) : Int) < to + (ys.length : Int) then none else some (laidL cs to.toNat ys, ss) := by unfold doneV; rw [hy]; rfl
        walk_at "go"
        rw [decide_eq_false (show ¬ V.ref p = V.non from fun e => nomatch e)]
        walk_at "go"
        by_cases h1 : to < 0
        · rw [decide_eq_true h1]
          walk_at "go"
          exact q1 (by rw [hdn, if_pos (.inl h1)]) _ _ (w.to (by walk_at "pick"))
        · rw [decide_eq_false h1]
          walk_at "go"
          by_cases h2 : ((cs.length : Nat) : Int) < to + (ys.length : Int)
          · rw [decide_eq_true h2]
            walk_at "go"
            exact q1 (by rw [hdn, if_pos (.inr h2)]) _ _ (w.to (by walk_at "pick"))
          · rw [decide_eq_false h2]
            obtain ⟨tn, rfl⟩ : ∃ tn : Nat, to = (tn : Nat) := ⟨to.toNat, by omega⟩
            walk_at "go"
            rw [show ((tn : Nat) : Int) + ((ys.length : Nat) : Int) = ((tn + ys.length : Nat) : Int) by omega]
            refine n_setSl (xs := cs) (ys := ys) w (by walk_at "pick") (by omega) (by omega) (szle (by omega)) fun H5 w => ?_
            walk_at "go"
            exact q2 _ _ (by rw [hdn, if_neg (fun h => h.elim h1 h2)]) _ _ (w.to (by walk_at "pick"))
    | copy to f m =>
      obtain ⟨pa, rfl, hT⟩ := dp_j4 hD
      replace w := w.push (imT K pa [.str (Str.ofString "copy"), .int to, .int f, .int m]) hT
      walk_at "go"
      refine ⟨H, a, b, cs, ss, .copy to f m, rfl, rfl, Same.refl _, dp_same w.fh _ _ hD, w.sqM (by walk_at "mem"), w.sqM (by walk_at "mem"), hr, hcf, hsf, hcl, hsl, fun hn _ F2 H2 w2 => ?_, (fun _ h => nomatch h), fun ys hy p F2 H2 hp w2 => ?_⟩
      · replace w := w.ro0 w2
        walk_at "go"
        exact q1 (by unfold doneV; rw [hn]) _ _ (w.to (by walk_at "pick"))
      · replace w := w.ro w2 hp
        have hyl := what_len hr hy
        have hdn : doneV (.copy to f m) cs ss = if to < 0 ∨ ((cs.length : Nat) : Int) < to + (ys.length : Int) then none else some (laidL cs to.toNat ys, ss) := by unfold doneV; rw [hy]; rfl
        walk_at "go"
        rw [decide_eq_false (show ¬ V.ref p = V.non from fun e => nomatch e)]
        walk_at "go"
        by_cases h1 : to < 0
        · rw [decide_eq_true h1]
          walk_at "go"
          exact q1 (by rw [hdn, if_pos (.inl h1)]) _ _ (w.to (by walk_at "pick"))
        · rw [decide_eq_false h1]
          walk_at "go"
          by_cases h2 : ((cs.length : Nat) : Int) < to + (ys.length : Int)
          · rw [decide_eq_true h2]
            walk_at "go"
            exact q1 (by rw [hdn, if_pos (.inr h2)]) _ _ (w.to (by walk_at "pick"))
          · rw [decide_eq_false h2]
            obtain ⟨tn, rfl⟩ : ∃ tn : Nat, to = (tn : Nat) := ⟨to.toNat, by omega⟩
            walk_at "go"
            rw [show ((tn : Nat) : Int) + ((ys.length : Nat) : Int) = ((tn + ys.length : Nat) : Int) by omega]
            refine n_setSl (xs := cs) (ys := ys) w (by walk_at "pick") (by omega) (by omega) (szle (by omega)) fun H5 w => ?_
            walk_at "go"
            exact q2 _ _ (by rw [hdn, if_neg (fun h => h.elim h1 h2)]) _ _ (w.to (by walk_at "pick"))
-- plan_fault
theorem ok_plan_fault {f : Addr} {fd : FuncData} (F : FunD K "plan_fault" "plan_fault" (defArgs s_plan_fault) (defBody s_plan_fault) (defScope s_plan_fault) [.int 0] [] f fd) (T : Txt K mg) (D_done : DO P w K mg base 3 "done" ["row", "cells", "slots"] [] (S3 (φdone44 K))) (DM_Change_cells : DM P w K mg base 1 "Change" "cells" ["self"] [] (S1 (φcells K))) : FnOk P w K mg base CX0 4 f fd ["change", "plan", "spare"] (S3 (φfault44 K)) := by
  refine F.ok sc_plan_fault (fun vs H Q E h => ?_) (fun cdv A outer s H vs Q E hr h => ?_)
  · exact S3.len h
  · match vs, h with
    | [v0, v1, v2], h =>
    have hu := hu_of hr
    refine ⟨_, PSs.nox (pss_cons (ps_set (i := 3) sc_plan_fault.nd rfl (.inl rfl) (pmeth0 DM_Change_cells hr (pv 0)))
      (pss_cons (ps_set (i := 4) sc_plan_fault.nd rfl (.inl rfl) (pe_op op_cat (pe_listRg rfl (by rfl) T.b_list (prg_1 (by rfl) T.b_range (peFld (K := K) (pv 0)))) (pe_op op_rep (pe_lst (pa_cons pe_non pa_nil)) (pe_callB clMax2 (by rfl) T.b_max (by decide +kernel) (pa_cons pe_int (pa_cons (pe_op op_sub (pe_callB (clLenQ (K := K)) (by rfl) T.b_len (by decide +kernel) (pa_cons (pv 3) pa_nil)) (peFld (K := K) (pv 0))) pa_nil))))))
      (pss_cons (ps_set (i := 5) sc_plan_fault.nd rfl (.inl rfl) (pe_op op_rep (pe_lst (pa_cons pe_non pa_nil)) (pv 2)))
      (pss_cons (ps_for PassesOwn.never rfl (pi_enum rfl T.b_enumerate (pa_cons (pv 1) pa_nil)) (pg_tup (by rfl) (pgs_cons (pg_name (i := 6) sc_plan_fault.nd rfl (.inl rfl)) (pgs_cons (pg_name (i := 7) sc_plan_fault.nd rfl (.inl rfl)) pgs_nil))) (pss_one (ps_if (pt_not (pt_val (pcall D_done hr (pa_cons (pv 7) (pa_cons (pv 4) (pa_cons (pv 5) pa_nil)))))) (pss_one (ps_ret (pe_tup (pa_cons pe_str (pa_cons (pv 6) pa_nil))))) pss_nil)))
      (pss_cons (ps_for PassesOwn.never rfl (pi_enum rfl T.b_enumerate (pa_cons (pv 3) pa_nil)) (pg_tup (by rfl) (pgs_cons (pg_name (i := 8) sc_plan_fault.nd rfl (.inl rfl)) (pgs_cons (pg_name (i := 9) sc_plan_fault.nd rfl (.inl rfl)) pgs_nil))) (pss_one (ps_if (pt_cmpR op_ne (pe_ix (ixL (K := K)) (pv 4) (pv 8) (fun _ _ => rfl)) (pv 9) (nomark _)) (pss_one (ps_ret (pe_tup (pa_cons pe_str (pa_cons (pv 8) pa_nil))))) pss_nil)))
      (pss_one (ps_ret pe_non))))))), ?_⟩
    rw [show start ["change", "plan", "spare", "due", "cells", "slots", "k", "row", "place", "one"] [v0, v1, v2] = [some v0, some v1, some v2, none, none, none, none, none, none, none] from rfl]
    have kC := T.k_Change
    have kS := T.na_Change_size
    have kR := T.na_Change_rows
    
    obtain ⟨F, a, vs, n, extra, rows, js, rfl, rfl, hw, hC, hok, hn, hS, hD, hjs, hjl, he, q⟩ := h
    obtain ⟨c, dx, rr, vs0, rfl, hcc, hrr, hD0⟩ := id hC
    have w := ((((W.start (M := []) hw).push (imL K a vs) hS).push (dpa K vs (js.map JR.d)) hD).push (chg K (.ref c) n rows) hC).push (fx c _) hcc
    unfold insC at w
    have hvl : vs.length = js.length := by rw [dpa_len hD, List.length_map]
    have hcl : (cellsV rows).length ≤ 400 := by rw [cells_len]; exact hok.sum
    walk_at "go"
    refine ⟨_, n, rows, w.fh, w.i (chg K (.ref c) n rows) (by walk_at "mem"), hok, by omega, fun pd F1 H1 hpd w1 => ?_⟩
    have hpd' := w.g.fresh hpd
    replace w := w.cal .nil w1 (by walk_at "app")
    obtain ⟨F1, w⟩ := w.fzL (p := pd) (by walk_at "pick") hpd'
    walk_at "go"
    refine n_lstRg w (RgOk.of_le (by omega) (by omega) (by omega) (by omega)) fun p1 F1 H1 w hp1 => ?_
    walk_at "go"
    refine n_lst w (szle (by simp)) fun p2 F1 H1 w hp2 => ?_
    walk_at "go"
    obtain ⟨big, ebig⟩ : ∃ big, big = (cellsV rows).length := ⟨_, rfl⟩
    rw [← ebig] at hcl ⊢
    obtain ⟨mx, emx⟩ : ∃ mx : Nat, (mx : Int) = (if ((big : Nat) : Int) - ((n : Nat) : Int) > 0 then ((big : Nat) : Int) - ((n : Nat) : Int) else 0) := ⟨big - n, by split <;> omega⟩
    have emx2 : mx = big - n := by split at emx <;> omega
    rw [← emx]
    refine n_rep w (by walk_at "at") (by omega) (by omega) (szle (by show 1 * _ ≤ _; omega)) fun p3 F1 H1 w hp3 => ?_
    rw [show (List.replicate (((mx : Nat) : Int)).toNat [V.non]).flatten = List.replicate mx V.non by rw [Int.toNat_natCast, List.flatten_replicate_singleton]] at w
    walk_at "go"
    refine n_cat w (by walk_at "at") (by walk_at "at") (szle (by rw [rgV_length, List.length_replicate]; omega)) fun pc F1 H1 w hpc => ?_
    rw [show rgV 0 ((n : Nat) : Int) ++ List.replicate mx V.non = (st0J n big extra).1 by rw [rgV0, emx2]; rfl] at w
    walk_at "go"
    refine n_lst w (szle (by simp)) fun p4 F1 H1 w hp4 => ?_
    walk_at "go"
    refine n_rep w (by walk_at "at") (by omega) (by omega) (szle (by show 1 * _ ≤ _; omega)) fun ps F1 H1 w hps => ?_
    rw [show (List.replicate (((extra : Nat) : Int)).toNat [V.non]).flatten = (st0J n big extra).2 by rw [Int.toNat_natCast, List.flatten_replicate_singleton]; rfl] at w
    obtain ⟨st0, est⟩ : ∃ st0, st0 = st0J n big extra := ⟨_, rfl⟩
    rw [← est] at w
    rw [← ebig, ← est] at q
    have hst0 : StJ (n + (big - n)) extra st0 := by rw [est]; exact st0_ok n big extra
    walk_at "go"
    refine n_en (by walk_at "sq") ?_
    refine n_forE vs w (fun i σ L => ∃ (cs ss : List V), ∃ y6 y7, σ = [some (.ref c), some (.ref a), some (.int (extra : Nat)), some (.ref pd), some (.ref pc), some (.ref ps), y6, y7, none, none] ∧ stepsJ (js.take i) st0 = some (cs, ss) ∧ L = [mu pc (.lst cs), mu ps (.lst ss), fx pd (.lst (cellsV rows)), imL K a vs, dpa K vs (js.map JR.d)]) ⟨st0.1, st0.2, _, _, rfl, rfl, rfl⟩ (fun i σ L F' H' hp w => ?_) (fun i x T σ L F' H' hx hp w => ?_) (fun σ L F' H' hp w => ?_)
    · obtain ⟨cs, ss, y6, y7, rfl, hst, rfl⟩ := hp
      walk_at "sq"
    · obtain ⟨cs, ss, y6, y7, rfl, hst, rfl⟩ := hp
      obtain ⟨r, hr, dr⟩ := dpa_at (w.dpa (K := K) (xs := vs) (ds := js.map JR.d) (by walk_at "mem")) hx
      have hro := hjs r (List.mem_of_getElem? hr)
      have hS1 := hst0.steps (fun q hq => hjs q (List.mem_of_mem_take hq)) hst
      have hc1 : cs.length = n + (big - n) := hS1.c
      have hs1 : ss.length = extra := hS1.s
      walk_at "go"
      refine ⟨_, pc, ps, cs, ss, r, rfl, rfl, w.st (by walk_at "pick"), dr, hro, hS1.fc, hS1.fs, by omega, by omega, fun hdn F2 H2 w2 => ?_, fun cs2 ss2 hds F2 H2 w2 => ?_⟩
      · replace w := w.cal (D := [mu pc (.lst cs), mu ps (.lst ss)]) (by walk_at "pick") w2 (by walk_at "app") rfl
        walk_at "go"
        refine n_tup w (szle (by simp)) fun t F3 H3 w => ?_
        replace w := w.push (dat K (.ref t) (.tuple [.str (Str.ofString "row"), .int (i : Nat)])) (.tup (sqT_of (w.i (fx t _) (by walk_at "mem"))) (.cons (.str _) (.cons (.int _) .nil)))
        exact q _ _ _ _ (w.to (by walk_at "pick")) (.row i r (cs, ss) hr hst hdn)
      · replace w := w.cal (D := [mu pc (.lst cs), mu ps (.lst ss)]) (by walk_at "pick") w2 (by walk_at "app") rfl
        walk_at "go"
        exact nx_mk w ⟨cs2, ss2, _, _, rfl, by rw [steps_take hr hst]; exact hds, rfl⟩ (by walk_at "pk")
    · obtain ⟨cs, ss, y6, y7, rfl, hst, rfl⟩ := hp
      rw [hvl, List.take_length] at hst
      have hS1 := hst0.steps hjs hst
      have hc1 : cs.length = n + (big - n) := hS1.c
      walk_at "go"
      refine n_en (by walk_at "sq") ?_
      refine n_forE (cellsV rows) w (fun i σ L => ∃ y8 y9, σ = [some (.ref c), some (.ref a), some (.int (extra : Nat)), some (.ref pd), some (.ref pc), some (.ref ps), y6, y7, y8, y9] ∧ (∀ q, q < i → cs[q]? = (cellsV rows)[q]?) ∧ L = [mu pc (.lst cs), fx pd (.lst (cellsV rows)), imL K a vs, dpa K vs (js.map JR.d)]) ⟨_, _, rfl, (fun q h => absurd h (Nat.not_lt_zero _)), rfl⟩ (fun i σ L F' H' hp w => ?_) (fun i x T σ L F' H' hx hp w => ?_) (fun σ L F' H' hp w => ?_)
      · obtain ⟨y8, y9, rfl, heq, rfl⟩ := hp
        walk_at "sq"
      · obtain ⟨y8, y9, rfl, heq, rfl⟩ := hp
        have hi := (List.getElem?_eq_some_iff.mp hx).1
        obtain ⟨v, hv⟩ : ∃ v, cs[i]? = some v := ⟨_, List.getElem?_eq_getElem (by omega)⟩
        have hvf := hS1.fc v (List.mem_of_getElem? hv)
        walk_at "go"
        refine w_ixL _ _ (by walk_at "sq") (atI_nat hv) ?_
        walk_at "go"
        refine ⟨scal_flat hvf (cell_flat (cells_ok hok.ok x (List.mem_of_getElem? hx))), ?_⟩
        by_cases e : v = x
        · rw [show (!decide (v = x)) = false by rw [decide_eq_true e, Bool.not_true]]
          walk_at "go"
          refine nx_mk w ⟨_, _, rfl, fun q2 h2 => ?_, rfl⟩ (by walk_at "pk")
          by_cases e2 : q2 = i
          · rw [e2, hv, hx, e]
          · exact heq q2 (by omega)
        · rw [show (!decide (v = x)) = true by rw [decide_eq_false e, Bool.not_false]]
          walk_at "go"
          refine n_tup w (szle (by simp)) fun t F3 H3 w => ?_
          replace w := w.push (dat K (.ref t) (.tuple [.str (Str.ofString "cell"), .int (i : Nat)])) (.tup (sqT_of (w.i (fx t _) (by walk_at "mem"))) (.cons (.str _) (.cons (.int _) .nil)))
          exact q _ _ _ _ (w.to (by walk_at "pick")) (.cell i x v (cs, ss) hst hx hv e heq)
      · obtain ⟨y8, y9, rfl, heq, rfl⟩ := hp
        walk_at "go"
        replace w := w.push (dat K .non .none) Dp.non
        exact q _ _ _ _ (w.to (by walk_at "pick")) (.none (cs, ss) hst (by rw [ebig] at *; exact heq))
-- _law_bag
theorem ok_law_bag {f : Addr} {fd : FuncData} (F : FunD K "_law_bag" "_law_bag" (defArgs s_law_bag) (defBody s_law_bag) (defScope s_law_bag) [] [] f fd) (T : Txt K mg)  : FnOk P w K mg base CX0 1 f fd ["script"] (S1 (φbag K)) := by
  refine F.ok sc_law_bag (fun vs H Q E h => ?_) (fun cdv A outer s H vs Q E hr h => ?_)
  · exact S1.len h
  · match vs, h with
    | [v0], h =>
    have hu := hu_of hr
    refine ⟨_, PSs.nox (pss_cons (ps_set (i := 1) sc_law_bag.nd rfl (.inl rfl) pe_int)
      (pss_cons (ps_for PassesOwn.never rfl (pi_list (pe_slice (slL (K := K)) (pv 0) po_none (po_some pe_int))) (pg_name (i := 2) sc_law_bag.nd rfl (.inl rfl)) (pss_one (ps_set (i := 1) sc_law_bag.nd rfl (.inl rfl) (pe_op op_mod (pe_op op_add (pe_op op_add (pe_op op_mul (pv 1) pe_int) (pe_op op_mod (pv 2) pe_int)) pe_int) pe_int))))
      (pss_one (ps_ret (pe_lst (pa_cons (pe_lc (own := [("cell", 2)]) (g := gName 2) rfl sc_law_bag.nd (pi_list (pe_slice (slL (K := K)) (pv 0) po_none (po_some pe_int))) (blkOk_by (own := [("cell", 2)]) (N := ["script", "stir", "cell"]) (sc := defScope s_law_bag) (by decide +kernel)) (fun _ _ _ _ _ => pg_name (i := 2) sc_law_bag.nd rfl (Or.inl rfl)) (fun _ _ _ _ _ => pts_nil) (fun _ _ _ _ _ => (pe_op op_mod (pe_callB clAbs (by rfl) T.b_abs (by decide +kernel) (pa_cons (pv 2) pa_nil)) (pe_op op_pow pe_int pe_int)))) (pa_cons pe_int (pa_cons pe_int (pa_cons (pv 1) (pa_cons pe_int pa_nil)))))))))), ?_⟩
    rw [show start ["script", "stir", "cell"] [v0] = [some v0, none, none] from rfl]
    obtain ⟨a, ns, rfl, hS, hl, q⟩ := h
    walk_at "og"
    intro l nl
    rw [cut63 hl]
    refine ⟨l, rfl, ⟨_, sqL_of upd_same⟩, f_list (xs := ns.map V.int) (fun i σ H' => ∃ (st : Int) (y : Option V), σ = [some (.ref a), some (.int st), y] ∧ 0 ≤ st ∧ st < 2147483647 ∧ H' = upd H l (.lst (ns.map V.int))) ⟨19, none, rfl, by decide, by decide, rfl⟩ (fun i σ H' _ hp => ?_) (fun i x σ H' hx hp => ?_) (fun σ H' hp => ?_)⟩
    · obtain ⟨st, y, _, _, _, rfl⟩ := hp
      exact sqL_of upd_same
    · obtain ⟨st, y, rfl, s0, s1, rfl⟩ := hp
      obtain ⟨z, rfl⟩ := map_get hx
      walk_at "og"
      exact ⟨_, _, rfl, mod_nn (by decide), mod_lt (by decide), rfl⟩
    · obtain ⟨st, y, rfl, s0, s1, rfl⟩ := hp
      have hS2 : SqL K (upd H l (.lst (ns.map V.int))) a (ns.map V.int) := sqL_same (Same.new nl) hS
      walk_at "og"
      intro l2 nl2
      rw [cut63 hl]
      have g0 : Gr [] H H H (upd H l (.lst (ns.map V.int))) := .new (Same.refl H) nl
      have g1 := g0.add (o := .lst (ns.map V.int)) nl2
      refine ⟨l2, rfl, ⟨_, sqL_of upd_same⟩, fun D nD => ?_⟩
      have g2 := g1.addm (o := .lst []) nD
      refine lc_list (xs := ns.map V.int) (fun i H' => ∃ vs : List Int, Gr [] H H (upd H l2 (.lst (ns.map V.int))) H' ∧ Mu (upd H l2 (.lst (ns.map V.int))) H' D (.lst (vs.map V.int)) ∧ (∀ x ∈ vs, 0 ≤ x ∧ x < 10 ^ 60) ∧ vs.length = i) ⟨[], g2, Mu.new g1.fh nD, by simp, rfl⟩ (fun i H' _ hp => ?_) (fun i x H' hx hp => ?_) (fun H' hp => ?_)
      · obtain ⟨vs, g, _⟩ := hp
        exact sqL_same g.fh (sqL_of upd_same)
      · obtain ⟨vs, g, mu, hv, hn⟩ := hp
        obtain ⟨z, rfl⟩ := map_get hx
        have hi : i < ns.length := by
          have := (List.getElem?_eq_some_iff.mp hx).1
          rwa [List.length_map] at this
        show gName 2 _ [some (.ref a), some (.int st), none] H' _
        walk_at "og"
        refine ⟨rfl, ?_⟩
        walk_at "og"
        refine ⟨_, mu.h, small1000 (by rw [List.length_map]; omega), vs ++ [_], g.wrn mu.n (g1.fresh nD), by rw [List.map_append]; exact mu.wr, ?_, by simp [hn]⟩
        intro x hx
        rcases List.mem_append.mp hx with hx | hx
        · exact hv x hx
        · rw [List.mem_singleton.mp hx]
          exact ⟨mod_nn (by decide), mod_lt (by decide)⟩
      · obtain ⟨vs, g, mu, hv, hn⟩ := hp
        walk_at "og"
        refine ⟨le1000 (by simp), fun p np => ?_⟩
        have g5 := (g.frz (g1.fresh nD) mu).addm (o := .lst [.ref D, .int 0, .int 0, .int st, .int 0]) np
        refine q p _ _ g5 ⟨D, vs, 0, 0, st, 0, ?_, upd_same, sqL_of upd_same, by rw [hn, List.length_map]; exact hl, hv, by decide, by decide, by decide, s0, s1⟩
        have nF := g.fh.free np
        rw [upd_ne (mu.ne_new np).symm]
        exact nF
-- _law_stirred
theorem ok_law_stirred {f : Addr} {fd : FuncData} (F : FunD K "_law_stirred" "_law_stirred" (defArgs s_law_stirred) (defBody s_law_stirred) (defScope s_law_stirred) [] [] f fd) (T : Txt K mg)  : FnOk P w K mg base CX0 1 f fd ["bag", "many"] (S2 (φdraw K)) := by
  refine F.ok sc_law_stirred (fun vs H Q E h => ?_) (fun cdv A outer s H vs Q E hr h => ?_)
  · exact S2.len h
  · match vs, h with
    | [v0, v1], h =>
    have hu := hu_of hr
    refine ⟨_, PSs.nox (pss_cons (ps_set (i := 2) sc_law_stirred.nd rfl (.inl rfl) pe_int)
      (pss_cons (ps_for PassesOwn.never rfl (pi_range1 rfl T.b_range (pa_cons (pe_op op_add pe_int (pe_op op_fdivW (pe_bits (pv 1)) pe_int)) pa_nil)) (pg_name (i := 3) sc_law_stirred.nd rfl (.inl rfl)) (pss_cons (ps_asg (pe_op op_add (pe_ix (ixL (K := K)) (pv 0) pe_int (fun _ _ => rfl)) pe_int) (pg_sub (pv 0) pe_int set_list))
      (pss_cons (ps_asg (pe_op op_mod (pe_op op_add (pe_op op_add (pe_op op_add (pe_op op_pow (pe_ix (ixL (K := K)) (pv 0) pe_int (fun _ _ => rfl)) pe_int) (pe_op op_mul pe_int (pe_ix (ixL (K := K)) (pv 0) pe_int (fun _ _ => rfl)))) (pe_op op_mul pe_int (pe_ix (ixL (K := K)) (pv 0) pe_int (fun _ _ => rfl)))) pe_int) pe_int) (pg_sub (pv 0) pe_int set_list))
      (pss_one (ps_set (i := 2) sc_law_stirred.nd rfl (.inl rfl) (pe_op op_add (pe_op op_mul (pv 2) pe_int) (pe_op op_fdivW (pe_ix (ixL (K := K)) (pv 0) pe_int (fun _ _ => rfl)) pe_int)))))))
      (pss_one (ps_ret (pe_op op_mod (pv 2) (pv 1)))))), ?_⟩
    rw [show start ["bag", "many", "found", "k"] [v0, v1] = [some v0, some v1, none, none] from rfl]
    obtain ⟨b, m, F, rfl, rfl, hw, hb, h0, h1, q⟩ := h
    have hbits := bits_le h0 h1
    have hb0 : (0 : Int) ≤ (Builtin.Int.intBits m : Nat) := Int.natCast_nonneg _
    have hd0 : (0 : Int) ≤ (Builtin.Int.intBits m : Nat) / 27 := div_nn hb0 (by decide)
    have hd1 : (Builtin.Int.intBits m : Int) / 27 ≤ (Builtin.Int.intBits m : Nat) := div_le' hb0 (by decide)
    walk_at "og"
    refine ⟨_, rfl, by omega, by omega, f_range0 (fun i σ H' => ∃ (f : Int) (y : Option V) (F2 : Hp), σ = [some (.ref b), some (.int m), some (.int f), y] ∧ Gr [b] F H F2 H' ∧ Bag K F2 H' b) ⟨0, none, F, rfl, .refl hw, hb⟩ (fun i σ H' hi hp => ?_) (fun σ H' hp => ?_)⟩
    · obtain ⟨f, y, F2, rfl, g, hB⟩ := hp
      obtain ⟨c, cells, i1, cur, st, n, e1, e2, e3, e4, e5, e6, e7, e8, e9, e10⟩ := hB.ex
      walk_at "og"
      exact ⟨_, _, F2, rfl, (g.put e1 (by simp)).put e1 (by simp), ⟨c, cells, i1, cur, _, _, e1, upd_same, e3, e4, e5, e6, e7, e8, mod_nn (by decide), mod_lt (by decide)⟩⟩
    · obtain ⟨f, y, F2, rfl, g, hB⟩ := hp
      walk_at "og"
      exact q _ F2 H' g hB (mod_nn h0) (mod_lt h0)
-- _law_draw
theorem ok_law_draw {f : Addr} {fd : FuncData} (F : FunD K "_law_draw" "_law_draw" (defArgs s_law_draw) (defBody s_law_draw) (defScope s_law_draw) [] [] f fd) (T : Txt K mg) (D_law_stirred : DO P w K mg base 1 "_law_stirred" ["bag", "many"] [] (S2 (φdraw K))) : FnOk P w K mg base CX0 2 f fd ["bag", "many"] (S2 (φdraw K)) := by
  refine F.ok sc_law_draw (fun vs H Q E h => ?_) (fun cdv A outer s H vs Q E hr h => ?_)
  · exact S2.len h
  · match vs, h with
    | [v0, v1], h =>
    have hu := hu_of hr
    refine ⟨_, PSs.nox (pss_cons (ps_if (PW.pt (pw_and (pt_cmpR op_eq (pe_ix (ixL (K := K)) (pv 0) pe_int (fun _ _ => rfl)) pe_int (nomark _)) (pw_and1 (pt_cmpR op_lt (pe_ix (ixL (K := K)) (pv 0) pe_int (fun _ _ => rfl)) (pe_callB (clLenQ (K := K)) (by rfl) T.b_len (by decide +kernel) (pa_cons (pe_ix (ixL (K := K)) (pv 0) pe_int (fun _ _ => rfl)) pa_nil)) (nomark _))))) (pss_cons (ps_asg (pe_ix (ixL (K := K)) (pe_ix (ixL (K := K)) (pv 0) pe_int (fun _ _ => rfl)) (pe_ix (ixL (K := K)) (pv 0) pe_int (fun _ _ => rfl)) (fun _ _ => rfl)) (pg_sub (pv 0) pe_int set_list))
      (pss_one (ps_asg (pe_op op_add (pe_ix (ixL (K := K)) (pv 0) pe_int (fun _ _ => rfl)) pe_int) (pg_sub (pv 0) pe_int set_list)))) (pss_one (ps_if (pt_cmpR op_eq (pe_ix (ixL (K := K)) (pv 0) pe_int (fun _ _ => rfl)) pe_int (nomark _)) (pss_one (ps_ret (pcall D_law_stirred hr (pa_cons (pv 0) (pa_cons (pv 1) pa_nil))))) pss_nil)))
      (pss_cons (ps_set (i := 2) sc_law_draw.nd rfl (.inl rfl) (pe_op op_mod (pe_ix (ixL (K := K)) (pv 0) pe_int (fun _ _ => rfl)) (pv 1)))
      (pss_cons (ps_asg (pe_op op_fdivW (pe_ix (ixL (K := K)) (pv 0) pe_int (fun _ _ => rfl)) (pv 1)) (pg_sub (pv 0) pe_int set_list))
      (pss_one (ps_ret (pv 2)))))), ?_⟩
    rw [show start ["bag", "many", "found"] [v0, v1] = [some v0, some v1, none] from rfl]
    obtain ⟨b, m, F, rfl, rfl, hw, hb, h0, h1, q⟩ := h
    obtain ⟨c, cells, i1, cur, st, n, e1, e2, e3, e4, e5, e6, e7, e8, e9, e10⟩ := hb.ex
    have e3' := sqL_same hw e3
    have gr := Gr.refl (M := [b]) hw
    walk_at "og"
    refine w_ite (fun hc => ?_) (fun hc => ?_)
    · walk_at "og"
      refine w_ite (fun hd => ?_) (fun hd => ?_)
      · obtain ⟨x, hx, ex⟩ := cell_at e6 hd
        have bx := e5 x hx
        walk_at "og"
        refine w_ixL _ _ e3' ex ?_
        walk_at "og"
        exact q _ F _ (((gr.put e1 (by simp)).put e1 (by simp)).put e1 (by simp)) ⟨c, cells, i1 + 1, x / m, st, n, e1, upd_same, e3, e4, e5, by omega, div_nn bx.1 h0, Int.lt_of_le_of_lt (div_le' bx.1 h0) bx.2, e9, e10⟩ (mod_nn h0) (mod_lt h0)
      · walk_at "og"
        refine w_iteT hc ?_
        walk_at "og"
        exact ⟨b, m, F, rfl, rfl, hw, hb, h0, h1, q⟩
    · walk_at "og"
      refine w_iteF hc ?_
      walk_at "og"
      exact q _ F _ (gr.put e1 (by simp)) ⟨c, cells, i1, cur / m, st, n, e1, upd_same, e3, e4, e5, e6, div_nn e7 h0, Int.lt_of_le_of_lt (div_le' e7 h0) e8, e9, e10⟩ (mod_nn h0) (mod_lt h0)
-- _law_text
theorem ok_law_text {f : Addr} {fd : FuncData} (F : FunD K "_law_text" "_law_text" (defArgs s_law_text) (defBody s_law_text) (defScope s_law_text) [] [] f fd) (T : Txt K mg) (D_law_draw : DO P w K mg base 2 "_law_draw" ["bag", "many"] [] (S2 (φdraw K))) : FnOk P w K mg base CX0 3 f fd ["bag", "many"] (S2 (φtextN K)) := by
  refine F.ok sc_law_text (fun vs H Q E h => ?_) (fun cdv A outer s H vs Q E hr h => ?_)
  · exact S2.len h
  · match vs, h with
    | [v0, v1], h =>
    have hu := hu_of hr
    refine ⟨_, PSs.nox (pss_cons (ps_set (i := 2) sc_law_text.nd rfl (.inr rfl) pe_str)
      (pss_cons (ps_set (i := 2) sc_law_text.nd rfl (.inr rfl) (pe_op opAddS (pv 2) pe_str))
      (pss_cons (ps_set (i := 3) sc_law_text.nd rfl (.inr rfl) (pe_ix (ixL (K := K)) (pe_lst (pa_cons pe_int (pa_cons pe_int (pa_cons pe_int (pa_cons pe_int pa_nil))))) (pcall D_law_draw hr (pa_cons (pv 0) (pa_cons pe_int pa_nil))) (fun _ _ => rfl)))
      (pss_cons (ps_set (i := 4) sc_law_text.nd rfl (.inr rfl) (pcall D_law_draw hr (pa_cons (pv 0) (pa_cons (pe_op op_sub pe_int (pv 3)) pa_nil))))
      (pss_one (ps_ret (peJoin (K := K) pe_str (pe_lc (own := [("k", 5)]) (g := gName 5) rfl sc_law_text.nd (pi_range1 rfl T.b_range (pa_cons (pv 1) pa_nil)) (blkOk_by (own := [("k", 5)]) (N := ["bag", "many", "some", "width", "first", "k"]) (sc := defScope s_law_text) (by decide +kernel)) (fun _ _ _ _ _ => pg_name (i := 5) sc_law_text.nd rfl (Or.inl rfl)) (fun _ _ _ _ _ => pts_nil) (fun _ _ _ _ _ => (pe_ix ix_str (pv 2) (pe_op op_add (pv 4) (pcall D_law_draw hr (pa_cons (pv 0) (pa_cons (pv 3) pa_nil)))) (fun _ _ => rfl))))))))))), ?_⟩
    rw [show start ["bag", "many", "some", "width", "first", "k"] [v0, v1] = [some v0, some v1, none, none, none, none] from rfl]
    obtain ⟨F, b, n, rfl, rfl, s0, n0, n1, q⟩ := h
    have w := s0.w (M := [b])
    walk_at "go"
    refine n_lst w (szle (by simp)) fun p1 F1 H1 w hp1 => ?_
    walk_at "go"
    refine n_draw w (by walk_at "pick") (by decide) (by decide) fun r F1 H1 w r0 r1 => ?_
    obtain ⟨wd, ew, wd0, wd1⟩ := pick_ix (ns := [93, 93, 2, 5]) (lo := 2) (hi := 93) r0 r1 (by decide)
    walk_at "go"
    refine w_ixL _ _ (by walk_at "sq") ew ?_
    walk_at "go"
    refine n_draw w (by walk_at "pick") (by omega) (by omega) fun first F1 H1 w f0 f1 => ?_
    walk_at "go"
    refine n_lcR w (fun i ys L => ∃ zs : List Str, ys = zs.map V.str ∧ zs.length = i ∧ (∀ y ∈ zs, y.length = 1 ∧ okS y) ∧ L = [bag K b]) ⟨[], rfl, rfl, by simp, rfl⟩ (fun i ys L F' H' D hi hp w hD => ?_) (fun D ys L F' H' hp w hD => ?_)
    · skip
      obtain ⟨zs, rfl, hz, hy, rfl⟩ := hp
      walk_at "wp"
      walk_at "go"
      refine n_draw w (by walk_at "pick") (by omega) (by omega) fun r F1 H1 w r0 r1 => ?_
      walk_at "go"
      refine w_ixL1 (n := 93) (by decide +kernel) (by decide +kernel) (by decide +kernel) (by omega) (by omega) fun s hs oks => ?_
      refine n_acc _ w ⟨zs ++ [s], by rw [List.map_append]; rfl, by simp [hz], ?_, rfl⟩ (by walk_at "pk") (small_lt (by rw [List.length_map]; omega))
      intro y hy'
      rcases List.mem_append.mp hy' with h | h
      · exact hy y h
      · rw [List.mem_singleton.mp h]
        exact ⟨hs, oks⟩
    · skip
      obtain ⟨zs, rfl, hz, hy, rfl⟩ := hp
      refine ⟨_, D, zs, rfl, rfl, .inl (by walk_at "sq"), ?_, ?_⟩
      · rw [sum_ones zs hy]
        show zs.length + zs.length * 0 ≤ 16777216
        omega
      · obtain ⟨j1, j2⟩ := joined zs hy
        exact q _ F' H' (by walk_at "w") (by
          show (((Txt.join ⟨#[]⟩ zs).length : Nat) : Int) = n
          rw [j1, hz]
          omega) j2
-- _law_alike
theorem ok_law_alike {f : Addr} {fd : FuncData} (F : FunD K "_law_alike" "_law_alike" (defArgs s_law_alike) (defBody s_law_alike) (defScope s_law_alike) [] [] f fd) (T : Txt K mg) {n : Nat} (D_law_alike : DO P w K mg base n "_law_alike" ["found", "due"] [] (S2 (φalike K n))) : FnOk P w K mg base CX0 (n + 1) f fd ["found", "due"] (S2 (φalike K (n + 1))) := by
  refine F.ok sc_law_alike (fun vs H Q E h => ?_) (fun cdv A outer s H vs Q E hr h => ?_)
  · exact S2.len h
  · match vs, h with
    | [v0, v1], h =>
    have hu := hu_of hr
    refine ⟨_, PSs.nox (pss_cons (ps_if (pt_val (pe_callB (clIsiT (K := K)) (by rfl) T.b_isinstance (by decide +kernel) (pa_cons (pv 1) (pa_cons (pe_tup (pa_cons (pe_bltn (v := .ty "list") (by rfl) T.b_list (by decide +kernel) rfl) (pa_cons (pe_bltn (v := .ty "tuple") (by rfl) T.b_tuple (by decide +kernel) rfl) pa_nil))) pa_nil)))) (pss_cons (ps_if (PW.pt (pw_or (pt_not (pt_val (pe_callB (clIsiT (K := K)) (by rfl) T.b_isinstance (by decide +kernel) (pa_cons (pv 0) (pa_cons (pe_tup (pa_cons (pe_bltn (v := .ty "list") (by rfl) T.b_list (by decide +kernel) rfl) (pa_cons (pe_bltn (v := .ty "tuple") (by rfl) T.b_tuple (by decide +kernel) rfl) pa_nil))) pa_nil))))) (pw_or1 (pt_cmpR op_ne (pe_callB (clIsi (K := K)) (by rfl) T.b_isinstance (by decide +kernel) (pa_cons (pv 0) (pa_cons (pe_bltn (v := .ty "list") (by rfl) T.b_list (by decide +kernel) rfl) pa_nil))) (pe_callB (clIsi (K := K)) (by rfl) T.b_isinstance (by decide +kernel) (pa_cons (pv 1) (pa_cons (pe_bltn (v := .ty "list") (by rfl) T.b_list (by decide +kernel) rfl) pa_nil))) (nomark _))))) (pss_one (ps_ret pe_bl)) pss_nil)
      (pss_cons (ps_if (pt_cmpR op_ne (pe_callB (clLenQ (K := K)) (by rfl) T.b_len (by decide +kernel) (pa_cons (pv 0) pa_nil)) (pe_callB (clLenQ (K := K)) (by rfl) T.b_len (by decide +kernel) (pa_cons (pv 1) pa_nil)) (nomark _)) (pss_one (ps_ret pe_bl)) pss_nil)
      (pss_one (ps_ret (pe_callB (clAll (K := K)) (by rfl) T.b_all (by decide +kernel) (pa_cons (pe_lc (own := [("k", 2)]) (g := gName 2) rfl sc_law_alike.nd (pi_range1 rfl T.b_range (pa_cons (pe_callB (clLenQ (K := K)) (by rfl) T.b_len (by decide +kernel) (pa_cons (pv 1) pa_nil)) pa_nil)) (blkOk_by (own := [("k", 2)]) (N := ["found", "due", "k"]) (sc := defScope s_law_alike) (by decide +kernel)) (fun _ _ _ _ _ => pg_name (i := 2) sc_law_alike.nd rfl (Or.inl rfl)) (fun _ _ _ _ _ => pts_nil) (fun _ _ _ _ _ => (pcall D_law_alike hr (pa_cons (pe_ix (ixQ (K := K)) (pv 0) (pv 2) (fun _ _ => rfl)) (pa_cons (pe_ix (ixQ (K := K)) (pv 1) (pv 2) (fun _ _ => rfl)) pa_nil))))) pa_nil)))))) pss_nil)
      (pss_cons (ps_if (PW.pt (pw_or (pt_cmpR op_ne (pe_callB (clIsi (K := K)) (by rfl) T.b_isinstance (by decide +kernel) (pa_cons (pv 0) (pa_cons (pe_bltn (v := .ty "bool") (by rfl) T.b_bool (by decide +kernel) rfl) pa_nil))) (pe_callB (clIsi (K := K)) (by rfl) T.b_isinstance (by decide +kernel) (pa_cons (pv 1) (pa_cons (pe_bltn (v := .ty "bool") (by rfl) T.b_bool (by decide +kernel) rfl) pa_nil))) (nomark _)) (pw_or1 (pt_cmpR op_ne (pe_callB (clIsi (K := K)) (by rfl) T.b_isinstance (by decide +kernel) (pa_cons (pv 0) (pa_cons (pe_bltn (v := .ty "int") (by rfl) T.b_int (by decide +kernel) rfl) pa_nil))) (pe_callB (clIsi (K := K)) (by rfl) T.b_isinstance (by decide +kernel) (pa_cons (pv 1) (pa_cons (pe_bltn (v := .ty "int") (by rfl) T.b_int (by decide +kernel) rfl) pa_nil))) (nomark _))))) (pss_one (ps_ret pe_bl)) pss_nil)
      (pss_one (ps_ret (pe_and (pe_cmpR op_eq (pe_callB (clIsi (K := K)) (by rfl) T.b_isinstance (by decide +kernel) (pa_cons (pv 0) (pa_cons (pe_bltn (v := .ty "str") (by rfl) T.b_str (by decide +kernel) rfl) pa_nil))) (pe_callB (clIsi (K := K)) (by rfl) T.b_isinstance (by decide +kernel) (pa_cons (pv 1) (pa_cons (pe_bltn (v := .ty "str") (by rfl) T.b_str (by decide +kernel) rfl) pa_nil))) (nomark _)) (pe_one (pe_cmpR op_eq (pv 0) (pv 1) (nomark _)))))))), ?_⟩
    rw [show start ["found", "due", "k"] [v0, v1] = [some v0, some v1, none] from rfl]
    obtain ⟨F, d, hw, hx, hy, hn, hgd, q⟩ := h
    walk_at "og"
    refine ⟨le1000 (by simp), fun p np => ?_⟩
    have g1 : Gr [] F H F (upd H p (.tup [.ty "list", .ty "tuple"])) := .new hw np
    walk_at "og"
    refine u_isiT hy g1.fh upd_same (k_list d) (k_tuple d) ?_
    walk_at "og"
    cases hs : isSeq d with
    | false =>
      have e1 : isLst d = false := by cases d <;> first | rfl | cases hs
      have e2 : isTup d = false := by cases d <;> first | rfl | cases hs
      refine w_is (c := false) (by rw [e1, e2]; rfl) ?_
      obtain ⟨rfl, hsc⟩ := sca_of hx hy hs
      walk_at "og"
      refine u_isi hx g1.fh (k_bool d) ?_
      walk_at "og"
      refine u_isi hy g1.fh (k_bool d) ?_
      walk_at "og"
      refine u_isi hx g1.fh (k_int d) ?_
      walk_at "og"
      refine u_isi hy g1.fh (k_int d) ?_
      walk_at "og"
      refine u_isi hx g1.fh (k_str d) ?_
      walk_at "og"
      refine u_isi hy g1.fh (k_str d) ?_
      walk_at "og"
      refine ⟨hsc, ?_⟩
      rw [decide_eq_true rfl]
      exact q F _ g1
    | true =>
      refine w_is (c := true) (by cases d <;> first | rfl | cases hs) ?_
      obtain ⟨a, vs, rfl, ha, das⟩ := seq_of hx hs
      obtain ⟨b, us, rfl, hb, dbs⟩ := seq_of hy hs
      have hl : (itemsD d).length ≤ 100000 := good_len hgd
      walk_at "og"
      refine ⟨le1000 (by simp), fun p2 np2 => ?_⟩
      have g2 := g1.addm (o := .tup [.ty "list", .ty "tuple"]) np2
      walk_at "og"
      refine u_isiT hx g2.fh upd_same (k_list d) (k_tuple d) ?_
      walk_at "og"
      refine w_is (c := false) (by cases d <;> first | rfl | cases hs) ?_
      walk_at "og"
      refine u_isi hx g2.fh (k_list d) ?_
      walk_at "og"
      refine u_isi hy g2.fh (k_list d) ?_
      walk_at "og"
      refine ⟨a, vs, rfl, sq_same g2.fh ha, ?_⟩
      walk_at "og"
      refine ⟨b, us, rfl, sq_same g2.fh hb, ?_⟩
      walk_at "og"
      have el : vs.length = us.length := (dpa_len das).trans (dpa_len dbs).symm
      have lv : vs.length = (itemsD d).length := dpa_len das
      rw [el]
      refine w_nself ?_
      walk_at "og"
      refine ⟨b, us, rfl, sq_same g2.fh hb, ?_⟩
      walk_at "og"
      refine ⟨_, rfl, by omega, by omega, fun D nD => ?_⟩
      have g3 := g2.addm (o := .lst []) nD
      refine lc_rng (fun i H' => ∃ F2, Gr [] F H F2 H' ∧ Mu F2 H' D (.lst ((List.replicate i true).map V.bl))) ⟨F, g3, Mu.new g2.fh nD⟩ (fun i H' hi hp => ?_) (fun H' hp => ?_)
      · obtain ⟨F2, g, mu⟩ := hp
        have hi' : i < us.length := by omega
        have hid : (itemsD d)[i]? = some (itemsD d)[i] := List.getElem?_eq_getElem (by omega)
        obtain ⟨v, gv, dv⟩ := dpa_get das hid
        obtain ⟨u, gu, du⟩ := dpa_get dbs hid
        have hdep := depth_item hs hid
        show gName 2 _ [some (.ref a), some (.ref b), none] H' _
        walk_at "og"
        refine ⟨rfl, ?_⟩
        walk_at "og"
        have wF : Same F H' := g.ff.trans g.fh
        refine w_ixQ _ _ (sq_same wF ha) (atI_nat gv) ?_
        walk_at "og"
        refine w_ixQ _ _ (sq_same wF hb) (atI_nat gu) ?_
        walk_at "og"
        refine ⟨F2, _, g.fh, dp_same g.ff _ _ dv, dp_same g.ff _ _ du, by omega, good_item hgd hid, fun F3 H3 g3 => ?_⟩
        have mu3 := g3.mu0 mu
        refine ⟨_, mu3.h, small_lt (by rw [List.length_map, List.length_replicate]; omega), F3, (g.trans g3).wrn mu3.n (g2.fresh nD), ?_⟩
        rw [List.replicate_succ', List.map_append]
        exact mu3.wr
      · obtain ⟨F2, g, mu⟩ := hp
        walk_at "og"
        refine ⟨D, _, rfl, mu.sq, ?_⟩
        rw [all_rep]
        exact q F2 H' g
-- _law_held
theorem ok_law_held {f : Addr} {fd : FuncData} (F : FunD K "_law_held" "_law_held" (defArgs s_law_held) (defBody s_law_held) (defScope s_law_held) [] [] f fd) (T : Txt K mg)  : FnOk P w K mg base CX0 1 f fd ["some", "first", "many"] (S3 (φheld44 K false)) := by
  refine F.ok sc_law_held (fun vs H Q E h => ?_) (fun cdv A outer s H vs Q E hr h => ?_)
  · exact S3.len h
  · match vs, h with
    | [v0, v1, v2], h =>
    have hu := hu_of hr
    refine ⟨_, PSs.nox (pss_cons (ps_if (PW.pt (pw_or (pt_cmpR op_lt (pv 1) pe_int (nomark _)) (pw_or (pt_cmpR op_lt (pv 2) pe_int (nomark _)) (pw_or1 (pt_cmpR op_gt (pe_op op_add (pv 1) (pv 2)) (pe_callB (clLenQ (K := K)) (by rfl) T.b_len (by decide +kernel) (pa_cons (pv 0) pa_nil)) (nomark _)))))) (pss_one (ps_ret (pe_lst pa_nil))) pss_nil)
      (pss_cons (ps_set (i := 3) sc_law_held.nd rfl (.inl rfl) (pe_slice (slL (K := K)) (pv 0) (po_some (pv 1)) (po_some (pe_op op_add (pv 1) (pv 2)))))
      (pss_one (ps_ret (pe_ifExp (pt_cmpR (opIn (K := K)) pe_non (pv 3) (by rfl)) (pe_lst pa_nil) (pv 3)))))), ?_⟩
    rw [show start ["some", "first", "many", "found"] [v0, v1, v2] = [some v0, some v1, some v2, none] from rfl]
    obtain ⟨F, a, xs, f, m, rfl, rfl, rfl, hw, hS, hf, hl, q1, q2, q3⟩ := h
    have w := (W.start (M := []) hw).push (imL K a xs) hS
    walk_at "go"
    by_cases h1 : f < 0
    · rw [decide_eq_true h1]
      walk_at "go"
      have hn : heldV xs f m = none := by unfold heldV; rw [if_pos (.inl h1)]
      exact n_lst w (szle (by simp)) fun p9 F9 H9 w hp9 => q2 hn rfl p9 _ _ hp9 (w.to (by walk_at "pick"))
    rw [decide_eq_false h1]
    walk_at "go"
    by_cases h2 : m < 1
    · rw [decide_eq_true h2]
      walk_at "go"
      have hn : heldV xs f m = none := by unfold heldV; rw [if_pos (.inr (.inl h2))]
      exact n_lst w (szle (by simp)) fun p9 F9 H9 w hp9 => q2 hn rfl p9 _ _ hp9 (w.to (by walk_at "pick"))
    rw [decide_eq_false h2]
    walk_at "go"
    by_cases h3 : (xs.length : Int) < f + m
    · rw [decide_eq_true h3]
      walk_at "go"
      have hn : heldV xs f m = none := by unfold heldV; rw [if_pos (.inr (.inr h3))]
      exact n_lst w (szle (by simp)) fun p9 F9 H9 w hp9 => q2 hn rfl p9 _ _ hp9 (w.to (by walk_at "pick"))
    rw [decide_eq_false h3]
    obtain ⟨fn, rfl⟩ : ∃ fn : Nat, f = (fn : Nat) := ⟨f.toNat, by omega⟩
    obtain ⟨mn, rfl⟩ : ∃ mn : Nat, m = (mn : Nat) := ⟨m.toNat, by omega⟩
    have he : heldV xs (fn : Nat) (mn : Nat) = if inV .non ((xs.drop fn).take mn) = true then none else some ((xs.drop fn).take mn) := by
      unfold heldV
      rw [if_neg (fun h => h.elim h1 fun h => h.elim h2 h3)]
      rfl
    walk_at "go"
    rw [show ((fn : Nat) : Int) + ((mn : Nat) : Int) = ((fn + mn : Nat) : Int) by omega]
    refine n_slL w (by walk_at "sq") fun p F1 H1 w hp => ?_
    rw [cut_nat, show fn + mn - fn = mn by omega] at w
    walk_at "go"
    refine ⟨p, (xs.drop fn).take mn, rfl, .inl (by walk_at "sq"), rfl, flat_all fun v hv => hf v (List.mem_of_mem_drop (List.mem_of_mem_take hv)), ?_⟩
    cases hi : inV .non ((xs.drop fn).take mn) with
    | true =>
      have hn : heldV xs (fn : Nat) (mn : Nat) = none := by rw [he, hi]; rfl
      walk_at "go"
      exact n_lst w (szle (by simp)) fun p9 F9 H9 w hp9 => q2 hn rfl p9 _ _ hp9 (w.to (by walk_at "pick"))
    | false =>
      walk_at "go"
      rw [show (if false = true then !false else false) = false from rfl]
      walk_at "go"
      exact q3 _ (by rw [he, hi]; rfl) p _ _ hp (w.to (by walk_at "pick"))
-- _law_what
theorem ok_law_what {f : Addr} {fd : FuncData} (F : FunD K "_law_what" "_law_what" (defArgs s_law_what) (defBody s_law_what) (defScope s_law_what) [] [] f fd) (T : Txt K mg) (D_law_held : DO P w K mg base 1 "_law_held" ["some", "first", "many"] [] (S3 (φheld44 K false))) : FnOk P w K mg base CX0 2 f fd ["row", "cells", "slots"] (S3 (φwhat44 K false)) := by
  refine F.ok sc_law_what (fun vs H Q E h => ?_) (fun cdv A outer s H vs Q E hr h => ?_)
  · exact S3.len h
  · match vs, h with
    | [v0, v1, v2], h =>
    have hu := hu_of hr
    refine ⟨_, PSs.nox (pss_cons (ps_if (pt_cmpR op_eq (pe_ix (ixT (K := K)) (pv 0) pe_int (fun _ _ => rfl)) pe_str (nomark _)) (pss_one (ps_ret (pe_callTy clListS (by rfl) T.b_list (by decide +kernel) (pa_cons (pe_ix (ixT (K := K)) (pv 0) pe_int (fun _ _ => rfl)) pa_nil)))) pss_nil)
      (pss_cons (ps_if (pt_cmpR op_eq (pe_ix (ixT (K := K)) (pv 0) pe_int (fun _ _ => rfl)) pe_str (nomark _)) (pss_one (ps_ret (pcall D_law_held hr (pa_cons (pv 2) (pa_cons (pe_ix (ixT (K := K)) (pv 0) pe_int (fun _ _ => rfl)) (pa_cons (pe_ix (ixT (K := K)) (pv 0) pe_int (fun _ _ => rfl)) pa_nil)))))) pss_nil)
      (pss_cons (ps_if (PW.pt (pw_and (pt_cmpR op_eq (pe_ix (ixT (K := K)) (pv 0) pe_int (fun _ _ => rfl)) pe_str (nomark _)) (pw_and1 (pt_cmpR op_eq (pe_ix (ixT (K := K)) (pv 0) pe_int (fun _ _ => rfl)) (pe_ix (ixT (K := K)) (pv 0) pe_int (fun _ _ => rfl)) (nomark _))))) (pss_one (ps_ret (pe_lst pa_nil))) pss_nil)
      (pss_one (ps_ret (pcall D_law_held hr (pa_cons (pv 1) (pa_cons (pe_ix (ixT (K := K)) (pv 0) pe_int (fun _ _ => rfl)) (pa_cons (pe_ix (ixT (K := K)) (pv 0) pe_int (fun _ _ => rfl)) pa_nil))))))))), ?_⟩
    rw [show start ["row", "cells", "slots"] [v0, v1, v2] = [some v0, some v1, some v2] from rfl]
    obtain ⟨F, a, b, cs, ss, r, rfl, rfl, hw, hD, hC, hSs, hr, hcf, hsf, hcl, hsl, q1, q2, q3⟩ := h
    have w := ((W.start (M := []) hw).push (imL K a cs) hC).push (imL K b ss) hSs
    cases r with
    | put to s =>
      obtain ⟨pa, rfl, hT⟩ := dp_jput hD
      replace w := w.push (imT K pa [.str "put", .int to, .str s]) hT
      have hs2 := hr.2
      walk_at "go"
      refine n_listS w (szle (by omega)) fun p6 F6 H6 w hp6 => ?_
      by_cases h0 : s.length = 0
      · have hn : whatV cs ss (.put to s) = none := if_pos h0
        have e0 : chars s = [] := List.length_eq_zero_iff.mp (by rw [chars_len]; exact h0)
        rw [e0] at w
        exact q2 hn rfl p6 _ _ hp6 (w.to (by walk_at "pick"))
      · have hn : whatV cs ss (.put to s) = some (chars s) := if_neg h0
        exact q3 _ hn p6 _ _ hp6 (w.to (by walk_at "pick"))
    | keep to f m =>
      obtain ⟨pa, rfl, hT⟩ := dp_j4 hD
      replace w := w.push (imT K pa [.str (Str.ofString "keep"), .int to, .int f, .int m]) hT
      walk_at "go"
      exact ⟨F, a, cs, f, m, rfl, rfl, rfl, hw, hC, hcf, hcl, q1, q2, q3⟩
    | lay to f m =>
      obtain ⟨pa, rfl, hT⟩ := dp_j4 hD
      replace w := w.push (imT K pa [.str (Str.ofString "lay"), .int to, .int f, .int m]) hT
      walk_at "go"
      exact ⟨F, b, ss, f, m, rfl, rfl, rfl, hw, hSs, hsf, hsl, q1, q2, q3⟩
    | copy to f m =>
      obtain ⟨pa, rfl, hT⟩ := dp_j4 hD
      replace w := w.push (imT K pa [.str (Str.ofString "copy"), .int to, .int f, .int m]) hT
      walk_at "go"
      by_cases e : to = f
      · rw [decide_eq_true e]
        have hn : whatV cs ss (.copy to f m) = none := if_pos e
        walk_at "go"
        exact n_lst w (szle (by simp)) fun p9 F9 H9 w hp9 => q2 hn rfl p9 _ _ hp9 (w.to (by walk_at "pick"))
      · rw [decide_eq_false e]
        have hn : whatV cs ss (.copy to f m) = heldV cs f m := if_neg e
        rw [hn] at q1 q2 q3
        walk_at "go"
        exact ⟨F, a, cs, f, m, rfl, rfl, rfl, hw, hC, hcf, hcl, q1, q2, q3⟩
-- _law_walk
theorem ok_law_walk {f : Addr} {fd : FuncData} (F : FunD K "_law_walk" "_law_walk" (defArgs s_law_walk) (defBody s_law_walk) (defScope s_law_walk) [] [] f fd) (T : Txt K mg) (D_law_what : DO P w K mg base 2 "_law_what" ["row", "cells", "slots"] [] (S3 (φwhat44 K false))) : FnOk P w K mg base CX0 3 f fd ["steps", "cells", "slots"] (S3 (φwalk44 K)) := by
  refine F.ok sc_law_walk (fun vs H Q E h => ?_) (fun cdv A outer s H vs Q E hr h => ?_)
  · exact S3.len h
  · match vs, h with
    | [v0, v1, v2], h =>
    have hu := hu_of hr
    refine ⟨_, PSs.nox (pss_cons (ps_for PassesOwn.never rfl (pi_range1 rfl T.b_range (pa_cons (pe_callB (clLenQ (K := K)) (by rfl) T.b_len (by decide +kernel) (pa_cons (pv 0) pa_nil)) pa_nil)) (pg_name (i := 3) sc_law_walk.nd rfl (.inl rfl)) (pss_cons (ps_set (i := 4) sc_law_walk.nd rfl (.inl rfl) (pcall D_law_what hr (pa_cons (pe_ix (ixL (K := K)) (pv 0) (pv 3) (fun _ _ => rfl)) (pa_cons (pv 1) (pa_cons (pv 2) pa_nil)))))
      (pss_cons (ps_set (i := 5) sc_law_walk.nd rfl (.inl rfl) (pe_ifExp (pt_cmpR op_eq (pe_ix (ixT (K := K)) (pe_ix (ixL (K := K)) (pv 0) (pv 3) (fun _ _ => rfl)) pe_int (fun _ _ => rfl)) pe_str (nomark _)) (pv 2) (pv 1)))
      (pss_cons (ps_set (i := 6) sc_law_walk.nd rfl (.inl rfl) (pe_ix (ixT (K := K)) (pe_ix (ixL (K := K)) (pv 0) (pv 3) (fun _ _ => rfl)) pe_int (fun _ _ => rfl)))
      (pss_cons (ps_if (PW.pt (pw_or (pt_cmpR (opEqD (K := K) hr.units) (pv 4) (pe_lst pa_nil) (nomark _)) (pw_or (pt_cmpR op_lt (pv 6) pe_int (nomark _)) (pw_or1 (pt_cmpR op_gt (pe_op op_add (pv 6) (pe_callB (clLenQ (K := K)) (by rfl) T.b_len (by decide +kernel) (pa_cons (pv 4) pa_nil))) (pe_callB (clLenQ (K := K)) (by rfl) T.b_len (by decide +kernel) (pa_cons (pv 5) pa_nil)) (nomark _)))))) (pss_one (ps_ret (pv 3))) pss_nil)
      (pss_one (ps_for PassesOwn.never rfl (pi_range1 rfl T.b_range (pa_cons (pe_callB (clLenQ (K := K)) (by rfl) T.b_len (by decide +kernel) (pa_cons (pv 4) pa_nil)) pa_nil)) (pg_name (i := 7) sc_law_walk.nd rfl (.inl rfl)) (pss_one (ps_asg (pe_ix (ixL (K := K)) (pv 4) (pv 7) (fun _ _ => rfl)) (pg_sub (pv 5) (pe_op op_add (pv 6) (pv 7)) set_list))))))))))
      (pss_one (ps_ret pe_non))), ?_⟩
    rw [show start ["steps", "cells", "slots", "k", "some", "goal", "to", "j"] [v0, v1, v2] = [some v0, some v1, some v2, none, none, none, none, none] from rfl]
    obtain ⟨F, sp, a, b, vs, js, cs, ss, A, B, rfl, rfl, rfl, s0, hS, hD, hjs, hst0, hA, hB, hjl, q1, q2⟩ := h
    have w := ((s0.w (M := [a, b])).push (imL K sp vs) hS).push (dpa K vs (js.map JR.d)) hD
    have hvl : vs.length = js.length := by rw [dpa_len hD, List.length_map]
    walk_at "go"
    refine n_forR w (fun i σ L => ∃ (st : List V × List V), ∃ y3 y4 y5 y6 y7, σ = [some (.ref sp), some (.ref a), some (.ref b), y3, y4, y5, y6, y7] ∧ stepsJ (js.take i) (cs, ss) = some st ∧ L = [mu a (.lst st.1), mu b (.lst st.2), imL K sp vs, dpa K vs (js.map JR.d)]) ⟨(cs, ss), _, _, _, _, _, rfl, rfl, rfl⟩ (fun i σ L F' H' hi hp w => ?_) (fun σ L F' H' hp w => ?_)
    · obtain ⟨st, y3, y4, y5, y6, y7, rfl, hst, rfl⟩ := hp
      have hi : i < js.length := by omega
      obtain ⟨x, hx⟩ : ∃ x, vs[i]? = some x := ⟨_, List.getElem?_eq_getElem (by omega)⟩
      obtain ⟨r, hr, dr⟩ := dpa_at (w.dpa (K := K) (xs := vs) (ds := js.map JR.d) (by walk_at "mem")) hx
      have hro := hjs r (List.mem_of_getElem? hr)
      have hS1 := hst0.steps (fun q hq => hjs q (List.mem_of_mem_take hq)) hst
      have hc1 : st.1.length = A := hS1.c
      have hs1 : st.2.length = B := hS1.s
      cases r with
      | put to s =>
        obtain ⟨pa, rfl, hT⟩ := dp_jput dr
        replace w := w.push (imT K pa [.str (Str.ofString "put"), .int to, .str s]) hT
        have dr' := dr
        walk_at "go"
        refine w_ixL _ _ (by walk_at "sq") (atI_nat hx) ?_
        walk_at "go"
        refine ⟨H', a, b, st.1, st.2, .put to s, rfl, rfl, Same.refl _, dp_same w.fh _ _ dr', w.sqM (by walk_at "mem"), w.sqM (by walk_at "mem"), hro, hS1.fc, hS1.fs, by omega, by omega, (fun _ h => nomatch h), fun hn _ p F2 H2 hp w2 => ?_, fun ys hy p F2 H2 hp w2 => ?_⟩
        · replace w := w.ro w2 hp
          walk_at "go"
          refine w_ixL _ _ (by walk_at "sq") (atI_nat hx) ?_
          walk_at "go"
          refine w_ixL _ _ (by walk_at "sq") (atI_nat hx) ?_
          walk_at "go"
          refine n_lst w (szle (by simp)) fun p8 F8 H8 w hp8 => ?_
          walk_at "go"
          refine n_eqF (ys := []) (by walk_at "sq") (by walk_at "sq") (fun v h => nomatch h) (by decide) ?_
          rw [decide_eq_true (show ([] : List V) = [] from rfl)]
          walk_at "go"
          exact q1 i _ st hr hst (by unfold doneV; rw [hn]) _ _ (w.to (by walk_at "pick"))
        · replace w := w.ro w2 hp
          have hyl := what_len hro hy
          have hyf := what_flat hro hS1.fc hS1.fs hy
          have hdn : doneV (.put to s) st.1 st.2 = if to < 0 ∨ ((st.1.length : Nat) : Int) < to + (ys.length : Int) then none else some (laidL st.1 to.toNat ys, st.2) := by unfold doneV; rw [hy]; rfl
          walk_at "go"
          refine w_ixL _ _ (by walk_at "sq") (atI_nat hx) ?_
          walk_at "go"
          refine w_ixL _ _ (by walk_at "sq") (atI_nat hx) ?_
          walk_at "go"
          refine n_lst w (szle (by simp)) fun p8 F8 H8 w hp8 => ?_
          walk_at "go"
          refine n_eqF (by walk_at "sq") (by walk_at "sq") hyf (by omega) ?_
          rw [decide_eq_false (show ¬ ys = [] from fun e => by rw [e] at hyl; exact absurd hyl.1 (by decide))]
          walk_at "go"
          by_cases h1 : to < 0
          · rw [decide_eq_true h1]
            walk_at "go"
            exact q1 i _ st hr hst (by rw [hdn, if_pos (.inl h1)]) _ _ (w.to (by walk_at "pick"))
          · rw [decide_eq_false h1]
            walk_at "go"
            by_cases h2 : ((st.1.length : Nat) : Int) < to + (ys.length : Int)
            · rw [decide_eq_true h2]
              walk_at "go"
              exact q1 i _ st hr hst (by rw [hdn, if_pos (.inr h2)]) _ _ (w.to (by walk_at "pick"))
            · rw [decide_eq_false h2]
              obtain ⟨tn, rfl⟩ : ∃ tn : Nat, to = (tn : Nat) := ⟨to.toNat, by omega⟩
              walk_at "go"
              refine n_forR w (fun j σ L => ∃ y7, σ = [some (.ref sp), some (.ref a), some (.ref b), some (.int (i : Nat)), some (.ref p), some (.ref a), some (.int (tn : Nat)), y7] ∧ L = [mu p (.lst ys), mu a (.lst (putN (fun k => ys.getD k .non) st.1 tn j)), mu b (.lst st.2), imL K sp vs, dpa K vs (js.map JR.d)]) ⟨_, rfl, rfl⟩ (fun j σ L F' H' hj hp w => ?_) (fun σ L F' H' hp w => ?_)
              · obtain ⟨y7, rfl, rfl⟩ := hp
                have hj : j < ys.length := by omega
                have hpl := putN_len (fun k => ys.getD k .non) st.1 tn j
                walk_at "go"
                refine w_ixL _ _ (by walk_at "sq") (atI_nat (getD_of hj)) ?_
                walk_at "go"
                rw [show ((tn : Nat) : Int) + ((j : Nat) : Int) = ((tn + j : Nat) : Int) by omega]
                refine n_setL w (by walk_at "pick") (tn + j) (ixNatJ (by omega)) fun H5 w => ?_
                exact nx_mk w ⟨_, rfl, rfl⟩ (by walk_at "pk")
              · obtain ⟨y7, rfl, rfl⟩ := hp
                rw [show ((((ys.length : Nat) : Int)).toNat) = ys.length by omega, laid_put (by omega)] at w
                exact nx_mk w ⟨(laidL st.1 tn ys, st.2), _, _, _, _, _, rfl, by rw [steps_take hr hst, hdn, if_neg (fun h => h.elim h1 h2)]; rfl, rfl⟩ (by walk_at "pk")
      | keep to f m =>
        obtain ⟨pa, rfl, hT⟩ := dp_j4 dr
        replace w := w.push (imT K pa [.str (Str.ofString "keep"), .int to, .int f, .int m]) hT
        have dr' := dr
        walk_at "go"
        refine w_ixL _ _ (by walk_at "sq") (atI_nat hx) ?_
        walk_at "go"
        refine ⟨H', a, b, st.1, st.2, .keep to f m, rfl, rfl, Same.refl _, dp_same w.fh _ _ dr', w.sqM (by walk_at "mem"), w.sqM (by walk_at "mem"), hro, hS1.fc, hS1.fs, by omega, by omega, (fun _ h => nomatch h), fun hn _ p F2 H2 hp w2 => ?_, fun ys hy p F2 H2 hp w2 => ?_⟩
        · replace w := w.ro w2 hp
          walk_at "go"
          refine w_ixL _ _ (by walk_at "sq") (atI_nat hx) ?_
          walk_at "go"
          refine w_ixL _ _ (by walk_at "sq") (atI_nat hx) ?_
          walk_at "go"
          refine n_lst w (szle (by simp)) fun p8 F8 H8 w hp8 => ?_
          walk_at "go"
          refine n_eqF (ys := []) (by walk_at "sq") (by walk_at "sq") (fun v h => nomatch h) (by decide) ?_
          rw [decide_eq_true (show ([] : List V) = [] from rfl)]
          walk_at "go"
          exact q1 i _ st hr hst (by unfold doneV; rw [hn]) _ _ (w.to (by walk_at "pick"))
        · replace w := w.ro w2 hp
          have hyl := what_len hro hy
          have hyf := what_flat hro hS1.fc hS1.fs hy
          have hdn : doneV (.keep to f m) st.1 st.2 = if to < 0 ∨ ((st.2.length : Nat) : Int) < to + (ys.length : Int) then none else some (st.1, laidL st.2 to.toNat ys) := by unfold doneV; rw [hy]; rfl
          walk_at "go"
          refine w_ixL _ _ (by walk_at "sq") (atI_nat hx) ?_
          walk_at "go"
          refine w_ixL _ _ (by walk_at "sq") (atI_nat hx) ?_
          walk_at "go"
          refine n_lst w (szle (by simp)) fun p8 F8 H8 w hp8 => ?_
          walk_at "go"
          refine n_eqF (by walk_at "sq") (by walk_at "sq") hyf (by omega) ?_
          rw [decide_eq_false (show ¬ ys = [] from fun e => by rw [e] at hyl; exact absurd hyl.1 (by decide))]
          walk_at "go"
          by_cases h1 : to < 0
          · rw [decide_eq_true h1]
            walk_at "go"
            exact q1 i _ st hr hst (by rw [hdn, if_pos (.inl h1)]) _ _ (w.to (by walk_at "pick"))
          · rw [decide_eq_false h1]
            walk_at "go"
            by_cases h2 : ((st.2.length : Nat) : Int) < to + (ys.length : Int)
            · rw [decide_eq_true h2]
              walk_at "go"
              exact q1 i _ st hr hst (by rw [hdn, if_pos (.inr h2)]) _ _ (w.to (by walk_at "pick"))
            · rw [decide_eq_false h2]
              obtain ⟨tn, rfl⟩ : ∃ tn : Nat, to = (tn : Nat) := ⟨to.toNat, by omega⟩
              walk_at "go"
              refine n_forR w (fun j σ L => ∃ y7, σ = [some (.ref sp), some (.ref a), some (.ref b), some (.int (i : Nat)), some (.ref p), some (.ref b), some (.int (tn : Nat)), y7] ∧ L = [mu p (.lst ys), mu a (.lst st.1), mu b (.lst (putN (fun k => ys.getD k .non) st.2 tn j)), imL K sp vs, dpa K vs (js.map JR.d)]) ⟨_, rfl, rfl⟩ (fun j σ L F' H' hj hp w => ?_) (fun σ L F' H' hp w => ?_)
              · obtain ⟨y7, rfl, rfl⟩ := hp
                have hj : j < ys.length := by omega
                have hpl := putN_len (fun k => ys.getD k .non) st.2 tn j
                walk_at "go"
                refine w_ixL _ _ (by walk_at "sq") (atI_nat (getD_of hj)) ?_
                walk_at "go"
                rw [show ((tn : Nat) : Int) + ((j : Nat) : Int) = ((tn + j : Nat) : Int) by omega]
                refine n_setL w (by walk_at "pick") (tn + j) (ixNatJ (by omega)) fun H5 w => ?_
                exact nx_mk w ⟨_, rfl, rfl⟩ (by walk_at "pk")
              · obtain ⟨y7, rfl, rfl⟩ := hp
                rw [show ((((ys.length : Nat) : Int)).toNat) = ys.length by omega, laid_put (by omega)] at w
                exact nx_mk w ⟨(st.1, laidL st.2 tn ys), _, _, _, _, _, rfl, by rw [steps_take hr hst, hdn, if_neg (fun h => h.elim h1 h2)]; rfl, rfl⟩ (by walk_at "pk")
      | lay to f m =>
        obtain ⟨pa, rfl, hT⟩ := dp_j4 dr
        replace w := w.push (imT K pa [.str (Str.ofString "lay"), .int to, .int f, .int m]) hT
        have dr' := dr
        walk_at "go"
        refine w_ixL _ _ (by walk_at "sq") (atI_nat hx) ?_
        walk_at "go"
        refine ⟨H', a, b, st.1, st.2, .lay to f m, rfl, rfl, Same.refl _, dp_same w.fh _ _ dr', w.sqM (by walk_at "mem"), w.sqM (by walk_at "mem"), hro, hS1.fc, hS1.fs, by omega, by omega, (fun _ h => nomatch h), fun hn _ p F2 H2 hp w2 => ?_, fun ys hy p F2 H2 hp w2 => ?_⟩
        · replace w := w.ro w2 hp
          walk_at "go"
          refine w_ixL _ _ (by walk_at "sq") (atI_nat hx) ?_
          walk_at "go"
          refine w_ixL _ _ (by walk_at "sq") (atI_nat hx) ?_
          walk_at "go"
          refine n_lst w (szle (by simp)) fun p8 F8 H8 w hp8 => ?_
          walk_at "go"
          refine n_eqF (ys := []) (by walk_at "sq") (by walk_at "sq") (fun v h => nomatch h) (by decide) ?_
          rw [decide_eq_true (show ([] : List V) = [] from rfl)]
          walk_at "go"
          exact q1 i _ st hr hst (by unfold doneV; rw [hn]) _ _ (w.to (by walk_at "pick"))
        · replace w := w.ro w2 hp
          have hyl := what_len hro hy
          have hyf := what_flat hro hS1.fc hS1.fs hy
          have hdn : doneV (.lay to f m) st.1 st.2 = if to < 0 ∨ ((st.1.length : Nat) : Int) < to + (ys.length : Int) then none else some (laidL st.1 to.toNat ys, st.2) := by unfold doneV; rw [hy]; rfl
          walk_at "go"
          refine w_ixL _ _ (by walk_at "sq") (atI_nat hx) ?_
          walk_at "go"
          refine w_ixL _ _ (by walk_at "sq") (atI_nat hx) ?_
          walk_at "go"
          refine n_lst w (szle (by simp)) fun p8 F8 H8 w hp8 => ?_
          walk_at "go"
          refine n_eqF (by walk_at "sq") (by walk_at "sq") hyf (by omega) ?_
          rw [decide_eq_false (show ¬ ys = [] from fun e => by rw [e] at hyl; exact absurd hyl.1 (by decide))]
          walk_at "go"
          by_cases h1 : to < 0
          · rw [decide_eq_true h1]
            walk_at "go"
            exact q1 i _ st hr hst (by rw [hdn, if_pos (.inl h1)]) _ _ (w.to (by walk_at "pick"))
          · rw [decide_eq_false h1]
            walk_at "go"
            by_cases h2 : ((st.1.length : Nat) : Int) < to + (ys.length : Int)
            · rw [decide_eq_true h2]
              walk_at "go"
              exact q1 i _ st hr hst (by rw [hdn, if_pos (.inr h2)]) _ _ (w.to (by walk_at "pick"))
            · rw [decide_eq_false h2]
              obtain ⟨tn, rfl⟩ : ∃ tn : Nat, to = (tn : Nat) := ⟨to.toNat, by omega⟩
              walk_at "go"
              refine n_forR w (fun j σ L => ∃ y7, σ = [some (.ref sp), some (.ref a), some (.ref b), some (.int (i : Nat)), some (.ref p), some (.ref a), some (.int (tn : Nat)), y7] ∧ L = [mu p (.lst ys), mu a (.lst (putN (fun k => ys.getD k .non) st.1 tn j)), mu b (.lst st.2), imL K sp vs, dpa K vs (js.map JR.d)]) ⟨_, rfl, rfl⟩ (fun j σ L F' H' hj hp w => ?_) (fun σ L F' H' hp w => ?_)
              · obtain ⟨y7, rfl, rfl⟩ := hp
                have hj : j < ys.length := by omega
                have hpl := putN_len (fun k => ys.getD k .non) st.1 tn j
                walk_at "go"
                refine w_ixL _ _ (by walk_at "sq") (atI_nat (getD_of hj)) ?_
                walk_at "go"
                rw [show ((tn : Nat) : Int) + ((j : Nat) : Int) = ((tn + j : Nat) : Int) by omega]
                refine n_setL w (by walk_at "pick") (tn + j) (ixNatJ (by omega)) fun H5 w => ?_
                exact nx_mk w ⟨_, rfl, rfl⟩ (by walk_at "pk")
              · obtain ⟨y7, rfl, rfl⟩ := hp
                rw [show ((((ys.length : Nat) : Int)).toNat) = ys.length by omega, laid_put (by omega)] at w
                exact nx_mk w ⟨(laidL st.1 tn ys, st.2), _, _, _, _, _, rfl, by rw [steps_take hr hst, hdn, if_neg (fun h => h.elim h1 h2)]; rfl, rfl⟩ (by walk_at "pk")
      | copy to f m =>
        obtain ⟨pa, rfl, hT⟩ := dp_j4 dr
        replace w := w.push (imT K pa [.str (Str.ofString "copy"), .int to, .int f, .int m]) hT
        have dr' := dr
        walk_at "go"
        refine w_ixL _ _ (by walk_at "sq") (atI_nat hx) ?_
        walk_at "go"
        refine ⟨H', a, b, st.1, st.2, .copy to f m, rfl, rfl, Same.refl _, dp_same w.fh _ _ dr', w.sqM (by walk_at "mem"), w.sqM (by walk_at "mem"), hro, hS1.fc, hS1.fs, by omega, by omega, (fun _ h => nomatch h), fun hn _ p F2 H2 hp w2 => ?_, fun ys hy p F2 H2 hp w2 => ?_⟩
        · replace w := w.ro w2 hp
          walk_at "go"
          refine w_ixL _ _ (by walk_at "sq") (atI_nat hx) ?_
          walk_at "go"
          refine w_ixL _ _ (by walk_at "sq") (atI_nat hx) ?_
          walk_at "go"
          refine n_lst w (szle (by simp)) fun p8 F8 H8 w hp8 => ?_
          walk_at "go"
          refine n_eqF (ys := []) (by walk_at "sq") (by walk_at "sq") (fun v h => nomatch h) (by decide) ?_
          rw [decide_eq_true (show ([] : List V) = [] from rfl)]
          walk_at "go"
          exact q1 i _ st hr hst (by unfold doneV; rw [hn]) _ _ (w.to (by walk_at "pick"))
        · replace w := w.ro w2 hp
          have hyl := what_len hro hy
          have hyf := what_flat hro hS1.fc hS1.fs hy
          have hdn : doneV (.copy to f m) st.1 st.2 = if to < 0 ∨ ((st.1.length : Nat) : Int) < to + (ys.length : Int) then none else some (laidL st.1 to.toNat ys, st.2) := by unfold doneV; rw [hy]; rfl
          walk_at "go"
          refine w_ixL _ _ (by walk_at "sq") (atI_nat hx) ?_
          walk_at "go"
          refine w_ixL _ _ (by walk_at "sq") (atI_nat hx) ?_
          walk_at "go"
          refine n_lst w (szle (by simp)) fun p8 F8 H8 w hp8 => ?_
          walk_at "go"
          refine n_eqF (by walk_at "sq") (by walk_at "sq") hyf (by omega) ?_
          rw [decide_eq_false (show ¬ ys = [] from fun e => by rw [e] at hyl; exact absurd hyl.1 (by decide))]
          walk_at "go"
          by_cases h1 : to < 0
          · rw [decide_eq_true h1]
            walk_at "go"
            exact q1 i _ st hr hst (by rw [hdn, if_pos (.inl h1)]) _ _ (w.to (by walk_at "pick"))
          · rw [decide_eq_false h1]
            walk_at "go"
            by_cases h2 : ((st.1.length : Nat) : Int) < to + (ys.length : Int)
            · rw [decide_eq_true h2]
              walk_at "go"
              exact q1 i _ st hr hst (by rw [hdn, if_pos (.inr h2)]) _ _ (w.to (by walk_at "pick"))
            · rw [decide_eq_false h2]
              obtain ⟨tn, rfl⟩ : ∃ tn : Nat, to = (tn : Nat) := ⟨to.toNat, by omega⟩
              walk_at "go"
              refine n_forR w (fun j σ L => ∃ y7, σ = [some (.ref sp), some (.ref a), some (.ref b), some (.int (i : Nat)), some (.ref p), some (.ref a), some (.int (tn : Nat)), y7] ∧ L = [mu p (.lst ys), mu a (.lst (putN (fun k => ys.getD k .non) st.1 tn j)), mu b (.lst st.2), imL K sp vs, dpa K vs (js.map JR.d)]) ⟨_, rfl, rfl⟩ (fun j σ L F' H' hj hp w => ?_) (fun σ L F' H' hp w => ?_)
              · obtain ⟨y7, rfl, rfl⟩ := hp
                have hj : j < ys.length := by omega
                have hpl := putN_len (fun k => ys.getD k .non) st.1 tn j
                walk_at "go"
                refine w_ixL _ _ (by walk_at "sq") (atI_nat (getD_of hj)) ?_
                walk_at "go"
                rw [show ((tn : Nat) : Int) + ((j : Nat) : Int) = ((tn + j : Nat) : Int) by omega]
                refine n_setL w (by walk_at "pick") (tn + j) (ixNatJ (by omega)) fun H5 w => ?_
                exact nx_mk w ⟨_, rfl, rfl⟩ (by walk_at "pk")
              · obtain ⟨y7, rfl, rfl⟩ := hp
                rw [show ((((ys.length : Nat) : Int)).toNat) = ys.length by omega, laid_put (by omega)] at w
                exact nx_mk w ⟨(laidL st.1 tn ys, st.2), _, _, _, _, _, rfl, by rw [steps_take hr hst, hdn, if_neg (fun h => h.elim h1 h2)]; rfl, rfl⟩ (by walk_at "pk")
    · obtain ⟨st, y3, y4, y5, y6, y7, rfl, hst, rfl⟩ := hp
      rw [show ((((vs.length : Nat) : Int)).toNat) = js.length by omega, List.take_length] at hst
      walk_at "go"
      exact q2 st hst _ _ (w.to (by walk_at "pick"))
-- _law_number
theorem ok_law_number {f : Addr} {fd : FuncData} (F : FunD K "_law_number" "_law_number" (defArgs s_law_number) (defBody s_law_number) (defScope s_law_number) [] [] f fd) (T : Txt K mg) (D_law_draw : DO P w K mg base 2 "_law_draw" ["bag", "many"] [] (S2 (φdraw K))) : FnOk P w K mg base CX0 3 f fd ["bag", "number"] (S2 (φnumber44 K)) := by
  refine F.ok sc_law_number (fun vs H Q E h => ?_) (fun cdv A outer s H vs Q E hr h => ?_)
  · exact S2.len h
  · match vs, h with
    | [v0, v1], h =>
    have hu := hu_of hr
    refine ⟨_, PSs.nox (pss_cons (ps_set (i := 2) sc_law_number.nd rfl (.inl rfl) (pcall D_law_draw hr (pa_cons (pv 0) (pa_cons pe_int pa_nil))))
      (pss_cons (ps_if (pt_cmpR op_lt (pv 2) pe_int (nomark _)) (pss_one (ps_ret (pe_op op_add (pv 1) (pe_ix (ixL (K := K)) (pe_lst (pa_cons pe_int (pa_cons (pe_un un_neg pe_int) (pa_cons pe_int (pa_cons (pe_un un_neg pe_int) pa_nil))))) (pv 2) (fun _ _ => rfl))))) pss_nil)
      (pss_one (ps_ret (pe_ix (ixL (K := K)) (pe_lst (pa_cons (pe_un un_neg pe_int) (pa_cons pe_int (pa_cons pe_int (pa_cons (pe_op op_sub (pe_un un_neg pe_int) (pcall D_law_draw hr (pa_cons (pv 0) (pa_cons (pe_op op_pow pe_int pe_int) pa_nil)))) (pa_cons (pe_op op_pow pe_int pe_int) pa_nil)))))) (pe_op op_mod (pe_op op_add (pe_op op_sub (pv 2) pe_int) (pcall D_law_draw hr (pa_cons (pv 0) (pa_cons pe_int pa_nil)))) pe_int) (fun _ _ => rfl)))))), ?_⟩
    rw [show start ["bag", "number", "way"] [v0, v1] = [some v0, some v1, none] from rfl]
    obtain ⟨F, b, n, rfl, rfl, s0, q⟩ := h
    have w := s0.w (M := [b])
    walk_at "go"
    refine n_draw w (by walk_at "pick") (by decide) (by decide) fun r F1 H1 w r0 r1 => ?_
    walk_at "go"
    by_cases h4 : r < 4
    · rw [decide_eq_true h4]
      walk_at "go"
      refine n_lst w (szle (by simp)) fun p1 F1 H1 w hp1 => ?_
      obtain ⟨m, em, m0, m1⟩ := pick_ix (ns := [1, -1, 2, -2]) (lo := -2) (hi := 2) r0 (show r < 4 from h4) (by intro x hx; simp only [List.mem_cons, List.not_mem_nil, or_false] at hx; omega)
      walk_at "go"
      refine w_ixL _ _ (by walk_at "sq") em ?_
      walk_at "go"
      exact q _ _ _ (w.to (by walk_at "pick"))
    · rw [decide_eq_false h4]
      walk_at "go"
      refine n_draw w (by walk_at "pick") (by decide +kernel) (by decide +kernel) fun r1 F1 H1 w r10 r11 => ?_
      walk_at "go"
      refine n_lst w (szle (by simp)) fun p1 F1 H1 w hp1 => ?_
      walk_at "go"
      refine n_draw w (by walk_at "pick") (by decide) (by decide) fun r2 F1 H1 w r20 r21 => ?_
      walk_at "go"
      obtain ⟨m, em⟩ := pick_any (ns := [-1, 400, 0, -1 - r1, 10 ^ Int.toNat 50]) (i := (r - 4 + r2) % 5) (by omega) (by show _ < (5 : Int); omega)
      refine w_ixL _ _ (by walk_at "sq") em ?_
      exact q _ _ _ (w.to (by walk_at "pick"))
-- _law_any_row
theorem ok_law_any_row {f : Addr} {fd : FuncData} (F : FunD K "_law_any_row" "_law_any_row" (defArgs s_law_any_row) (defBody s_law_any_row) (defScope s_law_any_row) [] [] f fd) (T : Txt K mg) (D_law_draw : DO P w K mg base 2 "_law_draw" ["bag", "many"] [] (S2 (φdraw K))) (D_law_number : DO P w K mg base 3 "_law_number" ["bag", "number"] [] (S2 (φnumber44 K))) (D_law_text : DO P w K mg base 3 "_law_text" ["bag", "many"] [] (S2 (φtextN K))) : FnOk P w K mg base CX0 4 f fd ["bag", "big", "extra"] (S3 (φanyrow44 K)) := by
  refine F.ok sc_law_any_row (fun vs H Q E h => ?_) (fun cdv A outer s H vs Q E hr h => ?_)
  · exact S3.len h
  · match vs, h with
    | [v0, v1, v2], h =>
    have hu := hu_of hr
    refine ⟨_, PSs.nox (pss_cons (ps_set (i := 3) sc_law_any_row.nd rfl (.inl rfl) (pe_ix (ixL (K := K)) (pe_lst (pa_cons pe_str (pa_cons pe_str (pa_cons pe_str (pa_cons pe_str pa_nil))))) (pcall D_law_draw hr (pa_cons (pv 0) (pa_cons pe_int pa_nil))) (fun _ _ => rfl)))
      (pss_cons (ps_set (i := 4) sc_law_any_row.nd rfl (.inl rfl) (pe_op op_add pe_int (pcall D_law_draw hr (pa_cons (pv 0) (pa_cons (pe_ix (ixL (K := K)) (pe_lst (pa_cons pe_int (pa_cons pe_int (pa_cons pe_int (pa_cons pe_int pa_nil))))) (pcall D_law_draw hr (pa_cons (pv 0) (pa_cons pe_int pa_nil))) (fun _ _ => rfl)) pa_nil)))))
      (pss_cons (ps_set (i := 5) sc_law_any_row.nd rfl (.inl rfl) (pe_op op_add (pe_op op_add (pv 1) (pv 2)) pe_int))
      (pss_cons (ps_if (pt_cmpR op_eq (pv 3) pe_str (nomark _)) (pss_one (ps_ret (pe_tup (pa_cons pe_str (pa_cons (pcall D_law_draw hr (pa_cons (pv 0) (pa_cons (pe_op op_add (pv 1) pe_int) pa_nil))) (pa_cons (pcall D_law_text hr (pa_cons (pv 0) (pa_cons (pv 4) pa_nil))) pa_nil)))))) pss_nil)
      (pss_cons (ps_set (i := 6) sc_law_any_row.nd rfl (.inl rfl) (pcall D_law_draw hr (pa_cons (pv 0) (pa_cons (pe_op op_add (pe_ix (ixL (K := K)) (pe_lst (pa_cons (pv 2) (pa_cons (pv 1) pa_nil))) (pe_callTy clInt1 (by rfl) T.b_int (by decide +kernel) (pa_cons (pe_cmpR op_ne (pv 3) pe_str (nomark _)) pa_nil)) (fun _ _ => rfl)) pe_int) pa_nil))))
      (pss_cons (ps_set (i := 7) sc_law_any_row.nd rfl (.inl rfl) (pcall D_law_draw hr (pa_cons (pv 0) (pa_cons (pe_op op_add (pe_ix (ixL (K := K)) (pe_lst (pa_cons (pv 2) (pa_cons (pv 1) pa_nil))) (pe_callTy clInt1 (by rfl) T.b_int (by decide +kernel) (pa_cons (pe_cmpR op_ne (pv 3) pe_str (nomark _)) pa_nil)) (fun _ _ => rfl)) pe_int) pa_nil))))
      (pss_cons (ps_if (pt_cmpR op_eq (pcall D_law_draw hr (pa_cons (pv 0) (pa_cons pe_int pa_nil))) pe_int (nomark _)) (pss_one (ps_set (i := 6) sc_law_any_row.nd rfl (.inl rfl) (pcall D_law_number hr (pa_cons (pv 0) (pa_cons (pv 5) pa_nil))))) pss_nil)
      (pss_one (ps_ret (pe_tup (pa_cons (pv 3) (pa_cons (pv 6) (pa_cons (pv 7) (pa_cons (pv 4) pa_nil)))))))))))))), ?_⟩
    rw [show start ["bag", "big", "extra", "word", "many", "most", "to", "at"] [v0, v1, v2] = [some v0, some v1, some v2, none, none, none, none, none] from rfl]
    obtain ⟨F, b, big, extra, rfl, rfl, rfl, s0, hb, he, q⟩ := h
    have w := s0.w (M := [b])
    walk_at "go"
    refine n_lst w (szle (by simp)) fun p1 F1 H1 w hp1 => ?_
    walk_at "go"
    refine n_draw w (by walk_at "pick") (by decide) (by decide) fun wk F1 H1 w k0 k1 => ?_
    walk_at "go"
    obtain rfl | rfl | rfl | rfl : wk = 0 ∨ wk = 1 ∨ wk = 2 ∨ wk = 3 := by omega
    · refine w_ixL _ (.str (Str.ofString "keep")) (by walk_at "sq") (by rfl) ?_
      walk_at "go"
      refine n_lst w (szle (by simp)) fun p2 F1 H1 w hp2 => ?_
      walk_at "go"
      refine n_draw w (by walk_at "pick") (by decide) (by decide) fun r1 F1 H1 w r10 r11 => ?_
      obtain ⟨m, em, m0, m1⟩ := pick_ix (ns := [3, 3, 12, 60]) (lo := 3) (hi := 60) r10 r11 (by intro x hx; simp only [List.mem_cons, List.not_mem_nil, or_false] at hx; omega)
      walk_at "go"
      refine w_ixL _ _ (by walk_at "sq") em ?_
      walk_at "go"
      refine n_draw w (by walk_at "pick") (by omega) (by omega) fun r2 F1 H1 w r20 r21 => ?_
      walk_at "go"
      refine n_lst w (szle (by simp)) fun p3 F1 H1 w hp3 => ?_
      walk_at "go"
      refine n_draw w (by walk_at "pick") (by omega) (by omega) fun r3 F1 H1 w r30 r31 => ?_
      walk_at "go"
      refine n_lst w (szle (by simp)) fun p4 F1 H1 w hp4 => ?_
      walk_at "go"
      refine n_draw w (by walk_at "pick") (by omega) (by omega) fun r4 F1 H1 w r40 r41 => ?_
      walk_at "go"
      refine n_draw w (by walk_at "pick") (by decide) (by decide) fun r5 F1 H1 w r50 r51 => ?_
      walk_at "go"
      by_cases h15 : r5 = 15
      · rw [decide_eq_true h15]
        walk_at "go"
        refine ⟨_, b, _, rfl, rfl, w.st (by walk_at "pick"), fun m2 F2 H2 w2 => ?_⟩
        replace w := w.calB (by walk_at "pick") w2 (by walk_at "app")
        walk_at "go"
        refine n_tup w (szle (by simp)) fun t F1 H1 w => ?_
        replace w := w.push (dat K (.ref t) (JR.keep m2 r4 (1 + r2)).d) (.tup (sqT_of (w.i (fx t _) (by walk_at "mem"))) (.cons (.str _) (.cons (.int _) (.cons (.int _) (.cons (.int _) .nil)))))
        exact q t (.keep m2 r4 (1 + r2)) _ _ (w.to (by walk_at "pick")) trivial
      · rw [decide_eq_false h15]
        walk_at "go"
        refine n_tup w (szle (by simp)) fun t F1 H1 w => ?_
        replace w := w.push (dat K (.ref t) (JR.keep r3 r4 (1 + r2)).d) (.tup (sqT_of (w.i (fx t _) (by walk_at "mem"))) (.cons (.str _) (.cons (.int _) (.cons (.int _) (.cons (.int _) .nil)))))
        exact q t (.keep r3 r4 (1 + r2)) _ _ (w.to (by walk_at "pick")) trivial
    · refine w_ixL _ (.str (Str.ofString "lay")) (by walk_at "sq") (by rfl) ?_
      walk_at "go"
      refine n_lst w (szle (by simp)) fun p2 F1 H1 w hp2 => ?_
      walk_at "go"
      refine n_draw w (by walk_at "pick") (by decide) (by decide) fun r1 F1 H1 w r10 r11 => ?_
      obtain ⟨m, em, m0, m1⟩ := pick_ix (ns := [3, 3, 12, 60]) (lo := 3) (hi := 60) r10 r11 (by intro x hx; simp only [List.mem_cons, List.not_mem_nil, or_false] at hx; omega)
      walk_at "go"
      refine w_ixL _ _ (by walk_at "sq") em ?_
      walk_at "go"
      refine n_draw w (by walk_at "pick") (by omega) (by omega) fun r2 F1 H1 w r20 r21 => ?_
      walk_at "go"
      refine n_lst w (szle (by simp)) fun p3 F1 H1 w hp3 => ?_
      walk_at "go"
      refine n_draw w (by walk_at "pick") (by omega) (by omega) fun r3 F1 H1 w r30 r31 => ?_
      walk_at "go"
      refine n_lst w (szle (by simp)) fun p4 F1 H1 w hp4 => ?_
      walk_at "go"
      refine n_draw w (by walk_at "pick") (by omega) (by omega) fun r4 F1 H1 w r40 r41 => ?_
      walk_at "go"
      refine n_draw w (by walk_at "pick") (by decide) (by decide) fun r5 F1 H1 w r50 r51 => ?_
      walk_at "go"
      by_cases h15 : r5 = 15
      · rw [decide_eq_true h15]
        walk_at "go"
        refine ⟨_, b, _, rfl, rfl, w.st (by walk_at "pick"), fun m2 F2 H2 w2 => ?_⟩
        replace w := w.calB (by walk_at "pick") w2 (by walk_at "app")
        walk_at "go"
        refine n_tup w (szle (by simp)) fun t F1 H1 w => ?_
        replace w := w.push (dat K (.ref t) (JR.lay m2 r4 (1 + r2)).d) (.tup (sqT_of (w.i (fx t _) (by walk_at "mem"))) (.cons (.str _) (.cons (.int _) (.cons (.int _) (.cons (.int _) .nil)))))
        exact q t (.lay m2 r4 (1 + r2)) _ _ (w.to (by walk_at "pick")) trivial
      · rw [decide_eq_false h15]
        walk_at "go"
        refine n_tup w (szle (by simp)) fun t F1 H1 w => ?_
        replace w := w.push (dat K (.ref t) (JR.lay r3 r4 (1 + r2)).d) (.tup (sqT_of (w.i (fx t _) (by walk_at "mem"))) (.cons (.str _) (.cons (.int _) (.cons (.int _) (.cons (.int _) .nil)))))
        exact q t (.lay r3 r4 (1 + r2)) _ _ (w.to (by walk_at "pick")) trivial
    · refine w_ixL _ (.str (Str.ofString "copy")) (by walk_at "sq") (by rfl) ?_
      walk_at "go"
      refine n_lst w (szle (by simp)) fun p2 F1 H1 w hp2 => ?_
      walk_at "go"
      refine n_draw w (by walk_at "pick") (by decide) (by decide) fun r1 F1 H1 w r10 r11 => ?_
      obtain ⟨m, em, m0, m1⟩ := pick_ix (ns := [3, 3, 12, 60]) (lo := 3) (hi := 60) r10 r11 (by intro x hx; simp only [List.mem_cons, List.not_mem_nil, or_false] at hx; omega)
      walk_at "go"
      refine w_ixL _ _ (by walk_at "sq") em ?_
      walk_at "go"
      refine n_draw w (by walk_at "pick") (by omega) (by omega) fun r2 F1 H1 w r20 r21 => ?_
      walk_at "go"
      refine n_lst w (szle (by simp)) fun p3 F1 H1 w hp3 => ?_
      walk_at "go"
      refine n_draw w (by walk_at "pick") (by omega) (by omega) fun r3 F1 H1 w r30 r31 => ?_
      walk_at "go"
      refine n_lst w (szle (by simp)) fun p4 F1 H1 w hp4 => ?_
      walk_at "go"
      refine n_draw w (by walk_at "pick") (by omega) (by omega) fun r4 F1 H1 w r40 r41 => ?_
      walk_at "go"
      refine n_draw w (by walk_at "pick") (by decide) (by decide) fun r5 F1 H1 w r50 r51 => ?_
      walk_at "go"
      by_cases h15 : r5 = 15
      · rw [decide_eq_true h15]
        walk_at "go"
        refine ⟨_, b, _, rfl, rfl, w.st (by walk_at "pick"), fun m2 F2 H2 w2 => ?_⟩
        replace w := w.calB (by walk_at "pick") w2 (by walk_at "app")
        walk_at "go"
        refine n_tup w (szle (by simp)) fun t F1 H1 w => ?_
        replace w := w.push (dat K (.ref t) (JR.copy m2 r4 (1 + r2)).d) (.tup (sqT_of (w.i (fx t _) (by walk_at "mem"))) (.cons (.str _) (.cons (.int _) (.cons (.int _) (.cons (.int _) .nil)))))
        exact q t (.copy m2 r4 (1 + r2)) _ _ (w.to (by walk_at "pick")) trivial
      · rw [decide_eq_false h15]
        walk_at "go"
        refine n_tup w (szle (by simp)) fun t F1 H1 w => ?_
        replace w := w.push (dat K (.ref t) (JR.copy r3 r4 (1 + r2)).d) (.tup (sqT_of (w.i (fx t _) (by walk_at "mem"))) (.cons (.str _) (.cons (.int _) (.cons (.int _) (.cons (.int _) .nil)))))
        exact q t (.copy r3 r4 (1 + r2)) _ _ (w.to (by walk_at "pick")) trivial
    · refine w_ixL _ (.str (Str.ofString "put")) (by walk_at "sq") (by rfl) ?_
      walk_at "go"
      refine n_lst w (szle (by simp)) fun p2 F1 H1 w hp2 => ?_
      walk_at "go"
      refine n_draw w (by walk_at "pick") (by decide) (by decide) fun r1 F1 H1 w r10 r11 => ?_
      obtain ⟨m, em, m0, m1⟩ := pick_ix (ns := [3, 3, 12, 60]) (lo := 3) (hi := 60) r10 r11 (by intro x hx; simp only [List.mem_cons, List.not_mem_nil, or_false] at hx; omega)
      walk_at "go"
      refine w_ixL _ _ (by walk_at "sq") em ?_
      walk_at "go"
      refine n_draw w (by walk_at "pick") (by omega) (by omega) fun r2 F1 H1 w r20 r21 => ?_
      walk_at "go"
      refine n_draw w (by walk_at "pick") (by omega) (by omega) fun r3 F1 H1 w r30 r31 => ?_
      walk_at "go"
      refine ⟨_, b, 1 + r2, rfl, rfl, w.st (by walk_at "pick"), by omega, by omega, fun s F2 H2 w2 hsl hso => ?_⟩
      replace w := w.calB (by walk_at "pick") w2 (by walk_at "app")
      walk_at "go"
      refine n_tup w (szle (by simp)) fun t F1 H1 w => ?_
      replace w := w.push (dat K (.ref t) (JR.put r3 s).d) (.tup (sqT_of (w.i (fx t _) (by walk_at "mem"))) (.cons (.str _) (.cons (.int _) (.cons (.str _) .nil))))
      exact q t (.put r3 s) _ _ (w.to (by walk_at "pick")) ⟨hso, by omega⟩
-- _law_rows_of
theorem ok_law_rows_of {f : Addr} {fd : FuncData} (F : FunD K "_law_rows_of" "_law_rows_of" (defArgs s_law_rows_of) (defBody s_law_rows_of) (defScope s_law_rows_of) [] [] f fd) (T : Txt K mg)  : FnOk P w K mg base CX0 1 f fd ["cells"] (S1 (φrowsof44 K)) := by
  refine F.ok sc_law_rows_of (fun vs H Q E h => ?_) (fun cdv A outer s H vs Q E hr h => ?_)
  · exact S1.len h
  · match vs, h with
    | [v0], h =>
    have hu := hu_of hr
    refine ⟨_, PSs.nox (pss_one (ps_ret (pe_lc (own := [("one", 1)]) (g := gName 1) rfl sc_law_rows_of.nd (pi_list (pv 0)) (blkOk_by (own := [("one", 1)]) (N := ["cells", "one"]) (sc := defScope s_law_rows_of) (by decide +kernel)) (fun _ _ _ _ _ => pg_name (i := 1) sc_law_rows_of.nd rfl (Or.inl rfl)) (fun _ _ _ _ _ => pts_nil) (fun _ _ _ _ _ => (pe_ifExp (pt_val (pe_callB (clIsi (K := K)) (by rfl) T.b_isinstance (by decide +kernel) (pa_cons (pv 1) (pa_cons (pe_bltn (v := .ty "str") (by rfl) T.b_str (by decide +kernel) rfl) pa_nil)))) (pe_tup (pa_cons pe_str (pa_cons (pv 1) pa_nil))) (pe_tup (pa_cons pe_str (pa_cons (pv 1) (pa_cons pe_int pa_nil))))))))), ?_⟩
    rw [show start ["cells", "one"] [v0] = [some v0, none] from rfl]
    obtain ⟨F, a, cs, n, rfl, hw, hS, hc, hl, q⟩ := h
    have w := (W.start (M := []) hw).push (imL K a cs) hS
    walk_at "go"
    replace w := w.push (dpa K [] (((cs.take 0).map cellRow).map CRow.d)) DpAll.nil
    refine n_lcL cs w (fun i ys L => ys.length = i ∧ L = [dpa K ys (((cs.take i).map cellRow).map CRow.d), imL K a cs]) ⟨rfl, rfl⟩ (fun i ys L F' H' D hp w => ?_) (fun i x ys L F' H' D hx hp w hD => ?_) (fun D ys L F' H' hp w hD => ?_)
    · obtain ⟨hyl, rfl⟩ := hp
      walk_at "sq"
    · obtain ⟨hyl, rfl⟩ := hp
      have hi := (List.getElem?_eq_some_iff.mp hx).1
      have e1 : ((cs.take (i + 1)).map cellRow).map CRow.d = ((cs.take i).map cellRow).map CRow.d ++ [(cellRow x).d] := by rw [List.take_add_one, hx, List.map_append, List.map_append]; rfl
      walk_at "wp"
      walk_at "go"
      rcases hc x (List.mem_of_getElem? hx) with ⟨k, rfl, hk⟩ | ⟨c, rfl, hcc⟩
      · refine u_isi (F := F') (d := .int (k : Nat)) (.int _) w.fh (k_str _) ?_
        rw [show isStr (PyData.int (k : Nat)) = false from rfl]
        walk_at "go"
        refine n_tup w (szle (by simp)) fun t F3 H3 w => ?_
        replace w := w.push (dpa K (ys ++ [.ref t]) (((cs.take (i + 1)).map cellRow).map CRow.d)) (by rw [e1]; exact dpa_snoc (w.dpa (by walk_at "mem")) (dp_ccopy' (sqT_of (w.i (fx t _) (by walk_at "mem")))))
        exact n_acc ys w ⟨by rw [List.length_append, hyl]; rfl, rfl⟩ (by walk_at "pk") (small_lt (by omega))
      · refine u_isi (F := F') (d := .str ⟨#[c]⟩) (.str _) w.fh (k_str _) ?_
        rw [show isStr (PyData.str ⟨#[c]⟩) = true from rfl]
        walk_at "go"
        refine n_tup w (szle (by simp)) fun t F3 H3 w => ?_
        replace w := w.push (dpa K (ys ++ [.ref t]) (((cs.take (i + 1)).map cellRow).map CRow.d)) (by rw [e1]; exact dpa_snoc (w.dpa (by walk_at "mem")) (dp_cput' (sqT_of (w.i (fx t _) (by walk_at "mem")))))
        exact n_acc ys w ⟨by rw [List.length_append, hyl]; rfl, rfl⟩ (by walk_at "pk") (small_lt (by omega))
    · obtain ⟨hyl, rfl⟩ := hp
      rw [List.take_length] at w
      exact q D ys _ _ hD (w.to (by walk_at "pick"))
-- _law_drawn
theorem ok_law_drawn {f : Addr} {fd : FuncData} (F : FunD K "_law_drawn" "_law_drawn" (defArgs s_law_drawn) (defBody s_law_drawn) (defScope s_law_drawn) [] [] f fd) (T : Txt K mg) (D_law_any_row : DO P w K mg base 4 "_law_any_row" ["bag", "big", "extra"] [] (S3 (φanyrow44 K))) (D_law_draw : DO P w K mg base 2 "_law_draw" ["bag", "many"] [] (S2 (φdraw K))) (D_law_text : DO P w K mg base 3 "_law_text" ["bag", "many"] [] (S2 (φtextN K))) (D_law_walk : DO P w K mg base 3 "_law_walk" ["steps", "cells", "slots"] [] (S3 (φwalk44 K))) : FnOk P w K mg base CX0 5 f fd ["bag", "n", "big", "extra", "many"] (S5 (φdrawn44 K)) := by
  refine F.ok sc_law_drawn (fun vs H Q E h => ?_) (fun cdv A outer s H vs Q E hr h => ?_)
  · exact S5.len h
  · match vs, h with
    | [v0, v1, v2, v3, v4], h =>
    have hu := hu_of hr
    refine ⟨_, PSs.nox (pss_cons (ps_set (i := 5) sc_law_drawn.nd rfl (.inl rfl) (pe_op op_cat (pe_listRg rfl (by rfl) T.b_list (prg_1 (by rfl) T.b_range (pv 1))) (pe_op op_rep (pe_lst (pa_cons pe_non pa_nil)) (pe_op op_sub (pv 2) (pv 1)))))
      (pss_cons (ps_set (i := 6) sc_law_drawn.nd rfl (.inl rfl) (pe_op op_rep (pe_lst (pa_cons pe_non pa_nil)) (pv 3)))
      (pss_cons (ps_set (i := 7) sc_law_drawn.nd rfl (.inl rfl) (pe_lst pa_nil))
      (pss_cons (ps_set (i := 8) sc_law_drawn.nd rfl (.inl rfl) pe_non)
      (pss_cons (ps_for PassesOwn.never rfl (pi_range1 rfl T.b_range (pa_cons (pv 4) pa_nil)) (pg_name (i := 9) sc_law_drawn.nd rfl (.inl rfl)) (pss_cons (ps_set (i := 10) sc_law_drawn.nd rfl (.inl rfl) (pcall D_law_any_row hr (pa_cons (pv 0) (pa_cons (pv 2) (pa_cons (pv 3) pa_nil)))))
      (C8.pss_cut (ps_if (PW.pt (pw_and (pt_cmpR op_eq (pv 9) pe_int (nomark _)) (pw_and1 (pt_cmpR op_gt (pv 2) (pv 1) (nomark _))))) (pss_one (ps_set (i := 10) sc_law_drawn.nd rfl (.inl rfl) (pe_tup (pa_cons pe_str (pa_cons (pv 1) (pa_cons (pcall D_law_text hr (pa_cons (pv 0) (pa_cons (pe_op op_sub (pv 2) (pv 1)) pa_nil))) pa_nil)))))) pss_nil)
      (pss_one (ps_if (pt_cmp (pc_isN (pcall D_law_walk hr (pa_cons (pe_lst (pa_cons (pv 10) pa_nil)) (pa_cons (pv 5) (pa_cons (pv 6) pa_nil))))) (by rfl)) (pss_one (ps_expr (peBM (K := K) PySem.F.plainAttrs_list PySem.F.slot_list_append PySem.F.type_list_append mt_append (pv 7) (pa_cons (pv 10) pa_nil)))) (pss_one (ps_if (PW.pt (pw_and (pt_cmp (pc_isN (pv 8)) (by rfl)) (pw_and1 (pt_cmpR op_eq (pcall D_law_draw hr (pa_cons (pv 0) (pa_cons pe_int pa_nil))) pe_int (nomark _))))) (pss_one (ps_set (i := 8) sc_law_drawn.nd rfl (.inl rfl) (pe_tup (pa_cons (pe_callB (clLenQ (K := K)) (by rfl) T.b_len (by decide +kernel) (pa_cons (pv 7) pa_nil)) (pa_cons (pv 10) pa_nil))))) pss_nil)))))))
      (pss_one (ps_ret (pe_tup (pa_cons (pv 7) (pa_cons (pv 8) (pa_cons (pv 5) pa_nil))))))))))), ?_⟩
    rw [show start ["bag", "n", "big", "extra", "many", "cells", "slots", "good", "bad", "k", "row"] [v0, v1, v2, v3, v4] = [some v0, some v1, some v2, some v3, some v4, none, none, none, none, none, none] from rfl]
    obtain ⟨F, b, n, big, extra, many, rfl, rfl, rfl, rfl, rfl, s0, hn, hb, he, hm0, hm, q⟩ := h
    have w := s0.w (M := [b])
    walk_at "go"
    refine n_lstRg w (RgOk.of_le (by omega) (by omega) (by omega) (by omega)) fun p1 F1 H1 w hp1 => ?_
    walk_at "go"
    refine n_lst w (szle (by simp)) fun p2 F1 H1 w hp2 => ?_
    walk_at "go"
    refine n_rep w (by walk_at "at") (by omega) (by omega) (szle (by show 1 * _ ≤ _; omega)) fun p3 F1 H1 w hp3 => ?_
    rw [show (List.replicate (((big : Nat) : Int) - ((n : Nat) : Int)).toNat [V.non]).flatten = List.replicate (big - n) V.non by rw [show (((big : Nat) : Int) - ((n : Nat) : Int)).toNat = big - n by omega, List.flatten_replicate_singleton]] at w
    walk_at "go"
    refine n_cat w (by walk_at "at") (by walk_at "at") (szle (by rw [rgV_length, List.length_replicate]; omega)) fun pc F1 H1 w hpc => ?_
    rw [show rgV 0 ((n : Nat) : Int) ++ List.replicate (big - n) V.non = (st0J n big extra).1 by rw [rgV0]; rfl] at w
    walk_at "go"
    refine n_lst w (szle (by simp)) fun p4 F1 H1 w hp4 => ?_
    walk_at "go"
    refine n_rep w (by walk_at "at") (by omega) (by omega) (szle (by show 1 * _ ≤ _; omega)) fun ps F1 H1 w hps => ?_
    rw [show (List.replicate (((extra : Nat) : Int)).toNat [V.non]).flatten = (st0J n big extra).2 by rw [Int.toNat_natCast, List.flatten_replicate_singleton]; rfl] at w
    walk_at "go"
    refine n_lst w (szle (by simp)) fun pg F1 H1 w hpg => ?_
    walk_at "go"
    replace w := (w.push (dpa K [] (([] : List JR).map JR.d)) DpAll.nil).push (dat K .non (badD none)) Dp.non
    refine n_forR w (fun i σ L => ∃ (vg : List V) (good : List JR) (bad : Option (Nat × JR)) (cs ss : List V) (vb : V), ∃ y9 y10, σ = [some (.ref b), some (.int (n : Nat)), some (.int (big : Nat)), some (.int (extra : Nat)), some (.int (many : Nat)), some (.ref pc), some (.ref ps), some (.ref pg), some vb, y9, y10] ∧ DrI n big extra i good bad cs ss ∧ L = [mu pc (.lst cs), mu ps (.lst ss), mu pg (.lst vg), dpa K vg (good.map JR.d), dat K vb (badD bad), bag K b]) ⟨[], [], none, (st0J n big extra).1, (st0J n big extra).2, .non, _, _, rfl, drI_nil hn extra, rfl⟩ (fun i σ L F' H' hi hp w => ?_) (fun σ L F' H' hp w => ?_)
    · obtain ⟨vg, good, bad, cs, ss, vb, y9, y10, rfl, hI, rfl⟩ := hp
      have hi : i < many := by omega
      have hgl := hI.l
      have hvg : vg.length = good.length := by rw [dpa_len (w.dpa (K := K) (xs := vg) (ds := good.map JR.d) (by walk_at "mem")), List.length_map]
      walk_at "go"
      refine ⟨_, b, big, extra, rfl, rfl, rfl, w.st (by walk_at "pick"), by omega, he, fun t r F2 H2 w2 hr => ?_⟩
      replace w := w.calB (by walk_at "pick") w2 (by walk_at "app")
      walk_at "go"
      refine n_cut w (fun σ L => ∃ (t : Addr) (r : JR), σ = [some (.ref b), some (.int (n : Nat)), some (.int (big : Nat)), some (.int (extra : Nat)), some (.int (many : Nat)), some (.ref pc), some (.ref ps), some (.ref pg), some vb, some (.int (i : Nat)), some (.ref t)] ∧ r.sOk ∧ (i = 0 → n < big → ∃ s : Str, r = .put (n : Nat) s ∧ s.length = big - n) ∧ L = [dat K (.ref t) r.d, mu pc (.lst cs), mu ps (.lst ss), mu pg (.lst vg), dpa K vg (good.map JR.d), dat K vb (badD bad), bag K b]) ?_ (fun σ L F' H' hp w => ?_)
      · walk_at "go"
        by_cases hi0 : ((i : Nat) : Int) = 0
        · rw [decide_eq_true hi0]
          walk_at "go"
          by_cases hbn : ((n : Nat) : Int) < (big : Nat)
          · rw [decide_eq_true hbn]
            walk_at "go"
            refine ⟨_, b, ((big : Nat) : Int) - (n : Nat), rfl, rfl, w.st (by walk_at "pick"), by omega, by omega, fun s F2 H2 w2 hsl hso => ?_⟩
            replace w := w.calB (by walk_at "pick") w2 (by walk_at "app")
            walk_at "go"
            refine n_tup w (szle (by simp)) fun t2 F1 H1 w => ?_
            replace w := w.push (dat K (.ref t2) (JR.put (n : Nat) s).d) (.tup (sqT_of (w.i (fx t2 _) (by walk_at "mem"))) (.cons (.str _) (.cons (.int _) (.cons (.str _) .nil))))
            walk_at "go"
            exact nx_mk w ⟨t2, .put (n : Nat) s, rfl, ⟨hso, by omega⟩, (fun _ _ => ⟨s, rfl, by omega⟩), rfl⟩ (by walk_at "pk")
          · rw [decide_eq_false hbn]
            walk_at "go"
            exact nx_mk w ⟨t, r, rfl, hr, (fun _ h => absurd h (by omega)), rfl⟩ (by walk_at "pk")
        · rw [decide_eq_false hi0]
          walk_at "go"
          exact nx_mk w ⟨t, r, rfl, hr, (fun h => absurd h (by omega)), rfl⟩ (by walk_at "pk")
      · clear hr
        obtain ⟨t, r, rfl, hr, hfirst, rfl⟩ := hp
        walk_at "go"
        refine n_lst w (szle (by simp)) fun pr F1 H1 w hpr => ?_
        obtain ⟨F1, w⟩ := w.fzL (p := pr) (by walk_at "pick") hpr
        replace w := w.push (dpa K [.ref t] ([r].map JR.d)) (.cons (w.dat (by walk_at "mem")) .nil)
        walk_at "go"
        refine ⟨_, pr, pc, ps, [.ref t], [r], cs, ss, big, extra, rfl, rfl, rfl, w.st (by walk_at "pick"), sqL_of (w.i (fx pr (.lst [.ref t])) (by walk_at "mem")), w.dpa (by walk_at "mem"), (fun r2 h2 => by rw [List.mem_singleton.mp h2]; exact hr), hI.j, by omega, by omega, by show 1 ≤ 1000; decide, fun i2 r2 st h1 h2 h3 F2 H2 w2 => ?_, fun st h1 F2 H2 w2 => ?_⟩
        · have ei : i2 = 0 := by
            have := (List.getElem?_eq_some_iff.mp h1).1
            rw [List.length_singleton] at this
            omega
          subst ei
          cases h1
          cases h2
          replace w := w.cal (D := [mu pc (.lst cs), mu ps (.lst ss)]) (by walk_at "pick") w2 (by walk_at "app") rfl
          have hI2 := hI.skip hfirst h3
          walk_at "go"
          have hvb : Dp K F2 vb (badD bad) := w.dat (by walk_at "mem")
          cases bad with
          | none =>
            obtain rfl := dp_non hvb
            rw [decide_eq_true (show V.non = V.non from rfl)]
            walk_at "go"
            refine n_draw w (by walk_at "pick") (by decide) (by decide) fun r9 F1 H1 w r90 r91 => ?_
            walk_at "go"
            by_cases hr0 : r9 = 0
            · rw [decide_eq_true hr0]
              walk_at "go"
              refine n_tup w (szle (by simp)) fun t9 F1 H1 w => ?_
              replace w := w.push (dat K (.ref t9) (badD (some (good.length, r)))) (.tup (sqT_of (w.i (fx t9 (.tup [.int (vg.length : Nat), .ref t])) (by walk_at "mem"))) (by rw [hvg]; exact .cons (.int _) (.cons (w.dat (by walk_at "mem")) .nil)))
              walk_at "go"
              exact nx_mk w ⟨vg, good, some (good.length, r), cs, ss, .ref t9, _, _, rfl, hI2.bad hr h3, rfl⟩ (by walk_at "pk")
            · rw [decide_eq_false hr0]
              walk_at "go"
              exact nx_mk w ⟨vg, good, none, cs, ss, .non, _, _, rfl, hI2, rfl⟩ (by walk_at "pk")
          | some kr =>
            obtain ⟨k2, r2⟩ := kr
            obtain ⟨tb, ub, rfl, htb, hdb⟩ := dp_tup hvb
            rw [decide_eq_false (show ¬ V.ref tb = V.non from fun e => nomatch e)]
            walk_at "go"
            exact nx_mk w ⟨vg, good, some (k2, r2), cs, ss, .ref tb, _, _, rfl, hI2, rfl⟩ (by walk_at "pk")
        · replace w := w.cal (D := [mu pc (.lst cs), mu ps (.lst ss)]) (by walk_at "pick") w2 (by walk_at "app") rfl
          have hds : doneV r cs ss = some st := by
            have e : (doneV r cs ss).bind (stepsJ []) = some st := h1
            cases h5 : doneV r cs ss with
            | none => rw [h5] at e; cases e
            | some s3 => rw [h5] at e; exact e
          walk_at "go"
          refine n_app w (by walk_at "pick") (small_lt (by omega)) fun H5 w => ?_
          replace w := w.push (dpa K (vg ++ [.ref t]) ((good ++ [r]).map JR.d)) (by rw [List.map_append]; exact dpa_snoc (w.dpa (by walk_at "mem")) (w.dat (by walk_at "mem")))
          exact nx_mk w ⟨vg ++ [.ref t], good ++ [r], bad, st.1, st.2, vb, _, _, rfl, hI.add hr hfirst hds, rfl⟩ (by walk_at "pk")
    · obtain ⟨vg, good, bad, cs, ss, vb, y9, y10, rfl, hI, rfl⟩ := hp
      walk_at "go"
      refine n_tup w (szle (by simp)) fun t F1 H1 w => ?_
      exact q t pg pc vg vb good bad cs _ _ hpg hpc (w.to (by walk_at "pick")) (hI.done (by omega) (by omega))
-- _law_right
theorem ok_law_right {f : Addr} {fd : FuncData} (F : FunD K "_law_right" "_law_right" (defArgs s_law_right) (defBody s_law_right) (defScope s_law_right) [] [] f fd) (T : Txt K mg) (D_law_alike : DO P w K mg base 6 "_law_alike" ["found", "due"] [] (S2 (φalike K 6))) (D_plan_fault_3 : DO P w K mg base 4 "plan_fault" ["change", "plan", "spare"] [] (S3 (φfault44 K))) (DK_plan_fault_0_plan_change_spare : DK P w K mg base 4 "plan_fault" ["change", "plan", "spare"] 0 ["plan", "change", "spare"] [(1, 1), (1, 0), (1, 2)] [.int 0] (S3 (φfault44 K))) : FnOk P w K mg base CX0 10 f fd ["made", "steps", "extra", "due"] (S4 (φright44 K)) := by
  refine F.ok sc_law_right (fun vs H Q E h => ?_) (fun cdv A outer s H vs Q E hr h => ?_)
  · exact S4.len h
  · match vs, h with
    | [v0, v1, v2, v3], h =>
    have hu := hu_of hr
    refine ⟨_, PSs.nox (pss_cons (ps_set (i := 4) sc_law_right.nd rfl (.inl rfl) (pe_callTy (clListOf (K := K)) (by rfl) T.b_list (by decide +kernel) (pa_cons (pv 1) pa_nil)))
      (pss_cons (ps_if (PW.pt (pw_or (pt_not (pt_val (pcall D_law_alike hr (pa_cons (pcall D_plan_fault_3 hr (pa_cons (pv 0) (pa_cons (pv 4) (pa_cons (pv 2) pa_nil)))) (pa_cons (pv 3) pa_nil))))) (pw_or1 (pt_cmpR (opNeD (K := K) hr.units) (pv 4) (pv 1) (nomark _))))) (pss_one (ps_ret pe_bl)) pss_nil)
      (pss_one (ps_ret (pcall D_law_alike hr (pa_cons (pcallK0 DK_plan_fault_0_plan_change_spare hr (pk_cons (pv 4) (pk_cons (pv 0) (pk_cons (pv 2) pk_nil)))) (pa_cons (pv 3) pa_nil))))))), ?_⟩
    rw [show start ["made", "steps", "extra", "due", "handed"] [v0, v1, v2, v3] = [some v0, some v1, some v2, some v3, none] from rfl]
    have kC := T.k_Change
    have kS := T.na_Change_size
    have kR := T.na_Change_rows
    
    obtain ⟨F, a, vs, n, extra, rows, js, d, rfl, rfl, hw, hC, hok, hn, hS, hD, hjs, hjl, he, hdd, hd, hgd, hdp, q⟩ := h
    have w := ((((W.start (M := []) hw).push (imL K a vs) hS).push (dpa K vs (js.map JR.d)) hD).push (chg K _ n rows) hC).push (dat K _ d) hdd
    have gj := jrs_good hjs (show js.length ≤ 100000 by omega)
    walk_at "go"
    refine n_listOf w (by walk_at "sq") fun h1 F1 H1 w hh1 => ?_
    obtain ⟨F1, w⟩ := w.fzL (p := h1) (by walk_at "pick") hh1
    walk_at "go"
    refine ⟨_, h1, vs, n, extra, rows, js, rfl, rfl, w.fh, w.i (chg K _ n rows) (by walk_at "mem"), hok, hn, sqL_of (w.i (fx h1 (.lst vs)) (by walk_at "mem")), w.dpa (by walk_at "mem"), hjs, hjl, he, fun v d2 F2 H2 w2 hpf => ?_⟩
    obtain rfl := hd d2 hpf
    replace w := w.cal .nil w2 (by walk_at "app")
    walk_at "go"
    refine ⟨_, d2, w.fh, w.dat (by walk_at "mem"), w.dat (by walk_at "mem"), by omega, hgd, fun F8 H8 g8 => ?_⟩
    replace w := w.gr0 g8
    walk_at "go"
    refine u_neD w.fh (.lst (sqL_of (w.i (fx h1 (.lst vs)) (by walk_at "mem"))) (w.dpa (by walk_at "mem"))) (.lst (w.imL (p := a) (by walk_at "mem")) (w.dpa (by walk_at "mem"))) gj.1 (Nat.le_trans gj.2 (by decide)) ?_
    walk_at "go"
    refine ⟨rfl, rfl, _, h1, vs, n, extra, rows, js, rfl, rfl, w.fh, w.i (chg K _ n rows) (by walk_at "mem"), hok, hn, sqL_of (w.i (fx h1 (.lst vs)) (by walk_at "mem")), w.dpa (by walk_at "mem"), hjs, hjl, he, fun v3 d3 F3 H3 w3 hpf3 => ?_⟩
    obtain rfl := hd d3 hpf3
    replace w := w.cal .nil w3 (by walk_at "app")
    walk_at "go"
    refine ⟨_, d3, w.fh, w.dat (by walk_at "mem"), w.dat (by walk_at "mem"), by omega, hgd, fun F9 H9 g9 => ?_⟩
    replace w := w.gr0 g9
    exact q _ _ (w.to .nil)
-- law
theorem ok_law {f : Addr} {fd : FuncData} (F : FunD K "law" "law" (defArgs s_law) (defBody s_law) (defScope s_law) [] [] f fd) (T : Txt K mg) (D_law_bag : DO P w K mg base 1 "_law_bag" ["script"] [] (S1 (φbag K))) (D_law_draw : DO P w K mg base 2 "_law_draw" ["bag", "many"] [] (S2 (φdraw K))) (D_law_drawn : DO P w K mg base 5 "_law_drawn" ["bag", "n", "big", "extra", "many"] [] (S5 (φdrawn44 K))) (D_law_right : DO P w K mg base 10 "_law_right" ["made", "steps", "extra", "due"] [] (S4 (φright44 K))) (D_law_rows_of : DO P w K mg base 1 "_law_rows_of" ["cells"] [] (S1 (φrowsof44 K))) (D_law_text : DO P w K mg base 3 "_law_text" ["bag", "many"] [] (S2 (φtextN K))) (DN_Change_2 : DN P w K mg base 2 "Change" ["self", "size", "rows"] [] (S3 (φinit K))) : FnOk P w K mg base CX0 12 f fd ["script"] (S1 (φlaw K)) := by
  refine F.ok sc_law (fun vs H Q E h => ?_) (fun cdv A outer s H vs Q E hr h => ?_)
  · exact S1.len h
  · match vs, h with
    | [v0], h =>
    have hu := hu_of hr
    refine ⟨_, PSs.nox (pss_cons (ps_set (i := 1) sc_law.nd rfl (.inl rfl) (pcall D_law_bag hr (pa_cons (pv 0) pa_nil)))
      (pss_cons (ps_set (i := 2) sc_law.nd rfl (.inl rfl) (pe_op op_fdivW (pcall D_law_draw hr (pa_cons (pv 1) (pa_cons pe_int pa_nil))) pe_int))
      (pss_cons (ps_set (i := 3) sc_law.nd rfl (.inl rfl) (pe_ix (ixL (K := K)) (pe_lst (pa_cons (pcall D_law_draw hr (pa_cons (pv 1) (pa_cons pe_int pa_nil))) (pa_cons (pcall D_law_draw hr (pa_cons (pv 1) (pa_cons pe_int pa_nil))) pa_nil))) (pe_op op_fdivW (pcall D_law_draw hr (pa_cons (pv 1) (pa_cons pe_int pa_nil))) pe_int) (fun _ _ => rfl)))
      (pss_cons (ps_set (i := 4) sc_law.nd rfl (.inl rfl) (pcall D_law_draw hr (pa_cons (pv 1) (pa_cons (pe_ix (ixL (K := K)) (pe_lst (pa_cons pe_int (pa_cons pe_int pa_nil))) (pv 2) (fun _ _ => rfl)) pa_nil))))
      (pss_cons (ps_set (i := 5) sc_law.nd rfl (.inl rfl) (pe_op op_add (pv 4) (pe_ix (ixL (K := K)) (pe_lst (pa_cons pe_int (pa_cons pe_int (pa_cons pe_int (pa_cons (pe_op op_add pe_int (pcall D_law_draw hr (pa_cons (pv 1) (pa_cons pe_int pa_nil)))) pa_nil))))) (pcall D_law_draw hr (pa_cons (pv 1) (pa_cons pe_int pa_nil))) (fun _ _ => rfl))))
      (pss_cons (ps_asg (pcall D_law_drawn hr (pa_cons (pv 1) (pa_cons (pv 4) (pa_cons (pv 5) (pa_cons (pv 3) (pa_cons (pe_op op_add pe_int (pcall D_law_draw hr (pa_cons (pv 1) (pa_cons (pe_ix (ixL (K := K)) (pe_lst (pa_cons pe_int (pa_cons pe_int (pa_cons pe_int (pa_cons pe_int pa_nil))))) (pcall D_law_draw hr (pa_cons (pv 1) (pa_cons pe_int pa_nil))) (fun _ _ => rfl)) pa_nil)))) pa_nil)))))) (pg_tup (by rfl) (pgs_cons (pg_name (i := 6) sc_law.nd rfl (.inl rfl)) (pgs_cons (pg_name (i := 7) sc_law.nd rfl (.inl rfl)) (pgs_cons (pg_name (i := 8) sc_law.nd rfl (.inl rfl)) pgs_nil)))))
      (pss_cons (ps_set (i := 9) sc_law.nd rfl (.inl rfl) (pmake DN_Change_2 hr (pa_cons (pv 4) (pa_cons (pcall D_law_rows_of hr (pa_cons (pv 8) pa_nil)) pa_nil))))
      (pss_cons (ps_if (pt_not (pt_val (pcall D_law_right hr (pa_cons (pv 9) (pa_cons (pv 6) (pa_cons (pv 3) (pa_cons pe_non pa_nil))))))) (pss_one (ps_ret pe_bl)) pss_nil)
      (C8.pss_cut (ps_if (pt_cmp (pc_notN (pv 7)) (by rfl)) (pss_cons (ps_asg (pv 7) (pg_tup (by rfl) (pgs_cons (pg_name (i := 10) sc_law.nd rfl (.inl rfl)) (pgs_cons (pg_name (i := 11) sc_law.nd rfl (.inl rfl)) pgs_nil))))
      (pss_one (ps_if (pt_not (pt_val (pcall D_law_right hr (pa_cons (pv 9) (pa_cons (pe_op op_cat (pe_op op_cat (pe_slice (slL (K := K)) (pv 6) po_none (po_some (pv 10))) (pe_lst (pa_cons (pv 11) pa_nil))) (pe_slice (slL (K := K)) (pv 6) (po_some (pv 10)) po_none)) (pa_cons (pv 3) (pa_cons (pe_tup (pa_cons pe_str (pa_cons (pv 10) pa_nil))) pa_nil))))))) (pss_one (ps_ret pe_bl)) pss_nil))) pss_nil)
      (pss_cons (ps_if (pt_cmpR (opEqD (K := K) hr.units) (pv 8) (pe_lst pa_nil) (nomark _)) (pss_one (ps_ret pe_bl)) pss_nil)
      (pss_cons (ps_set (i := 10) sc_law.nd rfl (.inl rfl) (pcall D_law_draw hr (pa_cons (pv 1) (pa_cons (pe_callB (clLenQ (K := K)) (by rfl) T.b_len (by decide +kernel) (pa_cons (pv 8) pa_nil)) pa_nil))))
      (C8.pss_cut (ps_set (i := 12) sc_law.nd rfl (.inl rfl) (pe_ix (ixL (K := K)) (pe_lst (pa_cons (pcall D_law_text hr (pa_cons (pv 1) (pa_cons pe_int pa_nil))) (pa_cons (pcall D_law_draw hr (pa_cons (pv 1) (pa_cons (pe_callB clMax2 (by rfl) T.b_max (by decide +kernel) (pa_cons pe_int (pa_cons (pv 4) pa_nil))) pa_nil))) pa_nil))) (pe_op op_mul (pcall D_law_draw hr (pa_cons (pv 1) (pa_cons pe_int pa_nil))) (pe_callTy clInt1 (by rfl) T.b_int (by decide +kernel) (pa_cons (pe_cmpR op_gt (pv 4) pe_int (nomark _)) pa_nil))) (fun _ _ => rfl)))
      (pss_cons (ps_if (pt_cmpR op_eq (pv 12) (pe_ix (ixL (K := K)) (pv 8) (pv 10) (fun _ _ => rfl)) (nomark _)) (pss_one (ps_ret pe_bl)) pss_nil)
      (pss_cons (ps_set (i := 9) sc_law.nd rfl (.inl rfl) (pmake DN_Change_2 hr (pa_cons (pv 4) (pa_cons (pcall D_law_rows_of hr (pa_cons (pe_op op_cat (pe_op op_cat (pe_slice (slL (K := K)) (pv 8) po_none (po_some (pv 10))) (pe_lst (pa_cons (pv 12) pa_nil))) (pe_slice (slL (K := K)) (pv 8) (po_some (pe_op op_add (pv 10) pe_int)) po_none)) pa_nil)) pa_nil))))
      (pss_one (ps_ret (pcall D_law_right hr (pa_cons (pv 9) (pa_cons (pv 6) (pa_cons (pv 3) (pa_cons (pe_tup (pa_cons pe_str (pa_cons (pv 10) pa_nil))) pa_nil))))))))))))))))))))), ?_⟩
    rw [show start ["script", "bag", "large", "extra", "n", "big", "good", "bad", "cells", "made", "at", "row", "other"] [v0] = [some v0, none, none, none, none, none, none, none, none, none, none, none, none] from rfl]
    have kC := T.k_Change
    have kS := T.na_Change_size
    have kR := T.na_Change_rows
    
    obtain ⟨sc, ns, rfl, hS, hl, q⟩ := h
    walk_at "go"
    refine ⟨sc, ns, rfl, hS, hl, fun b F1 H1 g1 hb => ?_⟩
    have w := W.bag0 g1 hb
    walk_at "go"
    refine n_draw w (by walk_at "pick") (by decide) (by decide) fun rl F1 H1 w rl0 rl1 => ?_
    walk_at "go"
    refine n_draw w (by walk_at "pick") (by decide) (by decide) fun r1 F1 H1 w r10 r11 => ?_
    walk_at "go"
    refine n_draw w (by walk_at "pick") (by decide) (by decide) fun r2 F1 H1 w r20 r21 => ?_
    walk_at "go"
    refine n_lst w (szle (by simp)) fun p1 F1 H1 w hp1 => ?_
    walk_at "go"
    refine n_draw w (by walk_at "pick") (by decide) (by decide) fun r3 F1 H1 w r30 r31 => ?_
    walk_at "go"
    obtain ⟨ex, eex, ex0, ex1⟩ := pick_ix (ns := [r1, r2]) (i := r3 / 7) (lo := 0) (hi := 400) (by omega) (by show _ < (2 : Int); omega) (by intro x hx; simp only [List.mem_cons, List.not_mem_nil, or_false] at hx; omega)
    refine w_ixL _ _ (by walk_at "sq") eex ?_
    obtain ⟨extra, rfl⟩ : ∃ extra : Nat, ex = (extra : Nat) := ⟨ex.toNat, by omega⟩
    walk_at "go"
    refine n_lst w (szle (by simp)) fun p2 F1 H1 w hp2 => ?_
    walk_at "go"
    obtain ⟨mn, emn, mn0, mn1⟩ := pick_ix (ns := [9, 61]) (i := rl / 3) (lo := 9) (hi := 61) (by omega) (by show _ < (2 : Int); omega) (by intro x hx; simp only [List.mem_cons, List.not_mem_nil, or_false] at hx; omega)
    refine w_ixL _ _ (by walk_at "sq") emn ?_
    walk_at "go"
    refine n_draw w (by walk_at "pick") (by omega) (by omega) fun r4 F1 H1 w r40 r41 => ?_
    obtain ⟨n, rfl⟩ : ∃ n : Nat, r4 = (n : Nat) := ⟨r4.toNat, by omega⟩
    walk_at "go"
    refine n_draw w (by walk_at "pick") (by decide) (by decide) fun r5 F1 H1 w r50 r51 => ?_
    walk_at "go"
    refine n_lst w (szle (by simp)) fun p3 F1 H1 w hp3 => ?_
    walk_at "go"
    refine n_draw w (by walk_at "pick") (by decide) (by decide) fun r6 F1 H1 w r60 r61 => ?_
    walk_at "go"
    obtain ⟨mb, emb, mb0, mb1⟩ := pick_ix (ns := [0, 0, 1, 1 + r5]) (i := r6) (lo := 0) (hi := 9) (by omega) (by show _ < (4 : Int); omega) (by intro x hx; simp only [List.mem_cons, List.not_mem_nil, or_false] at hx; omega)
    refine w_ixL _ _ (by walk_at "sq") emb ?_
    obtain ⟨big, ebig⟩ : ∃ big : Nat, ((big : Nat) : Int) = (n : Nat) + mb := ⟨((n : Nat) + mb).toNat, by omega⟩
    walk_at "go"
    rw [← ebig]
    refine n_lst w (szle (by simp)) fun p4 F1 H1 w hp4 => ?_
    walk_at "go"
    refine n_draw w (by walk_at "pick") (by decide) (by decide) fun r7 F1 H1 w r70 r71 => ?_
    walk_at "go"
    obtain ⟨mm, emm, mm0, mm1⟩ := pick_ix (ns := [7, 7, 40, 400]) (i := r7) (lo := 7) (hi := 400) (by omega) (by show _ < (4 : Int); omega) (by intro x hx; simp only [List.mem_cons, List.not_mem_nil, or_false] at hx; omega)
    refine w_ixL _ _ (by walk_at "sq") emm ?_
    walk_at "go"
    refine n_draw w (by walk_at "pick") (by omega) (by omega) fun r8 F1 H1 w r80 r81 => ?_
    obtain ⟨many, emany⟩ : ∃ many : Nat, ((many : Nat) : Int) = 1 + r8 := ⟨(1 + r8).toNat, by omega⟩
    walk_at "go"
    rw [← emany]
    refine ⟨_, b, n, big, extra, many, rfl, rfl, rfl, rfl, rfl, w.st (by walk_at "pick"), by omega, by omega, by omega, by omega, by omega, fun t pg pc vg vb good bad cs F2 H2 hpg hpc w2 hdr => ?_⟩
    have hpg' := w.g.fresh hpg
    have hpc' := w.g.fresh hpc
    replace w := w.calB (by walk_at "pick") w2 (by walk_at "app")
    obtain ⟨F3, w⟩ := w.fzL (p := pg) (by walk_at "pick") hpg'
    obtain ⟨F3, w⟩ := w.fzL (p := pc) (by walk_at "pick") hpc'
    have hvg : vg.length = good.length := by rw [dpa_len (w.dpa (K := K) (xs := vg) (ds := good.map JR.d) (by walk_at "mem")), List.length_map]
    have hgl := hdr.l
    have hcz := hdr.z
    have hrk := cell_rows hdr.c (by omega)
    have hcb := cell_back hdr.c
    refine w_tgt _ (by walk_at "st") rfl ?_
    walk_at "go"
    refine ⟨_, pc, cs, n, rfl, w.fh, sqL_of (w.i (fx pc (.lst cs)) (by walk_at "mem")), hdr.c, by omega, fun p5 ys F4 H4 hp5 w4 => ?_⟩
    have hp5' := w.g.fresh hp5
    replace w := w.cal .nil w4 (by walk_at "app")
    obtain ⟨F4, w⟩ := w.fzL (p := p5) (by walk_at "pick") hp5'
    walk_at "go"
    refine n_make w fun c dx H5 w hc => ?_
    refine c_init w (by walk_at "pick") hc (sqL_of (w.i (fx p5 (.lst ys)) (by walk_at "mem"))) (w.dpa (by walk_at "mem")) (by omega) hrk fun F5 H5 w => ?_
    walk_at "go"
    refine ⟨_, pg, vg, n, extra, cs.map cellRow, good, .none, rfl, rfl, w.fh, w.i (chg K (.ref c) n (cs.map cellRow)) (by walk_at "mem"), hrk, by omega, sqL_of (w.i (fx pg (.lst vg)) (by walk_at "mem")), w.dpa (by walk_at "mem"), hdr.s, by omega, by omega, Dp.non, (fun d2 h2 => pf_one h2 (by rw [hcb]; exact pf_good hdr)), rfl, Nat.zero_le _, fun F6 H6 w6 => ?_⟩
    replace w := w.cal .nil w6 (by walk_at "app")
    walk_at "go"
    refine n_cut w (fun σ L => ∃ y10 y11, σ = [some (.ref sc), some (.ref b), some (.int (rl / 3)), some (.int (extra : Nat)), some (.int (n : Nat)), some (.int (big : Nat)), some (.ref pg), some vb, some (.ref pc), some (.ref c), y10, y11, none] ∧ L = [chg K (.ref c) n (cs.map cellRow), fx pg (.lst vg), dpa K vg (good.map JR.d), fx pc (.lst cs), bag K b]) ?_ (fun σ L F' H' hp w => ?_)
    · walk_at "go"
      have hvb : Dp K F6 vb (badD bad) := w.dat (by walk_at "mem")
      cases bad with
      | none =>
        obtain rfl := dp_non hvb
        walk_at "go"
        exact nx_mk w ⟨_, _, rfl, rfl⟩ (by walk_at "pk")
      | some kr =>
        obtain ⟨k, r⟩ := kr
        obtain ⟨hr, hk, _⟩ := hdr.b k r rfl
        obtain ⟨tb, us, rfl, htb, hd⟩ := dp_tup hvb
        obtain ⟨v1, us, rfl, h1, hd⟩ := dpa_cons hd
        obtain ⟨v2, us, rfl, h2, hd⟩ := dpa_cons hd
        cases dpa_nil hd
        obtain rfl := dp_int h1
        replace w := (w.push (imT K tb [.int (k : Nat), v2]) htb).push (dat K v2 r.d) h2
        walk_at "go"
        rw [show (!decide (V.ref tb = V.non)) = true by rw [decide_eq_false (fun e => nomatch e), Bool.not_false]]
        walk_at "go"
        refine n_slL w (by walk_at "sq") fun s1 F7 H7 w hs1 => ?_
        rw [cut_to] at w
        walk_at "go"
        refine n_lst w (szle (by simp)) fun s2 F7 H7 w hs2 => ?_
        walk_at "go"
        refine n_cat w (by walk_at "at") (by walk_at "at") (szle (by rw [List.length_take]; simp; omega)) fun s3 F7 H7 w hs3 => ?_
        walk_at "go"
        refine n_slL w (by walk_at "sq") fun s4 F7 H7 w hs4 => ?_
        rw [cut_from] at w
        walk_at "go"
        refine n_cat w (by walk_at "at") (by walk_at "at") (szle (by rw [List.length_append, List.length_take, List.length_drop]; simp; omega)) fun s5 F7 H7 w hs5 => ?_
        obtain ⟨F8, w⟩ := w.fzL (p := s5) (by walk_at "pick") hs5
        replace w := w.push (dpa K (vg.take k ++ [v2] ++ vg.drop k) ((good.take k ++ [r] ++ good.drop k).map JR.d)) (by
          rw [List.map_append, List.map_append, List.map_take, List.map_drop]
          have h9 := w.dpa (K := K) (xs := vg) (ds := good.map JR.d) (by walk_at "mem")
          exact dpa_app (dpa_app (dpa_takeJ k h9) (.cons (w.dat (by walk_at "mem")) .nil)) (dpa_dropJ k h9))
        walk_at "go"
        refine n_tup w (szle (by simp)) fun t9 F9 H9 w => ?_
        replace w := w.push (dat K (.ref t9) (.tuple [.str "row", .int (k : Nat)])) (.tup (sqT_of (w.i (fx t9 (.tup [.str "row", .int (k : Nat)])) (by walk_at "mem"))) (.cons (.str _) (.cons (.int _) .nil)))
        walk_at "go"
        refine ⟨_, s5, _, n, extra, cs.map cellRow, good.take k ++ [r] ++ good.drop k, .tuple [.str "row", .int (k : Nat)], rfl, rfl, w.fh, w.i (chg K (.ref c) n (cs.map cellRow)) (by walk_at "mem"), hrk, by omega, sqL_of (w.i (fx s5 (.lst (vg.take k ++ [v2] ++ vg.drop k))) (by walk_at "mem")), w.dpa (by walk_at "mem"), fun r2 h2 => ?_, by rw [List.length_append, List.length_append, List.length_take, List.length_drop]; simp; omega, by omega, w.dat (by walk_at "mem"), (fun d2 h2 => pf_one h2 (by rw [hcb]; exact pf_bad hdr)), rr_good k, by show 1 ≤ 3; decide, fun F10 H10 w10 => ?_⟩
        · rcases List.mem_append.mp h2 with h2 | h2
          · rcases List.mem_append.mp h2 with h2 | h2
            · exact hdr.s r2 (List.mem_of_mem_take h2)
            · rw [List.mem_singleton.mp h2]; exact hr
          · exact hdr.s r2 (List.mem_of_mem_drop h2)
        · replace w := w.cal .nil w10 (by walk_at "app")
          walk_at "go"
          exact nx_mk w ⟨_, _, rfl, rfl⟩ (by walk_at "pk")
    · obtain ⟨y10, y11, rfl, rfl⟩ := hp
      have hcf : ∀ v ∈ cs, FlatV v := fun v hv => cell_flat (hdr.c v hv)
      walk_at "go"
      refine n_lst w (szle (by simp)) fun p8 F8 H8 w hp8 => ?_
      walk_at "go"
      refine n_eqF (by walk_at "sq") (by walk_at "sq") hcf (by omega) ?_
      by_cases he : cs = []
      · rw [decide_eq_true he]
        walk_at "go"
        exact q _
      · rw [decide_eq_false he]
        have hcp : 0 < cs.length := List.length_pos_iff.mpr he
        walk_at "go"
        refine n_draw w (by walk_at "pick") (by omega) (by omega) fun r9 F9 H9 w r90 r91 => ?_
        obtain ⟨at_, rfl⟩ : ∃ at_ : Nat, r9 = (at_ : Nat) := ⟨r9.toNat, by omega⟩
        obtain ⟨v, hv⟩ : ∃ v, cs[at_]? = some v := ⟨_, List.getElem?_eq_getElem (by omega)⟩
        walk_at "go"
        refine n_cut w (fun σ L => ∃ u, σ = [some (.ref sc), some (.ref b), some (.int (rl / 3)), some (.int (extra : Nat)), some (.int (n : Nat)), some (.int (big : Nat)), some (.ref pg), some vb, some (.ref pc), some (.ref c), some (.int (at_ : Nat)), y11, some u] ∧ CellOk n u ∧ L = [chg K (.ref c) n (cs.map cellRow), fx pg (.lst vg), dpa K vg (good.map JR.d), fx pc (.lst cs), bag K b]) ?_ (fun σ L F' H' hp w => ?_)
        · walk_at "go"
          refine ⟨_, b, 1, rfl, rfl, w.st (by walk_at "pick"), by decide, by decide, fun so F2 H2 w2 hsl hso => ?_⟩
          replace w := w.calB (by walk_at "pick") w2 (by walk_at "app")
          obtain ⟨ch, rfl, hch⟩ := one_str (show so.length = 1 by omega) hso
          walk_at "go"
          obtain ⟨mx, emx, mx1, mx2, mx3⟩ : ∃ mx : Nat, (mx : Int) = (if ((n : Nat) : Int) > 1 then ((n : Nat) : Int) else 1) ∧ 1 ≤ mx ∧ mx ≤ 61 ∧ (0 < n → mx = n) := ⟨max 1 n, by split <;> omega, by omega, by omega, by omega⟩
          rw [← emx]
          refine n_draw w (by walk_at "pick") (by omega) (by omega) fun rx F9 H9 w rx0 rx1 => ?_
          obtain ⟨xn, rfl⟩ : ∃ xn : Nat, rx = (xn : Nat) := ⟨rx.toNat, by omega⟩
          walk_at "go"
          refine n_lst w (szle (by simp)) fun p9 F8 H8 w hp9 => ?_
          walk_at "go"
          refine n_draw w (by walk_at "pick") (by decide) (by decide) fun r10 F9 H9 w r100 r101 => ?_
          walk_at "go"
          by_cases hn0 : 0 < n
          · rw [show (if decide ((0 : Int) < ((n : Nat) : Int)) = true then (1 : Int) else 0) = 1 by rw [decide_eq_true (by omega)]; rfl, Int.mul_one]
            obtain rfl | rfl : r10 = 0 ∨ r10 = 1 := by omega
            · refine w_ixL _ (.str ⟨#[ch]⟩) (by walk_at "sq") (by rfl) ?_
              exact nx_mk w ⟨.str ⟨#[ch]⟩, rfl, .inr ⟨ch, rfl, hch⟩, rfl⟩ (by walk_at "pk")
            · refine w_ixL _ (.int (xn : Nat)) (by walk_at "sq") (by rfl) ?_
              exact nx_mk w ⟨.int (xn : Nat), rfl, .inl ⟨xn, rfl, by omega⟩, rfl⟩ (by walk_at "pk")
          · rw [show (if decide ((0 : Int) < ((n : Nat) : Int)) = true then (1 : Int) else 0) = 0 by rw [decide_eq_false (by omega)]; rfl, Int.mul_zero]
            refine w_ixL _ (.str ⟨#[ch]⟩) (by walk_at "sq") (by rfl) ?_
            exact nx_mk w ⟨.str ⟨#[ch]⟩, rfl, .inr ⟨ch, rfl, hch⟩, rfl⟩ (by walk_at "pk")
        · obtain ⟨u, rfl, hu, rfl⟩ := hp
          walk_at "go"
          refine w_ixL _ _ (by walk_at "sq") (atI_nat hv) ?_
          walk_at "go"
          refine ⟨scal_flat (cell_flat hu) (hcf v (List.mem_of_getElem? hv)), ?_⟩
          by_cases eu : u = v
          · rw [decide_eq_true eu]
            walk_at "go"
            exact q _
          · rw [decide_eq_false eu]
            have hat := (List.getElem?_eq_some_iff.mp hv).1
            walk_at "go"
            refine n_slL w (by walk_at "sq") fun s1 F7 H7 w hs1 => ?_
            rw [cut_to] at w
            walk_at "go"
            refine n_lst w (szle (by simp)) fun s2 F7 H7 w hs2 => ?_
            walk_at "go"
            refine n_cat w (by walk_at "at") (by walk_at "at") (szle (by rw [List.length_take]; simp; omega)) fun s3 F7 H7 w hs3 => ?_
            walk_at "go"
            rw [show ((at_ : Nat) : Int) + 1 = ((at_ + 1 : Nat) : Int) by omega]
            refine n_slL w (by walk_at "sq") fun s4 F7 H7 w hs4 => ?_
            rw [cut_from] at w
            walk_at "go"
            refine n_cat w (by walk_at "at") (by walk_at "at") (szle (by rw [List.length_append, List.length_take, List.length_drop]; simp; omega)) fun s5 F7 H7 w hs5 => ?_
            obtain ⟨ds, eds⟩ : ∃ ds, ds = cs.take at_ ++ [u] ++ cs.drop (at_ + 1) := ⟨_, rfl⟩
            rw [← eds] at w
            obtain ⟨F8, w⟩ := w.fzL (p := s5) (by walk_at "pick") hs5
            have hds : ∀ v ∈ ds, CellOk n v := fun v2 h2 => by
              rw [eds] at h2
              rcases List.mem_append.mp h2 with h2 | h2
              · rcases List.mem_append.mp h2 with h2 | h2
                · exact hdr.c v2 (List.mem_of_mem_take h2)
                · rw [List.mem_singleton.mp h2]; exact hu
              · exact hdr.c v2 (List.mem_of_mem_drop h2)
            have hdl : ds.length ≤ 400 := by
              rw [eds, List.length_append, List.length_append, List.length_take, List.length_drop]
              show min _ _ + 1 + _ ≤ _
              omega
            have hrk2 := cell_rows hds hdl
            have hcb2 := cell_back hds
            have hpf := pf_cell hdr hv eu
            rw [← eds] at hpf
            walk_at "go"
            refine ⟨_, s5, ds, n, rfl, w.fh, sqL_of (w.i (fx s5 (.lst ds)) (by walk_at "mem")), hds, hdl, fun p6 zs F4 H4 hp6 w4 => ?_⟩
            have hp6' := w.g.fresh hp6
            replace w := w.cal .nil w4 (by walk_at "app")
            obtain ⟨F4, w⟩ := w.fzL (p := p6) (by walk_at "pick") hp6'
            walk_at "go"
            refine n_make w fun c2 dx2 H5 w hc2 => ?_
            refine c_init w (by walk_at "pick") hc2 (sqL_of (w.i (fx p6 (.lst zs)) (by walk_at "mem"))) (w.dpa (by walk_at "mem")) (by omega) hrk2 fun F5 H5 w => ?_
            walk_at "go"
            refine n_tup w (szle (by simp)) fun t9 F9 H9 w => ?_
            replace w := w.push (dat K (.ref t9) (.tuple [.str "cell", .int (at_ : Nat)])) (.tup (sqT_of (w.i (fx t9 (.tup [.str "cell", .int (at_ : Nat)])) (by walk_at "mem"))) (.cons (.str _) (.cons (.int _) .nil)))
            walk_at "go"
            refine ⟨_, pg, vg, n, extra, ds.map cellRow, good, .tuple [.str "cell", .int (at_ : Nat)], rfl, rfl, w.fh, w.i (chg K (.ref c2) n (ds.map cellRow)) (by walk_at "mem"), hrk2, by omega, sqL_of (w.i (fx pg (.lst vg)) (by walk_at "mem")), w.dpa (by walk_at "mem"), hdr.s, by omega, by omega, w.dat (by walk_at "mem"), (fun d2 h2 => pf_one h2 (by rw [hcb2]; exact hpf)), rc_good at_, by show 1 ≤ 3; decide, fun F6 H6 w6 => ?_⟩
            exact q _
end

def d_gives : He.DefD := ⟨("gives", none), "gives", "gives", defArgs s_gives, defBody s_gives, defScope s_gives, [], []⟩
def d_ChangeX_initX : He.DefD := ⟨("Change", some "__init__"), "__init__", "Change.__init__", defArgs s_ChangeX_initX, defBody s_ChangeX_initX, defScope s_ChangeX_initX, [], []⟩
def d_Change_cells : He.DefD := ⟨("Change", some "cells"), "cells", "Change.cells", defArgs s_Change_cells, defBody s_Change_cells, defScope s_Change_cells, [], []⟩
def d_held : He.DefD := ⟨("held", none), "held", "held", defArgs s_held, defBody s_held, defScope s_held, [], []⟩
def d_brought : He.DefD := ⟨("brought", none), "brought", "brought", defArgs s_brought, defBody s_brought, defScope s_brought, [], []⟩
def d_done : He.DefD := ⟨("done", none), "done", "done", defArgs s_done, defBody s_done, defScope s_done, [], []⟩
def d_plan_fault : He.DefD := ⟨("plan_fault", none), "plan_fault", "plan_fault", defArgs s_plan_fault, defBody s_plan_fault, defScope s_plan_fault, [.int 0], []⟩
def d_law_bag : He.DefD := ⟨("_law_bag", none), "_law_bag", "_law_bag", defArgs s_law_bag, defBody s_law_bag, defScope s_law_bag, [], []⟩
def d_law_stirred : He.DefD := ⟨("_law_stirred", none), "_law_stirred", "_law_stirred", defArgs s_law_stirred, defBody s_law_stirred, defScope s_law_stirred, [], []⟩
def d_law_draw : He.DefD := ⟨("_law_draw", none), "_law_draw", "_law_draw", defArgs s_law_draw, defBody s_law_draw, defScope s_law_draw, [], []⟩
def d_law_text : He.DefD := ⟨("_law_text", none), "_law_text", "_law_text", defArgs s_law_text, defBody s_law_text, defScope s_law_text, [], []⟩
def d_law_alike : He.DefD := ⟨("_law_alike", none), "_law_alike", "_law_alike", defArgs s_law_alike, defBody s_law_alike, defScope s_law_alike, [], []⟩
def d_law_held : He.DefD := ⟨("_law_held", none), "_law_held", "_law_held", defArgs s_law_held, defBody s_law_held, defScope s_law_held, [], []⟩
def d_law_what : He.DefD := ⟨("_law_what", none), "_law_what", "_law_what", defArgs s_law_what, defBody s_law_what, defScope s_law_what, [], []⟩
def d_law_walk : He.DefD := ⟨("_law_walk", none), "_law_walk", "_law_walk", defArgs s_law_walk, defBody s_law_walk, defScope s_law_walk, [], []⟩
def d_law_number : He.DefD := ⟨("_law_number", none), "_law_number", "_law_number", defArgs s_law_number, defBody s_law_number, defScope s_law_number, [], []⟩
def d_law_any_row : He.DefD := ⟨("_law_any_row", none), "_law_any_row", "_law_any_row", defArgs s_law_any_row, defBody s_law_any_row, defScope s_law_any_row, [], []⟩
def d_law_rows_of : He.DefD := ⟨("_law_rows_of", none), "_law_rows_of", "_law_rows_of", defArgs s_law_rows_of, defBody s_law_rows_of, defScope s_law_rows_of, [], []⟩
def d_law_drawn : He.DefD := ⟨("_law_drawn", none), "_law_drawn", "_law_drawn", defArgs s_law_drawn, defBody s_law_drawn, defScope s_law_drawn, [], []⟩
def d_law_right : He.DefD := ⟨("_law_right", none), "_law_right", "_law_right", defArgs s_law_right, defBody s_law_right, defScope s_law_right, [], []⟩
def d_law : He.DefD := ⟨("law", none), "law", "law", defArgs s_law, defBody s_law, defScope s_law, [], []⟩
def fn : List He.DefD := [d_gives, d_ChangeX_initX, d_Change_cells, d_held, d_brought, d_done, d_plan_fault, d_law_bag, d_law_stirred, d_law_draw, d_law_text, d_law_alike, d_law_held, d_law_what, d_law_walk, d_law_number, d_law_any_row, d_law_rows_of, d_law_drawn, d_law_right, d_law]
def fa : List He.Fa := [.free "abs", .free "all", .free "bool", .free "enumerate", .free "int", .free "isinstance", .free "len", .free "list", .free "max", .free "range", .free "str", .free "tuple", .int "MOST" 400, .glo "gives", .glo "held", .glo "brought", .glo "done", .glo "plan_fault", .glo "_law_bag", .glo "_law_stirred", .glo "_law_draw", .glo "_law_text", .glo "_law_alike", .glo "_law_held", .glo "_law_what", .glo "_law_walk", .glo "_law_number", .glo "_law_any_row", .glo "_law_rows_of", .glo "_law_drawn", .glo "_law_right", .glo "law", .glo "Change", .cls "Change", .mkr "Change", .noat "Change" "size", .noat "Change" "rows", .meth "Change" "cells"]
abbrev RR : PySem.W.OpenRow := PySem.W.OpenLaw.row PySem.Challenge.rw_remadehere_k44_any_rows_judged
abbrev hk : PySem.W.Hook := He.hookD 4 fa fn
def ob (s : PySem.W.SharedT) : He.AlD := He.obsDG 4 fa fn (HandSHeadRun.getT s)
theorem ob_eq (s : PySem.W.SharedT) : ob s = hk.obs s.abs := He.obsDG_eq (HandSHeadRun.getT_eq s)
theorem run (w : World) : HandSHeadRun.RunEq RR (PySem.W.view RR.prog [28]) hk ob 3000 ["_wall", "BadRow", "BadSize", "MOST", "gives", "row_text", "Change", "held", "brought", "done", "plan_fault", "_law_bag", "_law_stirred", "_law_draw", "_law_text", "_law_alike", "_law_held", "_law_what", "_law_walk", "_law_number", "_law_any_row", "_law_rows_of", "_law_drawn", "_law_right"] w := by
  intro os
  kernel_rfl
theorem facts {P : Program} {w : World} {K : PySem.W.Frag} {mg : Str → Option Value} {h : Heap} {f : Addr} (X : K.In h) (G : h.Ns mainGlobals mg) (hfa : mg ("law" : Str) = some (.ref f)) (c : He.SaysD fa fn K) :
    ∃ fd : FuncData, (∀ (s : Shared) (v : Value), BindsTo s fd ⟨[v], []⟩ [("script", v)]) ∧ ∀ base : Heap, K.In base → base.Ns mainGlobals mg → FnOk P w K mg base CX0 12 f fd ["script"] (S1 (φlaw K)) := by
  have T : Txt K mg := ⟨He.free_ok X G (c.fact 0 (f := .free "abs") rfl), He.free_ok X G (c.fact 1 (f := .free "all") rfl), He.free_ok X G (c.fact 2 (f := .free "bool") rfl), He.free_ok X G (c.fact 3 (f := .free "enumerate") rfl), He.free_ok X G (c.fact 4 (f := .free "int") rfl), He.free_ok X G (c.fact 5 (f := .free "isinstance") rfl), He.free_ok X G (c.fact 6 (f := .free "len") rfl), He.free_ok X G (c.fact 7 (f := .free "list") rfl), He.free_ok X G (c.fact 8 (f := .free "max") rfl), He.free_ok X G (c.fact 9 (f := .free "range") rfl), He.free_ok X G (c.fact 10 (f := .free "str") rfl), He.free_ok X G (c.fact 11 (f := .free "tuple") rfl), He.int_ok X G (c.fact 12 (f := .int "MOST" 400) rfl), He.cls_ok (c.fact 33 (f := .cls "Change") rfl), He.noat_ok (c.fact 35 (f := .noat "Change" "size") rfl), He.noat_ok (c.fact 36 (f := .noat "Change" "rows") rfl)⟩
  obtain ⟨fd_gives, F_gives⟩ := c.def_ 0 (d := d_gives) rfl
  obtain ⟨fd_ChangeX_initX, F_ChangeX_initX⟩ := c.def_ 1 (d := d_ChangeX_initX) rfl
  obtain ⟨fd_Change_cells, F_Change_cells⟩ := c.def_ 2 (d := d_Change_cells) rfl
  obtain ⟨fd_held, F_held⟩ := c.def_ 3 (d := d_held) rfl
  obtain ⟨fd_brought, F_brought⟩ := c.def_ 4 (d := d_brought) rfl
  obtain ⟨fd_done, F_done⟩ := c.def_ 5 (d := d_done) rfl
  obtain ⟨fd_plan_fault, F_plan_fault⟩ := c.def_ 6 (d := d_plan_fault) rfl
  obtain ⟨fd_law_bag, F_law_bag⟩ := c.def_ 7 (d := d_law_bag) rfl
  obtain ⟨fd_law_stirred, F_law_stirred⟩ := c.def_ 8 (d := d_law_stirred) rfl
  obtain ⟨fd_law_draw, F_law_draw⟩ := c.def_ 9 (d := d_law_draw) rfl
  obtain ⟨fd_law_text, F_law_text⟩ := c.def_ 10 (d := d_law_text) rfl
  obtain ⟨fd_law_alike, F_law_alike⟩ := c.def_ 11 (d := d_law_alike) rfl
  obtain ⟨fd_law_held, F_law_held⟩ := c.def_ 12 (d := d_law_held) rfl
  obtain ⟨fd_law_what, F_law_what⟩ := c.def_ 13 (d := d_law_what) rfl
  obtain ⟨fd_law_walk, F_law_walk⟩ := c.def_ 14 (d := d_law_walk) rfl
  obtain ⟨fd_law_number, F_law_number⟩ := c.def_ 15 (d := d_law_number) rfl
  obtain ⟨fd_law_any_row, F_law_any_row⟩ := c.def_ 16 (d := d_law_any_row) rfl
  obtain ⟨fd_law_rows_of, F_law_rows_of⟩ := c.def_ 17 (d := d_law_rows_of) rfl
  obtain ⟨fd_law_drawn, F_law_drawn⟩ := c.def_ 18 (d := d_law_drawn) rfl
  obtain ⟨fd_law_right, F_law_right⟩ := c.def_ 19 (d := d_law_right) rfl
  obtain ⟨fd_law, F_law⟩ := c.def_ 20 (d := d_law) rfl
  have D_gives : ∀ base, DO P w K mg base 1 "gives" ["row", "size"] [] (S2 (φgives K)) := fun base => ⟨_, _, [], ok_gives F_gives T , He.glo_ok X G (c.fact 13 (f := .glo "gives") rfl), F_gives.kp, F_gives.bindsN fun _ _ _ _ _ _ us hl => match us, hl with | [_, _], _ => rfl, .nil⟩
  have DN_Change_2 : ∀ base, DN P w K mg base 2 "Change" ["self", "size", "rows"] [] (S3 (φinit K)) := fun base => ⟨_, [], ok_ChangeX_initX F_ChangeX_initX T (D_gives base), He.mkr_ok (c.fact 34 (f := .mkr "Change") rfl), He.glo_ok X G (c.fact 32 (f := .glo "Change") rfl), F_ChangeX_initX.bindsN fun _ _ _ _ _ _ us hl => match us, hl with | [_, _, _], _ => rfl, .nil⟩
  have DM_Change_cells : ∀ base, DM P w K mg base 1 "Change" "cells" ["self"] [] (S1 (φcells K)) := fun base => ⟨_, [], ok_Change_cells F_Change_cells T , He.meth_ok (c.fact 37 (f := .meth "Change" "cells") rfl), T.k_Change, F_Change_cells.bindsN fun _ _ _ _ _ _ us hl => match us, hl with | [_], _ => rfl, .nil⟩
  have D_held : ∀ base, DO P w K mg base 1 "held" ["some", "first", "many"] [] (S3 (φheld44 K true)) := fun base => ⟨_, _, [], ok_held F_held T , He.glo_ok X G (c.fact 14 (f := .glo "held") rfl), F_held.kp, F_held.bindsN fun _ _ _ _ _ _ us hl => match us, hl with | [_, _, _], _ => rfl, .nil⟩
  have D_brought : ∀ base, DO P w K mg base 2 "brought" ["row", "cells", "slots"] [] (S3 (φwhat44 K true)) := fun base => ⟨_, _, [], ok_brought F_brought T (D_held base), He.glo_ok X G (c.fact 15 (f := .glo "brought") rfl), F_brought.kp, F_brought.bindsN fun _ _ _ _ _ _ us hl => match us, hl with | [_, _, _], _ => rfl, .nil⟩
  have D_done : ∀ base, DO P w K mg base 3 "done" ["row", "cells", "slots"] [] (S3 (φdone44 K)) := fun base => ⟨_, _, [], ok_done F_done T (D_brought base), He.glo_ok X G (c.fact 16 (f := .glo "done") rfl), F_done.kp, F_done.bindsN fun _ _ _ _ _ _ us hl => match us, hl with | [_, _, _], _ => rfl, .nil⟩
  have D_plan_fault_3 : ∀ base, DO P w K mg base 4 "plan_fault" ["change", "plan", "spare"] [] (S3 (φfault44 K)) := fun base => by
    obtain ⟨ds, rd, bd⟩ := FunD.binds1 F_plan_fault (ps := ["change", "plan", "spare"]) 3 1 (by intro z; cases z) rfl (fun T' kV doc pm an cdv ct us its hu hi => match us, its, hu, hi with | [_, _, _], [_], _, _ => ⟨_, rfl, rfl⟩)
    exact ⟨_, _, ds, ok_plan_fault F_plan_fault T (D_done base) (DM_Change_cells base), He.glo_ok X G (c.fact 17 (f := .glo "plan_fault") rfl), F_plan_fault.kp, bd, rd⟩
  have DK_plan_fault_0_plan_change_spare : ∀ base, DK P w K mg base 4 "plan_fault" ["change", "plan", "spare"] 0 ["plan", "change", "spare"] [(1, 1), (1, 0), (1, 2)] [.int 0] (S3 (φfault44 K)) := fun base => by
    obtain ⟨ds, bd⟩ := kbD (tp := [(1, 1), (1, 0), (1, 2)]) (ps := ["change", "plan", "spare"]) (ks := ["plan", "change", "spare"]) (n := 0) F_plan_fault (by intro z; cases z) (fun T' kV doc pm an cdv ct us ws its hu hw hi => match us, ws, its, hu, hw, hi with | [], [_, _, _], [_], _, _, _ => ⟨_, rfl, rfl⟩)
    exact ⟨_, _, ds, ok_plan_fault F_plan_fault T (D_done base) (DM_Change_cells base), He.glo_ok X G (c.fact 17 (f := .glo "plan_fault") rfl), F_plan_fault.kp, bd⟩
  have D_law_bag : ∀ base, DO P w K mg base 1 "_law_bag" ["script"] [] (S1 (φbag K)) := fun base => ⟨_, _, [], ok_law_bag F_law_bag T , He.glo_ok X G (c.fact 18 (f := .glo "_law_bag") rfl), F_law_bag.kp, F_law_bag.bindsN fun _ _ _ _ _ _ us hl => match us, hl with | [_], _ => rfl, .nil⟩
  have D_law_stirred : ∀ base, DO P w K mg base 1 "_law_stirred" ["bag", "many"] [] (S2 (φdraw K)) := fun base => ⟨_, _, [], ok_law_stirred F_law_stirred T , He.glo_ok X G (c.fact 19 (f := .glo "_law_stirred") rfl), F_law_stirred.kp, F_law_stirred.bindsN fun _ _ _ _ _ _ us hl => match us, hl with | [_, _], _ => rfl, .nil⟩
  have D_law_draw : ∀ base, DO P w K mg base 2 "_law_draw" ["bag", "many"] [] (S2 (φdraw K)) := fun base => ⟨_, _, [], ok_law_draw F_law_draw T (D_law_stirred base), He.glo_ok X G (c.fact 20 (f := .glo "_law_draw") rfl), F_law_draw.kp, F_law_draw.bindsN fun _ _ _ _ _ _ us hl => match us, hl with | [_, _], _ => rfl, .nil⟩
  have D_law_text : ∀ base, DO P w K mg base 3 "_law_text" ["bag", "many"] [] (S2 (φtextN K)) := fun base => ⟨_, _, [], ok_law_text F_law_text T (D_law_draw base), He.glo_ok X G (c.fact 21 (f := .glo "_law_text") rfl), F_law_text.kp, F_law_text.bindsN fun _ _ _ _ _ _ us hl => match us, hl with | [_, _], _ => rfl, .nil⟩
  have D_law_alike : ∀ base, DO P w K mg base 6 "_law_alike" ["found", "due"] [] (S2 (φalike K 6)) := fun base => recDO (φ := fun n => (S2 (φalike K n))) (fun vs H Q E h => alike0 h) (He.glo_ok X G (c.fact 22 (f := .glo "_law_alike") rfl)) F_law_alike.kp (F_law_alike.bindsN fun _ _ _ _ _ _ us hl => match us, hl with | [_, _], _ => rfl) (fun n ih => ok_law_alike F_law_alike T ih) 6
  have D_law_held : ∀ base, DO P w K mg base 1 "_law_held" ["some", "first", "many"] [] (S3 (φheld44 K false)) := fun base => ⟨_, _, [], ok_law_held F_law_held T , He.glo_ok X G (c.fact 23 (f := .glo "_law_held") rfl), F_law_held.kp, F_law_held.bindsN fun _ _ _ _ _ _ us hl => match us, hl with | [_, _, _], _ => rfl, .nil⟩
  have D_law_what : ∀ base, DO P w K mg base 2 "_law_what" ["row", "cells", "slots"] [] (S3 (φwhat44 K false)) := fun base => ⟨_, _, [], ok_law_what F_law_what T (D_law_held base), He.glo_ok X G (c.fact 24 (f := .glo "_law_what") rfl), F_law_what.kp, F_law_what.bindsN fun _ _ _ _ _ _ us hl => match us, hl with | [_, _, _], _ => rfl, .nil⟩
  have D_law_walk : ∀ base, DO P w K mg base 3 "_law_walk" ["steps", "cells", "slots"] [] (S3 (φwalk44 K)) := fun base => ⟨_, _, [], ok_law_walk F_law_walk T (D_law_what base), He.glo_ok X G (c.fact 25 (f := .glo "_law_walk") rfl), F_law_walk.kp, F_law_walk.bindsN fun _ _ _ _ _ _ us hl => match us, hl with | [_, _, _], _ => rfl, .nil⟩
  have D_law_number : ∀ base, DO P w K mg base 3 "_law_number" ["bag", "number"] [] (S2 (φnumber44 K)) := fun base => ⟨_, _, [], ok_law_number F_law_number T (D_law_draw base), He.glo_ok X G (c.fact 26 (f := .glo "_law_number") rfl), F_law_number.kp, F_law_number.bindsN fun _ _ _ _ _ _ us hl => match us, hl with | [_, _], _ => rfl, .nil⟩
  have D_law_any_row : ∀ base, DO P w K mg base 4 "_law_any_row" ["bag", "big", "extra"] [] (S3 (φanyrow44 K)) := fun base => ⟨_, _, [], ok_law_any_row F_law_any_row T (D_law_draw base) (D_law_number base) (D_law_text base), He.glo_ok X G (c.fact 27 (f := .glo "_law_any_row") rfl), F_law_any_row.kp, F_law_any_row.bindsN fun _ _ _ _ _ _ us hl => match us, hl with | [_, _, _], _ => rfl, .nil⟩
  have D_law_rows_of : ∀ base, DO P w K mg base 1 "_law_rows_of" ["cells"] [] (S1 (φrowsof44 K)) := fun base => ⟨_, _, [], ok_law_rows_of F_law_rows_of T , He.glo_ok X G (c.fact 28 (f := .glo "_law_rows_of") rfl), F_law_rows_of.kp, F_law_rows_of.bindsN fun _ _ _ _ _ _ us hl => match us, hl with | [_], _ => rfl, .nil⟩
  have D_law_drawn : ∀ base, DO P w K mg base 5 "_law_drawn" ["bag", "n", "big", "extra", "many"] [] (S5 (φdrawn44 K)) := fun base => ⟨_, _, [], ok_law_drawn F_law_drawn T (D_law_any_row base) (D_law_draw base) (D_law_text base) (D_law_walk base), He.glo_ok X G (c.fact 29 (f := .glo "_law_drawn") rfl), F_law_drawn.kp, F_law_drawn.bindsN fun _ _ _ _ _ _ us hl => match us, hl with | [_, _, _, _, _], _ => rfl, .nil⟩
  have D_law_right : ∀ base, DO P w K mg base 10 "_law_right" ["made", "steps", "extra", "due"] [] (S4 (φright44 K)) := fun base => ⟨_, _, [], ok_law_right F_law_right T (D_law_alike base) (D_plan_fault_3 base) (DK_plan_fault_0_plan_change_spare base), He.glo_ok X G (c.fact 30 (f := .glo "_law_right") rfl), F_law_right.kp, F_law_right.bindsN fun _ _ _ _ _ _ us hl => match us, hl with | [_, _, _, _], _ => rfl, .nil⟩
  have e := hfa.symm.trans (He.glo_ok X G (c.fact 31 (f := .glo "law") rfl))
  cases e
  have b := FunD.bindsA (ps := ["script"]) F_law fun _ _ _ _ _ _ us hl => match us, hl with | [_], _ => rfl
  exact ⟨fd_law, fun s v => b s [v] rfl, fun base _ _ => ok_law F_law T (D_law_bag base) (D_law_draw base) (D_law_drawn base) (D_law_right base) (D_law_rows_of base) (D_law_text base) (DN_Change_2 base)⟩
end Z
open PySem PySem.W PySem.Calls PyProof.Rows
theorem PySem.Challenge.cw_remadehere_k44_any_rows_judged_holds : PySem.Challenge.rw_remadehere_k44_any_rows_judged.Holds := by
  w_on; o_law
  refine HandSHeadRun.head_any (r := OpenLaw.row PySem.Challenge.rw_remadehere_k44_any_rows_judged) (q := view (OpenLaw.row PySem.Challenge.rw_remadehere_k44_any_rows_judged).prog [28]) (H := Z.hk) (ob := Z.ob) (M := 3000) (loose := ["_wall", "BadRow", "BadSize", "MOST", "gives", "row_text", "Change", "held", "brought", "done", "plan_fault", "_law_bag", "_law_stirred", "_law_draw", "_law_text", "_law_alike", "_law_held", "_law_what", "_law_walk", "_law_number", "_law_any_row", "_law_rows_of", "_law_drawn", "_law_right"]) (d := HandSHeadRun.topDef (OpenLaw.row PySem.Challenge.rw_remadehere_k44_any_rows_judged).prog 28) (kwd := []) Z.ob_eq
    (by kernel_rfl) (fun s => by kernel_rfl) Z.run (by kernel_rfl) (by kernel_rfl) (by kernel_rfl) (by rfl) (by first | assumption | decide +kernel) (by decide +kernel) ⟨rfl, rfl, rfl, rfl, rfl, by decide +kernel⟩ ?hw ?hc
  case hw => w_witness2
  case hc =>
    refine L2.walk_ofE (l := PySem.Challenge.rw_remadehere_k44_any_rows_judged) (n := 63) (k := 12) (x := "script") (CX := L2.CX0) rfl (by decide) (by kernel_rfl) ⟨rfl, by decide, by decide⟩ ?F (fun _ _ _ _ z => z)
    intro w mg fa h Y G hmg0
    obtain ⟨K, KX, c⟩ := Y
    have hmg : mg ("law" : PySem.Str) = some (.ref fa) := by
      have e : (HandSHeadRun.topDef (OpenLaw.row PySem.Challenge.rw_remadehere_k44_any_rows_judged).prog 28).name = ("law" : PySem.Str) := by kernel_rfl
      rw [← e]
      exact hmg0
    obtain ⟨fd, hb, hF⟩ := Z.facts (P := (PySem.Challenge.rw_remadehere_k44_any_rows_judged).prog) (w := w) KX G hmg c
    exact ⟨K, fd, (R.S1 (R.φlaw K)), KX, hb, fun H a ns hl hO hS => R.law_start a ns hl hO hS, hF⟩
