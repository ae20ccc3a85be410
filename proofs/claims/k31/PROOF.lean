import PyProof.Rows.All
import Wide.All
import OpenK.AllK
import Wide.FinOn
import KE.KStateDown
import Lean
import HandS.Base
import HandS.Call
import HandS.List
import HandS.Comp
import HandS.Ends
import HandS.Dict
import HandS.Iter
import HandS.Text
import HandS.Words
import HandS.WordsList
import HandS.Defaults
import HandS.IsInst
import HandS.Wide
import HandS.WideBits
import HandS.Conv
import HandS.Flow
import HandS.Style
import HandS.Flt
import HandS.More
import HandS.Set
import HandS.SetFor
import HandS.Strs
import HandS.SortInts
import HandS.MakeKw
import HandS.MakeKwOnly
import HandS.Codes
import HandS.SetKeys
import HandS.Head0
import HandS.Head1
import HandS.Head2
import HandS.HeadEnd
import HandS.HeadHook1
import HandS.HeadHook2
import PyProof.DictMoreH
import PyProof.ListStr
import HandS.OwnEq
import PyProof.StrLawsIn
import PyProof.StrLawsFirst
import HandS.Rev
import HandS.RevTup
import HandS.RevRange
import HandS.TupLe
import HandS.Zip
import HandS.SortRule
import KE.SortData
import PySem.Challenge.RW_remadehere_k31_pure_rings_counted
set_option Elab.async false
set_option linter.all false
set_option maxRecDepth 100000
set_option maxHeartbeats 8000000
namespace R
open PySem L2

/-! ### worlds: F the part that stays, H all that is tracked -/
theorem ne_none {α : Type} {o : Option α} {x : α} (h : o = some x) : o ≠ none := fun e => by rw [h] at e; cases e
theorem Same.new {H : Hp} {p : Addr} {o : HO} (h : H p = none) : Same H (upd H p o) := fun a u e => by
  rw [upd_ne (ne_of_none e h)]
  exact e
theorem rd_same {F H : Hp} {a : Addr} {u : HO} (e : Same F H) (h : Rd F a u) : Rd H a u := by
  rcases h with h | ⟨o, h⟩
  · exact .inl (e _ _ h)
  · exact .inr ⟨o, e _ _ h⟩
theorem sqL_same {K : PySem.W.Frag} {F H : Hp} {a : Addr} {xs : List V} (e : Same F H) (h : SqL K F a xs) : SqL K H a xs := by
  rcases h with h | h
  · exact .inl (rd_same e h)
  · exact .inr h
theorem sqT_same {K : PySem.W.Frag} {F H : Hp} {a : Addr} {xs : List V} (e : Same F H) (h : SqT K F a xs) : SqT K H a xs := by
  rcases h with h | h
  · exact .inl (rd_same e h)
  · exact .inr h
theorem sqL_of {K : PySem.W.Frag} {H : Hp} {a : Addr} {xs : List V} (h : H a = some (.lst xs)) : SqL K H a xs := .inl (.inl h)
theorem sqT_of {K : PySem.W.Frag} {H : Hp} {a : Addr} {xs : List V} (h : H a = some (.tup xs)) : SqT K H a xs := .inl (.inl h)
mutual
theorem dp_same {K : PySem.W.Frag} {F H : Hp} (e : Same F H) : ∀ (d : PyData) (v : V), Dp K F v d → Dp K H v d
  | .none, _, .non => .non
  | .bool _, _, .bl b => .bl b
  | .int _, _, .int i => .int i
  | .str _, _, .str x => .str x
  | .list ds, _, .lst h hs => .lst (sqL_same e h) (dpa_same e ds _ hs)
  | .tuple ds, _, .tup h hs => .tup (sqT_same e h) (dpa_same e ds _ hs)
theorem dpa_same {K : PySem.W.Frag} {F H : Hp} (e : Same F H) : ∀ (ds : List PyData) (vs : List V), DpAll K F vs ds → DpAll K H vs ds
  | [], _, .nil => .nil
  | d :: ds, _, .cons h hs => .cons (dp_same e d _ h) (dpa_same e ds _ hs)
end

/-- what a deed does: F grows to F2, H to H2; of what H has outside of F only the objects at M change -/
structure Gr (M : List Addr) (F H F2 H2 : Hp) : Prop where
  ff : Same F F2
  fh : Same F2 H2
  hh : ∀ a o, a ∉ M → H a = some o → H2 a = some o
  al : ∀ a, H a ≠ none → H2 a ≠ none
  nw : ∀ a, H a ≠ none → F a = none → F2 a = none
theorem Gr.refl {M : List Addr} {F H : Hp} (h : Same F H) : Gr M F H F H := ⟨Same.refl F, h, fun _ _ _ e => e, fun _ e => e, fun _ _ e => e⟩
theorem Gr.trans {M : List Addr} {F H F1 H1 F2 H2 : Hp} (a : Gr M F H F1 H1) (b : Gr M F1 H1 F2 H2) : Gr M F H F2 H2 :=
  ⟨a.ff.trans b.ff, b.fh, fun x o n e => b.hh x o n (a.hh x o n e), fun x e => b.al x (a.al x e), fun x e n => b.nw x (a.al x e) (a.nw x e n)⟩
theorem Gr.sub {M N : List Addr} {F H F2 H2 : Hp} (a : Gr M F H F2 H2) (h : ∀ x ∈ M, x ∈ N) : Gr N F H F2 H2 := ⟨a.ff, a.fh, fun x o n e => a.hh x o (fun m => n (h x m)) e, a.al, a.nw⟩
theorem Gr.up {M : List Addr} {F H F2 H2 : Hp} (a : Gr [] F H F2 H2) : Gr M F H F2 H2 := a.sub fun _ h => by cases h
/-- a new object that stays -/
theorem Gr.im {M : List Addr} {F H : Hp} {p : Addr} {o : HO} (w : Same F H) (h : H p = none) : Gr M F H (upd F p o) (upd H p o) := by
  have hF : F p = none := w.free h
  refine ⟨Same.new hF, fun a u e => ?_, fun a u _ e => ?_, fun a e => ?_, fun a e n => ?_⟩
  · by_cases q : a = p
    · subst q
      rw [upd_same] at e ⊢
      exact e
    · rw [upd_ne q] at e ⊢
      exact w a u e
  · rw [upd_ne (ne_of_none e h)]
    exact e
  · by_cases q : a = p
    · subst q
      rw [upd_same]
      exact fun z => nomatch z
    · rw [upd_ne q]
      exact e
  · have q : a ≠ p := fun z => by subst z; exact e h
    rw [upd_ne q]
    exact n
/-- a new object that may change -/
theorem Gr.new {M : List Addr} {F H : Hp} {p : Addr} {o : HO} (w : Same F H) (h : H p = none) : Gr M F H F (upd H p o) := by
  refine ⟨Same.refl F, w.trans (Same.new h), fun a u _ e => ?_, fun a e => ?_, fun a e n => n⟩
  · rw [upd_ne (ne_of_none e h)]
    exact e
  · by_cases q : a = p
    · subst q
      rw [upd_same]
      exact fun z => nomatch z
    · rw [upd_ne q]
      exact e
/-- a change of an object that may change -/
theorem Gr.wr {M : List Addr} {F H : Hp} {p : Addr} {o : HO} (w : Same F H) (h : F p = none) (hm : p ∈ M) : Gr M F H F (upd H p o) := by
  refine ⟨Same.refl F, fun a u e => ?_, fun a u n e => ?_, fun a e => ?_, fun a e n => n⟩
  · have q : a ≠ p := ne_of_none e h
    rw [upd_ne q]
    exact w a u e
  · have q : a ≠ p := fun z => by subst z; exact n hm
    rw [upd_ne q]
    exact e
  · by_cases q : a = p
    · subst q
      rw [upd_same]
      exact fun z => nomatch z
    · rw [upd_ne q]
      exact e
/-- .. of one that was new behind the start -/
theorem Gr.wrn {M : List Addr} {F0 H0 F H : Hp} {p : Addr} {o : HO} (g : Gr M F0 H0 F H) (h : F p = none) (hn : H0 p = none) : Gr M F0 H0 F (upd H p o) := by
  refine ⟨g.ff, fun a u e => ?_, fun a u n e => ?_, fun a e => ?_, g.nw⟩
  · have q : a ≠ p := ne_of_none e h
    rw [upd_ne q]
    exact g.fh a u e
  · have q : a ≠ p := fun z => by subst z; rw [hn] at e; cases e
    rw [upd_ne q]
    exact g.hh a u n e
  · by_cases q : a = p
    · subst q
      rw [upd_same]
      exact fun z => nomatch z
    · rw [upd_ne q]
      exact g.al a e
/-- an object that may change -/
structure Mu (F H : Hp) (p : Addr) (o : HO) : Prop where
  n : F p = none
  h : H p = some o
theorem Gr.mu {M : List Addr} {F H F2 H2 : Hp} {p : Addr} {o : HO} (g : Gr M F H F2 H2) (m : Mu F H p o) (hp : p ∉ M) : Mu F2 H2 p o := ⟨g.nw p (ne_none m.h) m.n, g.hh p o hp m.h⟩
theorem Gr.mu0 {F H F2 H2 : Hp} {p : Addr} {o : HO} (g : Gr [] F H F2 H2) (m : Mu F H p o) : Mu F2 H2 p o := g.mu m (fun h => nomatch h)
theorem Mu.new {F H : Hp} {p : Addr} {o : HO} (w : Same F H) (h : H p = none) : Mu F (upd H p o) p o := ⟨w.free h, upd_same⟩
theorem Mu.wr {F H : Hp} {p : Addr} {o u : HO} (m : Mu F H p o) : Mu F (upd H p u) p u := ⟨m.n, upd_same⟩
theorem Mu.oth {F H : Hp} {p q : Addr} {o u : HO} (m : Mu F H p o) (h : p ≠ q) : Mu F (upd H q u) p o := ⟨m.n, by rw [upd_ne h]; exact m.h⟩
theorem Mu.sq {K : PySem.W.Frag} {F H : Hp} {p : Addr} {xs : List V} (m : Mu F H p (.lst xs)) : SqL K H p xs := sqL_of m.h
theorem Mu.ne_new {F H : Hp} {p q : Addr} {o : HO} (m : Mu F H p o) (h : H q = none) : p ≠ q := ne_of_none m.h h
theorem upd_at {F : Hp} {p : Addr} {o : HO} : upd F p o p = some o := upd_same

/-! ### promises by the number of arguments -/
def S1 (φ : V → Hp → VK → Prop) : Sp := fun vs H Q _ => match vs with
  | [a] => φ a H Q
  | _ => False
def S2 (φ : V → V → Hp → VK → Prop) : Sp := fun vs H Q _ => match vs with
  | [a, b] => φ a b H Q
  | _ => False
def S3 (φ : V → V → V → Hp → VK → Prop) : Sp := fun vs H Q _ => match vs with
  | [a, b, c] => φ a b c H Q
  | _ => False
def S4 (φ : V → V → V → V → Hp → VK → Prop) : Sp := fun vs H Q _ => match vs with
  | [a, b, c, d] => φ a b c d H Q
  | _ => False
def S5 (φ : V → V → V → V → V → Hp → VK → Prop) : Sp := fun vs H Q _ => match vs with
  | [a, b, c, d, e] => φ a b c d e H Q
  | _ => False
def S6 (φ : V → V → V → V → V → V → Hp → VK → Prop) : Sp := fun vs H Q _ => match vs with
  | [a, b, c, d, e, f] => φ a b c d e f H Q
  | _ => False
def S7 (φ : V → V → V → V → V → V → V → Hp → VK → Prop) : Sp := fun vs H Q _ => match vs with
  | [a, b, c, d, e, f, g] => φ a b c d e f g H Q
  | _ => False
def S0 (φ : Hp → VK → Prop) : Sp := fun vs H Q _ => match vs with
  | [] => φ H Q
  | _ => False

theorem S0.len {φ : Hp → VK → Prop} {vs : List V} {H : Hp} {Q : VK} {E : XK} (h : S0 φ vs H Q E) : vs.length = 0 := by
  match vs, h with
  | [], _ => rfl
theorem S1.len {φ : V → Hp → VK → Prop} {vs : List V} {H : Hp} {Q : VK} {E : XK} (h : S1 φ vs H Q E) : vs.length = 1 := by
  match vs, h with
  | [_], _ => rfl
theorem S2.len {φ : V → V → Hp → VK → Prop} {vs : List V} {H : Hp} {Q : VK} {E : XK} (h : S2 φ vs H Q E) : vs.length = 2 := by
  match vs, h with
  | [_, _], _ => rfl
theorem S3.len {φ : V → V → V → Hp → VK → Prop} {vs : List V} {H : Hp} {Q : VK} {E : XK} (h : S3 φ vs H Q E) : vs.length = 3 := by
  match vs, h with
  | [_, _, _], _ => rfl
theorem S4.len {φ : V → V → V → V → Hp → VK → Prop} {vs : List V} {H : Hp} {Q : VK} {E : XK} (h : S4 φ vs H Q E) : vs.length = 4 := by
  match vs, h with
  | [_, _, _, _], _ => rfl
theorem S5.len {φ : V → V → V → V → V → Hp → VK → Prop} {vs : List V} {H : Hp} {Q : VK} {E : XK} (h : S5 φ vs H Q E) : vs.length = 5 := by
  match vs, h with
  | [_, _, _, _, _], _ => rfl
theorem S6.len {φ : V → V → V → V → V → V → Hp → VK → Prop} {vs : List V} {H : Hp} {Q : VK} {E : XK} (h : S6 φ vs H Q E) : vs.length = 6 := by
  match vs, h with
  | [_, _, _, _, _, _], _ => rfl
theorem S7.len {φ : V → V → V → V → V → V → V → Hp → VK → Prop} {vs : List V} {H : Hp} {Q : VK} {E : XK} (h : S7 φ vs H Q E) : vs.length = 7 := by
  match vs, h with
  | [_, _, _, _, _, _, _], _ => rfl

/-! ### a def as it stands, with its promise -/
structure DO (P : Program) (w : World) (K : PySem.W.Frag) (mg : Str → Option Value) (base : Heap) (k : Nat) (x : Str) (ps : List Str) (dvs : List V) (sp : Sp) : Prop where
  ex : ∃ (f : Addr) (fd : FuncData) (ds : List Value), FnOk P w K mg base CX0 k f fd ps sp ∧ mg x = some (.ref f) ∧ PySem.W.keepIn K (.ref f) = true ∧ Binds K fd ps ds ∧ Vals dvs ds
section
variable {X : Cx} {k j : Nat} {ps : List Str} {sp : Sp} {dvs : List V} {x : Str} {p pos : Pos} {e : Expr} {es : List Expr} {t : TA}
theorem pcall (D : DO X.prog X.w X.K X.mg X.base k x ps dvs sp) (hr : Room j X.A) (ha : PA X (e :: es) t) (hj : k ≤ j := by first | decide | exact Nat.le_refl _ | omega) (hg : Gl X x := by rfl) (hdb : (x == ("__debug__" : Str)) = false := by decide)
    (he : starEach (e :: es) X.env = (false, eval e X.env) :: starEach es X.env := by rfl) (hpl : (backTo pos (starEach es X.env)).any (·.1) = false := by rfl) :
    PE X (.Call (.Name x p) (e :: es) [] pos) (tCall sp dvs E0 t) := by
  obtain ⟨f, fd, ds, F, hm, hk, hb, hd⟩ := D.ex
  exact pe_call F (hr.mono hj) hg hm hk hb hd pass0 ha hdb he hpl
theorem pcall0 (D : DO X.prog X.w X.K X.mg X.base k x ps dvs sp) (hr : Room j X.A) (hj : k ≤ j := by first | decide | exact Nat.le_refl _ | omega) (hg : Gl X x := by rfl) (hdb : (x == ("__debug__" : Str)) = false := by decide) :
    PE X (.Call (.Name x p) [] [] pos) (tCall sp dvs E0 tNil) := by
  obtain ⟨f, fd, ds, F, hm, hk, hb, hd⟩ := D.ex
  exact pe_call0 F (hr.mono hj) hg hm hk hb hd pass0 hdb
end

theorem recDO {P : Program} {w : World} {K : PySem.W.Frag} {mg : Str → Option Value} {base : Heap} {x : Str} {f : Addr} {fd : FuncData} {ps : List Str} {φ : Nat → Sp} (h0 : ∀ vs H Q E, φ 0 vs H Q E → False) (hm : mg x = some (.ref f)) (hk : PySem.W.keepIn K (.ref f) = true) (hb : Binds K fd ps [])
    (hs : ∀ n, DO P w K mg base n x ps [] (φ n) → FnOk P w K mg base CX0 (n + 1) f fd ps (φ (n + 1))) : ∀ n, DO P w K mg base n x ps [] (φ n)
  | 0 => ⟨f, fd, [], ⟨fun vs H Q E h => (h0 vs H Q E h).elim, fun A outer s H args us vs Q E _ _ _ _ h => (h0 vs H Q E h).elim⟩, hm, hk, hb, .nil⟩
  | n + 1 => ⟨f, fd, [], hs n (recDO h0 hm hk hb hs n), hm, hk, hb, .nil⟩
/-! ### calls with keywords -/
/-- the parameters' values: by place (0), by a keyword's place (1), by a default's place (2) -/
def pick {α : Type} (d : α) (tp : List (Nat × Nat)) (vs zs ds : List α) : List α := tp.map fun p => if p.1 = 0 then vs.getD p.2 d else if p.1 = 1 then zs.getD p.2 d else ds.getD p.2 d
theorem vals_getD : ∀ {vs : List V} {us : List Value} (i : Nat), Vals vs us → RelV (vs.getD i .non) (us.getD i .none)
  | _, _, _, .nil => rfl
  | _, _, 0, .cons r _ => r
  | _, _, i + 1, .cons _ t => by
    show RelV ((_ :: _ : List V).getD (i + 1) .non) ((_ :: _ : List Value).getD (i + 1) .none)
    rw [List.getD_cons_succ, List.getD_cons_succ]
    exact vals_getD i t
theorem pick_rel {vs zs ds : List V} {us ws es : List Value} (r1 : Vals vs us) (r2 : Vals zs ws) (r3 : Vals ds es) : ∀ tp : List (Nat × Nat), Vals (pick .non tp vs zs ds) (pick .none tp us ws es)
  | [] => .nil
  | p :: tp => .cons (by
      show RelV (if p.1 = 0 then vs.getD p.2 .non else if p.1 = 1 then zs.getD p.2 .non else ds.getD p.2 .non) (if p.1 = 0 then us.getD p.2 .none else if p.1 = 1 then ws.getD p.2 .none else es.getD p.2 .none)
      by_cases h0 : p.1 = 0
      · rw [if_pos h0, if_pos h0]
        exact vals_getD _ r1
      · rw [if_neg h0, if_neg h0]
        by_cases h1 : p.1 = 1
        · rw [if_pos h1, if_pos h1]
          exact vals_getD _ r2
        · rw [if_neg h1, if_neg h1]
          exact vals_getD _ r3) (pick_rel r1 r2 r3 tp)
structure DK (P : Program) (w : World) (K : PySem.W.Frag) (mg : Str → Option Value) (base : Heap) (k : Nat) (x : Str) (ps : List Str) (n : Nat) (ks : List Str) (tp : List (Nat × Nat)) (dvs : List V) (sp : Sp) : Prop where
  ex : ∃ (f : Addr) (fd : FuncData) (ds : List Value), FnOk P w K mg base CX0 k f fd ps sp ∧ mg x = some (.ref f) ∧ PySem.W.keepIn K (.ref f) = true ∧ KBn K fd ps n ks (fun us ws => pick .none tp us ws ds) (fun vs zs => pick .non tp vs zs dvs)
theorem kbN {K : PySem.W.Frag} {x qual : Str} {params : Arguments} {body : List Stmt} {scope : Scope} {f : Addr} {fd : FuncData} {ps ks : List Str} {n : Nat} {tp : List (Nat × Nat)} (F : FunD K x qual params body scope [] [] f fd)
    (h : ∀ (kV doc pm : Value) (an : Option Addr) (cdv ct : Value) (us ws : List Value), us.length = n → ws.length = ks.length → bindArgs (PySem.W.fnOf x qual params body scope .none kV doc pm an cdv ct) ⟨us, ks.zip ws⟩ = pure (ps.zip (pick .none tp us ws []))) :
    KBn K fd ps n ks (fun us ws => pick .none tp us ws []) (fun vs zs => pick .non tp vs zs []) := by
  obtain ⟨oc, od, dV, kV, doc, pm, an, cdv, ct, osl, rfl, lk, hcd, hD, hK⟩ := F.ex
  rcases hD with ⟨_, rfl⟩ | ⟨e, _⟩
  · exact ⟨fun s us ws _ l1 l2 => .of_eq (h kV doc pm an cdv ct us ws l1 l2), fun r1 r2 => pick_rel r1 r2 .nil tp⟩
  · exact absurd rfl e
theorem kbD {K : PySem.W.Frag} {x qual : Str} {params : Arguments} {body : List Stmt} {scope : Scope} {dvs : List V} {f : Addr} {fd : FuncData} {ps ks : List Str} {n : Nat} {tp : List (Nat × Nat)} (F : FunD K x qual params body scope dvs [] f fd) (hd : dvs ≠ [])
    (h : ∀ (T : Addr) (kV doc pm : Value) (an : Option Addr) (cdv ct : Value) (us ws its : List Value), us.length = n → ws.length = ks.length → its.length = dvs.length →
      ∃ k, bindArgs (PySem.W.fnOf x qual params body scope (.ref T) kV doc pm an cdv ct) ⟨us, ks.zip ws⟩ = seqItems? (.ref T) >>= k ∧ k (some its.toArray) = pure (ps.zip (pick .none tp us ws its))) :
    ∃ its : List Value, KBn K fd ps n ks (fun us ws => pick .none tp us ws its) (fun vs zs => pick .non tp vs zs dvs) := by
  obtain ⟨oc, od, dV, kV, doc, pm, an, cdv, ct, osl, rfl, lk, hcd, hD, hK⟩ := F.ex
  rcases hD with ⟨e, _⟩ | ⟨_, T, o, its, m, rfl, lT, oT, rT⟩
  · exact absurd e hd
  · refine ⟨its, fun s us ws X l1 l2 => ?_, fun r1 r2 => pick_rel r1 r2 rT tp⟩
    obtain ⟨k, e1, e2⟩ := h T kV doc pm an cdv ct us ws its l1 l2 rT.length.symm
    refine BindsTo.of_looks fun M => ?_
    rw [e1]
    exact looks_items X lT oT (.of_pure e2)
section
variable {X : Cx} {k j n : Nat} {ps ks : List Str} {sp : Sp} {dvs : List V} {x : Str} {p pos : Pos} {e : Expr} {es : List Expr} {kws : List Keyword} {t tk : TA} {tp : List (Nat × Nat)}
theorem pcallK (D : DK X.prog X.w X.K X.mg X.base k x ps n ks tp dvs sp) (hr : Room j X.A) (ha : PA X (e :: es) t) (hkw : PK X kws tk) (hj : k ≤ j := by first | decide | exact Nat.le_refl _ | omega) (hg : Gl X x := by rfl)
    (hall : (backToKw pos (keywordEach kws X.env)).all (·.1.isSome) = true := by rfl) (hks : (backToKw pos (keywordEach kws X.env)).filterMap (·.1) = ks := by rfl)
    (hdb : (x == ("__debug__" : Str)) = false := by decide) (he : starEach (e :: es) X.env = (false, eval e X.env) :: starEach es X.env := by rfl)
    (hpl : ((backTo pos (starEach (e :: es) X.env)).any (·.1) || (backToKw pos (keywordEach kws X.env)).any (·.1.isNone)) = false := by rfl) :
    PE X (.Call (.Name x p) (e :: es) kws pos) (tCallN n ks.length sp (fun vs zs => pick .non tp vs zs dvs) E0 t tk) := by
  obtain ⟨f, fd, ds, F, hm, hk, hb⟩ := D.ex
  exact pe_callN F (hr.mono hj) hg hm hk hb pass0 ha hkw hall hks hdb he hpl
theorem pcallK0 (D : DK X.prog X.w X.K X.mg X.base k x ps 0 ks tp dvs sp) (hr : Room j X.A) (hkw : PK X kws tk) (hj : k ≤ j := by first | decide | exact Nat.le_refl _ | omega) (hg : Gl X x := by rfl)
    (hall : (backToKw pos (keywordEach kws X.env)).all (·.1.isSome) = true := by rfl) (hks : (backToKw pos (keywordEach kws X.env)).filterMap (·.1) = ks := by rfl)
    (hdb : (x == ("__debug__" : Str)) = false := by decide)
    (hpl : ((backTo pos (starEach [] X.env)).any (·.1) || (backToKw pos (keywordEach kws X.env)).any (·.1.isNone)) = false := by rfl) :
    PE X (.Call (.Name x p) [] kws pos) (tCallN 0 ks.length sp (fun vs zs => pick .non tp vs zs dvs) E0 tNil tk) := by
  obtain ⟨f, fd, ds, F, hm, hk, hb⟩ := D.ex
  refine ⟨fun pins s σ H Q I h => ?_⟩
  refine wpAny_Call_Name_kw (ld_glob I hg hm ?_ hdb)
  refine PySem.W.callWith_KW0 (h₀ := X.base) I.ok.mod.kin hk hall ?_ hpl
  refine thn (hkw.run pos pins s σ H _ I h) fun ws s2 ⟨zs, H2, I2, rz, l1, l2, q2⟩ => ⟨I2.kIn, ?_⟩
  rw [hks]
  exact run_fnN (us := []) (vs := []) F (hr.mono hj) hb pass0 I2 .nil rz l1 l2 q2
end
theorem pe_gint {X : Cx} {x : Str} {i : Int} {pos : Pos} (hg : Gl X x) (hm : ∃ t, X.mg x = some (.int i t)) (hd : (x == ("__debug__" : Str)) = false := by decide) : PE X (.Name x pos) (tC (.int i)) := by
  obtain ⟨t, h⟩ := hm
  exact pe_glob hg h ⟨_, rfl⟩ hd

/-! ### rules with the written part by its own name -/
section
variable {X : Cx} {K : PySem.W.Frag}
theorem ixL (h : X.K = K := by rfl) : IxR X (rIxL K) := by subst h; exact ix_list
theorem ixT (h : X.K = K := by rfl) : IxR X (rIxT K) := by subst h; exact ix_tup
theorem ixQ (h : X.K = K := by rfl) : IxR X (rIx K) := by subst h; exact ix_seq
theorem slL (h : X.K = K := by rfl) : SlR X (rSlL K) := by subst h; exact sl_list
theorem slT (h : X.K = K := by rfl) : SlR X (rSlT K) := by subst h; exact sl_tup
theorem opEqD (A : X.A.units + 64 < cLine) (h : X.K = K := by rfl) : OpR X (compareOp .Eq) (rEqD K) := by subst h; exact op_eqD A
theorem opNeD (A : X.A.units + 64 < cLine) (h : X.K = K := by rfl) : OpR X (compareOp .NotEq) (rNeD K) := by subst h; exact op_neD A
theorem opIn (h : X.K = K := by rfl) : OpR X (compareOp .In) (rIn K false) := by subst h; exact op_in_seq
theorem opNotIn (h : X.K = K := by rfl) : OpR X (compareOp .NotIn) (rIn K true) := by subst h; exact op_notIn_seq
def rLen (K : PySem.W.Frag) : List V → Hp → VK → Prop := fun xs H Q => ∃ x n, xs = [x] ∧ LenV K x H n ∧ Q (.int n) H
def rLenQ (K : PySem.W.Frag) : List V → Hp → VK → Prop := fun xs H Q => ∃ p ys, xs = [.ref p] ∧ (SqL K H p ys ∨ SqT K H p ys) ∧ Q (.int ys.length) H
def rListOf (K : PySem.W.Frag) : List V → Hp → VK → Prop := fun xs H Q => ∃ p ys, xs = [.ref p] ∧ (SqL K H p ys ∨ SqT K H p ys) ∧ ∀ l, H l = none → Q (.ref l) (upd H l (.lst ys))
def rLenS : List V → Hp → VK → Prop := fun xs H Q => ∃ z, xs = [.str z] ∧ z.length ≤ sizeLine ∧ Q (.int z.length) H
def rInt1 : List V → Hp → VK → Prop := fun xs H Q => (∃ i, xs = [.int i] ∧ Q (.int i) H) ∨ ∃ k, xs = [.bl k] ∧ Q (.int (if k then 1 else 0)) H
def rAbs : List V → Hp → VK → Prop := fun xs H Q => ∃ i, xs = [.int i] ∧ Q (.int (if i < 0 then -i else i)) H
def rMin2 : List V → Hp → VK → Prop := fun xs H Q => ∃ i j, xs = [.int i, .int j] ∧ Q (.int (if j < i then j else i)) H
def rMax2 : List V → Hp → VK → Prop := fun xs H Q => ∃ i j, xs = [.int i, .int j] ∧ Q (.int (if j > i then j else i)) H
def rStrI : List V → Hp → VK → Prop := fun xs H Q => ∃ n, xs = [.int n] ∧ n.natAbs.log2 < 1920 ∧ Q (.str (toString n)) H
theorem clLen (h : X.K = K := by rfl) : CallR X (.builtin "len") (rLen K) := by subst h; exact call_len
theorem clLenQ (h : X.K = K := by rfl) : CallR X (.builtin "len") (rLenQ K) := by subst h; exact call_len_seq
theorem clLenS : CallR X (.builtin "len") rLenS := call_len_str
theorem clListOf (h : X.K = K := by rfl) : CallR X (.type "list") (rListOf K) := by subst h; exact call_list_of
theorem clInt1 : CallR X (.type "int") rInt1 := call_int1
theorem clAbs : CallR X (.builtin "abs") rAbs := call_abs
theorem clMin2 (hc : X.calm = true := by rfl) : CallR X (.builtin "min") rMin2 := call_min2 hc
theorem clMax2 (hc : X.calm = true := by rfl) : CallR X (.builtin "max") rMax2 := call_max2 hc
theorem clSum (hc : X.calm = true := by rfl) (h : X.K = K := by rfl) : CallR X (.builtin "sum") (rSum K) := by subst h; exact cr_sum hc
theorem clAll (hc : X.calm = true := by rfl) (h : X.K = K := by rfl) : CallR X (.builtin "all") (rAll K) := by subst h; exact cr_all hc
theorem clAny (hc : X.calm = true := by rfl) (h : X.K = K := by rfl) : CallR X (.builtin "any") (rAny K) := by subst h; exact cr_any hc
theorem clMax (hc : X.calm = true := by rfl) (h : X.K = K := by rfl) : CallR X (.builtin "max") (rMax K) := by subst h; exact cr_max hc
theorem clMin (hc : X.calm = true := by rfl) (h : X.K = K := by rfl) : CallR X (.builtin "min") (rMin K) := by subst h; exact cr_min hc
theorem clIsi (h : X.K = K := by rfl) : CallR X (.builtin "isinstance") (rIsi K) := by subst h; exact call_isi
theorem clIsiT (h : X.K = K := by rfl) : CallR X (.builtin "isinstance") (rIsiT K) := by subst h; exact call_isiT
def tTruth (K : PySem.W.Frag) (ta : TE) : TT := fun σ H Q => ta σ H fun x H' => ∃ k, TruV K x H' k ∧ Q k H'
theorem ptTruth {a : Expr} {ta : TE} (ha : PE X a ta) (h : X.K = K := by rfl) (hs : ∀ whole, isTrue a X.env whole = (do let v ← whole; standAt a.pos; holding [v] (truthy v)) := by intro _; rfl) : PT X a (tTruth K ta) := by
  subst h
  exact pt_truth ha hs
variable {o e : Expr} {es : List Expr} {to te : TE} {t : TA} {name : Str} {apos cpos : Pos} {T id : String} {r : V → List V → Hp → VK → Prop}
theorem peBM0 (pa : PlainAttrs T) (slot : Slot T name id) (hty : typeOf (.builtin id) = pure (.type "method_descriptor")) (hm : MtR X id r) (ho : PE X o to) (h : X.K = K := by rfl)
    (hbase : attributeBase o name X.env (eval o X.env) = eval o X.env := by rfl) (hline : (apos.endLine == cpos.line) = true := by rfl) : PE X (.Call (.Attribute o name apos) [] [] cpos) (tBM0 K T r to) := by
  subst h
  exact pe_bm0 pa slot hty hm ho hbase hline
theorem peBM (pa : PlainAttrs T) (slot : Slot T name id) (hty : typeOf (.builtin id) = pure (.type "method_descriptor")) (hm : MtR X id r) (ho : PE X o to) (ha : PA X (e :: es) t) (h : X.K = K := by rfl)
    (hbase : attributeBase o name X.env (eval o X.env) = eval o X.env := by rfl)
    (hfew : ((backTo cpos (starEach (e :: es) X.env)).all (fun x => !x.1) && (backToKw cpos (keywordEach [] X.env)).all (fun x => x.1.isSome)
      && decide ((e :: es).length + ([] : List Keyword).length + (if ([] : List Keyword).isEmpty then 0 else 1) < 30)) = true := by rfl)
    (hline : (apos.endLine == cpos.line) = true := by rfl) (hs : starEach (e :: es) X.env = (false, eval e X.env) :: starEach es X.env := by rfl) (hplain : (backTo cpos (starEach es X.env)).any (·.1) = false := by rfl) :
    PE X (.Call (.Attribute o name apos) (e :: es) [] cpos) (tBM K T r to t) := by
  subst h
  exact pe_bm pa slot hty hm ho ha hbase hfew hline hs hplain
def rJoin (K : PySem.W.Frag) : V → List V → Hp → VK → Prop := fun x xs H Q => ∃ a p, ∃ ys : List Str, x = .str a ∧ xs = [.ref p] ∧ (SqL K H p (ys.map V.str) ∨ SqT K H p (ys.map V.str)) ∧
      (ys.map (·.length)).sum + ys.length * a.length ≤ 16777216 ∧ Q (.str (Txt.join a ys)) H
theorem peJoin (ho : PE X o to) (he : PE X e te) (h : X.K = K := by rfl) (hs : starEach [e] X.env = [(false, eval e X.env)] := by rfl) (hbase : attributeBase o "join" X.env (eval o X.env) = eval o X.env := by rfl) (hline : (apos.endLine == cpos.line) = true := by rfl) :
    PE X (.Call (.Attribute o "join" apos) [e] [] cpos) (tM1 (rJoin K) to te) := by
  subst h
  exact pe_join ho he hs hbase hline
theorem peFld {f : Str} {pos : Pos} (he : PE X o to) (h : X.K = K := by rfl) (hb : attributeBase o f X.env (eval o X.env) = eval o X.env := by rfl) : PE X (.Attribute o f pos) (tFld K to f) := by
  subst h
  exact pe_fld he hb
end

/-! ### steps of a reading -/
section
variable {K : PySem.W.Frag} {σ : L2.St} {H : Hp} {Q : VK} {ta tb te : TE} {x y v : V} {nx bk ct : L2.St → Hp → Prop} {rt : VK}
-- slots
section
variable {a0 a1 a2 a3 a4 a5 a6 a7 a8 a9 a10 a11 a12 a13 : Option V} {r : L2.St}
theorem w_v0 (q : Q v H) : tVar 0 (some v :: r) H Q := ⟨v, rfl, q⟩
theorem w_v1 (q : Q v H) : tVar 1 (a0 :: some v :: r) H Q := ⟨v, rfl, q⟩
theorem w_v2 (q : Q v H) : tVar 2 (a0 :: a1 :: some v :: r) H Q := ⟨v, rfl, q⟩
theorem w_v3 (q : Q v H) : tVar 3 (a0 :: a1 :: a2 :: some v :: r) H Q := ⟨v, rfl, q⟩
theorem w_v4 (q : Q v H) : tVar 4 (a0 :: a1 :: a2 :: a3 :: some v :: r) H Q := ⟨v, rfl, q⟩
theorem w_v5 (q : Q v H) : tVar 5 (a0 :: a1 :: a2 :: a3 :: a4 :: some v :: r) H Q := ⟨v, rfl, q⟩
theorem w_v6 (q : Q v H) : tVar 6 (a0 :: a1 :: a2 :: a3 :: a4 :: a5 :: some v :: r) H Q := ⟨v, rfl, q⟩
theorem w_v7 (q : Q v H) : tVar 7 (a0 :: a1 :: a2 :: a3 :: a4 :: a5 :: a6 :: some v :: r) H Q := ⟨v, rfl, q⟩
theorem w_v8 (q : Q v H) : tVar 8 (a0 :: a1 :: a2 :: a3 :: a4 :: a5 :: a6 :: a7 :: some v :: r) H Q := ⟨v, rfl, q⟩
theorem w_v9 (q : Q v H) : tVar 9 (a0 :: a1 :: a2 :: a3 :: a4 :: a5 :: a6 :: a7 :: a8 :: some v :: r) H Q := ⟨v, rfl, q⟩
theorem w_v10 (q : Q v H) : tVar 10 (a0 :: a1 :: a2 :: a3 :: a4 :: a5 :: a6 :: a7 :: a8 :: a9 :: some v :: r) H Q := ⟨v, rfl, q⟩
theorem w_v11 (q : Q v H) : tVar 11 (a0 :: a1 :: a2 :: a3 :: a4 :: a5 :: a6 :: a7 :: a8 :: a9 :: a10 :: some v :: r) H Q := ⟨v, rfl, q⟩
theorem w_v12 (q : Q v H) : tVar 12 (a0 :: a1 :: a2 :: a3 :: a4 :: a5 :: a6 :: a7 :: a8 :: a9 :: a10 :: a11 :: some v :: r) H Q := ⟨v, rfl, q⟩
theorem w_v13 (q : Q v H) : tVar 13 (a0 :: a1 :: a2 :: a3 :: a4 :: a5 :: a6 :: a7 :: a8 :: a9 :: a10 :: a11 :: a12 :: some v :: r) H Q := ⟨v, rfl, q⟩
variable {N : L2.St → Hp → Prop}
theorem w_n0 (q : N (some v :: r) H) : gName 0 v (a0 :: r) H N := q
theorem w_n1 (q : N (a0 :: some v :: r) H) : gName 1 v (a0 :: a1 :: r) H N := q
theorem w_n2 (q : N (a0 :: a1 :: some v :: r) H) : gName 2 v (a0 :: a1 :: a2 :: r) H N := q
theorem w_n3 (q : N (a0 :: a1 :: a2 :: some v :: r) H) : gName 3 v (a0 :: a1 :: a2 :: a3 :: r) H N := q
theorem w_n4 (q : N (a0 :: a1 :: a2 :: a3 :: some v :: r) H) : gName 4 v (a0 :: a1 :: a2 :: a3 :: a4 :: r) H N := q
theorem w_n5 (q : N (a0 :: a1 :: a2 :: a3 :: a4 :: some v :: r) H) : gName 5 v (a0 :: a1 :: a2 :: a3 :: a4 :: a5 :: r) H N := q
theorem w_n6 (q : N (a0 :: a1 :: a2 :: a3 :: a4 :: a5 :: some v :: r) H) : gName 6 v (a0 :: a1 :: a2 :: a3 :: a4 :: a5 :: a6 :: r) H N := q
theorem w_n7 (q : N (a0 :: a1 :: a2 :: a3 :: a4 :: a5 :: a6 :: some v :: r) H) : gName 7 v (a0 :: a1 :: a2 :: a3 :: a4 :: a5 :: a6 :: a7 :: r) H N := q
theorem w_n8 (q : N (a0 :: a1 :: a2 :: a3 :: a4 :: a5 :: a6 :: a7 :: some v :: r) H) : gName 8 v (a0 :: a1 :: a2 :: a3 :: a4 :: a5 :: a6 :: a7 :: a8 :: r) H N := q
theorem w_n9 (q : N (a0 :: a1 :: a2 :: a3 :: a4 :: a5 :: a6 :: a7 :: a8 :: some v :: r) H) : gName 9 v (a0 :: a1 :: a2 :: a3 :: a4 :: a5 :: a6 :: a7 :: a8 :: a9 :: r) H N := q
theorem w_n10 (q : N (a0 :: a1 :: a2 :: a3 :: a4 :: a5 :: a6 :: a7 :: a8 :: a9 :: some v :: r) H) : gName 10 v (a0 :: a1 :: a2 :: a3 :: a4 :: a5 :: a6 :: a7 :: a8 :: a9 :: a10 :: r) H N := q
theorem w_n11 (q : N (a0 :: a1 :: a2 :: a3 :: a4 :: a5 :: a6 :: a7 :: a8 :: a9 :: a10 :: some v :: r) H) : gName 11 v (a0 :: a1 :: a2 :: a3 :: a4 :: a5 :: a6 :: a7 :: a8 :: a9 :: a10 :: a11 :: r) H N := q
theorem w_n12 (q : N (a0 :: a1 :: a2 :: a3 :: a4 :: a5 :: a6 :: a7 :: a8 :: a9 :: a10 :: a11 :: some v :: r) H) : gName 12 v (a0 :: a1 :: a2 :: a3 :: a4 :: a5 :: a6 :: a7 :: a8 :: a9 :: a10 :: a11 :: a12 :: r) H N := q
theorem w_n13 (q : N (a0 :: a1 :: a2 :: a3 :: a4 :: a5 :: a6 :: a7 :: a8 :: a9 :: a10 :: a11 :: a12 :: some v :: r) H) : gName 13 v (a0 :: a1 :: a2 :: a3 :: a4 :: a5 :: a6 :: a7 :: a8 :: a9 :: a10 :: a11 :: a12 :: a13 :: r) H N := q
end
-- expressions
theorem w_c (q : Q v H) : tC v σ H Q := q
theorem w_op {r : R2} (q : ta σ H fun x H1 => tb σ H1 fun y H2 => r x y H2 Q) : tOp r ta tb σ H Q := q
theorem w_un {r : V → Hp → VK → Prop} (q : ta σ H fun x H1 => r x H1 Q) : tUn r ta σ H Q := q
theorem w_add {i j : Int} (q : Q (.int (i + j)) H) : rI0 (fun i j => V.int (i + j)) (.int i) (.int j) H Q := ⟨i, j, rfl, rfl, q⟩
theorem w_subt {i j : Int} (q : Q (.int (i - j)) H) : rI0 (fun i j => V.int (i - j)) (.int i) (.int j) H Q := ⟨i, j, rfl, rfl, q⟩
theorem w_lt {i j : Int} (q : Q (.bl (decide (i < j))) H) : rI0 (fun i j => V.bl (decide (i < j))) (.int i) (.int j) H Q := ⟨i, j, rfl, rfl, q⟩
theorem w_le {i j : Int} (q : Q (.bl (decide (i ≤ j))) H) : rI0 (fun i j => V.bl (decide (i ≤ j))) (.int i) (.int j) H Q := ⟨i, j, rfl, rfl, q⟩
theorem w_gt {i j : Int} (q : Q (.bl (decide (j < i))) H) : rI0 (fun i j => V.bl (decide (j < i))) (.int i) (.int j) H Q := ⟨i, j, rfl, rfl, q⟩
theorem w_ge {i j : Int} (q : Q (.bl (decide (j ≤ i))) H) : rI0 (fun i j => V.bl (decide (j ≤ i))) (.int i) (.int j) H Q := ⟨i, j, rfl, rfl, q⟩
theorem w_I0 {g : Int → Int → V} {i j : Int} (q : Q (g i j) H) : rI0 g (.int i) (.int j) H Q := ⟨i, j, rfl, rfl, q⟩
theorem w_mul {i j : Int} (c : CMul i j) (q : Q (.int (i * j)) H) : rI CMul (fun i j => V.int (i * j)) (.int i) (.int j) H Q := ⟨i, j, rfl, rfl, c, q⟩
theorem w_mod {i j : Int} (c : 0 < j) (q : Q (.int (i % j)) H) : rI (fun _ j => 0 < j) (fun i j => V.int (i % j)) (.int i) (.int j) H Q := ⟨i, j, rfl, rfl, c, q⟩
theorem w_fdiv {i j : Int} (c : CDivW i j) (q : Q (.int (i / j)) H) : rI CDivW (fun i j => V.int (i / j)) (.int i) (.int j) H Q := ⟨i, j, rfl, rfl, c, q⟩
theorem w_pow {i j : Int} (c : CPow i j) (q : Q (.int (i ^ j.toNat)) H) : rI CPow (fun i j => V.int (i ^ j.toNat)) (.int i) (.int j) H Q := ⟨i, j, rfl, rfl, c, q⟩
theorem w_I {C : Int → Int → Prop} {g : Int → Int → V} {i j : Int} (c : C i j) (q : Q (g i j) H) : rI C g (.int i) (.int j) H Q := ⟨i, j, rfl, rfl, c, q⟩
theorem w_neg {i : Int} (q : Q (.int (-i)) H) : rU (fun i => V.int (-i)) (.int i) H Q := ⟨i, rfl, q⟩
def asInt (x : V) (H : Hp) (Z : Int → Hp → Prop) : Prop := ∃ i, x = .int i ∧ Z i H
def asBl (x : V) (H : Hp) (T : Bool → Hp → Prop) : Prop := ∃ k, x = .bl k ∧ T k H
theorem w_asInt {i : Int} {Z : Int → Hp → Prop} (q : Z i H) : asInt (.int i) H Z := ⟨i, rfl, q⟩
theorem w_asBl {b : Bool} {T : Bool → Hp → Prop} (q : T b H) : asBl (.bl b) H T := ⟨b, rfl, q⟩
theorem w_bits {to : TE} (q : to σ H fun x H1 => asInt x H1 fun i H2 => Q (.int (Builtin.Int.intBits i : Nat)) H2) : tBits to σ H Q := q
theorem w_adds {a b : Str} (h : a.length + b.length ≤ sizeLine) (q : Q (.str (a ++ b)) H) : ∃ i j, V.str a = .str i ∧ V.str b = .str j ∧ i.length + j.length ≤ sizeLine ∧ Q (.str (i ++ j)) H := ⟨a, b, rfl, rfl, h, q⟩
theorem w_eqI {i j : Int} (q : Q (.bl (decide (i = j))) H) : rEq (.int i) (.int j) H Q := ⟨rfl, by
  have e : decide (V.int i = V.int j) = decide (i = j) := by
    by_cases h : i = j
    · subst h; simp
    · rw [decide_eq_false h, decide_eq_false fun z => h (V.int.inj z)]
  rw [e]
  exact q⟩
theorem w_neI {i j : Int} (q : Q (.bl (!decide (i = j))) H) : rNe (.int i) (.int j) H Q := ⟨rfl, by
  have e : decide (V.int i = V.int j) = decide (i = j) := by
    by_cases h : i = j
    · subst h; simp
    · rw [decide_eq_false h, decide_eq_false fun z => h (V.int.inj z)]
  rw [e]
  exact q⟩
theorem w_eqS {a b : Str} (q : Q (.bl (decide (a = b))) H) : rEq (.str a) (.str b) H Q := ⟨rfl, by
  have e : decide (V.str a = V.str b) = decide (a = b) := by
    by_cases h : a = b
    · subst h; simp
    · rw [decide_eq_false h, decide_eq_false fun z => h (V.str.inj z)]
  rw [e]
  exact q⟩
theorem w_neS {a b : Str} (q : Q (.bl (!decide (a = b))) H) : rNe (.str a) (.str b) H Q := ⟨rfl, by
  have e : decide (V.str a = V.str b) = decide (a = b) := by
    by_cases h : a = b
    · subst h; simp
    · rw [decide_eq_false h, decide_eq_false fun z => h (V.str.inj z)]
  rw [e]
  exact q⟩
theorem w_eqB {a b : Bool} (q : Q (.bl (decide (a = b))) H) : rEq (.bl a) (.bl b) H Q := ⟨rfl, by
  have e : decide (V.bl a = V.bl b) = decide (a = b) := by
    by_cases h : a = b
    · subst h; simp
    · rw [decide_eq_false h, decide_eq_false fun z => h (V.bl.inj z)]
  rw [e]
  exact q⟩
theorem w_neB {a b : Bool} (q : Q (.bl (!decide (a = b))) H) : rNe (.bl a) (.bl b) H Q := ⟨rfl, by
  have e : decide (V.bl a = V.bl b) = decide (a = b) := by
    by_cases h : a = b
    · subst h; simp
    · rw [decide_eq_false h, decide_eq_false fun z => h (V.bl.inj z)]
  rw [e]
  exact q⟩
theorem w_isN (q : ta σ H fun x H1 => Q (.bl (decide (x = .non))) H1) : tIsN ta σ H Q := q
theorem w_notN (q : ta σ H fun x H1 => Q (.bl (!decide (x = .non))) H1) : tNotN ta σ H Q := q
-- tests
section
variable {T : Bool → Hp → Prop} {t u : TT}
theorem w_test (q : te σ H fun x H1 => asBl x H1 T) : tTest te σ H T := q
theorem w_tB (q : te σ H fun x H1 => asBl x H1 T) : tB te σ H T := q
theorem w_and (q : t σ H fun c H1 => if c = true then u σ H1 T else T false H1) : tAnd t u σ H T := q
theorem w_or (q : t σ H fun c H1 => if c = true then T true H1 else u σ H1 T) : tOr t u σ H T := q
theorem w_not (q : t σ H fun c H1 => T (!c) H1) : tNot t σ H T := q
theorem w_yes (q : T true H) : tYes σ H T := q
theorem w_if (q : t σ H fun c H1 => if c = true then ta σ H1 Q else tb σ H1 Q) : tIf t ta tb σ H Q := q
theorem w_truth (q : ta σ H fun x H' => ∃ k, TruV K x H' k ∧ T k H') : tTruth K ta σ H T := q
end
theorem w_andV (q : ta σ H fun x H1 => asBl x H1 fun c H2 => if c = true then tb σ H2 Q else Q (.bl false) H2) : tAndV ta tb σ H Q := q
theorem w_orV (q : ta σ H fun x H1 => asBl x H1 fun c H2 => if c = true then Q (.bl true) H2 else tb σ H2 Q) : tOrV ta tb σ H Q := q
theorem w_notV (q : ta σ H fun x H1 => asBl x H1 fun c H2 => Q (.bl (!c)) H2) : tNotV ta σ H Q := q
-- arguments
theorem w_nil {L : List V → Hp → Prop} (q : L [] H) : tNil σ H L := q
theorem w_cons {tr : TA} {L : List V → Hp → Prop} (q : ta σ H fun x H1 => tr σ H1 fun xs H2 => L (x :: xs) H2) : tCons ta tr σ H L := q
theorem w_call {sp : Sp} {dvs : List V} {E : XK} {t : TA} (q : t σ H fun vs H1 => sp (vs ++ dvs) H1 Q E) : tCall sp dvs E t σ H Q := q
theorem w_callN {n m : Nat} {sp : Sp} {gV : List V → List V → List V} {E : XK} {t tk : TA} (q : t σ H fun vs H1 => tk σ H1 fun zs H2 => vs.length = n ∧ zs.length = m ∧ sp (gV vs zs) H2 Q E) : tCallN n m sp gV E t tk σ H Q := q
theorem w_CB {r : List V → Hp → VK → Prop} {t : TA} (q : t σ H fun vs H1 => r vs H1 Q) : tCB r t σ H Q := q
theorem w_tup {t : TA} (q : t σ H fun xs H1 => xs.length ≤ sizeLine ∧ ∀ p, H1 p = none → Q (.ref p) (upd H1 p (.tup xs))) : tTup t σ H Q := q
theorem w_lst {t : TA} (q : t σ H fun xs H1 => xs.length ≤ sizeLine ∧ ∀ p, H1 p = none → Q (.ref p) (upd H1 p (.lst xs))) : tLst t σ H Q := q
theorem w_sl {r : V → Option Int → Option Int → Hp → VK → Prop} {tl th : TO} (q : te σ H fun x H1 => tl σ H1 fun l H2 => th σ H2 fun u H3 => r x l u H3 Q) : tSl r te tl th σ H Q := q
theorem w_nop {Z : Option Int → Hp → Prop} (q : Z none H) : tNoPart σ H Z := q
theorem w_part {Z : Option Int → Hp → Prop} (q : te σ H fun x H1 => asInt x H1 fun i H2 => Z (some i) H2) : tPart te σ H Z := q
theorem w_BM0 {T : String} {r : V → List V → Hp → VK → Prop} (q : ta σ H fun x H1 => tyV K T x H1 ∧ r x [] H1 Q) : tBM0 K T r ta σ H Q := q
theorem w_BM {T : String} {r : V → List V → Hp → VK → Prop} {t : TA} (q : ta σ H fun x H1 => tyV K T x H1 ∧ t σ H1 fun xs H2 => r x xs H2 Q) : tBM K T r ta t σ H Q := q
def asStr (x : V) (P : Prop) : Prop := (∃ a, x = .str a) ∧ P
theorem w_M0 {r : V → List V → Hp → VK → Prop} (q : ta σ H fun x H1 => asStr x (r x [] H1 Q)) : tM0 r ta σ H Q := q
theorem w_M1 {r : V → List V → Hp → VK → Prop} (q : ta σ H fun x H1 => asStr x (te σ H1 fun y H2 => r x [y] H2 Q)) : tM1 r ta te σ H Q := q
theorem w_asStr {a : Str} {P : Prop} (q : P) : asStr (.str a) P := ⟨⟨a, rfl⟩, q⟩
theorem w_sub {to ti : TE} {t : TSet} {Z : L2.St → Hp → Prop} (q : to σ H fun o H1 => ti σ H1 fun i H2 => t o i v H2 fun H3 => Z σ H3) : gSub to ti t v σ H Z := q
-- statements
section
variable {t u tbody : TS} {c : TT} {g : TG}
theorem w_seq (q : t ⟨u ⟨nx, rt, bk, ct⟩, rt, bk, ct⟩ σ H) : tSeq t u ⟨nx, rt, bk, ct⟩ σ H := q
theorem w_cut (Mid : L2.St → Hp → Prop) (h1 : t ⟨Mid, rt, bk, ct⟩ σ H) (h2 : ∀ σ' H', Mid σ' H' → u ⟨nx, rt, bk, ct⟩ σ' H') : C8.tCut t u ⟨nx, rt, bk, ct⟩ σ H := ⟨Mid, h1, h2⟩
theorem w_asg (q : te σ H fun x H1 => g x σ H1 nx) : tAsg te g ⟨nx, rt, bk, ct⟩ σ H := q
theorem w_ret (q : te σ H rt) : tRet te ⟨nx, rt, bk, ct⟩ σ H := q
theorem w_retN (q : rt .non H) : tRetN ⟨nx, rt, bk, ct⟩ σ H := q
theorem w_drop (q : te σ H fun _ H1 => nx σ H1) : tDrop te ⟨nx, rt, bk, ct⟩ σ H := q
theorem w_ifS (q : c σ H fun b H1 => if b = true then t ⟨nx, rt, bk, ct⟩ σ H1 else u ⟨nx, rt, bk, ct⟩ σ H1) : tIfS c t u ⟨nx, rt, bk, ct⟩ σ H := q
theorem w_nx (q : nx σ H) : tNext ⟨nx, rt, bk, ct⟩ σ H := q
theorem w_cont (q : ct σ H) : tCont ⟨nx, rt, bk, ct⟩ σ H := q
theorem w_brk (q : bk σ H) : tBreak ⟨nx, rt, bk, ct⟩ σ H := q
theorem w_aug {i : Nat} {ti : TIp} (h : σ[i]? = some (some x)) (q : te σ H fun y H1 => ti x y H1 fun z H2 => nx (σ.set i (some z)) H2) : tAug i te ti ⟨nx, rt, bk, ct⟩ σ H := ⟨x, h, q⟩
theorem w_tgt {n : Nat} {ts : TGs} {Z : L2.St → Hp → Prop} {a : Addr} (xs : List V) (h : SqT K H a xs) (hn : xs.length = n) (q : ts xs σ H Z) : gTup K n ts (.ref a) σ H Z := ⟨a, xs, rfl, h, hn, q⟩
theorem w_gc {ts : TGs} {xs : List V} {Z : L2.St → Hp → Prop} (q : g v σ H fun σ' H' => ts xs σ' H' Z) : gCons g ts (v :: xs) σ H Z := ⟨v, xs, rfl, q⟩
theorem w_gn {Z : L2.St → Hp → Prop} (q : Z σ H) : gNil [] σ H Z := ⟨rfl, q⟩
/-- a while, by what holds and a number that falls -/
theorem w_while (W : Nat → L2.St → Hp → Prop) {m0 : Nat} (h0 : W m0 σ H)
    (hs : ∀ m σ H, W m σ H → c σ H fun b H1 => if b = true then ∃ N : L2.St → Hp → Prop, (∀ σ' H', N σ' H' → ∃ m', m' < m ∧ W m' σ' H') ∧ tbody ⟨N, rt, nx, N⟩ σ H1 else nx σ H1) : tWhile c tbody ⟨nx, rt, bk, ct⟩ σ H := ⟨W, ⟨m0, h0⟩, hs⟩
theorem w_turn {W : Nat → L2.St → Hp → Prop} {m : Nat} (h : tbody ⟨fun σ' H' => ∃ m', m' < m ∧ W m' σ' H', rt, nx, fun σ' H' => ∃ m', m' < m ∧ W m' σ' H'⟩ σ H) :
    ∃ N : L2.St → Hp → Prop, (∀ σ' H', N σ' H' → ∃ m', m' < m ∧ W m' σ' H') ∧ tbody ⟨N, rt, nx, N⟩ σ H := ⟨_, fun _ _ h => h, h⟩
/-- for k in range(n), range(a, b) -/
theorem w_for {wi : TI} (q : wi σ H fun J H1 => ∃ W : Nat → Nat → L2.St → Hp → Prop, (∃ m, W 0 m σ H1) ∧ ∀ i m σ H, W i m σ H →
      (J.stop i H ∧ nx σ H) ∨ (J.go i H ∧ ∃ N : L2.St → Hp → Prop, (∀ σ' H', N σ' H' → ∃ m', m' < m ∧ W (i + 1) m' σ' H') ∧ ∀ x H', J.yld i H x H' → g x σ H' fun σ2 H2 => tbody ⟨N, rt, nx, N⟩ σ2 H2)) : tFor wi g tbody ⟨nx, rt, bk, ct⟩ σ H := q
end
theorem w_rng1 {t : TA} {R : It → Hp → Prop} (q : t σ H fun vs H1 => ∃ j : Int, vs = [.int j] ∧ -(2 ^ 62) ≤ j ∧ j < 2 ^ 62 ∧ R (Itr 0 j.toNat) H1) : iRng1 t σ H R := q
theorem w_rng2 {t : TA} {R : It → Hp → Prop} (q : t σ H fun vs H1 => ∃ i j : Int, vs = [.int i, .int j] ∧ (-(2 ^ 62) ≤ i ∧ i < 2 ^ 62 ∧ -(2 ^ 62) ≤ j ∧ j < 2 ^ 62) ∧ R (Itr i (j - i).toNat) H1) : iRng2 t σ H R := q
theorem w_ilist {R : It → Hp → Prop} (q : te σ H fun x H1 => ∃ a, x = .ref a ∧ (∃ xs, SqL K H1 a xs) ∧ R (Itl K a) H1) : iList K te σ H R := q
theorem w_itup {R : It → Hp → Prop} (q : te σ H fun x H1 => ∃ a, x = .ref a ∧ (∃ xs, SqT K H1 a xs) ∧ R (Itt K a) H1) : iTup K te σ H R := q
theorem w_istr {R : It → Hp → Prop} (q : te σ H fun v H1 => ∃ x, v = .str x ∧ R (Its x) H1) : iStr te σ H R := q
theorem w_lc {wi : TI} {g : TG} {tt : TT} {vs : List Nat} (q : wi σ H fun J H1 => ∀ D, H1 D = none → ∃ W : Nat → Nat → Hp → Prop, (∃ m, W 0 m (upd H1 D (.lst []))) ∧ ∀ i m H, W i m H →
    (J.stop i H ∧ Q (.ref D) H) ∨ (J.go i H ∧ ∃ Nx : Hp → Prop, (∀ H', Nx H' → ∃ m', m' < m ∧ W (i + 1) m' H') ∧ ∀ x H', J.yld i H x H' → g x (wipe σ vs) H' fun σ2 H2 => wipe σ2 vs = wipe σ vs ∧ tt σ2 H2 fun b H3 =>
      if b = true then te σ2 H3 fun y H4 => ∃ acc, H4 D = some (.lst acc) ∧ acc.length < sizeLine ∧ Nx (upd H4 D (.lst (acc ++ [y]))) else Nx H3)) : tLc wi g tt te vs σ H Q := q
/-- a test that is open -/
theorem w_ite {p : Prop} [Decidable p] {A B : Prop} (h1 : p → A) (h2 : ¬ p → B) : if decide p = true then A else B := by
  by_cases h : p
  · rw [if_pos (decide_eq_true h)]
    exact h1 h
  · rw [if_neg (by simpa using h)]
    exact h2 h
theorem w_iteN {p : Prop} [Decidable p] {A B : Prop} (h1 : ¬ p → A) (h2 : p → B) : if (!decide p) = true then A else B := by
  by_cases h : p
  · rw [if_neg (by simpa using h)]
    exact h2 h
  · rw [if_pos (by simpa using h)]
    exact h1 h
theorem w_iteb {b : Bool} {A B : Prop} (h1 : b = true → A) (h2 : b = false → B) : if b = true then A else B := by
  cases b with
  | true => rw [if_pos rfl]; exact h1 rfl
  | false => rw [if_neg Bool.false_ne_true]; exact h2 rfl
theorem w_itebN {b : Bool} {A B : Prop} (h1 : b = false → A) (h2 : b = true → B) : if (!b) = true then A else B := by
  cases b with
  | false => rw [if_pos (by rfl)]; exact h1 rfl
  | true => rw [if_neg (by decide)]; exact h2 rfl
theorem w_iteT {p : Prop} [Decidable p] {A B : Prop} (hp : p) (h1 : A) : if decide p = true then A else B := by
  rw [if_pos (decide_eq_true hp)]
  exact h1
theorem w_iteF {p : Prop} [Decidable p] {A B : Prop} (hp : ¬ p) (h2 : B) : if decide p = true then A else B := by
  rw [if_neg (by simpa using hp)]
  exact h2
theorem w_tt {A B : Prop} (h : A) : if true = true then A else B := by rw [if_pos rfl]; exact h
theorem w_ff {A B : Prop} (h : B) : if false = true then A else B := by rw [if_neg Bool.false_ne_true]; exact h
theorem w_ntt {A B : Prop} (h : B) : if (!true) = true then A else B := by rw [if_neg (by decide)]; exact h
theorem w_nff {A B : Prop} (h : A) : if (!false) = true then A else B := by rw [if_pos (by rfl)]; exact h
/-- subscripts -/
theorem w_ixL {p : Addr} {i : Int} (xs : List V) (v : V) (h : SqL K H p xs) (a : atI xs i = some v) (q : Q v H) : rIxL K (.ref p) (.int i) H Q := ⟨p, xs, i, v, rfl, rfl, h, a, q⟩
theorem w_ixT {p : Addr} {i : Int} (xs : List V) (v : V) (h : SqT K H p xs) (a : atI xs i = some v) (q : Q v H) : rIxT K (.ref p) (.int i) H Q := ⟨p, xs, i, v, rfl, rfl, h, a, q⟩
theorem w_ixS {z : Str} {i : Int} {c : Nat} (h : z.length ≤ sizeLine) (a : atI z.cps.toList i = some c) (q : Q (.str ⟨#[c]⟩) H) : rIxS (.str z) (.int i) H Q := ⟨z, i, c, rfl, rfl, h, a, q⟩
theorem w_setL {p : Addr} {k : Int} {Z : Hp → Prop} (xs : List V) (j : Nat) (h : H p = some (.lst xs)) (a : ixN xs.length k = some j) (q : Z (upd H p (.lst (xs.set j v)))) : rSetL (.ref p) (.int k) v H Z := ⟨p, xs, k, j, rfl, rfl, h, a, q⟩
theorem w_b1 {p : Addr} (a0 a1 a2 a3 a4 : V) {Z : Hp → Prop} (h : H p = some (.lst [a0, a1, a2, a3, a4])) (q : Z (upd H p (.lst [a0, v, a2, a3, a4]))) : rSetL (.ref p) (.int 1) v H Z := ⟨p, _, 1, 1, rfl, rfl, h, rfl, q⟩
theorem w_b2 {p : Addr} (a0 a1 a2 a3 a4 : V) {Z : Hp → Prop} (h : H p = some (.lst [a0, a1, a2, a3, a4])) (q : Z (upd H p (.lst [a0, a1, v, a3, a4]))) : rSetL (.ref p) (.int 2) v H Z := ⟨p, _, 2, 2, rfl, rfl, h, rfl, q⟩
theorem w_b3 {p : Addr} (a0 a1 a2 a3 a4 : V) {Z : Hp → Prop} (h : H p = some (.lst [a0, a1, a2, a3, a4])) (q : Z (upd H p (.lst [a0, a1, a2, v, a4]))) : rSetL (.ref p) (.int 3) v H Z := ⟨p, _, 3, 3, rfl, rfl, h, rfl, q⟩
theorem w_b4 {p : Addr} (a0 a1 a2 a3 a4 : V) {Z : Hp → Prop} (h : H p = some (.lst [a0, a1, a2, a3, a4])) (q : Z (upd H p (.lst [a0, a1, a2, a3, v]))) : rSetL (.ref p) (.int 4) v H Z := ⟨p, _, 4, 4, rfl, rfl, h, rfl, q⟩
theorem w_app {l : Addr} (xs : List V) (h : H l = some (.lst xs)) (hn : xs.length < sizeLine) (q : Q .non (upd H l (.lst (xs ++ [y])))) : rAppend (.ref l) [y] H Q := ⟨l, xs, y, rfl, rfl, h, hn, q⟩
theorem w_tyL {l : Addr} {P : Prop} (xs : List V) (h : SqL K H l xs) (q : P) : tyV K "list" (.ref l) H ∧ P := ⟨.inl ⟨rfl, _, h⟩, q⟩
theorem w_lenQ {p : Addr} (xs : List V) (h : SqL K H p xs) (q : Q (.int xs.length) H) : rLenQ K [.ref p] H Q := ⟨p, xs, rfl, .inl h, q⟩
theorem w_lenQT {p : Addr} (xs : List V) (h : SqT K H p xs) (q : Q (.int xs.length) H) : rLenQ K [.ref p] H Q := ⟨p, xs, rfl, .inr h, q⟩
theorem w_lenS {z : Str} (h : z.length ≤ sizeLine) (q : Q (.int z.length) H) : rLenS [.str z] H Q := ⟨z, rfl, h, q⟩
theorem w_listOf {p : Addr} (xs : List V) (h : SqL K H p xs) (q : ∀ l, H l = none → Q (.ref l) (upd H l (.lst xs))) : rListOf K [.ref p] H Q := ⟨p, xs, rfl, .inl h, q⟩
theorem w_int1 {i : Int} (q : Q (.int i) H) : rInt1 [.int i] H Q := .inl ⟨i, rfl, q⟩
theorem w_int1b {b : Bool} (q : Q (.int (if b then 1 else 0)) H) : rInt1 [.bl b] H Q := .inr ⟨b, rfl, q⟩
theorem w_abs {i : Int} (q : Q (.int (if i < 0 then -i else i)) H) : rAbs [.int i] H Q := ⟨i, rfl, q⟩
theorem w_min2 {i j : Int} (q : Q (.int (if j < i then j else i)) H) : rMin2 [.int i, .int j] H Q := ⟨i, j, rfl, q⟩
theorem w_max2 {i j : Int} (q : Q (.int (if j > i then j else i)) H) : rMax2 [.int i, .int j] H Q := ⟨i, j, rfl, q⟩
theorem w_min3 {i j k : Int} (q : Q (.int (min (min i j) k)) H) : rNuC3 nuMin3 [.int i, .int j, .int k] H Q := by
  refine ⟨.int i, .int j, .int k, .int (min (min i j) k), rfl, ?_, q⟩
  have e1 : nuMin2 (.int i) (.int j) = some (.int (min i j)) := by
    show some (if decide (j < i) = true then V.int j else V.int i) = _
    by_cases h : j < i
    · rw [if_pos (decide_eq_true h)]
      congr 2
      omega
    · rw [if_neg (by simpa using h)]
      congr 2
      omega
  have e2 : nuMin2 (.int (min i j)) (.int k) = some (.int (min (min i j) k)) := by
    show some (if decide (k < min i j) = true then V.int k else V.int (min i j)) = _
    by_cases h : k < min i j
    · rw [if_pos (decide_eq_true h)]
      congr 2
      omega
    · rw [if_neg (by simpa using h)]
      congr 2
      omega
  show (nuMin2 (.int i) (.int j)).bind (fun m => nuMin2 m (.int k)) = _
  rw [e1]
  exact e2
theorem w_slL {p : Addr} {lo hi : Option Int} (xs : List V) (h : SqL K H p xs) (q : ∀ l, H l = none → Q (.ref l) (upd H l (.lst (cutV xs lo hi)))) : rSlL K (.ref p) lo hi H Q := ⟨p, xs, rfl, h, q⟩
theorem w_slS {z : Str} {lo hi : Option Int} (h : z.length ≤ sizeLine) (q : Q (.str (cutS z lo hi)) H) : rSlS (.str z) lo hi H Q := ⟨z, rfl, h, q⟩
end
end R

namespace R
open PySem L2
/-! ### the bag of a law: its cells (never changed), a place, what is left, the stirred number, a count -/
structure Bag (K : PySem.W.Frag) (F H : Hp) (b : Addr) : Prop where
  ex : ∃ (c : Addr) (cells : List Int) (i cur st n : Int), F b = none ∧ H b = some (.lst [.ref c, .int i, .int cur, .int st, .int n]) ∧ SqL K F c (cells.map V.int) ∧ cells.length ≤ 63 ∧
    (∀ x ∈ cells, 0 ≤ x ∧ x < 10 ^ 60) ∧ 0 ≤ i ∧ 0 ≤ cur ∧ cur < 10 ^ 60 ∧ 0 ≤ st ∧ st < 2147483647
theorem Bag.keep {K : PySem.W.Frag} {M : List Addr} {F H F2 H2 : Hp} {b : Addr} (g : Gr M F H F2 H2) (h : Bag K F H b) (hb : b ∉ M) : Bag K F2 H2 b := by
  obtain ⟨c, cells, i, cur, st, n, h1, h2, h3, h4⟩ := h.ex
  exact ⟨c, cells, i, cur, st, n, g.nw b (ne_none h2) h1, g.hh b _ hb h2, sqL_same g.ff h3, h4⟩
theorem Bag.keep0 {K : PySem.W.Frag} {F H F2 H2 : Hp} {b : Addr} (g : Gr [] F H F2 H2) (h : Bag K F H b) : Bag K F2 H2 b := h.keep g (fun z => nomatch z)
theorem Bag.ne_new {K : PySem.W.Frag} {F H : Hp} {b q : Addr} (h : Bag K F H b) (hq : H q = none) : b ≠ q := by
  obtain ⟨c, cells, i, cur, st, n, h1, h2, _⟩ := h.ex
  exact ne_of_none h2 hq
/-- a draw: a number from 0 on below n -/
def φdraw (K : PySem.W.Frag) : V → V → Hp → VK → Prop := fun x y H Q => ∃ (b : Addr) (m : Int) (F : Hp), x = .ref b ∧ y = .int m ∧ Same F H ∧ Bag K F H b ∧ 0 < m ∧ m < 2 ^ 200 ∧
  ∀ (r : Int) (F2 H2 : Hp), Gr [b] F H F2 H2 → Bag K F2 H2 b → 0 ≤ r → r < m → Q (.int r) H2
theorem u_draw {K : PySem.W.Frag} {b : Addr} {m : Int} {F H : Hp} {Q : VK} {E : XK} (w : Same F H) (hb : Bag K F H b) (h0 : 0 < m) (h1 : m < 2 ^ 200) (q : ∀ (r : Int) (F2 H2 : Hp), Gr [b] F H F2 H2 → Bag K F2 H2 b → 0 ≤ r → r < m → Q (.int r) H2) :
    S2 (φdraw K) ([.ref b, .int m] ++ []) H Q E := ⟨b, m, F, rfl, rfl, w, hb, h0, h1, q⟩
def φbag (K : PySem.W.Frag) : V → Hp → VK → Prop := fun x H Q => ∃ (a : Addr) (ns : List Int), x = .ref a ∧ SqL K H a (ns.map V.int) ∧ ns.length ≤ 63 ∧
  ∀ (b : Addr) (F2 H2 : Hp), Gr [] H H F2 H2 → Bag K F2 H2 b → Q (.ref b) H2
theorem bits_le {m : Int} (h0 : 0 < m) (h1 : m < 2 ^ 200) : (Builtin.Int.intBits m : Int) ≤ 200 := by
  have h : m.natAbs < 2 ^ 200 := by omega
  have e := PyProof.Rows.intBits_le h
  omega
theorem mod_nn {a b : Int} (h : 0 < b) : 0 ≤ a % b := Int.emod_nonneg a (by omega)
theorem mod_lt {a b : Int} (h : 0 < b) : a % b < b := Int.emod_lt_of_pos a h
theorem div_nn {a b : Int} (ha : 0 ≤ a) (hb : 0 < b) : 0 ≤ a / b := Int.ediv_nonneg ha (by omega)
theorem div_le' {a b : Int} (ha : 0 ≤ a) (hb : 0 < b) : a / b ≤ a := Int.ediv_le_self b ha
theorem log2_lt {j : Int} (h : j.natAbs < 2 ^ 8999) (h0 : 0 < j) : CDivW 0 j := by
  refine ⟨h0, ?_⟩
  have hp : j.natAbs ≠ 0 := by omega
  have := (Nat.log2_lt hp).mpr h
  omega
theorem divw_ok {i j : Int} (h0 : 0 < j) (h1 : j < 2 ^ 200) : CDivW i j := by
  refine ⟨h0, ?_⟩
  have hp : j.natAbs ≠ 0 := by omega
  have h : j.natAbs < 2 ^ 200 := by omega
  have := (Nat.log2_lt hp).mpr h
  omega
/-! ### loops by what holds at each turn -/
section
variable {K : PySem.W.Frag} {σ : L2.St} {H : Hp} {Q : VK} {nx bk ct : L2.St → Hp → Prop} {rt : VK} {g : TG} {tb : TS}
/-- what tFor asks of a range, by what holds ahead of turn i -/
theorem f_range {lo : Int} {n : Nat} (Pv : Nat → L2.St → Hp → Prop) (h0 : Pv 0 σ H) (hs : ∀ i σ H, i < n → Pv i σ H → g (.int (lo + i)) σ H fun σ2 H2 => tb ⟨Pv (i + 1), rt, nx, Pv (i + 1)⟩ σ2 H2) (hd : ∀ σ H, Pv n σ H → nx σ H) :
    ∃ W : Nat → Nat → L2.St → Hp → Prop, (∃ m, W 0 m σ H) ∧ ∀ i m σ H, W i m σ H →
      ((Itr lo n).stop i H ∧ nx σ H) ∨ ((Itr lo n).go i H ∧ ∃ N : L2.St → Hp → Prop, (∀ σ' H', N σ' H' → ∃ m', m' < m ∧ W (i + 1) m' σ' H') ∧ ∀ x H', (Itr lo n).yld i H x H' → g x σ H' fun σ2 H2 => tb ⟨N, rt, nx, N⟩ σ2 H2) := by
  refine ⟨fun i m σ H => m = n - i ∧ i ≤ n ∧ Pv i σ H, ⟨n, by simp, Nat.zero_le _, h0⟩, ?_⟩
  rintro i m σ H ⟨rfl, hi, p⟩
  by_cases hlt : i < n
  · refine .inr ⟨hlt, Pv (i + 1), fun σ' H' p' => ⟨n - (i + 1), by omega, rfl, hlt, p'⟩, fun x H' y => ?_⟩
    obtain ⟨e, y⟩ := y
    subst e y
    exact hs i σ _ hlt p
  · have e : i = n := by omega
    subst e
    exact .inl ⟨Nat.le_refl _, hd σ H p⟩
theorem f_range0 {n : Nat} (Pv : Nat → L2.St → Hp → Prop) (h0 : Pv 0 σ H) (hs : ∀ i σ H, i < n → Pv i σ H → g (.int (i : Int)) σ H fun σ2 H2 => tb ⟨Pv (i + 1), rt, nx, Pv (i + 1)⟩ σ2 H2) (hd : ∀ σ H, Pv n σ H → nx σ H) :
    ∃ W : Nat → Nat → L2.St → Hp → Prop, (∃ m, W 0 m σ H) ∧ ∀ i m σ H, W i m σ H →
      ((Itr 0 n).stop i H ∧ nx σ H) ∨ ((Itr 0 n).go i H ∧ ∃ N : L2.St → Hp → Prop, (∀ σ' H', N σ' H' → ∃ m', m' < m ∧ W (i + 1) m' σ' H') ∧ ∀ x H', (Itr 0 n).yld i H x H' → g x σ H' fun σ2 H2 => tb ⟨N, rt, nx, N⟩ σ2 H2) :=
  f_range Pv h0 (fun i σ H hi hp => by rw [Int.zero_add]; exact hs i σ H hi hp) hd
theorem f_list {a : Addr} {xs : List V} (Pv : Nat → L2.St → Hp → Prop) (h0 : Pv 0 σ H) (hl : ∀ i σ H, i ≤ xs.length → Pv i σ H → SqL K H a xs)
    (hs : ∀ i x σ H, xs[i]? = some x → Pv i σ H → g x σ H fun σ2 H2 => tb ⟨Pv (i + 1), rt, nx, Pv (i + 1)⟩ σ2 H2) (hd : ∀ σ H, Pv xs.length σ H → nx σ H) :
    ∃ W : Nat → Nat → L2.St → Hp → Prop, (∃ m, W 0 m σ H) ∧ ∀ i m σ H, W i m σ H →
      ((Itl K a).stop i H ∧ nx σ H) ∨ ((Itl K a).go i H ∧ ∃ N : L2.St → Hp → Prop, (∀ σ' H', N σ' H' → ∃ m', m' < m ∧ W (i + 1) m' σ' H') ∧ ∀ x H', (Itl K a).yld i H x H' → g x σ H' fun σ2 H2 => tb ⟨N, rt, nx, N⟩ σ2 H2) := by
  refine ⟨fun i m σ H => m = xs.length - i ∧ i ≤ xs.length ∧ Pv i σ H, ⟨xs.length, by simp, Nat.zero_le _, h0⟩, ?_⟩
  rintro i m σ H ⟨rfl, hi, p⟩
  have q := hl i σ H hi p
  by_cases hlt : i < xs.length
  · refine .inr ⟨⟨xs, xs[i], q, by simp [hlt]⟩, Pv (i + 1), fun σ' H' p' => ⟨xs.length - (i + 1), by omega, rfl, hlt, p'⟩, fun x H' y => ?_⟩
    obtain ⟨e, y⟩ := y
    subst e
    exact hs i x σ _ (y xs q) p
  · have e : i = xs.length := by omega
    subst e
    exact .inl ⟨⟨xs, q, Nat.le_refl _⟩, hd σ H p⟩
variable {tt : TT} {te : TE} {vs : List Nat} {D : Addr} {Qd : Hp → Prop}
theorem lc_rng {n : Nat} (Pv : Nat → Hp → Prop) (h0 : Pv 0 (upd H D (.lst []))) (hs : ∀ i H, i < n → Pv i H → g (.int (i : Int)) (wipe σ vs) H fun σ2 H2 => wipe σ2 vs = wipe σ vs ∧ tt σ2 H2 fun b H3 =>
      if b = true then te σ2 H3 fun y H4 => ∃ acc, H4 D = some (.lst acc) ∧ acc.length < sizeLine ∧ Pv (i + 1) (upd H4 D (.lst (acc ++ [y]))) else Pv (i + 1) H3) (hd : ∀ H, Pv n H → Qd H) :
    ∃ W : Nat → Nat → Hp → Prop, (∃ m, W 0 m (upd H D (.lst []))) ∧ ∀ i m H, W i m H →
      ((Itr 0 n).stop i H ∧ Qd H) ∨ ((Itr 0 n).go i H ∧ ∃ Nx : Hp → Prop, (∀ H', Nx H' → ∃ m', m' < m ∧ W (i + 1) m' H') ∧ ∀ x H', (Itr 0 n).yld i H x H' → g x (wipe σ vs) H' fun σ2 H2 => wipe σ2 vs = wipe σ vs ∧ tt σ2 H2 fun b H3 =>
        if b = true then te σ2 H3 fun y H4 => ∃ acc, H4 D = some (.lst acc) ∧ acc.length < sizeLine ∧ Nx (upd H4 D (.lst (acc ++ [y]))) else Nx H3) :=
  lc_range (lo := 0) Pv h0 (fun i H hi hp => by rw [Int.zero_add]; exact hs i H hi hp) hd
end
end R

namespace R
open PySem L2
theorem Gr.put {M : List Addr} {F0 H0 F H : Hp} {p : Addr} {o : HO} (g : Gr M F0 H0 F H) (h : F p = none) (hm : p ∈ M) : Gr M F0 H0 F (upd H p o) := g.trans (.wr g.fh h hm)
theorem Gr.add {M : List Addr} {F0 H0 F H : Hp} {p : Addr} {o : HO} (g : Gr M F0 H0 F H) (h : H p = none) : Gr M F0 H0 (upd F p o) (upd H p o) := g.trans (.im g.fh h)
theorem Gr.addm {M : List Addr} {F0 H0 F H : Hp} {p : Addr} {o : HO} (g : Gr M F0 H0 F H) (h : H p = none) : Gr M F0 H0 F (upd H p o) := g.trans (.new g.fh h)
theorem Gr.ws {M : List Addr} {F H F2 H2 : Hp} (g : Gr M F H F2 H2) : Same F H2 := g.ff.trans g.fh
theorem Gr.transN {M N : List Addr} {F H F1 H1 F2 H2 : Hp} (a : Gr M F H F1 H1) (b : Gr N F1 H1 F2 H2) (h : ∀ x ∈ N, x ∈ M ∨ H x = none) : Gr M F H F2 H2 :=
  ⟨a.ff.trans b.ff, b.fh, fun x o n e => b.hh x o (fun m => (h x m).elim n fun z => by rw [z] at e; cases e) (a.hh x o n e), fun x e => b.al x (a.al x e), fun x e n => b.nw x (a.al x e) (a.nw x e n)⟩
/-- back to a smaller part that stays -/
theorem Gr.back {M : List Addr} {F F' H F2 H2 : Hp} (g : Gr M F' H F2 H2) (s : Same F F') : Gr M F H F H2 := ⟨Same.refl F, (s.trans g.ff).trans g.fh, g.hh, g.al, fun _ _ n => n⟩
theorem Gr.fresh {M : List Addr} {F0 H0 F H : Hp} {p : Addr} (g : Gr M F0 H0 F H) (h : H p = none) : H0 p = none := by
  cases e : H0 p with
  | none => rfl
  | some o => exact absurd h (g.al p (ne_none e))
/-- an object that was new behind the start, and changes no more -/
theorem Gr.frz {M : List Addr} {F0 H0 F H : Hp} {p : Addr} {o : HO} (g : Gr M F0 H0 F H) (hn : H0 p = none) (m : Mu F H p o) : Gr M F0 H0 (upd F p o) H := by
  refine ⟨g.ff.trans (Same.new m.n), fun a u e => ?_, g.hh, g.al, fun a e n => ?_⟩
  · by_cases q : a = p
    · subst q
      rw [upd_same] at e
      exact m.h.trans e
    · rw [upd_ne q] at e
      exact g.fh a u e
  · have q : a ≠ p := fun z => by subst z; exact e hn
    rw [upd_ne q]
    exact g.nw a e n
theorem Mu.same {F H : Hp} {p : Addr} {o : HO} (m : Mu F H p o) (w : Same F H) : Same (upd F p o) H := fun a u e => by
  by_cases q : a = p
  · subst q
    rw [upd_same] at e
    exact m.h.trans e
  · rw [upd_ne q] at e
    exact w a u e
theorem Mu.frz {F H : Hp} {p q : Addr} {o u : HO} (m : Mu F H p o) (h : p ≠ q) : Mu (upd F q u) H p o := ⟨by rw [upd_ne h]; exact m.n, m.h⟩
theorem Bag.frz {K : PySem.W.Frag} {F H : Hp} {b q : Addr} {u : HO} (h : Bag K F H b) (hn : F q = none) (hq : b ≠ q) : Bag K (upd F q u) H b := by
  obtain ⟨c, cells, i, cur, st, n, h1, h2, h3, h4⟩ := h.ex
  exact ⟨c, cells, i, cur, st, n, by rw [upd_ne hq]; exact h1, h2, sqL_same (Same.new hn) h3, h4⟩
theorem Bag.put {K : PySem.W.Frag} {F H : Hp} {b q : Addr} {u : HO} (h : Bag K F H b) (hq : b ≠ q) : Bag K F (upd H q u) b := by
  obtain ⟨c, cells, i, cur, st, n, h1, h2, h3, h4⟩ := h.ex
  exact ⟨c, cells, i, cur, st, n, h1, by rw [upd_ne hq]; exact h2, h3, h4⟩
theorem Bag.addm {K : PySem.W.Frag} {F H : Hp} {b q : Addr} {u : HO} (h : Bag K F H b) (hq : H q = none) : Bag K F (upd H q u) b := h.put (h.ne_new hq)
theorem Bag.add {K : PySem.W.Frag} {F H : Hp} {b q : Addr} {u : HO} (w : Same F H) (h : Bag K F H b) (hq : H q = none) : Bag K (upd F q u) (upd H q u) b := (h.addm hq).frz (w.free hq) (h.ne_new hq)
theorem Mu.addm {F H : Hp} {p q : Addr} {o u : HO} (m : Mu F H p o) (hq : H q = none) : Mu F (upd H q u) p o := m.oth (m.ne_new hq)
theorem Mu.add {F H : Hp} {p q : Addr} {o u : HO} (m : Mu F H p o) (hq : H q = none) : Mu (upd F q u) (upd H q u) p o := (m.addm hq).frz (m.ne_new hq)
/-- a draw, the whole growth carried -/
theorem d_draw {K : PySem.W.Frag} {M : List Addr} {F0 H0 F H : Hp} {b : Addr} {m : Int} {Q : VK} {E : XK} (g : Gr M F0 H0 F H) (hb : Bag K F H b) (h0 : 0 < m) (h1 : m < 2 ^ 200)
    (q : ∀ (r : Int) (F2 H2 : Hp), Gr M F0 H0 F2 H2 → Gr [b] F H F2 H2 → Bag K F2 H2 b → 0 ≤ r → r < m → Q (.int r) H2) (hm : b ∈ M := by simp) :
    S2 (φdraw K) ([.ref b, .int m] ++ []) H Q E := ⟨b, m, F, rfl, rfl, g.fh, hb, h0, h1, fun r F2 H2 g2 hb2 hr0 hr1 => q r F2 H2 (g.trans (g2.sub fun x hx => by rw [List.mem_singleton.mp hx]; exact hm)) g2 hb2 hr0 hr1⟩
/-! ### data -/
theorem dpa_len {K : PySem.W.Frag} {F : Hp} : ∀ {vs : List V} {ds : List PyData}, DpAll K F vs ds → vs.length = ds.length
  | _, _, .nil => rfl
  | _, _, .cons _ t => congrArg (· + 1) (dpa_len t)
theorem dpa_get {K : PySem.W.Frag} {F : Hp} : ∀ {vs : List V} {ds : List PyData} {i : Nat} {d : PyData}, DpAll K F vs ds → ds[i]? = some d → ∃ v, vs[i]? = some v ∧ Dp K F v d
  | _, _, _, _, .nil, e => by simp at e
  | _, _, 0, _, .cons h _, e => by
    have e' := Option.some.inj e
    subst e'
    exact ⟨_, rfl, h⟩
  | _, _, i + 1, _, .cons _ t, e => dpa_get (i := i) t e
theorem dpa_app {K : PySem.W.Frag} {F : Hp} : ∀ {vs us : List V} {ds es : List PyData}, DpAll K F vs ds → DpAll K F us es → DpAll K F (vs ++ us) (ds ++ es)
  | _, _, _, _, .nil, h => h
  | _, _, _, _, .cons h t, u => .cons h (dpa_app t u)
theorem dpa_snoc {K : PySem.W.Frag} {F : Hp} {vs : List V} {ds : List PyData} {v : V} {d : PyData} (h : DpAll K F vs ds) (hd : Dp K F v d) : DpAll K F (vs ++ [v]) (ds ++ [d]) := dpa_app h (.cons hd .nil)
theorem dpa_mem {K : PySem.W.Frag} {F : Hp} : ∀ {vs : List V} {ds : List PyData} {v : V}, DpAll K F vs ds → v ∈ vs → ∃ d, d ∈ ds ∧ Dp K F v d
  | _, _, _, .nil, e => nomatch e
  | _, _, _, .cons h t, e => by
    rcases List.mem_cons.mp e with e | e
    · subst e
      exact ⟨_, List.mem_cons_self .., h⟩
    · obtain ⟨d, m, hd⟩ := dpa_mem t e
      exact ⟨d, List.mem_cons_of_mem _ m, hd⟩
def tyD : PyData → String
  | .none => "NoneType" | .bool _ => "bool" | .int _ => "int" | .str _ => "str" | .list _ => "list" | .tuple _ => "tuple" | .dict _ => "dict"
theorem tyx_of {K : PySem.W.Frag} {F H : Hp} {x : V} {d : PyData} (h : Dp K F x d) (w : Same F H) : TyX K H x (.type (tyD d)) := by
  cases h with
  | non => exact .base .non
  | bl b => exact .base (.bl b)
  | int i => exact .base (.int i)
  | str s => exact .base (.str s)
  | lst hs _ =>
    rcases hs with (h | ⟨o, h⟩) | ⟨o, its, n, e1, e2, _⟩
    · exact .base (.lst (w _ _ h))
    · exact .base (.frz (w _ _ h))
    · exact .kList e1 e2
  | tup hs _ =>
    rcases hs with (h | ⟨o, h⟩) | ⟨o, its, n, e1, e2, _⟩
    · exact .base (.tup (w _ _ h))
    · exact .fTuple (w _ _ h)
    · exact .kTuple e1 e2
section
variable {K : PySem.W.Frag} {F H : Hp} {x y : V} {d : PyData} {Q : VK} {n m : String} {p : Addr}
theorem u_isi {b : Bool} (h : Dp K F x d) (w : Same F H) (e : kitB (tyD d) n = some b) (q : Q (.bl b) H) : rIsi K [x, .ty n] H Q :=
  ⟨x, .ty n, _, _, b, rfl, .ty n, tyx_of h w, kit_ty e, q⟩
theorem u_isiT {b c : Bool} (h : Dp K F x d) (w : Same F H) (hp : H p = some (.tup [.ty n, .ty m])) (e1 : kitB (tyD d) n = some b) (e2 : kitB (tyD d) m = some c) (q : Q (.bl (b || c)) H) : rIsiT K [x, .ref p] H Q := by
  refine ⟨x, p, _, _, _, b || c, rfl, hp, .cons (.ty n) (.cons (.ty m) .nil), tyx_of h w, ?_, q⟩
  refine kitAny_cons (kit_ty e1) (fun hb => ?_) (fun hb => by rw [hb]; rfl)
  refine kitAny_cons (kit_ty e2) (fun hc => ?_) (fun hc => by rw [hc]; simp)
  rw [hb, hc]
  exact kitAny_nil
end
/-- the answers of isinstance for data -/
def isSeq : PyData → Bool
  | .list _ | .tuple _ => true
  | _ => false
def isLst : PyData → Bool
  | .list _ => true
  | _ => false
def isTup : PyData → Bool
  | .tuple _ => true
  | _ => false
def isBol : PyData → Bool
  | .bool _ => true
  | _ => false
def isInt : PyData → Bool
  | .bool _ | .int _ => true
  | _ => false
def isStr : PyData → Bool
  | .str _ => true
  | _ => false
theorem k_list : ∀ d : PyData, kitB (tyD d) "list" = some (isLst d) := by intro d; cases d <;> simp only [tyD, isLst, isTup, isBol, isInt, isStr] <;> decide +kernel
theorem k_tuple : ∀ d : PyData, kitB (tyD d) "tuple" = some (isTup d) := by intro d; cases d <;> simp only [tyD, isLst, isTup, isBol, isInt, isStr] <;> decide +kernel
theorem k_bool : ∀ d : PyData, kitB (tyD d) "bool" = some (isBol d) := by intro d; cases d <;> simp only [tyD, isLst, isTup, isBol, isInt, isStr] <;> decide +kernel
theorem k_int : ∀ d : PyData, kitB (tyD d) "int" = some (isInt d) := by intro d; cases d <;> simp only [tyD, isLst, isTup, isBol, isInt, isStr] <;> decide +kernel
theorem k_str : ∀ d : PyData, kitB (tyD d) "str" = some (isStr d) := by intro d; cases d <;> simp only [tyD, isLst, isTup, isBol, isInt, isStr] <;> decide +kernel
def itemsD : PyData → List PyData
  | .list ds | .tuple ds => ds
  | _ => []
theorem seq_of {K : PySem.W.Frag} {F : Hp} {x : V} {d : PyData} (h : Dp K F x d) (s : isSeq d = true) : ∃ (a : Addr) (vs : List V), x = .ref a ∧ (SqL K F a vs ∨ SqT K F a vs) ∧ DpAll K F vs (itemsD d) := by
  cases h with
  | lst hs ha => exact ⟨_, _, rfl, .inl hs, ha⟩
  | tup hs ha => exact ⟨_, _, rfl, .inr hs, ha⟩
  | _ => cases s
theorem sca_of {K : PySem.W.Frag} {F : Hp} {x y : V} {d : PyData} (h : Dp K F x d) (h' : Dp K F y d) (s : isSeq d = false) : y = x ∧ scal x x = true := by
  cases h with
  | lst hs ha => cases s
  | tup hs ha => cases s
  | non => cases h'; exact ⟨rfl, rfl⟩
  | bl => cases h'; exact ⟨rfl, rfl⟩
  | int => cases h'; exact ⟨rfl, rfl⟩
  | str => cases h'; exact ⟨rfl, rfl⟩
theorem depth_item : ∀ {d e : PyData} {i : Nat}, isSeq d = true → (itemsD d)[i]? = some e → e.depth < d.depth := by
  have key : ∀ (ds : List PyData) (i : Nat) (e : PyData), ds[i]? = some e → e.depth ≤ PyData.depthAll ds := by
    intro ds
    induction ds with
    | nil => intro i e h; simp at h
    | cons d ds ih =>
      intro i e h
      cases i with
      | zero =>
        have e' := Option.some.inj h
        subst e'
        rw [PyData.depthAll]
        exact Nat.le_max_left _ _
      | succ i =>
        have := ih i e h
        rw [PyData.depthAll]
        exact Nat.le_trans this (Nat.le_max_right _ _)
  intro d e i s h
  cases d with
  | list ds => rw [PyData.depth]; exact Nat.lt_succ_of_le (key ds i e h)
  | tuple ds => rw [PyData.depth]; exact Nat.lt_succ_of_le (key ds i e h)
  | _ => cases s
section
variable {K : PySem.W.Frag} {H : Hp} {Q : VK} {v : V} {A B : Prop}
theorem w_ixQ {a : Addr} {i : Int} (vs : List V) (v : V) (h : SqL K H a vs ∨ SqT K H a vs) (e : atI vs i = some v) (q : Q v H) : rIx K (.ref a) (.int i) H Q := by
  rcases h with h | h
  · exact .inl ⟨a, vs, i, v, rfl, rfl, h, e, q⟩
  · exact .inr (.inl ⟨a, vs, i, v, rfl, rfl, h, e, q⟩)
theorem sq_same {F : Hp} {a : Addr} {vs : List V} (w : Same F H) (h : SqL K F a vs ∨ SqT K F a vs) : SqL K H a vs ∨ SqT K H a vs := h.elim (fun h => .inl (sqL_same w h)) fun h => .inr (sqT_same w h)
theorem w_nself {α : Type} [DecidableEq α] {a : α} (h : B) : if (!decide (a = a)) = true then A else B := by
  rw [if_neg (by simp)]
  exact h
theorem w_self {α : Type} [DecidableEq α] {a : α} (h : A) : if decide (a = a) = true then A else B := by
  rw [if_pos (by simp)]
  exact h
theorem w_is {b c : Bool} (e : b = c) (h : if c = true then A else B) : if b = true then A else B := by rw [e]; exact h
end
theorem le1000 {n : Nat} (h : n ≤ 1000) : n ≤ sizeLine := Nat.le_of_lt (small1000 h)
theorem small_lt {n : Nat} (h : n ≤ 1000000) : n < sizeLine := by rw [sizeLine_eq]; omega
theorem all_rep (n : Nat) : (List.replicate n true).all id = true := by
  induction n with
  | zero => rfl
  | succ n ih => rw [List.replicate_succ, List.all_cons, ih]; rfl
theorem szle {n : Nat} (h : n ≤ 1000000) : n ≤ sizeLine := Nat.le_of_lt (by rw [sizeLine_eq]; omega)
section
variable {K : PySem.W.Frag} {σ : L2.St} {H : Hp} {Q : VK} {ta : TE}
theorem w_lstRg {te : L2.St → Hp → (Int → Int → Hp → Prop) → Prop} (q : te σ H fun a b H1 => RgOk a b ∧ ∀ q, H1 q = none → Q (.ref q) (upd H1 q (.lst (rgV a b)))) : tLstRg te σ H Q := q
theorem w_rg1 {R : Int → Int → Hp → Prop} (q : ta σ H fun x H1 => asInt x H1 fun n H2 => R 0 n H2) : tRg1 ta σ H R := q
theorem w_revL (q : ta σ H fun x H1 => ∃ a xs, x = .ref a ∧ SqL K H1 a xs ∧ ∀ p, H1 p = none → Q (.ref p) (upd H1 p (.lst xs.reverse))) : tRevL K ta σ H Q := q
end
def nV (l : List Nat) : List V := l.map fun k => V.int (k : Nat)
theorem rgV0 (n : Int) : rgV 0 n = nV (List.range n.toNat) := by
  unfold rgV nV
  rw [Int.sub_zero]
  refine List.map_congr_left fun k _ => ?_
  rw [Int.zero_add]
theorem nV_rev (l : List Nat) : (nV l).reverse = nV l.reverse := by
  unfold nV
  rw [List.map_reverse]
theorem nV_get {l : List Nat} {i : Nat} {x : V} (h : (nV l)[i]? = some x) : ∃ k, l[i]? = some k ∧ x = .int (k : Nat) := by
  unfold nV at h
  rw [List.getElem?_map] at h
  cases e : l[i]? with
  | none => rw [e] at h; cases h
  | some k =>
    rw [e] at h
    exact ⟨k, rfl, (Option.some.inj h).symm⟩
theorem pick_ix {ns : List Int} {i lo hi : Int} (h0 : 0 ≤ i) (h1 : i < (ns.length : Int)) (hb : ∀ x ∈ ns, lo ≤ x ∧ x ≤ hi) : ∃ m, atI (ns.map V.int) i = some (.int m) ∧ lo ≤ m ∧ m ≤ hi := by
  have hi : i.toNat < ns.length := by omega
  refine ⟨ns[i.toNat], ?_, hb _ (List.getElem_mem hi)⟩
  refine at_of (j := i.toNat) (by omega) ?_
  rw [List.getElem?_map, List.getElem?_eq_getElem hi]
  rfl
theorem rep_flat {α : Type} (n : Nat) (x : α) : (List.replicate n [x]).flatten = List.replicate n x := by
  induction n with
  | zero => rfl
  | succ n ih => rw [List.replicate_succ, List.flatten_cons, ih]; rfl
theorem cell_at {cells : List Int} {i : Int} (h0 : 0 ≤ i) (h1 : i < ((cells.map V.int).length : Nat)) : ∃ x, x ∈ cells ∧ atI (cells.map V.int) i = some (.int x) := by
  rw [List.length_map] at h1
  have hi : i.toNat < cells.length := by omega
  refine ⟨cells[i.toNat], List.getElem_mem hi, ?_⟩
  refine at_of (j := i.toNat) (by omega) ?_
  rw [List.getElem?_map, List.getElem?_eq_getElem hi]
  rfl
theorem cut63 {ns : List Int} (h : ns.length ≤ 63) : cutV (ns.map V.int) none (some 63) = ns.map V.int := by
  unfold cutV
  rw [HT.sIx_none, show HT.sIx (ns.map V.int).length (ns.map V.int).length (some 63) = min 63 (ns.map V.int).length from HT.sIx_nat _ _ 63, List.drop_zero, List.length_map]
  refine List.take_of_length_le ?_
  rw [List.length_map]
  omega
theorem map_get {ns : List Int} {i : Nat} {x : V} (h : (ns.map V.int)[i]? = some x) : ∃ c, x = .int c := by
  rw [List.getElem?_map] at h
  cases e : ns[i]? with
  | none => rw [e] at h; cases h
  | some c =>
    rw [e] at h
    exact ⟨c, (Option.some.inj h).symm⟩
/-! data of modest size, no dicts, plain signs -/
mutual
def good : PyData → Bool
  | .none | .bool _ | .int _ => true
  | .str x => PyData.strOk x && decide (x.length ≤ 100000)
  | .list ds | .tuple ds => decide (ds.length ≤ 100000) && goodAll ds
  | .dict _ => false
def goodAll : List PyData → Bool
  | [] => true
  | d :: ds => good d && goodAll ds
end
theorem goodAll_iff : ∀ {ds : List PyData}, goodAll ds = true ↔ ∀ d ∈ ds, good d = true
  | [] => by simp [goodAll]
  | d :: ds => by simp [goodAll, goodAll_iff (ds := ds)]
mutual
theorem lay_good : ∀ d : PyData, good d = true → d.canLay0 = true
  | .none, _ => rfl
  | .bool _, _ => rfl
  | .int _, _ => rfl
  | .str x, h => by
    rw [good, Bool.and_eq_true] at h
    exact h.1
  | .list ds, h => by
    rw [good, Bool.and_eq_true] at h
    exact lay_goodAll ds h.2
  | .tuple ds, h => by
    rw [good, Bool.and_eq_true] at h
    exact lay_goodAll ds h.2
  | .dict _, h => by cases h
theorem lay_goodAll : ∀ ds : List PyData, goodAll ds = true → PyData.canLayAll0 ds = true
  | [], _ => rfl
  | d :: ds, h => by
    rw [goodAll, Bool.and_eq_true] at h
    rw [PyData.canLayAll0, lay_good d h.1, lay_goodAll ds h.2]
    rfl
end
theorem good_item {d e : PyData} {i : Nat} (h : good d = true) (he : (itemsD d)[i]? = some e) : good e = true := by
  cases d with
  | list ds =>
    rw [good, Bool.and_eq_true] at h
    exact goodAll_iff.mp h.2 e (List.mem_of_getElem? he)
  | tuple ds =>
    rw [good, Bool.and_eq_true] at h
    exact goodAll_iff.mp h.2 e (List.mem_of_getElem? he)
  | _ => simp [itemsD] at he
theorem good_len {d : PyData} (h : good d = true) : (itemsD d).length ≤ 100000 := by
  cases d with
  | list ds =>
    rw [good, Bool.and_eq_true] at h
    exact of_decide_eq_true h.1
  | tuple ds =>
    rw [good, Bool.and_eq_true] at h
    exact of_decide_eq_true h.1
  | _ => exact Nat.zero_le _
theorem good_shaped {d : PyData} (h : good d = true) (hd : d.depth ≤ 64) : SeqAt.shaped d = true := by
  unfold SeqAt.shaped
  rw [lay_good d h, decide_eq_true hd]
  rfl
theorem good_refl {d : PyData} (h : good d = true) : PyData.eqv d d = true := SeqAt.eqv_refl d (lay_good d h)
theorem good_list {ds : List PyData} (hl : ds.length ≤ 100000) (h : ∀ d ∈ ds, good d = true) : good (.list ds) = true := by
  rw [good, Bool.and_eq_true]
  exact ⟨decide_eq_true hl, goodAll_iff.mpr h⟩
theorem good_tuple {ds : List PyData} (hl : ds.length ≤ 100000) (h : ∀ d ∈ ds, good d = true) : good (.tuple ds) = true := by
  rw [good, Bool.and_eq_true]
  exact ⟨decide_eq_true hl, goodAll_iff.mpr h⟩
theorem depth_list {ds : List PyData} {n : Nat} (h : ∀ d ∈ ds, d.depth ≤ n) : (PyData.list ds).depth ≤ n + 1 := by
  have key : ∀ ds : List PyData, (∀ d ∈ ds, d.depth ≤ n) → PyData.depthAll ds ≤ n := by
    intro ds
    induction ds with
    | nil => intro _; exact Nat.zero_le _
    | cons d ds ih =>
      intro h
      rw [PyData.depthAll]
      exact Nat.max_le.mpr ⟨h d (List.mem_cons_self ..), ih fun e he => h e (List.mem_cons_of_mem _ he)⟩
  rw [PyData.depth]
  exact Nat.succ_le_succ (key ds h)
theorem depth_tuple {ds : List PyData} {n : Nat} (h : ∀ d ∈ ds, d.depth ≤ n) : (PyData.tuple ds).depth ≤ n + 1 := depth_list (ds := ds) h
/-! == and != of equal data -/
section
variable {K : PySem.W.Frag} {F H : Hp} {x y : V} {d : PyData} {Q : VK}
theorem u_eqD (w : Same F H) (hx : Dp K F x d) (hy : Dp K F y d) (hg : good d = true) (hd : d.depth ≤ 64) (q : Q (.bl true) H) : rEqD K x y H Q :=
  ⟨d, d, dp_same w _ _ hx, dp_same w _ _ hy, good_shaped hg hd, good_shaped hg hd, by rw [good_refl hg]; exact q⟩
theorem u_neD (w : Same F H) (hx : Dp K F x d) (hy : Dp K F y d) (hg : good d = true) (hd : d.depth ≤ 64) (q : Q (.bl false) H) : rNeD K x y H Q :=
  ⟨d, d, dp_same w _ _ hx, dp_same w _ _ hy, good_shaped hg hd, good_shaped hg hd, by rw [good_refl hg]; exact q⟩
end
/-- two things of the same data -/
def φalike (K : PySem.W.Frag) (n : Nat) : V → V → Hp → VK → Prop := fun x y H Q => ∃ (F : Hp) (d : PyData), Same F H ∧ Dp K F x d ∧ Dp K F y d ∧ d.depth < n ∧ good d = true ∧
  ∀ F2 H2 : Hp, Gr [] F H F2 H2 → Q (.bl true) H2
theorem alike0 {K : PySem.W.Frag} {vs : List V} {H : Hp} {Q : VK} {E : XK} (h : S2 (φalike K 0) vs H Q E) : False := by
  match vs, h with
  | [_, _], h =>
    obtain ⟨F, d, _, _, _, hn, _⟩ := h
    exact absurd hn (Nat.not_lt_zero _)
end R

namespace R
open PySem L2
/-! ### data taken apart -/
section
variable {K : PySem.W.Frag} {F : Hp} {x v : V}
theorem dp_int {i : Int} (h : Dp K F x (.int i)) : x = .int i := by cases h; rfl
theorem dp_str {s : Str} (h : Dp K F x (.str s)) : x = .str s := by cases h; rfl
theorem dp_non (h : Dp K F x .none) : x = .non := by cases h; rfl
theorem dp_bool {b : Bool} (h : Dp K F x (.bool b)) : x = .bl b := by cases h; rfl
theorem dp_list {ds : List PyData} (h : Dp K F x (.list ds)) : ∃ (a : Addr) (vs : List V), x = .ref a ∧ SqL K F a vs ∧ DpAll K F vs ds := by
  cases h with
  | lst hs ha => exact ⟨_, _, rfl, hs, ha⟩
theorem dp_tup {ds : List PyData} (h : Dp K F x (.tuple ds)) : ∃ (a : Addr) (vs : List V), x = .ref a ∧ SqT K F a vs ∧ DpAll K F vs ds := by
  cases h with
  | tup hs ha => exact ⟨_, _, rfl, hs, ha⟩
theorem dpa_cons {vs : List V} {d : PyData} {ds : List PyData} (h : DpAll K F vs (d :: ds)) : ∃ v us, vs = v :: us ∧ Dp K F v d ∧ DpAll K F us ds := by
  cases h with
  | cons h t => exact ⟨_, _, rfl, h, t⟩
theorem dpa_nil {vs : List V} (h : DpAll K F vs []) : vs = [] := by cases h; rfl
theorem dp_tup3 {d1 d2 d3 : PyData} (h : Dp K F x (.tuple [d1, d2, d3])) : ∃ (a : Addr) (v1 v2 v3 : V), x = .ref a ∧ SqT K F a [v1, v2, v3] ∧ Dp K F v1 d1 ∧ Dp K F v2 d2 ∧ Dp K F v3 d3 := by
  obtain ⟨a, vs, rfl, hs, h0⟩ := dp_tup h
  obtain ⟨v1, us, rfl, h1, h0⟩ := dpa_cons h0
  obtain ⟨v2, us, rfl, h2, h0⟩ := dpa_cons h0
  obtain ⟨v3, us, rfl, h3, h0⟩ := dpa_cons h0
  cases dpa_nil h0
  exact ⟨a, v1, v2, v3, rfl, hs, h1, h2, h3⟩
theorem dp_tup4 {d1 d2 d3 d4 : PyData} (h : Dp K F x (.tuple [d1, d2, d3, d4])) : ∃ (a : Addr) (v1 v2 v3 v4 : V), x = .ref a ∧ SqT K F a [v1, v2, v3, v4] ∧ Dp K F v1 d1 ∧ Dp K F v2 d2 ∧ Dp K F v3 d3 ∧ Dp K F v4 d4 := by
  obtain ⟨a, vs, rfl, hs, h0⟩ := dp_tup h
  obtain ⟨v1, us, rfl, h1, h0⟩ := dpa_cons h0
  obtain ⟨v2, us, rfl, h2, h0⟩ := dpa_cons h0
  obtain ⟨v3, us, rfl, h3, h0⟩ := dpa_cons h0
  obtain ⟨v4, us, rfl, h4, h0⟩ := dpa_cons h0
  cases dpa_nil h0
  exact ⟨a, v1, v2, v3, v4, rfl, hs, h1, h2, h3, h4⟩
end
/-! ### texts -/
/-- a text of plain signs -/
def okS (z : Str) : Prop := PyData.strOk z = true
instance (z : Str) : Decidable (okS z) := inferInstanceAs (Decidable (PyData.strOk z = true))
theorem ok_cat {a b : Str} (h : okS a) (h' : okS b) : okS (a ++ b) := by
  have e : (a ++ b).cps.toList = a.cps.toList ++ b.cps.toList := TL.tl_append a b
  have h1 : a.cps.all (· < 0x110000) = true := h
  have h2 : b.cps.all (· < 0x110000) = true := h'
  show (a ++ b).cps.all (· < 0x110000) = true
  rw [← Array.all_toList] at h1 h2 ⊢
  rw [e, List.all_append, h1, h2]
  rfl
theorem joined (ys : List Str) (h : ∀ y ∈ ys, y.length = 1 ∧ okS y) : (Txt.join ⟨#[]⟩ ys).length = ys.length ∧ okS (Txt.join ⟨#[]⟩ ys) := by
  have e : TL.tl (Txt.join ⟨#[]⟩ ys) = (ys.map TL.tl).flatten := by
    rw [TL.join_eq, TL.tl_join]
    have key : ∀ l : List (List Nat), TL.joinL [] l = l.flatten := by
      intro l
      induction l with
      | nil => rfl
      | cons p r ih =>
        cases r with
        | nil => simp [TL.joinL]
        | cons q r =>
          show p ++ ([] ++ TL.joinL [] (q :: r)) = _
          rw [ih, List.nil_append]
          rfl
    exact key _
  have hl : ∀ z : Str, z.length = (TL.tl z).length := fun z => by simp [TL.tl, Str.length]
  constructor
  · rw [hl, e]
    clear e
    induction ys with
    | nil => rfl
    | cons y r ih =>
      rw [List.map_cons, List.flatten_cons, List.length_append, ih fun z hz => h z (List.mem_cons_of_mem _ hz), ← hl, (h y (List.mem_cons_self ..)).1, List.length_cons]
      omega
  · show (Txt.join ⟨#[]⟩ ys).cps.all (· < 0x110000) = true
    rw [← Array.all_toList]
    show (TL.tl (Txt.join ⟨#[]⟩ ys)).all _ = true
    rw [e, List.all_eq_true]
    intro c hc
    obtain ⟨l, hl1, hc⟩ := List.mem_flatten.mp hc
    obtain ⟨y, hy, rfl⟩ := List.mem_map.mp hl1
    have h2 : y.cps.all (· < 0x110000) = true := (h y hy).2
    rw [← Array.all_toList, List.all_eq_true] at h2
    exact h2 c hc
theorem sum_ones : ∀ (ys : List Str), (∀ y ∈ ys, y.length = 1 ∧ okS y) → (ys.map (·.length)).sum = ys.length
  | [], _ => rfl
  | y :: r, h => by
    rw [List.map_cons, List.sum_cons, sum_ones r fun z hz => h z (List.mem_cons_of_mem _ hz), (h y (List.mem_cons_self ..)).1, List.length_cons]
    omega
theorem at_of' {α : Type} {xs : List α} {z : Int} {j : Nat} {v : α} (e : z = (j : Int)) (h : xs[j]? = some v) : atI xs z = some v := by
  rw [e]
  exact atI_nat h
theorem sign_at {z : Str} {r : Int} (ok : okS z) (h0 : 0 ≤ r) (h1 : r < (z.length : Nat)) : ∃ c : Nat, atI z.cps.toList r = some c ∧ okS ⟨#[c]⟩ := by
  have hi : r.toNat < z.cps.toList.length := by
    have : z.cps.toList.length = z.length := by simp [Str.length]
    omega
  refine ⟨z.cps.toList[r.toNat], at_of' (by omega) (List.getElem?_eq_getElem hi), ?_⟩
  have h2 : z.cps.all (· < 0x110000) = true := ok
  rw [← Array.all_toList, List.all_eq_true] at h2
  have h3 := h2 _ (List.getElem_mem hi)
  show (#[z.cps.toList[r.toNat]] : Array Nat).all (· < 0x110000) = true
  simpa using h3
theorem sign_get {z : Str} {k : Nat} (h1 : k < z.length) : atI z.cps.toList (k : Int) = some (z.cps.toList.getD k 0) := by
  have hi : k < z.cps.toList.length := by
    have : z.cps.toList.length = z.length := by simp [Str.length]
    omega
  refine atI_nat ?_
  rw [List.getD_eq_getElem?_getD, List.getElem?_eq_getElem hi]
  rfl
theorem ok_sign {z : Str} {k : Nat} (ok : okS z) (h1 : k < z.length) : okS ⟨#[z.cps.toList.getD k 0]⟩ := by
  have hi : k < z.cps.toList.length := by
    have : z.cps.toList.length = z.length := by simp [Str.length]
    omega
  have h2 : z.cps.all (· < 0x110000) = true := ok
  rw [← Array.all_toList, List.all_eq_true] at h2
  have h3 := h2 _ (List.getElem_mem hi)
  rw [List.getD_eq_getElem?_getD, List.getElem?_eq_getElem hi]
  show (#[z.cps.toList[k]] : Array Nat).all (· < 0x110000) = true
  simpa using h3
/-! ### rows of a plan -/
inductive Wd where | copy | keep | lay
  deriving DecidableEq
def Wd.s : Wd → Str
  | .copy => "copy" | .keep => "keep" | .lay => "lay"
inductive PRow where
  | put (to : Int) (s : Str)
  | mv (w : Wd) (to at_ n : Int)
def PRow.d : PRow → PyData
  | .put to s => .tuple [.str "put", .int to, .str s]
  | .mv w to a n => .tuple [.str w.s, .int to, .int a, .int n]
def PRow.size : PRow → Nat
  | .put _ s => s.length
  | .mv _ _ _ n => n.toNat
def PRow.ok : PRow → Prop
  | .put _ s => okS s ∧ s.length ≤ 5000
  | .mv _ _ _ n => 0 ≤ n ∧ n ≤ 5000
def wr (a : Str) (i : Int) (b : Str) (x : PyData) : PyData := .tuple [.str a, .int i, .str b, x]
def Wd.cell (w : Wd) : Str := if w = .keep then "slot" else "cell"
def Wd.src (w : Wd) : Str := if w = .lay then "slot" else "cell"
def PRow.steps (w : Wd) (to a n : Int) : List Nat := if w = .copy ∧ a < to then (List.range n.toNat).reverse else List.range n.toNat
def PRow.writes : PRow → List PyData
  | .put to s => (List.range s.length).map fun (k : Nat) => wr "cell" (to + k) "sign" (.str ⟨#[s.cps.toList.getD k 0]⟩)
  | .mv w to a n => (PRow.steps w to a n).map fun (k : Nat) => wr w.cell (to + k) w.src (.int (a + k))
theorem PRow.steps_len (w : Wd) (to a n : Int) : (PRow.steps w to a n).length = n.toNat := by
  unfold PRow.steps
  split
  · rw [List.length_reverse, List.length_range]
  · rw [List.length_range]
theorem PRow.writes_len (r : PRow) : r.writes.length = r.size := by
  cases r with
  | put to s => simp [PRow.writes, PRow.size]
  | mv w to a n => simp [PRow.writes, PRow.size, PRow.steps_len]
section
variable {K : PySem.W.Frag} {F : Hp} {x : V}
theorem dp_put {to : Int} {s : Str} (h : Dp K F x (PRow.put to s).d) : ∃ a, x = .ref a ∧ SqT K F a [.str "put", .int to, .str s] := by
  obtain ⟨a, v1, v2, v3, rfl, hs, h1, h2, h3⟩ := dp_tup3 h
  rw [dp_str h1, dp_int h2, dp_str h3] at hs
  exact ⟨a, rfl, hs⟩
theorem dp_mv {w : Wd} {to a n : Int} (h : Dp K F x (PRow.mv w to a n).d) : ∃ p, x = .ref p ∧ SqT K F p [.str w.s, .int to, .int a, .int n] := by
  obtain ⟨p, v1, v2, v3, v4, rfl, hs, h1, h2, h3, h4⟩ := dp_tup4 h
  rw [dp_str h1, dp_int h2, dp_int h3, dp_int h4] at hs
  exact ⟨p, rfl, hs⟩
end
/-- a new list of these data -/
structure NewL (K : PySem.W.Frag) (H F2 H2 : Hp) (a : Addr) (ds : List PyData) : Prop where
  nw : H a = none
  ex : ∃ vs, Mu F2 H2 a (.lst vs) ∧ DpAll K F2 vs ds
def φrow_writes (K : PySem.W.Frag) : V → Hp → VK → Prop := fun x H Q => ∃ (F : Hp) (r : PRow), Same F H ∧ Dp K F x r.d ∧ r.ok ∧
  ∀ (a : Addr) (F2 H2 : Hp), Gr [] F H F2 H2 → NewL K H F2 H2 a r.writes → Q (.ref a) H2
def φwrites (K : PySem.W.Frag) : V → Hp → VK → Prop := fun x H Q => ∃ (F : Hp) (rs : List PRow), Same F H ∧ Dp K F x (.list (rs.map PRow.d)) ∧ (∀ r ∈ rs, r.ok) ∧ (rs.map PRow.size).sum ≤ 50000 ∧
  ∀ (a : Addr) (F2 H2 : Hp), Gr [] F H F2 H2 → NewL K H F2 H2 a (rs.flatMap PRow.writes) → Q (.ref a) H2
/-! ### the law's makers -/
def φsign (K : PySem.W.Frag) : V → V → Hp → VK → Prop := fun x y H Q => ∃ (b : Addr) (f : Bool) (F : Hp), x = .ref b ∧ y = .bl f ∧ Same F H ∧ Bag K F H b ∧
  ∀ (s : Str) (F2 H2 : Hp), Gr [b] F H F2 H2 → Bag K F2 H2 b → s.length = 1 → okS s → Q (.str s) H2
def φtext (K : PySem.W.Frag) : V → V → V → Hp → VK → Prop := fun x y z H Q => ∃ (b : Addr) (f : Bool) (n : Int) (F : Hp), x = .ref b ∧ y = .bl f ∧ z = .int n ∧ Same F H ∧ Bag K F H b ∧ 0 ≤ n ∧ n ≤ 5000 ∧
  ∀ (s : Str) (F2 H2 : Hp), Gr [b] F H F2 H2 → Bag K F2 H2 b → (s.length : Int) = n → okS s → Q (.str s) H2
theorem w_ixL1 {z : Str} {r : Int} {n : Int} {H : Hp} {Q : VK} (ok : okS z) (hn : (z.length : Int) = n) (hs : z.length ≤ 1000) (r0 : 0 ≤ r) (r1 : r < n) (q : ∀ s : Str, s.length = 1 → okS s → Q (.str s) H) : rIxS (.str z) (.int r) H Q := by
  obtain ⟨c, ec, oc⟩ := sign_at (z := z) ok r0 (by rw [hn]; exact r1)
  exact w_ixS (le1000 hs) ec (q _ rfl oc)
/-- a list of truths of this length, that may change -/
def Hs (F H : Hp) (t : Addr) (n : Nat) : Prop := ∃ bs : List Bool, bs.length = n ∧ Mu F H t (.lst (bs.map V.bl))
theorem Hs.keep {M : List Addr} {F H F2 H2 : Hp} {t : Addr} {n : Nat} (g : Gr M F H F2 H2) (h : Hs F H t n) (ht : t ∉ M) : Hs F2 H2 t n := by
  obtain ⟨bs, l, m⟩ := h
  exact ⟨bs, l, g.mu m ht⟩
theorem Hs.addm {F H : Hp} {t p : Addr} {n : Nat} {u : HO} (h : Hs F H t n) (hp : H p = none) : Hs F (upd H p u) t n := by
  obtain ⟨bs, l, m⟩ := h
  exact ⟨bs, l, m.addm hp⟩
theorem Hs.add {F H : Hp} {t p : Addr} {n : Nat} {u : HO} (h : Hs F H t n) (hp : H p = none) : Hs (upd F p u) (upd H p u) t n := by
  obtain ⟨bs, l, m⟩ := h
  exact ⟨bs, l, m.add hp⟩
theorem Hs.ne_new {F H : Hp} {t q : Addr} {n : Nat} (h : Hs F H t n) (hq : H q = none) : t ≠ q := by
  obtain ⟨_, _, m⟩ := h
  exact m.ne_new hq
theorem Hs.put {F H : Hp} {t q : Addr} {n : Nat} {u : HO} (h : Hs F H t n) (hq : t ≠ q) : Hs F (upd H q u) t n := by
  obtain ⟨bs, l, m⟩ := h
  exact ⟨bs, l, m.oth hq⟩
theorem Hs.set {F H : Hp} {t p : Addr} {n : Nat} {cs : List Bool} (h : Hs F H t n) (hp : t = p → cs.length = n) (m : Mu F H p (.lst (cs.map V.bl))) {j : Nat} : Hs F (upd H p (.lst ((cs.map V.bl).set j (V.bl true)))) t n := by
  by_cases e : t = p
  · subst e
    refine ⟨cs.set j true, by rw [List.length_set]; exact hp rfl, ?_⟩
    rw [List.map_set]
    exact m.wr
  · obtain ⟨bs, l, m'⟩ := h
    exact ⟨bs, l, m'.oth e⟩
theorem ixN_in {n : Nat} {i : Int} (h0 : 0 ≤ i) (h1 : i < (n : Int)) : ixN n i = some i.toNat := by
  unfold ixN
  rw [if_pos h0, if_pos h1]
theorem u_emp {K : PySem.W.Frag} {H : Hp} {a p : Addr} {bs : List Bool} {Q : VK} (ha : SqL K H a (bs.map V.bl)) (hp : SqL K H p []) (hl : bs.length ≤ 1000) (q : Q (.bl (decide (bs.length = 0))) H) : rEqD K (.ref a) (.ref p) H Q := by
  have key : ∀ bs : List Bool, DpAll K H (bs.map V.bl) (bs.map PyData.bool) := by
    intro bs
    induction bs with
    | nil => exact .nil
    | cons b bs ih => exact .cons (.bl b) ih
  refine ⟨.list (bs.map PyData.bool), .list [], .lst ha (key bs), .lst hp .nil, ?_, ?_, ?_⟩
  · refine good_shaped (good_list (by rw [List.length_map]; omega) fun d hd => ?_) (Nat.le_trans (depth_list (n := 0) fun d hd => ?_) (by decide))
    · obtain ⟨b, _, rfl⟩ := List.mem_map.mp hd
      rfl
    · obtain ⟨b, _, rfl⟩ := List.mem_map.mp hd
      exact Nat.le_refl _
  · exact good_shaped rfl (by decide)
  · have e : PyData.eqv (.list (bs.map PyData.bool)) (.list []) = decide (bs.length = 0) := by
      cases bs with
      | nil => rfl
      | cons b bs => rfl
    rw [e]
    exact q
def φany_row (K : PySem.W.Frag) : V → V → V → V → Hp → VK → Prop := fun x y z u H Q => ∃ (b hd t0 t1 : Addr) (n0 n1 : Nat) (f : Bool) (wd : Int) (F : Hp), x = .ref b ∧ y = .ref hd ∧ z = .bl f ∧ u = .int wd ∧ Same F H ∧ Bag K F H b ∧
  SqL K F hd [.ref t0, .ref t1] ∧ Hs F H t0 n0 ∧ Hs F H t1 n1 ∧ t0 ≠ t1 ∧ b ≠ t0 ∧ b ≠ t1 ∧ n0 ≤ 1000 ∧ n1 ≤ 1000 ∧ 0 ≤ wd ∧ wd ≤ 5000 ∧
  ∀ (v : V) (F2 H2 : Hp), Gr [b, t0, t1] F H F2 H2 → Bag K F2 H2 b → Hs F2 H2 t0 n0 → Hs F2 H2 t1 n1 → (v = .non ∨ ∃ r : PRow, Dp K F2 v r.d ∧ r.ok ∧ (r.size : Int) ≤ wd) → Q v H2
def φany_plan (K : PySem.W.Frag) : V → V → V → V → V → V → V → Hp → VK → Prop := fun x1 x2 x3 x4 x5 x6 x7 H Q => ∃ (b : Addr) (n big slots rows most : Int) (f : Bool) (F : Hp), x1 = .ref b ∧ x2 = .int n ∧ x3 = .int big ∧ x4 = .int slots ∧ x5 = .int rows ∧ x6 = .bl f ∧ x7 = .int most ∧ Same F H ∧ Bag K F H b ∧
  0 ≤ n ∧ n ≤ big ∧ big ≤ 400 ∧ 0 ≤ slots ∧ slots ≤ 400 ∧ 0 ≤ rows ∧ rows ≤ 1000 ∧ 0 ≤ most ∧ most ≤ 5000 ∧
  ∀ (a : Addr) (rs : List PRow) (F2 H2 : Hp), Gr [b] F H F2 H2 → Bag K F2 H2 b → NewL K H F2 H2 a (rs.map PRow.d) → (∀ r ∈ rs, r.ok) → (rs.map PRow.size).sum ≤ 6000 → rs.length ≤ 2000 → Q (.ref a) H2
/-- four numbers: n, big, slots, rows -/
def φshape (K : PySem.W.Frag) : V → Hp → VK → Prop := fun x H Q => ∃ (b : Addr) (F : Hp), x = .ref b ∧ Same F H ∧ Bag K F H b ∧
  ∀ (t : Addr) (n big slots rows : Int) (F2 H2 : Hp), Gr [b] F H F2 H2 → Bag K F2 H2 b → F2 t = some (.tup [.int n, .int big, .int slots, .int rows]) → 0 ≤ n → n ≤ big → big ≤ 400 → 0 ≤ slots → slots ≤ 400 → 0 ≤ rows → rows ≤ 1000 → Q (.ref t) H2
theorem size_snoc (rs : List PRow) (r : PRow) : ((rs ++ [r]).map PRow.size).sum = (rs.map PRow.size).sum + r.size := by
  rw [List.map_append, List.sum_append]
  rfl
theorem ok_snoc {rs : List PRow} {r : PRow} (h : ∀ x ∈ rs, x.ok) (hr : r.ok) : ∀ x ∈ rs ++ [r], x.ok := by
  intro x hx
  rcases List.mem_append.mp hx with h1 | h1
  · exact h x h1
  · rw [List.mem_singleton.mp h1]
    exact hr
theorem row_at {K : PySem.W.Frag} {F : Hp} {us : List V} {rs : List PRow} {i : Nat} {x : V} (h : DpAll K F us (rs.map PRow.d)) (hx : us[i]? = some x) : ∃ r, rs[i]? = some r ∧ Dp K F x r.d := by
  have hl := dpa_len h
  have hi := (List.getElem?_eq_some_iff.mp hx).1
  rw [List.length_map] at hl
  have hr : rs[i]? = some rs[i] := List.getElem?_eq_getElem (by omega)
  obtain ⟨v, hv, dv⟩ := dpa_get (i := i) (d := rs[i].d) h (by rw [List.getElem?_map, hr]; rfl)
  rw [hx] at hv
  rw [Option.some.inj hv]
  exact ⟨_, hr, dv⟩
theorem flat_len : ∀ (rs : List PRow) (i : Nat), ((rs.take i).flatMap PRow.writes).length ≤ (rs.map PRow.size).sum
  | [], i => by simp
  | r :: rs, 0 => by simp
  | r :: rs, i + 1 => by
    rw [List.take_succ_cons, List.flatMap_cons, List.length_append, PRow.writes_len, List.map_cons, List.sum_cons]
    exact Nat.add_le_add_left (flat_len rs i) _
theorem flat_take {rs : List PRow} {i : Nat} {r : PRow} (h : rs[i]? = some r) : (rs.take (i + 1)).flatMap PRow.writes = (rs.take i).flatMap PRow.writes ++ r.writes := by
  rw [List.take_add_one, h, List.flatMap_append]
  simp
theorem rev_get {n i : Nat} (h : i < n) : (List.range n).reverse[i]? = some (n - 1 - i) := by
  rw [List.getElem?_reverse (by rw [List.length_range]; exact h), List.length_range, List.getElem?_range (by omega)]
theorem wr_good {a b : Str} {i : Int} {x : PyData} (ha : okS a ∧ a.length ≤ 100) (hb : okS b ∧ b.length ≤ 100) (hx : good x = true) : good (wr a i b x) = true := by
  refine good_tuple (by simp) fun d hd => ?_
  simp only [List.mem_cons, List.not_mem_nil, or_false] at hd
  rcases hd with rfl | rfl | rfl | rfl
  · rw [good, ha.1, decide_eq_true (show a.length ≤ 100000 by omega)]
    rfl
  · rfl
  · rw [good, hb.1, decide_eq_true (show b.length ≤ 100000 by omega)]
    rfl
  · exact hx
theorem wr_depth {a b : Str} {i : Int} {x : PyData} (hx : x.depth = 0) : (wr a i b x).depth ≤ 1 := by
  refine depth_tuple fun d hd => ?_
  simp only [List.mem_cons, List.not_mem_nil, or_false] at hd
  rcases hd with rfl | rfl | rfl | rfl
  · exact Nat.le_refl _
  · exact Nat.le_refl _
  · exact Nat.le_refl _
  · omega
theorem cell_ok : okS "cell" ∧ ("cell" : Str).length ≤ 100 := by decide +kernel
theorem slot_ok : okS "slot" ∧ ("slot" : Str).length ≤ 100 := by decide +kernel
theorem sign_ok : okS "sign" ∧ ("sign" : Str).length ≤ 100 := by decide +kernel
theorem str_good {z : Str} (h : okS z) (hl : z.length ≤ 100000) : good (.str z) = true := by
  rw [good, h, decide_eq_true hl]
  rfl
theorem writes_good {r : PRow} (h : r.ok) : ∀ d ∈ r.writes, good d = true ∧ d.depth ≤ 1 := by
  intro d hd
  cases r with
  | put to s =>
    obtain ⟨k, hk, rfl⟩ := List.mem_map.mp hd
    have hk2 := List.mem_range.mp hk
    exact ⟨wr_good cell_ok sign_ok (str_good (ok_sign h.1 hk2) (by show 1 ≤ 100000; decide)), wr_depth rfl⟩
  | mv w to a n =>
    obtain ⟨k, hk, rfl⟩ := List.mem_map.mp hd
    refine ⟨wr_good ?_ ?_ rfl, wr_depth rfl⟩
    · cases w <;> first | exact cell_ok | exact slot_ok
    · cases w <;> first | exact cell_ok | exact slot_ok
theorem row_good {r : PRow} (h : r.ok) : good r.d = true ∧ r.d.depth ≤ 1 := by
  cases r with
  | put to s =>
    constructor
    · refine good_tuple (by simp) fun d hd => ?_
      simp only [List.mem_cons, List.not_mem_nil, or_false] at hd
      rcases hd with rfl | rfl | rfl
      · decide +kernel
      · rfl
      · exact str_good h.1 (Nat.le_trans h.2 (by decide))
    · refine depth_tuple fun d hd => ?_
      simp only [List.mem_cons, List.not_mem_nil, or_false] at hd
      rcases hd with rfl | rfl | rfl <;> exact Nat.le_refl _
  | mv w to a n =>
    constructor
    · refine good_tuple (by simp) fun d hd => ?_
      simp only [List.mem_cons, List.not_mem_nil, or_false] at hd
      rcases hd with rfl | rfl | rfl | rfl
      · cases w <;> decide +kernel
      · rfl
      · rfl
      · rfl
    · refine depth_tuple fun d hd => ?_
      simp only [List.mem_cons, List.not_mem_nil, or_false] at hd
      rcases hd with rfl | rfl | rfl | rfl <;> exact Nat.le_refl _
theorem all_good {rs : List PRow} (h : ∀ r ∈ rs, r.ok) (hl : rs.length ≤ 100000) : good (.list (rs.map PRow.d)) = true ∧ (PyData.list (rs.map PRow.d)).depth ≤ 2 := by
  constructor
  · refine good_list (by rw [List.length_map]; exact hl) fun d hd => ?_
    obtain ⟨r, hr, rfl⟩ := List.mem_map.mp hd
    exact (row_good (h r hr)).1
  · refine depth_list fun d hd => ?_
    obtain ⟨r, hr, rfl⟩ := List.mem_map.mp hd
    exact (row_good (h r hr)).2
theorem all_wgood {rs : List PRow} (h : ∀ r ∈ rs, r.ok) (hl : (rs.map PRow.size).sum ≤ 100000) : good (.list (rs.flatMap PRow.writes)) = true ∧ (PyData.list (rs.flatMap PRow.writes)).depth ≤ 2 := by
  constructor
  · refine good_list ?_ fun d hd => ?_
    · have := flat_len rs rs.length
      rw [List.take_length] at this
      omega
    · obtain ⟨r, hr, hd⟩ := List.mem_flatMap.mp hd
      exact (writes_good (h r hr) d hd).1
  · refine depth_list fun d hd => ?_
    obtain ⟨r, hr, hd⟩ := List.mem_flatMap.mp hd
    exact (writes_good (h r hr) d hd).2
def φlaw (K : PySem.W.Frag) : V → Hp → VK → Prop := fun x H Q => ∃ (a : Addr) (ns : List Int), x = .ref a ∧ SqL K H a (ns.map V.int) ∧ ns.length ≤ 63 ∧ ∀ H', Q (.bl true) H'
theorem law_start {K : PySem.W.Frag} {H : Hp} (a : Addr) (ns : List Int) (hl : ns.length ≤ 63) (hO : Only H) (hS : SqL K H a (ns.map V.int)) : (S1 (φlaw K)) [.ref a] H (fun v _ => v = .bl true) fun _ _ _ => False := ⟨a, ns, rfl, hS, hl, fun _ => rfl⟩
end R

namespace R
open PySem PySem.Spec PyProof.Rows L2
section
variable {X : Cx} {pins : List (Addr × Obj)} {σ : L2.St} {H : Hp} {s : Shared} {a b : Addr} {A : Around} {E : Value → Shared → Prop}
theorem d_setdT {kvs : List (List Key × V)} {k : List Key} {d : V} {r : Value} {Q : Value → Shared → Prop} (hu : A.units + 1 < cLine) (I : Inv X pins σ H s) (e : H a = some (.dT kvs)) (eb : H b = some (.tup (k.map kV))) (rd : RelV d r) (hl : kvs.length < sizeLine)
    (h1 : ∀ v, valV kvs k = some v → ∀ w' s', Inv X pins σ H s' → RelV v w' → Q w' s') (h2 : valV kvs k = none → ∀ w' s', Inv X pins σ (upd H a (.dT (putK kvs k d))) s' → RelV d w' → Q w' s') :
    wpAny (model X.prog X.w) A (call (.builtin "dict.setdefault") [.ref a, .ref b, r]) Q E s := by
  obtain ⟨z, hd, xs, rel, dd⟩ := dt_of I.hok e
  have hz : xs.length ≤ sizeLine := by rw [← Paired.length rel]; exact z
  have hl2 : (putK kvs k d).length ≤ sizeLine := by have := length_putK kvs k d; omega
  refine PySem.call_setdefault_heap (hsz := hz) (tupleKind_room_in1 hu) (key_of I.hok eb) hd dd (fun p hp => ?_) fun hn h' dd' hs => ?_
  · have q := rel.val k
    rw [hp] at q
    cases q0 : valV kvs k with
    | none =>
      rw [q0] at q
      exact (show False from q).elim
    | some v0 =>
      rw [q0] at q
      exact h1 v0 q0 _ _ (I.tok _) q
  · have q := rel.val k
    rw [hn] at q
    cases q0 : valV kvs k with
    | some v0 =>
      rw [q0] at q
      exact (show False from q).elim
    | none =>
      obtain ⟨q1, es, ep, hq, h2', h3, h4, h5', h5⟩ := dd'
      refine h2 q0 _ _ (d_write I (by rw [e]; exact True.intro) hs ⟨q1, hq⟩ ⟨hl2, hd, _, (rel.put k eb rd).keeps fun c ys ec => ?_, q1, es, ep, hq, h2', h3, h4, h5⟩) rd
      rw [upd_ne (ne_of ec e (fun z => nomatch z))]
      exact ec
end
/-- d.setdefault(t, z), t a tuple -/
def tDSetT (td ty tx : TE) : TE := fun σ H Q => td σ H fun x H1 => ∃ a, x = .ref a ∧ IsD H1 a ∧ ty σ H1 fun y H2 => tx σ H2 fun z H3 => ∃ (b : Addr) (kvs : List (List Key × V)) (k : List Key), H3 a = some (.dT kvs) ∧ y = .ref b ∧ H3 b = some (.tup (k.map kV)) ∧ kvs.length < sizeLine ∧
  (∀ v, valV kvs k = some v → Q v H3) ∧ (valV kvs k = none → Q z (upd H3 a (.dT (putK kvs k z))))
section
variable {X : Cx} {o e f : Expr} {td ty tx : TE} {apos cpos : Pos}
theorem pe_dsetT (hu : X.A.units + 1 < cLine) (ho : PE X o td) (he : PE X e ty) (hf : PE X f tx) (m : M2 X o "setdefault" apos e f cpos) : PE X (.Call (.Attribute o "setdefault" apos) [e, f] [] cpos) (tDSetT td ty tx) := by
  refine ⟨fun pins s σ H Q I h => ?_⟩
  refine wpAny_Call_method m.base m.few m.line PySem.F.plainAttrs_dict PySem.F.slot_dict_setdefault PySem.F.type_dict_setdefault (thn (ho.run pins s σ H _ I h) fun u s1 ⟨x, H1, I1, rx, a, ex, d, q1⟩ => ?_)
  subst ex
  obtain rfl : u = Value.ref a := rx
  obtain ⟨t1, t2, _⟩ := isD_at I1 d
  refine ⟨t1, t2, ?_⟩
  rw [m.trees]
  refine Calls.callWith_builtin rfl (Calls.evalArgs_plain (Calls.spliced_cons (thn (he.run pins s1 σ H1 _ I1 q1) fun iv s2 ⟨y, H2, I2, ry, q2⟩ =>
    Calls.spliced_cons (thn (hf.run pins s2 σ H2 _ I2 q2) fun fv s3 ⟨z, H3, I3, rz, b, kvs, k, ea, ey, eb, hl, q3, q4⟩ => Calls.spliced_nil ?_))))
  subst ey
  obtain rfl : iv = Value.ref b := ry
  exact d_setdT hu I3 ea eb rz hl (fun v hv w' s4 I4 rw' => ⟨v, _, I4, rw', q3 v hv⟩) fun hn w' s4 I4 rw' => ⟨z, _, I4, rw', q4 hn⟩
end
section
variable {X : Cx}
/-- sorted(d) of a dict of int keys, any number of them -/
def rSortD : List V → Hp → VK → Prop := fun xs H Q => ∃ (a : Addr) (kvs : List (Key × V)) (ks : List Int), xs = [.ref a] ∧ Rd H a (.dK kvs) ∧ kvs.map (·.1) = ks.map Sum.inl ∧
    ∀ (ys : List Int) (p : Addr), ys.Perm ks → ys.Pairwise (· ≤ ·) → H p = none → Q (.ref p) (upd H p (.lst (ys.map V.int)))
theorem clSortD (hcalm : X.calm = true := by rfl) : CallR X (.builtin "sorted") rSortD := by
  intro pins s σ H xs us Q I r q
  obtain ⟨a, kvs, ks, ex, hd, hks, q⟩ := q
  subst ex
  obtain ⟨u, eu, rx⟩ := vals1 r
  subst eu
  cases rx
  obtain ⟨z, lo, vs, rel, dd⟩ := dk_rd I.hok hd
  obtain ⟨ep, hat⟩ := dd.dictAt
  have hkeys : vs.map (·.1) = ks.map Sum.inl := rel.keys.symm.trans hks
  have hl : vs.length = ks.length := by
    have e := congrArg List.length hkeys
    rw [List.length_map, List.length_map] at e
    exact e
  have h16 : vs.length ≤ sizeLine := by rw [← rel.length]; exact z
  refine Calls.call_function_entry PyProof.Rows.kind_sorted PyProof.Rows.plain_sorted PyProof.Rows.entry_sorted (PyProof.Rows.args_sorted1 _) ?_
  unfold Builtin.«sorted»
  refine wpAny_bind (m := checkCount "sorted" 1 1 _) (wpAny_pure ?_)
  refine wpAny_bind (PySem.W.kdu_collect (A := X.A.in1) (PySem.W.kdl_dict (knd := mixKind X.prog X.w) (kvs := vs) (ep := ep) lo) (I.ok.hd hcalm) hat h16 fun h' tk acc hk hacc => ?_)
  have hal : acc.toList.length = ks.length := by rw [Array.length_toList, hacc.1, hl]
  have hS : IntsAre acc.toList ks := ints_each hal fun j v e => by
    obtain ⟨k, x, e1, e2⟩ := hacc.2 j v (by rw [← Array.getElem?_toList]; exact e)
    have e3 : (vs.map (·.1))[j]? = some k := by rw [List.getElem?_map, e1]; rfl
    rw [hkeys, List.getElem?_map] at e3
    cases e4 : ks[j]? with
    | none => rw [e4] at e3; cases e3
    | some y =>
      rw [e4] at e3
      have e5 : Sum.inl y = k := Option.some.inj e3
      subst e5
      rcases keyIs_shape (show keyIs (Sum.inl y) v = true from e2) with ⟨i, t, ek, ev⟩ | ⟨z, t, ek, ev⟩
      · cases ek
        exact ⟨y, t, rfl, ev⟩
      · cases ek
  have I1 : Inv X pins σ H { s with heap := h', toks := tk } := I.kept hk
  have hz2 : acc.toList.length ≤ sizeLine := by rw [hal, ← hl]; exact h16
  refine wpAny_bind (wpAny_newList ?_ hz2)
  have hoL : (h'.push (seqObj "list" acc.toList.toArray 0)).get? h'.objs.size = some (seqObj "list" acc.toList.toArray 0) := Heap.get?_push_size _ rfl
  show wpAny _ _ _ _ _ { s with heap := h'.push (seqObj "list" acc.toList.toArray 0), toks := tk }
  refine wpAny_bind (wpAny_holding (wpAny_call_entry PyProof.Rows.slot_list_sort ⟨_, hoL, rfl⟩ PyProof.Rows.entry_list_sort
    (SrtO.list_sort_ord (s := { s with heap := h'.push (seqObj "list" acc.toList.toArray 0), toks := tk }) SrtO.swo_int hoL hz2 (fun h2 => SrtO.ints_sortable hS h2) fun out h1 h2 => ⟨_, rfl, ?_⟩) (PyProof.Rows.args_list_sort _)))
  obtain ⟨k1, k2, k3⟩ := SrtO.ints_out hS h1 h2
  obtain ⟨e', he'⟩ := PyProof.Rows.sortedHeap_at (vs := acc.toList) (out := out.toArray) hoL
  have hlen : ((out.map SrtO.iv).map V.int).length ≤ sizeLine := by
    rw [List.length_map, k2.length_eq, ← hl]
    exact h16
  refine wpAny_pure ⟨_, rfl, .ref h'.objs.size, upd H h'.objs.size (.lst ((out.map SrtO.iv).map V.int)), I1.laid (t' := tk) (fun b u e => ?_) (Nat.le_refl _)
    (show ObjOk X.prog X.w _ _ _ (.lst ((out.map SrtO.iv).map V.int)) from ⟨hlen, out, e', vals_of_ints k1, he'⟩), rfl, q _ _ k2 k3 (I1.hok.fresh (Nat.le_refl _))⟩
  have hb : b < h'.objs.size := Heap.lt_size e
  rw [PyProof.Rows.sortedHeap_old (Nat.ne_of_lt hb) (by rw [size_push']; exact Nat.lt_succ_of_lt hb)]
  exact Heap.get?_push_of_some _ e
end
end R

namespace R
open PySem L2
/-! ### dicts in a reading -/
def gDGet (x y : V) (H : Hp) (Q : VK) : Prop := ∃ a v, x = .ref a ∧ DGet H a y (some v) ∧ Q v H
def gDIn (x y : V) (H : Hp) (Q : VK) : Prop := ∃ a o, x = .ref a ∧ DGet H a y o ∧ Q (.bl o.isSome) H
def gDNotIn (x y : V) (H : Hp) (Q : VK) : Prop := ∃ a o, x = .ref a ∧ DGet H a y o ∧ Q (.bl (!o.isSome)) H
def gDPut (x y v : V) (H : Hp) (Z : Hp → Prop) : Prop := ∃ a H4, x = .ref a ∧ DPut H a y v H4 ∧ Z H4
section
variable {K : PySem.W.Frag} {σ : L2.St} {H : Hp} {Q : VK} {td ty tv tx te : TE} {x y v : V} {nx bk ct : L2.St → Hp → Prop} {rt : VK} {D p : Addr} {kvs : List (List Key × V)} {ks : List Key}
theorem w_dnewT (q : ∀ p, H p = none → Q (.ref p) (upd H p (.dT []))) : tDNewT σ H Q := q
theorem w_dnewK (q : ∀ p, H p = none → Q (.ref p) (upd H p (.dK []))) : tDNewK σ H Q := q
theorem w_dget (q : td σ H fun x H1 => ty σ H1 fun y H2 => gDGet x y H2 Q) : tDGet td ty σ H Q := q
theorem w_din (q : ty σ H fun y H1 => td σ H1 fun x H2 => gDIn x y H2 Q) : tDIn ty td σ H Q := q
theorem w_dnotin (q : ty σ H fun y H1 => td σ H1 fun x H2 => gDNotIn x y H2 Q) : tDNotIn ty td σ H Q := q
theorem w_dput (q : tv σ H fun v H1 => td σ H1 fun x H2 => ty σ H2 fun y H3 => gDPut x y v H3 fun H4 => nx σ H4) : sDPut td ty tv ⟨nx, rt, bk, ct⟩ σ H := q
theorem w_dsetT (q : td σ H fun x H1 => ∃ a, x = .ref a ∧ IsD H1 a ∧ ty σ H1 fun y H2 => tx σ H2 fun z H3 => ∃ (b : Addr) (kvs : List (List Key × V)) (k : List Key), H3 a = some (.dT kvs) ∧ y = .ref b ∧ H3 b = some (.tup (k.map kV)) ∧ kvs.length < sizeLine ∧
  (∀ v, valV kvs k = some v → Q v H3) ∧ (valV kvs k = none → Q z (upd H3 a (.dT (putK kvs k z))))) : tDSetT td ty tx σ H Q := q
theorem w_dgetT (h : H D = some (.dT kvs)) (hp : H p = some (.tup (ks.map kV))) (e : valV kvs ks = some v) (q : Q v H) : gDGet (.ref D) (.ref p) H Q := ⟨D, v, rfl, e ▸ DGet.t h hp, q⟩
theorem w_dinT (h : H D = some (.dT kvs)) (hp : H p = some (.tup (ks.map kV))) (e : valV kvs ks = some v) (q : Q (.bl true) H) : gDIn (.ref D) (.ref p) H Q := ⟨D, some v, rfl, e ▸ DGet.t h hp, q⟩
theorem w_dinF (h : H D = some (.dT kvs)) (hp : H p = some (.tup (ks.map kV))) (e : valV kvs ks = none) (q : Q (.bl false) H) : gDIn (.ref D) (.ref p) H Q := ⟨D, none, rfl, e ▸ DGet.t h hp, q⟩
theorem w_dnotinT (h : H D = some (.dT kvs)) (hp : H p = some (.tup (ks.map kV))) (e : valV kvs ks = some v) (q : Q (.bl false) H) : gDNotIn (.ref D) (.ref p) H Q := ⟨D, some v, rfl, e ▸ DGet.t h hp, q⟩
theorem w_dnotinF (h : H D = some (.dT kvs)) (hp : H p = some (.tup (ks.map kV))) (e : valV kvs ks = none) (q : Q (.bl true) H) : gDNotIn (.ref D) (.ref p) H Q := ⟨D, none, rfl, e ▸ DGet.t h hp, q⟩
theorem w_dputT {Z : Hp → Prop} (h : H D = some (.dT kvs)) (hp : H p = some (.tup (ks.map kV))) (hl : kvs.length < sizeLine) (q : Z (upd H D (.dT (putK kvs ks v)))) : gDPut (.ref D) (.ref p) v H Z := ⟨D, _, rfl, DPut.t h hp hl, q⟩
theorem w_dputI {Z : Hp → Prop} {kvs : List (Key × V)} {i : Int} (h : H D = some (.dK kvs)) (hl : kvs.length < sizeLine) (q : Z (upd H D (.dK (putK kvs (.inl i) v)))) : gDPut (.ref D) (.int i) v H Z := ⟨D, _, rfl, DPut.k (k := .inl i) h hl, q⟩
end
section
variable {X : Cx} {K : PySem.W.Frag}
theorem clSortI (h : X.K = K := by rfl) : CallR X (.builtin "sorted") (rSortedI K) := by subst h; exact cr_sortedI
end
theorem w_rg2 {σ : L2.St} {H : Hp} {ta tb : TE} {R : Int → Int → Hp → Prop} (q : ta σ H fun x H1 => tb σ H1 fun y H2 => ∃ i j, x = .int i ∧ y = .int j ∧ R i j H2) : tRg2 ta tb σ H R := q
/-! ### writes as acts -/
structure WAct where
  w : Str
  n : Int
  s : Str
  x : Key
def keyD : Key → PyData
  | .inl i => .int i
  | .inr z => .str z
def WAct.d (t : WAct) : PyData := .tuple [.str t.w, .int t.n, .str t.s, keyD t.x]
def WAct.wk (t : WAct) : List Key := [.inr t.w, .inl t.n]
def WAct.rk (t : WAct) : List Key := [.inr t.s, t.x]
def keyOk : Key → Prop
  | .inl _ => True
  | .inr z => okS z ∧ z.length ≤ 100
def WAct.ok (t : WAct) : Prop := (okS t.w ∧ t.w.length ≤ 100) ∧ (okS t.s ∧ t.s.length ≤ 100) ∧ keyOk t.x
theorem dp_key {K : PySem.W.Frag} {F : Hp} {x : V} {k : Key} (h : Dp K F x (keyD k)) : x = kV k := by
  cases k with
  | inl i => exact dp_int h
  | inr z => exact dp_str h
theorem key_dp {K : PySem.W.Frag} {F : Hp} (k : Key) : Dp K F (kV k) (keyD k) := by
  cases k with
  | inl i => exact .int i
  | inr z => exact .str z
theorem dp_act {K : PySem.W.Frag} {F : Hp} {x : V} {t : WAct} (h : Dp K F x t.d) : ∃ p, x = .ref p ∧ SqT K F p [.str t.w, .int t.n, .str t.s, kV t.x] := by
  obtain ⟨p, v1, v2, v3, v4, rfl, hs, h1, h2, h3, h4⟩ := dp_tup4 h
  rw [dp_str h1, dp_int h2, dp_str h3, dp_key h4] at hs
  exact ⟨p, rfl, hs⟩
theorem act_good {t : WAct} (h : t.ok) : good t.d = true ∧ t.d.depth ≤ 1 := by
  obtain ⟨⟨h1, h2⟩, ⟨h3, h4⟩, h5⟩ := h
  constructor
  · refine good_tuple (by simp) fun d hd => ?_
    simp only [List.mem_cons, List.not_mem_nil, or_false] at hd
    rcases hd with rfl | rfl | rfl | rfl
    · exact str_good h1 (by omega)
    · rfl
    · exact str_good h3 (by omega)
    · revert h5
      cases t.x with
      | inl i => intro _; rfl
      | inr z => intro h5; exact str_good h5.1 (Nat.le_trans h5.2 (by decide))
  · refine depth_tuple fun d hd => ?_
    simp only [List.mem_cons, List.not_mem_nil, or_false] at hd
    rcases hd with rfl | rfl | rfl | rfl
    · exact Nat.le_refl _
    · exact Nat.le_refl _
    · exact Nat.le_refl _
    · cases t.x <;> exact Nat.le_refl _
theorem acts_good {ts : List WAct} (h : ∀ t ∈ ts, t.ok) (hl : ts.length ≤ 100000) : good (.list (ts.map WAct.d)) = true ∧ (PyData.list (ts.map WAct.d)).depth ≤ 2 := by
  constructor
  · refine good_list (by rw [List.length_map]; exact hl) fun d hd => ?_
    obtain ⟨r, hr, rfl⟩ := List.mem_map.mp hd
    exact (act_good (h r hr)).1
  · refine depth_list fun d hd => ?_
    obtain ⟨r, hr, rfl⟩ := List.mem_map.mp hd
    exact (act_good (h r hr)).2
def natsD (ms : List Nat) : PyData := .list (ms.map fun k => .int (k : Nat))
theorem dpa_nV {K : PySem.W.Frag} {F : Hp} : ∀ ms : List Nat, DpAll K F (nV ms) (ms.map fun k => PyData.int (k : Nat))
  | [] => .nil
  | m :: ms => .cons (.int _) (dpa_nV ms)
theorem nats_good {ms : List Nat} (hl : ms.length ≤ 100000) : good (natsD ms) = true ∧ (natsD ms).depth ≤ 1 := by
  constructor
  · refine good_list (by rw [List.length_map]; exact hl) fun d hd => ?_
    obtain ⟨r, hr, rfl⟩ := List.mem_map.mp hd
    rfl
  · refine depth_list fun d hd => ?_
    obtain ⟨r, hr, rfl⟩ := List.mem_map.mp hd
    exact Nat.le_refl _
/-! ### the fault of a row of acts -/
def getN (kvs : List (List Key × Nat)) (k : List Key) : Option Nat := (kvs.find? fun kv => decide (kv.1 = k)).map (·.2)
def toV (kvs : List (List Key × Nat)) : List (List Key × V) := kvs.map fun p => (p.1, V.int (p.2 : Nat))
theorem valV_toV (k : List Key) : ∀ kvs : List (List Key × Nat), valV (toV kvs) k = (getN kvs k).map fun n => V.int (n : Nat)
  | [] => rfl
  | p :: r => by
    have ih := valV_toV k r
    by_cases e : p.1 = k
    · rw [show toV (p :: r) = (p.1, V.int (p.2 : Nat)) :: toV r from rfl, valV_pos (p := (p.1, V.int (p.2 : Nat))) e]
      simp [getN, List.find?_cons, e]
    · rw [show toV (p :: r) = (p.1, V.int (p.2 : Nat)) :: toV r from rfl, valV_neg (p := (p.1, V.int (p.2 : Nat))) e, ih]
      simp [getN, List.find?_cons, e]
theorem valV_some {kvs : List (List Key × Nat)} {k : List Key} {n : Nat} (e : getN kvs k = some n) : valV (toV kvs) k = some (.int (n : Nat)) := by rw [valV_toV, e]; rfl
theorem valV_none {kvs : List (List Key × Nat)} {k : List Key} (e : getN kvs k = none) : valV (toV kvs) k = none := by rw [valV_toV, e]; rfl
theorem put_toV {kvs : List (List Key × Nat)} {k : List Key} {j : Nat} (e : getN kvs k = none) : putK (toV kvs) k (.int (j : Nat)) = toV (kvs ++ [(k, j)]) := by
  rw [putK_new _ (valV_none e)]
  simp [toV]
theorem getN_mem {kvs : List (List Key × Nat)} {k : List Key} {n : Nat} (e : getN kvs k = some n) : ∃ p ∈ kvs, p.2 = n := by
  unfold getN at e
  cases h : kvs.find? fun kv => decide (kv.1 = k) with
  | none => rw [h] at e; cases e
  | some p =>
    rw [h] at e
    exact ⟨p, List.mem_of_find?_eq_some h, Option.some.inj e⟩
def stepN (kvs : List (List Key × Nat)) (t : WAct) (j : Nat) : List (List Key × Nat) := if t.s = "sign" then kvs else
  match getN kvs t.rk with
  | some _ => kvs
  | none => kvs ++ [(t.rk, j)]
theorem step_sign {kvs : List (List Key × Nat)} {t : WAct} {j : Nat} (h : t.s = "sign") : stepN kvs t j = kvs := by unfold stepN; rw [if_pos h]
theorem step_old {kvs : List (List Key × Nat)} {t : WAct} {j n : Nat} (h : ¬ t.s = "sign") (e : getN kvs t.rk = some n) : stepN kvs t j = kvs := by unfold stepN; rw [if_neg h, e]
theorem step_new {kvs : List (List Key × Nat)} {t : WAct} {j : Nat} (h : ¬ t.s = "sign") (e : getN kvs t.rk = none) : stepN kvs t j = kvs ++ [(t.rk, j)] := by unfold stepN; rw [if_neg h, e]
theorem step_mem {kvs : List (List Key × Nat)} {t : WAct} {j : Nat} {p : List Key × Nat} (h : p ∈ stepN kvs t j) : p ∈ kvs ∨ p.2 = j := by
  unfold stepN at h
  split at h
  · exact .inl h
  · split at h
    · exact .inl h
    · rcases List.mem_append.mp h with h | h
      · exact .inl h
      · rw [List.mem_singleton.mp h]
        exact .inr rfl
def faultGo : List WAct → List (List Key × Nat) → Nat → Option (Nat × Nat)
  | [], _, _ => none
  | t :: ts, kvs, j => match getN kvs t.wk with
    | some i => some (i, j)
    | none => faultGo ts (stepN kvs t j) (j + 1)
theorem go_hit {t : WAct} {ts : List WAct} {kvs : List (List Key × Nat)} {j i : Nat} (e : getN kvs t.wk = some i) : faultGo (t :: ts) kvs j = some (i, j) := by rw [faultGo, e]
theorem go_miss {t : WAct} {ts : List WAct} {kvs : List (List Key × Nat)} {j : Nat} (e : getN kvs t.wk = none) : faultGo (t :: ts) kvs j = faultGo ts (stepN kvs t j) (j + 1) := by rw [faultGo, e]
def stretch (acts : List WAct) (first last : Nat) : List WAct := (acts.drop first).take (last - first)
def faultFrom (acts : List WAct) (first last : Nat) : Option (Nat × Nat) := faultGo (stretch acts first last) [] first
def firstFault (acts : List WAct) : Nat → List Nat → Option (Nat × Nat)
  | _, [] => none
  | first, l :: ls => match faultFrom acts first l with
    | some p => some p
    | none => firstFault acts l ls
theorem first_hit {acts : List WAct} {first l : Nat} {ls : List Nat} {p : Nat × Nat} (e : faultFrom acts first l = some p) : firstFault acts first (l :: ls) = some p := by rw [firstFault, e]
theorem first_miss {acts : List WAct} {first l : Nat} {ls : List Nat} (e : faultFrom acts first l = none) : firstFault acts first (l :: ls) = firstFault acts l ls := by rw [firstFault, e]
theorem stretch_len (acts : List WAct) (first last : Nat) (hl : last ≤ acts.length) : (stretch acts first last).length = last - first := by
  unfold stretch
  rw [List.length_take, List.length_drop]
  omega
theorem stretch_at {acts : List WAct} {first last i : Nat} (h : i < last - first) (hl : last ≤ acts.length) : ∃ t, acts[first + i]? = some t ∧ (stretch acts first last).drop i = t :: (stretch acts first last).drop (i + 1) := by
  have h1 : i < (stretch acts first last).length := by rw [stretch_len _ _ _ hl]; exact h
  refine ⟨(stretch acts first last)[i], ?_, List.drop_eq_getElem_cons h1⟩
  have e : (stretch acts first last)[i]? = acts[first + i]? := by
    unfold stretch
    rw [List.getElem?_take_of_lt h, List.getElem?_drop]
  rw [← e]
  exact List.getElem?_eq_getElem h1
theorem go_range : ∀ (ts : List WAct) (kvs : List (List Key × Nat)) (j lo i b : Nat), lo ≤ j → (∀ p ∈ kvs, lo ≤ p.2 ∧ p.2 < j) → faultGo ts kvs j = some (i, b) → lo ≤ i ∧ i < b ∧ b < j + ts.length
  | [], _, _, _, _, _, _, _, e => by rw [faultGo] at e; cases e
  | t :: ts, kvs, j, lo, i, b, hlo, hk, e => by
    cases h : getN kvs t.wk with
    | some n =>
      rw [go_hit h] at e
      have e' := Option.some.inj e
      cases e'
      obtain ⟨p, hp, rfl⟩ := getN_mem h
      have := hk p hp
      rw [List.length_cons]
      exact ⟨this.1, this.2, by omega⟩
    | none =>
      rw [go_miss h] at e
      have := go_range ts (stepN kvs t j) (j + 1) lo i b (by omega) (fun p hp => by
        rcases step_mem hp with hp | hp
        · have := hk p hp
          omega
        · omega) e
      rw [List.length_cons]
      omega
theorem from_range {acts : List WAct} {first last i b : Nat} (hl : last ≤ acts.length) (e : faultFrom acts first last = some (i, b)) : first ≤ i ∧ i < b ∧ b < last := by
  have := go_range (stretch acts first last) [] first first i b (Nat.le_refl _) (fun p hp => by cases hp) e
  rw [stretch_len _ _ _ hl] at this
  omega
/-- a fault as a value -/
def ResV (F : Hp) (v : V) : Option (Nat × Nat) → Prop
  | none => v = .non
  | some (i, j) => ∃ p, v = .ref p ∧ F p = some (.tup [.int (i : Nat), .int (j : Nat)])
theorem ResV.same {F F2 : Hp} {v : V} {o : Option (Nat × Nat)} (h : ResV F v o) (w : Same F F2) : ResV F2 v o := by
  cases o with
  | none => exact h
  | some p =>
    obtain ⟨a, e1, e2⟩ := h
    exact ⟨a, e1, w _ _ e2⟩
def φfault (K : PySem.W.Frag) : V → V → V → Hp → VK → Prop := fun x y z H Q => ∃ (F : Hp) (acts : List WAct) (first last : Nat), y = .int (first : Nat) ∧ z = .int (last : Nat) ∧ Same F H ∧ Dp K F x (.list (acts.map WAct.d)) ∧ first ≤ acts.length ∧ last ≤ acts.length ∧ acts.length ≤ 100000 ∧
  ∀ (v : V) (F2 H2 : Hp), Gr [] F H F2 H2 → ResV F2 v (faultFrom acts first last) → Q v H2
def φmark (K : PySem.W.Frag) : V → V → Hp → VK → Prop := fun x y H Q => ∃ (F : Hp) (acts : List WAct) (m : Addr) (ms : List Nat), y = .ref m ∧ Same F H ∧ Dp K F x (.list (acts.map WAct.d)) ∧ F m = some (.lst (nV ms)) ∧ (∀ k ∈ ms, k ≤ acts.length) ∧ acts.length ≤ 100000 ∧ ms.length ≤ 100000 ∧
  ∀ (v : V) (F2 H2 : Hp), Gr [] F H F2 H2 → ResV F2 v (firstFault acts 0 (ms ++ [acts.length])) → Q v H2
theorem act_at {K : PySem.W.Frag} {F : Hp} {us : List V} {acts : List WAct} {i : Nat} {t : WAct} (h : DpAll K F us (acts.map WAct.d)) (e : acts[i]? = some t) : ∃ p, us[i]? = some (.ref p) ∧ SqT K F p [.str t.w, .int t.n, .str t.s, kV t.x] := by
  obtain ⟨v, gv, dv⟩ := dpa_get (i := i) (d := t.d) h (by rw [List.getElem?_map, e]; rfl)
  obtain ⟨p, rfl, hp⟩ := dp_act dv
  exact ⟨p, gv, hp⟩
/-! ### the law's makers -/
def φnumber (K : PySem.W.Frag) : V → V → V → Hp → VK → Prop := fun x y z H Q => ∃ (b : Addr) (base wide : Int) (F : Hp), x = .ref b ∧ y = .int base ∧ z = .int wide ∧ Same F H ∧ Bag K F H b ∧ 0 < wide ∧ wide < 2 ^ 200 ∧
  ∀ (r : Int) (F2 H2 : Hp), Gr [b] F H F2 H2 → Bag K F2 H2 b → Q (.int r) H2
def φany_writes (K : PySem.W.Frag) : V → V → Hp → VK → Prop := fun x y H Q => ∃ (b : Addr) (many : Int) (F : Hp), x = .ref b ∧ y = .int many ∧ Same F H ∧ Bag K F H b ∧ 0 ≤ many ∧ many ≤ 3000 ∧
  ∀ (a : Addr) (acts : List WAct) (F2 H2 : Hp), Gr [b] F H F2 H2 → Bag K F2 H2 b → Dp K F2 (.ref a) (.list (acts.map WAct.d)) → (∀ t ∈ acts, t.ok) → acts.length ≤ 3000 → (acts.length : Int) ≤ many → Q (.ref a) H2
/-- marks that stay -/
structure Mks (F : Hp) (p : Addr) (n : Nat) (ms : List Nat) : Prop where
  at_ : F p = some (.lst (nV ms))
  ok : ∀ k ∈ ms, 1 ≤ k ∧ k < n
  len : ms.length ≤ 20000
theorem Mks.same {F F2 : Hp} {p : Addr} {n : Nat} {ms : List Nat} (h : Mks F p n ms) (w : Same F F2) : Mks F2 p n ms := ⟨w _ _ h.at_, h.ok, h.len⟩
def φgood_marks (K : PySem.W.Frag) : V → V → V → Hp → VK → Prop := fun x y z H Q => ∃ (b : Addr) (often : Int) (acts : List WAct) (F : Hp), x = .ref b ∧ z = .int often ∧ Same F H ∧ Bag K F H b ∧ Dp K F y (.list (acts.map WAct.d)) ∧ acts.length ≤ 3000 ∧ 0 < often ∧ often < 2 ^ 200 ∧
  ∀ (p : Addr) (ms : List Nat) (F2 H2 : Hp), Gr [b] F H F2 H2 → Bag K F2 H2 b → Mks F2 p acts.length ms → Q (.ref p) H2
def φany_marks (K : PySem.W.Frag) : V → V → Hp → VK → Prop := fun x y H Q => ∃ (b : Addr) (acts : List WAct) (F : Hp), x = .ref b ∧ Same F H ∧ Bag K F H b ∧ Dp K F y (.list (acts.map WAct.d)) ∧ acts.length ≤ 3000 ∧
  ∀ (p : Addr) (ms : List Nat) (F2 H2 : Hp), Gr [b] F H F2 H2 → Bag K F2 H2 b → Mks F2 p acts.length ms → Q (.ref p) H2
theorem ints_nat {n : Nat} : ∀ {ys : List Int}, (∀ k ∈ ys, 1 ≤ k ∧ k < (n : Int)) → ∃ ms : List Nat, ys.map V.int = nV ms ∧ (∀ k ∈ ms, 1 ≤ k ∧ k < n) ∧ ms.length = ys.length
  | [], _ => ⟨[], rfl, by simp, rfl⟩
  | y :: ys, h => by
    obtain ⟨ms, e, h1, h2⟩ := ints_nat (ys := ys) fun k hk => h k (List.mem_cons_of_mem _ hk)
    have hy := h y (List.mem_cons_self ..)
    refine ⟨y.toNat :: ms, ?_, fun k hk => ?_, by rw [List.length_cons, List.length_cons, h2]⟩
    · show V.int y :: ys.map V.int = V.int (y.toNat : Nat) :: nV ms
      rw [e, Int.toNat_of_nonneg (by omega)]
    · rcases List.mem_cons.mp hk with rfl | hk
      · omega
      · exact h1 k hk
theorem put_ints {kvs : List (Key × V)} {ks : List Int} (h : kvs.map (·.1) = ks.map Sum.inl) (i : Int) (v : V) : ∃ ks' : List Int, (putK kvs (.inl i) v).map (·.1) = ks'.map Sum.inl ∧ ∀ k ∈ ks', k ∈ ks ∨ k = i := by
  cases e : valV kvs (.inl i) with
  | none =>
    rw [putK_new v e]
    refine ⟨ks ++ [i], by rw [List.map_append, List.map_append, h]; rfl, fun k hk => ?_⟩
    rcases List.mem_append.mp hk with hk | hk
    · exact .inl hk
    · exact .inr (List.mem_singleton.mp hk)
  | some u =>
    refine ⟨ks, ?_, fun k hk => .inl hk⟩
    rw [← h]
    unfold putK
    rw [valV_any, e]
    show (kvs.map fun kv => if kv.1 = (.inl i : Key) then (kv.1, v) else kv).map (·.1) = _
    rw [List.map_map]
    refine List.map_congr_left fun kv _ => ?_
    show (if kv.1 = (.inl i : Key) then (kv.1, v) else kv).1 = kv.1
    split <;> rfl
theorem cut_take (l : List Nat) (i : Nat) : cutV (nV l) none (some (i : Int)) = nV (l.take i) := by
  unfold cutV
  rw [HT.sIx_none, HT.sIx_nat, List.drop_zero, Nat.sub_zero]
  unfold nV
  rw [List.map_take, List.length_map]
  by_cases h : i ≤ l.length
  · rw [Nat.min_eq_left h]
  · rw [Nat.min_eq_right (by omega), List.take_of_length_le (by rw [List.length_map]; exact Nat.le_refl _), List.take_of_length_le (by rw [List.length_map]; omega)]
theorem cut_drop (l : List Nat) (i : Nat) : cutV (nV l) (some (i : Int)) none = nV (l.drop i) := by
  unfold cutV
  rw [HT.sIx_none, HT.sIx_nat]
  unfold nV
  rw [List.map_drop, List.length_map]
  by_cases h : i ≤ l.length
  · rw [Nat.min_eq_left h]
    refine List.take_of_length_le ?_
    rw [List.length_drop, List.length_map]
    exact Nat.le_refl _
  · rw [Nat.min_eq_right (by omega), Nat.sub_self, List.take_zero, List.drop_eq_nil_of_le (by rw [List.length_map]; omega)]
theorem pick_int {ns : List Int} {i : Int} (h0 : 0 ≤ i) (h1 : i < (ns.length : Int)) : ∃ m, atI (ns.map V.int) i = some (.int m) := by
  have hi : i.toNat < ns.length := by omega
  refine ⟨ns[i.toNat], at_of (j := i.toNat) (by omega) ?_⟩
  rw [List.getElem?_map, List.getElem?_eq_getElem hi]
  rfl
theorem pick_str {zs : List Str} {i : Int} (h0 : 0 ≤ i) (h1 : i < (zs.length : Int)) : ∃ z ∈ zs, atI (zs.map V.str) i = some (.str z) := by
  have hi : i.toNat < zs.length := by omega
  refine ⟨zs[i.toNat], List.getElem_mem hi, at_of (j := i.toNat) (by omega) ?_⟩
  rw [List.getElem?_map, List.getElem?_eq_getElem hi]
  rfl
theorem nV_flat (l : List Nat) : (nV l).all flatV = true := by
  induction l with
  | nil => rfl
  | cons m l ih => exact ih
theorem u_empN {K : PySem.W.Frag} {H : Hp} {a p : Addr} {ms : List Nat} {Q : VK} (ha : SqL K H a (nV ms)) (hp : SqL K H p []) (hl : ms.length ≤ 100000) (q : Q (.bl (decide (ms.length = 0))) H) : rEqD K (.ref a) (.ref p) H Q := by
  have g := nats_good hl
  refine ⟨natsD ms, .list [], .lst ha (dpa_nV ms), .lst hp .nil, good_shaped g.1 (Nat.le_trans g.2 (by decide)), good_shaped rfl (by decide), ?_⟩
  have e : PyData.eqv (natsD ms) (.list []) = decide (ms.length = 0) := by
    cases ms with
    | nil => rfl
    | cons b bs => rfl
  rw [e]
  exact q
theorem w_inN {K : PySem.W.Frag} {H : Hp} {p : Addr} {ms : List Nat} {x : Int} {Q : VK} (h : SqL K H p (nV ms)) (q : ∀ c, Q (.bl c) H) : rIn K false (.int x) (.ref p) H Q := ⟨p, _, rfl, .inl h, rfl, nV_flat ms, q _⟩
/-- a list of lists of marks -/
def PL (F : Hp) (n : Nat) (v : V) : Prop := ∃ p ms, v = .ref p ∧ Mks F p n ms
theorem PL.same {F F2 : Hp} {n : Nat} {v : V} (h : PL F n v) (w : Same F F2) : PL F2 n v := by
  obtain ⟨p, ms, e, m⟩ := h
  exact ⟨p, ms, e, m.same w⟩
end R

namespace R
open PySem L2
/-! ### parts of the heap, one beside the other -/
structure Own where
  as : List Addr
  φ : Hp → Hp → Prop
  st : ∀ {F H F2 H2 : Hp}, Same F F2 → (∀ a ∈ as, ∀ o, H a = some o → H2 a = some o) → (∀ a ∈ as, F a = none → F2 a = none) → φ F H → φ F2 H2
  al : ∀ {F H : Hp}, φ F H → ∀ a ∈ as, H a ≠ none
theorem Own.gr (o : Own) {M : List Addr} {F H F2 H2 : Hp} (g : Gr M F H F2 H2) (h : ∀ a ∈ o.as, a ∉ M) (x : o.φ F H) : o.φ F2 H2 :=
  o.st g.ff (fun a m u e => g.hh a u (h a m) e) (fun a m e => g.nw a (o.al x a m) e) x
def mu (p : Addr) (o : HO) : Own := ⟨[p], fun F H => Mu F H p o, fun s h n m => ⟨n p (List.mem_singleton.mpr rfl) m.n, h p (List.mem_singleton.mpr rfl) o m.h⟩, fun m a h => by
  rw [List.mem_singleton.mp h]
  exact ne_none m.h⟩
def bag (K : PySem.W.Frag) (b : Addr) : Own := ⟨[b], fun F H => Bag K F H b, fun s h n m => by
  obtain ⟨c, cells, i, cur, st, k, h1, h2, h3, h4⟩ := m.ex
  exact ⟨c, cells, i, cur, st, k, n b (List.mem_singleton.mpr rfl) h1, h b (List.mem_singleton.mpr rfl) _ h2, sqL_same s h3, h4⟩, fun m a h => by
  rw [List.mem_singleton.mp h]
  obtain ⟨c, cells, i, cur, st, k, h1, h2, h3, h4⟩ := m.ex
  exact ne_none h2⟩
def pur (φ : Hp → Prop) (h : ∀ {F F2 : Hp}, Same F F2 → φ F → φ F2) : Own := ⟨[], fun F _ => φ F, fun s _ _ x => h s x, fun _ a h => nomatch h⟩
def dat (K : PySem.W.Frag) (v : V) (d : PyData) : Own := pur (fun F => Dp K F v d) fun s x => dp_same s _ _ x
def dpa (K : PySem.W.Frag) (vs : List V) (ds : List PyData) : Own := pur (fun F => DpAll K F vs ds) fun s x => dpa_same s _ _ x
def imL (K : PySem.W.Frag) (a : Addr) (xs : List V) : Own := pur (fun F => SqL K F a xs) fun s x => sqL_same s x
def imT (K : PySem.W.Frag) (a : Addr) (xs : List V) : Own := pur (fun F => SqT K F a xs) fun s x => sqT_same s x
/-- an object that stays -/
def fx (p : Addr) (o : HO) : Own := pur (fun F => F p = some o) fun s x => s _ _ x
abbrev ads (L : List Own) : List Addr := L.flatMap Own.as
structure St (F H : Hp) (L : List Own) : Prop where
  s : Same F H
  i : ∀ o ∈ L, o.φ F H
  d : (ads L).Nodup
structure W (M : List Addr) (F0 H0 F H : Hp) (L : List Own) : Prop where
  g : Gr M F0 H0 F H
  i : ∀ o ∈ L, o.φ F H
  d : (ads L).Nodup
  o : ∀ a ∈ ads L, a ∈ M ∨ H0 a = none
/-- D taken out of L leaves Rs -/
inductive Rm (x : Own) : List Own → List Own → Prop
  | here {L : List Own} : Rm x (x :: L) L
  | there {y : Own} {L Rs : List Own} : Rm x L Rs → Rm x (y :: L) (y :: Rs)
inductive Pick : List Own → List Own → List Own → Prop
  | nil {L : List Own} : Pick L [] L
  | cons {o : Own} {L L1 D Rs : List Own} : Rm o L L1 → Pick L1 D Rs → Pick L (o :: D) Rs
theorem Rm.perm {x : Own} {L Rs : List Own} (h : Rm x L Rs) : L.Perm (x :: Rs) := by
  induction h with
  | here => exact .refl _
  | there _ ih => exact (ih.cons _).trans (.swap _ _ _)
theorem Pick.perm {L D Rs : List Own} (h : Pick L D Rs) : L.Perm (D ++ Rs) := by
  induction h with
  | nil => exact .refl _
  | cons h _ ih => exact h.perm.trans (ih.cons _)
theorem ads_perm {L L' : List Own} (h : L.Perm L') : (ads L).Perm (ads L') := h.flatMap_right Own.as
theorem ads_app (L L' : List Own) : ads (L ++ L') = ads L ++ ads L' := by simp [ads]
section
variable {K : PySem.W.Frag} {M N : List Addr} {F0 H0 F H F1 H1 F2 H2 : Hp} {L L2 D Rs : List Own} {p a : Addr} {u o2 : HO}
theorem W.perm (w : W M F0 H0 F H L) (h : L.Perm L2) : W M F0 H0 F H L2 :=
  ⟨w.g, fun o m => w.i o (h.mem_iff.mpr m), (ads_perm h).nodup_iff.mp w.d, fun a m => w.o a ((ads_perm h).mem_iff.mpr m)⟩
theorem W.to (w : W M F0 H0 F H L) (k : Pick L D Rs) : W M F0 H0 F H D := by
  have w := w.perm k.perm
  refine ⟨w.g, fun o m => w.i o (List.mem_append_left _ m), ?_, fun a m => w.o a (by rw [ads_app]; exact List.mem_append_left _ m)⟩
  have h := w.d
  rw [ads_app] at h
  exact (List.nodup_append.mp h).1
def Pk (L D : List Own) : Prop := ∃ Rs, Pick L D Rs
theorem W.pk (w : W M F0 H0 F H L) (k : Pk L D) : W M F0 H0 F H D := k.elim fun _ k => w.to k
theorem W.st (w : W M F0 H0 F H L) (k : Pick L D Rs) : St F H D := ⟨w.g.fh, (w.to k).i, (w.to k).d⟩
theorem St.w (s : St F H L) (h : M = ads L := by rfl) : W M F H F H L := ⟨.refl s.s, s.i, s.d, fun a m => .inl (by rw [h]; exact m)⟩
theorem W.start (s : Same F H) : W M F H F H [] := ⟨.refl s, (fun _ h => nomatch h), .nil, (fun _ h => nomatch h)⟩
theorem W.call (w : W M F0 H0 F H L) (k : Pick L D Rs) (w2 : W N F H F2 H2 L2) (hN : N = ads D := by rfl) : W M F0 H0 F2 H2 (L2 ++ Rs) := by
  subst hN
  have w := w.perm k.perm
  have hd := w.d
  have ho := w.o
  rw [ads_app] at hd ho
  obtain ⟨d1, d2, d3⟩ := List.nodup_append.mp hd
  have hR : ∀ a ∈ ads Rs, H a ≠ none := fun a m => by
    obtain ⟨o, mo, ma⟩ := List.mem_flatMap.mp m
    exact o.al (w.i o (List.mem_append_right _ mo)) a ma
  refine ⟨w.g.transN w2.g fun x m => ho x (List.mem_append_left _ m), fun o m => ?_, ?_, fun a m => ?_⟩
  · rcases List.mem_append.mp m with m | m
    · exact w2.i o m
    · refine o.gr w2.g (fun a ha hb => d3 a hb a (List.mem_flatMap.mpr ⟨o, m, ha⟩) rfl) (w.i o (List.mem_append_right _ m))
  · rw [ads_app]
    refine List.nodup_append.mpr ⟨w2.d, d2, fun a ha b hb e => ?_⟩
    subst e
    rcases w2.o a ha with h | h
    · exact d3 a h a hb rfl
    · exact hR a hb h
  · rw [ads_app] at m
    rcases List.mem_append.mp m with m | m
    · rcases w2.o a m with h | h
      · exact ho a (List.mem_append_left _ h)
      · exact .inr (w.g.fresh h)
    · exact ho a (List.mem_append_right _ m)
theorem W.ws (w : W M F0 H0 F H L) : Same F0 H := w.g.ws
theorem W.fh (w : W M F0 H0 F H L) : Same F H := w.g.fh
theorem W.ff (w : W M F0 H0 F H L) : Same F0 F := w.g.ff
theorem W.push (w : W M F0 H0 F H L) (o : Own) (h : o.φ F H) (e : o.as = [] := by rfl) : W M F0 H0 F H (o :: L) := by
  refine ⟨w.g, fun q m => ?_, ?_, fun a m => ?_⟩
  · rcases List.mem_cons.mp m with rfl | m
    · exact h
    · exact w.i q m
  · show ((o :: L).flatMap Own.as).Nodup
    rw [List.flatMap_cons, e]
    exact w.d
  · have m' : a ∈ (o :: L).flatMap Own.as := m
    rw [List.flatMap_cons, e] at m'
    exact w.o a m'
/-- a new object that stays -/
theorem W.im (w : W M F0 H0 F H L) (h : H p = none) : W M F0 H0 (upd F p u) (upd H p u) L := by
  have w2 : W [] F H (upd F p u) (upd H p u) [] := ⟨.im w.g.fh h, (fun _ h => nomatch h), .nil, (fun _ h => nomatch h)⟩
  exact w.call .nil w2
/-- a new object that may change -/
theorem W.nw (w : W M F0 H0 F H L) (h : H p = none) : W M F0 H0 F (upd H p u) (mu p u :: L) := by
  have w2 : W [] F H F (upd H p u) [mu p u] := by
    refine ⟨.new w.g.fh h, fun q m => ?_, ?_, fun a m => ?_⟩
    · rw [List.mem_singleton.mp m]
      exact Mu.new w.g.fh h
    · show ([p] : List Addr).Nodup
      simp
    · have : a = p := List.mem_singleton.mp m
      subst this
      exact .inr h
  exact w.call .nil w2
/-- a change -/
theorem W.wr (w : W M F0 H0 F H L) (k : Pick L [mu p o2] Rs) : W M F0 H0 F (upd H p u) (mu p u :: Rs) := by
  have m : Mu F H p o2 := (w.to k).i _ (List.mem_singleton.mpr rfl)
  have w2 : W [p] F H F (upd H p u) [mu p u] := by
    refine ⟨.wr w.g.fh m.n (List.mem_singleton.mpr rfl), fun q h => ?_, ?_, fun a h => ?_⟩
    · rw [List.mem_singleton.mp h]
      exact m.wr
    · show ([p] : List Addr).Nodup
      simp
    · exact .inl h
  exact w.call k w2 rfl
/-- an object that changes no more -/
theorem W.fz (w : W M F0 H0 F H L) (k : Pick L [mu p u] Rs) (hn : H0 p = none) : W M F0 H0 (upd F p u) H Rs := by
  have w := w.perm k.perm
  have m : Mu F H p u := w.i _ (List.mem_cons_self ..)
  have hd := w.d
  rw [ads_app] at hd
  obtain ⟨d1, d2, d3⟩ := List.nodup_append.mp hd
  refine ⟨w.g.frz hn m, fun o ho => ?_, d2, fun a ha => w.o a (by rw [ads_app]; exact List.mem_append_right _ ha)⟩
  have hp : ∀ a ∈ o.as, a ≠ p := fun a ha e => d3 p (List.mem_singleton.mpr rfl) a (List.mem_flatMap.mpr ⟨o, ho, ha⟩) e.symm
  refine o.st (Same.new m.n) (fun a _ _ e => e) (fun a ha e => ?_) (w.i o (List.mem_append_right _ ho))
  rw [upd_ne (hp a ha)]
  exact e
theorem W.fzL {xs : List V} (w : W M F0 H0 F H L) (k : Pick L [mu p (.lst xs)] Rs) (hn : H0 p = none) : ∃ F2, W M F0 H0 F2 H (fx p (.lst xs) :: Rs) := ⟨_, (w.fz k hn).push (fx p (.lst xs)) upd_same⟩
theorem W.fzD {xs : List V} {ds : List PyData} (w : W M F0 H0 F H L) (k : Pick L [mu p (.lst xs)] Rs) (hn : H0 p = none) (h : DpAll K F xs ds) : ∃ F2, W M F0 H0 F2 H (dat K (.ref p) (.list ds) :: Rs) := by
  have m : Mu F H p (.lst xs) := (w.to k).i _ (List.mem_singleton.mpr rfl)
  exact ⟨_, (w.fz k hn).push _ (.lst (sqL_of upd_same) (dpa_same (Same.new m.n) _ _ h))⟩
end
inductive App : List Own → List Own → List Own → Prop
  | nil {Rs : List Own} : App [] Rs Rs
  | cons {o : Own} {L Rs L' : List Own} : App L Rs L' → App (o :: L) Rs (o :: L')
theorem App.eq {L Rs L' : List Own} (h : App L Rs L') : L ++ Rs = L' := by
  induction h with
  | nil => rfl
  | cons _ ih => rw [List.cons_append, ih]
section
variable {K : PySem.W.Frag} {M N : List Addr} {F0 H0 F H F1 H1 F2 H2 : Hp} {L L2 L3 D Rs : List Own} {p a : Addr} {u o2 : HO} {xs ys : List V} {ds : List PyData} {d : PyData} {v : V}
theorem W.cal (w : W M F0 H0 F H L) (k : Pick L D Rs) (w2 : W N F H F2 H2 L2) (e : App L2 Rs L3) (hN : N = ads D := by rfl) : W M F0 H0 F2 H2 L3 := by
  rw [← e.eq]
  exact w.call k w2 hN
/-- .. by what the older promises tell -/
theorem W.gr (w : W M F0 H0 F H L) (k : Pick L D Rs) (g : Gr N F H F2 H2) (i : ∀ o ∈ D, o.φ F2 H2) (e : App D Rs L3) (hN : N = ads D := by rfl) : W M F0 H0 F2 H2 L3 :=
  w.cal k (L2 := D) ⟨g, i, (w.to k).d, fun a m => .inl (by rw [hN]; exact m)⟩ e hN
theorem W.gr0 (w : W M F0 H0 F H L) (g : Gr [] F H F2 H2) : W M F0 H0 F2 H2 L := w.gr (D := []) .nil g (fun _ h => nomatch h) .nil
theorem W.gr1 {o : Own} (w : W M F0 H0 F H L) (k : Pick L [o] Rs) (g : Gr N F H F2 H2) (i : o.φ F2 H2) (hN : N = ads [o] := by rfl) : W M F0 H0 F2 H2 (o :: Rs) :=
  w.gr k g (fun q m => by rw [List.mem_singleton.mp m]; exact i) (.cons .nil) hN
/-- a new list that an older promise tells -/
theorem W.newL (w : W M F0 H0 F H L) (hn : H0 a = none) (m : Mu F H a u) (hd : a ∉ ads L) : W M F0 H0 F H (mu a u :: L) := by
  refine ⟨w.g, fun q h => ?_, ?_, fun x h => ?_⟩
  · rcases List.mem_cons.mp h with rfl | h
    · exact m
    · exact w.i q h
  · exact List.nodup_cons.mpr ⟨hd, w.d⟩
  · rcases List.mem_cons.mp h with rfl | h
    · exact .inr hn
    · exact w.o x h
theorem W.not_new (w : W M F0 H0 F H L) (h : H a = none) : a ∉ ads L := fun m => by
  obtain ⟨o, mo, ma⟩ := List.mem_flatMap.mp m
  exact o.al (w.i o mo) a ma h
/-- a call with a new list told by an older promise -/
theorem W.grL (w : W M F0 H0 F H L) (k : Pick L D Rs) (g : Gr N F H F2 H2) (i : ∀ o ∈ D, o.φ F2 H2) (l : NewL K H F2 H2 a ds) (e : App D Rs L3) (hN : N = ads D := by rfl) : ∃ xs, H0 a = none ∧ DpAll K F2 xs ds ∧ W M F0 H0 F2 H2 (mu a (.lst xs) :: L3) := by
  obtain ⟨na, xs, m, dx⟩ := l
  have w2 := w.gr k g i e hN
  refine ⟨xs, w.g.fresh na, dx, w2.newL (w.g.fresh na) m fun h => ?_⟩
  refine w.not_new na ((ads_perm k.perm).mem_iff.mpr ?_)
  rw [e.eq]
  exact h
theorem W.grL0 (w : W M F0 H0 F H L) (g : Gr [] F H F2 H2) (l : NewL K H F2 H2 a ds) : ∃ xs, H0 a = none ∧ DpAll K F2 xs ds ∧ W M F0 H0 F2 H2 (mu a (.lst xs) :: L) := w.grL (D := []) .nil g (fun _ h => nomatch h) l .nil
theorem W.mu (w : W M F0 H0 F H L) (m : mu p u ∈ L) : Mu F H p u := w.i _ m
theorem W.bag {b : Addr} (w : W M F0 H0 F H L) (m : bag K b ∈ L) : Bag K F H b := w.i _ m
theorem W.dat (w : W M F0 H0 F H L) (m : dat K v d ∈ L) : Dp K F v d := w.i _ m
theorem W.dpa (w : W M F0 H0 F H L) (m : dpa K xs ds ∈ L) : DpAll K F xs ds := w.i _ m
theorem W.imL (w : W M F0 H0 F H L) (m : imL K p xs ∈ L) : SqL K F p xs := w.i _ m
theorem W.imT (w : W M F0 H0 F H L) (m : imT K p xs ∈ L) : SqT K F p xs := w.i _ m
theorem W.at_ (w : W M F0 H0 F H L) (m : R.mu p u ∈ L) : H p = some u := (w.mu m).h
theorem W.sqM (w : W M F0 H0 F H L) (m : R.mu p (.lst xs) ∈ L) : SqL K H p xs := (w.mu m).sq
theorem W.fx (w : W M F0 H0 F H L) (m : R.fx p u ∈ L) : H p = some u := w.fh _ _ (w.i _ m)
theorem W.sqF (w : W M F0 H0 F H L) (m : R.fx p (.lst xs) ∈ L) : SqL K H p xs := sqL_of (w.fx m)
theorem W.stF (w : W M F0 H0 F H L) (m : R.fx p (.tup xs) ∈ L) : SqT K H p xs := sqT_of (w.fx m)
theorem W.sqI (w : W M F0 H0 F H L) (m : R.imL K p xs ∈ L) : SqL K H p xs := sqL_same w.fh (w.imL m)
theorem W.sq0 (w : W M F0 H0 F H L) (h : SqL K F0 p xs) : SqL K H p xs := sqL_same w.ws h
theorem W.stI (w : W M F0 H0 F H L) (m : R.imT K p xs ∈ L) : SqT K H p xs := sqT_same w.fh (w.imT m)
theorem W.st0 (w : W M F0 H0 F H L) (h : SqT K F0 p xs) : SqT K H p xs := sqT_same w.ws h
theorem W.dp0 (w : W M F0 H0 F H L) (h : Dp K F0 v d) : Dp K F v d := dp_same w.ff _ _ h
theorem W.dpa0 (w : W M F0 H0 F H L) (h : DpAll K F0 xs ds) : DpAll K F xs ds := dpa_same w.ff _ _ h
theorem W.dpH (w : W M F0 H0 F H L) (h : Dp K F v d) : Dp K H v d := dp_same w.fh _ _ h
/-- a list of data that may change, as data for a while -/
theorem W.dpM (w : W M F0 H0 F H L) (m : R.mu p (.lst xs) ∈ L) (h : DpAll K F xs ds) : Dp K H (.ref p) (.list ds) := .lst (w.sqM m) (dpa_same w.fh _ _ h)
/-- a list of data opened -/
theorem W.open (w : W M F0 H0 F H L) (h : Dp K F v (.list ds)) : ∃ a xs, v = .ref a ∧ W M F0 H0 F H (R.imL K a xs :: R.dpa K xs ds :: L) := by
  obtain ⟨a, xs, rfl, h1, h2⟩ := dp_list h
  exact ⟨a, xs, rfl, (w.push (R.dpa K xs ds) h2).push (R.imL K a xs) h1⟩
end
/-! ### steps -/
def mkT (xs : List V) (H : Hp) (Q : VK) : Prop := xs.length ≤ sizeLine ∧ ∀ p, H p = none → Q (.ref p) (upd H p (.tup xs))
def mkL (xs : List V) (H : Hp) (Q : VK) : Prop := xs.length ≤ sizeLine ∧ ∀ p, H p = none → Q (.ref p) (upd H p (.lst xs))
def forG (g : TG) (tb : TS) (D : Ends) (J : It) (σ : L2.St) (H : Hp) : Prop := ∃ W : Nat → Nat → L2.St → Hp → Prop, (∃ m, W 0 m σ H) ∧ ∀ i m σ H, W i m σ H →
  (J.stop i H ∧ D.nx σ H) ∨ (J.go i H ∧ ∃ N : L2.St → Hp → Prop, (∀ σ' H', N σ' H' → ∃ m', m' < m ∧ W (i + 1) m' σ' H') ∧ ∀ x H', J.yld i H x H' → g x σ H' fun σ2 H2 => tb ⟨N, D.rt, D.nx, N⟩ σ2 H2)
def lcG (g : TG) (tt : TT) (te : TE) (vs : List Nat) (J : It) (σ : L2.St) (H : Hp) (Q : VK) : Prop := ∀ D, H D = none → ∃ W : Nat → Nat → Hp → Prop, (∃ m, W 0 m (upd H D (.lst []))) ∧ ∀ i m H, W i m H →
  (J.stop i H ∧ Q (.ref D) H) ∨ (J.go i H ∧ ∃ Nx : Hp → Prop, (∀ H', Nx H' → ∃ m', m' < m ∧ W (i + 1) m' H') ∧ ∀ x H', J.yld i H x H' → g x (wipe σ vs) H' fun σ2 H2 => wipe σ2 vs = wipe σ vs ∧ tt σ2 H2 fun b H3 =>
    if b = true then te σ2 H3 fun y H4 => ∃ acc, H4 D = some (.lst acc) ∧ acc.length < sizeLine ∧ Nx (upd H4 D (.lst (acc ++ [y]))) else Nx H3)
def accG (D : Addr) (Z : Hp → Prop) (y : V) (H : Hp) : Prop := ∃ acc, H D = some (.lst acc) ∧ acc.length < sizeLine ∧ Z (upd H D (.lst (acc ++ [y])))
def Nx (M : List Addr) (F0 H0 : Hp) (Inv : L2.St → List Own → Prop) : L2.St → Hp → Prop := fun σ H => ∃ L F, Inv σ L ∧ W M F0 H0 F H L
def NxM (M : List Addr) (F0 H0 : Hp) (Inv : Nat → L2.St → List Own → Prop) (m : Nat) : L2.St → Hp → Prop := fun σ H => ∃ m', m' < m ∧ ∃ L F, Inv m' σ L ∧ W M F0 H0 F H L
def NxC (M : List Addr) (F0 H0 : Hp) (P : List V → List Own → Prop) (D : Addr) : Hp → Prop := fun H => ∃ ys L F, P ys L ∧ W M F0 H0 F H (mu D (.lst ys) :: L)
section
variable {K : PySem.W.Frag} {M N : List Addr} {F0 H0 F H : Hp} {L Rs T : List Own} {σ : L2.St} {Q : VK} {ta tb te : TE} {x y v : V} {nx bk ct : L2.St → Hp → Prop} {rt : VK} {p q a D : Addr} {xs ys : List V} {u : HO}
variable {t : TA} {wi : TI} {g : TG} {tbody : TS} {c tt : TT} {vs : List Nat} {ts us : TS}
theorem x_tup (h : t σ H fun xs H1 => mkT xs H1 Q) : tTup t σ H Q := h
theorem x_lst (h : t σ H fun xs H1 => mkL xs H1 Q) : tLst t σ H Q := h
theorem x_for (h : wi σ H fun J H1 => forG g tbody ⟨nx, rt, bk, ct⟩ J σ H1) : tFor wi g tbody ⟨nx, rt, bk, ct⟩ σ H := h
theorem x_lc (h : wi σ H fun J H1 => lcG g tt te vs J σ H1 Q) : tLc wi g tt te vs σ H Q := h
theorem x_wp {a b : L2.St} {B : Prop} (h : a = b) (q : B) : a = b ∧ B := ⟨h, q⟩
theorem n_tup (w : W M F0 H0 F H L) (hs : xs.length ≤ sizeLine) (h : ∀ p F2 H2, W M F0 H0 F2 H2 (fx p (.tup xs) :: L) → Q (.ref p) H2) : mkT xs H Q :=
  ⟨hs, fun p np => h p _ _ ((w.im (u := .tup xs) np).push (fx p (.tup xs)) upd_same)⟩
theorem n_new (w : W M F0 H0 F H L) (h : ∀ p F2 H2, W M F0 H0 F2 H2 (mu p u :: L) → H0 p = none → Q (.ref p) H2) : ∀ p, H p = none → Q (.ref p) (upd H p u) := fun p np => h p _ _ (w.nw np) (w.g.fresh np)
theorem n_lst (w : W M F0 H0 F H L) (hs : xs.length ≤ sizeLine) (h : ∀ p F2 H2, W M F0 H0 F2 H2 (mu p (.lst xs) :: L) → H0 p = none → Q (.ref p) H2) : mkL xs H Q := ⟨hs, n_new w h⟩
theorem n_slL {lo hi : Option Int} (w : W M F0 H0 F H L) (hs : SqL K H p xs) (h : ∀ p F2 H2, W M F0 H0 F2 H2 (mu p (.lst (cutV xs lo hi)) :: L) → H0 p = none → Q (.ref p) H2) : rSlL K (.ref p) lo hi H Q := w_slL xs hs (n_new w h)
theorem n_listOf (w : W M F0 H0 F H L) (hs : SqL K H p xs) (h : ∀ p F2 H2, W M F0 H0 F2 H2 (mu p (.lst xs) :: L) → H0 p = none → Q (.ref p) H2) : rListOf K [.ref p] H Q := w_listOf xs hs (n_new w h)
def revG (K : PySem.W.Frag) (x : V) (H : Hp) (Q : VK) : Prop := ∃ a xs, x = .ref a ∧ SqL K H a xs ∧ ∀ p, H p = none → Q (.ref p) (upd H p (.lst xs.reverse))
theorem x_revL (h : ta σ H fun x H1 => revG K x H1 Q) : tRevL K ta σ H Q := h
theorem n_revL (w : W M F0 H0 F H L) (hs : SqL K H p xs) (h : ∀ p F2 H2, W M F0 H0 F2 H2 (mu p (.lst xs.reverse) :: L) → H0 p = none → Q (.ref p) H2) : revG K (.ref p) H Q := ⟨p, xs, rfl, hs, n_new w h⟩
def lrgG (a b : Int) (H : Hp) (Q : VK) : Prop := RgOk a b ∧ ∀ q, H q = none → Q (.ref q) (upd H q (.lst (rgV a b)))
theorem x_lstRg {te : L2.St → Hp → (Int → Int → Hp → Prop) → Prop} (h : te σ H fun a b H1 => lrgG a b H1 Q) : tLstRg te σ H Q := h
theorem n_lstRg {i j : Int} (w : W M F0 H0 F H L) (hs : RgOk i j) (h : ∀ p F2 H2, W M F0 H0 F2 H2 (mu p (.lst (rgV i j)) :: L) → H0 p = none → Q (.ref p) H2) : lrgG i j H Q := ⟨hs, n_new w h⟩
theorem n_cat (w : W M F0 H0 F H L) (h1 : H p = some (.lst xs)) (h2 : H q = some (.lst ys)) (hs : xs.length + ys.length ≤ sizeLine) (h : ∀ p F2 H2, W M F0 H0 F2 H2 (mu p (.lst (xs ++ ys)) :: L) → H0 p = none → Q (.ref p) H2) : rCat (.ref p) (.ref q) H Q :=
  ⟨p, q, xs, ys, rfl, rfl, h1, h2, hs, n_new w h⟩
theorem n_rep {k : Int} (w : W M F0 H0 F H L) (h1 : H p = some (.lst xs)) (h2 : -(2 ^ 63) ≤ k) (h3 : k < 2 ^ 63) (hs : xs.length * k.toNat ≤ sizeLine) (h : ∀ p F2 H2, W M F0 H0 F2 H2 (mu p (.lst (List.replicate k.toNat xs).flatten) :: L) → H0 p = none → Q (.ref p) H2) : rRep (.ref p) (.int k) H Q :=
  ⟨p, k, xs, rfl, rfl, h1, h2, h3, hs, n_new w h⟩
theorem n_app (w : W M F0 H0 F H L) (k : Pick L [mu p (.lst xs)] Rs) (hn : xs.length < sizeLine) (h : ∀ H2, W M F0 H0 F H2 (mu p (.lst (xs ++ [y])) :: Rs) → Q .non H2) : rAppend (.ref p) [y] H Q :=
  w_app xs ((w.to k).at_ (List.mem_singleton.mpr rfl)) hn (h _ (w.wr k))
theorem n_setL {k : Int} {Z : Hp → Prop} (w : W M F0 H0 F H L) (kk : Pick L [mu p (.lst xs)] Rs) (j : Nat) (e : ixN xs.length k = some j) (h : ∀ H2, W M F0 H0 F H2 (mu p (.lst (xs.set j v)) :: Rs) → Z H2) : rSetL (.ref p) (.int k) v H Z :=
  w_setL xs j ((w.to kk).at_ (List.mem_singleton.mpr rfl)) e (h _ (w.wr kk))
theorem n_draw {m : Int} {E : XK} {b : Addr} (w : W M F0 H0 F H L) (k : Pick L [bag K b] Rs) (h0 : 0 < m) (h1 : m < 2 ^ 200) (h : ∀ r F2 H2, W M F0 H0 F2 H2 (bag K b :: Rs) → 0 ≤ r → r < m → Q (.int r) H2) : S2 (φdraw K) ([.ref b, .int m] ++ []) H Q E :=
  u_draw w.fh ((w.to k).bag (List.mem_singleton.mpr rfl)) h0 h1 fun r F2 H2 g hb r0 r1 => h r F2 H2 (w.gr1 k g hb) r0 r1
def rg1G (vs : List V) (H : Hp) (Rr : It → Hp → Prop) : Prop := ∃ j : Int, vs = [.int j] ∧ -(2 ^ 62) ≤ j ∧ j < 2 ^ 62 ∧ Rr (Itr 0 j.toNat) H
def rg2G (vs : List V) (H : Hp) (Rr : It → Hp → Prop) : Prop := ∃ i j : Int, vs = [.int i, .int j] ∧ (-(2 ^ 62) ≤ i ∧ i < 2 ^ 62 ∧ -(2 ^ 62) ≤ j ∧ j < 2 ^ 62) ∧ Rr (Itr i (j - i).toNat) H
def ilG (K : PySem.W.Frag) (x : V) (H : Hp) (Rr : It → Hp → Prop) : Prop := ∃ a, x = .ref a ∧ (∃ xs, SqL K H a xs) ∧ Rr (Itl K a) H
def itG (K : PySem.W.Frag) (x : V) (H : Hp) (Rr : It → Hp → Prop) : Prop := ∃ a, x = .ref a ∧ (∃ xs, SqT K H a xs) ∧ Rr (Itt K a) H
def isG (x : V) (H : Hp) (Rr : It → Hp → Prop) : Prop := ∃ z, x = .str z ∧ Rr (Its z) H
theorem x_rng1 {Rr : It → Hp → Prop} (h : t σ H fun vs H1 => rg1G vs H1 Rr) : iRng1 t σ H Rr := h
theorem x_rng2 {Rr : It → Hp → Prop} (h : t σ H fun vs H1 => rg2G vs H1 Rr) : iRng2 t σ H Rr := h
theorem x_il {Rr : It → Hp → Prop} (h : te σ H fun x H1 => ilG K x H1 Rr) : iList K te σ H Rr := h
theorem x_it {Rr : It → Hp → Prop} (h : te σ H fun x H1 => itG K x H1 Rr) : iTup K te σ H Rr := h
theorem x_is {Rr : It → Hp → Prop} (h : te σ H fun x H1 => isG x H1 Rr) : iStr te σ H Rr := h
theorem n_rng1 {j : Int} {Rr : It → Hp → Prop} (h0 : -(2 ^ 62) ≤ j) (h1 : j < 2 ^ 62) (h : Rr (Itr 0 j.toNat) H) : rg1G [.int j] H Rr := ⟨j, rfl, h0, h1, h⟩
theorem n_rng2 {i j : Int} {Rr : It → Hp → Prop} (h0 : -(2 ^ 62) ≤ i) (h1 : i < 2 ^ 62) (h2 : -(2 ^ 62) ≤ j) (h3 : j < 2 ^ 62) (h : Rr (Itr i (j - i).toNat) H) : rg2G [.int i, .int j] H Rr := ⟨i, j, rfl, ⟨h0, h1, h2, h3⟩, h⟩
theorem n_il {Rr : It → Hp → Prop} (hs : SqL K H a xs) (h : Rr (Itl K a) H) : ilG K (.ref a) H Rr := ⟨a, rfl, ⟨xs, hs⟩, h⟩
theorem n_it {Rr : It → Hp → Prop} (hs : SqT K H a xs) (h : Rr (Itt K a) H) : itG K (.ref a) H Rr := ⟨a, rfl, ⟨xs, hs⟩, h⟩
theorem n_is {z : Str} {Rr : It → Hp → Prop} (h : Rr (Its z) H) : isG (.str z) H Rr := ⟨z, rfl, h⟩
theorem nx_mk {Inv : L2.St → List Own → Prop} {L2 : List Own} (w : W M F0 H0 F H L) (h : Inv σ L2) (k : Pk L L2) : Nx M F0 H0 Inv σ H := ⟨L2, F, h, w.pk k⟩
theorem nxm_mk {Inv : Nat → L2.St → List Own → Prop} {m m' : Nat} {L2 : List Own} (w : W M F0 H0 F H L) (hm : m' < m) (h : Inv m' σ L2) (k : Pk L L2) : NxM M F0 H0 Inv m σ H := ⟨m', hm, L2, F, h, w.pk k⟩
def addsG : R2 := fun x y H Q => ∃ a b, x = .str a ∧ y = .str b ∧ a.length + b.length ≤ sizeLine ∧ Q (.str (a ++ b)) H
theorem opAddS {X : Cx} : OpR X (binaryOp .Add) addsG := op_add_str
theorem n_adds {a b : Str} (hl : a.length + b.length ≤ sizeLine) (h : Q (.str (a ++ b)) H) : addsG (.str a) (.str b) H Q := ⟨a, b, rfl, rfl, hl, h⟩
theorem x_aug {i : Nat} {ti : TIp} {x : V} {H : Hp} (h : σ[i]? = some (some x)) (q : te σ H fun y H1 => ti x y H1 fun z H2 => nx (σ.set i (some z)) H2) : tAug i te ti ⟨nx, rt, bk, ct⟩ σ H := ⟨x, h, q⟩
theorem n_ipI {g : Int → Int → Int} {i j : Int} {Z : VK} (q : Z (.int (g i j)) H) : ipI g (.int i) (.int j) H Z := ⟨i, j, rfl, rfl, q⟩
/-- loops -/
theorem n_forR {n : Nat} (w : W M F0 H0 F H L) (Inv : Nat → L2.St → List Own → Prop) {L1 : List Own} (h0 : Inv 0 σ L1)
    (hs : ∀ (i : Nat) σ L F H, i < n → Inv i σ L → W M F0 H0 F H L → g (.int (i : Int)) σ H fun σ2 H2 => tbody ⟨Nx M F0 H0 (Inv (i + 1)), rt, nx, Nx M F0 H0 (Inv (i + 1))⟩ σ2 H2)
    (hd : ∀ σ L F H, Inv n σ L → W M F0 H0 F H L → nx σ H) (k : Pk L L1 := by walk_at "pk") : forG g tbody ⟨nx, rt, bk, ct⟩ (Itr 0 n) σ H :=
  f_range0 (fun i σ H => Nx M F0 H0 (Inv i) σ H) ⟨L1, F, h0, w.pk k⟩ (fun i σ H hi ⟨L, F, h, w⟩ => hs i σ L F H hi h w) fun σ H ⟨L, F, h, w⟩ => hd σ L F H h w
theorem n_forRL {lo : Int} {n : Nat} (w : W M F0 H0 F H L) (Inv : Nat → L2.St → List Own → Prop) {L1 : List Own} (h0 : Inv 0 σ L1)
    (hs : ∀ (i : Nat) σ L F H, i < n → Inv i σ L → W M F0 H0 F H L → g (.int (lo + i)) σ H fun σ2 H2 => tbody ⟨Nx M F0 H0 (Inv (i + 1)), rt, nx, Nx M F0 H0 (Inv (i + 1))⟩ σ2 H2)
    (hd : ∀ σ L F H, Inv n σ L → W M F0 H0 F H L → nx σ H) (k : Pk L L1 := by walk_at "pk") : forG g tbody ⟨nx, rt, bk, ct⟩ (Itr lo n) σ H :=
  f_range (fun i σ H => Nx M F0 H0 (Inv i) σ H) ⟨L1, F, h0, w.pk k⟩ (fun i σ H hi ⟨L, F, h, w⟩ => hs i σ L F H hi h w) fun σ H ⟨L, F, h, w⟩ => hd σ L F H h w
theorem n_forL (xs : List V) (w : W M F0 H0 F H L) (Inv : Nat → L2.St → List Own → Prop) {L1 : List Own} (h0 : Inv 0 σ L1) (hl : ∀ i σ L F H, Inv i σ L → W M F0 H0 F H L → SqL K H a xs)
    (hs : ∀ (i : Nat) x σ L F H, xs[i]? = some x → Inv i σ L → W M F0 H0 F H L → g x σ H fun σ2 H2 => tbody ⟨Nx M F0 H0 (Inv (i + 1)), rt, nx, Nx M F0 H0 (Inv (i + 1))⟩ σ2 H2)
    (hd : ∀ σ L F H, Inv xs.length σ L → W M F0 H0 F H L → nx σ H) (k : Pk L L1 := by walk_at "pk") : forG g tbody ⟨nx, rt, bk, ct⟩ (Itl K a) σ H :=
  f_list (xs := xs) (fun i σ H => Nx M F0 H0 (Inv i) σ H) ⟨L1, F, h0, w.pk k⟩ (fun i σ H _ ⟨L, F, h, w⟩ => hl i σ L F H h w) (fun i x σ H hx ⟨L, F, h, w⟩ => hs i x σ L F H hx h w) fun σ H ⟨L, F, h, w⟩ => hd σ L F H h w
def whB (tb : TS) (rt : VK) (nx : L2.St → Hp → Prop) (M : List Addr) (F0 H0 : Hp) (Inv : Nat → L2.St → List Own → Prop) (m : Nat) (σ : L2.St) (H : Hp) : Prop :=
  ∃ N : L2.St → Hp → Prop, (∀ σ' H', N σ' H' → ∃ m', m' < m ∧ ∃ L F, Inv m' σ' L ∧ W M F0 H0 F H' L) ∧ tb ⟨N, rt, nx, N⟩ σ H
theorem n_turn {Inv : Nat → L2.St → List Own → Prop} {m : Nat} (h : tbody ⟨NxM M F0 H0 Inv m, rt, nx, NxM M F0 H0 Inv m⟩ σ H) : whB tbody rt nx M F0 H0 Inv m σ H := ⟨_, fun _ _ h => h, h⟩
theorem n_while (w : W M F0 H0 F H L) (Inv : Nat → L2.St → List Own → Prop) {m0 : Nat} {L1 : List Own} (h0 : Inv m0 σ L1)
    (hs : ∀ (m : Nat) σ L F H, Inv m σ L → W M F0 H0 F H L → c σ H fun b H1 => if b = true then whB tbody rt nx M F0 H0 Inv m σ H1 else nx σ H1) (k : Pk L L1 := by walk_at "pk") : tWhile c tbody ⟨nx, rt, bk, ct⟩ σ H :=
  w_while (fun m σ H => ∃ L F, Inv m σ L ∧ W M F0 H0 F H L) (m0 := m0) ⟨L1, F, h0, w.pk k⟩ fun m σ H ⟨L, F, h, w⟩ => hs m σ L F H h w
theorem n_cut (w : W M F0 H0 F H L) (Mid : L2.St → List Own → Prop) (h1 : ts ⟨Nx M F0 H0 Mid, rt, bk, ct⟩ σ H) (h2 : ∀ σ L F H, Mid σ L → W M F0 H0 F H L → us ⟨nx, rt, bk, ct⟩ σ H) : C8.tCut ts us ⟨nx, rt, bk, ct⟩ σ H :=
  w_cut (Nx M F0 H0 Mid) h1 fun σ' H' ⟨L, F, h, w⟩ => h2 σ' L F H' h w
theorem n_lcR {n : Nat} (w : W M F0 H0 F H L) (P : Nat → List V → List Own → Prop) {L1 : List Own} (h0 : P 0 [] L1)
    (hs : ∀ (i : Nat) ys L F H D, i < n → P i ys L → W M F0 H0 F H (mu D (.lst ys) :: L) → H0 D = none → g (.int (i : Int)) (wipe σ vs) H fun σ2 H2 => wipe σ2 vs = wipe σ vs ∧ tt σ2 H2 fun b H3 =>
      if b = true then te σ2 H3 (accG D (NxC M F0 H0 (P (i + 1)) D)) else NxC M F0 H0 (P (i + 1)) D H3)
    (hd : ∀ D ys L F H, P n ys L → W M F0 H0 F H (mu D (.lst ys) :: L) → H0 D = none → Q (.ref D) H) (k : Pk L L1 := by walk_at "pk") : lcG g tt te vs (Itr 0 n) σ H Q := fun D nD =>
  lc_rng (fun i H => NxC M F0 H0 (P i) D H) ⟨[], L1, F, h0, (w.pk k).nw nD⟩ (fun i H hi ⟨ys, L, F, h, w'⟩ => hs i ys L F H D hi h w' (w.g.fresh nD)) fun H ⟨ys, L, F, h, w'⟩ => hd D ys L F H h w' (w.g.fresh nD)
theorem n_lcL (xs : List V) (w : W M F0 H0 F H L) (P : Nat → List V → List Own → Prop) {L1 : List Own} (h0 : P 0 [] L1) (hl : ∀ i ys L F H D, P i ys L → W M F0 H0 F H (mu D (.lst ys) :: L) → SqL K H a xs)
    (hs : ∀ (i : Nat) x ys L F H D, xs[i]? = some x → P i ys L → W M F0 H0 F H (mu D (.lst ys) :: L) → H0 D = none → g x (wipe σ vs) H fun σ2 H2 => wipe σ2 vs = wipe σ vs ∧ tt σ2 H2 fun b H3 =>
      if b = true then te σ2 H3 (accG D (NxC M F0 H0 (P (i + 1)) D)) else NxC M F0 H0 (P (i + 1)) D H3)
    (hd : ∀ D ys L F H, P xs.length ys L → W M F0 H0 F H (mu D (.lst ys) :: L) → H0 D = none → Q (.ref D) H) (k : Pk L L1 := by walk_at "pk") : lcG g tt te vs (Itl K a) σ H Q := fun D nD =>
  lc_list (xs := xs) (fun i H => NxC M F0 H0 (P i) D H) ⟨[], L1, F, h0, (w.pk k).nw nD⟩ (fun i H _ ⟨ys, L, F, h, w'⟩ => hl i ys L F H D h w') (fun i x H hx ⟨ys, L, F, h, w'⟩ => hs i x ys L F H D hx h w' (w.g.fresh nD)) fun H ⟨ys, L, F, h, w'⟩ => hd D ys L F H h w' (w.g.fresh nD)
theorem n_popAt {k : Int} (w : W M F0 H0 F H L) (kk : Pick L [mu p (.lst xs)] Rs) (j : Nat) (hj : k = (j : Nat)) (hl : xs.length ≤ 100000) (hy : xs[j]? = some y) (h : ∀ H2, W M F0 H0 F H2 (mu p (.lst (xs.eraseIdx j)) :: Rs) → Q y H2) : rPopAt (.ref p) [.int k] H Q := by
  subst hj
  have hi := (List.getElem?_eq_some_iff.mp hy).1
  refine ⟨p, xs, _, j, y, rfl, rfl, (w.to kk).at_ (List.mem_singleton.mpr rfl), by omega, by omega, ?_, hy, h _ (w.wr kk)⟩
  simp only [seqIndex?]
  first
    | rw [if_neg (by omega), if_pos (by omega)]; simp
    | (split <;> simp_all <;> omega)
    | (simp; omega)
theorem n_pop (w : W M F0 H0 F H L) (kk : Pick L [mu p (.lst (xs ++ [y]))] Rs) (h : ∀ H2, W M F0 H0 F H2 (mu p (.lst xs) :: Rs) → Q y H2) : rPop (.ref p) [] H Q := by
  refine ⟨p, xs ++ [y], y, rfl, rfl, (w.to kk).at_ (List.mem_singleton.mpr rfl), by simp, ?_⟩
  rw [List.dropLast_concat]
  exact h _ (w.wr kk)
theorem n_ext (w : W M F0 H0 F H L) (hb : H q = some (.lst ys)) (kk : Pick L [mu p (.lst xs)] Rs) (hl : xs.length + ys.length ≤ sizeLine) (h : ∀ H2, W M F0 H0 F H2 (mu p (.lst (xs ++ ys)) :: Rs) → Q .non H2) : rExtend (.ref p) [.ref q] H Q :=
  ⟨p, q, xs, ys, rfl, rfl, (w.to kk).at_ (List.mem_singleton.mpr rfl), hb, hl, h _ (w.wr kk)⟩
theorem n_rev (w : W M F0 H0 F H L) (kk : Pick L [mu p (.lst xs)] Rs) (h : ∀ H2, W M F0 H0 F H2 (mu p (.lst xs.reverse) :: Rs) → Q .non H2) : rReverse (.ref p) [] H Q :=
  ⟨p, xs, rfl, rfl, (w.to kk).at_ (List.mem_singleton.mpr rfl), h _ (w.wr kk)⟩
theorem n_clear (w : W M F0 H0 F H L) (kk : Pick L [mu p (.lst xs)] Rs) (h : ∀ H2, W M F0 H0 F H2 (mu p (.lst []) :: Rs) → Q .non H2) : rClear (.ref p) [] H Q :=
  ⟨p, xs, rfl, rfl, (w.to kk).at_ (List.mem_singleton.mpr rfl), h _ (w.wr kk)⟩
/-- a call that only reads, told by a promise with a single list -/
theorem W.ro (w : W M F0 H0 F H L) {F2 H2 : Hp} (w2 : W [] H H F2 H2 [R.mu p u]) (hp : H p = none) : W M F0 H0 F H2 (R.mu p u :: L) := by
  have m := w2.mu (List.mem_singleton.mpr rfl)
  have w3 : W [] F H F H2 [R.mu p u] := by
    refine ⟨w2.g.back w.fh, fun o ho => ?_, w2.d, w2.o⟩
    rw [List.mem_singleton.mp ho]
    exact ⟨w.fh.free hp, m.h⟩
  exact w.call .nil w3
/-- .. with nothing -/
theorem W.ro0 (w : W M F0 H0 F H L) {F2 H2 : Hp} {L2 : List Own} (w2 : W [] H H F2 H2 L2) : W M F0 H0 F H2 L := by
  have w3 : W [] F H F H2 [] := ⟨w2.g.back w.fh, fun _ h => (nomatch h), .nil, fun _ h => (nomatch h)⟩
  exact w.call .nil w3
theorem W.ro0' (w : W M F0 H0 F H L) {F2 H2 : Hp} (g : Gr [] H H F2 H2) : W M F0 H0 F H2 L := w.gr0 (g.back w.fh)
theorem getD_of {l : List V} {j : Nat} (h : j < l.length) : l[j]? = some (l.getD j .non) := by
  rw [List.getD_eq_getElem?_getD, List.getElem?_eq_getElem h]
  rfl
theorem n_forJ (J : It) (n : Nat) (w : W M F0 H0 F H L) (Inv : Nat → L2.St → List Own → Prop) {L1 : List Own} (h0 : Inv 0 σ L1) (hg : ∀ i σ L F H, i < n → Inv i σ L → W M F0 H0 F H L → J.go i H) (ht : ∀ σ L F H, Inv n σ L → W M F0 H0 F H L → J.stop n H)
    (hs : ∀ (i : Nat) x σ L F H H', i < n → Inv i σ L → W M F0 H0 F H L → J.yld i H x H' → g x σ H' fun σ2 H2 => tbody ⟨Nx M F0 H0 (Inv (i + 1)), rt, nx, Nx M F0 H0 (Inv (i + 1))⟩ σ2 H2)
    (hd : ∀ σ L F H, Inv n σ L → W M F0 H0 F H L → nx σ H) (k : Pk L L1 := by walk_at "pk") : forG g tbody ⟨nx, rt, bk, ct⟩ J σ H := by
  refine ⟨fun i m σ H => m = n - i ∧ i ≤ n ∧ Nx M F0 H0 (Inv i) σ H, ⟨n, by simp, Nat.zero_le _, L1, F, h0, w.pk k⟩, ?_⟩
  rintro i m σ H ⟨rfl, hi, L, F, h, w⟩
  by_cases hlt : i < n
  · exact .inr ⟨hg i σ L F H hlt h w, Nx M F0 H0 (Inv (i + 1)), fun σ' H' p' => ⟨n - (i + 1), by omega, rfl, hlt, p'⟩, fun x H' y => hs i x σ L F H H' hlt h w y⟩
  · have e : i = n := by omega
    subst e
    exact .inl ⟨ht σ L F H h w, hd σ L F H h w⟩
theorem n_lcJ (J : It) (n : Nat) (w : W M F0 H0 F H L) (P : Nat → List V → List Own → Prop) {L1 : List Own} (h0 : P 0 [] L1) (hg : ∀ i ys L F H D, i < n → P i ys L → W M F0 H0 F H (mu D (.lst ys) :: L) → J.go i H) (ht : ∀ ys L F H D, P n ys L → W M F0 H0 F H (mu D (.lst ys) :: L) → J.stop n H)
    (hs : ∀ (i : Nat) x ys L F H H' D, i < n → P i ys L → W M F0 H0 F H (mu D (.lst ys) :: L) → J.yld i H x H' → H0 D = none → g x (wipe σ vs) H' fun σ2 H2 => wipe σ2 vs = wipe σ vs ∧ tt σ2 H2 fun b H3 =>
      if b = true then te σ2 H3 (accG D (NxC M F0 H0 (P (i + 1)) D)) else NxC M F0 H0 (P (i + 1)) D H3)
    (hd : ∀ D ys L F H, P n ys L → W M F0 H0 F H (mu D (.lst ys) :: L) → H0 D = none → Q (.ref D) H) (k : Pk L L1 := by walk_at "pk") : lcG g tt te vs J σ H Q := by
  intro D nD
  have hD := w.g.fresh nD
  refine ⟨fun i m H => m = n - i ∧ i ≤ n ∧ NxC M F0 H0 (P i) D H, ⟨n, by simp, Nat.zero_le _, [], L1, F, h0, (w.pk k).nw nD⟩, ?_⟩
  rintro i m H ⟨rfl, hi, ys, L, F, h, w⟩
  by_cases hlt : i < n
  · exact .inr ⟨hg i ys L F H D hlt h w, NxC M F0 H0 (P (i + 1)) D, fun H' p' => ⟨n - (i + 1), by omega, rfl, hlt, p'⟩, fun x H' y => hs i x ys L F H H' D hlt h w y hD⟩
  · have e : i = n := by omega
    subst e
    exact .inl ⟨ht ys L F H D h w, hd D ys L F H h w hD⟩
def sgnV (z : Str) (k : Nat) : V := .str ⟨#[z.cps.toList.getD k 0]⟩
theorem its_yld {z : Str} {i : Nat} {H H' : Hp} {x : V} (h : (Its z).yld i H x H') : H' = H ∧ x = sgnV z i := by
  obtain ⟨e, c, hc, rfl⟩ := h
  refine ⟨e, ?_⟩
  unfold sgnV
  rw [List.getD_eq_getElem?_getD, Array.getElem?_toList, hc]
  rfl
/-- over a text -/
theorem n_forS (z : Str) (w : W M F0 H0 F H L) (Inv : Nat → L2.St → List Own → Prop) {L1 : List Own} (h0 : Inv 0 σ L1)
    (hs : ∀ (i : Nat) σ L F H, i < z.length → Inv i σ L → W M F0 H0 F H L → g (sgnV z i) σ H fun σ2 H2 => tbody ⟨Nx M F0 H0 (Inv (i + 1)), rt, nx, Nx M F0 H0 (Inv (i + 1))⟩ σ2 H2)
    (hd : ∀ σ L F H, Inv z.length σ L → W M F0 H0 F H L → nx σ H) (k : Pk L L1 := by walk_at "pk") : forG g tbody ⟨nx, rt, bk, ct⟩ (Its z) σ H :=
  n_forJ (Its z) z.length w Inv h0 (fun i _ _ _ _ hi _ _ => hi) (fun _ _ _ _ _ _ => Nat.le_refl _) (fun i x σ L F H H' hi h w y => by obtain ⟨rfl, rfl⟩ := its_yld y; exact hs i σ L F _ hi h w) hd k
theorem n_lcS (z : Str) (w : W M F0 H0 F H L) (P : Nat → List V → List Own → Prop) {L1 : List Own} (h0 : P 0 [] L1)
    (hs : ∀ (i : Nat) ys L F H D, i < z.length → P i ys L → W M F0 H0 F H (mu D (.lst ys) :: L) → H0 D = none → g (sgnV z i) (wipe σ vs) H fun σ2 H2 => wipe σ2 vs = wipe σ vs ∧ tt σ2 H2 fun b H3 =>
      if b = true then te σ2 H3 (accG D (NxC M F0 H0 (P (i + 1)) D)) else NxC M F0 H0 (P (i + 1)) D H3)
    (hd : ∀ D ys L F H, P z.length ys L → W M F0 H0 F H (mu D (.lst ys) :: L) → H0 D = none → Q (.ref D) H) (k : Pk L L1 := by walk_at "pk") : lcG g tt te vs (Its z) σ H Q :=
  n_lcJ (Its z) z.length w P h0 (fun i _ _ _ _ _ hi _ _ => hi) (fun _ _ _ _ _ _ _ => Nat.le_refl _) (fun i x ys L F H H' D hi h w y hD => by obtain ⟨rfl, rfl⟩ := its_yld y; exact hs i ys L F _ D hi h w hD) hd k
/-- over enumerate(list) -/
def enG (K : PySem.W.Frag) (vs : List V) (H : Hp) (Rr : It → Hp → Prop) : Prop := ∃ a xs, vs = [.ref a] ∧ SqL K H a xs ∧ Rr (Ite K a) H
theorem x_en {Rr : It → Hp → Prop} (h : t σ H fun vs H1 => enG K vs H1 Rr) : iEnum K t σ H Rr := h
theorem n_en {Rr : It → Hp → Prop} (hs : SqL K H a xs) (h : Rr (Ite K a) H) : enG K [.ref a] H Rr := ⟨a, xs, rfl, hs, h⟩
theorem n_forE (xs : List V) (w : W M F0 H0 F H L) (Inv : Nat → L2.St → List Own → Prop) {L1 : List Own} (h0 : Inv 0 σ L1) (hl : ∀ i σ L F H, Inv i σ L → W M F0 H0 F H L → SqL K H a xs)
    (hs : ∀ (i : Nat) x T σ L F H, xs[i]? = some x → Inv i σ L → W M F0 H0 F H (fx T (.tup [.int (i : Nat), x]) :: L) → g (.ref T) σ H fun σ2 H2 => tbody ⟨Nx M F0 H0 (Inv (i + 1)), rt, nx, Nx M F0 H0 (Inv (i + 1))⟩ σ2 H2)
    (hd : ∀ σ L F H, Inv xs.length σ L → W M F0 H0 F H L → nx σ H) (k : Pk L L1 := by walk_at "pk") : forG g tbody ⟨nx, rt, bk, ct⟩ (Ite K a) σ H := by
  refine n_forJ (Ite K a) xs.length w Inv h0 (fun i σ L F H hi h w => ⟨xs, xs[i], hl i σ L F H h w, List.getElem?_eq_getElem hi⟩) (fun σ L F H h w => ⟨xs, hl _ σ L F H h w, Nat.le_refl _⟩) (fun i x σ L F H H' hi h w y => ?_) hd k
  obtain ⟨T, v, rfl, nT, rfl, hx⟩ := y
  exact hs i v T σ L _ _ (hx xs (hl i σ L F H h w)) h ((w.im (u := .tup [.int (i : Nat), v]) nT).push (fx T (.tup [.int (i : Nat), v])) upd_same)
/-- over a tuple -/
theorem n_forT (xs : List V) (w : W M F0 H0 F H L) (Inv : Nat → L2.St → List Own → Prop) {L1 : List Own} (h0 : Inv 0 σ L1) (hl : ∀ i σ L F H, Inv i σ L → W M F0 H0 F H L → SqT K H a xs)
    (hs : ∀ (i : Nat) x σ L F H, xs[i]? = some x → Inv i σ L → W M F0 H0 F H L → g x σ H fun σ2 H2 => tbody ⟨Nx M F0 H0 (Inv (i + 1)), rt, nx, Nx M F0 H0 (Inv (i + 1))⟩ σ2 H2)
    (hd : ∀ σ L F H, Inv xs.length σ L → W M F0 H0 F H L → nx σ H) (k : Pk L L1 := by walk_at "pk") : forG g tbody ⟨nx, rt, bk, ct⟩ (Itt K a) σ H := by
  refine n_forJ (Itt K a) xs.length w Inv h0 (fun i σ L F H hi h w => ⟨xs, xs[i], hl i σ L F H h w, List.getElem?_eq_getElem hi⟩) (fun σ L F H h w => ⟨xs, hl _ σ L F H h w, Nat.le_refl _⟩) (fun i x σ L F H H' hi h w y => ?_) hd k
  obtain ⟨rfl, y⟩ := y
  exact hs i x σ L F _ (y xs (hl i σ L F _ h w)) h w
theorem W.calB {b : Addr} {F2 H2 : Hp} {L2 L3 : List Own} (w : W M F0 H0 F H L) (k : Pick L [R.bag K b] Rs) (w2 : W [b] F H F2 H2 L2) (e : App L2 Rs L3) : W M F0 H0 F2 H2 L3 := w.cal k w2 e rfl
theorem W.bag0 {b : Addr} {F2 H2 : Hp} (g : Gr [] H H F2 H2) (h : Bag K F2 H2 b) : W [] H H F2 H2 [R.bag K b] := by
  obtain ⟨c, cells, i, cur, st, k, h1, h2, _⟩ := h.ex
  refine ⟨g, fun o m => ?_, ?_, fun a m => ?_⟩
  · rw [List.mem_singleton.mp m]
    exact h
  · show ([b] : List Addr).Nodup
    simp
  · rw [show a = b from List.mem_singleton.mp m]
    exact .inr (g.ff.free h1)
theorem mapB_get {bs : List Bool} {i : Nat} {x : V} (h : (bs.map V.bl)[i]? = some x) : ∃ c, x = .bl c := by
  rw [List.getElem?_map] at h
  cases e : bs[i]? with
  | none => rw [e] at h; cases h
  | some c => rw [e] at h; exact ⟨c, (Option.some.inj h).symm⟩
theorem n_acc (ys : List V) {P : List V → List Own → Prop} (w : W M F0 H0 F H L) (hp : P (ys ++ [y]) Rs) (k : Pk L (mu D (.lst ys) :: Rs)) (hl : ys.length < sizeLine) : accG D (NxC M F0 H0 P D) y H := by
  have w' := w.pk k
  refine ⟨ys, w'.at_ (List.mem_cons_self ..), hl, ys ++ [y], Rs, F, hp, ?_⟩
  exact w'.wr (.cons .here .nil)
end
end R

namespace R
open PySem PySem.Spec PyProof.Rows L2
section
variable {P : Program} {w : World} {A : Around} {E : Value → Shared → Prop} {s : Shared}
/-- set(xs) of a list of ints -/
theorem set_listI {l : Addr} {items : Array Value} (ns : List Int) {Q : Value → Shared → Prop} (hh : A.handled = none) (hl : s.heap.IsList l items) (hit : IntsAre items.toList ns) (hb : ns.length + 1 < scanBound)
    (h : ∀ (h' : Heap) (tk c : Nat), SetR w h' s.heap.objs.size (fun j => decide (j ∈ ns)) c → c ≤ ns.length → (∀ b o, s.heap.get? b = some o → h'.get? b = some o) → Q (.ref s.heap.objs.size) { s with heap := h', toks := tk }) :
    wpAny (model P w) A (call (.type "set") [.ref l]) Q E s := by
  have hisz : items.size = ns.length := by
    have q := IntsAre.length hit
    rw [Array.length_toList] at q
    exact q
  obtain ⟨c, tl, hmro⟩ := F.called_set.mro
  have hmade := F.called_set.made
  have hsub := F.called_set.sub
  refine wpAny_call (codeAny_of_tree ?_)
  show wpAny _ _ (callAny (.type "set") _) _ _ _
  refine wpAny_pure ⟨Code.quiet_builtin _ (by decide +kernel), codeAny_builtin F.entry_type_call ?_⟩
  rw [Around.under_plain (weight_type_call_type "set" [.ref l] []) rfl]
  have h1 := F.called_set.notType
  have h2 := F.called_set.canCreate
  have hct := F.typeCall_set_1 (.ref l)
  repeat (any_goals (first | assumption | wp_step))
  refine codeAny_mono (code_set_led1 (.ref l) (E := E) (Q₁ := fun obj s₁ => obj = .ref s.heap.objs.size ∧ s₁ = { s with heap := s.heap.push { cls := .type "set", dict := none, data := .set #[] 0 (.fresh 0 0 (!w.params.followText "set-order")) } }) ⟨rfl, rfl⟩) fun r s₁ hr => ?_
  cases r with
  | error e => exact hr
  | ok fl =>
    cases fl with
    | ret obj =>
      obtain ⟨rfl, rfl⟩ := hr
      have hS : (s.heap.push { cls := .type "set", dict := none, data := .set #[] 0 (.fresh 0 0 (!w.params.followText "set-order")) }).get? s.heap.objs.size = some { cls := .type "set", dict := none, data := .set #[] 0 (.fresh 0 0 (!w.params.followText "set-order")) } := Heap.get?_push_size _ rfl
      have hT : Shared.TypeIs { s with heap := s.heap.push { cls := .type "set", dict := none, data := .set #[] 0 (.fresh 0 0 (!w.params.followText "set-order")) } } (.ref s.heap.objs.size) "set" := ⟨_, hS, rfl⟩
      have hli := F.called_set.init.lookup
      have hbi := F.called_set.init.bind (.ref s.heap.objs.size)
      repeat (any_goals (first | assumption | wp_step))
      refine codeAny_mono (codeAny_call_builtin (R := wants (fun r s₂ => r = .none ∧ ∃ h' tk c, s₂ = { s with heap := h', toks := tk } ∧ SetR w h' s.heap.objs.size (fun j => decide (j ∈ ns)) c ∧ c ≤ ns.length ∧
          (∀ b o, s.heap.get? b = some o → h'.get? b = some o)) E) F.called_set.init.plain F.entry_set_init (check_set_init_1 hT ?_)) fun r₂ s₂ hr₂ => ?_
      · obtain ⟨ol, hol, hcl, nl, hdl⟩ := hl
        obtain ⟨ocls, odict, odata, oslots⟩ := ol
        simp only at hcl hdl
        subst hcl; subst hdl
        have hol' : (s.heap.push { cls := .type "set", dict := none, data := .set #[] 0 (.fresh 0 0 (!w.params.followText "set-order")) }).get? l = some { cls := .type "list", dict := odict, data := .seq items nl, slots := oslots } := Heap.get?_push_of_some _ hol
        have hsls := F.sub_list_set
        have hslf := F.sub_list_frozenset
        have hne : (Value.type "list" == Value.type "dict") = false := by decide
        have hl1 : (s.heap.push { cls := .type "set", dict := none, data := .set #[] 0 (.fresh 0 0 (!w.params.followText "set-order")) }).IsList l items := ⟨_, hol', rfl, nl, rfl⟩
        unfold Builtin.«set.__init__» noKeywords Builtin.Frozenset.updateFrom
        generalize hPI : pyIter = PI
        wp_walk
        subst hPI
        refine wpAny_pyIter_list hl1 ?_
        refine wpAny_bind (wpAny_runValue ?_)
        have hlS : l < s.heap.objs.size := Heap.lt_size hol
        have hh3 : A.in1.in1.in1.handled = none := by simp [hh]
        have hneI : l ≠ (s.heap.push { cls := .type "set", dict := none, data := .set #[] 0 (.fresh 0 0 (!w.params.followText "set-order")) }).objs.size := by
          rw [Heap.size_push]; exact Nat.ne_of_lt (Nat.lt_succ_of_lt hlS)
        have hSf : s.heap.objs.size ∉ [(s.heap.push { cls := .type "set", dict := none, data := .set #[] 0 (.fresh 0 0 (!w.params.followText "set-order")) }).objs.size, l] := by
          rw [Heap.size_push]; simp only [List.mem_cons, List.mem_singleton, List.not_mem_nil, or_false, not_or]
          exact ⟨Nat.ne_of_lt (Nat.lt_succ_self _), Nat.ne_of_gt hlS⟩
        have hval : ∀ (i : Nat) (v : Value), items[i]? = some v → ∃ k t, ns[i]? = some k ∧ v = .int k t := fun i v hv => by
          have hi : i < ns.length := by rw [← hisz]; exact (Array.getElem?_eq_some_iff.mp hv).1
          obtain ⟨t, e⟩ := PyProof.Rows.IntsAre.int_at hit i v (by rw [Array.getElem?_toList]; exact hv)
          refine ⟨ns[i], t, List.getElem?_eq_getElem hi, ?_⟩
          rw [e, List.getD_eq_getElem?_getD, List.getElem?_eq_getElem hi] <;> rfl
        refine set_update_ints ((Walks.list hh3 _ l hneI items).toS) s.heap.objs.size
          hSf ns hisz hb hval (items.size - 0) 0 _ (by omega) (Nat.zero_le _)
          ⟨⟨_, Heap.get?_push_size _ rfl, rfl, rfl⟩, (hl1.push _)⟩ ?hS0 ?hR
        case hS0 =>
          have hget : ((s.heap.push { cls := .type "set", dict := none, data := .set #[] 0 (.fresh 0 0 (!w.params.followText "set-order")) }).push { cls := .type "list_iterator", data := .fields #[.ref l, .int 0 0] }).get? s.heap.objs.size
              = some { cls := .type "set", dict := none, data := .set #[] 0 (.fresh 0 0 (!w.params.followText "set-order")) } := Heap.get?_push_of_some _ hS
          exact ⟨0, Nat.le_refl 0, setR_new_at hget⟩
        case hR =>
          intro s' c' hm hc' hS'
          obtain ⟨h', g2, d', tk', os'⟩ := s'
          have eg : g2 = s.gens := hm.gens
          have ed : d' = s.drawn := hm.drawn
          have eo : os' = s.os := hm.os
          subst eg; subst ed; subst eo
          show wpAny _ _ _ _ _ _
          refine wpAny_pure ?_
          show wpAny _ _ (ret Value.none) _ _ _
          rw [hisz] at hc'
          refine wpAny_pure ⟨rfl, h', tk', c', rfl, hS', hc', fun b o e => ?_⟩
          have hb0 : b < s.heap.objs.size := Heap.lt_size e
          have hb1 : b ≠ s.heap.objs.size := Nat.ne_of_lt hb0
          have hb2 : b ≠ (s.heap.push { cls := .type "set", dict := none, data := .set #[] 0 (.fresh 0 0 (!w.params.followText "set-order")) }).objs.size := by
            rw [Heap.size_push]; exact Nat.ne_of_lt (Nat.lt_succ_of_lt hb0)
          exact hm.heap b o (by simp only [List.mem_cons, List.mem_singleton, List.not_mem_nil, or_false, not_or]; exact ⟨hb1, hb2⟩) (Heap.get?_push_of_some _ (Heap.get?_push_of_some _ e))
      · cases r₂ with
        | error e => exact hr₂
        | ok fl₂ =>
          cases fl₂ with
          | ret r =>
            obtain ⟨rfl, h', tk, c', rfl, hS', hc', hk'⟩ := hr₂
            repeat (any_goals (first | assumption | wp_step))
            exact h _ _ _ hS' hc' hk'
          | _ => exact hr₂.elim
    | _ => exact hr.elim
/-- sorted of a set of ints, any number of them -/
theorem sorted_setN {a : Addr} {S : Int → Bool} {n : Nat} {Q : Value → Shared → Prop} (R : SetR w s.heap a S n) (hh : A.handled = none) (hz : n ≤ sizeLine)
    (hQ : ∀ s' p (out : Array Value) (c : Nat) (ns : List Int), (∀ b o, s.heap.get? b = some o → s'.heap.get? b = some o) → s'.gens = s.gens → s'.os = s.os → s.heap.objs.size ≤ p →
      s'.heap.get? p = some (seqObj "list" out c) → IntsAre out.toList ns → ns.Pairwise (· < ·) → (∀ k, k ∈ ns ↔ S k = true) → ns.length = n → Q (.ref p) s') :
    wpAny (model P w) A (call (.builtin "sorted") [.ref a]) Q E s := by
  obtain ⟨o, es, ep, t, ho, hex, hd, g, nd, hm, hb, hf, hn, hr, hl⟩ := R
  refine Calls.call_function_entry kind_sorted plain_sorted entry_sorted (args_sorted1 _) ?_
  unfold Builtin.«sorted»
  refine wpAny_bind (m := checkCount "sorted" 1 1 _) (wpAny_pure ?_)
  refine wpAny_bind (collect_set (A := A.in1) hh ⟨o, ho, hex.1, hd⟩ hf hb hr hl fun s1 vs k1 hz g1 o1 pm => ?_)
  have hvl : vs.length = n := by rw [pm.length_eq, List.length_map, Array.length_toList]; exact hn
  have hI : IntsAre vs (vs.map Builtin.Re.reRawOf) := ints_of vs fun v hv => by
    obtain ⟨e, he, q⟩ := List.mem_map.mp (pm.mem_iff.mp hv)
    obtain ⟨k, tk, h1, _⟩ := g e he
    exact ⟨k, tk, by rw [← q]; exact h1⟩
  have pk : (vs.map Builtin.Re.reRawOf).Perm (es.toList.map keyOf) := by
    have q := pm.map Builtin.Re.reRawOf
    rw [List.map_map] at q
    exact q
  have hz2 : vs.length ≤ sizeLine := by rw [hvl]; assumption
  refine wpAny_bind (wpAny_newList ?_ hz2)
  have hoL : (s1.heap.push (seqObj "list" vs.toArray 0)).get? s1.heap.objs.size = some (seqObj "list" vs.toArray 0) := Heap.get?_push_size _ rfl
  refine wpAny_bind (wpAny_holding (wpAny_call_entry slot_list_sort ⟨_, hoL, rfl⟩ entry_list_sort
    (SrtO.list_sort_ord SrtO.swo_int hoL hz2 (fun h2 => SrtO.ints_sortable hI h2) fun out h1 h2 => ⟨_, rfl, ?_⟩) (args_list_sort _)))
  obtain ⟨k1', k2, k3⟩ := SrtO.ints_out hI h1 h2
  obtain ⟨c, hc⟩ := sortedHeap_at (vs := vs) (out := out.toArray) hoL
  have pn : (out.map SrtO.iv).Perm (es.toList.map keyOf) := k2.trans pk
  refine wpAny_pure ⟨_, rfl, hQ _ s1.heap.objs.size out.toArray c (out.map SrtO.iv) (fun b u e => ?_) g1 o1 hz hc k1' (lt_of_le_nodup _ k3 (pn.nodup_iff.mpr nd)) (fun k => by rw [pn.mem_iff, ← hm k]) ?_⟩
  · have q := k1 b u e
    have hlt := Heap.lt_size q
    show (sortedHeap (s1.heap.push (seqObj "list" vs.toArray 0)) s1.heap.objs.size vs out.toArray).get? b = some u
    rw [sortedHeap_old (Nat.ne_of_lt hlt) (by rw [size_push']; exact Nat.lt_succ_of_lt hlt)]
    exact Heap.get?_push_of_some _ q
  · rw [pn.length_eq, List.length_map, Array.length_toList]; exact hn
end
section
variable {X : Cx} {K : PySem.W.Frag} {w : World}
def rSetL (K : PySem.W.Frag) (w : World) : List V → Hp → VK → Prop := fun xs H Q => ∃ (a : Addr) (ns : List Int), xs = [.ref a] ∧ SqL K H a (ns.map V.int) ∧ ns.length ≤ 4000 ∧ ∀ p c, c ≤ ns.length → H p = none → Q (.ref p) (upd H p (SetO w p (fun j => decide (j ∈ ns)) c))
theorem clSetL (hc : X.calm = true := by rfl) (h : X.K = K := by rfl) (hw : X.w = w := by rfl) : CallR X (.type "set") (rSetL K w) := by
  subst h hw
  intro pins s σ H vs us Q I r h
  obtain ⟨a, ns, rfl, ha, hl, q⟩ := h
  obtain ⟨u, rfl, rx⟩ := vals1 r
  cases rx
  obtain ⟨its, rv, pl, hz⟩ := I.list ha
  have hi : IntsAre its.toArray.toList ns := ints_of_vals rv
  refine set_listI ns (I.ok.hd hc) (let ⟨o, n, e, c, _, d⟩ := pl; ⟨o, e, c, n, d⟩) hi (by unfold scanBound; omega) fun h' tk c R1 hcn k => ?_
  exact ⟨.ref _, upd H s.heap.objs.size (SetO X.w s.heap.objs.size (fun j => decide (j ∈ ns)) c), I.laid (t' := tk) k (Nat.le_refl _) (setO_new R1), rfl, q _ _ hcn (I.hok.fresh (Nat.le_refl _))⟩
def rSortS (w : World) : List V → Hp → VK → Prop := fun vs H Q => ∃ (a : Addr) (S : Int → Bool) (n : Nat), vs = [V.ref a] ∧ H a = some (SetO w a S n) ∧ n ≤ 100000 ∧
  ∀ (ns : List Int) (p : Addr), ns.Pairwise (· < ·) → (∀ k : Int, k ∈ ns ↔ S k = true) → ns.length = n → H p = none → Q (.ref p) (upd H p (.lst (ns.map V.int)))
theorem clSortS (hc : X.calm = true := by rfl) (hw : X.w = w := by rfl) : CallR X (.builtin "sorted") (rSortS w) := by
  subst hw
  intro pins s σ H vs us Q I r h
  obtain ⟨a, S, n, rfl, ha, hz, q⟩ := h
  have R := setO_get I ha
  rw [Vals.ref1 r]
  have hz' : n ≤ sizeLine := Nat.le_of_lt (by rw [sizeLine_eq]; omega)
  refine sorted_setN R (I.ok.hd hc) hz' fun s' p out c ns k g o hp hg hi hs hm hl => ?_
  have hlen : (ns.map V.int).length ≤ sizeLine := by rw [List.length_map, hl]; exact hz'
  have hn : H p = none := I.hok.fresh hp
  have J : Inv X pins σ (upd H p (.lst (ns.map V.int))) { s with heap := s'.heap, gens := s'.gens, drawn := s'.drawn, toks := s'.toks } :=
    I.call (ch := []) (Un.laid k hp hn) (I.hok.laid k hp ⟨hlen, out.toList, c, vals_of_ints hi, hg⟩) (by rw [g]; exact I.bare) (fun _ z => nomatch z)
  have e : s' = { s with heap := s'.heap, gens := s'.gens, drawn := s'.drawn, toks := s'.toks } := by
    cases s'
    cases s
    cases o
    rfl
  rw [e]
  exact ⟨.ref p, _, J, rfl, q ns p hs hm hl hn⟩
end
end R

namespace R
open PySem PySem.Spec PyProof.Rows L2
/-! ### list(s) of a text -/
def chars (z : Str) : List V := z.cps.toList.map fun c => V.str ⟨#[c]⟩
theorem chars_len (z : Str) : (chars z).length = z.length := by simp [chars, Str.length]
def rListS : List V → Hp → VK → Prop := fun xs H Q => ∃ z : Str, xs = [.str z] ∧ z.length ≤ sizeLine ∧ ∀ q, H q = none → Q (.ref q) (upd H q (.lst (chars z)))
theorem clListS {X : Cx} (hc : X.calm = true := by rfl) : CallR X (.type "list") rListS := by
  intro pins s σ H xs us Q I r h
  obtain ⟨z, rfl, hz, q⟩ := h
  obtain ⟨u, rfl, rx⟩ := vals1 r
  obtain ⟨t, rfl⟩ := rx
  refine PySem.call_list_str (I.ok.hd hc) z t (fun h' tk acc c' hk e hi => ?_) hz
  refine ⟨.ref s.heap.objs.size, upd H s.heap.objs.size (.lst (chars z)), I.laid hk (Nat.le_refl _) ⟨by rw [chars_len]; exact hz, acc.toList, c', ?_, by rw [Array.toArray_toList]; exact e⟩, rfl, q _ (I.hok.fresh (Nat.le_refl _))⟩
  refine vals_of_idx _ _ (by rw [chars_len, Array.length_toList]; exact hi.1) fun j u hj => ?_
  obtain ⟨c, t', hc, rfl⟩ := hi.2 j u (by rw [← Array.getElem?_toList]; exact hj)
  refine ⟨.str ⟨#[c]⟩, ?_, ⟨_, rfl⟩⟩
  unfold chars
  rw [List.getElem?_map, Array.getElem?_toList, hc]
  rfl
theorem n_listS {M : List Addr} {F0 H0 F H : Hp} {L : List Own} {Q : VK} {z : Str} (w : W M F0 H0 F H L) (hz : z.length ≤ sizeLine) (h : ∀ p F2 H2, W M F0 H0 F2 H2 (mu p (.lst (chars z)) :: L) → H0 p = none → Q (.ref p) H2) : rListS [.str z] H Q := ⟨z, rfl, hz, n_new w h⟩
def sgn (z : Str) (k : Nat) : V := .str ⟨#[z.cps.toList.getD k 0]⟩
theorem chars_get {z : Str} {k : Nat} (h : k < z.length) : (chars z)[k]? = some (sgn z k) := by
  have hi : k < z.cps.toList.length := by
    have : z.cps.toList.length = z.length := by simp [Str.length]
    omega
  unfold chars sgn
  rw [List.getElem?_map, List.getD_eq_getElem?_getD, List.getElem?_eq_getElem hi]
  rfl
/-! ### flat values -/
def flatD : V → PyData
  | .int i => .int i
  | .str z => .str z
  | _ => .none
def FlatV (v : V) : Prop := v = .non ∨ (∃ i, v = .int i) ∨ ∃ z, v = .str z ∧ okS z ∧ z.length ≤ 100
theorem flat_dp {K : PySem.W.Frag} {F : Hp} {v : V} (h : FlatV v) : Dp K F v (flatD v) ∧ good (flatD v) = true ∧ (flatD v).depth ≤ 0 := by
  rcases h with rfl | ⟨i, rfl⟩ | ⟨z, rfl, h1, h2⟩
  · exact ⟨.non, rfl, Nat.le_refl _⟩
  · exact ⟨.int i, rfl, Nat.le_refl _⟩
  · exact ⟨.str z, str_good h1 (by omega), Nat.le_refl _⟩
theorem flat_dpa {K : PySem.W.Frag} {F : Hp} : ∀ {vs : List V}, (∀ v ∈ vs, FlatV v) → DpAll K F vs (vs.map flatD)
  | [], _ => .nil
  | v :: vs, h => .cons (flat_dp (h v (List.mem_cons_self ..))).1 (flat_dpa fun u hu => h u (List.mem_cons_of_mem _ hu))
theorem flat_good {vs : List V} (h : ∀ v ∈ vs, FlatV v) (hl : vs.length ≤ 100000) : good (.list (vs.map flatD)) = true ∧ (PyData.list (vs.map flatD)).depth ≤ 1 := by
  constructor
  · refine good_list (by rw [List.length_map]; exact hl) fun d hd => ?_
    obtain ⟨r, hr, rfl⟩ := List.mem_map.mp hd
    exact (flat_dp (K := default) (F := fun _ => none) (h r hr)).2.1
  · refine depth_list fun d hd => ?_
    obtain ⟨r, hr, rfl⟩ := List.mem_map.mp hd
    exact (flat_dp (K := default) (F := fun _ => none) (h r hr)).2.2
theorem chars_flat {z : Str} (h : okS z) : ∀ v ∈ chars z, FlatV v := by
  intro v hv
  obtain ⟨k, hk, e⟩ := List.getElem_of_mem hv
  rw [chars_len] at hk
  have e2 := chars_get hk
  rw [List.getElem?_eq_getElem (by rw [chars_len]; exact hk), e] at e2
  rw [Option.some.inj e2]
  exact .inr (.inr ⟨_, rfl, ok_sign h hk, by show 1 ≤ 100; decide⟩)
theorem flat_snoc {vs : List V} {v : V} (h : ∀ v ∈ vs, FlatV v) (hv : FlatV v) : ∀ u ∈ vs ++ [v], FlatV u := by
  intro u hu
  rcases List.mem_append.mp hu with hu | hu
  · exact h u hu
  · rw [List.mem_singleton.mp hu]
    exact hv
/-! ### slices -/
theorem cut_nat (xs : List V) (i j : Nat) : cutV xs (some (i : Int)) (some (j : Int)) = (xs.drop i).take (j - i) := by
  unfold cutV
  rw [HT.sIx_nat, HT.sIx_nat]
  by_cases h : i ≤ xs.length
  · rw [Nat.min_eq_left h]
    by_cases h2 : j ≤ xs.length
    · rw [Nat.min_eq_left h2]
    · rw [Nat.min_eq_right (by omega), List.take_of_length_le (by rw [List.length_drop]; exact Nat.le_refl _), List.take_of_length_le (by rw [List.length_drop]; omega)]
  · rw [Nat.min_eq_right (show xs.length ≤ i by omega), List.drop_eq_nil_of_le (Nat.le_refl _), List.drop_eq_nil_of_le (show xs.length ≤ i by omega), List.take_nil, List.take_nil]
theorem cut_to (xs : List V) (j : Nat) : cutV xs none (some (j : Int)) = xs.take j := by
  unfold cutV
  rw [HT.sIx_none, HT.sIx_nat, List.drop_zero, Nat.sub_zero]
  by_cases h : j ≤ xs.length
  · rw [Nat.min_eq_left h]
  · rw [Nat.min_eq_right (by omega), List.take_of_length_le (Nat.le_refl _), List.take_of_length_le (by omega)]
theorem cut_from (xs : List V) (i : Nat) : cutV xs (some (i : Int)) none = xs.drop i := by
  unfold cutV
  rw [HT.sIx_none, HT.sIx_nat]
  by_cases h : i ≤ xs.length
  · rw [Nat.min_eq_left h]
    exact List.take_of_length_le (by rw [List.length_drop]; exact Nat.le_refl _)
  · rw [Nat.min_eq_right (by omega), Nat.sub_self, List.take_zero, List.drop_eq_nil_of_le (by omega)]
/-! ### items put one by one from a place on -/
def putN {α : Type} (f : Nat → α) (l : List α) (to : Nat) : Nat → List α
  | 0 => l
  | n + 1 => (putN f l to n).set (to + n) (f n)
theorem putN_len {α : Type} (f : Nat → α) (l : List α) (to : Nat) : ∀ n, (putN f l to n).length = l.length
  | 0 => rfl
  | n + 1 => by rw [putN, List.length_set, putN_len f l to n]
theorem putN_get {α : Type} (f : Nat → α) (l : List α) (to : Nat) : ∀ (n i : Nat), (putN f l to n)[i]? = if to ≤ i ∧ i < to + n ∧ i < l.length then some (f (i - to)) else l[i]?
  | 0, i => by
    rw [putN, if_neg (by omega)]
  | n + 1, i => by
    rw [putN, List.getElem?_set, putN_len]
    by_cases e : to + n = i
    · subst e
      rw [if_pos rfl]
      by_cases hl : to + n < l.length
      · rw [if_pos hl, if_pos (by omega), show to + n - to = n by omega]
      · rw [if_neg hl, if_neg (by omega), List.getElem?_eq_none (by omega)]
    · rw [if_neg e, putN_get f l to n i]
      by_cases h : to ≤ i ∧ i < to + n ∧ i < l.length
      · rw [if_pos h, if_pos (by omega)]
      · rw [if_neg h, if_neg (by omega)]
theorem ixN_nat {n i j : Nat} (h : i + j < n) : ixN n ((i : Int) + j) = some (i + j) := by
  unfold ixN
  rw [if_pos (by omega), if_pos (by omega)]
  congr 1
/-! ### moves -/
inductive Mv where
  | put (to : Nat) (s : Str)
  | copy (to a n : Nat)
def Mv.d : Mv → PyData
  | .put to s => .tuple [.str "put", .int to, .str s]
  | .copy to a n => .tuple [.str "copy", .int to, .int a, .int n]
def Mv.to : Mv → Nat
  | .put to _ => to
  | .copy to _ _ => to
def Mv.len : Mv → Nat
  | .put _ s => s.length
  | .copy _ _ n => n
def Mv.lo : Mv → Nat
  | .put _ _ => 0
  | .copy _ a _ => a
def Mv.hi : Mv → Nat
  | .put _ _ => 0
  | .copy _ a n => a + n
def Mv.sOk : Mv → Prop
  | .put _ s => okS s ∧ s.length ≤ 1000
  | .copy to a _ => to ≠ a
structure MvOk (N : Nat) (m : Mv) : Prop where
  s : m.sOk
  p : 1 ≤ m.len
  t : m.to + m.len ≤ N
  h : m.hi ≤ N
def Mv.some (xs : List V) : Mv → List V
  | .put _ s => chars s
  | .copy _ a n => (xs.drop a).take n
def laidL (xs : List V) (to : Nat) (zs : List V) : List V := xs.take to ++ zs ++ xs.drop (to + zs.length)
def stepM (once : Bool) (xs now : List V) (m : Mv) : List V := laidL now m.to (m.some (if once then xs else now))
def runM (once : Bool) (xs : List V) (ms : List Mv) : List V := ms.foldl (stepM once xs) xs
theorem run_take {once : Bool} {xs : List V} {ms : List Mv} {i : Nat} {m : Mv} (h : ms[i]? = Option.some m) : runM once xs (ms.take (i + 1)) = stepM once xs (runM once xs (ms.take i)) m := by
  unfold runM
  rw [List.take_add_one, h, List.foldl_append]
  rfl
theorem some_len {xs : List V} {m : Mv} (h : m.hi ≤ xs.length) : (m.some xs).length = m.len := by
  cases m with
  | put to s => exact chars_len s
  | copy to a n =>
    show ((xs.drop a).take n).length = n
    have h' : a + n ≤ xs.length := h
    rw [List.length_take, List.length_drop]
    omega
theorem laid_len {xs zs : List V} {to : Nat} (h : to + zs.length ≤ xs.length) : (laidL xs to zs).length = xs.length := by
  unfold laidL
  rw [List.length_append, List.length_append, List.length_take, List.length_drop]
  omega
theorem step_len {once : Bool} {xs now : List V} {m : Mv} (e : now.length = xs.length) (h : MvOk xs.length m) : (stepM once xs now m).length = xs.length := by
  have h2 : (if once then xs else now).length = xs.length := by split <;> first | rfl | exact e
  have h3 := some_len (xs := if once then xs else now) (m := m) (by rw [h2]; exact h.h)
  unfold stepM
  rw [laid_len (by rw [h3, e]; exact h.t), e]
theorem run_len {once : Bool} {xs : List V} : ∀ {ms : List Mv}, (∀ m ∈ ms, MvOk xs.length m) → (runM once xs ms).length = xs.length := by
  have key : ∀ (ms : List Mv) (now : List V), now.length = xs.length → (∀ m ∈ ms, MvOk xs.length m) → (ms.foldl (stepM once xs) now).length = xs.length := by
    intro ms
    induction ms with
    | nil => intro now e _; exact e
    | cons m ms ih => intro now e h; exact ih _ (step_len e (h m (List.mem_cons_self ..))) fun q hq => h q (List.mem_cons_of_mem _ hq)
  intro ms h
  exact key _ xs rfl h
theorem laid_put {xs zs : List V} {to : Nat} (h : to + zs.length ≤ xs.length) : putN (fun k => zs.getD k .non) xs to zs.length = laidL xs to zs := by
  refine List.ext_getElem? fun i => ?_
  rw [putN_get]
  unfold laidL
  by_cases h1 : i < to
  · rw [if_neg (by omega), List.append_assoc, List.getElem?_append_left (by rw [List.length_take]; omega), List.getElem?_take_of_lt h1]
  · by_cases h2 : i < to + zs.length
    · rw [if_pos ⟨by omega, h2, by omega⟩, List.append_assoc, List.getElem?_append_right (by rw [List.length_take]; omega), List.getElem?_append_left (by rw [List.length_take]; omega), List.length_take, Nat.min_eq_left (by omega),
        List.getD_eq_getElem?_getD, List.getElem?_eq_getElem (by omega)]
      rfl
    · rw [if_neg (by omega), List.getElem?_append_right (by rw [List.length_append, List.length_take]; omega), List.getElem?_drop, List.length_append, List.length_take, Nat.min_eq_left (by omega)]
      congr 1
      omega
theorem mem_take {α : Type} {l : List α} {n : Nat} {x : α} (h : x ∈ l.take n) : x ∈ l := List.mem_of_mem_take h
theorem some_flat {xs : List V} {m : Mv} (hs : m.sOk) (h : ∀ v ∈ xs, FlatV v) : ∀ v ∈ m.some xs, FlatV v := by
  cases m with
  | put to s => exact chars_flat hs.1
  | copy to a n => exact fun v hv => h v (List.mem_of_mem_drop (List.mem_of_mem_take hv))
theorem run_flat {once : Bool} {xs : List V} (hx : ∀ v ∈ xs, FlatV v) : ∀ {ms : List Mv}, (∀ m ∈ ms, m.sOk) → ∀ v ∈ runM once xs ms, FlatV v := by
  have key : ∀ (ms : List Mv) (now : List V), (∀ v ∈ now, FlatV v) → (∀ m ∈ ms, m.sOk) → ∀ v ∈ ms.foldl (stepM once xs) now, FlatV v := by
    intro ms
    induction ms with
    | nil => intro now e _; exact e
    | cons m ms ih =>
      intro now e h
      refine ih _ (fun v hv => ?_) fun q hq => h q (List.mem_cons_of_mem _ hq)
      rcases List.mem_append.mp hv with hv | hv
      · rcases List.mem_append.mp hv with hv | hv
        · exact e v (List.mem_of_mem_take hv)
        · exact some_flat (h m (List.mem_cons_self ..)) (by split <;> assumption) v hv
      · exact e v (List.mem_of_mem_drop hv)
  intro ms h
  exact key _ xs hx h
section
variable {K : PySem.W.Frag} {F : Hp} {x : V}
theorem dp_mput {to : Nat} {s : Str} (h : Dp K F x (Mv.put to s).d) : ∃ a, x = .ref a ∧ SqT K F a [.str "put", .int to, .str s] := by
  obtain ⟨a, v1, v2, v3, rfl, hs, h1, h2, h3⟩ := dp_tup3 h
  rw [dp_str h1, dp_int h2, dp_str h3] at hs
  exact ⟨a, rfl, hs⟩
theorem dp_mcopy {to a n : Nat} (h : Dp K F x (Mv.copy to a n).d) : ∃ p, x = .ref p ∧ SqT K F p [.str "copy", .int to, .int a, .int n] := by
  obtain ⟨p, v1, v2, v3, v4, rfl, hs, h1, h2, h3, h4⟩ := dp_tup4 h
  rw [dp_str h1, dp_int h2, dp_int h3, dp_int h4] at hs
  exact ⟨p, rfl, hs⟩
theorem dp_mput' {p : Addr} {to : Nat} {s : Str} (h : SqT K F p [.str "put", .int to, .str s]) : Dp K F (.ref p) (Mv.put to s).d := .tup h (.cons (.str _) (.cons (.int _) (.cons (.str _) .nil)))
theorem dp_mcopy' {p : Addr} {to a n : Nat} (h : SqT K F p [.str "copy", .int to, .int a, .int n]) : Dp K F (.ref p) (Mv.copy to a n).d := .tup h (.cons (.str _) (.cons (.int _) (.cons (.int _) (.cons (.int _) .nil))))
/-- the first two items of a move -/
theorem dp_mv0 {m : Mv} (h : Dp K F x m.d) : ∃ p ys, x = .ref p ∧ SqT K F p ys ∧ ys[1]? = some (.int (m.to : Nat)) := by
  cases m with
  | put to s =>
    obtain ⟨p, rfl, hs⟩ := dp_mput h
    exact ⟨p, _, rfl, hs, rfl⟩
  | copy to a n =>
    obtain ⟨p, rfl, hs⟩ := dp_mcopy h
    exact ⟨p, _, rfl, hs, rfl⟩
/-- item i of a list of data -/
theorem dpa_at {α : Type} {f : α → PyData} {us : List V} {as : List α} {i : Nat} {y : V} (h : DpAll K F us (as.map f)) (hx : us[i]? = some y) : ∃ r, as[i]? = some r ∧ Dp K F y (f r) := by
  have hl := dpa_len h
  have hi := (List.getElem?_eq_some_iff.mp hx).1
  rw [List.length_map] at hl
  have hr : as[i]? = some as[i] := List.getElem?_eq_getElem (by omega)
  obtain ⟨v, hv, dv⟩ := dpa_get (i := i) (d := f as[i]) h (by rw [List.getElem?_map, hr]; rfl)
  rw [hx] at hv
  rw [Option.some.inj hv]
  exact ⟨_, hr, dv⟩
theorem dpa_perm {α : Type} {f : α → PyData} {us vs : List V} (p : us.Perm vs) : ∀ {as : List α}, DpAll K F us (as.map f) → ∃ bs, as.Perm bs ∧ DpAll K F vs (bs.map f) := by
  induction p with
  | nil => exact fun h => ⟨_, .refl _, h⟩
  | cons x _ ih =>
    intro as h
    cases as with
    | nil => cases h
    | cons a as =>
      cases h with
      | cons h t =>
        obtain ⟨bs, p, q⟩ := ih t
        exact ⟨a :: bs, p.cons _, .cons h q⟩
  | swap x y l =>
    intro as h
    cases as with
    | nil => cases h
    | cons a as =>
      cases h with
      | cons h t =>
        cases as with
        | nil => cases t
        | cons b as =>
          cases t with
          | cons h2 t => exact ⟨b :: a :: as, .swap _ _ _, .cons h2 (.cons h t)⟩
  | trans _ _ ih1 ih2 =>
    intro as h
    obtain ⟨bs, p, q⟩ := ih1 h
    obtain ⟨cs, p2, q2⟩ := ih2 q
    exact ⟨cs, p.trans p2, q2⟩
end
theorem mv_good {m : Mv} (h : m.sOk) : good m.d = true ∧ m.d.depth ≤ 1 := by
  cases m with
  | put to s =>
    constructor
    · refine good_tuple (by simp) fun d hd => ?_
      simp only [List.mem_cons, List.not_mem_nil, or_false] at hd
      rcases hd with rfl | rfl | rfl
      · decide +kernel
      · rfl
      · exact str_good h.1 (Nat.le_trans h.2 (by decide))
    · refine depth_tuple fun d hd => ?_
      simp only [List.mem_cons, List.not_mem_nil, or_false] at hd
      rcases hd with rfl | rfl | rfl <;> exact Nat.le_refl _
  | copy to a n =>
    constructor
    · refine good_tuple (by simp) fun d hd => ?_
      simp only [List.mem_cons, List.not_mem_nil, or_false] at hd
      rcases hd with rfl | rfl | rfl | rfl
      · decide +kernel
      · rfl
      · rfl
      · rfl
    · refine depth_tuple fun d hd => ?_
      simp only [List.mem_cons, List.not_mem_nil, or_false] at hd
      rcases hd with rfl | rfl | rfl | rfl <;> exact Nat.le_refl _
theorem mvs_good {ms : List Mv} (h : ∀ m ∈ ms, m.sOk) (hl : ms.length ≤ 100000) : good (.list (ms.map Mv.d)) = true ∧ (PyData.list (ms.map Mv.d)).depth ≤ 2 := by
  constructor
  · refine good_list (by rw [List.length_map]; exact hl) fun d hd => ?_
    obtain ⟨r, hr, rfl⟩ := List.mem_map.mp hd
    exact (mv_good (h r hr)).1
  · refine depth_list fun d hd => ?_
    obtain ⟨r, hr, rfl⟩ := List.mem_map.mp hd
    exact (mv_good (h r hr)).2
/-- no cell is written twice -/
def Apart (ms : List Mv) : Prop := ms.Pairwise fun m k => m.to + m.len ≤ k.to ∨ k.to + k.len ≤ m.to
theorem Apart.perm {ms ks : List Mv} (h : Apart ms) (p : ms.Perm ks) : Apart ks := (p.pairwise_iff (fun h => h.symm)).mp h
structure MvsOk (N : Nat) (ms : List Mv) : Prop where
  ok : ∀ m ∈ ms, MvOk N m
  ap : Apart ms
theorem MvsOk.perm {N : Nat} {ms ks : List Mv} (h : MvsOk N ms) (p : ms.Perm ks) : MvsOk N ks := ⟨fun m hm => h.ok m (p.mem_iff.mpr hm), h.ap.perm p⟩
theorem MvsOk.sub {N : Nat} {ms ks : List Mv} (h : MvsOk N ms) (p : ks.Sublist ms) : MvsOk N ks := ⟨fun m hm => h.ok m (p.mem hm), List.Pairwise.sublist p h.ap⟩
theorem nodup_lt : ∀ (N : Nat) (l : List Nat), l.Nodup → (∀ x ∈ l, x < N) → l.length ≤ N
  | 0, [], _, _ => Nat.le_refl _
  | 0, x :: l, _, h => absurd (h x (List.mem_cons_self ..)) (Nat.not_lt_zero _)
  | N + 1, l, hn, h => by
    have ih := nodup_lt N (l.erase N) (hn.erase N) fun x hx => by
      have h1 := h x (List.mem_of_mem_erase hx)
      have h2 : x ≠ N := fun e => by
        subst e
        exact (List.Nodup.mem_erase_iff hn).mp hx |>.1 rfl
      omega
    rw [List.length_erase] at ih
    split at ih <;> omega
/-- fewer than N + 1 of them -/
theorem MvsOk.len {N : Nat} {ms : List Mv} (h : MvsOk N ms) : ms.length ≤ N := by
  have hn : (ms.map Mv.to).Nodup := by
    refine List.pairwise_map.mpr (h.ap.imp_of_mem fun ha hb z => ?_)
    have := (h.ok _ ha).p
    have := (h.ok _ hb).p
    omega
  have hs : ∀ x ∈ ms.map Mv.to, x < N := fun x hx => by
    obtain ⟨m, hm, rfl⟩ := List.mem_map.mp hx
    have := (h.ok m hm).p
    have := (h.ok m hm).t
    omega
  have := nodup_lt N _ hn hs
  rwa [List.length_map] at this
/-! ### cuts and blocks -/
section
variable {K : PySem.W.Frag} {M : List Addr} {F0 H0 F H : Hp} {L : List Own} {Q : VK} {a : Addr} {ns : List Int} {wd : World}
theorem n_setI (w : W M F0 H0 F H L) (hs : SqL K H a (ns.map V.int)) (hl : ns.length ≤ 4000) (h : ∀ p c F2 H2, W M F0 H0 F2 H2 (mu p (SetO wd p (fun j => decide (j ∈ ns)) c) :: L) → c ≤ ns.length → H0 p = none → Q (.ref p) H2) : rSetL K wd [.ref a] H Q :=
  ⟨a, ns, rfl, hs, hl, fun p c hc np => h p c _ _ (w.nw np) hc (w.g.fresh np)⟩
theorem n_sortS {S : Int → Bool} {n : Nat} (w : W M F0 H0 F H L) (hs : H a = some (SetO wd a S n)) (hl : n ≤ 100000) (h : ∀ (ks : List Int) p F2 H2, W M F0 H0 F2 H2 (mu p (.lst (ks.map V.int)) :: L) → ks.Pairwise (· < ·) → (∀ k : Int, k ∈ ks ↔ S k = true) → ks.length = n → H0 p = none → Q (.ref p) H2) : rSortS wd [.ref a] H Q :=
  ⟨a, S, n, rfl, hs, hl, fun ks p h1 h2 h3 np => h ks p _ _ (w.nw np) h1 h2 h3 (w.g.fresh np)⟩
end
theorem cuts_nat {N : Nat} : ∀ {ns : List Int}, (∀ x ∈ ns, 0 ≤ x ∧ x ≤ (N : Int)) → ns.Pairwise (· < ·) → ∃ cs : List Nat, ns.map V.int = nV cs ∧ cs.Pairwise (· < ·) ∧ (∀ c ∈ cs, c ≤ N) ∧ (∀ k : Nat, k ∈ cs ↔ (k : Int) ∈ ns) ∧ cs.length = ns.length
  | [], _, _ => ⟨[], rfl, .nil, by simp, by simp, rfl⟩
  | x :: ns, h, p => by
    obtain ⟨p1, p2⟩ := List.pairwise_cons.mp p
    obtain ⟨cs, e, q1, q2, q3, q4⟩ := cuts_nat (ns := ns) (fun y hy => h y (List.mem_cons_of_mem _ hy)) p2
    have hx := h x (List.mem_cons_self ..)
    refine ⟨x.toNat :: cs, ?_, List.pairwise_cons.mpr ⟨fun c hc => ?_, q1⟩, fun c hc => ?_, fun k => ?_, by rw [List.length_cons, List.length_cons, q4]⟩
    · show V.int x :: ns.map V.int = V.int (x.toNat : Nat) :: nV cs
      rw [e, Int.toNat_of_nonneg hx.1]
    · have := p1 _ ((q3 c).mp hc)
      omega
    · rcases List.mem_cons.mp hc with rfl | hc
      · omega
      · exact q2 c hc
    · rw [List.mem_cons, List.mem_cons, q3]
      constructor
      · rintro (rfl | h)
        · exact .inl (Int.toNat_of_nonneg hx.1)
        · exact .inr h
      · rintro (h | h)
        · exact .inl (by omega)
        · exact .inr h
def blks : List Nat → List (Nat × Nat)
  | a :: b :: r => (a, b - a) :: blks (b :: r)
  | _ => []
def blkD (p : Nat × Nat) : PyData := .tuple [.int (p.1 : Nat), .int (p.2 : Nat)]
theorem blks_len : ∀ cs : List Nat, (blks cs).length = cs.length - 1
  | [] => rfl
  | [_] => rfl
  | a :: b :: r => by
    rw [blks, List.length_cons, blks_len (b :: r)]
    simp
theorem blks_get : ∀ {cs : List Nat} {i x y : Nat}, cs[i]? = some x → cs[i + 1]? = some y → (blks cs)[i]? = some (x, y - x)
  | [], _, _, _, h, _ => by simp at h
  | [_], 0, _, _, _, h => by simp at h
  | [_], i + 1, _, _, h, _ => by simp at h
  | a :: b :: r, 0, x, y, h1, h2 => by
    have e1 := Option.some.inj h1
    have e2 := Option.some.inj h2
    subst e1 e2
    rfl
  | a :: b :: r, i + 1, x, y, h1, h2 => by
    rw [blks, List.getElem?_cons_succ]
    exact blks_get (cs := b :: r) h1 h2
theorem blks_ok {N : Nat} : ∀ {cs : List Nat}, cs.Pairwise (· < ·) → (∀ c ∈ cs, c ≤ N) → ∀ p ∈ blks cs, 1 ≤ p.2 ∧ p.1 + p.2 ≤ N
  | [], _, _, p, h => by cases h
  | [_], _, _, p, h => by cases h
  | a :: b :: r, q, hN, p, h => by
    obtain ⟨q1, q2⟩ := List.pairwise_cons.mp q
    rcases List.mem_cons.mp h with rfl | h
    · have h1 := q1 b (List.mem_cons_self ..)
      have h2 := hN b (List.mem_cons_of_mem _ (List.mem_cons_self ..))
      exact ⟨by show 1 ≤ b - a; omega, by show a + (b - a) ≤ N; omega⟩
    · exact blks_ok q2 (fun c hc => hN c (List.mem_cons_of_mem _ hc)) p h
theorem blks_sum {N : Nat} : ∀ {a : Nat} {cs : List Nat}, (a :: cs).Pairwise (· < ·) → (∀ c ∈ (a :: cs), c ≤ N) → ((blks (a :: cs)).map (·.2)).sum + a ≤ N
  | a, [], _, h => by
    show 0 + a ≤ N
    have := h a (List.mem_cons_self ..)
    omega
  | a, b :: r, q, h => by
    obtain ⟨q1, q2⟩ := List.pairwise_cons.mp q
    have ih := blks_sum q2 fun c hc => h c (List.mem_cons_of_mem _ hc)
    have h1 := q1 b (List.mem_cons_self ..)
    rw [blks, List.map_cons, List.sum_cons]
    show (b - a) + _ + a ≤ N
    omega
theorem blk_sum {N : Nat} {cs : List Nat} (q : cs.Pairwise (· < ·)) (h : ∀ c ∈ cs, c ≤ N) : ((blks cs).map (·.2)).sum ≤ N := by
  cases cs with
  | nil => exact Nat.zero_le _
  | cons a cs =>
    have := blks_sum q h
    omega
theorem dp_blk {K : PySem.W.Frag} {F : Hp} {x : V} {p : Nat × Nat} (h : Dp K F x (blkD p)) : ∃ a, x = .ref a ∧ SqT K F a [.int (p.1 : Nat), .int (p.2 : Nat)] := by
  obtain ⟨a, vs, rfl, hs, h0⟩ := dp_tup h
  obtain ⟨v1, us, rfl, h1, h0⟩ := dpa_cons h0
  obtain ⟨v2, us, rfl, h2, h0⟩ := dpa_cons h0
  cases dpa_nil h0
  rw [dp_int h1, dp_int h2] at hs
  exact ⟨a, rfl, hs⟩
theorem sum_take_succ {l : List Nat} {i x : Nat} (h : l[i]? = some x) : (l.take (i + 1)).sum = (l.take i).sum + x := by
  rw [List.take_add_one, h, List.sum_append]
  rfl
theorem sum_take_le (l : List Nat) (i : Nat) : (l.take i).sum ≤ l.sum := by
  have := List.sum_append (l₁ := l.take i) (l₂ := l.drop i)
  rw [List.take_append_drop] at this
  omega
/-! ### promises -/
def φreads (K : PySem.W.Frag) : V → Hp → VK → Prop := fun x H Q => ∃ (F : Hp) (m : Mv), Same F H ∧ Dp K F x m.d ∧ ∀ t F2 H2, W [] F H F2 H2 [fx t (.tup [.int (m.lo : Nat), .int (m.hi : Nat)])] → Q (.ref t) H2
def φlands (K : PySem.W.Frag) : V → Hp → VK → Prop := fun x H Q => ∃ (F : Hp) (m : Mv), Same F H ∧ Dp K F x m.d ∧ m.sOk ∧ ∀ t F2 H2, W [] F H F2 H2 [fx t (.tup [.int (m.to : Nat), .int ((m.to + m.len : Nat) : Int)])] → Q (.ref t) H2
def φbrought (K : PySem.W.Frag) : V → V → Hp → VK → Prop := fun x y H Q => ∃ (F : Hp) (a : Addr) (xs : List V) (m : Mv), x = .ref a ∧ Same F H ∧ SqL K F a xs ∧ Dp K F y m.d ∧ m.sOk ∧
  ∀ p F2 H2, H p = none → W [] F H F2 H2 [mu p (.lst (m.some xs))] → Q (.ref p) H2
def φlaid (K : PySem.W.Frag) : V → V → V → Hp → VK → Prop := fun x y z H Q => ∃ (F : Hp) (a b : Addr) (xs zs : List V) (to : Nat), x = .ref a ∧ y = .int (to : Nat) ∧ z = .ref b ∧ Same F H ∧ SqL K F a xs ∧ F b = some (.lst zs) ∧ xs.length ≤ 100000 ∧ zs.length ≤ 100000 ∧
  ∀ p F2 H2, H p = none → W [] F H F2 H2 [mu p (.lst (laidL xs to zs))] → Q (.ref p) H2
def φrun (once : Bool) (K : PySem.W.Frag) : V → V → Hp → VK → Prop := fun x y H Q => ∃ (F : Hp) (a : Addr) (xs : List V) (ms : List Mv), x = .ref a ∧ Same F H ∧ SqL K F a xs ∧ Dp K F y (.list (ms.map Mv.d)) ∧ (∀ m ∈ ms, MvOk xs.length m) ∧ xs.length ≤ 10000 ∧
  ∀ p F2 H2, H p = none → W [] F H F2 H2 [mu p (.lst (runM once xs ms))] → Q (.ref p) H2
def φrunB (K : PySem.W.Frag) : V → V → V → Hp → VK → Prop := fun x y z H Q => ∃ (F : Hp) (a : Addr) (xs : List V) (ms : List Mv) (once : Bool), x = .ref a ∧ z = .bl once ∧ Same F H ∧ SqL K F a xs ∧ Dp K F y (.list (ms.map Mv.d)) ∧ (∀ m ∈ ms, MvOk xs.length m) ∧ xs.length ≤ 10000 ∧
  ∀ p F2 H2, H p = none → W [] F H F2 H2 [mu p (.lst (runM once xs ms))] → Q (.ref p) H2
def φtextN (K : PySem.W.Frag) : V → V → Hp → VK → Prop := fun x y H Q => ∃ (F : Hp) (b : Addr) (n : Int), x = .ref b ∧ y = .int n ∧ St F H [bag K b] ∧ 0 ≤ n ∧ n ≤ 1000 ∧
  ∀ (s : Str) F2 H2, W [b] F H F2 H2 [bag K b] → (s.length : Int) = n → okS s → Q (.str s) H2
def φturned (K : PySem.W.Frag) : V → V → Hp → VK → Prop := fun x y H Q => ∃ (F : Hp) (b a : Addr) (xs : List V), x = .ref b ∧ y = .ref a ∧ St F H [bag K b] ∧ SqL K F a xs ∧ xs.length ≤ 10000 ∧
  ∀ p ys F2 H2, H p = none → W [b] F H F2 H2 [mu p (.lst ys), bag K b] → xs.Perm ys → Q (.ref p) H2
def φmoves (K : PySem.W.Frag) : V → V → V → V → V → Hp → VK → Prop := fun x1 x2 x3 x4 x5 H Q => ∃ (F : Hp) (b : Addr) (N wide copies puts : Int), x1 = .ref b ∧ x2 = .int N ∧ x3 = .int wide ∧ x4 = .int copies ∧ x5 = .int puts ∧ St F H [bag K b] ∧ 1 ≤ N ∧ N ≤ 400 ∧ 1 ≤ wide ∧ wide ≤ 400 ∧ 0 ≤ copies ∧ copies ≤ 1000 ∧ 1 ≤ puts ∧ puts ≤ 1000 ∧
  ∀ p ys ms F2 H2, H p = none → W [b] F H F2 H2 [mu p (.lst ys), dpa K ys (ms.map Mv.d), bag K b] → MvsOk N.toNat ms → Q (.ref p) H2
def φblocks (K : PySem.W.Frag) : V → V → V → Hp → VK → Prop := fun x1 x2 x3 H Q => ∃ (F : Hp) (b : Addr) (N many : Int), x1 = .ref b ∧ x2 = .int N ∧ x3 = .int many ∧ St F H [bag K b] ∧ 1 ≤ N ∧ N ≤ 400 ∧ 0 ≤ many ∧ many ≤ 1000 ∧
  ∀ p ys ms F2 H2, H p = none → W [b] F H F2 H2 [mu p (.lst ys), dpa K ys (ms.map Mv.d), bag K b] → MvsOk N.toNat ms → Q (.ref p) H2
def φany_moves (K : PySem.W.Frag) : V → Hp → VK → Prop := fun x H Q => ∃ (F : Hp) (b : Addr), x = .ref b ∧ St F H [bag K b] ∧
  ∀ t p ys ms (N : Nat) F2 H2, H p = none → W [b] F H F2 H2 [fx t (.tup [.ref p, .int (N : Nat)]), mu p (.lst ys), dpa K ys (ms.map Mv.d), bag K b] → MvsOk N ms → 1 ≤ N → N ≤ 400 → Q (.ref t) H2
def φroom (K : PySem.W.Frag) : V → V → Hp → VK → Prop := fun x y H Q => ∃ (F : Hp) (b : Addr) (n : Int), x = .ref b ∧ y = .int n ∧ St F H [bag K b] ∧ 0 ≤ n ∧ n ≤ 1000 ∧
  ∀ p xs F2 H2, H p = none → W [b] F H F2 H2 [mu p (.lst xs), bag K b] → (xs.length : Int) = n → (∀ v ∈ xs, FlatV v) → Q (.ref p) H2
def φright22 (K : PySem.W.Frag) : V → V → V → Hp → VK → Prop := fun x y z H Q => ∃ (F : Hp) (a : Addr) (xs : List V) (ms : List Mv) (once : Bool), x = .ref a ∧ z = .bl once ∧ Same F H ∧ SqL K F a xs ∧ Dp K F y (.list (ms.map Mv.d)) ∧ MvsOk xs.length ms ∧ (∀ v ∈ xs, FlatV v) ∧ 1 ≤ xs.length ∧ xs.length ≤ 1000 ∧
  ∀ F2 H2, W [] F H F2 H2 [] → Q (.bl true) H2
end R

namespace R
open PySem L2
/-! ### a class of the text: its methods with their promises, its making -/
structure DM (P : Program) (w : World) (K : PySem.W.Frag) (mg : Str → Option Value) (base : Heap) (k : Nat) (C m : Str) (ps : List Str) (dvs : List V) (sp : Sp) : Prop where
  ex : ∃ (fd : FuncData) (ds : List Value), FnOk P w K mg base CX0 k (He.ma K (He.ga K C) m) fd ps sp ∧ Meth K (He.ga K C) m (He.ma K (He.ga K C) m) ∧ Cls K (He.ga K C) ∧ Binds K fd ps ds ∧ Vals dvs ds
structure DN (P : Program) (w : World) (K : PySem.W.Frag) (mg : Str → Option Value) (base : Heap) (k : Nat) (C : Str) (ps : List Str) (dvs : List V) (sp : Sp) : Prop where
  ex : ∃ (fd : FuncData) (ds : List Value), FnOk P w K mg base CX0 k (He.ma K (He.ga K C) "__init__") fd ps sp ∧ Mk K (He.ga K C) (He.ma K (He.ga K C) "__init__") ∧ mg C = some (.ref (He.ga K C)) ∧ Binds K fd ps ds ∧ Vals dvs ds
structure DNK (P : Program) (w : World) (K : PySem.W.Frag) (mg : Str → Option Value) (base : Heap) (k : Nat) (C : Str) (ps : List Str) (n : Nat) (ks : List Str) (tp : List (Nat × Nat)) (dvs : List V) (sp : Sp) : Prop where
  ex : ∃ (fd : FuncData) (ds : List Value), FnOk P w K mg base CX0 k (He.ma K (He.ga K C) "__init__") fd ps sp ∧ Mk K (He.ga K C) (He.ma K (He.ga K C) "__init__") ∧ mg C = some (.ref (He.ga K C)) ∧
    KBn K fd ps (n + 1) ks (fun us ws => pick .none tp us ws ds) (fun vs zs => pick .non tp vs zs dvs)
section
variable {X : Cx} {k j n : Nat} {ps ks : List Str} {sp : Sp} {dvs : List V} {C m x : Str} {p pos apos : Pos} {o e : Expr} {es : List Expr} {kws : List Keyword} {ta : TE} {t tk : TA} {tp : List (Nat × Nat)} {pl : Sem Bool}
theorem pmake (D : DN X.prog X.w X.K X.mg X.base k x ps dvs sp) (hr : Room j X.A) (ha : PA X (e :: es) t) (hj : k + 1 ≤ j := by first | decide | exact Nat.le_refl _ | omega) (hg : Gl X x := by rfl) (hdb : (x == ("__debug__" : Str)) = false := by decide)
    (he : starEach (e :: es) X.env = (false, eval e X.env) :: starEach es X.env := by rfl) (hpl : (backTo pos (starEach es X.env)).any (·.1) = false := by rfl) :
    PE X (.Call (.Name x p) (e :: es) [] pos) (tMake (He.ga X.K x) sp dvs E0 t) := by
  obtain ⟨fd, ds, F, M, hm, hb, hd⟩ := D.ex
  exact pe_make M F (hr.mono hj) hg hm hb hd pass0 ha hdb he hpl
theorem pmakeK (D : DNK X.prog X.w X.K X.mg X.base k x ps n ks tp dvs sp) (hr : Room j X.A) (ha : PA X (e :: es) t) (hkw : PK X kws tk) (hj : k + 1 ≤ j := by first | decide | exact Nat.le_refl _ | omega) (hg : Gl X x := by rfl)
    (h1 : (backToKw pos (keywordEach kws X.env)).all (·.1.isSome) = true := by rfl) (h2 : (backToKw pos (keywordEach kws X.env)).filterMap (·.1) = ks := by rfl) (h3 : (x == ("__debug__" : Str)) = false := by decide)
    (h4 : starEach (e :: es) X.env = (false, eval e X.env) :: starEach es X.env := by rfl) (h5 : ((backTo pos (starEach (e :: es) X.env)).any (·.1) || (backToKw pos (keywordEach kws X.env)).any (·.1.isNone)) = false := by rfl) :
    PE X (.Call (.Name x p) (e :: es) kws pos) (tMakeK (He.ga X.K x) n ks.length sp (fun vs zs => pick .non tp vs zs dvs) E0 t tk) := by
  obtain ⟨fd, ds, F, M, hm, hb⟩ := D.ex
  exact pe_makeK M F (hr.mono hj) hg hm hb pass0 ha hkw h1 h2 h3 h4 h5
theorem pmakeK0 (D : DNK X.prog X.w X.K X.mg X.base k x ps 0 ks tp dvs sp) (hr : Room j X.A) (hkw : PK X kws tk) (hj : k + 1 ≤ j := by first | decide | exact Nat.le_refl _ | omega) (hg : Gl X x := by rfl)
    (h1 : (backToKw pos (keywordEach kws X.env)).all (·.1.isSome) = true := by rfl) (h2 : (backToKw pos (keywordEach kws X.env)).filterMap (·.1) = ks := by rfl) (h3 : (x == ("__debug__" : Str)) = false := by decide)
    (h5 : ((backTo pos (starEach [] X.env)).any (·.1) || (backToKw pos (keywordEach kws X.env)).any (·.1.isNone)) = false := by rfl) :
    PE X (.Call (.Name x p) [] kws pos) (tMakeK (He.ga X.K x) 0 ks.length sp (fun vs zs => pick .non tp vs zs dvs) E0 tNil tk) := by
  obtain ⟨fd, ds, F, M, hm, hb⟩ := D.ex
  exact pe_makeK0 M F (hr.mono hj) hg hm hb pass0 hkw h1 h2 h3 h5
theorem pmeth (D : DM X.prog X.w X.K X.mg X.base k C m ps dvs sp) (hr : Room j X.A) (he : PE X o ta) (ha : PA X (e :: es) t) (hj : k ≤ j := by first | decide | exact Nat.le_refl _ | omega)
    (h1 : starEach (e :: es) X.env = (false, eval e X.env) :: starEach es X.env := by rfl) (h2 : (backTo pos (starEach es X.env)).any (·.1) = false := by rfl)
    (h3 : eval (.Call (.Attribute o m apos) (e :: es) [] pos) X.env = (eval o X.env >>= fun ov => standAt apos.atName >>= fun _ => holding [ov] (getMethod ov m pl) >>= fun q =>
      callWith pos q.1 q.2 (backTo pos (starEach (e :: es) X.env)) (backToKw pos (keywordEach [] X.env))) := by rfl) :
    PE X (.Call (.Attribute o m apos) (e :: es) [] pos) (tMeth (He.ga X.K C) m sp dvs E0 ta t) := by
  obtain ⟨fd, ds, F, M, c, hb, hd⟩ := D.ex
  exact pe_meth he c M F (hr.mono hj) hb hd pass0 ha h1 h2 h3
theorem pmeth0 (D : DM X.prog X.w X.K X.mg X.base k C m ps dvs sp) (hr : Room j X.A) (he : PE X o ta) (hj : k ≤ j := by first | decide | exact Nat.le_refl _ | omega)
    (h3 : eval (.Call (.Attribute o m apos) [] [] pos) X.env = (eval o X.env >>= fun ov => standAt apos.atName >>= fun _ => holding [ov] (getMethod ov m pl) >>= fun q =>
      callWith pos q.1 q.2 (backTo pos (starEach [] X.env)) (backToKw pos (keywordEach [] X.env))) := by rfl) :
    PE X (.Call (.Attribute o m apos) [] [] pos) (tMeth (He.ga X.K C) m sp dvs E0 ta tNil) := by
  obtain ⟨fd, ds, F, M, c, hb, hd⟩ := D.ex
  exact pe_meth0 he c M F (hr.mono hj) hb hd pass0 h3
end
/-! ### rules with the written part by its own name -/
section
variable {X : Cx} {K : PySem.W.Frag} {o value : Expr} {f : Str} {ta tv : TE} {pos p2 : Pos}
theorem psFld (ha : PE X o ta) (hv : PE X value tv) (hs : swapsWith value (some (.Attribute o f p2)) pos.line X.env = pure false) (h : X.K = K := by rfl) : PS X (.Assign [.Attribute o f p2] value pos) (sFld K ta tv f) := by
  subst h
  exact ps_fld ha hv hs
theorem psFldAug {op : Operator} {rd : V → V → Hp → VK → Prop} (ha : PE X o ta) (hv : PE X value tv) (hop : InOp X op rd) (h : X.K = K := by rfl) : PS X (.AugAssign (.Attribute o f p2) op value pos) (sFldAug K ta tv rd f) := by
  subst h
  exact ps_fldaug ha hv hop
def rDictP (K : PySem.W.Frag) : List V → Hp → VK → Prop := fun xs H Q => ∃ (a : Addr) (ps : List Addr) (kvs : List (Key × V)), xs = [.ref a] ∧ SqL K H a (ps.map V.ref) ∧ Paired (fun p kv => SqT K H p [kV kv.1, kv.2]) ps kvs ∧ ∀ p, H p = none → Q (.ref p) (upd H p (.dK (mergeK [] kvs)))
theorem clDictP (hc : X.calm = true := by rfl) (h : X.K = K := by rfl) : CallR X (.type "dict") (rDictP K) := by subst h; exact call_dictP hc
end
/-! ### steps -/
section
variable {K : PySem.W.Frag} {σ : L2.St} {H : Hp} {Q : VK} {ta tv : TE} {x v : V} {nx bk ct : L2.St → Hp → Prop} {rt : VK} {C a dx : Addr} {f m : Str} {fs : List (Str × V)}
/-- what an instance's field asks -/
def gFld (K : PySem.W.Frag) (f : Str) (x : V) (H : Hp) (Q : VK) : Prop := ∃ a C dx fs v, x = .ref a ∧ H a = some (.ins C dx fs) ∧ Cls K C ∧ NoAttr K C f ∧ fs.lookup f = some v ∧ Q v H
theorem w_fldE (q : ta σ H fun x H1 => gFld K f x H1 Q) : tFld K ta f σ H Q := q
theorem w_fld (c : Cls K C) (n : NoAttr K C f) (h : H a = some (.ins C dx fs)) (l : fs.lookup f = some v) (q : Q v H) : gFld K f (.ref a) H Q := ⟨a, C, dx, fs, v, rfl, h, c, n, l, q⟩
def gSFld (K : PySem.W.Frag) (f : Str) (x y : V) (H : Hp) (Z : Hp → Prop) : Prop := ∃ a C dx fs, x = .ref a ∧ H a = some (.ins C dx fs) ∧ Cls K C ∧ NoAttr K C f ∧ fs.length < 1000 ∧ Z (upd H a (.ins C dx (putF f y fs)))
theorem w_sfldE (q : tv σ H fun y H1 => ta σ H1 fun x H2 => gSFld K f x y H2 fun H3 => nx σ H3) : sFld K ta tv f ⟨nx, rt, bk, ct⟩ σ H := q
theorem w_sfld {Z : Hp → Prop} (c : Cls K C) (n : NoAttr K C f) (h : H a = some (.ins C dx fs)) (l : fs.length < 1000) (q : Z (upd H a (.ins C dx (putF f v fs)))) : gSFld K f (.ref a) v H Z := ⟨a, C, dx, fs, rfl, h, c, n, l, q⟩
theorem w_make {sp : Sp} {dvs : List V} {E : XK} {t : TA} (q : t σ H fun vs H1 => ∀ x dx, H1 x = none → H1 dx = none → dx ≠ x →
  sp (.ref x :: (vs ++ dvs)) (upd (upd H1 dx (.own x)) x (.ins C dx [])) (fun v H2 => v = .non ∧ Q (.ref x) H2) E) : tMake C sp dvs E t σ H Q := q
theorem w_makeK {n m : Nat} {sp : Sp} {gV : List V → List V → List V} {E : XK} {t tk : TA} (q : t σ H fun vs H1 => tk σ H1 fun zs H2 => vs.length = n ∧ zs.length = m ∧ ∀ x dx, H2 x = none → H2 dx = none → dx ≠ x →
  sp (gV (.ref x :: vs) zs) (upd (upd H2 dx (.own x)) x (.ins C dx [])) (fun v H3 => v = .non ∧ Q (.ref x) H3) E) : tMakeK C n m sp gV E t tk σ H Q := q
def gMeth (C : Addr) (m : Str) (x : V) (H : Hp) (P : Prop) : Prop := (∃ a dx fs, x = .ref a ∧ H a = some (.ins C dx fs) ∧ fs.lookup m = none) ∧ P
theorem w_meth {sp : Sp} {dvs : List V} {E : XK} {t : TA} (q : ta σ H fun x H1 => ∃ a dx fs, x = .ref a ∧ H1 a = some (.ins C dx fs) ∧ fs.lookup m = none ∧ t σ H1 fun vs H2 => sp (x :: (vs ++ dvs)) H2 Q E) : tMeth C m sp dvs E ta t σ H Q := q
end
end R

namespace R
open PySem PySem.Spec PyProof.Rows L2
/-! ### the head's facts with one more of the written part -/
def obsEG (n : Nat) (fa : List He.Fa) (fn : List He.DefD) (ex : PySem.W.Frag → Bool) (g : Addr → Option Obj) : He.AlD × Bool := (He.obsDG n fa fn g, ex (He.frG g (He.asD g n)))
def hookE (n : Nat) (fa : List He.Fa) (fn : List He.DefD) (ex : PySem.W.Frag → Bool) : PySem.W.Hook where
  α := He.AlD × Bool
  obs := fun s => obsEG n fa fn ex s.heap.get?
  val := fun _ => (He.valD fn, true)
  says := fun _ h => ∃ K : PySem.W.Frag, K.In h ∧ He.SaysD fa fn K ∧ ex K = true
  of := fun _ _ e => ⟨_, He.frG_in, congrArg Prod.fst e, congrArg Prod.snd e⟩
  keeps := fun _ _ _ ⟨K, hK, c⟩ k => ⟨K, PySem.W.Frag.In.keeps hK k, c⟩
theorem obsEG_eq {n : Nat} {fa : List He.Fa} {fn : List He.DefD} {ex : PySem.W.Frag → Bool} {g : Addr → Option Obj} {s : Shared} (h : ∀ a, g a = s.heap.get? a) : obsEG n fa fn ex g = (hookE n fa fn ex).obs s := by
  have e : g = s.heap.get? := funext h
  rw [e] <;> rfl
def eqV2 (a b : Option (Option Value)) : Bool := decide (a = b)
/-- what isinstance asks of an own class -/
def insB (K : PySem.W.Frag) (C : Str) : Bool := eqV2 (PySem.W.findIn K (.ref (He.ga K C)) "__class__") (some (some (.builtin "object.__class__"))) &&
  (eqV2 (PySem.W.specialIn K (.builtin "object.__class__") "__get__") (some (some (.builtin "getset_descriptor.__get__"))) &&
  (decide (PySem.W.takesIn K (.builtin "object.__class__") = some true) && (decide (PySem.W.mroIn K (He.ga K C) (.type "object") = some true) && decide (PySem.W.kitOne K (.ref (He.ga K C)) (.ref (He.ga K C)) = some true))))
theorem insB_ok {K : PySem.W.Frag} {C : Str} (c : Cls K (He.ga K C)) (h : insB K C = true) : C8.InsC K (He.ga K C) := by
  unfold insB at h
  simp only [Bool.and_eq_true, eqV2, decide_eq_true_eq] at h
  obtain ⟨h1, h2, h3, h4, h5⟩ := h
  exact ⟨c, h1, h2, h3, h4, h5⟩
/-- a class's own function for a special name -/
def spcB (K : PySem.W.Frag) (C m : Str) : Bool := eqV2 (PySem.W.findIn K (.ref (He.ga K C)) m) (some (some (.ref (He.ma K (He.ga K C) m)))) && PySem.W.isFn K (.ref (He.ma K (He.ga K C) m))
structure Spc (K : PySem.W.Frag) (C m : Str) : Prop where
  s : PySem.W.findIn K (.ref (He.ga K C)) m = some (some (.ref (He.ma K (He.ga K C) m)))
  f : PySem.W.isFn K (.ref (He.ma K (He.ga K C) m)) = true
theorem spcB_ok {K : PySem.W.Frag} {C m : Str} (h : spcB K C m = true) : Spc K C m := by
  unfold spcB at h
  simp only [Bool.and_eq_true, eqV2, decide_eq_true_eq] at h
  exact ⟨h.1, h.2⟩
section
variable {X : Cx} {K : PySem.W.Frag} {k : Nat} {C : Str} {ps : List Str} {sp : Sp}
def rIsC (K : PySem.W.Frag) (C : Str) : List V → Hp → VK → Prop := fun xs H Q => ∃ a dx fs, xs = [.ref a, .ref (He.ga K C)] ∧ H a = some (.ins (He.ga K C) dx fs) ∧ Q (.bl true) H
theorem clIsC (c : C8.InsC X.K (He.ga X.K C)) : CallR X (.builtin "isinstance") (rIsC X.K C) := C8.call_isC c
def aftI (Q : VK) : VK := fun v H2 => ∃ n : Int, v = .int n ∧ (0 ≤ n ∧ n < 2 ^ 63) ∧ Q (.int n) H2
def aftB (Q : VK) : VK := fun v H2 => ∃ k : Bool, v = .bl k ∧ Q (.bl k) H2
/-- len(x) by an own __len__ -/
def rLenO (C : Addr) (sp : Sp) : List V → Hp → VK → Prop := fun xs H Q => ∃ a dx fs, xs = [.ref a] ∧ H a = some (.ins C dx fs) ∧ sp [.ref a] H (aftI Q) E0
theorem clLenO (D : DM X.prog X.w X.K X.mg X.base k C "__len__" ps [] sp) {j : Nat} (hr : Room j X.A) (hj : k + 1 ≤ j) : CallR X (.builtin "len") (rLenO (He.ga X.K C) sp) := by
  obtain ⟨fd, ds, F, c, _, hb, hv⟩ := D.ex
  cases hv
  intro pins s σ H xs us Q I r h
  obtain ⟨a, dx, fs, rfl, ha, q⟩ := h
  rw [Vals.ref1 r]
  obtain ⟨mA, J, _⟩ := ins_get I.hok ha
  obtain ⟨od, J, _⟩ := J.look
  obtain ⟨m, hF⟩ := I.fr
  refine PySem.W.len_K hF I.ok.mod.kin J c.at_ c.fn ?_
  have e0 : Env0 X.prog X.w X.K X.mg X.base X.A.in1 X.stack s H := by
    have e := I.env0
    exact ⟨e.frames, e.mod, e.bs, e.bsz, e.funs, e.frf, e.hok, e.bare⟩
  have hl := F.len _ _ _ _ q
  refine wpAny_call (codeAny_mono (F.run X.A.in1 X.stack s H ⟨[.ref a], []⟩ [.ref a] [.ref a] _ E0 (hr.mono hj).in1 e0 (by
    have := hb s [.ref a] I.kIn (by simpa using hl)
    simpa using this) (.cons rfl .nil) q) fun r s' hq => ?_)
  cases r with
  | error e => exact pass0 pins σ H s e s' I hq
  | ok fl =>
    cases fl with
    | ret w =>
      obtain ⟨z, H', I', rz, n, ez, hn, q⟩ := I.after hq
      subst ez
      obtain ⟨t, rfl⟩ := rz
      exact ⟨hn, .int n, H', I'.tok _, ⟨_, rfl⟩, q⟩
    | next => exact False.elim hq
    | brk => exact False.elim hq
    | cont => exact False.elim hq
/-- x == y of two own instances by an own __eq__ -/
def rEqO (C : Addr) (sp : Sp) : R2 := fun x y H Q => ∃ a b dx dy fs gs, x = .ref a ∧ y = .ref b ∧ H a = some (.ins C dx fs) ∧ H b = some (.ins C dy gs) ∧ sp [.ref a, .ref b] H (aftB Q) E0
theorem opEqO (D : DM X.prog X.w X.K X.mg X.base k C "__eq__" ps [] sp) {j : Nat} (hr : Room j X.A) (hj : k ≤ j) : OpR X (compareOp .Eq) (rEqO (He.ga X.K C) sp) := by
  obtain ⟨fd, ds, F, c, _, hb, hv⟩ := D.ex
  cases hv
  intro pins s σ H x y u v Q I rx ry h
  obtain ⟨a, b, dx, dy, fs, gs, rfl, rfl, ha, hb', q⟩ := h
  cases rx
  cases ry
  obtain ⟨mA, J, _⟩ := ins_get I.hok ha
  obtain ⟨mB, J', _⟩ := ins_get I.hok hb'
  obtain ⟨od, J, _⟩ := J.look
  obtain ⟨od', J', _⟩ := J'.look
  obtain ⟨m, hF⟩ := I.fr
  show wpAny (model X.prog X.w) X.A (richCompare .Eq (.ref a) (.ref b)) (EP X pins σ Q) X.xe s
  refine PySem.W.cmp_K (op := .Eq) (tb := .ref (He.ga X.K C)) hr.units0 hF I.ok.mod.kin J J'.type (by simp [PySem.W.notFirst]) c.at_ c.fn ?_
  have hl := F.len _ _ _ _ q
  refine wpAny_call (codeAny_mono (F.run X.A X.stack s H ⟨[.ref a, .ref b], []⟩ [.ref a, .ref b] [.ref a, .ref b] _ E0 (hr.mono hj) I.env0 (by
    have := hb s [.ref a, .ref b] I.kIn (by simpa using hl)
    simpa using this) (.cons rfl (.cons rfl .nil)) q) fun r s' hq => ?_)
  cases r with
  | error e => exact pass0 pins σ H s e s' I hq
  | ok fl =>
    cases fl with
    | ret w =>
      obtain ⟨z, H', I', rz, n, ez, q⟩ := I.after hq
      subst ez
      cases rz
      exact ⟨.bl n, H', I', rfl, q⟩
    | next => exact False.elim hq
    | brk => exact False.elim hq
    | cont => exact False.elim hq
end
section
variable {K : PySem.W.Frag} {H : Hp} {Q : VK} {C : Str} {c : Addr} {a b dx dy : Addr} {fs gs : List (Str × V)} {sp : Sp}
theorem n_isC (h : H a = some (.ins (He.ga K C) dx fs)) (q : Q (.bl true) H) : rIsC K C [.ref a, .ref (He.ga K C)] H Q := ⟨a, dx, fs, rfl, h, q⟩
theorem n_lenO (h : H a = some (.ins c dx fs)) (q : sp [.ref a] H (aftI Q) E0) : rLenO c sp [.ref a] H Q := ⟨a, dx, fs, rfl, h, q⟩
theorem n_eqO (h : H a = some (.ins c dx fs)) (h' : H b = some (.ins c dy gs)) (q : sp [.ref a, .ref b] H (aftB Q) E0) : rEqO c sp (.ref a) (.ref b) H Q := ⟨a, b, dx, dy, fs, gs, rfl, rfl, h, h', q⟩
end
end R

namespace R
open PySem L2
/-! ### instances in a reading -/
def mthG (C : Addr) (m : Str) (x : V) (H : Hp) (P : Prop) : Prop := (∃ a dx fs, x = .ref a ∧ H a = some (.ins C dx fs) ∧ fs.lookup m = none) ∧ P
def aftG (Q : VK) (x : Addr) : VK := fun v H2 => v = .non ∧ Q (.ref x) H2
def makG (C : Addr) (sp : Sp) (ws : List V) (E : XK) (H : Hp) (Q : VK) : Prop := ∀ x dx, H x = none → H dx = none → dx ≠ x → sp (.ref x :: ws) (upd (upd H dx (.own x)) x (.ins C dx [])) (aftG Q x) E
section
variable {K : PySem.W.Frag} {M : List Addr} {F0 H0 F H : Hp} {L Rs : List Own} {σ : L2.St} {Q : VK} {ta : TE} {v : V} {nx bk ct : L2.St → Hp → Prop} {rt : VK} {C a dx : Addr} {f m : Str} {fs : List (Str × V)}
theorem n_fld (h : H a = some (.ins C dx fs)) (l : fs.lookup f = some v) (c : Cls K C) (n : NoAttr K C f) (q : Q v H) : gFld K f (.ref a) H Q := w_fld c n h l q
theorem n_sfld {Z : Hp → Prop} (w : W M F0 H0 F H L) (k : Pick L [mu a (.ins C dx fs)] Rs) (c : Cls K C) (n : NoAttr K C f) (l : fs.length < 1000) (q : ∀ H2, W M F0 H0 F H2 (mu a (.ins C dx (putF f v fs)) :: Rs) → Z H2) : gSFld K f (.ref a) v H Z :=
  w_sfld c n ((w.to k).at_ (List.mem_singleton.mpr rfl)) l (q _ (w.wr k))
theorem x_meth {sp : Sp} {dvs : List V} {E : XK} {t : TA} (q : ta σ H fun x H1 => mthG C m x H1 (t σ H1 fun vs H2 => sp (x :: (vs ++ dvs)) H2 Q E)) : tMeth C m sp dvs E ta t σ H Q := by
  refine w_meth ?_
  refine cast ?_ q
  congr 1
  funext x H1
  unfold mthG
  refine propext ⟨?_, ?_⟩
  · rintro ⟨⟨a, dx, fs, h1, h2, h3⟩, h4⟩
    exact ⟨a, dx, fs, h1, h2, h3, h4⟩
  · rintro ⟨a, dx, fs, h1, h2, h3, h4⟩
    exact ⟨⟨a, dx, fs, h1, h2, h3⟩, h4⟩
theorem n_meth {P : Prop} (h : H a = some (.ins C dx fs)) (l : fs.lookup m = none) (q : P) : mthG C m (.ref a) H P := ⟨⟨a, dx, fs, rfl, h, l⟩, q⟩
theorem x_make {sp : Sp} {dvs : List V} {E : XK} {t : TA} (q : t σ H fun vs H1 => makG C sp (vs ++ dvs) E H1 Q) : tMake C sp dvs E t σ H Q := q
theorem n_make {sp : Sp} {ws : List V} {E : XK} (w : W M F0 H0 F H L) (q : ∀ x dx H2, W M F0 H0 F H2 (mu x (.ins C dx []) :: mu dx (.own x) :: L) → H0 x = none → sp (.ref x :: ws) H2 (aftG Q x) E) : makG C sp ws E H Q := by
  intro x dx nx ndx hne
  have w1 := w.nw (u := .own x) ndx
  have nx1 : upd H dx (.own x) x = none := by rw [upd_ne hne.symm]; exact nx
  exact q x dx _ (w1.nw (u := .ins C dx []) nx1) (w.g.fresh nx)
end
/-! ### rows of a change -/
inductive CRow where
  | put (s : Str)
  | copy (a n : Nat)
def CRow.d : CRow → PyData
  | .put s => .tuple [.str "put", .str s]
  | .copy a n => .tuple [.str "copy", .int a, .int n]
def CRow.gives : CRow → Nat
  | .put s => s.length
  | .copy _ n => n
def CRow.hi : CRow → Nat
  | .put _ => 0
  | .copy a n => a + n
def CRow.sOk : CRow → Prop
  | .put s => okS s ∧ s.length ≤ 1000
  | .copy _ _ => True
structure CRowOk (size : Nat) (r : CRow) : Prop where
  s : r.sOk
  p : 1 ≤ r.gives
  h : r.hi ≤ size
abbrev givesL (rows : List CRow) : Nat := (rows.map CRow.gives).sum
structure RowsOk (size : Nat) (rows : List CRow) : Prop where
  ok : ∀ r ∈ rows, CRowOk size r
  sum : givesL rows ≤ 400
theorem rows_len : ∀ {rows : List CRow}, (∀ r ∈ rows, 1 ≤ r.gives) → rows.length ≤ givesL rows
  | [], _ => Nat.le_refl _
  | r :: rows, h => by
    have ih := rows_len (rows := rows) fun q hq => h q (List.mem_cons_of_mem _ hq)
    have h1 := h r (List.mem_cons_self ..)
    show rows.length + 1 ≤ r.gives + givesL rows
    omega
theorem RowsOk.len {size : Nat} {rows : List CRow} (h : RowsOk size rows) : rows.length ≤ 400 := Nat.le_trans (rows_len fun r hr => (h.ok r hr).p) h.sum
section
variable {K : PySem.W.Frag} {F : Hp} {x : V}
theorem dp_cput {s : Str} (h : Dp K F x (CRow.put s).d) : ∃ a, x = .ref a ∧ SqT K F a [.str "put", .str s] := by
  obtain ⟨a, vs, rfl, hs, h0⟩ := dp_tup h
  obtain ⟨v1, us, rfl, h1, h0⟩ := dpa_cons h0
  obtain ⟨v2, us, rfl, h2, h0⟩ := dpa_cons h0
  cases dpa_nil h0
  rw [dp_str h1, dp_str h2] at hs
  exact ⟨a, rfl, hs⟩
theorem dp_ccopy {a n : Nat} (h : Dp K F x (CRow.copy a n).d) : ∃ p, x = .ref p ∧ SqT K F p [.str "copy", .int a, .int n] := by
  obtain ⟨a, v1, v2, v3, rfl, hs, h1, h2, h3⟩ := dp_tup3 h
  rw [dp_str h1, dp_int h2, dp_int h3] at hs
  exact ⟨a, rfl, hs⟩
theorem dp_cput' {p : Addr} {s : Str} (h : SqT K F p [.str "put", .str s]) : Dp K F (.ref p) (CRow.put s).d := .tup h (.cons (.str _) (.cons (.str _) .nil))
theorem dp_ccopy' {p : Addr} {a n : Nat} (h : SqT K F p [.str "copy", .int a, .int n]) : Dp K F (.ref p) (CRow.copy a n).d := .tup h (.cons (.str _) (.cons (.int _) (.cons (.int _) .nil)))
end
theorem crow_good {m : CRow} (h : m.sOk) : good m.d = true ∧ m.d.depth ≤ 1 := by
  cases m with
  | put s =>
    constructor
    · refine good_tuple (by simp) fun d hd => ?_
      simp only [List.mem_cons, List.not_mem_nil, or_false] at hd
      rcases hd with rfl | rfl
      · decide +kernel
      · exact str_good h.1 (Nat.le_trans h.2 (by decide))
    · refine depth_tuple fun d hd => ?_
      simp only [List.mem_cons, List.not_mem_nil, or_false] at hd
      rcases hd with rfl | rfl <;> exact Nat.le_refl _
  | copy a n =>
    constructor
    · refine good_tuple (by simp) fun d hd => ?_
      simp only [List.mem_cons, List.not_mem_nil, or_false] at hd
      rcases hd with rfl | rfl | rfl
      · decide +kernel
      · rfl
      · rfl
    · refine depth_tuple fun d hd => ?_
      simp only [List.mem_cons, List.not_mem_nil, or_false] at hd
      rcases hd with rfl | rfl | rfl <;> exact Nat.le_refl _
theorem crows_good {ms : List CRow} (h : ∀ m ∈ ms, m.sOk) (hl : ms.length ≤ 100000) : good (.list (ms.map CRow.d)) = true ∧ (PyData.list (ms.map CRow.d)).depth ≤ 2 := by
  constructor
  · refine good_list (by rw [List.length_map]; exact hl) fun d hd => ?_
    obtain ⟨r, hr, rfl⟩ := List.mem_map.mp hd
    exact (crow_good (h r hr)).1
  · refine depth_list fun d hd => ?_
    obtain ⟨r, hr, rfl⟩ := List.mem_map.mp hd
    exact (crow_good (h r hr)).2
/-- a change that stays -/
def insC (C dx r : Addr) (n : Nat) : HO := .ins C dx [("size", .int (n : Nat)), ("rows", .ref r)]
def Chg (K : PySem.W.Frag) (F : Hp) (x : V) (n : Nat) (rows : List CRow) : Prop := ∃ c dx r vs, x = .ref c ∧ F c = some (insC (He.ga K "Change") dx r n) ∧ F r = some (.lst vs) ∧ DpAll K F vs (rows.map CRow.d)
theorem Chg.same {K : PySem.W.Frag} {F F2 : Hp} {x : V} {n : Nat} {rows : List CRow} (s : Same F F2) (h : Chg K F x n rows) : Chg K F2 x n rows := by
  obtain ⟨c, dx, r, vs, e, h1, h2, h3⟩ := h
  exact ⟨c, dx, r, vs, e, s _ _ h1, s _ _ h2, dpa_same s _ _ h3⟩
def chg (K : PySem.W.Frag) (x : V) (n : Nat) (rows : List CRow) : Own := pur (fun F => Chg K F x n rows) fun s h => h.same s
/-! ### moves of a change -/
def movesGo : Nat → List CRow → List Mv
  | _, [] => []
  | to, .put s :: r => .put to s :: movesGo (to + s.length) r
  | to, .copy a n :: r => if a = to then movesGo (to + n) r else .copy to a n :: movesGo (to + n) r
theorem moves_snoc : ∀ (l : List CRow) (to : Nat) (r : CRow), movesGo to (l ++ [r]) = movesGo to l ++ movesGo (to + givesL l) [r]
  | [], to, r => rfl
  | .put s :: l, to, r => by
    show Mv.put to s :: movesGo (to + s.length) (l ++ [r]) = Mv.put to s :: movesGo (to + s.length) l ++ movesGo (to + (s.length + givesL l)) [r]
    rw [moves_snoc l, List.cons_append, Nat.add_assoc]
  | .copy a n :: l, to, r => by
    show (if a = to then movesGo (to + n) (l ++ [r]) else .copy to a n :: movesGo (to + n) (l ++ [r])) = (if a = to then movesGo (to + n) l else .copy to a n :: movesGo (to + n) l) ++ movesGo (to + (n + givesL l)) [r]
    rw [moves_snoc l, Nat.add_assoc]
    split <;> rfl
theorem moves_take {rows : List CRow} {i : Nat} {r : CRow} (h : rows[i]? = some r) : movesGo 0 (rows.take (i + 1)) = movesGo 0 (rows.take i) ++ movesGo (givesL (rows.take i)) [r] := by
  rw [List.take_add_one, h]
  show movesGo 0 (rows.take i ++ [r]) = _
  rw [moves_snoc, Nat.zero_add]
theorem gives_take {rows : List CRow} {i : Nat} {r : CRow} (h : rows[i]? = some r) : givesL (rows.take (i + 1)) = givesL (rows.take i) + r.gives := by
  unfold givesL
  rw [List.take_add_one, h, List.map_append, List.sum_append]
  rfl
theorem gives_le (rows : List CRow) (i : Nat) : givesL (rows.take i) ≤ givesL rows := by
  have := List.sum_append (l₁ := (rows.take i).map CRow.gives) (l₂ := (rows.drop i).map CRow.gives)
  rw [← List.map_append, List.take_append_drop] at this
  show ((rows.take i).map CRow.gives).sum ≤ (rows.map CRow.gives).sum
  omega
theorem moves_len : ∀ (rows : List CRow) (to : Nat), (movesGo to rows).length ≤ rows.length
  | [], _ => Nat.le_refl _
  | .put s :: r, to => Nat.succ_le_succ (moves_len r _)
  | .copy a n :: r, to => by
    show (if a = to then movesGo (to + n) r else .copy to a n :: movesGo (to + n) r).length ≤ r.length + 1
    have := moves_len r (to + n)
    split
    · omega
    · exact Nat.succ_le_succ this
/-- the moves lie in a room as great as the greater text, no cell is written twice -/
theorem moves_ok {size : Nat} : ∀ (rows : List CRow) (to : Nat), (∀ r ∈ rows, CRowOk size r) → (∀ m ∈ movesGo to rows, MvOk (max size (to + givesL rows)) m ∧ to ≤ m.to) ∧ Apart (movesGo to rows)
  | [], to, _ => ⟨by simp [movesGo], .nil⟩
  | .put s :: r, to, h => by
    have h1 := h _ (List.mem_cons_self ..)
    obtain ⟨i1, i2⟩ := moves_ok r (to + s.length) fun q hq => h q (List.mem_cons_of_mem _ hq)
    have e : to + givesL (.put s :: r) = to + s.length + givesL r := by show to + (s.length + givesL r) = _; omega
    have hs : 1 ≤ s.length := h1.p
    rw [e]
    refine ⟨fun m hm => ?_, ?_⟩
    · rcases List.mem_cons.mp hm with rfl | hm
      · exact ⟨⟨h1.s, h1.p, by show to + s.length ≤ _; omega, Nat.zero_le _⟩, Nat.le_refl _⟩
      · exact ⟨(i1 m hm).1, by have := (i1 m hm).2; omega⟩
    · exact List.pairwise_cons.mpr ⟨fun m hm => .inl (i1 m hm).2, i2⟩
  | .copy a n :: r, to, h => by
    have h1 := h _ (List.mem_cons_self ..)
    obtain ⟨i1, i2⟩ := moves_ok r (to + n) fun q hq => h q (List.mem_cons_of_mem _ hq)
    have e : to + givesL (.copy a n :: r) = to + n + givesL r := by show to + (n + givesL r) = _; omega
    have hs : 1 ≤ n := h1.p
    have hh : a + n ≤ size := h1.h
    rw [e]
    show (∀ m ∈ (if a = to then movesGo (to + n) r else .copy to a n :: movesGo (to + n) r), _) ∧ Apart (if a = to then movesGo (to + n) r else .copy to a n :: movesGo (to + n) r)
    split
    · exact ⟨fun m hm => ⟨(i1 m hm).1, by have := (i1 m hm).2; omega⟩, i2⟩
    · rename_i hne
      refine ⟨fun m hm => ?_, List.pairwise_cons.mpr ⟨fun m hm => .inl (i1 m hm).2, i2⟩⟩
      rcases List.mem_cons.mp hm with rfl | hm
      · exact ⟨⟨Ne.symm hne, h1.p, by show to + n ≤ _; omega, by show a + n ≤ _; omega⟩, Nat.le_refl _⟩
      · exact ⟨(i1 m hm).1, by have := (i1 m hm).2; omega⟩
/-! ### promises -/
def φgives (K : PySem.W.Frag) : V → V → Hp → VK → Prop := fun x y H Q => ∃ (F : Hp) (r : CRow) (n : Nat), y = .int (n : Nat) ∧ Same F H ∧ Dp K F x r.d ∧ CRowOk n r ∧ ∀ F2 H2, W [] F H F2 H2 [] → Q (.int (r.gives : Nat)) H2
def φinit (K : PySem.W.Frag) : V → V → V → Hp → VK → Prop := fun x y z H Q => ∃ (F : Hp) (c dx a : Addr) (vs : List V) (n : Nat) (rows : List CRow), x = .ref c ∧ y = .int (n : Nat) ∧ z = .ref a ∧ St F H [mu c (.ins (He.ga K "Change") dx [])] ∧ SqL K F a vs ∧ DpAll K F vs (rows.map CRow.d) ∧ n ≤ 400 ∧ RowsOk n rows ∧
  ∀ r F2 H2, H r = none → W [c] F H F2 H2 [mu c (insC (He.ga K "Change") dx r n), mu r (.lst vs)] → Q .non H2
def φmoves_of (K : PySem.W.Frag) : V → Hp → VK → Prop := fun x H Q => ∃ (F : Hp) (n : Nat) (rows : List CRow), Same F H ∧ Chg K F x n rows ∧ RowsOk n rows ∧
  ∀ p ys F2 H2, H p = none → W [] F H F2 H2 [mu p (.lst ys), dpa K ys ((movesGo 0 rows).map Mv.d)] → Q (.ref p) H2
def φlmoves_of (K : PySem.W.Frag) : V → Hp → VK → Prop := fun x H Q => ∃ (F : Hp) (a : Addr) (vs : List V) (n : Nat) (rows : List CRow), x = .ref a ∧ Same F H ∧ SqL K F a vs ∧ DpAll K F vs (rows.map CRow.d) ∧ RowsOk n rows ∧
  ∀ p ys F2 H2, H p = none → W [] F H F2 H2 [mu p (.lst ys), dpa K ys ((movesGo 0 rows).map Mv.d)] → Q (.ref p) H2
/-- the making of a change -/
theorem c_init {K : PySem.W.Frag} {M : List Addr} {F0 H0 F H : Hp} {L Rs : List Own} {Q : VK} {E : XK} {c dx a : Addr} {vs : List V} {n : Nat} {rows : List CRow} (w : W M F0 H0 F H L) (k : Pick L [mu c (.ins (He.ga K "Change") dx [])] Rs) (hc : H0 c = none) (hs : SqL K F a vs) (hd : DpAll K F vs (rows.map CRow.d)) (hn : n ≤ 400) (ok : RowsOk n rows)
    (q : ∀ F2 H2, W M F0 H0 F2 H2 (chg K (.ref c) n rows :: Rs) → Q (.ref c) H2) : S3 (φinit K) [.ref c, .int (n : Nat), .ref a] H (aftG Q c) E := by
  refine ⟨F, c, dx, a, vs, n, rows, rfl, rfl, rfl, w.st k, hs, hd, hn, ok, fun r F2 H2 hr w2 => ⟨rfl, ?_⟩⟩
  have hr' := w.g.fresh hr
  have hd2 := dpa_same w2.ff _ _ hd
  have w := w.cal k w2 (.cons (.cons .nil)) rfl
  have m1 := w.mu (p := c) (List.mem_cons_self ..)
  have w := w.fz (.cons .here .nil) hc
  have hd2 := dpa_same (Same.new (o := insC (He.ga K "Change") dx r n) m1.n) _ _ hd2
  have m2 := w.mu (p := r) (List.mem_cons_self ..)
  have w := w.fz (.cons .here .nil) hr'
  have hd2 := dpa_same (Same.new (o := .lst vs) m2.n) _ _ hd2
  refine q _ _ (w.push _ ⟨c, dx, r, vs, rfl, ?_, upd_same, hd2⟩)
  have hne : c ≠ r := fun e => by
    subst e
    have := m2.n
    rw [upd_same] at this
    cases this
  rw [upd_ne hne, upd_same]
theorem crows_snoc {n : Nat} {rows : List CRow} {r : CRow} (h : ∀ q ∈ rows, CRowOk n q) (hr : CRowOk n r) : ∀ q ∈ rows ++ [r], CRowOk n q := by
  intro q hq
  rcases List.mem_append.mp hq with hq | hq
  · exact h q hq
  · rw [List.mem_singleton.mp hq]
    exact hr
theorem gives_snoc (rows : List CRow) (r : CRow) : givesL (rows ++ [r]) = givesL rows + r.gives := by
  unfold givesL
  rw [List.map_append, List.sum_append]
  rfl
def φcrows (K : PySem.W.Frag) : V → V → V → V → V → Hp → VK → Prop := fun x1 x2 x3 x4 x5 H Q => ∃ (F : Hp) (b : Addr) (n : Nat) (most many wide : Int), x1 = .ref b ∧ x2 = .int (n : Nat) ∧ x3 = .int most ∧ x4 = .int many ∧ x5 = .int wide ∧ St F H [bag K b] ∧ n ≤ 400 ∧ 0 ≤ most ∧ most ≤ 400 ∧ 0 ≤ many ∧ many ≤ 1000 ∧ 1 ≤ wide ∧ wide ≤ 400 ∧
  ∀ p ys rows F2 H2, H p = none → W [b] F H F2 H2 [mu p (.lst ys), dpa K ys (rows.map CRow.d), bag K b] → RowsOk n rows → Q (.ref p) H2
def φmrows (K : PySem.W.Frag) : V → V → V → V → Hp → VK → Prop := fun x1 x2 x3 x4 H Q => ∃ (F : Hp) (b : Addr) (n : Nat) (many other : Int), x1 = .ref b ∧ x2 = .int (n : Nat) ∧ x3 = .int many ∧ x4 = .int other ∧ St F H [bag K b] ∧ n ≤ 400 ∧ 0 ≤ many ∧ many ≤ 1000 ∧ 1 ≤ other ∧ other ≤ 400 ∧
  ∀ p ys rows F2 H2, H p = none → W [b] F H F2 H2 [mu p (.lst ys), dpa K ys (rows.map CRow.d), bag K b] → RowsOk n rows → Q (.ref p) H2
def φchange_of (K : PySem.W.Frag) : V → Hp → VK → Prop := fun x H Q => ∃ (F : Hp) (b : Addr), x = .ref b ∧ St F H [bag K b] ∧
  ∀ t p ys rows (n : Nat) F2 H2, H p = none → W [b] F H F2 H2 [fx t (.tup [.int (n : Nat), .ref p]), mu p (.lst ys), dpa K ys (rows.map CRow.d), bag K b] → n ≤ 400 → RowsOk n rows → Q (.ref t) H2
/-! ### the makers of k01 .. k16 -/
theorem cut_last (xs : List V) : cutV xs (some (-1)) none = xs.drop (xs.length - 1) := by
  unfold cutV
  rw [HT.sIx_none]
  have e : HT.sIx xs.length 0 (some (-1)) = xs.length - 1 := by
    unfold HT.sIx
    simp
    omega
  rw [e]
  exact List.take_of_length_le (by rw [List.length_drop]; exact Nat.le_refl _)
theorem cut_last_snoc (xs : List V) (v : V) : cutV (xs ++ [v]) (some (-1)) none = [v] := by
  rw [cut_last, List.length_append]
  show (xs ++ [v]).drop (xs.length + 1 - 1) = [v]
  rw [Nat.add_sub_cancel, List.drop_left]
def sig93 : Str := "!\"#$&'()*+,-./0123456789:;<=>?@ABCDEFGHIJKLMNOPQRSTUVWXYZ" ++ "[\\]^_`abcdefghijklmnopqrstuvwxyz{|}~"
theorem sig_len : sig93.length = 93 := by decide +kernel
theorem sig_ok : okS sig93 := by decide +kernel
def φsigns : Hp → VK → Prop := fun H Q => Q (.str sig93) H
def φwhole' : V → Hp → VK → Prop := fun x H Q => ∃ i, x = .int i ∧ Q (.bl true) H
/-- the last row at the end of a list, or none -/
def φrow1 (K : PySem.W.Frag) : V → V → V → V → Hp → VK → Prop := fun x1 x2 x3 x4 H Q => ∃ (F : Hp) (b l : Addr) (n : Nat) (left : Int) (zs : List V), x1 = .ref b ∧ x2 = .int (n : Nat) ∧ x3 = .int left ∧ x4 = .ref l ∧ St F H [bag K b] ∧ SqL K F l zs ∧ (zs = [] ∨ ∃ v r, zs = [v] ∧ Dp K F v (CRow.d r) ∧ CRowOk n r) ∧ n ≤ 400 ∧ 1 ≤ left ∧ left ≤ 400 ∧
  ∀ v r F2 H2, W [b] F H F2 H2 [dat K v (CRow.d r), bag K b] → CRowOk n r → (r.gives : Int) ≤ left → Q v H2
def φrows1 (K : PySem.W.Frag) : V → V → V → V → Hp → VK → Prop := fun x1 x2 x3 x4 H Q => ∃ (F : Hp) (b : Addr) (n : Nat) (many most : Int), x1 = .ref b ∧ x2 = .int (n : Nat) ∧ x3 = .int many ∧ x4 = .int most ∧ St F H [bag K b] ∧ n ≤ 400 ∧ 0 ≤ many ∧ many ≤ 1000 ∧ 0 ≤ most ∧ most ≤ 400 ∧
  ∀ p ys rows F2 H2, H p = none → W [b] F H F2 H2 [mu p (.lst ys), dpa K ys (rows.map CRow.d), bag K b] → RowsOk n rows → (givesL rows : Int) ≤ most → Q (.ref p) H2
def φsize1 (K : PySem.W.Frag) : V → Hp → VK → Prop := fun x H Q => ∃ (F : Hp) (b : Addr), x = .ref b ∧ St F H [bag K b] ∧ ∀ (n : Nat) F2 H2, W [b] F H F2 H2 [bag K b] → n ≤ 400 → Q (.int (n : Nat)) H2
/-- len(change) -/
def φclen (K : PySem.W.Frag) : V → Hp → VK → Prop := fun x H Q => ∃ (F : Hp) (n : Nat) (rows : List CRow), Same F H ∧ Chg K F x n rows ∧ rows.length ≤ 100000 ∧ ∀ F2 H2, W [] F H F2 H2 [] → Q (.int (rows.length : Nat)) H2
def CRow.puts : CRow → Nat
  | .put s => s.length
  | .copy _ _ => 0
def costL (p : Int) (rows : List CRow) : Int := p * (rows.length : Nat) + ((rows.map CRow.puts).sum : Nat)
def φcost (K : PySem.W.Frag) : V → V → Hp → VK → Prop := fun x y H Q => ∃ (F : Hp) (n : Nat) (p : Int) (rows : List CRow), y = .int p ∧ Same F H ∧ Chg K F x n rows ∧ RowsOk n rows ∧ 0 ≤ p ∧ p ≤ 1000 ∧ ∀ F2 H2, W [] F H F2 H2 [] → Q (.int (costL p rows)) H2
def φlcost (K : PySem.W.Frag) : V → V → Hp → VK → Prop := fun x y H Q => ∃ (F : Hp) (a : Addr) (vs : List V) (n : Nat) (p : Int) (rows : List CRow), x = .ref a ∧ y = .int p ∧ Same F H ∧ SqL K F a vs ∧ DpAll K F vs (rows.map CRow.d) ∧ RowsOk n rows ∧ 0 ≤ p ∧ p ≤ 1000 ∧ ∀ F2 H2, W [] F H F2 H2 [] → Q (.int (costL p rows)) H2
def φsame (K : PySem.W.Frag) : V → V → V → Hp → VK → Prop := fun x y z H Q => ∃ (F : Hp) (a : Addr) (vs : List V) (n : Nat) (rows : List CRow), y = .int (n : Nat) ∧ z = .ref a ∧ Same F H ∧ SqL K F a vs ∧ DpAll K F vs (rows.map CRow.d) ∧ Chg K F x n rows ∧ RowsOk n rows ∧ ∀ F2 H2, W [] F H F2 H2 [] → Q (.bl true) H2
theorem costL_take {p : Int} {rows : List CRow} {i : Nat} {r : CRow} (h : rows[i]? = some r) : costL p (rows.take (i + 1)) = costL p (rows.take i) + p + (r.puts : Nat) := by
  have hi := (List.getElem?_eq_some_iff.mp h).1
  unfold costL
  rw [List.length_take, List.length_take, Nat.min_eq_left (by omega), Nat.min_eq_left (by omega)]
  have e1 : ((rows.take (i + 1)).map CRow.puts).sum = ((rows.take i).map CRow.puts).sum + r.puts := by
    rw [List.take_add_one, h, List.map_append, List.sum_append]
    rfl
  rw [e1]
  have e : p * ((i + 1 : Nat) : Int) = p * (i : Nat) + p := by rw [Int.natCast_add, Int.mul_add]; simp
  rw [e]
  omega
theorem n_signs {H : Hp} {Q : VK} {E : XK} (q : Q (.str sig93) H) : S0 φsigns ([] ++ []) H Q E := q
end R

namespace R
open PySem PySem.Spec PyProof.Rows L2
/-! ### an instance made within a comprehension -/
theorem pmakeQ {X : Cx} {K : PySem.W.Frag} {k j : Nat} {ps : List Str} {sp : Sp} {dvs : List V} {x : Str} {p pos : Pos} {e : Expr} {es : List Expr} {t : TA} (D : DN X.prog X.w K X.mg X.base k x ps dvs sp) (hr : Room j X.A) (ha : PA X (e :: es) t) (hj : k + 1 ≤ j := by first | decide | exact Nat.le_refl _ | omega) (hg : Gl X x := by rfl) (hdb : (x == ("__debug__" : Str)) = false := by decide)
    (he : starEach (e :: es) X.env = (false, eval e X.env) :: starEach es X.env := by rfl) (hpl : (backTo pos (starEach es X.env)).any (·.1) = false := by rfl) (hK : X.K = K := by rfl) :
    PE X (.Call (.Name x p) (e :: es) [] pos) (tMake (He.ga K x) sp dvs E0 t) := by
  subst hK
  exact pmake D hr ha hj hg hdb he hpl
end R

namespace R
open PySem PySem.StrLaws Builtin.Str L2
/-! ### stretches of a text, by its signs -/
def segL (N : List Nat) (i j : Nat) : List Nat := (N.drop i).take (j - i)
def inB (O x : List Nat) : Bool := (List.range (O.length + 1)).any fun a => decide (a + x.length ≤ O.length ∧ (O.drop a).take x.length = x)
theorem inB_iff {O x : List Nat} : inB O x = true ↔ ∃ a, a + x.length ≤ O.length ∧ (O.drop a).take x.length = x := by
  unfold inB
  rw [List.any_eq_true]
  constructor
  · rintro ⟨a, _, h⟩
    exact ⟨a, of_decide_eq_true h⟩
  · rintro ⟨a, h1, h2⟩
    exact ⟨a, List.mem_range.mpr (by omega), decide_eq_true ⟨h1, h2⟩⟩
theorem inB_take {O x : List Nat} (n : Nat) (h : inB O x = true) : inB O (x.take n) = true := by
  obtain ⟨a, h1, h2⟩ := inB_iff.mp h
  refine inB_iff.mpr ⟨a, by rw [List.length_take]; omega, ?_⟩
  conv => rhs; rw [← h2]
  rw [List.take_take, List.length_take]
theorem inB_drop {O x : List Nat} (n : Nat) (h : inB O x = true) : inB O (x.drop n) = true := by
  obtain ⟨a, h1, h2⟩ := inB_iff.mp h
  by_cases hn : n ≤ x.length
  · refine inB_iff.mpr ⟨a + n, by rw [List.length_drop]; omega, ?_⟩
    rw [List.length_drop]
    conv => rhs; rw [← h2]
    rw [List.drop_take, List.drop_drop]
  · rw [List.drop_eq_nil_of_le (by omega)]
    exact inB_iff.mpr ⟨0, by simp, rfl⟩
theorem seg_len {N : List Nat} {i j : Nat} (h : j ≤ N.length) : (segL N i j).length = j - i := by
  unfold segL
  rw [List.length_take, List.length_drop]
  omega
theorem in_less {O N : List Nat} {i j : Nat} (h : inB O (segL N i (j + 1)) = true) : inB O (segL N i j) = true := by
  have e : segL N i j = (segL N i (j + 1)).take (j - i) := by
    unfold segL
    rw [List.take_take]
    congr 1
    omega
  rw [e]
  exact inB_take _ h
theorem in_later {O N : List Nat} {i k j : Nat} (hk : i ≤ k) (h : inB O (segL N i j) = true) : inB O (segL N k j) = true := by
  have e : segL N k j = (segL N i j).drop (k - i) := by
    unfold segL
    rw [List.drop_take, List.drop_drop]
    congr 1
    · omega
    · congr 1
      omega
  rw [e]
  exact inB_drop _ h
/-! ### the least cost of each beginning -/
def minTo (f : Nat → Nat) : Nat → Nat
  | 0 => f 0
  | k + 1 => min (minTo f k) (f (k + 1))
theorem minTo_le {f : Nat → Nat} : ∀ {k i : Nat}, i ≤ k → minTo f k ≤ f i
  | 0, i, h => by
    have : i = 0 := by omega
    subst this
    exact Nat.le_refl _
  | k + 1, i, h => by
    rw [minTo]
    by_cases e : i = k + 1
    · subst e
      exact Nat.min_le_right _ _
    · exact Nat.le_trans (Nat.min_le_left _ _) (minTo_le (by omega))
theorem minTo_at {f : Nat → Nat} : ∀ k : Nat, ∃ i, i ≤ k ∧ minTo f k = f i
  | 0 => ⟨0, Nat.le_refl _, rfl⟩
  | k + 1 => by
    obtain ⟨i, hi, e⟩ := minTo_at (f := f) k
    rw [minTo]
    by_cases h : minTo f k ≤ f (k + 1)
    · exact ⟨i, by omega, by rw [Nat.min_eq_left h, e]⟩
    · exact ⟨k + 1, Nat.le_refl _, Nat.min_eq_right (by omega)⟩
theorem minTo_congr {f g : Nat → Nat} : ∀ {k : Nat}, (∀ i, i ≤ k → f i = g i) → minTo f k = minTo g k
  | 0, h => h 0 (Nat.le_refl _)
  | k + 1, h => by rw [minTo, minTo, minTo_congr fun i hi => h i (by omega), h (k + 1) (Nat.le_refl _)]
section
variable (p : Nat) (O N : List Nat)
def stepC (i j : Nat) : Nat := if inB O (segL N i j) = true then 0 else j - i
/-- the least costs of the beginnings up to j -/
def leastL : Nat → List Nat
  | 0 => [0]
  | j + 1 => leastL j ++ [minTo (fun i => (leastL j).getD i 0 + p + stepC O N i (j + 1)) j]
def lea (j : Nat) : Nat := (leastL p O N j).getD j 0
theorem least_len : ∀ j, (leastL p O N j).length = j + 1
  | 0 => rfl
  | j + 1 => by rw [leastL, List.length_append, least_len j]; rfl
theorem least_get : ∀ {j i : Nat}, i ≤ j → (leastL p O N j)[i]? = some (lea p O N i)
  | 0, i, h => by
    have : i = 0 := by omega
    subst this
    rfl
  | j + 1, i, h => by
    by_cases e : i = j + 1
    · subst e
      unfold lea
      rw [List.getD_eq_getElem?_getD]
      have hl := least_len p O N (j + 1)
      rw [List.getElem?_eq_getElem (by omega)]
      rfl
    · rw [leastL, List.getElem?_append_left (by rw [least_len]; omega)]
      exact least_get (by omega)
theorem lea_succ (j : Nat) : lea p O N (j + 1) = minTo (fun i => lea p O N i + p + stepC O N i (j + 1)) j := by
  have e : lea p O N (j + 1) = minTo (fun i => (leastL p O N j).getD i 0 + p + stepC O N i (j + 1)) j := by
    unfold lea
    rw [leastL, List.getD_eq_getElem?_getD, List.getElem?_append_right (by rw [least_len]; omega), least_len]
    simp
  rw [e]
  refine minTo_congr fun i hi => ?_
  rw [List.getD_eq_getElem?_getD, least_get p O N hi]
  rfl
theorem lea_le {i j : Nat} (h : i ≤ j) : lea p O N (j + 1) ≤ lea p O N i + p + stepC O N i (j + 1) := by
  rw [lea_succ]
  exact minTo_le (f := fun i => lea p O N i + p + stepC O N i (j + 1)) h
theorem lea_at (j : Nat) : ∃ i, i ≤ j ∧ lea p O N (j + 1) = lea p O N i + p + stepC O N i (j + 1) := by
  rw [lea_succ]
  exact minTo_at (f := fun i => lea p O N i + p + stepC O N i (j + 1)) j
theorem lea_mono1 (j : Nat) : lea p O N j ≤ lea p O N (j + 1) := by
  obtain ⟨i, hi, e⟩ := lea_at p O N j
  rw [e]
  by_cases hij : i = j
  · subst hij
    omega
  · obtain ⟨k, rfl⟩ : ∃ k, j = k + 1 := ⟨j - 1, by omega⟩
    have h1 := lea_le p O N (i := i) (j := k) (by omega)
    have h2 : stepC O N i (k + 1) ≤ stepC O N i (k + 1 + 1) := by
      unfold stepC
      by_cases h : inB O (segL N i (k + 1 + 1)) = true
      · rw [if_pos h, if_pos (in_less h)]
        exact Nat.le_refl _
      · rw [if_neg h]
        split <;> omega
    omega
theorem lea_mono {i j : Nat} (h : i ≤ j) : lea p O N i ≤ lea p O N j := by
  obtain ⟨d, rfl⟩ := Nat.le.dest h
  clear h
  induction d with
  | zero => exact Nat.le_refl _
  | succ d ih => exact Nat.le_trans ih (lea_mono1 p O N (i + d))
/-- what the table's row tells of the beginning of j signs -/
def TabOk (j : Nat) (t : Int) : Prop := j = 0 ∨ (∃ i : Nat, t = (i : Int) ∧ i < j ∧ inB O (segL N i j) = true ∧ lea p O N j = lea p O N i + p) ∨ ∃ i : Nat, t = -1 - (i : Int) ∧ i < j ∧ lea p O N j = lea p O N i + p + (j - i)
/-- the least put behind j signs -/
structure PutOk (j pc pf : Nat) : Prop where
  lt : pf < j
  at_ : pc = lea p O N pf + p + (j - pf)
  le : ∀ i, i < j → pc ≤ lea p O N i + p + (j - i)
theorem put_new {j pc pf : Nat} (h : PutOk p O N j pc pf) (hc : lea p O N j + p < pc) : PutOk p O N (j + 1) (lea p O N j + p + 1) j := by
  refine ⟨Nat.lt_succ_self j, by omega, fun i hi => ?_⟩
  by_cases e : i = j
  · subst e
    omega
  · have := h.le i (by omega)
    omega
theorem put_first : PutOk p O N 1 (lea p O N 0 + p + 1) 0 := by
  refine ⟨by omega, by omega, fun i hi => ?_⟩
  have : i = 0 := by omega
  subst this
  omega
theorem put_old {j pc pf : Nat} (h : PutOk p O N j pc pf) (hc : ¬ lea p O N j + p < pc) : PutOk p O N (j + 1) (pc + 1) pf := by
  refine ⟨by have := h.lt; omega, by have := h.at_; have := h.lt; omega, fun i hi => ?_⟩
  by_cases e : i = j
  · subst e
    omega
  · have := h.le i (by omega)
    omega
theorem tab_copy {j pc pf cf : Nat} (h : PutOk p O N (j + 1) pc pf) (h1 : cf < j + 1) (h2 : ∀ i, i < cf → inB O (segL N i (j + 1)) = false) (h3 : inB O (segL N cf (j + 1)) = true) (hc : lea p O N cf + p ≤ pc) : lea p O N (j + 1) = lea p O N cf + p := by
  have a := lea_le p O N (i := cf) (j := j) (by omega)
  have e : stepC O N cf (j + 1) = 0 := by unfold stepC; rw [if_pos h3]
  obtain ⟨i, hi, b⟩ := lea_at p O N j
  have c : lea p O N cf + p ≤ lea p O N i + p + stepC O N i (j + 1) := by
    by_cases hl : i < cf
    · have z := h.le i (by omega)
      have e2 : stepC O N i (j + 1) = j + 1 - i := by unfold stepC; rw [if_neg (by rw [h2 i hl]; decide)]
      omega
    · have := lea_mono p O N (i := cf) (j := i) (by omega)
      omega
  omega
theorem tab_put {j pc pf cf : Nat} (h : PutOk p O N (j + 1) pc pf) (h2 : ∀ i, i < cf → inB O (segL N i (j + 1)) = false) (hc : ¬ (cf < j + 1 ∧ lea p O N cf + p ≤ pc)) : lea p O N (j + 1) = pc := by
  obtain ⟨i, hi, b⟩ := lea_at p O N j
  have a := lea_le p O N (i := pf) (j := j) (by have := h.lt; omega)
  have e : stepC O N pf (j + 1) ≤ j + 1 - pf := by unfold stepC; split <;> omega
  have e0 := h.at_
  have c : pc ≤ lea p O N i + p + stepC O N i (j + 1) := by
    by_cases hl : i < cf
    · have z := h.le i (by omega)
      have e2 : stepC O N i (j + 1) = j + 1 - i := by unfold stepC; rw [if_neg (by rw [h2 i hl]; decide)]
      omega
    · have := lea_mono p O N (i := cf) (j := i) (by omega)
      have : ¬ lea p O N cf + p ≤ pc := fun z => hc ⟨by omega, z⟩
      omega
  omega
theorem lea_bound : ∀ j, lea p O N j ≤ j * (p + 1)
  | 0 => by show (0 : Nat) ≤ _; omega
  | j + 1 => by
    have h := lea_le p O N (i := j) (j := j) (Nat.le_refl _)
    have e : stepC O N j (j + 1) ≤ 1 := by unfold stepC; split <;> omega
    have ih := lea_bound j
    rw [Nat.succ_mul]
    omega
/-- any rows that make the new text cost at least so much -/
def CRow.mk (O : List Nat) : CRow → List Nat
  | .put s => s.cps.toList
  | .copy a n => (O.drop a).take n
def CRow.cst (p : Nat) (r : CRow) : Nat := p + r.puts
theorem least_any {n : Nat} (hO : O.length = n) : ∀ (rows : List CRow), (∀ r ∈ rows, CRowOk n r) → ∀ j, j ≤ N.length → rows.flatMap (CRow.mk O) = N.take j → lea p O N j ≤ (rows.map (CRow.cst p)).sum := by
  have key : ∀ (k : Nat) (rows : List CRow), rows.length = k → (∀ r ∈ rows, CRowOk n r) → ∀ j, j ≤ N.length → rows.flatMap (CRow.mk O) = N.take j → lea p O N j ≤ (rows.map (CRow.cst p)).sum := by
   intro k
   induction k with
   | zero =>
    intro rows hz _ j hj h
    rw [List.eq_nil_of_length_eq_zero hz] at h ⊢
    have : j = 0 := by
      have e := congrArg List.length h
      rw [List.length_take] at e
      simp at e
      omega
    subst this
    exact Nat.zero_le _
   | succ k ih =>
    intro rows' hz hok j hj h
    rcases List.eq_nil_or_concat rows' with rfl | ⟨rows, r, rfl⟩
    · cases hz
    rw [List.concat_eq_append] at hz hok h ⊢
    rw [List.length_append] at hz
    have ro := hok r (List.mem_append_right _ (List.mem_singleton.mpr rfl))
    have hl : (CRow.mk O r).length = r.gives := by
      cases r with
      | put s => simp [CRow.mk, CRow.gives, Str.length]
      | copy a k =>
        have := ro.h
        show ((O.drop a).take k).length = k
        rw [List.length_take, List.length_drop]
        have h2 : a + k ≤ n := this
        omega
    rw [List.flatMap_append, List.flatMap_cons, List.flatMap_nil, List.append_nil] at h
    have hlen := congrArg List.length h
    rw [List.length_append, hl, List.length_take, Nat.min_eq_left hj] at hlen
    have hp := ro.p
    obtain ⟨i, hi⟩ : ∃ i, i = (rows.flatMap (CRow.mk O)).length := ⟨_, rfl⟩
    rw [← hi] at hlen
    have h1 : rows.flatMap (CRow.mk O) = N.take i := by
      have e := congrArg (List.take i) h
      rw [hi, List.take_left, ← hi, List.take_take, Nat.min_eq_left (by omega)] at e
      exact e
    have h2 : CRow.mk O r = segL N i j := by
      have e := congrArg (List.drop i) h
      rw [hi, List.drop_left, ← hi, List.drop_take] at e
      exact e
    have ih' := ih rows (by simpa using hz) (fun q hq => hok q (List.mem_append_left _ hq)) i (by omega) h1
    obtain ⟨k, rfl⟩ : ∃ k, j = k + 1 := ⟨j - 1, by omega⟩
    have hle := lea_le p O N (i := i) (j := k) (by omega)
    rw [List.map_append, List.sum_append]
    show _ ≤ _ + ((p + r.puts) + 0)
    have hs : stepC O N i (k + 1) ≤ r.puts := by
      unfold stepC
      cases r with
      | put s =>
        have e : s.length = k + 1 - i := by
          have : (CRow.put s).gives = s.length := rfl
          omega
        show (if _ then 0 else _) ≤ s.length
        split <;> omega
      | copy a m =>
        rw [if_pos]
        · exact Nat.zero_le _
        · rw [← h2]
          have hh : a + m ≤ n := ro.h
          refine inB_iff.mpr ⟨a, ?_, ?_⟩
          · show a + ((O.drop a).take m).length ≤ O.length
            rw [List.length_take, List.length_drop]
            omega
          · show (O.drop a).take ((O.drop a).take m).length = (O.drop a).take m
            rw [List.length_take, List.length_drop]
            congr 1
            omega
    omega
  exact fun rows => key rows.length rows rfl
end
theorem cost_sum (p : Nat) (rows : List CRow) : costL (p : Int) rows = (((rows.map (CRow.cst p)).sum : Nat) : Int) := by
  unfold costL
  have key : ∀ rows : List CRow, (rows.map (CRow.cst p)).sum = p * rows.length + (rows.map CRow.puts).sum := by
    intro rows
    induction rows with
    | nil => rfl
    | cons r rows ih =>
      rw [List.map_cons, List.sum_cons, ih, List.length_cons, List.map_cons, List.sum_cons, Nat.mul_succ]
      unfold CRow.cst
      omega
  rw [key]
  simp
/-! ### texts by their signs -/
abbrev cd (z : Str) : List Nat := z.cps.toList
theorem cd_len (z : Str) : (cd z).length = z.length := by simp [Str.length]
theorem cd_inj {a b : Str} (h : cd a = cd b) : a = b := by
  obtain ⟨x⟩ := a
  obtain ⟨y⟩ := b
  have e : x = y := Array.toList_inj.mp h
  rw [e]
theorem cut_cd (z : Str) (i j : Nat) : cd (cutS z (some (i : Int)) (some (j : Int))) = segL (cd z) i j := by
  unfold cutS segL
  rw [HT.sIx_nat, HT.sIx_nat]
  show ((z.cps.toList.drop _).take _).toArray.toList = _
  rw [List.toList_toArray]
  have hl : z.cps.toList.length = z.length := cd_len z
  have hl2 := cd_len z
  by_cases h : i ≤ z.length
  · rw [Nat.min_eq_left h]
    by_cases h2 : j ≤ z.length
    · rw [Nat.min_eq_left h2]
    · rw [Nat.min_eq_right (by omega), List.take_of_length_le (by rw [List.length_drop]; omega), List.take_of_length_le (by rw [List.length_drop]; omega)]
  · rw [Nat.min_eq_right (show z.length ≤ i by omega), List.drop_eq_nil_of_le (by omega), List.drop_eq_nil_of_le (by omega), List.take_nil, List.take_nil]
theorem subAt_cd {x y : Str} {i : Nat} : subAt x y i = true ↔ ((cd x).drop i).take y.length = cd y := by
  unfold subAt
  rw [beq_iff_eq, ← Array.toList_inj, Array.toList_extract]
  show (x.cps.toList.drop i).take (i + y.length - i) = _ ↔ _
  rw [Nat.add_sub_cancel_left]
theorem found_inB (x y : Str) : (!(occurrences x y 0 x.length 1).isEmpty) = inB (cd x) (cd y) := by
  rw [Bool.eq_iff_iff, found_iff, inB_iff]
  constructor
  · rintro ⟨i, h1, h2⟩
    exact ⟨i, by rw [cd_len, cd_len]; exact h1, by rw [cd_len]; exact subAt_cd.mp h2⟩
  · rintro ⟨i, h1, h2⟩
    rw [cd_len] at h1 h2
    rw [cd_len] at h1
    exact ⟨i, h1, subAt_cd.mpr h2⟩
theorem find_cd {x y : Str} (h : inB (cd x) (cd y) = true) : ∃ a : Nat, Txt.find x y = (a : Int) ∧ a + y.length ≤ x.length ∧ ((cd x).drop a).take y.length = cd y := by
  rcases occ_head x y 1 (Nat.le_refl _) with ⟨h0, _⟩ | ⟨i, r, h0, ⟨h1, h2⟩, _⟩
  · rw [← found_inB, h0] at h
    cases h
  · refine ⟨i, ?_, h1, subAt_cd.mp h2⟩
    unfold Txt.find
    rw [h0]
def notinG : R2 := fun x y H Q => ∃ a b, x = .str a ∧ y = .str b ∧ Q (.bl (!inB (cd b) (cd a))) H
def inG : R2 := fun x y H Q => ∃ a b, x = .str a ∧ y = .str b ∧ Q (.bl (inB (cd b) (cd a))) H
section
variable {X : Cx} {H : Hp} {Q : VK} {a b : Str}
theorem opNotInS : OpR X (compareOp .NotIn) notinG := by
  intro pins s σ H x y v u Q I rx ry h
  obtain ⟨a, b, h1, h2, q⟩ := h
  exact op_notin_str pins s σ H x y v u Q I rx ry ⟨a, b, h1, h2, by rw [found_inB]; exact q⟩
theorem opInS : OpR X (compareOp .In) inG := by
  intro pins s σ H x y v u Q I rx ry h
  obtain ⟨a, b, h1, h2, q⟩ := h
  exact op_in_str pins s σ H x y v u Q I rx ry ⟨a, b, h1, h2, by rw [found_inB]; exact q⟩
theorem n_notin (q : Q (.bl (!inB (cd b) (cd a))) H) : notinG (.str a) (.str b) H Q := ⟨a, b, rfl, rfl, q⟩
theorem n_in (q : Q (.bl (inB (cd b) (cd a))) H) : inG (.str a) (.str b) H Q := ⟨a, b, rfl, rfl, q⟩
def findG : V → List V → Hp → VK → Prop := fun x xs H Q => ∃ a b, x = .str a ∧ xs = [.str b] ∧ Q (.int (Txt.find a b)) H
theorem mtFind : MtR X "str.find" findG := mt_find
theorem n_find (q : Q (.int (Txt.find a b)) H) : findG (.str a) [.str b] H Q := ⟨a, b, rfl, rfl, q⟩
end
/-! ### the table -/
def prD (c : Nat × Int) : PyData := .tuple [.int (c.1 : Nat), .int c.2]
theorem dp_pr {K : PySem.W.Frag} {F : Hp} {x : V} {p : Nat × Int} (h : Dp K F x (prD p)) : ∃ a, x = .ref a ∧ SqT K F a [.int (p.1 : Nat), .int p.2] := by
  obtain ⟨a, vs, rfl, hs, h0⟩ := dp_tup h
  obtain ⟨v1, us, rfl, h1, h0⟩ := dpa_cons h0
  obtain ⟨v2, us, rfl, h2, h0⟩ := dpa_cons h0
  cases dpa_nil h0
  rw [dp_int h1, dp_int h2] at hs
  exact ⟨a, rfl, hs⟩
def TabAll (p : Nat) (O N : List Nat) (ps : List (Nat × Int)) : Prop := ∀ k c t, ps[k]? = some (c, t) → c = lea p O N k ∧ TabOk p O N k t
def φtable (K : PySem.W.Frag) : V → V → V → Hp → VK → Prop := fun x y z H Q => ∃ (F : Hp) (o nw : Str) (p : Nat), x = .str o ∧ y = .str nw ∧ z = .int (p : Nat) ∧ Same F H ∧ o.length ≤ 1000 ∧ nw.length ≤ 1000 ∧ p ≤ 1000 ∧
  ∀ a ys ps F2 H2, H a = none → W [] F H F2 H2 [mu a (.lst ys), dpa K ys (ps.map prD)] → ps.length = nw.length + 1 → TabAll p (cd o) (cd nw) ps → Q (.ref a) H2
/-- rows that make the new text at the least cost -/
structure Made (p : Nat) (o nw : Str) (rows : List CRow) : Prop where
  ok : RowsOk o.length rows
  mkN : rows.flatMap (CRow.mk (cd o)) = cd nw
  cst : (rows.map (CRow.cst p)).sum = lea p (cd o) (cd nw) nw.length
def φfound (K : PySem.W.Frag) : V → V → V → Hp → VK → Prop := fun x y z H Q => ∃ (F : Hp) (o nw : Str) (p : Nat), x = .str o ∧ y = .str nw ∧ z = .int (p : Nat) ∧ Same F H ∧ o.length ≤ 400 ∧ nw.length ≤ 400 ∧ okS o ∧ okS nw ∧ p ≤ 1000 ∧
  ∀ v rows F2 H2, W [] F H F2 H2 [chg K v o.length rows] → Made p o nw rows → Q v H2
theorem ok_codes {z : Str} : okS z ↔ ∀ c ∈ cd z, c < 0x110000 := by
  show (z.cps.all (· < 0x110000)) = true ↔ _
  rw [← Array.all_toList, List.all_eq_true]
  exact ⟨fun h c hc => of_decide_eq_true (h c hc), fun h c hc => decide_eq_true (h c hc)⟩
theorem ok_cut {z : Str} (h : okS z) (i j : Nat) : okS (cutS z (some (i : Int)) (some (j : Int))) := by
  rw [ok_codes, cut_cd]
  intro c hc
  exact ok_codes.mp h c (List.mem_of_mem_drop (List.mem_of_mem_take hc))
theorem seg_drop {N : List Nat} {i j : Nat} (h : i ≤ j) : segL N i j ++ N.drop j = N.drop i := by
  unfold segL
  have e : N.drop j = (N.drop i).drop (j - i) := by
    rw [List.drop_drop]
    congr 1
    omega
  rw [e, List.take_append_drop]
theorem dpa_rev {K : PySem.W.Frag} {F : Hp} : ∀ {vs : List V} {ds : List PyData}, DpAll K F vs ds → DpAll K F vs.reverse ds.reverse
  | _, _, .nil => .nil
  | _, _, .cons h t => by
    rw [List.reverse_cons, List.reverse_cons]
    exact dpa_app (dpa_rev t) (.cons h .nil)
theorem mk_len {O : List Nat} {n : Nat} (hO : O.length = n) {r : CRow} (ro : CRowOk n r) : (CRow.mk O r).length = r.gives := by
  cases r with
  | put s => simp [CRow.mk, CRow.gives, Str.length]
  | copy a k =>
    have h2 : a + k ≤ n := ro.h
    show ((O.drop a).take k).length = k
    rw [List.length_take, List.length_drop]
    omega
theorem mks_len {O : List Nat} {n : Nat} (hO : O.length = n) : ∀ {rows : List CRow}, (∀ r ∈ rows, CRowOk n r) → (rows.flatMap (CRow.mk O)).length = givesL rows
  | [], _ => rfl
  | r :: rows, h => by
    rw [List.flatMap_cons, List.length_append, mk_len hO (h r (List.mem_cons_self ..)), mks_len hO fun q hq => h q (List.mem_cons_of_mem _ hq)]
    rfl
/-! ### cells -/
def CRow.cellV : CRow → List V
  | .put s => chars s
  | .copy a n => (List.range n).map fun k => V.int ((a + k : Nat) : Int)
abbrev cellsV (rows : List CRow) : List V := rows.flatMap CRow.cellV
theorem cellV_len (r : CRow) : r.cellV.length = r.gives := by
  cases r with
  | put s => exact chars_len s
  | copy a n => simp [CRow.cellV, CRow.gives]
theorem cells_len : ∀ rows : List CRow, (cellsV rows).length = givesL rows
  | [] => rfl
  | r :: rows => by
    show (r.cellV ++ cellsV rows).length = r.gives + givesL rows
    rw [List.length_append, cellV_len, cells_len rows]
/-- a cell of a change of this size: a place or a sign -/
def CellOk (n : Nat) (v : V) : Prop := (∃ i : Nat, v = .int (i : Nat) ∧ i < n) ∨ ∃ c : Nat, v = .str ⟨#[c]⟩ ∧ c < 0x110000
theorem chars_get' {z : Str} {v : V} (h : v ∈ chars z) : ∃ c ∈ cd z, v = .str ⟨#[c]⟩ := by
  unfold chars at h
  obtain ⟨c, hc, rfl⟩ := List.mem_map.mp h
  exact ⟨c, hc, rfl⟩
theorem cells_ok {n : Nat} {rows : List CRow} (h : ∀ r ∈ rows, CRowOk n r) : ∀ v ∈ cellsV rows, CellOk n v := by
  intro v hv
  obtain ⟨r, hr, hv⟩ := List.mem_flatMap.mp hv
  have ro := h r hr
  cases r with
  | put s =>
    obtain ⟨c, hc, rfl⟩ := chars_get' hv
    exact .inr ⟨c, rfl, ok_codes.mp ro.s.1 c hc⟩
  | copy a k =>
    obtain ⟨j, hj, rfl⟩ := List.mem_map.mp hv
    have := List.mem_range.mp hj
    have hh : a + k ≤ n := ro.h
    exact .inl ⟨a + j, rfl, by omega⟩
theorem CellOk.flat {n : Nat} {v : V} (h : CellOk n v) : FlatV v := by
  rcases h with ⟨i, rfl, _⟩ | ⟨c, rfl, hc⟩
  · exact .inr (.inl ⟨_, rfl⟩)
  · refine .inr (.inr ⟨_, rfl, ok_codes.mpr fun d hd => ?_, by show 1 ≤ 100; decide⟩)
    have : d = c := by simpa using hd
    rw [this]
    exact hc
/-- the sign that a cell gives of an old text -/
def outS (o : Str) : V → Str
  | .int i => ⟨#[(cd o).getD i.toNat 0]⟩
  | .str z => z
  | _ => ⟨#[]⟩
theorem outs_chars (o : Str) (l : List Nat) : ((l.map fun c => V.str ⟨#[c]⟩).map (outS o)).flatMap cd = l := by
  induction l with
  | nil => rfl
  | cons c l ih =>
    rw [List.map_cons, List.map_cons, List.flatMap_cons, ih]
    rfl
theorem outs_range (o : Str) (a : Nat) : ∀ n, a + n ≤ (cd o).length → (((List.range n).map fun k => V.int ((a + k : Nat) : Int)).map (outS o)).flatMap cd = ((cd o).drop a).take n
  | 0, _ => by simp
  | n + 1, h => by
    rw [List.range_succ, List.map_append, List.map_append, List.flatMap_append, outs_range o a n (by omega)]
    have e : ((cd o).drop a)[n]? = some ((cd o).getD (a + n) 0) := by
      rw [List.getElem?_drop, List.getD_eq_getElem?_getD, List.getElem?_eq_getElem (by omega)]
      rfl
    rw [List.take_add_one, e]
    rfl
theorem outs_rows (o : Str) {rows : List CRow} (h : ∀ r ∈ rows, CRowOk o.length r) : ((cellsV rows).map (outS o)).flatMap cd = rows.flatMap (CRow.mk (cd o)) := by
  induction rows with
  | nil => rfl
  | cons r rows ih =>
    show ((r.cellV ++ cellsV rows).map (outS o)).flatMap cd = CRow.mk (cd o) r ++ _
    rw [List.map_append, List.flatMap_append, ih fun q hq => h q (List.mem_cons_of_mem _ hq)]
    congr 1
    cases r with
    | put s => exact outs_chars o _
    | copy a n =>
      have hh : a + n ≤ o.length := (h _ (List.mem_cons_self ..)).h
      exact outs_range o a n (by rw [cd_len]; exact hh)
theorem join_cd (ys : List Str) : cd (Txt.join ⟨#[]⟩ ys) = ys.flatMap cd := by
  have e : TL.tl (Txt.join ⟨#[]⟩ ys) = (ys.map TL.tl).flatten := by
    rw [TL.join_eq, TL.tl_join]
    have key : ∀ l : List (List Nat), TL.joinL [] l = l.flatten := by
      intro l
      induction l with
      | nil => rfl
      | cons a l ih =>
        cases l with
        | nil => simp [TL.joinL]
        | cons b l =>
          rw [TL.joinL, ih]
          simp
    exact key _
  exact e.trans (by rw [List.flatMap_def])
theorem outS_ok {o : Str} {n : Nat} {v : V} (hn : o.length = n) (ok : okS o) (h : CellOk n v) : (outS o v).length = 1 ∧ okS (outS o v) := by
  rcases h with ⟨i, rfl, hi⟩ | ⟨c, rfl, hc⟩
  · refine ⟨rfl, ?_⟩
    show okS ⟨#[(cd o).getD i 0]⟩
    exact ok_sign ok (by omega)
  · exact ⟨rfl, ok_codes.mpr fun d hd => by
      have hd' : d ∈ [c] := hd
      rw [List.mem_singleton.mp hd']
      exact hc⟩
/-! ### promises -/
def φcells (K : PySem.W.Frag) : V → Hp → VK → Prop := fun x H Q => ∃ (F : Hp) (n : Nat) (rows : List CRow), Same F H ∧ Chg K F x n rows ∧ RowsOk n rows ∧ n ≤ 1000 ∧ ∀ p F2 H2, H p = none → W [] F H F2 H2 [mu p (.lst (cellsV rows))] → Q (.ref p) H2
def φlcells (K : PySem.W.Frag) : V → Hp → VK → Prop := fun x H Q => ∃ (F : Hp) (a : Addr) (vs : List V) (n : Nat) (rows : List CRow), x = .ref a ∧ Same F H ∧ SqL K F a vs ∧ DpAll K F vs (rows.map CRow.d) ∧ RowsOk n rows ∧ ∀ p F2 H2, H p = none → W [] F H F2 H2 [mu p (.lst (cellsV rows))] → Q (.ref p) H2
def φdoneC (K : PySem.W.Frag) : V → V → Hp → VK → Prop := fun x y H Q => ∃ (F : Hp) (o : Str) (rows : List CRow), y = .str o ∧ Same F H ∧ Chg K F x o.length rows ∧ RowsOk o.length rows ∧ okS o ∧ o.length ≤ 1000 ∧ ∀ s F2 H2, W [] F H F2 H2 [] → cd s = rows.flatMap (CRow.mk (cd o)) → okS s → Q (.str s) H2
def φldone (K : PySem.W.Frag) : V → V → Hp → VK → Prop := fun x y H Q => ∃ (F : Hp) (a : Addr) (cs : List V) (o : Str), x = .ref a ∧ y = .str o ∧ Same F H ∧ SqL K F a cs ∧ (∀ v ∈ cs, CellOk o.length v) ∧ cs.length ≤ 1000 ∧ okS o ∧ o.length ≤ 1000 ∧ ∀ s F2 H2, W [] F H F2 H2 [] → cd s = (cs.map (outS o)).flatMap cd → okS s → Q (.str s) H2
theorem cut_cd_to (z : Str) (j : Nat) : cd (cutS z none (some (j : Int))) = (cd z).take j := by
  have hl : z.cps.toList.length = z.length := cd_len z
  unfold cutS
  rw [HT.sIx_none, HT.sIx_nat]
  show ((z.cps.toList.drop 0).take _).toArray.toList = z.cps.toList.take j
  rw [List.toList_toArray, List.drop_zero, Nat.sub_zero]
  by_cases h : j ≤ z.length
  · rw [Nat.min_eq_left h]
  · rw [Nat.min_eq_right (by omega), List.take_of_length_le (by omega), List.take_of_length_le (by omega)]
theorem cut_cd_from (z : Str) (i : Nat) : cd (cutS z (some (i : Int)) none) = (cd z).drop i := by
  have hl : z.cps.toList.length = z.length := cd_len z
  unfold cutS
  rw [HT.sIx_none, HT.sIx_nat]
  show ((z.cps.toList.drop _).take _).toArray.toList = z.cps.toList.drop i
  rw [List.toList_toArray]
  by_cases h : i ≤ z.length
  · rw [Nat.min_eq_left h]
    exact List.take_of_length_le (by rw [List.length_drop]; omega)
  · rw [Nat.min_eq_right (by omega), Nat.sub_self, List.take_zero, List.drop_eq_nil_of_le (by omega)]
theorem ok_to {z : Str} (h : okS z) (j : Nat) : okS (cutS z none (some (j : Int))) := by
  rw [ok_codes, cut_cd_to]
  exact fun c hc => ok_codes.mp h c (List.mem_of_mem_take hc)
theorem ok_from {z : Str} (h : okS z) (j : Nat) : okS (cutS z (some (j : Int)) none) := by
  rw [ok_codes, cut_cd_from]
  exact fun c hc => ok_codes.mp h c (List.mem_of_mem_drop hc)
theorem len_to (z : Str) (j : Nat) : (cutS z none (some (j : Int))).length = min j z.length := by rw [← cd_len, cut_cd_to, List.length_take, cd_len]
theorem len_from (z : Str) (j : Nat) : (cutS z (some (j : Int)) none).length = z.length - j := by rw [← cd_len, cut_cd_from, List.length_drop, cd_len]
theorem len_app (a b : Str) : (a ++ b).length = a.length + b.length := by
  rw [← cd_len, ← cd_len, ← cd_len, ← List.length_append]
  congr 1
  exact TL.tl_append a b
theorem least_succ (p : Nat) (O N : List Nat) (j : Nat) : leastL p O N (j + 1) = leastL p O N j ++ [lea p O N (j + 1)] := by
  have h := least_get p O N (j := j + 1) (i := j + 1) (Nat.le_refl _)
  rw [leastL, List.getElem?_append_right (by rw [least_len]; omega), least_len, Nat.sub_self] at h
  rw [leastL]
  congr 2
  exact Option.some.inj h
theorem least_last (p : Nat) (O N : List Nat) (j : Nat) : ∃ l, leastL p O N j = l ++ [lea p O N j] := by
  cases j with
  | zero => exact ⟨[], rfl⟩
  | succ j => exact ⟨_, least_succ p O N j⟩
def φwholeI : V → Hp → VK → Prop := fun x H Q => ∃ i, x = .int i ∧ Q (.bl true) H
def φmakes (K : PySem.W.Frag) : V → V → V → Hp → VK → Prop := fun x y z H Q => ∃ (F : Hp) (o l : Str) (rows : List CRow), y = .str o ∧ z = .str l ∧ Same F H ∧ Chg K F x o.length rows ∧ RowsOk o.length rows ∧ okS o ∧ okS l ∧ o.length ≤ 1000 ∧ l.length ≤ 1000 ∧ rows.flatMap (CRow.mk (cd o)) = cd l ∧ ∀ F2 H2, W [] F H F2 H2 [] → Q (.bl true) H2
def φold_new (K : PySem.W.Frag) : V → Hp → VK → Prop := fun x H Q => ∃ (F : Hp) (b : Addr), x = .ref b ∧ St F H [bag K b] ∧ ∀ t o l F2 H2, W [b] F H F2 H2 [fx t (.tup [.str o, .str l]), bag K b] → okS o → okS l → o.length ≤ 60 → l.length ≤ 63 → Q (.ref t) H2
def φleast (K : PySem.W.Frag) : V → V → V → Hp → VK → Prop := fun x y z H Q => ∃ (F : Hp) (o l : Str) (p : Nat), x = .str o ∧ y = .str l ∧ z = .int (p : Nat) ∧ Same F H ∧ o.length ≤ 1000 ∧ l.length ≤ 1000 ∧ p ≤ 1000 ∧ ∀ F2 H2, W [] F H F2 H2 [] → Q (.int ((lea p (cd o) (cd l) l.length : Nat) : Int)) H2
/-! ### plain finds -/
theorem seg_all (N : List Nat) : segL N 0 N.length = N := by
  unfold segL
  rw [List.drop_zero, Nat.sub_zero, List.take_length]
theorem lea_zero (p : Nat) (O N : List Nat) : lea p O N 0 = 0 := rfl
theorem lea_copy {p : Nat} {O N : List Nat} (h : inB O N = true) (hn : N ≠ []) : lea p O N N.length ≤ p := by
  have hl : 1 ≤ N.length := List.length_pos_iff.mpr hn
  obtain ⟨k, ek⟩ : ∃ k, N.length = k + 1 := ⟨N.length - 1, by omega⟩
  have h1 := lea_le p O N (i := 0) (j := k) (Nat.zero_le _)
  have h2 : stepC O N 0 (k + 1) = 0 := by unfold stepC; rw [← ek, seg_all, if_pos h]
  rw [h2, lea_zero] at h1
  rw [ek]
  omega
theorem lea_put {p : Nat} {O N : List Nat} (hn : N ≠ []) : lea p O N N.length ≤ p + N.length := by
  have hl : 1 ≤ N.length := List.length_pos_iff.mpr hn
  obtain ⟨k, ek⟩ : ∃ k, N.length = k + 1 := ⟨N.length - 1, by omega⟩
  have h1 := lea_le p O N (i := 0) (j := k) (Nat.zero_le _)
  have h2 : stepC O N 0 (k + 1) ≤ k + 1 := by unfold stepC; split <;> omega
  rw [lea_zero] at h1
  rw [ek]
  omega
theorem cst_cons {p : Nat} {r : CRow} {rows : List CRow} : ((r :: rows).map (CRow.cst p)).sum = (p + r.puts) + (rows.map (CRow.cst p)).sum := by
  rw [List.map_cons, List.sum_cons]
  rfl
theorem no_rows {p : Nat} {o l : Str} {rows : List CRow} (m : Made p o l rows) (h : cd l = []) : rows = [] := by
  have h1 := mks_len (cd_len o) m.ok.ok
  rw [m.mkN, h] at h1
  have h2 := rows_len (rows := rows) fun r hr => (m.ok.ok r hr).p
  exact List.eq_nil_of_length_eq_zero (by rw [← h1] at h2; exact Nat.le_zero.mp h2)
theorem one_copy {p : Nat} {o l : Str} {rows : List CRow} (m : Made p o l rows) (hp : 1 ≤ p) (h : inB (cd o) (cd l) = true) (hn : cd l ≠ []) : ∃ a n, rows = [.copy a n] := by
  have h1 := m.cst
  have h2 := lea_copy (p := p) h hn
  rw [cd_len] at h2
  cases rows with
  | nil =>
    have := m.mkN
    exact absurd this.symm hn
  | cons r rows =>
    rw [cst_cons] at h1
    cases rows with
    | cons r2 rows =>
      rw [cst_cons] at h1
      omega
    | nil =>
      cases r with
      | copy a n => exact ⟨a, n, rfl⟩
      | put s =>
        have h3 : 1 ≤ s.length := (m.ok.ok _ (List.mem_cons_self ..)).p
        have h4 : (CRow.put s).puts = s.length := rfl
        omega
theorem puts_all {p : Nat} {O : List Nat} {n : Nat} (hO : O.length = n) : ∀ {rows : List CRow}, (∀ r ∈ rows, CRowOk n r) → (∀ c ∈ rows.flatMap (CRow.mk O), inB O [c] = false) → (rows.map (CRow.cst p)).sum = p * rows.length + (rows.flatMap (CRow.mk O)).length ∧ ∀ r ∈ rows, ∃ s, r = .put s
  | [], _, _ => ⟨rfl, fun r h => by cases h⟩
  | r :: rows, hok, h => by
    have ro := hok r (List.mem_cons_self ..)
    obtain ⟨i1, i2⟩ := puts_all (p := p) hO (rows := rows) (fun q hq => hok q (List.mem_cons_of_mem _ hq)) fun c hc => h c (by rw [List.flatMap_cons]; exact List.mem_append_right _ hc)
    cases r with
    | put s =>
      refine ⟨?_, fun q hq => ?_⟩
      · rw [cst_cons, i1, List.flatMap_cons, List.length_append, List.length_cons, Nat.mul_succ]
        have e1 : (CRow.mk O (.put s)).length = s.length := cd_len s
        have e2 : (CRow.put s).puts = s.length := rfl
        omega
      · rcases List.mem_cons.mp hq with rfl | hq
        · exact ⟨s, rfl⟩
        · exact i2 q hq
    | copy a k =>
      exfalso
      have h1 : 1 ≤ k := ro.p
      have h2 : a + k ≤ n := ro.h
      have h3 : a < O.length := by omega
      have hm : O[a] ∈ CRow.mk O (.copy a k) := by
        show O[a] ∈ (O.drop a).take k
        refine List.mem_take_iff_getElem.mpr ⟨0, by rw [List.length_drop]; omega, ?_⟩
        simp
      have h4 := h _ (by rw [List.flatMap_cons]; exact List.mem_append_left _ hm)
      have h5 : inB O [O[a]] = true := by
        refine inB_iff.mpr ⟨a, by show a + 1 ≤ O.length; omega, ?_⟩
        show (O.drop a).take 1 = [O[a]]
        rw [List.drop_eq_getElem_cons h3]
        rfl
      rw [h4] at h5
      cases h5
theorem one_put {p : Nat} {o l : Str} {rows : List CRow} (m : Made p o l rows) (hp : 1 ≤ p) (h : ∀ c ∈ cd l, inB (cd o) [c] = false) (hn : cd l ≠ []) : rows = [.put l] := by
  have h1 := m.cst
  have h2 := lea_put (p := p) (O := cd o) hn
  rw [cd_len] at h2
  obtain ⟨h3, h4⟩ := puts_all (p := p) (cd_len o) m.ok.ok (fun c hc => h c (by rw [← m.mkN]; exact hc))
  rw [m.mkN, cd_len] at h3
  have h5 : p * rows.length ≤ p := by omega
  match rows, h4, h5, m.mkN with
  | [], _, _, e => exact absurd e.symm hn
  | [r], h4, _, e =>
    obtain ⟨s, rfl⟩ := h4 _ (List.mem_singleton.mpr rfl)
    have e2 : cd s = cd l := by
      rw [List.flatMap_cons, List.flatMap_nil, List.append_nil] at e
      exact e
    rw [cd_inj e2]
  | r1 :: r2 :: rows, _, h5, _ =>
    rw [List.length_cons, List.length_cons, Nat.mul_succ, Nat.mul_succ] at h5
    omega
theorem in_seg (O : List Nat) (i j : Nat) : inB O (segL O i j) = true := by
  by_cases h : i ≤ O.length
  · refine inB_iff.mpr ⟨i, ?_, ?_⟩
    · unfold segL
      rw [List.length_take, List.length_drop]
      omega
    · unfold segL
      rw [List.length_take, List.length_drop]
      by_cases h2 : j - i ≤ O.length - i
      · rw [Nat.min_eq_left h2]
      · rw [Nat.min_eq_right (by omega), List.take_of_length_le (by rw [List.length_drop]; exact Nat.le_refl _), List.take_of_length_le (by rw [List.length_drop]; omega)]
  · unfold segL
    rw [List.drop_eq_nil_of_le (by omega), List.take_nil]
    exact inB_iff.mpr ⟨0, by simp, rfl⟩
theorem in_nil (O : List Nat) : inB O [] = true := inB_iff.mpr ⟨0, by simp, rfl⟩
def φone_copy (K : PySem.W.Frag) : V → V → V → Hp → VK → Prop := fun x y z H Q => ∃ (F : Hp) (o l : Str) (p : Nat) (rows : List CRow), y = .str o ∧ z = .str l ∧ Same F H ∧ Chg K F x o.length rows ∧ Made p o l rows ∧ 1 ≤ p ∧ okS o ∧ okS l ∧ o.length ≤ 400 ∧ l.length ≤ 400 ∧ inB (cd o) (cd l) = true ∧ ∀ F2 H2, W [] F H F2 H2 [] → Q (.bl true) H2
end R

namespace R
open PySem PySem.Spec PyProof.Rows L2
/-! ### list(reversed(a list)) -/
section
variable {prog : Program} {w : World} {A : Around} {E : Value → Shared → Prop} {s : Shared}
theorem extend_rev {it l : Addr} {items : Array Value} {R : Result → Shared → Prop} (hh : A.handled = none) (hit : s.heap.IsRevIter it l ((items.size : Int) - 1)) (hl : s.heap.IsList l items) (hne : l ≠ it) (hn : items.size ≤ sizeLine) (S : Addr) (res : Value) (c₀ : Nat)
    (hS : s.heap.get? S = some { cls := .type "list", data := .seq #[] c₀ }) (hSi : S ≠ it) (hSl : S ≠ l)
    (hR : ∀ h' tk acc' c', (∀ b o, b ≠ S → b ≠ it → s.heap.get? b = some o → h'.get? b = some o) → h'.get? S = some { cls := .type "list", dict := none, data := .seq acc' c', slots := #[] } →
      ItemsOf (fun i v => items[items.size - 1 - i]? = some v) acc' items.size → R (.ok (.ret res)) { s with heap := h', toks := tk }) :
    wpAny (model prog w) A.in1 (Builtin.List.listExtendWith (.ref S) (.ref it) res)
      (fun fin s' => match fin with | .done f => R (.ok f) s' | .again c' => c'.quiet = true ∧ codeAny (model prog w) A c' R s') (fun e s' => R (.error e) s') s := by
  have W := (Walks.listRev (prog := prog) (w := w) (A := A.in1) hh it l hne items).toS
  have hSf : S ∉ [it, l] := by simp only [List.mem_cons, List.not_mem_nil, or_false, not_or]; exact ⟨hSi, hSl⟩
  have hT : s.TypeIs (.ref it) "list_reverseiterator" := Heap.IsRevIter.typeIs hit
  have h1 : Builtin.List.listSameRef (.ref S) (.ref it) = false := by simp [Builtin.List.listSameRef, hSi]
  unfold Builtin.List.listExtendWith
  refine wpAny_bind (wpAny_typeOf hT ?_)
  rw [if_neg (by rw [h1]; decide)]
  refine wpAny_bind (wpAny_pyIter_revIter hit ?_)
  refine wpAny_bind (wpAny_holding ?_)
  unfold Builtin.List.listLengthHint
  refine wpAny_bind (wpAny_specialOf hT RT.nolen_lri ?_)
  show wpAny _ A.in1 (specialOf (Value.ref it) (Str.ofString "__length_hint__") >>= _) _ _ _
  refine wpAny_bind (wpAny_specialOf hT RT.hint_lri ?_)
  generalize hid : ("list_reverseiterator.__length_hint__" : String) = id0
  wp_delta
  rw [show splitId id0 = some ("list_reverseiterator", "__length_hint__") from by subst hid; decide +kernel]
  subst hid
  refine wpAny_bind (wpAny_isInstance (b := true) hT (by rw [isSubtype_type]; kernel_rfl) ?_)
  refine wpAny_pure ?_
  rw [if_neg (by decide)]
  have e0 : ((items.size : Nat) : Int) - 1 - ((0 : Nat) : Int) = (items.size : Int) - 1 := by omega
  refine wpAny_pure ⟨plainId_quiet F.plain_extend_loop _, codeAny_extend_loopS W hn _ hSf _ items.size 0 _ _ _ rfl (Nat.zero_le _) ⟨Nat.zero_le _, by rw [e0]; exact hit, hl⟩ hS (ItemsOf.nil _) fun s' acc' c' hm hS' hacc => ?_⟩
  rw [Moved.eq_with hm]
  refine hR s'.heap s'.toks acc' c' (fun b ob hb hi e => hm.heap b ob (fun hmem => ?_) e) hS' hacc
  rcases List.mem_cons.mp hmem with e' | hmem
  · exact hb e'
  · exact hi (List.mem_singleton.mp hmem)
theorem list_init_rev {it l : Addr} {items : Array Value} {R : Result → Shared → Prop} (hh : A.handled = none) (hit : s.heap.IsRevIter it l ((items.size : Int) - 1)) (hl : s.heap.IsList l items) (hne : l ≠ it) (hn : items.size ≤ sizeLine) (S : Addr)
    (hS : s.heap.get? S = some { cls := .type "list", data := .seq #[] }) (hSi : S ≠ it) (hSl : S ≠ l)
    (hR : ∀ h' tk acc' c', (∀ b o, b ≠ S → b ≠ it → s.heap.get? b = some o → h'.get? b = some o) → h'.get? S = some { cls := .type "list", dict := none, data := .seq acc' c', slots := #[] } →
      ItemsOf (fun i v => items[items.size - 1 - i]? = some v) acc' items.size → R (.ok (.ret .none)) { s with heap := h', toks := tk }) :
    wpAny (model prog w) A.in1 (Builtin.«list.__init__» ⟨[.ref S, .ref it], []⟩)
      (fun fin s' => match fin with | .done f => R (.ok f) s' | .again c' => c'.quiet = true ∧ codeAny (model prog w) A c' R s') (fun e s' => R (.error e) s') s := by
  show wpAny _ _ (do let old ← Builtin.List.listItems (.ref S); Builtin.List.listUpdate (.ref S) (fun _ => #[]); letGo old.toList.reverse; Builtin.List.listExtendWith (.ref S) (.ref it) .none) _ _ s
  refine wpAny_bind ?_
  unfold Builtin.List.listItems
  refine wpAny_bind (wpAny_seqItems hS rfl (wpAny_pure ?_))
  show wpAny _ _ (updateSeq S (fun _ => #[]) >>= fun _ => letGo (#[] : Array Value).toList.reverse >>= fun _ => Builtin.List.listExtendWith (.ref S) (.ref it) .none) _ _ s
  refine wpAny_bind (wpAny_updateSeq hS rfl ?_)
  have hS₂ := Heap.get?_update_self (Obj.mapSeq (fun _ => (#[] : Array Value))) hS rfl
  have oth : ∀ b o, b ≠ S → s.heap.get? b = some o → (s.heap.update S (Obj.mapSeq (fun _ => (#[] : Array Value)))).get? b = some o :=
    fun b o hb e => (Heap.get?_update_other _ _ (Ne.symm hb)).trans e
  refine wpAny_bind (wpAny_letGo ?_)
  have hl2 : (s.heap.update S (Obj.mapSeq (fun _ => (#[] : Array Value)))).IsList l items := by
    obtain ⟨o, ho, r⟩ := hl
    exact ⟨o, oth l o (Ne.symm hSl) ho, r⟩
  have hit2 : (s.heap.update S (Obj.mapSeq (fun _ => (#[] : Array Value)))).IsRevIter it l ((items.size : Int) - 1) := hit.at fun o e => oth it o (Ne.symm hSi) e
  refine extend_rev (s := { s with heap := s.heap.update S (Obj.mapSeq (fun _ => (#[] : Array Value))) }) hh hit2 hl2 hne hn S .none _ hS₂ hSi hSl fun h' tk acc' c' hk hS' hacc => ?_
  exact hR h' tk acc' c' (fun b o hb hi e => hk b o hb hi (oth b o hb e)) hS' hacc
theorem call_list_rev {it l : Addr} {items : Array Value} {Q : Value → Shared → Prop} (hh : A.handled = none) (hit : s.heap.IsRevIter it l ((items.size : Int) - 1)) (hl : s.heap.IsList l items) (hne : l ≠ it) (hn : items.size ≤ sizeLine)
    (hQ : ∀ h' tk acc' c', (∀ b o, b ≠ it → s.heap.get? b = some o → h'.get? b = some o) →
      h'.get? s.heap.objs.size = some { cls := .type "list", dict := none, data := .seq acc' c', slots := #[] } → ItemsOf (fun i v => items[items.size - 1 - i]? = some v) acc' items.size → Q (.ref s.heap.objs.size) { s with heap := h', toks := tk }) :
    wpAny (model prog w) A (call (.type "list") [.ref it]) Q E s := by
  refine callType_codes (Q₁ := fun obj s₁ => obj = .ref s.heap.objs.size ∧ s₁ = { s with heap := s.heap.push { cls := .type "list", data := .seq #[] } }) F.called_list (F.typeCall_list_1 _) F.entry_list_init
    (code_list_new _ ⟨rfl, rfl⟩) fun obj s₁ h₁ => ?_
  obtain ⟨rfl, rfl⟩ := h₁
  obtain ⟨oi, hoi, _⟩ := id hit
  obtain ⟨ol, hol, _⟩ := id hl
  have hSi : s.heap.objs.size ≠ it := Nat.ne_of_gt (Heap.lt_size hoi)
  have hSl : s.heap.objs.size ≠ l := Nat.ne_of_gt (Heap.lt_size hol)
  have hS : (s.heap.push { cls := .type "list", data := .seq #[] }).get? s.heap.objs.size = some { cls := .type "list", data := .seq #[] } := Heap.get?_push_size _ rfl
  have hit1 : (s.heap.push { cls := .type "list", data := .seq #[] }).IsRevIter it l ((items.size : Int) - 1) := hit.at fun o e => Heap.get?_push_of_some _ e
  refine ⟨⟨_, hS, rfl⟩, F.args_list_init_2 _ _, list_init_rev (A := A.in1) (s := { s with heap := s.heap.push { cls := .type "list", data := .seq #[] } }) hh hit1 (hl.push _) hne hn _ hS hSi hSl fun h' tk acc' c' hk hS' hacc => ?_⟩
  exact ⟨rfl, hQ h' tk acc' c' (fun b o hi e => hk b o (Nat.ne_of_lt (Heap.lt_size e)) hi (Heap.get?_push_of_some _ e)) hS' hacc⟩
end
section
variable {X : Cx} {K : PySem.W.Frag}
def tListRev (K : PySem.W.Frag) (te : TE) : TE := fun σ H Q => te σ H fun v H1 => ∃ (a : Addr) (xs : List V), v = .ref a ∧ SqL K H1 a xs ∧ ∀ q, H1 q = none → Q (.ref q) (upd H1 q (.lst xs.reverse))
theorem pe_listRev {e : Expr} {te : TE} {p p2 pos pos2 : Pos} (hm : X.mg "list" = none) (hm2 : X.mg "reversed" = none) (he : PE X e te) (hc : X.calm = true := by rfl) (hg : Gl X "list" := by rfl) (hg2 : Gl X "reversed" := by rfl) (h : X.K = K := by rfl)
    (hs : starEach [e] X.env = (false, eval e X.env) :: starEach [] X.env := by rfl)
    (hs2 : starEach [.Call (.Name "reversed" p2) [e] [] pos2] X.env = (false, eval (.Call (.Name "reversed" p2) [e] [] pos2) X.env) :: starEach [] X.env := by rfl) :
    PE X (.Call (.Name "list" p) [.Call (.Name "reversed" p2) [e] [] pos2] [] pos) (tListRev K te) := by
  subst h
  refine ⟨fun pins s σ H Q I h => ?_⟩
  refine Call_ (ld_blt I hg hm boot_list (PyProof.Rows.callWith_type1 (args_cons (Call_ (ld_blt I hg2 hm2 PyProof.Rows.boot_reversed (PyProof.Rows.callWith_type1 (args_cons (thn (he.run pins s σ H _ I h) fun u s1 ⟨v, H1, I1, r1, q1⟩ => args_nil ?_) hs) hs rfl))) hs2) hs2 rfl))
  obtain ⟨a, xs, ev, hq, q⟩ := q1
  subst ev
  obtain rfl : u = Value.ref a := r1
  obtain ⟨its, rv, p', hz⟩ := I1.list hq
  refine call_reversed_list p'.isList (args_nil ?_)
  have hl := p'.isList
  obtain ⟨ol, hol, _⟩ := id hl
  have hne : a ≠ s1.heap.objs.size := Nat.ne_of_lt (Heap.lt_size hol)
  have hn : its.toArray.size ≤ sizeLine := by rw [List.size_toArray, ← rv.length]; exact hz
  refine call_list_rev (s := { s1 with heap := s1.heap.push (revObj a ((its.toArray.size : Int) - 1)) }) (I1.ok.hd hc) ⟨_, Heap.get?_push_size _ rfl, rfl, rfl⟩ (hl.push _) hne hn fun h' tk acc c' hk hS hi => ?_
  have hk1 : ∀ b o, s1.heap.get? b = some o → h'.get? b = some o := fun b o e => hk b o (Nat.ne_of_lt (Heap.lt_size e)) (Heap.get?_push_of_some _ e)
  have hsz : (s1.heap.push (revObj a ((its.toArray.size : Int) - 1))).objs.size = s1.heap.objs.size + 1 := by
    first | rfl | simp [Heap.push] | exact Heap.size_push _ _
  have hle : s1.heap.objs.size ≤ (s1.heap.push (revObj a ((its.toArray.size : Int) - 1))).objs.size := by rw [hsz]; exact Nat.le_succ _
  refine ⟨.ref (s1.heap.push (revObj a ((its.toArray.size : Int) - 1))).objs.size, upd H1 (s1.heap.push (revObj a ((its.toArray.size : Int) - 1))).objs.size (.lst xs.reverse), I1.laid (t' := tk) hk1 hle ⟨by rw [List.length_reverse]; exact hz, acc.toList, c', RT.vals_rev rv hi, by rw [Array.toArray_toList]; exact hS⟩, rfl, q _ (I1.hok.fresh hle)⟩
end
section
variable {K : PySem.W.Frag} {M : List Addr} {F0 H0 F H : Hp} {L : List Own} {σ : L2.St} {Q : VK} {te : TE} {a : Addr} {xs : List V}
def lrvG (K : PySem.W.Frag) (v : V) (H1 : Hp) (Q : VK) : Prop := ∃ (a : Addr) (xs : List V), v = .ref a ∧ SqL K H1 a xs ∧ ∀ q, H1 q = none → Q (.ref q) (upd H1 q (.lst xs.reverse))
theorem x_lrv (q : te σ H fun v H1 => lrvG K v H1 Q) : tListRev K te σ H Q := q
theorem n_lrv (w : W M F0 H0 F H L) (hs : SqL K H a xs) (h : ∀ p F2 H2, W M F0 H0 F2 H2 (mu p (.lst xs.reverse) :: L) → H0 p = none → Q (.ref p) H2) : lrvG K (.ref a) H Q := ⟨a, xs, rfl, hs, n_new w h⟩
end
end R

namespace R
open PySem PySem.Spec PyProof.Rows L2
/-! ### many objects that may change -/
def AllMu (F H : Hp) (ds : List Addr) (os : List HO) : Prop := ds.length = os.length ∧ ∀ (i : Nat) (d : Addr) (o : HO), ds[i]? = some d → os[i]? = some o → Mu F H d o
def muA (ds : List Addr) (os : List HO) : Own := ⟨ds, fun F H => AllMu F H ds os, fun {F H F2 H2} s h n m => ⟨m.1, fun i d o hd ho => by
    have x := m.2 i d o hd ho
    have hm := List.mem_of_getElem? hd
    exact ⟨n d hm x.n, h d hm o x.h⟩⟩, fun {F H} m a ha => by
    obtain ⟨i, hi, e⟩ := List.mem_iff_getElem.mp ha
    have hi2 : i < os.length := by rw [← m.1]; exact hi
    exact ne_none (m.2 i a os[i] (by rw [List.getElem?_eq_getElem hi, e]) (List.getElem?_eq_getElem hi2)).h⟩
section
variable {K : PySem.W.Frag} {M : List Addr} {F0 H0 F H : Hp} {L L1 Rs : List Own} {ds : List Addr} {os : List HO} {i : Nat} {d p : Addr} {o o2 u : HO}
theorem era_perm {α : Type} {l : List α} {i : Nat} {a : α} (h : l[i]? = some a) : (a :: l.eraseIdx i).Perm l := by
  induction l generalizing i with
  | nil => cases h
  | cons b l ih =>
    cases i with
    | zero => cases h; exact .refl _
    | succ i =>
      have h2 : l[i]? = some a := h
      show (a :: b :: l.eraseIdx i).Perm (b :: l)
      exact (List.Perm.swap b a _).trans ((ih h2).cons b)
theorem W.take (w : W M F0 H0 F H (muA ds os :: L)) (hd : ds[i]? = some d) (ho : os[i]? = some o) : W M F0 H0 F H (R.mu d o :: muA (ds.eraseIdx i) (os.eraseIdx i) :: L) := by
  have m : AllMu F H ds os := w.i _ (List.mem_cons_self ..)
  have hp : (ads (R.mu d o :: muA (ds.eraseIdx i) (os.eraseIdx i) :: L)).Perm (ads (muA ds os :: L)) := by
    show ([d] ++ (ds.eraseIdx i ++ ads L)).Perm (ds ++ ads L)
    rw [← List.append_assoc]
    exact (era_perm hd).append_right _
  refine ⟨w.g, fun q hq => ?_, hp.nodup_iff.mpr w.d, fun a ha => w.o a (hp.mem_iff.mp ha)⟩
  rcases List.mem_cons.mp hq with rfl | hq
  · exact m.2 i d o hd ho
  rcases List.mem_cons.mp hq with rfl | hq
  · refine ⟨?_, fun j d2 o2 h1 h2 => ?_⟩
    · have hi := (List.getElem?_eq_some_iff.mp hd).1
      have hi2 := (List.getElem?_eq_some_iff.mp ho).1
      rw [List.length_eraseIdx, List.length_eraseIdx, if_pos hi, if_pos hi2, m.1]
    · rw [List.getElem?_eraseIdx] at h1 h2
      by_cases hj : j < i
      · rw [if_pos hj] at h1 h2
        exact m.2 j d2 o2 h1 h2
      · rw [if_neg hj] at h1 h2
        exact m.2 (j + 1) d2 o2 h1 h2
  · exact w.i q (List.mem_cons_of_mem _ hq)
theorem W.give (w : W M F0 H0 F H (R.mu d o2 :: muA (ds.eraseIdx i) (os.eraseIdx i) :: L)) (hd : ds[i]? = some d) (hl : ds.length = os.length) : W M F0 H0 F H (muA ds (os.set i o2) :: L) := by
  have m1 : Mu F H d o2 := w.i _ (List.mem_cons_self ..)
  have m : AllMu F H (ds.eraseIdx i) (os.eraseIdx i) := w.i _ (List.mem_cons_of_mem _ (List.mem_cons_self ..))
  have hi := (List.getElem?_eq_some_iff.mp hd).1
  have hp : (ads (R.mu d o2 :: muA (ds.eraseIdx i) (os.eraseIdx i) :: L)).Perm (ads (muA ds (os.set i o2) :: L)) := by
    show ([d] ++ (ds.eraseIdx i ++ ads L)).Perm (ds ++ ads L)
    rw [← List.append_assoc]
    exact (era_perm hd).append_right _
  refine ⟨w.g, fun q hq => ?_, hp.nodup_iff.mp w.d, fun a ha => w.o a (hp.mem_iff.mpr ha)⟩
  rcases List.mem_cons.mp hq with rfl | hq
  · refine ⟨by rw [List.length_set, hl], fun j d2 o3 h1 h2 => ?_⟩
    by_cases hj : j = i
    · subst hj
      rw [hd] at h1
      rw [List.getElem?_set_self (by omega)] at h2
      cases h1
      cases h2
      exact m1
    · rw [List.getElem?_set_ne (Ne.symm hj)] at h2
      by_cases hj2 : j < i
      · exact m.2 j d2 o3 (by rw [List.getElem?_eraseIdx, if_pos hj2]; exact h1) (by rw [List.getElem?_eraseIdx, if_pos hj2]; exact h2)
      · have e : j - 1 + 1 = j := by omega
        exact m.2 (j - 1) d2 o3 (by rw [List.getElem?_eraseIdx, if_neg (by omega), e]; exact h1) (by rw [List.getElem?_eraseIdx, if_neg (by omega), e]; exact h2)
  · exact w.i q (List.mem_cons_of_mem _ (List.mem_cons_of_mem _ hq))
theorem W.addA (w : W M F0 H0 F H (R.mu d o :: muA ds os :: L)) : W M F0 H0 F H (muA (ds ++ [d]) (os ++ [o]) :: L) := by
  have m1 : Mu F H d o := w.i _ (List.mem_cons_self ..)
  have m : AllMu F H ds os := w.i _ (List.mem_cons_of_mem _ (List.mem_cons_self ..))
  have hp : (ads (R.mu d o :: muA ds os :: L)).Perm (ads (muA (ds ++ [d]) (os ++ [o]) :: L)) := by
    show ([d] ++ (ds ++ ads L)).Perm ((ds ++ [d]) ++ ads L)
    rw [← List.append_assoc]
    exact (List.perm_append_comm).append_right _
  refine ⟨w.g, fun q hq => ?_, hp.nodup_iff.mp w.d, fun a ha => w.o a (hp.mem_iff.mpr ha)⟩
  rcases List.mem_cons.mp hq with rfl | hq
  · refine ⟨by rw [List.length_append, List.length_append, m.1]; rfl, fun j d2 o3 h1 h2 => ?_⟩
    have hml := m.1
    by_cases hj : j < ds.length
    · rw [List.getElem?_append_left hj] at h1
      rw [List.getElem?_append_left (by omega)] at h2
      exact m.2 j d2 o3 h1 h2
    · rw [List.getElem?_append_right (by omega)] at h1 h2
      rw [← hml] at h2
      cases e : j - ds.length with
      | zero =>
        rw [e] at h1 h2
        cases h1
        cases h2
        exact m1
      | succ k => rw [e] at h1; cases h1
  · exact w.i q (List.mem_cons_of_mem _ (List.mem_cons_of_mem _ hq))
theorem W.nilA (w : W M F0 H0 F H L) : W M F0 H0 F H (muA [] [] :: L) := w.push (muA [] []) ⟨rfl, fun i d o h => nomatch h⟩ rfl
/-- to the front -/
theorem W.fst (w : W M F0 H0 F H L) {x : Own} (k : Rm x L Rs) : W M F0 H0 F H (x :: Rs) := w.perm k.perm
theorem pick_all : ∀ {L : List Own}, Pick L L []
  | [] => .nil
  | _ :: _ => .cons .here pick_all
theorem putK_mem {kvs : List (Key × V)} {k : Key} {v : V} : ∀ kv ∈ putK kvs k v, kv.1 = k ∨ ∃ kv2 ∈ kvs, kv2.1 = kv.1 := by
  intro kv h
  unfold putK at h
  split at h
  · obtain ⟨kv2, h2, e⟩ := List.mem_map.mp h
    by_cases e2 : kv2.1 = k
    · rw [if_pos e2] at e
      exact .inl (by rw [← e]; exact e2)
    · rw [if_neg e2] at e
      exact .inr ⟨kv2, h2, by rw [e]⟩
  · rcases List.mem_append.mp h with h | h
    · exact .inr ⟨kv, h, rfl⟩
    · rw [List.mem_singleton.mp h]
      exact .inl rfl
def iKG (x : V) (H1 : Hp) (R : It → Hp → Prop) : Prop := ∃ d o, x = .ref d ∧ ((∃ kvs, H1 d = some (.frz o (.dK kvs)) ∧ R (Itk d o kvs) H1) ∨ ∃ kvs, H1 d = some (.frz o (.dT kvs)) ∧ R (Itkt d o kvs) H1)
theorem x_keys {σ : L2.St} {H1 : Hp} {td : TE} {R : It → Hp → Prop} (q : td σ H1 fun x H2 => iKG x H2 R) : iKeys td σ H1 R := q
theorem n_keys {H1 : Hp} {d : Addr} {od : Obj} {kvs : List (Key × V)} {R : It → Hp → Prop} (h : H1 d = some (.frz od (.dK kvs))) (r : R (Itk d od kvs) H1) : iKG (.ref d) H1 R := ⟨d, od, rfl, .inl ⟨kvs, h, r⟩⟩
/-! ### a loop over a dict of numbers -/
def dkO (kvs : List (Key × V)) : HO := .dK kvs
variable {σ : L2.St} {g : TG} {tbody : TS} {nx bk ct : L2.St → Hp → Prop} {rt : VK} {td : TE} {kvs : List (Key × V)}
theorem n_forD (w : W M F0 H0 F H L) (k : Pick L [mu d (.dK kvs)] Rs) (Inv : Nat → L2.St → List Own → Prop) (h0 : Inv 0 σ L1) (k0 : Pk Rs L1)
    (hs : ∀ (od : Obj) (i : Nat) (ke : Key) (v : V) σ L F H, kvs[i]? = some (ke, v) → Inv i σ L → W M F0 H0 F H (mu d (.frz od (.dK kvs)) :: L) → g (kV ke) σ H fun σ2 H2 => tbody ⟨Nx M F0 H0 (fun σ L => ∃ L', Inv (i + 1) σ L' ∧ L = mu d (.frz od (.dK kvs)) :: L'), fun v H' => H' d = some (.frz od (.dK kvs)) ∧ rt v (upd H' d (.dK kvs)), fun σ' H' => H' d = some (.frz od (.dK kvs)) ∧ nx σ' (upd H' d (.dK kvs)), Nx M F0 H0 (fun σ L => ∃ L', Inv (i + 1) σ L' ∧ L = mu d (.frz od (.dK kvs)) :: L')⟩ σ2 H2)
    (hd : ∀ σ L F H, Inv kvs.length σ L → W M F0 H0 F H (mu d (.dK kvs) :: L) → nx σ H) (hv : ∀ {R : It → Hp → Prop} {od : Obj}, W M F0 H0 F (upd H d (.frz od (.dK kvs))) (mu d (.frz od (.dK kvs)) :: Rs) → R (Itk d od kvs) (upd H d (.frz od (.dK kvs))) → iKeys td σ (upd H d (.frz od (.dK kvs))) R) :
    tLock (tFor (iKeys td) g tbody) ⟨nx, rt, bk, ct⟩ σ H := by
  have md := (w.to k).mu (p := d) (u := .dK kvs) (List.mem_singleton.mpr rfl)
  refine ⟨d, .dK kvs, md.h, trivial, fun od => ?_⟩
  have w1 : W M F0 H0 F (upd H d (.frz od (.dK kvs))) (mu d (.frz od (.dK kvs)) :: Rs) := w.wr (u := .frz od (.dK kvs)) k
  refine hv w1 ?_
  have cl : ∀ {F2 H2 : Hp} {L2 : List Own}, W M F0 H0 F2 H2 (mu d (.frz od (.dK kvs)) :: L2) → W M F0 H0 F2 (upd H2 d (.dK kvs)) (mu d (.dK kvs) :: L2) := fun w => w.wr (u := .dK kvs) (.cons .here .nil)
  obtain ⟨Rs2, kk⟩ := k0
  have w2 : W M F0 H0 F (upd H d (.frz od (.dK kvs))) (mu d (.frz od (.dK kvs)) :: L1) := w1.to (.cons .here kk)
  refine n_forJ (Itk d od kvs) kvs.length w2 (fun i σ L => ∃ L', Inv i σ L' ∧ L = mu d (.frz od (.dK kvs)) :: L') ⟨L1, h0, rfl⟩ (fun i σ L F H hi h w => ?_) (fun σ L F H h w => ?_) (fun i x σ L F H H' hi h w y => ?_) (fun σ L F H h w => ?_) ⟨_, pick_all⟩
  · obtain ⟨L', h, rfl⟩ := h
    exact ⟨w.at_ (List.mem_cons_self ..), hi⟩
  · obtain ⟨L', h, rfl⟩ := h
    exact ⟨w.at_ (List.mem_cons_self ..), Nat.le_refl _⟩
  · obtain ⟨L', h, rfl⟩ := h
    obtain ⟨rfl, ke, v, hk, rfl⟩ := y
    exact hs od i ke v σ L' F _ hk h w
  · obtain ⟨L', h, rfl⟩ := h
    exact ⟨w.at_ (List.mem_cons_self ..), hd σ L' F _ h (cl w)⟩
end
end R

namespace R
open PySem PySem.Spec PyProof.Rows L2
/-! ### xs.insert(i, y) -/
section
variable {X : Cx}
def rIns : V → List V → Hp → VK → Prop := fun x vs H Q => ∃ (l : Addr) (xs : List V) (i : Int) (y : V), x = .ref l ∧ vs = [.int i, y] ∧ H l = some (.lst xs) ∧ xs.length < sizeLine ∧ 0 ≤ i ∧ i < 2 ^ 63 ∧ Q .non (upd H l (.lst (xs.take i.toNat ++ [y] ++ xs.drop i.toNat)))
theorem mtIns : MtR X "list.insert" rIns := mt_insert
end
section
variable {K : PySem.W.Frag} {M : List Addr} {F0 H0 F H : Hp} {L L1 Rs : List Own} {Q : VK} {p : Addr} {xs : List V} {i : Int} {y : V}
theorem n_insert (w : W M F0 H0 F H L) (kk : Pick L [mu p (.lst xs)] Rs) (hl : xs.length < sizeLine) (h0 : 0 ≤ i) (h1 : i < 2 ^ 63) (h : ∀ H2, W M F0 H0 F H2 (mu p (.lst (xs.take i.toNat ++ [y] ++ xs.drop i.toNat)) :: Rs) → Q .non H2) : rIns (.ref p) [.int i, y] H Q :=
  ⟨p, xs, i, y, rfl, rfl, (w.to kk).at_ (List.mem_singleton.mpr rfl), hl, h0, h1, h _ (w.wr kk)⟩
end
end R

namespace R
open PySem PySem.Spec PyProof.Rows L2
/-! ### what is spoilt -/
def inW (ms : List Mv) (c : Nat) : Bool := ms.any fun m => decide (m.to ≤ c) && decide (c < m.to + m.len)
theorem inW_snoc (ms : List Mv) (m : Mv) (c : Nat) : inW (ms ++ [m]) c = (inW ms c || (decide (m.to ≤ c) && decide (c < m.to + m.len))) := by
  unfold inW
  rw [List.any_append]
  simp
theorem inW_take {ms : List Mv} {i : Nat} {m : Mv} (h : ms[i]? = some m) (c : Nat) : inW (ms.take (i + 1)) c = (inW (ms.take i) c || (decide (m.to ≤ c) && decide (c < m.to + m.len))) := by
  rw [List.take_add_one, h]
  exact inW_snoc _ _ _
def rdL (m : Mv) : List Nat := (List.range (m.hi - m.lo)).map (m.lo + ·)
def ldL (m : Mv) : List Nat := (List.range m.len).map (m.to + ·)
def firstIn (ms : List Mv) (m : Mv) : Option Nat := (rdL m).find? (inW ms)
def spF (ms : List Mv) : Nat → Option (Nat × Nat)
  | 0 => none
  | k + 1 => match spF ms k with
    | some r => some r
    | none => match ms[k]? with
      | none => none
      | some m => (firstIn (ms.take k) m).map fun c => (k, c)
def spD : Option (Nat × Nat) → PyData
  | none => .none
  | some (k, c) => .tuple [.int (k : Nat), .int (c : Nat)]
theorem sp_next {ms : List Mv} {i : Nat} {m : Mv} (h : spF ms i = none) (hm : ms[i]? = some m) (hf : firstIn (ms.take i) m = none) : spF ms (i + 1) = none := by
  unfold spF
  rw [h, hm]
  show (firstIn (ms.take i) m).map _ = none
  rw [hf]
  rfl
theorem sp_stop {ms : List Mv} {i c : Nat} {m : Mv} (h : spF ms i = none) (hm : ms[i]? = some m) (hf : firstIn (ms.take i) m = some c) : spF ms ms.length = some (i, c) := by
  have hi := (List.getElem?_eq_some_iff.mp hm).1
  have h1 : spF ms (i + 1) = some (i, c) := by
    unfold spF
    rw [h, hm]
    show (firstIn (ms.take i) m).map _ = _
    rw [hf]
    rfl
  have key : ∀ n, i + 1 ≤ n → spF ms n = some (i, c) := by
    intro n hn
    induction n with
    | zero => omega
    | succ n ih =>
      by_cases e : i + 1 = n + 1
      · rw [← e]; exact h1
      · unfold spF
        rw [ih (by omega)]
  exact key _ (by omega)
theorem rd_get {m : Mv} {j : Nat} (h : j < m.hi - m.lo) : (rdL m)[j]? = some (m.lo + j) := by
  unfold rdL
  rw [List.getElem?_map, List.getElem?_range h]
  rfl
theorem rd_len (m : Mv) : (rdL m).length = m.hi - m.lo := by unfold rdL; rw [List.length_map, List.length_range]
theorem rd_mem {m : Mv} {c : Nat} : c ∈ rdL m ↔ m.lo ≤ c ∧ c < m.lo + (m.hi - m.lo) := by
  unfold rdL
  rw [List.mem_map]
  constructor
  · rintro ⟨j, hj, rfl⟩
    have := List.mem_range.mp hj
    exact ⟨by omega, by omega⟩
  · rintro ⟨h1, h2⟩
    exact ⟨c - m.lo, List.mem_range.mpr (by omega), by omega⟩
theorem ld_len (m : Mv) : (ldL m).length = m.len := by unfold ldL; rw [List.length_map, List.length_range]
theorem first_none {ms : List Mv} {m : Mv} (h : ∀ c ∈ rdL m, inW ms c = false) : firstIn ms m = none := by
  unfold firstIn
  rw [List.find?_eq_none]
  intro c hc
  rw [h c hc]
  decide
/-- the least one -/
theorem first_min {ms : List Mv} {m : Mv} {c : Nat} (hc : c ∈ rdL m) (hw : inW ms c = true) (hl : ∀ y ∈ rdL m, inW ms y = true → c ≤ y) : firstIn ms m = some c := by
  obtain ⟨h1, h2⟩ := rd_mem.mp hc
  have hn : m.hi - m.lo = (c - m.lo) + ((m.hi - m.lo - (c - m.lo) - 1) + 1) := by omega
  have e : rdL m = (List.range (c - m.lo)).map (m.lo + ·) ++ c :: ((List.range (m.hi - m.lo - (c - m.lo) - 1)).map fun j => m.lo + (c - m.lo + (j + 1))) := by
    unfold rdL
    rw [hn, List.range_add, List.map_append, List.range_succ_eq_map]
    simp only [List.map_cons, List.map_map]
    congr 1
    refine List.cons_eq_cons.mpr ⟨by omega, ?_⟩
    have hk : c - m.lo + (m.hi - m.lo - (c - m.lo) - 1 + 1) - (c - m.lo) - 1 = m.hi - m.lo - (c - m.lo) - 1 := by omega
    rw [hk]
    refine List.map_congr_left fun j _ => ?_
    rfl
  unfold firstIn
  rw [e, List.find?_append, List.find?_eq_none.mpr (fun y hy => ?_)]
  · show (List.find? _ (c :: _)) = _
    rw [List.find?_cons_of_pos hw]
  · obtain ⟨j, hj, rfl⟩ := List.mem_map.mp hy
    have hj := List.mem_range.mp hj
    intro z
    have := hl (m.lo + j) (rd_mem.mpr ⟨by omega, by omega⟩) z
    omega
theorem lo_le (m : Mv) : m.lo ≤ m.hi := by
  cases m with
  | put to s => exact Nat.le_refl _
  | copy to a n => exact Nat.le_add_right _ _
theorem rg_rd {to a n : Nat} : rgV (a : Int) ((a : Int) + (n : Nat)) = (rdL (.copy to a n)).map fun (c : Nat) => V.int (c : Nat) := by
  unfold rgV rdL
  rw [List.map_map, show ((a : Int) + (n : Nat) - (a : Int)).toNat = (Mv.copy to a n).hi - (Mv.copy to a n).lo by show _ = a + n - a; omega]
  exact List.map_congr_left fun i _ => by show V.int ((a : Int) + (i : Int)) = V.int ((a + i : Nat) : Int); congr 1
theorem rg_ld {m : Mv} : rgV (m.to : Int) ((m.to : Int) + (m.len : Nat)) = (ldL m).map fun (c : Nat) => V.int (c : Nat) := by
  unfold rgV ldL
  rw [List.map_map, show ((m.to : Int) + (m.len : Nat) - (m.to : Int)).toNat = m.len by omega]
  exact List.map_congr_left fun i _ => by show V.int ((m.to : Int) + (i : Int)) = V.int ((m.to + i : Nat) : Int); congr 1
theorem MvOk.up {N : Nat} {m : Mv} (h : MvOk N m) (hN : N ≤ 400) : MvOk 400 m := ⟨h.s, h.p, Nat.le_trans h.t hN, Nat.le_trans h.h hN⟩
/-- the dict of the cells written -/
structure Wr (kvs : List (Key × V)) (f : Nat → Bool) (n : Nat) : Prop where
  k : ∀ c : Nat, (valV kvs (.inl (c : Int))).isSome = f c
  n : kvs.length ≤ n
theorem wr_nil : Wr [] (inW []) 0 := ⟨fun c => rfl, Nat.le_refl _⟩
theorem wr_put {kvs : List (Key × V)} {f g : Nat → Bool} {n c : Nat} {v : V} (h : Wr kvs f n) (hg : ∀ x, g x = (f x || decide (x = c))) : Wr (putK kvs (.inl (c : Int)) v) g (n + 1) := by
  refine ⟨fun x => ?_, Nat.le_trans (length_putK _ _ _) (by have := h.n; omega)⟩
  rw [valV_put, hg]
  by_cases e : x = c
  · rw [if_pos (by rw [e]), decide_eq_true e, Bool.or_true]
    rfl
  · rw [if_neg (by intro z; exact e (by have := Sum.inl.inj z; omega)), decide_eq_false e, Bool.or_false]
    exact h.k x
section
variable {H : Hp} {Q : VK} {D : Addr} {kvs : List (Key × V)} {f : Nat → Bool} {n c : Nat}
theorem n_dinV (h : H D = some (.dK kvs)) (q : Q (.bl (valV kvs (.inl (c : Int))).isSome) H) : gDIn (.ref D) (.int (c : Nat)) H Q := ⟨D, _, rfl, DGet.k (k := .inl (c : Int)) h, q⟩
theorem n_din (h : H D = some (.dK kvs)) (w : Wr kvs f n) (q : Q (.bl (f c)) H) : gDIn (.ref D) (.int (c : Nat)) H Q := ⟨D, _, rfl, DGet.k (k := .inl (c : Int)) h, by rw [w.k]; exact q⟩
end
theorem dpa_nums {K : PySem.W.Frag} {F : Hp} : ∀ fs : List Nat, DpAll K F (fs.map fun (c : Nat) => V.int (c : Nat)) (fs.map fun (c : Nat) => PyData.int (c : Nat))
  | [] => .nil
  | _ :: fs => .cons (.int _) (dpa_nums fs)
theorem nums_good {fs : List Nat} (h : fs.length ≤ 100000) : good (.list (fs.map fun (c : Nat) => PyData.int (c : Nat))) = true ∧ (PyData.list (fs.map fun (c : Nat) => PyData.int (c : Nat))).depth ≤ 1 := by
  constructor
  · refine good_list (by rw [List.length_map]; exact h) fun d hd => ?_
    obtain ⟨c, hc, rfl⟩ := List.mem_map.mp hd
    rfl
  · refine depth_list fun d hd => ?_
    obtain ⟨c, hc, rfl⟩ := List.mem_map.mp hd
    exact Nat.le_refl _
section
variable {K : PySem.W.Frag} {H : Hp} {Q : VK} {p r : Addr} {fs : List Nat}
theorem n_neI (h1 : SqL K H p (fs.map fun (c : Nat) => V.int (c : Nat))) (h2 : SqL K H r []) (l : fs.length ≤ 400) (q : Q (.bl (!decide (fs = []))) H) : rNeD K (.ref p) (.ref r) H Q := by
  have g := nums_good (fs := fs) (by omega)
  refine ⟨_, _, .lst h1 (dpa_nums fs), .lst h2 .nil, good_shaped g.1 (Nat.le_trans g.2 (by decide)), good_shaped rfl (by decide), ?_⟩
  cases fs <;> exact q
theorem n_eqI (h1 : SqL K H p (fs.map fun (c : Nat) => V.int (c : Nat))) (h2 : SqL K H r []) (l : fs.length ≤ 400) (q : Q (.bl (decide (fs = []))) H) : rEqD K (.ref p) (.ref r) H Q := by
  have g := nums_good (fs := fs) (by omega)
  refine ⟨_, _, .lst h1 (dpa_nums fs), .lst h2 .nil, good_shaped g.1 (Nat.le_trans g.2 (by decide)), good_shaped rfl (by decide), ?_⟩
  cases fs <;> exact q
end
theorem rep_ints : ∀ n : Nat, (List.replicate n [V.int 0]).flatten = (List.replicate n (0 : Int)).map V.int
  | 0 => rfl
  | n + 1 => by rw [List.replicate_succ, List.replicate_succ, List.flatten_cons, rep_ints n]; rfl
theorem map_at {α : Type} {f : α → V} {l : List α} {i : Nat} {x : V} (h : (l.map f)[i]? = some x) : ∃ y, l[i]? = some y ∧ x = f y := by
  rw [List.getElem?_map] at h
  cases e : l[i]? with
  | none => rw [e] at h; cases h
  | some y => rw [e] at h; exact ⟨y, rfl, (Option.some.inj h).symm⟩
theorem set_same {α : Type} {l : List α} {i : Nat} {o : α} (h : l[i]? = some o) : l.set i o = l := by
  obtain ⟨hi, e⟩ := List.getElem?_eq_some_iff.mp h
  rw [← e]
  exact List.set_getElem_self hi
theorem ixNat {n i : Nat} (h : i < n) : ixN n (i : Int) = some i := by
  unfold ixN
  rw [if_pos (by omega), if_pos (by omega)]
  simp
theorem dpa_takeS {K : PySem.W.Frag} {F : Hp} : ∀ {vs : List V} {ds : List PyData} (n : Nat), DpAll K F vs ds → DpAll K F (vs.take n) (ds.take n)
  | _, _, 0, h => by rw [List.take_zero, List.take_zero]; exact .nil
  | _, _, n + 1, .nil => .nil
  | _, _, n + 1, .cons h t => .cons h (dpa_takeS n t)
theorem dpa_dropS {K : PySem.W.Frag} {F : Hp} : ∀ {vs : List V} {ds : List PyData} (n : Nat), DpAll K F vs ds → DpAll K F (vs.drop n) (ds.drop n)
  | _, _, 0, h => h
  | _, _, n + 1, .nil => .nil
  | _, _, n + 1, .cons h t => dpa_dropS n t
theorem dpa_revS {K : PySem.W.Frag} {F : Hp} : ∀ {vs : List V} {ds : List PyData}, DpAll K F vs ds → DpAll K F vs.reverse ds.reverse
  | _, _, .nil => .nil
  | _, _, .cons h t => by
    rw [List.reverse_cons, List.reverse_cons]
    exact dpa_snoc (dpa_revS t) h
theorem dpa_numsI {K : PySem.W.Frag} {F : Hp} : ∀ {ks : List Nat} {us : List V}, DpAll K F us (ks.map fun (k : Nat) => PyData.int (k : Nat)) → us = ks.map fun (k : Nat) => V.int (k : Nat)
  | [], _, h => by cases h; rfl
  | k :: ks, _, .cons h t => by
    cases h
    rw [dpa_numsI t]
    rfl
theorem dpa_eraseS {K : PySem.W.Frag} {F : Hp} {vs : List V} {ms : List Mv} (j : Nat) (h : DpAll K F vs (ms.map Mv.d)) : DpAll K F (vs.eraseIdx j) ((ms.eraseIdx j).map Mv.d) := by
  rw [List.eraseIdx_eq_take_drop_succ, List.eraseIdx_eq_take_drop_succ, List.map_append, List.map_take, List.map_drop]
  exact dpa_app (dpa_takeS _ h) (dpa_dropS _ h)
theorem dpa_insS {K : PySem.W.Frag} {F : Hp} {vs : List V} {ms : List Mv} {v : V} {m : Mv} (j : Nat) (h : DpAll K F vs (ms.map Mv.d)) (hm : Dp K F v m.d) : DpAll K F (vs.take j ++ [v] ++ vs.drop j) ((ms.take j ++ [m] ++ ms.drop j).map Mv.d) := by
  rw [List.map_append, List.map_append, List.map_take, List.map_drop]
  exact dpa_app (dpa_app (dpa_takeS _ h) (.cons hm .nil)) (dpa_dropS _ h)
theorem n_neMv {K : PySem.W.Frag} {H : Hp} {Q : VK} {p r : Addr} {vs : List V} {ms : List Mv} (h1 : SqL K H p vs) (h2 : SqL K H r []) (d : DpAll K H vs (ms.map Mv.d)) (ok : ∀ m ∈ ms, m.sOk) (l : ms.length ≤ 400) (q : Q (.bl (!decide (ms = []))) H) : rNeD K (.ref p) (.ref r) H Q := by
  have g := mvs_good ok (by omega)
  refine ⟨_, _, .lst h1 d, .lst h2 .nil, good_shaped g.1 (Nat.le_trans g.2 (by decide)), good_shaped rfl (by decide), ?_⟩
  cases ms <;> exact q
/-- a list of moves as data -/
def lsD (ms : List Mv) : PyData := .list (ms.map Mv.d)
def LsOk (ms : List Mv) : Prop := (∀ m ∈ ms, MvOk 400 m) ∧ ms.length ≤ 400
theorem spD_good : ∀ r : Option (Nat × Nat), good (spD r) = true ∧ (spD r).depth ≤ 1
  | none => ⟨rfl, Nat.zero_le _⟩
  | some (k, c) => ⟨good_tuple (by show 2 ≤ 100000; omega) fun d hd => by
      rcases List.mem_cons.mp hd with rfl | hd
      · rfl
      rw [List.mem_singleton.mp hd]; rfl, depth_tuple (n := 0) fun d hd => by
      rcases List.mem_cons.mp hd with rfl | hd
      · exact Nat.le_refl _
      rw [List.mem_singleton.mp hd]; exact Nat.le_refl _⟩
theorem lastS {α : Type} {xs : List α} {v : α} (h : xs[xs.length - 1]? = some v) : atI xs (-1) = some v := by
  have hl := (List.getElem?_eq_some_iff.mp h).1
  unfold atI ixN
  rw [if_neg (by decide)]
  first
    | (rw [if_pos (by omega)]; show xs[(((xs.length : Nat) : Int) + -1).toNat]? = some v; rw [show (((xs.length : Nat) : Int) + -1).toNat = xs.length - 1 by omega]; exact h)
    | (rw [if_pos (by omega)]; show xs[((-1 : Int) + ((xs.length : Nat) : Int)).toNat]? = some v; rw [show ((-1 : Int) + ((xs.length : Nat) : Int)).toNat = xs.length - 1 by omega]; exact h)
/-! ### promises -/
def φspoilt (K : PySem.W.Frag) : V → Hp → VK → Prop := fun x H Q => ∃ (F : Hp) (a : Addr) (vs : List V) (ms : List Mv), x = .ref a ∧ Same F H ∧ SqL K F a vs ∧ DpAll K F vs (ms.map Mv.d) ∧ (∀ m ∈ ms, MvOk 400 m) ∧ ms.length ≤ 400 ∧ ∀ v F2 H2, W [] F H F2 H2 [dat K v (spD (spF ms ms.length))] → Q v H2
def φlreads (K : PySem.W.Frag) : V → Hp → VK → Prop := fun x H Q => ∃ (F : Hp) (m : Mv), Same F H ∧ Dp K F x m.d ∧ MvOk 400 m ∧ ∀ p F2 H2, H p = none → W [] F H F2 H2 [mu p (.lst ((rdL m).map fun (c : Nat) => V.int (c : Nat)))] → Q (.ref p) H2
def φllands (K : PySem.W.Frag) : V → Hp → VK → Prop := fun x H Q => ∃ (F : Hp) (m : Mv), Same F H ∧ Dp K F x m.d ∧ MvOk 400 m ∧ ∀ p F2 H2, H p = none → W [] F H F2 H2 [mu p (.lst ((ldL m).map fun (c : Nat) => V.int (c : Nat)))] → Q (.ref p) H2
/-- dicts of numbers below n -/
def NumD (n : Nat) (o : HO) : Prop := ∃ kvs : List (Key × V), o = .dK kvs ∧ (∀ kv ∈ kvs, ∃ b : Nat, kv.1 = .inl (b : Int) ∧ b < n) ∧ kvs.length ≤ 400
def φedges (K : PySem.W.Frag) : V → Hp → VK → Prop := fun x H Q => ∃ (F : Hp) (a : Addr) (vs : List V) (ms : List Mv), x = .ref a ∧ Same F H ∧ SqL K F a vs ∧ DpAll K F vs (ms.map Mv.d) ∧ (∀ m ∈ ms, MvOk 400 m) ∧ ms.length ≤ 400 ∧
  ∀ p ds os F2 H2, H p = none → W [] F H F2 H2 [mu p (.lst (ds.map V.ref)), muA ds os] → ds.length = ms.length → (∀ o ∈ os, NumD ms.length o) → Q (.ref p) H2
def ordD : Option (List Nat) → PyData
  | none => .none
  | some ks => .list (ks.map fun (k : Nat) => PyData.int (k : Nat))
def φorder (K : PySem.W.Frag) : V → Hp → VK → Prop := fun x H Q => ∃ (F : Hp) (a : Addr) (vs : List V) (ms : List Mv), x = .ref a ∧ Same F H ∧ SqL K F a vs ∧ DpAll K F vs (ms.map Mv.d) ∧ (∀ m ∈ ms, MvOk 400 m) ∧ ms.length ≤ 400 ∧
  ∀ v o F2 H2, W [] F H F2 H2 [dat K v (ordD o)] → (∀ ks, o = some ks → (∀ k ∈ ks, k < ms.length) ∧ ks.length ≤ ms.length) → Q v H2
end R

namespace R
open PySem PySem.Spec PyProof.Rows L2
/-! ### moves done: cell by cell -/
def Mv.in (m : Mv) (e : Nat) : Prop := m.to ≤ e ∧ e < m.to + m.len
theorem laid_get {xs zs : List V} {to e : Nat} (h : to + zs.length ≤ xs.length) : (laidL xs to zs)[e]? = if to ≤ e ∧ e < to + zs.length then zs[e - to]? else xs[e]? := by
  rw [← laid_put h, putN_get]
  by_cases c : to ≤ e ∧ e < to + zs.length
  · rw [if_pos c, if_pos (by omega), List.getD_eq_getElem?_getD, List.getElem?_eq_getElem (by omega)]
    rfl
  · rw [if_neg c, if_neg (by omega)]
theorem step_get {once : Bool} {xs now : List V} {m : Mv} {e : Nat} (el : now.length = xs.length) (h : MvOk xs.length m) : (stepM once xs now m)[e]? = if m.to ≤ e ∧ e < m.to + m.len then (m.some (if once then xs else now))[e - m.to]? else now[e]? := by
  have h2 : (if once then xs else now).length = xs.length := by split <;> first | rfl | exact el
  have h3 := some_len (xs := if once then xs else now) (m := m) (by rw [h2]; exact h.h)
  unfold stepM
  rw [laid_get (by rw [h3, el]; exact h.t), h3]
theorem inW_false {ms : List Mv} {c j : Nat} {m : Mv} (h : inW ms c = false) (hm : ms[j]? = some m) : ¬ (m.to ≤ c ∧ c < m.to + m.len) := by
  intro z
  have : inW ms c = true := List.any_eq_true.mpr ⟨m, List.mem_of_getElem? hm, by rw [Bool.and_eq_true, decide_eq_true_eq, decide_eq_true_eq]; exact z⟩
  rw [h] at this
  cases this
theorem inW_true {ms : List Mv} {c : Nat} (h : inW ms c = true) : ∃ (j : Nat) (m : Mv), ms[j]? = some m ∧ m.to ≤ c ∧ c < m.to + m.len := by
  obtain ⟨m, hm, e⟩ := List.any_eq_true.mp h
  rw [Bool.and_eq_true, decide_eq_true_eq, decide_eq_true_eq] at e
  obtain ⟨j, hj, e2⟩ := List.mem_iff_getElem.mp hm
  exact ⟨j, m, by rw [List.getElem?_eq_getElem hj, e2], e⟩
section
variable {once : Bool} {xs : List V} {ms : List Mv} {N : Nat}
theorem runT_len (ok : ∀ m ∈ ms, MvOk xs.length m) (i : Nat) : (runM once xs (ms.take i)).length = xs.length := run_len fun m hm => ok m (List.mem_of_mem_take hm)
/-- a cell that nobody writes from i on stays -/
theorem run_keep (ok : ∀ m ∈ ms, MvOk xs.length m) {i e : Nat} : ∀ n, i ≤ n → (∀ (j : Nat) (m : Mv), i ≤ j → j < n → ms[j]? = some m → ¬ (m.to ≤ e ∧ e < m.to + m.len)) → (runM once xs (ms.take n))[e]? = (runM once xs (ms.take i))[e]? := by
  intro n
  induction n with
  | zero => intro h _; rw [Nat.le_zero.mp h]
  | succ n ih =>
    intro h hno
    by_cases e0 : i = n + 1
    · rw [e0]
    have ih := ih (by omega) fun j m h1 h2 => hno j m h1 (by omega)
    rw [← ih]
    cases hm : ms[n]? with
    | none => rw [List.take_of_length_le (by have := List.getElem?_eq_none_iff.mp hm; omega), List.take_of_length_le (List.getElem?_eq_none_iff.mp hm)]
    | some m =>
      rw [run_take hm, step_get (runT_len ok n) (ok m (List.mem_of_getElem? hm)), if_neg (hno n m (by omega) (by omega) hm)]
theorem run_unw (ok : ∀ m ∈ ms, MvOk xs.length m) {i e : Nat} (h : inW (ms.take i) e = false) : (runM once xs (ms.take i))[e]? = xs[e]? := by
  have := run_keep (once := once) ok (i := 0) (e := e) i (Nat.zero_le _) fun j m _ h2 hm => inW_false h (j := j) (by rw [List.getElem?_take_of_lt h2]; exact hm)
  rw [this, List.take_zero]
  rfl
theorem apart_at (ap : Apart ms) {i j : Nat} {m k : Mv} (hi : ms[i]? = some m) (hj : ms[j]? = some k) (hne : i ≠ j) : m.to + m.len ≤ k.to ∨ k.to + k.len ≤ m.to := by
  obtain ⟨h1, e1⟩ := List.getElem?_eq_some_iff.mp hi
  obtain ⟨h2, e2⟩ := List.getElem?_eq_some_iff.mp hj
  rw [← e1, ← e2]
  rcases Nat.lt_or_gt_of_ne hne with h | h
  · exact List.pairwise_iff_getElem.mp ap i j h1 h2 h
  · exact (List.pairwise_iff_getElem.mp ap j i h2 h1 h).symm
/-- what the one that writes a cell brings -/
theorem run_at (ok : ∀ m ∈ ms, MvOk xs.length m) (ap : Apart ms) {i e n : Nat} {m : Mv} (hm : ms[i]? = some m) (h1 : m.to ≤ e) (h2 : e < m.to + m.len) (hn : i < n) : (runM once xs (ms.take n))[e]? = (m.some (if once then xs else runM once xs (ms.take i)))[e - m.to]? := by
  rw [run_keep ok (i := i + 1) n (by omega) fun j k hj _ hk => by have := apart_at ap hm hk (by omega); omega, run_take hm, step_get (runT_len ok i) (ok m (List.mem_of_getElem? hm)), if_pos ⟨h1, h2⟩]
end
theorem sp_none {ms : List Mv} : ∀ {n : Nat}, spF ms n = none → ∀ (j : Nat) (m : Mv), j < n → ms[j]? = some m → ∀ c ∈ rdL m, inW (ms.take j) c = false
  | 0, _, j, m, h, _ => absurd h (Nat.not_lt_zero _)
  | n + 1, h, j, m, hj, hm => by
    unfold spF at h
    cases e : spF ms n with
    | some r => rw [e] at h; cases h
    | none =>
      rw [e] at h
      by_cases ej : j = n
      · subst ej
        rw [hm] at h
        have h2 : firstIn (ms.take j) m = none := by
          cases e2 : firstIn (ms.take j) m with
          | none => rfl
          | some c => simp only [e2] at h; cases h
        intro c hc
        unfold firstIn at h2
        have := List.find?_eq_none.mp h2 c hc
        cases e3 : inW (ms.take j) c with
        | false => rfl
        | true => exact absurd e3 this
      · exact sp_none e j m (by omega) hm
theorem sp_some {ms : List Mv} : ∀ {n : Nat} {k c : Nat}, spF ms n = some (k, c) → ∃ m, k < n ∧ spF ms k = none ∧ ms[k]? = some m ∧ c ∈ rdL m ∧ inW (ms.take k) c = true
  | 0, _, _, h => by cases h
  | n + 1, k, c, h => by
    unfold spF at h
    cases e : spF ms n with
    | some r =>
      rw [e] at h
      cases h
      obtain ⟨m, h1, h2⟩ := sp_some e
      exact ⟨m, by omega, h2⟩
    | none =>
      rw [e] at h
      cases hm : ms[n]? with
      | none => rw [hm] at h; cases h
      | some m =>
        rw [hm] at h
        cases e2 : firstIn (ms.take n) m with
        | none => simp only [e2] at h; cases h
        | some c2 =>
          simp only [e2, Option.map_some, Option.some.injEq, Prod.mk.injEq] at h
          obtain ⟨rfl, rfl⟩ := h
          unfold firstIn at e2
          exact ⟨m, by omega, e, hm, List.mem_of_find?_eq_some e2, List.find?_some e2⟩
/-- nothing spoilt: one by one is at once -/
theorem runs_same {xs : List V} {ms : List Mv} (ok : ∀ m ∈ ms, MvOk xs.length m) (h : spF ms ms.length = none) : runM false xs ms = runM true xs ms := by
  have key : ∀ n, n ≤ ms.length → runM false xs (ms.take n) = runM true xs (ms.take n) := by
    intro n
    induction n with
    | zero => intro _; rfl
    | succ n ih =>
      intro hn
      obtain ⟨m, hm⟩ : ∃ m, ms[n]? = some m := ⟨_, List.getElem?_eq_getElem (by omega)⟩
      rw [run_take hm, run_take hm, ih (by omega)]
      show laidL _ m.to (m.some (runM true xs (ms.take n))) = laidL _ m.to (m.some xs)
      congr 1
      cases m with
      | put to s => rfl
      | copy to a k =>
        have hno := sp_none h n _ (by omega) hm
        refine List.ext_getElem? fun i => ?_
        show (((runM true xs (ms.take n)).drop a).take k)[i]? = ((xs.drop a).take k)[i]?
        by_cases hi : i < k
        · rw [List.getElem?_take_of_lt hi, List.getElem?_take_of_lt hi, List.getElem?_drop, List.getElem?_drop]
          exact run_unw ok (hno (a + i) (rd_mem.mpr ⟨by show a ≤ a + i; omega, by show a + i < a + (a + k - a); omega⟩))
        · rw [List.getElem?_eq_none (by rw [List.length_take]; omega), List.getElem?_eq_none (by rw [List.length_take]; omega)]
  have := key ms.length (Nat.le_refl _)
  rwa [List.take_length] at this
/-- spoilt: a room that tells -/
theorem runs_tell {xs : List V} {ms : List Mv} {k c : Nat} {u v : V} (ok : ∀ m ∈ ms, MvOk xs.length m) (ap : Apart ms) (h : spF ms ms.length = some (k, c)) (huv : v ≠ u) (hu : xs[c]? = some u) (hv : ∀ i, i < xs.length → i ≠ c → xs[i]? = some v)
    (hp : ∀ (j to : Nat) (s : Str), j < k → ms[j]? = some (.put to s) → to ≤ c → c < to + s.length → sgn s (c - to) ≠ u) :
    ∃ (e : Nat) (y : V), (runM true xs ms)[e]? = some u ∧ (runM false xs ms)[e]? = some y ∧ y ≠ u := by
  obtain ⟨m, hk, hn, hm, hc, hw⟩ := sp_some h
  obtain ⟨j, mj, hj, hj1, hj2⟩ := inW_true hw
  have hjk : j < k := by
    have := (List.getElem?_eq_some_iff.mp hj).1
    rw [List.length_take] at this
    omega
  rw [List.getElem?_take_of_lt hjk] at hj
  have mo := ok m (List.mem_of_getElem? hm)
  have mj_ok := ok mj (List.mem_of_getElem? hj)
  cases m with
  | put to s =>
    obtain ⟨h1, h2⟩ := rd_mem.mp hc
    exact absurd h2 (by show ¬ c < 0 + (0 - 0); omega)
  | copy to a n =>
    obtain ⟨h1, h2⟩ := rd_mem.mp hc
    replace h1 : a ≤ c := h1
    replace h2 : c < a + (a + n - a) := h2
    have hh : a + n ≤ xs.length := mo.h
    have e1 : ∀ once : Bool, (runM once xs ms)[to + (c - a)]? = (if once then xs else runM once xs (ms.take k))[c]? := fun once => by
      have := run_at (once := once) ok ap (e := to + (c - a)) (n := ms.length) hm (by show to ≤ _; omega) (by show _ < to + n; omega) hk
      rw [List.take_length] at this
      rw [this]
      show ((List.drop a _).take n)[to + (c - a) - to]? = _
      rw [List.getElem?_take_of_lt (by omega), List.getElem?_drop]
      congr 1
      omega
    have e2 : (runM false xs (ms.take k))[c]? = (mj.some (runM false xs (ms.take j)))[c - mj.to]? := run_at (once := false) ok ap hj hj1 hj2 hjk
    refine ⟨to + (c - a), ?_⟩
    rw [e1 true, e1 false, if_pos rfl, if_neg (by decide), hu, e2]
    cases mj with
    | put to2 s =>
      refine ⟨sgn s (c - to2), rfl, ?_, hp j to2 s hjk hj hj1 hj2⟩
      show (chars s)[c - to2]? = _
      refine chars_get ?_
      have h4 : c < to2 + s.length := hj2
      have h5 : to2 ≤ c := hj1
      omega
    | copy to2 a2 n2 =>
      have hs : to2 ≠ a2 := mj_ok.s
      replace hj1 : to2 ≤ c := hj1
      replace hj2 : c < to2 + n2 := hj2
      have hh2 : a2 + n2 ≤ xs.length := mj_ok.h
      refine ⟨v, rfl, ?_, huv⟩
      show ((List.drop a2 _).take n2)[c - to2]? = _
      rw [List.getElem?_take_of_lt (by omega), List.getElem?_drop, run_unw ok (sp_none hn j _ hjk hj _ (rd_mem.mpr ⟨by show a2 ≤ _; omega, by show _ < a2 + (a2 + n2 - a2); omega⟩)), hv _ (by omega) (by omega)]
/-! ### lists that are not alike -/
theorem eqvAll_ne : ∀ {ds es : List PyData} {i : Nat} {d e : PyData}, ds[i]? = some d → es[i]? = some e → PyData.eqv d e = false → PyData.eqvAll ds es = false
  | [], _, _, _, _, h, _, _ => by simp at h
  | _ :: _, [], _, _, _, _, h, _ => by simp at h
  | d0 :: ds, e0 :: es, 0, d, e, h1, h2, h => by
    cases h1
    cases h2
    show (PyData.eqv _ _ && _) = false
    rw [h, Bool.false_and]
  | d0 :: ds, e0 :: es, i + 1, d, e, h1, h2, h => by
    show (PyData.eqv _ _ && PyData.eqvAll ds es) = false
    rw [eqvAll_ne (ds := ds) (es := es) (i := i) h1 h2 h, Bool.and_false]
theorem eqv_str {a b : Str} (h : a ≠ b) : PyData.eqv (.str a) (.str b) = false := by
  show (a == b) = false
  cases e : (a == b) with
  | false => rfl
  | true => exact absurd (beq_iff_eq.mp e) h
/-- `!=` of lists that differ at one place -/
theorem n_neA {K : PySem.W.Frag} {H : Hp} {Q : VK} {x y : V} {ds es : List PyData} (h1 : Dp K H x (.list ds)) (h2 : Dp K H y (.list es)) (g1 : good (.list ds) = true) (k1 : (PyData.list ds).depth ≤ 64) (g2 : good (.list es) = true) (k2 : (PyData.list es).depth ≤ 64)
    (h : PyData.eqvAll ds es = false) (q : Q (.bl true) H) : rNeD K x y H Q := ⟨_, _, h1, h2, good_shaped g1 k1, good_shaped g2 k2, by
  have e : PyData.eqv (.list ds) (.list es) = false := h
  rw [e]
  exact q⟩
theorem x_chn {σ : L2.St} {H : Hp} {Q : VK} {ta tb tc : TE} {r1 r2 : R2} (q : ta σ H fun x H1 => tb σ H1 fun y H2 => r1 x y H2 fun z H3 => asBl z H3 fun k H3 => if k = true then tc σ H3 fun w H4 => r2 y w H4 Q else Q (.bl false) H3) : tChain r1 r2 ta tb tc σ H Q := q
theorem eqv_flat {u : Str} {y : V} (h : y ≠ .str u) (hf : FlatV y) : PyData.eqv (.str u) (flatD y) = false := by
  rcases hf with rfl | ⟨i, rfl⟩ | ⟨z, rfl, _, _⟩
  · rfl
  · rfl
  · exact eqv_str fun e => h (by rw [e])
theorem n_eqMv {K : PySem.W.Frag} {H : Hp} {Q : VK} {p r : Addr} {vs : List V} {ms : List Mv} (h1 : SqL K H p vs) (h2 : SqL K H r []) (d : DpAll K H vs (ms.map Mv.d)) (ok : ∀ m ∈ ms, m.sOk) (l : ms.length ≤ 400) (q : Q (.bl (decide (ms = []))) H) : rEqD K (.ref p) (.ref r) H Q := by
  have g := mvs_good ok (by omega)
  refine ⟨_, _, .lst h1 d, .lst h2 .nil, good_shaped g.1 (Nat.le_trans g.2 (by decide)), good_shaped rfl (by decide), ?_⟩
  cases ms <;> exact q
theorem MvsOk.up {N n : Nat} {ms : List Mv} (h : MvsOk N ms) (hn : N ≤ n) : MvsOk n ms := ⟨fun m hm => ⟨(h.ok m hm).s, (h.ok m hm).p, Nat.le_trans (h.ok m hm).t hn, Nat.le_trans (h.ok m hm).h hn⟩, h.ap⟩
/-! ### the text -/
def rOrd : List V → Hp → VK → Prop := fun xs H Q => ∃ x, xs = [.str x] ∧ x.length = 1 ∧ Q (.int (x.cps.getD 0 0 : Nat)) H
theorem clOrd {X : Cx} : CallR X (.builtin "ord") rOrd := call_ord
theorem n_ord {H : Hp} {Q : VK} {c : Nat} (q : Q (.int (c : Nat)) H) : rOrd [.str ⟨#[c]⟩] H Q := ⟨_, rfl, rfl, q⟩
def roomL (n c g : Nat) : List Nat := (List.range n).map fun i => if i = c then g else 97
theorem room_str (n c g : Nat) : chars (Txt.join ⟨#[]⟩ ((roomL n c g).map fun x => (⟨#[x]⟩ : Str))) = (roomL n c g).map fun x => V.str ⟨#[x]⟩ := by
  have e : TL.tl (Txt.join ⟨#[]⟩ ((roomL n c g).map fun x => (⟨#[x]⟩ : Str))) = roomL n c g := by
    rw [TL.join_eq, TL.tl_join]
    have key : ∀ l : List (List Nat), TL.joinL [] l = l.flatten := by
      intro l
      induction l with
      | nil => rfl
      | cons p r ih =>
        cases r with
        | nil => simp [TL.joinL]
        | cons q r =>
          show p ++ ([] ++ TL.joinL [] (q :: r)) = _
          rw [ih, List.nil_append]
          rfl
    show TL.joinL [] _ = _
    rw [key]
    generalize roomL n c g = l
    induction l with
    | nil => rfl
    | cons x l ih =>
      show [x] ++ _ = _
      rw [show ((List.map TL.tl (List.map (fun x => (⟨#[x]⟩ : Str)) l)).flatten) = l from ih]
      rfl
  unfold chars
  rw [show (Txt.join ⟨#[]⟩ ((roomL n c g).map fun x => (⟨#[x]⟩ : Str))).cps.toList = roomL n c g from e]
theorem room_ones {n c g : Nat} (hg : g = 98 ∨ g = 99) : ∀ y ∈ (roomL n c g).map (fun x => (⟨#[x]⟩ : Str)), y.length = 1 ∧ okS y := by
  intro y hy
  obtain ⟨x, hx, rfl⟩ := List.mem_map.mp hy
  obtain ⟨i, _, rfl⟩ := List.mem_map.mp hx
  refine ⟨rfl, ?_⟩
  rcases hg with rfl | rfl <;> (split <;> decide +kernel)
/-- a room that tells -/
structure RoomT (ms : List Mv) (n k c g : Nat) (T : Str) : Prop where
  gg : g = 98 ∨ g = 99
  t : chars T = (roomL n c g).map fun x => V.str ⟨#[x]⟩
  p : ∀ (j to : Nat) (s : Str), j < k → ms[j]? = some (.put to s) → to ≤ c → c < to + s.length → sgn s (c - to) ≠ V.str ⟨#[g]⟩
theorem RoomT.len {ms : List Mv} {n k c g : Nat} {T : Str} (h : RoomT ms n k c g T) : T.length = n := by
  rw [← chars_len, h.t, List.length_map]
  unfold roomL
  rw [List.length_map, List.length_range]
theorem RoomT.ok {ms : List Mv} {n k c g : Nat} {T : Str} (h : RoomT ms n k c g T) : okS T := by
  have e : T.cps.toList = roomL n c g := by
    have := h.t
    unfold chars at this
    have inj : ∀ l1 l2 : List Nat, (l1.map fun c => V.str ⟨#[c]⟩) = (l2.map fun c => V.str ⟨#[c]⟩) → l1 = l2 := by
      intro l1
      induction l1 with
      | nil =>
        intro l2 e
        cases l2 with
        | nil => rfl
        | cons _ _ => cases e
      | cons a l1 ih =>
        intro l2 e
        cases l2 with
        | nil => cases e
        | cons b l2 =>
          obtain ⟨e1, e2⟩ := List.cons.inj e
          cases e1
          rw [ih l2 e2]
    exact inj _ _ this
  show T.cps.all (· < 0x110000) = true
  rw [← Array.all_toList, e, List.all_eq_true]
  intro x hx
  obtain ⟨i, _, rfl⟩ := List.mem_map.mp hx
  rw [decide_eq_true_eq]
  have := h.gg
  split <;> omega
theorem RoomT.at {ms : List Mv} {n k c g i : Nat} {T : Str} (h : RoomT ms n k c g T) (hi : i < n) : (chars T)[i]? = some (V.str ⟨#[if i = c then g else 97]⟩) := by
  rw [h.t]
  unfold roomL
  rw [List.map_map, List.getElem?_map, List.getElem?_range hi]
  rfl
/-! ### promises -/
def roomV (ms : List Mv) (n : Nat) (v : V) : Prop := (spF ms ms.length = none ∧ v = .non) ∨ ∃ k c g T, spF ms ms.length = some (k, c) ∧ v = .str T ∧ RoomT ms n k c g T
def φspoilt_room (K : PySem.W.Frag) : V → V → Hp → VK → Prop := fun x y H Q => ∃ (F : Hp) (a : Addr) (vs : List V) (ms : List Mv) (n : Nat), x = .ref a ∧ y = .int (n : Nat) ∧ Same F H ∧ SqL K F a vs ∧ DpAll K F vs (ms.map Mv.d) ∧ MvsOk n ms ∧ n ≤ 400 ∧
  ∀ v F2 H2, W [] F H F2 H2 [] → roomV ms n v → Q v H2
def φis_text (K : PySem.W.Frag) : V → V → Hp → VK → Prop := fun x y H Q => ∃ (F : Hp) (ms : List Mv) (n k c g : Nat) (T : Str), x = .str T ∧ y = .int (n : Nat) ∧ Same F H ∧ RoomT ms n k c g T ∧ n ≤ 400 ∧
  ∀ F2 H2, W [] F H F2 H2 [] → Q (.bl true) H2
def φright24 (K : PySem.W.Frag) : V → V → V → Hp → VK → Prop := fun x y z H Q => ∃ (F : Hp) (b a : Addr) (vs : List V) (ms : List Mv) (n : Nat), x = .ref b ∧ y = .ref a ∧ z = .int (n : Nat) ∧ St F H [bag K b] ∧ SqL K F a vs ∧ DpAll K F vs (ms.map Mv.d) ∧ MvsOk n ms ∧ 1 ≤ n ∧ n ≤ 400 ∧
  ∀ F2 H2, W [b] F H F2 H2 [bag K b] → Q (.bl true) H2
end R

namespace R
open PySem PySem.Spec PyProof.Rows L2
/-! ### who writes a cell, who goes ahead of whom -/
def wri (ms : List Mv) : Nat → Nat → Option Nat
  | 0, _ => none
  | i + 1, c => match ms[i]? with
    | none => wri ms i c
    | some m => if decide (m.to ≤ c) && decide (c < m.to + m.len) then some i else wri ms i c
def wrt (ms : List Mv) (c : Nat) : Option Nat := wri ms ms.length c
theorem wr_next {ms : List Mv} {i : Nat} {m : Mv} (hm : ms[i]? = some m) (c : Nat) : wri ms (i + 1) c = if decide (m.to ≤ c) && decide (c < m.to + m.len) then some i else wri ms i c := by
  show (match ms[i]? with
    | none => wri ms i c
    | some m => if decide (m.to ≤ c) && decide (c < m.to + m.len) then some i else wri ms i c) = _
  rw [hm]
theorem wr_lt {ms : List Mv} {c b : Nat} : ∀ {i : Nat}, wri ms i c = some b → b < i
  | 0, h => by cases h
  | i + 1, h => by
    unfold wri at h
    cases hm : ms[i]? with
    | none => rw [hm] at h; have := wr_lt (i := i) h; omega
    | some m =>
      rw [hm] at h
      simp only at h
      split at h
      · cases h; omega
      · have := wr_lt (i := i) h; omega
theorem wr_in {ms : List Mv} {c b : Nat} : ∀ {i : Nat}, wri ms i c = some b → ∃ m, ms[b]? = some m ∧ m.to ≤ c ∧ c < m.to + m.len
  | 0, h => by cases h
  | i + 1, h => by
    unfold wri at h
    cases hm : ms[i]? with
    | none => rw [hm] at h; exact wr_in (i := i) h
    | some m =>
      rw [hm] at h
      simp only at h
      split at h
      · rename_i e
        cases h
        rw [Bool.and_eq_true, decide_eq_true_eq, decide_eq_true_eq] at e
        exact ⟨m, hm, e⟩
      · exact wr_in (i := i) h
def hit (ms : List Mv) (a b : Nat) (cs : List Nat) : Bool := !decide (a = b) && cs.any fun c => decide (wrt ms c = some b)
def ed (ms : List Mv) (a b : Nat) : Bool := match ms[a]? with
  | none => false
  | some m => hit ms a b (rdL m)
theorem ed_at {ms : List Mv} {a b : Nat} {m : Mv} (h : ms[a]? = some m) : ed ms a b = hit ms a b (rdL m) := by
  unfold ed
  rw [h]
theorem ed_ne {ms : List Mv} {a b : Nat} (h : ed ms a b = true) : a ≠ b ∧ a < ms.length ∧ b < ms.length := by
  unfold ed at h
  cases hm : ms[a]? with
  | none => rw [hm] at h; cases h
  | some m =>
    rw [hm] at h
    replace h : hit ms a b (rdL m) = true := h
    unfold hit at h
    rw [Bool.and_eq_true] at h
    obtain ⟨h1, h2⟩ := h
    obtain ⟨c, _, hc⟩ := List.any_eq_true.mp h2
    refine ⟨by simpa using h1, (List.getElem?_eq_some_iff.mp hm).1, ?_⟩
    exact wr_lt (of_decide_eq_true hc)
theorem hit_snoc (ms : List Mv) (a b c : Nat) (cs : List Nat) : hit ms a b (cs ++ [c]) = (hit ms a b cs || (!decide (a = b) && decide (wrt ms c = some b))) := by
  unfold hit
  rw [List.any_append]
  cases decide (a = b) <;> simp
def ahT (ms : List Mv) (a b : Nat) : List Nat := (List.range a).filter fun x => ed ms x b
def ah (ms : List Mv) (b : Nat) : List Nat := ahT ms ms.length b
theorem ahT_next (ms : List Mv) (a b : Nat) : ahT ms (a + 1) b = ahT ms a b ++ if ed ms a b then [a] else [] := by
  unfold ahT
  rw [List.range_succ, List.filter_append]
  congr 1
  cases e : ed ms a b <;> simp [e]
theorem ah_mem {ms : List Mv} {a b : Nat} : a ∈ ah ms b ↔ ed ms a b = true := by
  unfold ah ahT
  rw [List.mem_filter, List.mem_range]
  exact ⟨fun h => h.2, fun h => ⟨(ed_ne h).2.1, h⟩⟩
theorem ahT_len (ms : List Mv) (a b : Nat) : (ahT ms a b).length ≤ a := by
  unfold ahT
  have := List.length_filter_le (fun x => ed ms x b) (List.range a)
  rwa [List.length_range] at this
/-! ### the order -/
def cnt (ms : List Mv) (o : List Nat) (b : Nat) : Nat := ((ah ms b).filter fun a => !decide (a ∈ o)).length
def freeL (ms : List Mv) (o : List Nat) : List Nat := (List.range ms.length).filter fun b => !decide (b ∈ o) && decide (cnt ms o b = 0)
def oF (ms : List Mv) : Nat → Option (List Nat)
  | 0 => some []
  | k + 1 => match oF ms k with
    | none => none
    | some o => match freeL ms o with
      | [] => none
      | f :: _ => some (o ++ [f])
theorem oF_stop {ms : List Mv} {o : List Nat} {k : Nat} (h : oF ms k = some o) (hf : freeL ms o = []) : ∀ n, k < n → oF ms n = none := by
  intro n hn
  induction n with
  | zero => omega
  | succ n ih =>
    unfold oF
    by_cases e : k = n
    · subst e
      rw [h]
      simp only [hf]
    · rw [ih (by omega)]
theorem oF_next {ms : List Mv} {o r : List Nat} {k f : Nat} (h : oF ms k = some o) (hf : freeL ms o = f :: r) : oF ms (k + 1) = some (o ++ [f]) := by
  unfold oF
  rw [h]
  simp only [hf]
theorem free_mem {ms : List Mv} {o : List Nat} {f : Nat} (h : f ∈ freeL ms o) : f < ms.length ∧ f ∉ o ∧ cnt ms o f = 0 := by
  unfold freeL at h
  rw [List.mem_filter, List.mem_range, Bool.and_eq_true, decide_eq_true_eq] at h
  exact ⟨h.1, by simpa using h.2.1, h.2.2⟩
/-- an order made so far -/
structure OkO (ms : List Mv) (o : List Nat) (k : Nat) : Prop where
  f : oF ms k = some o
  l : o.length = k
  n : o.Nodup
  b : ∀ x ∈ o, x < ms.length
theorem okO_nil (ms : List Mv) : OkO ms [] 0 := ⟨rfl, rfl, List.nodup_nil, fun _ h => nomatch h⟩
theorem OkO.next {ms : List Mv} {o r : List Nat} {k f : Nat} (h : OkO ms o k) (hf : freeL ms o = f :: r) : OkO ms (o ++ [f]) (k + 1) := by
  have hm := free_mem (ms := ms) (o := o) (f := f) (by rw [hf]; exact List.mem_cons_self ..)
  refine ⟨oF_next h.f hf, by rw [List.length_append, h.l]; rfl, ?_, fun x hx => ?_⟩
  · rw [List.nodup_append]
    refine ⟨h.n, List.nodup_cons.mpr ⟨(fun z => nomatch z), List.nodup_nil⟩, fun a ha b hb e => ?_⟩
    rw [List.mem_singleton.mp hb] at e
    exact hm.2.1 (e ▸ ha)
  · rcases List.mem_append.mp hx with hx | hx
    · exact h.b x hx
    · rw [List.mem_singleton.mp hx]; exact hm.1
theorem sub_len {l m : List Nat} (hn : l.Nodup) (h : ∀ x ∈ l, x ∈ m) : l.length ≤ m.length := by
  induction l generalizing m with
  | nil => exact Nat.zero_le _
  | cons x l ih =>
    obtain ⟨h1, h2⟩ := List.nodup_cons.mp hn
    have hx := h x (List.mem_cons_self ..)
    have := ih (m := m.erase x) h2 fun y hy => by
      have hne : y ≠ x := fun e => h1 (e ▸ hy)
      exact (List.mem_erase_of_ne hne).mpr (h y (List.mem_cons_of_mem _ hy))
    rw [List.length_erase_of_mem hx] at this
    have := List.length_pos_of_mem hx
    rw [List.length_cons]
    omega
theorem left_one {n : Nat} {o : List Nat} (h : o.length < n) : ∃ b, b < n ∧ b ∉ o := by
  refine Classical.byContradiction fun z => ?_
  have := sub_len (l := List.range n) (m := o) List.nodup_range fun x hx => Classical.byContradiction fun y => z ⟨x, List.mem_range.mp hx, y⟩
  rw [List.length_range] at this
  omega
theorem stuck_ahead {ms : List Mv} {o : List Nat} (hf : freeL ms o = []) {b : Nat} (hb : b < ms.length) (hno : b ∉ o) : ∃ a, ed ms a b = true ∧ a ∉ o := by
  cases hc : (ah ms b).filter (fun a => !decide (a ∈ o)) with
  | nil =>
    have : b ∈ freeL ms o := by
      unfold freeL
      rw [List.mem_filter, List.mem_range, Bool.and_eq_true, decide_eq_true_eq]
      exact ⟨hb, by simpa using hno, by unfold cnt; rw [hc]; rfl⟩
    rw [hf] at this
    cases this
  | cons a r =>
    have : a ∈ (ah ms b).filter (fun a => !decide (a ∈ o)) := by rw [hc]; exact List.mem_cons_self ..
    obtain ⟨h1, h2⟩ := List.mem_filter.mp this
    exact ⟨a, ah_mem.mp h1, by simpa using h2⟩
/-- the waiting list -/
structure WtOk (ms : List Mv) (o : List Nat) (wt : List Int) : Prop where
  l : wt.length = ms.length
  d : ∀ (b : Nat) (z : Int), b ∈ o → wt[b]? = some z → z < 0
  u : ∀ b : Nat, b ∉ o → b < ms.length → wt[b]? = some ((cnt ms o b : Nat) : Int)
theorem cnt_nil (ms : List Mv) (b : Nat) : cnt ms [] b = (ah ms b).length := by
  unfold cnt
  rw [List.filter_eq_self.mpr]
  intro a _
  simp
theorem wt_nil {ms : List Mv} {wt : List Int} (hl : wt.length = ms.length) (h : ∀ b : Nat, b < ms.length → wt[b]? = some (((ah ms b).length : Nat) : Int)) : WtOk ms [] wt := ⟨hl, (fun b z h => nomatch h), fun b _ hb => by rw [cnt_nil]; exact h b hb⟩
theorem cnt_snoc (ms : List Mv) {o : List Nat} {f : Nat} (hf : f ∉ o) (b : Nat) : (cnt ms o b : Int) = (cnt ms (o ++ [f]) b : Int) + if ed ms f b then 1 else 0 := by
  unfold cnt
  have key : ∀ l : List Nat, l.Nodup → ((l.filter fun a => !decide (a ∈ o)).length : Int) = ((l.filter fun a => !decide (a ∈ o ++ [f])).length : Int) + if f ∈ l then 1 else 0 := by
    intro l
    induction l with
    | nil => intro _; rfl
    | cons x l ih =>
      intro hn
      obtain ⟨h1, h2⟩ := List.nodup_cons.mp hn
      have ih := ih h2
      by_cases e : x = f
      · subst e
        rw [List.filter_cons_of_pos (by simpa using hf), List.filter_cons_of_neg (by simp), if_pos (List.mem_cons_self ..), List.length_cons]
        rw [if_neg h1] at ih
        omega
      · have e2 : (f ∈ x :: l) ↔ f ∈ l := by
          rw [List.mem_cons]
          exact ⟨fun h => h.resolve_left (Ne.symm e), .inr⟩
        simp only [e2]
        by_cases ex : x ∈ o
        · rw [List.filter_cons_of_neg (by simpa using ex), List.filter_cons_of_neg (by simp [ex])]
          exact ih
        · rw [List.filter_cons_of_pos (by simpa using ex), List.filter_cons_of_pos (by simp [ex, e]), List.length_cons, List.length_cons]
          omega
  have hn : (ah ms b).Nodup := List.Nodup.sublist List.filter_sublist List.nodup_range
  rw [key _ hn]
  simp only [ah_mem]
theorem wt_free {ms : List Mv} {o : List Nat} {wt : List Int} (h : WtOk ms o wt) {b : Nat} {z : Int} (hb : b < ms.length) (hz : wt[b]? = some z) : decide (z = 0) = (!decide (b ∈ o) && decide (cnt ms o b = 0)) := by
  by_cases e : b ∈ o
  · have := h.d b z e hz
    rw [decide_eq_false (by omega), decide_eq_true e]
    rfl
  · have h2 := h.u b e hb
    rw [hz] at h2
    cases h2
    rw [decide_eq_false e, Bool.not_false, Bool.true_and, Bool.eq_iff_iff, decide_eq_true_eq, decide_eq_true_eq]
    omega
/-- the one made free goes behind -/
theorem WtOk.next {ms : List Mv} {o : List Nat} {wt wt2 : List Int} {f : Nat} (h : WtOk ms o wt) (hf : f ∉ o) (hl : wt2.length = ms.length)
    (h2 : ∀ (b : Nat) (z : Int), b < ms.length → (wt.set f (-1))[b]? = some z → wt2[b]? = some (z - if ed ms f b then 1 else 0)) : WtOk ms (o ++ [f]) wt2 := by
  refine ⟨hl, fun b z hb hz => ?_, fun b hb hbn => ?_⟩
  · have hbn : b < ms.length := by
      have := (List.getElem?_eq_some_iff.mp hz).1
      omega
    obtain ⟨z0, hz0⟩ : ∃ z0, (wt.set f (-1))[b]? = some z0 := ⟨_, List.getElem?_eq_getElem (by rw [List.length_set, h.l]; exact hbn)⟩
    have e := h2 b z0 hbn hz0
    rw [hz] at e
    cases e
    have hz1 : z0 < 0 := by
      rw [List.getElem?_set] at hz0
      by_cases ef : f = b
      · rw [if_pos ef, if_pos (by rw [h.l, ef]; exact hbn)] at hz0
        cases hz0
        decide
      · rw [if_neg ef] at hz0
        rcases List.mem_append.mp hb with hb | hb
        · exact h.d b z0 hb hz0
        · exact absurd (List.mem_singleton.mp hb).symm ef
    split <;> omega
  · have hb1 : b ∉ o := fun z => hb (List.mem_append_left _ z)
    have hb2 : f ≠ b := fun e => hb (List.mem_append_right _ (by rw [e]; exact List.mem_singleton.mpr rfl))
    have h3 := h.u b hb1 hbn
    rw [h2 b (cnt ms o b : Nat) hbn (by rw [List.getElem?_set_ne hb2]; exact h3), cnt_snoc ms hf b]
    congr 1
    omega
/-! ### rings -/
structure RingOk (ms : List Mv) (rs : List Nat) : Prop where
  l : 2 ≤ rs.length
  n : rs.Nodup
  b : ∀ x ∈ rs, x < ms.length
  e : ∀ (k : Nat) (x y : Nat), rs[k]? = some x → rs[(k + rs.length - 1) % rs.length]? = some y → ed ms y x = true
/-- a path ahead -/
structure PathOk (ms : List Mv) (o ps : List Nat) : Prop where
  n : ps.Nodup
  b : ∀ x ∈ ps, x < ms.length ∧ x ∉ o
  e : ∀ (k : Nat) (x y : Nat), ps[k]? = some x → ps[k + 1]? = some y → ed ms y x = true
theorem PathOk.next {ms : List Mv} {o ps : List Nat} {a l : Nat} (h : PathOk ms o ps) (hl : ps[ps.length - 1]? = some l) (hp : 1 ≤ ps.length) (he : ed ms a l = true) (ha : a ∉ o) (hn : a ∉ ps) : PathOk ms o (ps ++ [a]) := by
  refine ⟨?_, fun x hx => ?_, fun k x y hx hy => ?_⟩
  · rw [List.nodup_append]
    refine ⟨h.n, List.nodup_cons.mpr ⟨(fun z => nomatch z), List.nodup_nil⟩, fun x hx y hy e => ?_⟩
    rw [List.mem_singleton.mp hy] at e
    exact hn (e ▸ hx)
  · rcases List.mem_append.mp hx with hx | hx
    · exact h.b x hx
    · rw [List.mem_singleton.mp hx]; exact ⟨(ed_ne he).2.1, ha⟩
  · by_cases hk : k + 1 < ps.length
    · rw [List.getElem?_append_left (by omega)] at hx
      rw [List.getElem?_append_left hk] at hy
      exact h.e k x y hx hy
    · have hlt := (List.getElem?_eq_some_iff.mp hy).1
      rw [List.length_append] at hlt
      have hk2 : k + 1 = ps.length := by
        have : k + 1 < ps.length + 1 := hlt
        omega
      rw [List.getElem?_append_left (by omega)] at hx
      rw [List.getElem?_append_right (by omega), hk2, Nat.sub_self] at hy
      cases hy
      rw [show k = ps.length - 1 by omega, hl] at hx
      cases hx
      exact he
theorem PathOk.ring {ms : List Mv} {o ps : List Nat} {a l i : Nat} (h : PathOk ms o ps) (hl : ps[ps.length - 1]? = some l) (he : ed ms a l = true) (hi : ps[i]? = some a) : RingOk ms (ps.drop i).reverse := by
  have hil := (List.getElem?_eq_some_iff.mp hi).1
  have hlen : (ps.drop i).reverse.length = ps.length - i := by rw [List.length_reverse, List.length_drop]
  have hat : ∀ k, k < ps.length - i → (ps.drop i).reverse[k]? = ps[ps.length - 1 - k]? := fun k hk => by
    rw [List.getElem?_reverse (by rw [List.length_drop]; exact hk), List.getElem?_drop, List.length_drop]
    congr 1
    omega
  have h2 : 2 ≤ ps.length - i := by
    refine Classical.byContradiction fun z => ?_
    have : i = ps.length - 1 := by omega
    rw [this, hl] at hi
    cases hi
    exact (ed_ne he).1 rfl
  refine ⟨by omega, (List.reverse_perm _).nodup_iff.mpr (h.n.sublist (List.drop_sublist _ _)), fun x hx => (h.b x (List.mem_of_mem_drop (List.mem_reverse.mp hx))).1, fun k x y hx hy => ?_⟩
  have hk := (List.getElem?_eq_some_iff.mp hx).1
  rw [hlen] at hk hy
  rw [hat k hk] at hx
  by_cases e : k = 0
  · subst e
    rw [show (0 + (ps.length - i) - 1) % (ps.length - i) = ps.length - i - 1 by rw [Nat.mod_eq_of_lt (by omega)]; omega, hat _ (by omega), show ps.length - 1 - (ps.length - i - 1) = i by omega, hi] at hy
    cases hy
    rw [Nat.sub_zero, hl] at hx
    cases hx
    exact he
  · rw [show (k + (ps.length - i) - 1) % (ps.length - i) = k - 1 by rw [show k + (ps.length - i) - 1 = (k - 1) + (ps.length - i) by omega, Nat.add_mod_right, Nat.mod_eq_of_lt (by omega)], hat _ (by omega)] at hy
    exact h.e (ps.length - 1 - k) x y hx (by rw [← hy]; congr 1; omega)
theorem path_le {ms : List Mv} {o ps : List Nat} (h : PathOk ms o ps) : ps.length ≤ ms.length := nodup_lt _ _ h.n fun x hx => (h.b x hx).1
/-! ### values -/
def nV' (ks : List Nat) : List V := ks.map fun (k : Nat) => V.int (k : Nat)
theorem inV_nums (c : Nat) (ks : List Nat) : inV (.int (c : Nat)) (ks.map fun (k : Nat) => V.int (k : Nat)) = decide (c ∈ ks) := by
  unfold inV
  rw [Bool.eq_iff_iff, List.any_eq_true, decide_eq_true_eq]
  constructor
  · rintro ⟨v, hv, he⟩
    obtain ⟨k, hk, rfl⟩ := List.mem_map.mp hv
    have : (k : Int) = (c : Int) := of_decide_eq_true he
    have : k = c := by omega
    exact this ▸ hk
  · intro h
    exact ⟨_, List.mem_map.mpr ⟨c, h, rfl⟩, decide_eq_true (rfl : (c : Int) = c)⟩
theorem nums_flat (ks : List Nat) : (ks.map fun (k : Nat) => V.int (k : Nat)).all flatV = true := by
  rw [List.all_eq_true]
  intro v hv
  obtain ⟨k, _, rfl⟩ := List.mem_map.mp hv
  rfl
section
variable {K : PySem.W.Frag} {H : Hp} {Q : VK} {a p r : Addr} {c : Nat} {ks ls : List Nat}
theorem n_inN (hs : SqL K H a (ks.map fun (k : Nat) => V.int (k : Nat))) (q : Q (.bl (decide (c ∈ ks))) H) : rIn K false (.int (c : Nat)) (.ref a) H Q := ⟨a, _, rfl, .inl hs, rfl, nums_flat ks, by
  show Q (.bl (inV _ _)) H
  rw [inV_nums]
  exact q⟩
theorem eqv_nums : ∀ ks ls : List Nat, PyData.eqvAll (ks.map fun (c : Nat) => PyData.int (c : Nat)) (ls.map fun (c : Nat) => PyData.int (c : Nat)) = decide (ks = ls)
  | [], [] => rfl
  | [], _ :: _ => rfl
  | _ :: _, [] => rfl
  | a :: ks, b :: ls => by
    show (((a : Nat) : Int) == ((b : Nat) : Int) && PyData.eqvAll _ _) = _
    rw [eqv_nums ks ls, Bool.eq_iff_iff, Bool.and_eq_true, beq_iff_eq, decide_eq_true_eq, decide_eq_true_eq, List.cons.injEq]
    constructor
    · rintro ⟨h1, h2⟩
      exact ⟨by omega, h2⟩
    · rintro ⟨h1, h2⟩
      exact ⟨by omega, h2⟩
theorem n_neN (h1 : SqL K H p (ks.map fun (c : Nat) => V.int (c : Nat))) (h2 : SqL K H r (ls.map fun (c : Nat) => V.int (c : Nat))) (l1 : ks.length ≤ 100000) (l2 : ls.length ≤ 100000) (q : Q (.bl (!decide (ks = ls))) H) : rNeD K (.ref p) (.ref r) H Q := by
  have g1 := nums_good l1
  have g2 := nums_good l2
  refine ⟨_, _, .lst h1 (dpa_nums ks), .lst h2 (dpa_nums ls), good_shaped g1.1 (Nat.le_trans g1.2 (by decide)), good_shaped g2.1 (Nat.le_trans g2.2 (by decide)), ?_⟩
  show Q (.bl (!PyData.eqvAll _ _)) H
  rw [eqv_nums]
  exact q
theorem n_eqN (h1 : SqL K H p (ks.map fun (c : Nat) => V.int (c : Nat))) (h2 : SqL K H r (ls.map fun (c : Nat) => V.int (c : Nat))) (l1 : ks.length ≤ 100000) (l2 : ls.length ≤ 100000) (q : Q (.bl (decide (ks = ls))) H) : rEqD K (.ref p) (.ref r) H Q := by
  have g1 := nums_good l1
  have g2 := nums_good l2
  refine ⟨_, _, .lst h1 (dpa_nums ks), .lst h2 (dpa_nums ls), good_shaped g1.1 (Nat.le_trans g1.2 (by decide)), good_shaped g2.1 (Nat.le_trans g2.2 (by decide)), ?_⟩
  show Q (.bl (PyData.eqvAll _ _)) H
  rw [eqv_nums]
  exact q
end
/-! ### o[i] -= 1 -/
section
variable {X : Cx} {K : PySem.W.Frag}
theorem pgL (h : X.K = K := by rfl) : PGet X (rIxL K) := by
  subst h
  intro pins s σ H x y v u Q I rx ry h
  obtain ⟨p, xs, i, z, rfl, rfl, hq, he, q⟩ := h
  cases rx
  obtain ⟨t, rfl⟩ := ry
  obtain ⟨its, r, pl, hz⟩ := I.list hq
  obtain ⟨j, h1, h2, h3, h4, h5⟩ := atI_get he
  obtain ⟨w, ew, rw'⟩ := r.get h2
  have hl := r.length
  have hn := line63
  have fin : EP X pins σ Q w s := ⟨z, H, I, rw', q⟩
  by_cases h0 : 0 ≤ i
  · have hj : i.toNat = j := by
      rw [seqIndex_of h0 h5] at h1
      exact Option.some.inj h1
    exact wpAny_getItem_list pl.isList h0 (by omega) (by rw [hj]; simpa using ew) fin
  · have hj : (i + (its.toArray.size : Int)).toNat = j := by
      rw [seqIndex_neg (by omega) h4] at h1
      rw [List.size_toArray, ← hl]
      exact Option.some.inj h1
    exact wpAny_getItem_list_neg pl.isList (by omega) (by rw [List.size_toArray] <;> omega) (by omega) (by rw [hj]; simpa using ew) fin
theorem x_augS {to ti te : TE} {tget : V → V → Hp → VK → Prop} {tip : TIp} {tset : TSet} {D : Ends} {σ : L2.St} {H : Hp} (q : to σ H fun o H1 => ti σ H1 fun i H2 => tget o i H2 fun x H3 => te σ H3 fun y H4 => tip x y H4 fun z H5 => tset o i z H5 fun H6 => D.nx σ H6) : tAugS to ti te tget tip tset D σ H := q
theorem mtIndexN (h : X.K = K := by rfl) : MtR X "list.index" (rIndex K) := by subst h; exact mt_index
end
/-! ### many frozen lists -/
theorem W.tail {M : List Addr} {F0 H0 F H : Hp} {L : List Own} {x : Own} (w : W M F0 H0 F H (x :: L)) : W M F0 H0 F H L :=
  ⟨w.g, fun q hq => w.i q (List.mem_cons_of_mem _ hq), (List.nodup_append.mp (show (x.as ++ ads L).Nodup from w.d)).2.1, fun a ha => w.o a (List.mem_append_right x.as ha)⟩
def fzP (ds : List Addr) (os : List HO) : Own := pur (fun F => ∀ (i : Nat) (d : Addr) (o : HO), ds[i]? = some d → os[i]? = some o → F d = some o) (fun s h i d o h1 h2 => s _ _ (h i d o h1 h2))
theorem W.fzA {M : List Addr} {F0 H0 H : Hp} : ∀ {L : List Own} {ds : List Addr} {os : List HO} {F : Hp}, W M F0 H0 F H (muA ds os :: L) → (∀ d ∈ ds, H0 d = none) → ∃ F2, W M F0 H0 F2 H (fzP ds os :: L)
  | L, [], os, F, w, _ => ⟨F, w.tail.push (fzP [] os) (fun i d o h => by simp at h)⟩
  | L, d :: ds, os, F, w, hn => by
    have m : AllMu F H (d :: ds) os := w.i _ (List.mem_cons_self ..)
    cases os with
    | nil => exact absurd m.1 (by simp)
    | cons o os =>
      have w1 : W M F0 H0 F H (R.mu d o :: muA ds os :: L) := W.take (i := 0) w rfl rfl
      have w2 : W M F0 H0 (upd F d o) H (muA ds os :: L) := w1.fz (.cons .here .nil) (hn d (List.mem_cons_self ..))
      have w3 := w2.push (R.fx d o) upd_same
      have w4 : W M F0 H0 (upd F d o) H (muA ds os :: R.fx d o :: L) := w3.perm (List.Perm.swap ..)
      obtain ⟨F2, w5⟩ := W.fzA w4 fun d hd => hn d (List.mem_cons_of_mem _ hd)
      have f1 : ∀ (i : Nat) (d : Addr) (o : HO), ds[i]? = some d → os[i]? = some o → F2 d = some o := w5.i (fzP ds os) (List.mem_cons_self ..)
      have f2 : F2 d = some o := w5.i (R.fx d o) (List.mem_cons_of_mem _ (List.mem_cons_self ..))
      refine ⟨F2, w5.tail.tail.push (fzP (d :: ds) (o :: os)) (fun i d' o' h1 h2 => ?_)⟩
      cases i with
      | zero => cases h1; cases h2; exact f2
      | succ i => exact f1 i d' o' h1 h2
theorem x_dget2 {td ty tx : TE} {σ : L2.St} {H : Hp} {Q : VK} (q : td σ H fun x H1 => ∃ a, x = .ref a ∧ IsD H1 a ∧ ty σ H1 fun y H2 => tx σ H2 fun z H3 => ∃ o, DGet H3 a y o ∧ Q (o.getD z) H3) : tDGet2 td ty tx σ H Q := q
theorem dpa_ext {K : PySem.W.Frag} {F : Hp} : ∀ {vs : List V} {es : List PyData}, vs.length = es.length → (∀ (i : Nat) (v : V) (e : PyData), vs[i]? = some v → es[i]? = some e → Dp K F v e) → DpAll K F vs es
  | [], [], _, _ => .nil
  | [], _ :: _, h, _ => by simp at h
  | _ :: _, [], h, _ => by simp at h
  | v :: vs, e :: es, h, k => .cons (k 0 v e rfl rfl) (dpa_ext (by simpa using h) fun i v e h1 h2 => k (i + 1) v e h1 h2)
theorem cut_lastN (ks : List Nat) : cutV (ks.map fun (k : Nat) => V.int (k : Nat)) (some (-1)) none = (ks.drop (ks.length - 1)).map fun (k : Nat) => V.int (k : Nat) := by
  unfold cutV
  rw [HT.sIx_none, List.length_map]
  have e : HT.sIx ks.length 0 (some (-1)) = ks.length - 1 := by
    show (if (-1 : Int) < 0 then ((-1 : Int) + (ks.length : Int)).toNat else min (-1 : Int).toNat ks.length) = _
    rw [if_pos (by decide)]
    omega
  rw [e, ← List.map_drop, List.take_of_length_le (by rw [List.length_map, List.length_drop]; exact Nat.le_refl _)]
abbrev lstN (r : List Nat) : HO := .lst (r.map fun (k : Nat) => V.int (k : Nat))
theorem last_hit {ms : List Mv} {a b : Nat} {h : Bool} : (ahT ms a b ++ if h then [a] else []).drop ((ahT ms a b ++ if h then [a] else []).length - 1) = [a] ↔ h = true := by
  cases h with
  | true =>
    refine ⟨fun _ => rfl, fun _ => ?_⟩
    show (ahT ms a b ++ [a]).drop ((ahT ms a b ++ [a]).length - 1) = [a]
    rw [List.length_append, show (ahT ms a b).length + [a].length - 1 = (ahT ms a b).length from rfl, List.drop_left]
  | false =>
    refine ⟨fun z => ?_, fun z => nomatch z⟩
    have hm : a ∈ ahT ms a b ++ if false = true then [a] else [] := List.mem_of_mem_drop (by rw [z]; exact List.mem_singleton.mpr rfl)
    rw [if_neg (by decide), List.append_nil] at hm
    unfold ahT at hm
    have := List.mem_range.mp (List.mem_filter.mp hm).1
    omega
theorem n_indexN {K : PySem.W.Frag} {H : Hp} {Q : VK} {a : Addr} {ks : List Nat} {c j : Nat} (hs : SqL K H a (ks.map fun (k : Nat) => V.int (k : Nat))) (hn : ks.Nodup) (h : ks[j]? = some c) (q : Q (.int (j : Nat)) H) : rIndex K (.ref a) [.int (c : Nat)] H Q := by
  refine ⟨a, _, _, j, .int (c : Nat), rfl, rfl, hs, rfl, nums_flat ks, by rw [List.getElem?_map, h]; rfl, decide_eq_true (rfl : (c : Int) = c), fun m z hm hz => ?_, q⟩
  rw [List.getElem?_map] at hz
  cases e : ks[m]? with
  | none => rw [e] at hz; cases hz
  | some k =>
    rw [e] at hz
    cases hz
    refine decide_eq_false fun z => ?_
    have z2 : k = c := by omega
    subst z2
    have hm2 := (List.getElem?_eq_some_iff.mp e)
    have hj2 := (List.getElem?_eq_some_iff.mp h)
    exact List.pairwise_iff_getElem.mp hn m j hm2.1 hj2.1 hm (hm2.2.trans hj2.2.symm)
theorem filtN_yes {l : List Nat} {x : Nat} {p : Nat → Bool} (h : p x = true) : (l.filter p).map (fun (k : Nat) => V.int (k : Nat)) ++ [V.int (x : Nat)] = ((l ++ [x]).filter p).map fun (k : Nat) => V.int (k : Nat) := by
  rw [List.filter_append, List.filter_cons_of_pos h, List.map_append]
  rfl
theorem filtN_no {l : List Nat} {x : Nat} {p : Nat → Bool} (h : p x = false) : (l.filter p).map (fun (k : Nat) => V.int (k : Nat)) = ((l ++ [x]).filter p).map fun (k : Nat) => V.int (k : Nat) := by
  rw [List.filter_append, List.filter_cons_of_neg (by rw [h]; decide), List.filter_nil, List.append_nil]
theorem wt_pos {ms : List Mv} {o : List Nat} {wt : List Int} (h : WtOk ms o wt) (hf : freeL ms o = []) {b : Nat} {z : Int} (hb : b < ms.length) (hz : wt[b]? = some z) : decide (0 < z) = !decide (b ∈ o) := by
  by_cases e : b ∈ o
  · have := h.d b z e hz
    rw [decide_eq_false (by omega), decide_eq_true e]
    rfl
  · have h2 := h.u b e hb
    rw [hz] at h2
    cases h2
    obtain ⟨a, h3, h4⟩ := stuck_ahead hf hb e
    have : 0 < cnt ms o b := by
      unfold cnt
      exact List.length_pos_of_mem (a := a) (List.mem_filter.mpr ⟨ah_mem.mpr h3, by simpa using h4⟩)
    rw [decide_eq_false e, decide_eq_true (by omega)]
    rfl
theorem ne_nil_cons {α : Type} {l : List α} {x : α} (h : x ∈ l) : ∃ y r, l = y :: r := by
  cases l with
  | nil => cases h
  | cons y r => exact ⟨y, r, rfl⟩
def pickL (ms : List Mv) (o : List Nat) : List Mv := o.filterMap fun k => ms[k]?
theorem pick_snoc {ms : List Mv} {l : List Nat} {k : Nat} {m : Mv} (h : ms[k]? = some m) : pickL ms (l ++ [k]) = pickL ms l ++ [m] := by
  unfold pickL
  rw [List.filterMap_append]
  congr 1
  rw [List.filterMap_cons_some h]
  rfl
/-! ### promises -/
structure WrD (ms : List Mv) (i : Nat) (kvs : List (Key × V)) : Prop where
  v : ∀ c : Nat, valV kvs (.inl (c : Int)) = (wri ms i c).map fun (b : Nat) => V.int (b : Nat)
  l : kvs.length ≤ 400 * i
def ahD (ms : List Mv) : PyData := .list ((List.range ms.length).map fun b => .list ((ah ms b).map fun (a : Nat) => PyData.int (a : Nat)))
structure RowsA (ms : List Mv) (a : Nat) (cs : List Nat) (rows : List (List Nat)) : Prop where
  l : rows.length = ms.length
  r : ∀ b, b < ms.length → rows[b]? = some (ahT ms a b ++ if hit ms a b cs then [a] else [])
def OrdRes (K : PySem.W.Frag) (ms : List Mv) (wd : Str) (us : List V) (F : Hp) : Prop := (wd = Str.ofString "order" ∧ ∃ o, oF ms ms.length = some o ∧ DpAll K F us ((pickL ms o).map Mv.d)) ∨ (wd = Str.ofString "ring" ∧ oF ms ms.length = none ∧ ∃ rs : List Nat, us = (rs.map fun (k : Nat) => V.int (k : Nat)) ∧ RingOk ms rs)
def ordR (K : PySem.W.Frag) (ms : List Mv) (wd : Str) (us : List V) : Own := pur (OrdRes K ms wd us) fun s h => by
  rcases h with ⟨h1, o, h2, h3⟩ | h
  · exact .inl ⟨h1, o, h2, dpa_same s _ _ h3⟩
  · exact .inr h
structure EdD (ms : List Mv) (a : Nat) (kvs : List (Key × V)) (ks : List Nat) : Prop where
  k : kvs.map (·.1) = ks.map fun (b : Nat) => (.inl (b : Int) : Key)
  n : ks.Nodup
  e : ∀ b, b ∈ ks ↔ ed ms a b = true
def EdOk (ms : List Mv) (os : List HO) : Prop := os.length = ms.length ∧ ∀ (a : Nat) (o : HO), os[a]? = some o → ∃ kvs ks, o = .dK kvs ∧ EdD ms a kvs ks
theorem hit_nil (ms : List Mv) (a b : Nat) : hit ms a b [] = false := by unfold hit; rw [List.any_nil, Bool.and_false]
theorem rowsA_nil (ms : List Mv) : RowsA ms 0 [] (List.replicate ms.length []) := ⟨List.length_replicate, fun b hb => by
  rw [List.getElem?_replicate, if_pos hb, hit_nil]
  rfl⟩
theorem RowsA.turn {ms : List Mv} {i : Nat} {m : Mv} {rows : List (List Nat)} (hm : ms[i]? = some m) (h : RowsA ms i (rdL m) rows) : RowsA ms (i + 1) [] rows := ⟨h.l, fun b hb => by
  rw [h.r b hb, ahT_next, ed_at hm, hit_nil, if_neg (show ¬ false = true by decide), List.append_nil]⟩
theorem RowsA.stay {ms : List Mv} {i : Nat} {cs cs2 : List Nat} {rows : List (List Nat)} (h : RowsA ms i cs rows) (hh : ∀ b, b < ms.length → hit ms i b cs2 = hit ms i b cs) : RowsA ms i cs2 rows := ⟨h.l, fun b hb => by rw [hh b hb]; exact h.r b hb⟩
theorem RowsA.add {ms : List Mv} {i b c : Nat} {cs : List Nat} {rows : List (List Nat)} (h : RowsA ms i cs rows) (hw : wrt ms c = some b) (hne : i ≠ b) : RowsA ms i (cs ++ [c]) (rows.set b (ahT ms i b ++ [i])) := ⟨by rw [List.length_set]; exact h.l, fun b2 hb2 => by
  rw [List.getElem?_set, hit_snoc]
  by_cases e : b = b2
  · rw [if_pos e, if_pos (by rw [h.l, e]; exact hb2), ← e, hw]
    have e2 : (!decide (i = b) && decide (some b = some b)) = true := by
      rw [decide_eq_false hne, decide_eq_true rfl]
      rfl
    rw [e2, Bool.or_true, if_pos rfl]
  · rw [if_neg e, hw]
    have e2 : decide (some b = some b2) = false := decide_eq_false (fun z => e (Option.some.inj z))
    rw [e2, Bool.and_false, Bool.or_false]
    exact h.r b2 hb2⟩
structure EdS (ms : List Mv) (i : Nat) (cs : List Nat) (kvs : List (Key × V)) (ks : List Nat) : Prop where
  k : kvs.map (·.1) = ks.map fun (b : Nat) => (.inl (b : Int) : Key)
  n : ks.Nodup
  e : ∀ b, b ∈ ks ↔ hit ms i b cs = true
theorem edS_nil (ms : List Mv) (i : Nat) : EdS ms i [] [] [] := ⟨rfl, List.nodup_nil, fun b => by rw [hit_nil]; exact ⟨fun h => (nomatch h), fun h => (nomatch h)⟩⟩
theorem EdS.len {ms : List Mv} {i : Nat} {cs : List Nat} {kvs : List (Key × V)} {ks : List Nat} (h : EdS ms i cs kvs ks) : kvs.length ≤ ms.length := by
  have h1 : kvs.length = ks.length := by
    have := congrArg List.length h.k
    rwa [List.length_map, List.length_map] at this
  rw [h1]
  refine nodup_lt _ _ h.n fun b hb => ?_
  have := (h.e b).mp hb
  unfold hit at this
  rw [Bool.and_eq_true] at this
  obtain ⟨c, _, hc⟩ := List.any_eq_true.mp this.2
  exact wr_lt (of_decide_eq_true hc)
theorem EdS.stay {ms : List Mv} {i : Nat} {cs cs2 : List Nat} {kvs : List (Key × V)} {ks : List Nat} (h : EdS ms i cs kvs ks) (hh : ∀ b, hit ms i b cs2 = hit ms i b cs) : EdS ms i cs2 kvs ks := ⟨h.k, h.n, fun b => by rw [hh b]; exact h.e b⟩
theorem hit_other {ms : List Mv} {i c : Nat} {cs : List Nat} (h : wrt ms c = none ∨ wrt ms c = some i) (b : Nat) : hit ms i b (cs ++ [c]) = hit ms i b cs := by
  rw [hit_snoc]
  rcases h with h | h
  · rw [h]
    simp
  · rw [h]
    by_cases e : i = b
    · rw [decide_eq_true e]
      simp
    · rw [show decide (some i = some b) = false from decide_eq_false fun z => e (Option.some.inj z)]
      simp
theorem put_any {kvs : List (Key × V)} {ks : List Nat} (hk : kvs.map (·.1) = ks.map fun (b : Nat) => (.inl (b : Int) : Key)) (b : Nat) : (kvs.any fun kv => decide (kv.1 = .inl (b : Int))) = decide (b ∈ ks) := by
  rw [Bool.eq_iff_iff, List.any_eq_true, decide_eq_true_eq]
  constructor
  · rintro ⟨kv, h1, h2⟩
    have h3 : kv.1 ∈ kvs.map (·.1) := List.mem_map.mpr ⟨kv, h1, rfl⟩
    rw [hk, of_decide_eq_true h2] at h3
    obtain ⟨b2, h4, h5⟩ := List.mem_map.mp h3
    have : b2 = b := by have := Sum.inl.inj h5; omega
    exact this ▸ h4
  · intro h
    have h3 : (.inl (b : Int) : Key) ∈ kvs.map (·.1) := by rw [hk]; exact List.mem_map.mpr ⟨b, h, rfl⟩
    obtain ⟨kv, h4, h5⟩ := List.mem_map.mp h3
    exact ⟨kv, h4, decide_eq_true h5⟩
theorem EdS.put {ms : List Mv} {i b c : Nat} {cs : List Nat} {kvs : List (Key × V)} {ks : List Nat} {v : V} (h : EdS ms i cs kvs ks) (hw : wrt ms c = some b) (hne : i ≠ b) : ∃ ks2, EdS ms i (cs ++ [c]) (putK kvs (.inl (b : Int)) v) ks2 := by
  have hh : ∀ b2, hit ms i b2 (cs ++ [c]) = true ↔ hit ms i b2 cs = true ∨ b2 = b := fun b2 => by
    rw [hit_snoc, hw, Bool.or_eq_true]
    by_cases e : b = b2
    · subst e
      simp [hne]
    · rw [show decide (some b = some b2) = false from decide_eq_false fun z => e (Option.some.inj z), Bool.and_false]
      simp [Ne.symm e]
  unfold putK
  rw [put_any h.k]
  by_cases e : b ∈ ks
  · rw [decide_eq_true e, if_pos rfl]
    refine ⟨ks, ?_, h.n, fun b2 => ?_⟩
    · rw [← h.k, List.map_map]
      refine List.map_congr_left fun kv _ => ?_
      show (if kv.1 = _ then _ else kv).1 = kv.1
      split
      · rfl
      · rfl
    · rw [hh, h.e b2]
      exact ⟨.inl, fun z => z.elim id fun z => by rw [z]; exact (h.e b).mp e⟩
  · rw [decide_eq_false e, if_neg (by decide)]
    refine ⟨ks ++ [b], ?_, ?_, fun b2 => ?_⟩
    · rw [List.map_append, List.map_append, h.k]
      rfl
    · rw [List.nodup_append]
      refine ⟨h.n, List.nodup_cons.mpr ⟨(fun z => nomatch z), List.nodup_nil⟩, fun x hx y hy e2 => ?_⟩
      rw [List.mem_singleton.mp hy] at e2
      exact e (e2 ▸ hx)
    · rw [hh, List.mem_append, h.e b2, List.mem_singleton]
theorem EdS.done {ms : List Mv} {i : Nat} {m : Mv} {kvs : List (Key × V)} {ks : List Nat} (hm : ms[i]? = some m) (h : EdS ms i (rdL m) kvs ks) : EdD ms i kvs ks := ⟨h.k, h.n, fun b => by rw [h.e b, ed_at hm]⟩
/-- counting -/
theorem EdD.at {ms : List Mv} {a j : Nat} {kvs : List (Key × V)} {ks : List Nat} {ke : Key} {v : V} (h : EdD ms a kvs ks) (hk : kvs[j]? = some (ke, v)) : ∃ b : Nat, ke = .inl (b : Int) ∧ ks[j]? = some b := by
  have : (kvs.map (·.1))[j]? = some ke := by rw [List.getElem?_map, hk]; rfl
  rw [h.k, List.getElem?_map] at this
  cases e : ks[j]? with
  | none => rw [e] at this; cases this
  | some b => rw [e] at this; cases this; exact ⟨b, rfl, rfl⟩
theorem EdD.len {ms : List Mv} {a : Nat} {kvs : List (Key × V)} {ks : List Nat} (h : EdD ms a kvs ks) : kvs.length = ks.length := by
  have := congrArg List.length h.k
  rwa [List.length_map, List.length_map] at this
theorem EdD.lt {ms : List Mv} {a b : Nat} {kvs : List (Key × V)} {ks : List Nat} (h : EdD ms a kvs ks) (hb : b ∈ ks) : b < ms.length := (ed_ne ((h.e b).mp hb)).2.2
theorem take_mem {ks : List Nat} {j b : Nat} (hn : ks.Nodup) (hj : ks[j]? = some b) : b ∉ ks.take j := by
  intro h
  obtain ⟨i, hi, e⟩ := List.mem_iff_getElem.mp h
  have hl := (List.getElem?_eq_some_iff.mp hj)
  rw [List.length_take] at hi
  have := List.pairwise_iff_getElem.mp hn i j (by omega) hl.1 (by omega)
  rw [List.getElem_take] at e
  exact this (e.trans hl.2.symm)
/-! ### the judge of a ring -/
def gLenSetI (K : PySem.W.Frag) (x : V) (H : Hp) (Q : VK) : Prop := ∃ (l : Addr) (ns : List Int), x = .ref l ∧ SqL K H l (ns.map V.int) ∧ ns.Nodup ∧ ns.length ≤ 4000 ∧ Q (.int (ns.length : Nat)) H
theorem x_lenSetI {K : PySem.W.Frag} {ta : TE} {σ : L2.St} {H : Hp} {Q : VK} (q : ta σ H fun x H1 => gLenSetI K x H1 Q) : RZ.tLenSetI K ta σ H Q := q
theorem nat_ints (ks : List Nat) : (ks.map fun (k : Nat) => V.int (k : Nat)) = (ks.map fun (k : Nat) => (k : Int)).map V.int := by rw [List.map_map]; rfl
theorem n_lenSetN {K : PySem.W.Frag} {H : Hp} {Q : VK} {a : Addr} {ks : List Nat} (hs : SqL K H a (ks.map fun (k : Nat) => V.int (k : Nat))) (hn : ks.Nodup) (hl : ks.length ≤ 4000) (q : Q (.int (ks.length : Nat)) H) : gLenSetI K (.ref a) H Q := by
  refine ⟨a, ks.map fun (k : Nat) => (k : Int), rfl, by rw [← nat_ints]; exact hs, ?_, by rw [List.length_map]; exact hl, by rw [List.length_map]; exact q⟩
  refine List.Pairwise.map _ (fun x y h e => h ?_) hn
  have e2 : (x : Int) = (y : Int) := e
  omega
theorem n_minN {K : PySem.W.Frag} {H : Hp} {Q : VK} {a : Addr} {ks : List Nat} (hs : SqL K H a (ks.map fun (k : Nat) => V.int (k : Nat))) (h0 : 0 < ks.length) (q : ∀ m : Nat, m ∈ ks → Q (.int (m : Nat)) H) : rMin K [.ref a] H Q := by
  refine ⟨a, ks.map fun (k : Nat) => (k : Int), rfl, by rw [← nat_ints]; exact hs, by rw [List.length_map]; exact h0, fun m hm _ => ?_⟩
  obtain ⟨k, hk, rfl⟩ := List.mem_map.mp hm
  exact q k hk
theorem n_maxN {K : PySem.W.Frag} {H : Hp} {Q : VK} {a : Addr} {ks : List Nat} (hs : SqL K H a (ks.map fun (k : Nat) => V.int (k : Nat))) (h0 : 0 < ks.length) (q : ∀ m : Nat, m ∈ ks → Q (.int (m : Nat)) H) : rMax K [.ref a] H Q := by
  refine ⟨a, ks.map fun (k : Nat) => (k : Int), rfl, by rw [← nat_ints]; exact hs, by rw [List.length_map]; exact h0, fun m hm _ => ?_⟩
  obtain ⟨k, hk, rfl⟩ := List.mem_map.mp hm
  exact q k hk
theorem val_some {kvs : List (Key × V)} {ks : List Nat} {b : Nat} (hk : kvs.map (·.1) = ks.map fun (b : Nat) => (.inl (b : Int) : Key)) (hb : b ∈ ks) : (valV kvs (.inl (b : Int))).isSome = true := by
  have h1 : (.inl (b : Int) : Key) ∈ kvs.map (·.1) := by rw [hk]; exact List.mem_map.mpr ⟨b, hb, rfl⟩
  obtain ⟨kv, h2, h3⟩ := List.mem_map.mp h1
  unfold valV
  rw [Option.isSome_map, List.find?_isSome]
  exact ⟨kv, h2, decide_eq_true h3⟩
theorem n_dnin {H : Hp} {Q : VK} {D : Addr} {kvs : List (Key × V)} {b : Nat} (h : H D = some (.dK kvs)) (q : Q (.bl (!(valV kvs (.inl (b : Int))).isSome)) H) : gDNotIn (.ref D) (.int (b : Nat)) H Q := ⟨D, _, rfl, DGet.k (k := .inl (b : Int)) h, q⟩
theorem ring_at {ms : List Mv} {rs : List Nat} (h : RingOk ms rs) {j x : Nat} (hx : rs[j]? = some x) : ∃ y, atI (rs.map fun (k : Nat) => V.int (k : Nat)) ((j : Int) - 1) = some (.int (y : Nat)) ∧ ed ms y x = true := by
  have hj := (List.getElem?_eq_some_iff.mp hx).1
  have hm : (j + rs.length - 1) % rs.length < rs.length := Nat.mod_lt _ (by have := h.l; omega)
  obtain ⟨y, hy⟩ : ∃ y, rs[(j + rs.length - 1) % rs.length]? = some y := ⟨_, List.getElem?_eq_getElem hm⟩
  refine ⟨y, ?_, h.e j x y hx hy⟩
  by_cases e : j = 0
  · subst e
    rw [show (0 + rs.length - 1) % rs.length = rs.length - 1 by rw [Nat.mod_eq_of_lt (by omega)]; omega] at hy
    exact lastS (by rw [List.length_map, List.getElem?_map, hy]; rfl)
  · rw [show (j + rs.length - 1) % rs.length = j - 1 by rw [show j + rs.length - 1 = (j - 1) + rs.length by omega, Nat.add_mod_right, Nat.mod_eq_of_lt (by omega)]] at hy
    rw [show (j : Int) - 1 = ((j - 1 : Nat) : Int) by omega]
    exact atI_nat (by rw [List.getElem?_map, hy]; rfl)
theorem oF_b {ms : List Mv} : ∀ {k : Nat} {o : List Nat}, oF ms k = some o → ∀ x ∈ o, x < ms.length
  | 0, o, h => by cases h; exact fun _ h => nomatch h
  | k + 1, o, h => by
    unfold oF at h
    cases e : oF ms k with
    | none => rw [e] at h; cases h
    | some o2 =>
      rw [e] at h
      simp only at h
      have ih := oF_b e
      cases ef : freeL ms o2 with
      | nil => rw [ef] at h; cases h
      | cons f r =>
        rw [ef] at h
        cases h
        intro x hx
        rcases List.mem_append.mp hx with hx | hx
        · exact ih x hx
        · rw [List.mem_singleton.mp hx]; exact (free_mem (ms := ms) (o := o2) (f := f) (by rw [ef]; exact List.mem_cons_self ..)).1
theorem oF_len {ms : List Mv} : ∀ {k : Nat} {o : List Nat}, oF ms k = some o → o.length = k
  | 0, o, h => by cases h; rfl
  | k + 1, o, h => by
    unfold oF at h
    cases e : oF ms k with
    | none => rw [e] at h; cases h
    | some o2 =>
      rw [e] at h
      simp only at h
      have := oF_len e
      cases ef : freeL ms o2 with
      | nil => rw [ef] at h; cases h
      | cons f r =>
        rw [ef] at h
        cases h
        rw [List.length_append, this]
        rfl
theorem pick_len (ms : List Mv) (o : List Nat) : (pickL ms o).length ≤ o.length := List.length_filterMap_le ..
theorem OrdRes.len {K : PySem.W.Frag} {ms : List Mv} {wd : Str} {us : List V} {F : Hp} (h : OrdRes K ms wd us F) : us.length ≤ ms.length := by
  rcases h with ⟨_, o, h2, h3⟩ | ⟨_, _, rs, rfl, h3⟩
  · have h4 := oF_len h2
    have h5 := pick_len ms o
    rw [dpa_len h3, List.length_map]
    omega
  · rw [List.length_map]
    exact nodup_lt _ _ h3.n h3.b
theorem OrdRes.same {K : PySem.W.Frag} {ms : List Mv} {wd : Str} {us : List V} {F F2 : Hp} (s : Same F F2) (h : OrdRes K ms wd us F) : OrdRes K ms wd us F2 := by
  rcases h with ⟨h1, o, h2, h3⟩ | h
  · exact .inl ⟨h1, o, h2, dpa_same s _ _ h3⟩
  · exact .inr h
theorem pick_mem {ms : List Mv} {o : List Nat} {m : Mv} (h : m ∈ pickL ms o) : m ∈ ms := by
  obtain ⟨k, _, hk⟩ := List.mem_filterMap.mp h
  exact List.mem_of_getElem? hk
theorem order_good {ms : List Mv} (h : ∀ m ∈ ms, m.sOk) (hl : ms.length ≤ 100000) : good (.tuple [.str (Str.ofString "order"), .list (ms.map Mv.d)]) = true ∧ (PyData.tuple [.str (Str.ofString "order"), .list (ms.map Mv.d)]).depth ≤ 3 := by
  have g := mvs_good h hl
  refine ⟨good_tuple (by show 2 ≤ 100000; omega) fun d hd => ?_, depth_tuple (n := 2) fun d hd => ?_⟩
  · rcases List.mem_cons.mp hd with rfl | hd
    · decide +kernel
    · rw [List.mem_singleton.mp hd]; exact g.1
  · rcases List.mem_cons.mp hd with rfl | hd
    · exact Nat.zero_le _
    · rw [List.mem_singleton.mp hd]; exact g.2
/-- all but one -/
def butL (ms : List Mv) (c j : Nat) : List Mv := pickL ms ((List.range j).filter fun k => !decide (k = c))
theorem but_yes {ms : List Mv} {c j : Nat} {m : Mv} (hm : ms[j]? = some m) (h : j ≠ c) : butL ms c (j + 1) = butL ms c j ++ [m] := by
  unfold butL
  rw [List.range_succ, List.filter_append, List.filter_cons_of_pos (by simpa using h), List.filter_nil, pick_snoc hm]
theorem but_no {ms : List Mv} {c j : Nat} (h : j = c) : butL ms c (j + 1) = butL ms c j := by
  unfold butL
  rw [List.range_succ, List.filter_append, List.filter_cons_of_neg (by simpa using h), List.filter_nil, List.append_nil]
theorem but_ok {ms : List Mv} (h : LsOk ms) (c j : Nat) (hj : j ≤ 400) : LsOk (butL ms c j) := ⟨fun m hm => h.1 m (pick_mem hm), by
  have h1 := pick_len ms ((List.range j).filter fun k => !decide (k = c))
  have h2 := List.length_filter_le (fun k => !decide (k = c)) (List.range j)
  rw [List.length_range] at h2
  unfold butL
  omega⟩
def φwriters (K : PySem.W.Frag) : V → Hp → VK → Prop := fun x H Q => ∃ (F : Hp) (a : Addr) (vs : List V) (ms : List Mv), x = .ref a ∧ Same F H ∧ SqL K F a vs ∧ DpAll K F vs (ms.map Mv.d) ∧ LsOk ms ∧
  ∀ p kvs F2 H2, H p = none → W [] F H F2 H2 [mu p (.dK kvs)] → WrD ms ms.length kvs → Q (.ref p) H2
def φaheads (K : PySem.W.Frag) : V → Hp → VK → Prop := fun x H Q => ∃ (F : Hp) (a : Addr) (vs : List V) (ms : List Mv), x = .ref a ∧ Same F H ∧ SqL K F a vs ∧ DpAll K F vs (ms.map Mv.d) ∧ LsOk ms ∧
  ∀ v F2 H2, W [] F H F2 H2 [dat K v (ahD ms)] → Q v H2
def φring_of (K : PySem.W.Frag) : V → V → Hp → VK → Prop := fun x y H Q => ∃ (F : Hp) (wl : Addr) (ms : List Mv) (o : List Nat) (wt : List Int), y = .ref wl ∧ Same F H ∧ Dp K F x (ahD ms) ∧ SqL K F wl (wt.map V.int) ∧ WtOk ms o wt ∧ freeL ms o = [] ∧ o.length < ms.length ∧ ms.length ≤ 400 ∧
  ∀ p (rs : List Nat) F2 H2, H p = none → W [] F H F2 H2 [mu p (.lst (rs.map fun (k : Nat) => V.int (k : Nat)))] → RingOk ms rs → Q (.ref p) H2
def φordered (K : PySem.W.Frag) : V → Hp → VK → Prop := fun x H Q => ∃ (F : Hp) (a : Addr) (vs : List V) (ms : List Mv), x = .ref a ∧ Same F H ∧ SqL K F a vs ∧ DpAll K F vs (ms.map Mv.d) ∧ LsOk ms ∧
  ∀ t p wd us F2 H2, H p = none → W [] F H F2 H2 [fx t (.tup [.str wd, .ref p]), mu p (.lst us), ordR K ms wd us] → Q (.ref t) H2
def φedges25 (K : PySem.W.Frag) : V → Hp → VK → Prop := fun x H Q => ∃ (F : Hp) (a : Addr) (vs : List V) (ms : List Mv), x = .ref a ∧ Same F H ∧ SqL K F a vs ∧ DpAll K F vs (ms.map Mv.d) ∧ LsOk ms ∧
  ∀ p ds os F2 H2, H p = none → W [] F H F2 H2 [mu p (.lst (ds.map V.ref)), muA ds os] → ds.length = ms.length → EdOk ms os → Q (.ref p) H2
def φorder25 (K : PySem.W.Frag) : V → Hp → VK → Prop := fun x H Q => ∃ (F : Hp) (a : Addr) (vs : List V) (ms : List Mv), x = .ref a ∧ Same F H ∧ SqL K F a vs ∧ DpAll K F vs (ms.map Mv.d) ∧ LsOk ms ∧
  ∀ v F2 H2, W [] F H F2 H2 [dat K v (ordD (oF ms ms.length))] → Q v H2
def φwhole (K : PySem.W.Frag) : V → Hp → VK → Prop := fun x H Q => ∃ (F : Hp) (i : Int), x = .int i ∧ Same F H ∧ ∀ F2 H2, W [] F H F2 H2 [] → Q (.bl true) H2
def φring_right (K : PySem.W.Frag) : V → V → Hp → VK → Prop := fun x y H Q => ∃ (F : Hp) (pe p : Addr) (ds : List Addr) (os : List HO) (ms : List Mv) (rs : List Nat), x = .ref pe ∧ y = .ref p ∧ Same F H ∧ SqL K F pe (ds.map V.ref) ∧ (∀ (i : Nat) (d : Addr) (o : HO), ds[i]? = some d → os[i]? = some o → F d = some o) ∧ ds.length = ms.length ∧ EdOk ms os ∧ SqL K F p (rs.map fun (k : Nat) => V.int (k : Nat)) ∧ RingOk ms rs ∧ ms.length ≤ 400 ∧
  ∀ F2 H2, W [] F H F2 H2 [] → Q (.bl true) H2
def φright25 (K : PySem.W.Frag) : V → V → Hp → VK → Prop := fun x y H Q => ∃ (F : Hp) (a t p : Addr) (vs us : List V) (ms : List Mv) (wd : Str), x = .ref a ∧ y = .ref t ∧ Same F H ∧ SqL K F a vs ∧ DpAll K F vs (ms.map Mv.d) ∧ LsOk ms ∧ SqT K F t [.str wd, .ref p] ∧ SqL K F p us ∧ OrdRes K ms wd us F ∧
  ∀ F2 H2, W [] F H F2 H2 [] → Q (.bl true) H2
end R

namespace R
open PySem PySem.Spec PyProof.Rows L2
/-- a walk over a list within a comprehension (the context's K by its name) -/
theorem piL {X : Cx} {K : PySem.W.Frag} {tg l : Expr} {tl : TE} (hl : PE X l tl) (h : X.K = K := by rfl) : PI X tg l (iList K tl) := by subst h; exact pi_list hl
/-- a tuple as a comprehension's target -/
theorem pgT {X : Cx} {K : PySem.W.Frag} {es : List Expr} {k n : Nat} {t : TGs} {pos : Pos} (hc : X.calm = true) (h : PGs X es t) (hK : X.K = K := by rfl)
    (hn : (assignEach es X.env).length = n := by rfl) (hst : (assignEach es X.env).findIdx? (·.1) = none := by rfl) : PG X (.Tuple es k pos) (gTup K n t) := by subst hK; exact pg_tup hc h hn hst
/-! ### sorted(xs) of data, and < of data -/
def rSortA (K : PySem.W.Frag) : List V → Hp → VK → Prop := fun vs H Q => ∃ (a : Addr) (xs : List V) (ds : List PyData), vs = [V.ref a] ∧ SqL K H a xs ∧ DpAll K H xs ds ∧ PySem.W.AllAlike ds ∧ PySem.W.Sortable ds ∧ (∀ d ∈ ds, d.depth ≤ 4) ∧
  ∀ (zs : List (V × PyData)) (p : Addr), zs.Perm (xs.zip ds) → zs.Pairwise (fun x y => PySem.W.dataLt y.2 x.2 = false) → H p = none → Q (.ref p) (upd H p (.lst (zs.map Prod.fst)))
theorem dpA_len {K : PySem.W.Frag} {H : Hp} : ∀ {xs : List V} {ds : List PyData}, DpAll K H xs ds → xs.length = ds.length
  | _, _, .nil => rfl
  | _, _, .cons _ h => by rw [List.length_cons, List.length_cons, dpA_len h]
theorem each_vals : ∀ {xs : List V} {ds : List PyData} {its : List Value}, Vals xs its → xs.length = ds.length → PySem.W.EachIs (fun v (b : V × PyData) => RelV b.1 v) its (xs.zip ds)
  | _, [], _, .nil, _ => .nil
  | _, [], _, .cons _ _, h => by cases h
  | _, _ :: _, _, .nil, h => by cases h
  | _, d :: ds, _, .cons r t, h => .cons r (each_vals t (Nat.succ.inj h))
theorem each_reads {X : Cx} {pins : List (Addr × Obj)} {σ : L2.St} {H : Hp} {s : Shared} (I : Inv X pins σ H s) : ∀ {xs : List V} {ds : List PyData} {its : List Value}, Vals xs its → DpAll X.K H xs ds → PySem.W.EachIs (fun v (b : V × PyData) => ∃ as, Reads s.heap v b.2 as) its (xs.zip ds)
  | _, _, _, .nil, .nil => .nil
  | _, _, _, .cons r t, .cons d h => .cons (Dp.reads I _ _ _ d r) (each_reads I t h)
theorem vals_each : ∀ {zs : List (V × PyData)} {out : List Value}, PySem.W.EachIs (fun v (b : V × PyData) => RelV b.1 v) out zs → Vals (zs.map Prod.fst) out
  | _, _, .nil => .nil
  | _, _, .cons r t => .cons r (vals_each t)
theorem crSortA {X : Cx} {K : PySem.W.Frag} (hu : X.A.units + 64 < cLine) (hK : X.K = K := by rfl) : CallR X (.builtin "sorted") (rSortA K) := by
  subst hK
  intro pins s σ H vs us Q I r h
  obtain ⟨a, xs, ds, rfl, hs, hD, hal, hk, hd, q⟩ := h
  obtain ⟨its, rv, hl, hz⟩ := I.list hs
  obtain ⟨u, rfl, ru⟩ := vals1 r
  obtain rfl : u = Value.ref a := ru
  have hlen := dpA_len hD
  have e2 : (xs.zip ds).map Prod.snd = ds := List.map_snd_zip (by omega)
  have hil : its.length = xs.length := rv.length.symm
  refine PySem.W.sorted_data (enc := (Prod.snd : V × PyData → PyData)) (bs := xs.zip ds) (R := fun v (b : V × PyData) => RelV b.1 v) hl.isList (each_vals rv hlen) (each_reads I rv hD) (by rw [e2]; exact hal) (by rw [e2]; exact hk) (by rw [List.length_zip]; omega)
    (fun b hb => by have := hd b.2 (by rw [← e2]; exact List.mem_map.mpr ⟨b, hb, rfl⟩); omega) fun out hol ho => ?_
  obtain ⟨n, hn⟩ := sortedAll_at s.heap its out.toArray
  have hp : H (s.heap.objs.size + 1) = none := I.hok.fresh (Nat.le_succ _)
  refine ⟨.ref (s.heap.objs.size + 1), _, I.laid (t' := s.toks) (a := s.heap.objs.size + 1) (o := .lst (((xs.zip ds).mergeSort (PySem.W.dataLe false Prod.snd)).map Prod.fst)) (fun b o e => sortedAll_old e) (Nat.le_succ _) ⟨?_, out, n, vals_each ho, hn⟩, rfl, q _ _ (List.mergeSort_perm _ _) ?_ hp⟩
  · rw [List.length_map, List.length_mergeSort, List.length_zip]
    omega
  · refine (PySem.W.sort_pairwise (PySem.W.sortLe_total _ false _) _).imp fun {x y} h => ?_
    have h2 : (!PySem.W.dataLt y.2 x.2) = true := h
    simpa using h2
def rLtD (K : PySem.W.Frag) : R2 := fun x y H Q => ∃ da db, Dp K H x da ∧ Dp K H y db ∧ PySem.W.alike da db = true ∧ da ≠ .none ∧ da.depth ≤ 60 ∧ Q (.bl (PySem.W.dataLt da db)) H
theorem opLtD {X : Cx} {K : PySem.W.Frag} (hu : X.A.units + 64 < cLine) (hK : X.K = K := by rfl) : OpR X (compareOp .Lt) (rLtD K) := by
  subst hK
  intro pins s σ H x y v u Q I rx ry h
  obtain ⟨da, db, hx, hy, hal, hn, hd, q⟩ := h
  obtain ⟨as, r1⟩ := Dp.reads I da x v hx rx
  obtain ⟨bs, r2⟩ := Dp.reads I db y u hy ry
  have z : wpAny (model X.prog X.w) X.A (compareOp .Lt v u) (EP X pins σ Q) X.xe s := PySem.W.rcLt_alike da db X.A s v u as bs r1 r2 hal hn (by have := Nat.min_le_left da.depth db.depth; omega) X.prog X.w X.xe (EP X pins σ Q) ⟨.bl _, H, I, rfl, q⟩
  exact z
end R

namespace R
open PySem PySem.Spec PyProof.Rows L2
/-! ### xs[a:b] = ys -/
def setSlG (v x : V) (l u : Option Int) (H : Hp) (Z : Hp → Prop) : Prop := ∃ (p b : Addr) (xs ys : List V) (a c : Int), v = .ref b ∧ x = .ref p ∧ l = some a ∧ u = some c ∧ H p = some (.lst xs) ∧ H b = some (.lst ys) ∧ p ≠ b ∧ 0 ≤ a ∧ a ≤ c ∧ c ≤ xs.length ∧ xs.length + ys.length ≤ sizeLine ∧ Z (upd H p (.lst (xs.take a.toNat ++ ys ++ xs.drop c.toNat)))
def tSetSl (tv to : TE) (tl th : TO) : TS := fun D σ H => tv σ H fun v H1 => to σ H1 fun x H2 => tl σ H2 fun l H3 => th σ H3 fun u H4 => setSlG v x l u H4 fun H5 => D.nx σ H5
theorem ps_setSl {X : Cx} {o value : Expr} {lo hi : Option Expr} {p2 pos pos' : Pos} {tv to : TE} {tl th : TO} (hv : PE X value tv) (ho : PE X o to) (hl : PO X lo tl) (hu : PO X hi th)
    (hs : swapsWith value (some (.Subscript o (.Slice lo hi none p2) pos')) pos.line X.env = pure false) : PS X (.Assign [.Subscript o (.Slice lo hi none p2) pos'] value pos) (tSetSl tv to tl th) := by
  refine ⟨fun pins s σ H D I h => ?_⟩
  refine wpAny_Assign_Subscript (thn (hv.run pins s σ H _ I h) fun r s1 ⟨v, H1, I1, rv, q1⟩ => thn (ho.run pins s1 σ H1 _ I1 q1) fun w s2 ⟨x, H2, I2, rx, q2⟩ =>
    wpAny_Slice (thn (hl.run pins s2 σ H2 _ I2 q2) fun vl s3 ⟨l, H3, I3, pl, q3⟩ => thn (hu.run pins s3 σ H3 _ I3 q3) fun vu s4 ⟨u, H4, I4, pu, q4⟩ => ?_)) hs
  rw [evalPart_none]
  refine wpAny_pure ?_
  have I5 : Inv X pins σ H4 { s4 with heap := s4.heap.push { cls := .type "slice", data := .fields #[vl, vu, .none] } } := I4.kept (t' := s4.toks) fun b ob q => Heap.get?_push_of_some _ q
  obtain ⟨p, b, xs, ys, a, c, rfl, rfl, rfl, rfl, hp, hb, hne, h0, hac, hc, hz, q⟩ := q4
  obtain rfl : r = Value.ref b := rv
  obtain rfl : w = Value.ref p := rx
  cases pl with
  | int a ta =>
    cases pu with
    | int c tc => exact set_slice I5 hp hb hne (Heap.IsSliceOf.new ..) ⟨ta, rfl⟩ ⟨tc, rfl⟩ h0 hac hc hz fun s' I' => ⟨σ, _, I', q⟩
section
variable {K : PySem.W.Frag} {M : List Addr} {F0 H0 F H : Hp} {L Rs : List Own} {p b : Addr} {xs ys : List V}
theorem x_setSl {tv to : TE} {tl th : TO} {D : Ends} {σ : L2.St} (q : tv σ H fun v H1 => to σ H1 fun x H2 => tl σ H2 fun l H3 => th σ H3 fun u H4 => setSlG v x l u H4 fun H5 => D.nx σ H5) : tSetSl tv to tl th D σ H := q
theorem n_setSl {a c : Nat} {Z : Hp → Prop} (w : W M F0 H0 F H L) (k : Pick L [mu p (.lst xs), mu b (.lst ys)] Rs) (hac : a ≤ c) (hc : c ≤ xs.length) (hz : xs.length + ys.length ≤ sizeLine)
    (h : ∀ H2, W M F0 H0 F H2 (mu p (.lst (xs.take a ++ ys ++ xs.drop c)) :: mu b (.lst ys) :: Rs) → Z H2) : setSlG (.ref b) (.ref p) (some (a : Nat)) (some (c : Nat)) H Z := by
  have w2 := w.to k
  have h1 : H p = some (.lst xs) := w2.at_ (List.mem_cons_self ..)
  have h2 : H b = some (.lst ys) := w2.at_ (List.mem_cons_of_mem _ (List.mem_cons_self ..))
  have hd := w2.d
  have hne : p ≠ b := fun e => by
    subst e
    have : (p :: p :: []).Nodup := hd
    exact absurd (List.mem_singleton.mpr rfl) (List.nodup_cons.mp this).1
  refine ⟨p, b, xs, ys, a, c, rfl, rfl, rfl, rfl, h1, h2, hne, by omega, by omega, by omega, hz, ?_⟩
  have w3 : W M F0 H0 F H (mu p (.lst xs) :: mu b (.lst ys) :: Rs) := w.perm k.perm
  rw [show ((a : Nat) : Int).toNat = a from rfl, show ((c : Nat) : Int).toNat = c from rfl]
  exact h _ (w3.wr (.cons .here .nil))
end
end R

namespace R
open PySem PySem.Spec PyProof.Rows L2
/-! ### rows of a plan, judged -/
inductive JR where
  | put (to : Int) (s : Str)
  | keep (to f m : Int)
  | lay (to f m : Int)
  | copy (to f m : Int)
def JR.d : JR → PyData
  | .put to s => .tuple [.str "put", .int to, .str s]
  | .keep to f m => .tuple [.str "keep", .int to, .int f, .int m]
  | .lay to f m => .tuple [.str "lay", .int to, .int f, .int m]
  | .copy to f m => .tuple [.str "copy", .int to, .int f, .int m]
def JR.sOk : JR → Prop
  | .put _ s => okS s ∧ s.length ≤ 1000
  | _ => True
def JR.to : JR → Int
  | .put to _ => to
  | .keep to _ _ => to
  | .lay to _ _ => to
  | .copy to _ _ => to
def JR.isK : JR → Bool
  | .keep _ _ _ => true
  | _ => false
def heldV (xs : List V) (f m : Int) : Option (List V) := if f < 0 ∨ m < 1 ∨ (xs.length : Int) < f + m then none else if inV .non ((xs.drop f.toNat).take m.toNat) = true then none else some ((xs.drop f.toNat).take m.toNat)
def whatV (cs ss : List V) : JR → Option (List V)
  | .put _ s => if s.length = 0 then none else some (chars s)
  | .lay _ f m => heldV ss f m
  | .copy to f m => if to = f then none else heldV cs f m
  | .keep _ f m => heldV cs f m
def goalV (r : JR) (cs ss : List V) : List V := if r.isK then ss else cs
def doneV (r : JR) (cs ss : List V) : Option (List V × List V) := match whatV cs ss r with
  | none => none
  | some ys => if r.to < 0 ∨ ((goalV r cs ss).length : Int) < r.to + (ys.length : Int) then none else
    some (if r.isK then (cs, laidL ss r.to.toNat ys) else (laidL cs r.to.toNat ys, ss))
def stepsJ : List JR → List V × List V → Option (List V × List V)
  | [], st => some st
  | r :: rs, st => (doneV r st.1 st.2).bind (stepsJ rs)
theorem steps_app : ∀ (a b : List JR) (st : List V × List V), stepsJ (a ++ b) st = (stepsJ a st).bind (stepsJ b)
  | [], _, _ => rfl
  | r :: a, b, st => by
    show (doneV r st.1 st.2).bind (stepsJ (a ++ b)) = ((doneV r st.1 st.2).bind (stepsJ a)).bind (stepsJ b)
    cases doneV r st.1 st.2 with
    | none => rfl
    | some s2 => exact steps_app a b s2
theorem steps_take {rows : List JR} {i : Nat} {r : JR} {st s2 : List V × List V} (hr : rows[i]? = some r) (h : stepsJ (rows.take i) st = some s2) : stepsJ (rows.take (i + 1)) st = doneV r s2.1 s2.2 := by
  rw [List.take_add_one, hr, steps_app, h]
  show (doneV r s2.1 s2.2).bind (stepsJ []) = _
  cases doneV r s2.1 s2.2 <;> rfl
/-- what a room is: flat, and how long -/
theorem held_len {xs ys : List V} {f m : Int} (h : heldV xs f m = some ys) : 1 ≤ ys.length ∧ ys.length ≤ xs.length := by
  unfold heldV at h
  split at h
  · cases h
  · split at h
    · cases h
    · cases h
      rw [List.length_take, List.length_drop]
      omega
theorem held_mem {xs ys : List V} {f m : Int} (h : heldV xs f m = some ys) : ∀ v ∈ ys, v ∈ xs := by
  unfold heldV at h
  split at h
  · cases h
  · split at h
    · cases h
    · cases h
      exact fun v hv => List.mem_of_mem_drop (List.mem_of_mem_take hv)
theorem what_len {cs ss ys : List V} {r : JR} (hr : r.sOk) (h : whatV cs ss r = some ys) : 1 ≤ ys.length ∧ (ys.length ≤ 1000 ∨ ys.length ≤ cs.length ∨ ys.length ≤ ss.length) := by
  cases r with
  | put to s =>
    unfold whatV at h
    simp only at h
    split at h
    · cases h
    · cases h
      rw [chars_len]
      exact ⟨by omega, .inl hr.2⟩
  | keep to f m => exact ⟨(held_len h).1, .inr (.inl (held_len h).2)⟩
  | lay to f m => exact ⟨(held_len h).1, .inr (.inr (held_len h).2)⟩
  | copy to f m =>
    unfold whatV at h
    simp only at h
    split at h
    · cases h
    · exact ⟨(held_len h).1, .inr (.inl (held_len h).2)⟩
theorem what_flat {cs ss ys : List V} {r : JR} (hr : r.sOk) (hc : ∀ v ∈ cs, FlatV v) (hs : ∀ v ∈ ss, FlatV v) (h : whatV cs ss r = some ys) : ∀ v ∈ ys, FlatV v := by
  cases r with
  | put to s =>
    unfold whatV at h
    simp only at h
    split at h
    · cases h
    · cases h
      exact chars_flat hr.1
  | keep to f m => exact fun v hv => hc v (held_mem h v hv)
  | lay to f m => exact fun v hv => hs v (held_mem h v hv)
  | copy to f m =>
    unfold whatV at h
    simp only at h
    split at h
    · cases h
    · exact fun v hv => hc v (held_mem h v hv)
theorem laidL_mem {xs zs : List V} {to : Nat} : ∀ v ∈ laidL xs to zs, v ∈ xs ∨ v ∈ zs := fun v hv => by
  unfold laidL at hv
  rcases List.mem_append.mp hv with hv | hv
  · rcases List.mem_append.mp hv with hv | hv
    · exact .inl (List.mem_of_mem_take hv)
    · exact .inr hv
  · exact .inl (List.mem_of_mem_drop hv)
theorem laidL_len {xs zs : List V} {to : Nat} (h : to + zs.length ≤ xs.length) : (laidL xs to zs).length = xs.length := by
  unfold laidL
  rw [List.length_append, List.length_append, List.length_take, List.length_drop]
  omega
structure StJ (a b : Nat) (st : List V × List V) : Prop where
  c : st.1.length = a
  s : st.2.length = b
  fc : ∀ v ∈ st.1, FlatV v
  fs : ∀ v ∈ st.2, FlatV v
theorem StJ.step {a b : Nat} {st s2 : List V × List V} {r : JR} (h : StJ a b st) (hr : r.sOk) (hd : doneV r st.1 st.2 = some s2) : StJ a b s2 := by
  unfold doneV at hd
  cases hw : whatV st.1 st.2 r with
  | none => rw [hw] at hd; cases hd
  | some ys =>
    rw [hw] at hd
    have hf := what_flat hr h.fc h.fs hw
    simp only at hd
    split at hd
    · cases hd
    · rename_i hn
      cases hd
      unfold goalV at hn
      cases hk : r.isK with
      | true =>
        rw [hk, if_pos rfl] at hn
        rw [if_pos rfl]
        exact ⟨h.c, by show (laidL st.2 _ ys).length = b; rw [laidL_len (by omega)]; exact h.s, h.fc, fun v hv => (laidL_mem v hv).elim (h.fs v) (hf v)⟩
      | false =>
        rw [hk, if_neg (by decide)] at hn
        rw [if_neg (by decide)]
        exact ⟨by show (laidL st.1 _ ys).length = a; rw [laidL_len (by omega)]; exact h.c, h.s, fun v hv => (laidL_mem v hv).elim (h.fc v) (hf v), h.fs⟩
theorem StJ.steps {a b : Nat} : ∀ {rows : List JR} {st s2 : List V × List V}, StJ a b st → (∀ r ∈ rows, r.sOk) → stepsJ rows st = some s2 → StJ a b s2
  | [], st, s2, h, _, e => by cases e; exact h
  | r :: rows, st, s2, h, hr, e => by
    have e2 : (doneV r st.1 st.2).bind (stepsJ rows) = some s2 := e
    cases hd : doneV r st.1 st.2 with
    | none => rw [hd] at e2; cases e2
    | some s3 =>
      rw [hd] at e2
      exact (h.step (hr r (List.mem_cons_self ..)) hd).steps (fun q hq => hr q (List.mem_cons_of_mem _ hq)) e2
theorem flat_all {xs : List V} (h : ∀ v ∈ xs, FlatV v) : xs.all flatV = true := by
  rw [List.all_eq_true]
  intro v hv
  rcases h v hv with rfl | ⟨i, rfl⟩ | ⟨z, rfl, _⟩ <;> rfl
theorem scal_flat {u v : V} (hu : FlatV u) (hv : FlatV v) : scal u v = true := by
  rcases hu with rfl | ⟨i, rfl⟩ | ⟨z, rfl, _⟩ <;> rcases hv with rfl | ⟨j, rfl⟩ | ⟨y, rfl, _⟩ <;> rfl
theorem cell_flat {n : Nat} {v : V} (h : CellOk n v) : FlatV v := by
  rcases h with ⟨i, rfl, _⟩ | ⟨c, rfl, hc⟩
  · exact .inr (.inl ⟨_, rfl⟩)
  · refine .inr (.inr ⟨_, rfl, ?_, by show 1 ≤ 100; decide⟩)
    show (⟨#[c]⟩ : Str).cps.all (· < 0x110000) = true
    rw [← Array.all_toList]
    simpa using hc
/-! ### by data -/
section
variable {K : PySem.W.Frag} {F : Hp} {x : V}
theorem dp_jput {to : Int} {s : Str} (h : Dp K F x (JR.put to s).d) : ∃ a, x = .ref a ∧ SqT K F a [.str "put", .int to, .str s] := by
  obtain ⟨a, v1, v2, v3, rfl, hs, h1, h2, h3⟩ := dp_tup3 h
  rw [dp_str h1, dp_int h2, dp_str h3] at hs
  exact ⟨a, rfl, hs⟩
theorem dp_j4 {wd : Str} {to f m : Int} (h : Dp K F x (.tuple [.str wd, .int to, .int f, .int m])) : ∃ a, x = .ref a ∧ SqT K F a [.str wd, .int to, .int f, .int m] := by
  obtain ⟨p, v1, v2, v3, v4, rfl, hs, h1, h2, h3, h4⟩ := dp_tup4 h
  rw [dp_str h1, dp_int h2, dp_int h3, dp_int h4] at hs
  exact ⟨p, rfl, hs⟩
end
/-! ### promises -/
def φheld44 (K : PySem.W.Frag) (els : Bool) : V → V → V → Hp → VK → Prop := fun x y z H Q => ∃ (F : Hp) (a : Addr) (xs : List V) (f m : Int), x = .ref a ∧ y = .int f ∧ z = .int m ∧ Same F H ∧ SqL K F a xs ∧ (∀ v ∈ xs, FlatV v) ∧ xs.length ≤ 1000 ∧
  (heldV xs f m = none → els = true → ∀ F2 H2, W [] F H F2 H2 [] → Q .non H2) ∧ (heldV xs f m = none → els = false → ∀ p F2 H2, H p = none → W [] F H F2 H2 [mu p (.lst [])] → Q (.ref p) H2) ∧
  ∀ ys, heldV xs f m = some ys → ∀ p F2 H2, H p = none → W [] F H F2 H2 [mu p (.lst ys)] → Q (.ref p) H2
def φwhat44 (K : PySem.W.Frag) (els : Bool) : V → V → V → Hp → VK → Prop := fun x y z H Q => ∃ (F : Hp) (a b : Addr) (cs ss : List V) (r : JR), y = .ref a ∧ z = .ref b ∧ Same F H ∧ Dp K F x r.d ∧ SqL K F a cs ∧ SqL K F b ss ∧ r.sOk ∧ (∀ v ∈ cs, FlatV v) ∧ (∀ v ∈ ss, FlatV v) ∧ cs.length ≤ 1000 ∧ ss.length ≤ 1000 ∧
  (whatV cs ss r = none → els = true → ∀ F2 H2, W [] F H F2 H2 [] → Q .non H2) ∧ (whatV cs ss r = none → els = false → ∀ p F2 H2, H p = none → W [] F H F2 H2 [mu p (.lst [])] → Q (.ref p) H2) ∧
  ∀ ys, whatV cs ss r = some ys → ∀ p F2 H2, H p = none → W [] F H F2 H2 [mu p (.lst ys)] → Q (.ref p) H2
def φdone44 (K : PySem.W.Frag) : V → V → V → Hp → VK → Prop := fun x y z H Q => ∃ (F : Hp) (a b : Addr) (cs ss : List V) (r : JR), y = .ref a ∧ z = .ref b ∧ St F H [mu a (.lst cs), mu b (.lst ss)] ∧ Dp K F x r.d ∧ r.sOk ∧ (∀ v ∈ cs, FlatV v) ∧ (∀ v ∈ ss, FlatV v) ∧ cs.length ≤ 1000 ∧ ss.length ≤ 1000 ∧
  (doneV r cs ss = none → ∀ F2 H2, W [a, b] F H F2 H2 [mu a (.lst cs), mu b (.lst ss)] → Q (.bl false) H2) ∧
  ∀ cs2 ss2, doneV r cs ss = some (cs2, ss2) → ∀ F2 H2, W [a, b] F H F2 H2 [mu a (.lst cs2), mu b (.lst ss2)] → Q (.bl true) H2
/-- the first fault -/
inductive PfOk (due : List V) (rows : List JR) (st0 : List V × List V) : PyData → Prop where
  | row (i : Nat) (r : JR) (st : List V × List V) : rows[i]? = some r → stepsJ (rows.take i) st0 = some st → doneV r st.1 st.2 = none → PfOk due rows st0 (.tuple [.str "row", .int (i : Nat)])
  | cell (p : Nat) (u v : V) (st : List V × List V) : stepsJ rows st0 = some st → due[p]? = some u → st.1[p]? = some v → v ≠ u → (∀ q, q < p → st.1[q]? = due[q]?) → PfOk due rows st0 (.tuple [.str "cell", .int (p : Nat)])
  | none (st : List V × List V) : stepsJ rows st0 = some st → (∀ q, q < due.length → st.1[q]? = due[q]?) → PfOk due rows st0 .none
def st0J (n big extra : Nat) : List V × List V := ((List.range n).map (fun (k : Nat) => V.int (k : Nat)) ++ List.replicate (big - n) .non, List.replicate extra .non)
theorem st0_ok (n big extra : Nat) : StJ (n + (big - n)) extra (st0J n big extra) := by
  refine ⟨?_, ?_, fun v hv => ?_, fun v hv => ?_⟩
  · show ((List.range n).map (fun (k : Nat) => V.int (k : Nat)) ++ List.replicate (big - n) V.non).length = _
    rw [List.length_append, List.length_map, List.length_range, List.length_replicate]
  · exact List.length_replicate
  · rcases List.mem_append.mp hv with hv | hv
    · obtain ⟨k, _, rfl⟩ := List.mem_map.mp hv
      exact .inr (.inl ⟨_, rfl⟩)
    · rw [List.eq_of_mem_replicate hv]; exact .inl rfl
  · rw [List.eq_of_mem_replicate hv]; exact .inl rfl
def φfault44 (K : PySem.W.Frag) : V → V → V → Hp → VK → Prop := fun x y z H Q => ∃ (F : Hp) (a : Addr) (vs : List V) (n extra : Nat) (rows : List CRow) (js : List JR), y = .ref a ∧ z = .int (extra : Nat) ∧ Same F H ∧ Chg K F x n rows ∧ RowsOk n rows ∧ n ≤ 400 ∧ SqL K F a vs ∧ DpAll K F vs (js.map JR.d) ∧ (∀ r ∈ js, r.sOk) ∧ js.length ≤ 1000 ∧ extra ≤ 400 ∧
  ∀ v d F2 H2, W [] F H F2 H2 [dat K v d] → PfOk (cellsV rows) js (st0J n (cellsV rows).length extra) d → Q v H2
theorem n_eqF {K : PySem.W.Frag} {H : Hp} {Q : VK} {p r : Addr} {ys : List V} (h1 : SqL K H p ys) (h2 : SqL K H r []) (hf : ∀ v ∈ ys, FlatV v) (hl : ys.length ≤ 100000) (q : Q (.bl (decide (ys = []))) H) : rEqD K (.ref p) (.ref r) H Q := by
  have g := flat_good hf hl
  refine ⟨_, _, .lst h1 (flat_dpa hf), .lst h2 .nil, good_shaped g.1 (Nat.le_trans g.2 (by decide)), good_shaped rfl (by decide), ?_⟩
  cases ys <;> exact q
theorem ixNatJ {n j : Nat} (h : j < n) : ixN n ((j : Nat) : Int) = some j := by
  unfold ixN
  rw [if_pos (by omega), if_pos (by omega)]
  rfl
def φwalk44 (K : PySem.W.Frag) : V → V → V → Hp → VK → Prop := fun x y z H Q => ∃ (F : Hp) (sp a b : Addr) (vs : List V) (js : List JR) (cs ss : List V) (A B : Nat), x = .ref sp ∧ y = .ref a ∧ z = .ref b ∧ St F H [mu a (.lst cs), mu b (.lst ss)] ∧ SqL K F sp vs ∧ DpAll K F vs (js.map JR.d) ∧ (∀ r ∈ js, r.sOk) ∧ StJ A B (cs, ss) ∧ A ≤ 1000 ∧ B ≤ 1000 ∧ js.length ≤ 1000 ∧
  (∀ (i : Nat) (r : JR) (st : List V × List V), js[i]? = some r → stepsJ (js.take i) (cs, ss) = some st → doneV r st.1 st.2 = none → ∀ F2 H2, W [a, b] F H F2 H2 [mu a (.lst st.1), mu b (.lst st.2)] → Q (.int (i : Nat)) H2) ∧
  ∀ st : List V × List V, stepsJ js (cs, ss) = some st → ∀ F2 H2, W [a, b] F H F2 H2 [mu a (.lst st.1), mu b (.lst st.2)] → Q .non H2
def φnumber44 (K : PySem.W.Frag) : V → V → Hp → VK → Prop := fun x y H Q => ∃ (F : Hp) (b : Addr) (n : Int), x = .ref b ∧ y = .int n ∧ St F H [bag K b] ∧
  ∀ (m : Int) F2 H2, W [b] F H F2 H2 [bag K b] → Q (.int m) H2
def φanyrow44 (K : PySem.W.Frag) : V → V → V → Hp → VK → Prop := fun x y z H Q => ∃ (F : Hp) (b : Addr) (big extra : Nat), x = .ref b ∧ y = .int (big : Nat) ∧ z = .int (extra : Nat) ∧ St F H [bag K b] ∧ big ≤ 400 ∧ extra ≤ 400 ∧
  ∀ t (r : JR) F2 H2, W [b] F H F2 H2 [dat K (.ref t) r.d, bag K b] → r.sOk → Q (.ref t) H2
def cellRow : V → CRow
  | .int i => .copy i.toNat 1
  | .str s => .put s
  | _ => .copy 0 0
def φrowsof44 (K : PySem.W.Frag) : V → Hp → VK → Prop := fun x H Q => ∃ (F : Hp) (a : Addr) (cs : List V) (n : Nat), x = .ref a ∧ Same F H ∧ SqL K F a cs ∧ (∀ v ∈ cs, CellOk n v) ∧ cs.length ≤ 400 ∧
  ∀ p ys F2 H2, H p = none → W [] F H F2 H2 [mu p (.lst ys), dpa K ys ((cs.map cellRow).map CRow.d)] → Q (.ref p) H2
/-- rows that can be done, one that can't, the cells they leave -/
structure DrOk (n big extra : Nat) (good : List JR) (bad : Option (Nat × JR)) (cs : List V) : Prop where
  s : ∀ r ∈ good, r.sOk
  l : good.length ≤ 400
  g : ∃ ss, stepsJ good (st0J n big extra) = some (cs, ss)
  b : ∀ k r, bad = some (k, r) → r.sOk ∧ k ≤ good.length ∧ ∃ st, stepsJ (good.take k) (st0J n big extra) = some st ∧ doneV r st.1 st.2 = none
  c : ∀ v ∈ cs, CellOk n v
  z : cs.length = big
theorem pick_any {ns : List Int} {i : Int} (h0 : 0 ≤ i) (h1 : i < (ns.length : Int)) : ∃ m, atI (ns.map V.int) i = some (.int m) := by
  have hi : i.toNat < ns.length := by omega
  refine ⟨ns[i.toNat], at_of (j := i.toNat) (by omega) ?_⟩
  rw [List.getElem?_map, List.getElem?_eq_getElem hi]
  rfl
theorem jr_good {m : JR} (h : m.sOk) : good m.d = true ∧ m.d.depth ≤ 1 := by
  have d4 : ∀ (wd : Str) (a b c : Int), good (.str wd) = true → good (.tuple [.str wd, .int a, .int b, .int c]) = true ∧ (PyData.tuple [.str wd, .int a, .int b, .int c]).depth ≤ 1 := fun wd a b c hw => by
    constructor
    · refine good_tuple (by simp) fun d hd => ?_
      simp only [List.mem_cons, List.not_mem_nil, or_false] at hd
      rcases hd with rfl | rfl | rfl | rfl <;> first | exact hw | rfl
    · refine depth_tuple fun d hd => ?_
      simp only [List.mem_cons, List.not_mem_nil, or_false] at hd
      rcases hd with rfl | rfl | rfl | rfl <;> exact Nat.le_refl _
  cases m with
  | put to s =>
    constructor
    · refine good_tuple (by simp) fun d hd => ?_
      simp only [List.mem_cons, List.not_mem_nil, or_false] at hd
      rcases hd with rfl | rfl | rfl
      · decide +kernel
      · rfl
      · exact str_good h.1 (Nat.le_trans h.2 (by decide))
    · refine depth_tuple fun d hd => ?_
      simp only [List.mem_cons, List.not_mem_nil, or_false] at hd
      rcases hd with rfl | rfl | rfl <;> exact Nat.le_refl _
  | keep to f m => exact d4 _ _ _ _ (by decide +kernel)
  | lay to f m => exact d4 _ _ _ _ (by decide +kernel)
  | copy to f m => exact d4 _ _ _ _ (by decide +kernel)
theorem jrs_good {ms : List JR} (h : ∀ m ∈ ms, m.sOk) (hl : ms.length ≤ 100000) : good (.list (ms.map JR.d)) = true ∧ (PyData.list (ms.map JR.d)).depth ≤ 2 := by
  constructor
  · refine good_list (by rw [List.length_map]; exact hl) fun d hd => ?_
    obtain ⟨r, hr, rfl⟩ := List.mem_map.mp hd
    exact (jr_good (h r hr)).1
  · refine depth_list fun d hd => ?_
    obtain ⟨r, hr, rfl⟩ := List.mem_map.mp hd
    exact (jr_good (h r hr)).2
/-- cells stay cells -/
theorem what_cell {n : Nat} {cs ss ys : List V} {r : JR} (hr : r.sOk) (hc : ∀ v ∈ cs, CellOk n v) (hs : ∀ v ∈ ss, v = .non ∨ CellOk n v) (h : whatV cs ss r = some ys) : ∀ v ∈ ys, CellOk n v := by
  have hnon : ∀ {xs : List V} {f m : Int}, heldV xs f m = some ys → .non ∉ ys := fun {xs f m} h => by
    unfold heldV at h
    split at h
    · cases h
    · split at h
      · cases h
      · rename_i hi
        cases h
        intro hz
        refine hi ?_
        unfold inV
        exact List.any_eq_true.mpr ⟨.non, hz, rfl⟩
  cases r with
  | put to s =>
    unfold whatV at h
    simp only at h
    split at h
    · cases h
    · cases h
      intro v hv
      obtain ⟨c, hcm, rfl⟩ := chars_get' hv
      have h2 : s.cps.all (· < 0x110000) = true := hr.1
      rw [← Array.all_toList, List.all_eq_true] at h2
      exact .inr ⟨c, rfl, by simpa using h2 c hcm⟩
  | keep to f m => exact fun v hv => hc v (held_mem h v hv)
  | lay to f m => exact fun v hv => (hs v (held_mem h v hv)).elim (fun e => absurd (e ▸ hv) (hnon h)) id
  | copy to f m =>
    unfold whatV at h
    simp only at h
    split at h
    · cases h
    · exact fun v hv => hc v (held_mem h v hv)
structure DrI (n big extra i : Nat) (good : List JR) (bad : Option (Nat × JR)) (cs ss : List V) : Prop where
  s : ∀ r ∈ good, r.sOk
  l : good.length ≤ i
  g : stepsJ good (st0J n big extra) = some (cs, ss)
  b : ∀ k r, bad = some (k, r) → r.sOk ∧ k ≤ good.length ∧ ∃ st, stepsJ (good.take k) (st0J n big extra) = some st ∧ doneV r st.1 st.2 = none
  c : (1 ≤ i ∨ big = n) → ∀ v ∈ cs, CellOk n v
  f : ∀ v ∈ ss, v = .non ∨ CellOk n v
  j : StJ big extra (cs, ss)
  o : i = 0 → cs = (st0J n big extra).1
theorem drI_nil {n big : Nat} (hn : n ≤ big) (extra : Nat) : DrI n big extra 0 [] none (st0J n big extra).1 (st0J n big extra).2 := by
  refine ⟨(fun r h => nomatch h), Nat.le_refl _, rfl, (fun k r h => nomatch h), fun h v hv => ?_, fun v hv => ?_, ?_, fun _ => rfl⟩
  · have e : big = n := h.resolve_left (by decide)
    subst e
    rcases List.mem_append.mp hv with hv | hv
    · obtain ⟨k, hk, rfl⟩ := List.mem_map.mp hv
      exact .inl ⟨k, rfl, List.mem_range.mp hk⟩
    · rw [Nat.sub_self] at hv
      cases hv
  · exact .inl (List.eq_of_mem_replicate hv)
  · have := st0_ok n big extra
    rwa [show n + (big - n) = big by omega] at this
/-- the first row, where the new text is longer -/
theorem first_row {n big extra : Nat} {ss : List V} {s : Str} (hs : s.length = big - n) (hb : n < big) : doneV (.put (n : Nat) s) (st0J n big extra).1 ss = some ((List.range n).map (fun (k : Nat) => V.int (k : Nat)) ++ chars s, ss) := by
  have hw : whatV (st0J n big extra).1 ss (.put (n : Nat) s) = some (chars s) := if_neg (by omega)
  have hl : (st0J n big extra).1.length = big := by
    show ((List.range n).map (fun (k : Nat) => V.int (k : Nat)) ++ List.replicate (big - n) V.non).length = _
    rw [List.length_append, List.length_map, List.length_range, List.length_replicate]
    omega
  unfold doneV
  rw [hw]
  show (if (n : Int) < 0 ∨ ((st0J n big extra).1.length : Int) < (n : Int) + ((chars s).length : Int) then none else some (laidL (st0J n big extra).1 n (chars s), ss)) = _
  rw [if_neg (by rw [hl, chars_len]; omega)]
  congr 2
  unfold laidL
  show ((List.range n).map (fun (k : Nat) => V.int (k : Nat)) ++ List.replicate (big - n) V.non).take n ++ chars s ++ ((List.range n).map (fun (k : Nat) => V.int (k : Nat)) ++ List.replicate (big - n) V.non).drop (n + (chars s).length) = _
  rw [List.take_left' (by rw [List.length_map, List.length_range]), List.drop_of_length_le (by rw [List.length_append, List.length_map, List.length_range, List.length_replicate, chars_len]; omega), List.append_nil]
theorem DrI.skip {n big extra i : Nat} {good : List JR} {bad : Option (Nat × JR)} {cs ss : List V} {r : JR} (h : DrI n big extra i good bad cs ss) (hf : i = 0 → n < big → ∃ s : Str, r = .put (n : Nat) s ∧ s.length = big - n) (hn : doneV r cs ss = none) : DrI n big extra (i + 1) good bad cs ss := by
  refine ⟨h.s, Nat.le_succ_of_le h.l, h.g, h.b, fun _ => ?_, h.f, h.j, fun e => nomatch e⟩
  by_cases e0 : i = 0
  · by_cases hb : n < big
    · obtain ⟨s, rfl, hs⟩ := hf e0 hb
      rw [h.o e0, first_row hs hb] at hn
      cases hn
    · have hl := h.j.c
      refine h.c (.inr ?_)
      have e1 := h.o e0
      have : (st0J n big extra).1.length = n + (big - n) := (st0_ok n big extra).c
      have hl : cs.length = big := hl
      rw [e1, this] at hl
      omega
  · exact h.c (.inl (by omega))
theorem DrI.bad {n big extra i : Nat} {good : List JR} {cs ss : List V} {r : JR} (h : DrI n big extra i good none cs ss) (hr : r.sOk) (hn : doneV r cs ss = none) : DrI n big extra i good (some (good.length, r)) cs ss := by
  refine ⟨h.s, h.l, h.g, fun k r2 e => ?_, h.c, h.f, h.j, h.o⟩
  cases e
  exact ⟨hr, Nat.le_refl _, (cs, ss), by rw [List.take_length]; exact h.g, hn⟩
theorem DrI.add {n big extra i : Nat} {good : List JR} {bad : Option (Nat × JR)} {cs ss : List V} {r : JR} {st : List V × List V} (h : DrI n big extra i good bad cs ss) (hr : r.sOk) (hf : i = 0 → n < big → ∃ s : Str, r = .put (n : Nat) s ∧ s.length = big - n) (hd : doneV r cs ss = some st) : DrI n big extra (i + 1) (good ++ [r]) bad st.1 st.2 := by
  have key : (∀ v ∈ st.1, CellOk n v) ∧ ∀ v ∈ st.2, v = .non ∨ CellOk n v := by
    by_cases hc : i = 0 ∧ n < big
    · obtain ⟨s, rfl, hs⟩ := hf hc.1 hc.2
      rw [h.o hc.1, first_row hs hc.2] at hd
      cases hd
      refine ⟨fun v hv => ?_, h.f⟩
      rcases List.mem_append.mp hv with hv | hv
      · obtain ⟨k, hk, rfl⟩ := List.mem_map.mp hv
        exact .inl ⟨k, rfl, List.mem_range.mp hk⟩
      · obtain ⟨c, hcm, rfl⟩ := chars_get' hv
        have h2 : s.cps.all (· < 0x110000) = true := hr.1
        rw [← Array.all_toList, List.all_eq_true] at h2
        exact .inr ⟨c, rfl, by simpa using h2 c hcm⟩
    · have hcc : ∀ v ∈ cs, CellOk n v := by
        by_cases e0 : i = 0
        · refine h.c (.inr ?_)
          have hl : cs.length = big := h.j.c
          have : (st0J n big extra).1.length = n + (big - n) := (st0_ok n big extra).c
          rw [h.o e0, this] at hl
          omega
        · exact h.c (.inl (by omega))
      unfold doneV at hd
      cases hw : whatV cs ss r with
      | none => rw [hw] at hd; cases hd
      | some ys =>
        rw [hw] at hd
        have hy := what_cell hr hcc h.f hw
        simp only at hd
        split at hd
        · cases hd
        · cases hd
          cases hk : r.isK with
          | true =>
            rw [if_pos rfl]
            exact ⟨hcc, fun v hv => (laidL_mem v hv).elim (h.f v) fun z => .inr (hy v z)⟩
          | false =>
            rw [if_neg (by decide)]
            exact ⟨fun v hv => (laidL_mem v hv).elim (hcc v) (hy v), h.f⟩
  refine ⟨fun r2 h2 => ?_, by rw [List.length_append]; exact Nat.succ_le_succ h.l, ?_, fun k r2 e => ?_, fun _ => key.1, key.2, h.j.step hr hd, fun e => nomatch e⟩
  · rcases List.mem_append.mp h2 with h2 | h2
    · exact h.s r2 h2
    · rw [List.mem_singleton.mp h2]; exact hr
  · rw [steps_app, h.g]
    show (doneV r cs ss).bind (stepsJ []) = _
    rw [hd]
    rfl
  · obtain ⟨b1, b2, b3⟩ := h.b k r2 e
    refine ⟨b1, by rw [List.length_append]; omega, ?_⟩
    rw [List.take_append_of_le_length b2]
    exact b3
theorem DrI.done {n big extra i : Nat} {good : List JR} {bad : Option (Nat × JR)} {cs ss : List V} (h : DrI n big extra i good bad cs ss) (h1 : 1 ≤ i) (h2 : i ≤ 400) : DrOk n big extra good bad cs :=
  ⟨h.s, Nat.le_trans h.l h2, ⟨ss, h.g⟩, h.b, h.c (.inl h1), h.j.c⟩
def badD : Option (Nat × JR) → PyData
  | none => .none
  | some (k, r) => .tuple [.int (k : Nat), r.d]
def φdrawn44 (K : PySem.W.Frag) : V → V → V → V → V → Hp → VK → Prop := fun x1 x2 x3 x4 x5 H Q => ∃ (F : Hp) (b : Addr) (n big extra many : Nat), x1 = .ref b ∧ x2 = .int (n : Nat) ∧ x3 = .int (big : Nat) ∧ x4 = .int (extra : Nat) ∧ x5 = .int (many : Nat) ∧ St F H [bag K b] ∧ n ≤ big ∧ big ≤ 100 ∧ extra ≤ 400 ∧ 1 ≤ many ∧ many ≤ 400 ∧
  ∀ t pg pc vg vb (good : List JR) (bad : Option (Nat × JR)) (cs : List V) F2 H2, H pg = none → H pc = none → W [b] F H F2 H2 [fx t (.tup [.ref pg, vb, .ref pc]), mu pg (.lst vg), dpa K vg (good.map JR.d), dat K vb (badD bad), mu pc (.lst cs), bag K b] → DrOk n big extra good bad cs → Q (.ref t) H2
def φright44 (K : PySem.W.Frag) : V → V → V → V → Hp → VK → Prop := fun x1 x2 x3 x4 H Q => ∃ (F : Hp) (a : Addr) (vs : List V) (n extra : Nat) (rows : List CRow) (js : List JR) (d : PyData), x2 = .ref a ∧ x3 = .int (extra : Nat) ∧ Same F H ∧ Chg K F x1 n rows ∧ RowsOk n rows ∧ n ≤ 400 ∧ SqL K F a vs ∧ DpAll K F vs (js.map JR.d) ∧ (∀ r ∈ js, r.sOk) ∧ js.length ≤ 1000 ∧ extra ≤ 400 ∧ Dp K F x4 d ∧ (∀ d2, PfOk (cellsV rows) js (st0J n (cellsV rows).length extra) d2 → d2 = d) ∧ good d = true ∧ d.depth ≤ 3 ∧
  ∀ F2 H2, W [] F H F2 H2 [] → Q (.bl true) H2
/-! ### one fault -/
theorem steps_fail {rows : List JR} {i : Nat} {r : JR} {st0 st : List V × List V} (hr : rows[i]? = some r) (h : stepsJ (rows.take i) st0 = some st) (hn : doneV r st.1 st.2 = none) (j : Nat) (hj : i < j) : stepsJ (rows.take j) st0 = none := by
  have e1 := steps_take hr h
  rw [hn] at e1
  have e2 : rows.take j = rows.take (i + 1) ++ (rows.drop (i + 1)).take (j - (i + 1)) := by
    rw [← List.take_add, show i + 1 + (j - (i + 1)) = j by omega]
  rw [e2, steps_app, e1]
  rfl
theorem pf_one {due : List V} {rows : List JR} {st0 : List V × List V} {d1 d2 : PyData} (h1 : PfOk due rows st0 d1) (h2 : PfOk due rows st0 d2) : d1 = d2 := by
  have nofull : ∀ {i : Nat} {r : JR} {st s2 : List V × List V}, rows[i]? = some r → stepsJ (rows.take i) st0 = some st → doneV r st.1 st.2 = none → stepsJ rows st0 = some s2 → False := fun {i r st s2} a b c d => by
    have := steps_fail a b c rows.length (List.getElem?_eq_some_iff.mp a).1
    rw [List.take_length, d] at this
    cases this
  cases h1 with
  | row i r st a b c =>
    cases h2 with
    | row i2 r2 st2 a2 b2 c2 =>
      rcases Nat.lt_trichotomy i i2 with h | h | h
      · have := steps_fail a b c i2 h
        rw [b2] at this
        cases this
      · rw [h]
      · have := steps_fail a2 b2 c2 i h
        rw [b] at this
        cases this
    | cell p u v st2 a2 => exact (nofull a b c a2).elim
    | none st2 a2 => exact (nofull a b c a2).elim
  | cell p u v st a b c ne lt =>
    cases h2 with
    | row i2 r2 st2 a2 b2 c2 => exact (nofull a2 b2 c2 a).elim
    | cell p2 u2 v2 st2 a2 b2 c2 ne2 lt2 =>
      rw [a] at a2
      cases a2
      rcases Nat.lt_trichotomy p p2 with h | h | h
      · have := lt2 p h
        rw [b, c] at this
        exact absurd (Option.some.inj this) ne
      · rw [h]
      · have := lt p2 h
        rw [b2, c2] at this
        exact absurd (Option.some.inj this) ne2
    | none st2 a2 e2 =>
      rw [a] at a2
      cases a2
      have := e2 p (List.getElem?_eq_some_iff.mp b).1
      rw [b, c] at this
      exact absurd (Option.some.inj this) ne
  | none st a e =>
    cases h2 with
    | row i2 r2 st2 a2 b2 c2 => exact (nofull a2 b2 c2 a).elim
    | cell p2 u2 v2 st2 a2 b2 c2 ne2 lt2 =>
      rw [a] at a2
      cases a2
      have := e p2 (List.getElem?_eq_some_iff.mp b2).1
      rw [b2, c2] at this
      exact absurd (Option.some.inj this) ne2
    | none st2 a2 e2 => rfl
theorem cell_rows {n : Nat} {cs : List V} (h : ∀ v ∈ cs, CellOk n v) (hl : cs.length ≤ 400) : RowsOk n (cs.map cellRow) := by
  have h1 : ∀ v ∈ cs, CRowOk n (cellRow v) ∧ (cellRow v).gives = 1 := fun v hv => by
    rcases h v hv with ⟨i, rfl, hi⟩ | ⟨c, rfl, hc⟩
    · exact ⟨⟨trivial, by show 1 ≤ 1; omega, by show i + 1 ≤ n; omega⟩, rfl⟩
    · refine ⟨⟨⟨?_, by show 1 ≤ 1000; decide⟩, by show 1 ≤ 1; omega, Nat.zero_le _⟩, rfl⟩
      show (⟨#[c]⟩ : Str).cps.all (· < 0x110000) = true
      rw [← Array.all_toList]
      simpa using hc
  refine ⟨fun r hr => ?_, ?_⟩
  · obtain ⟨v, hv, rfl⟩ := List.mem_map.mp hr
    exact (h1 v hv).1
  · have e : ∀ cs : List V, (∀ v ∈ cs, (cellRow v).gives = 1) → givesL (cs.map cellRow) = cs.length := by
      intro cs
      induction cs with
      | nil => intro _; rfl
      | cons v cs ih =>
        intro h
        show (cellRow v).gives + givesL (cs.map cellRow) = cs.length + 1
        rw [h v (List.mem_cons_self ..), ih fun u hu => h u (List.mem_cons_of_mem _ hu)]
        omega
    rw [e cs fun v hv => (h1 v hv).2]
    exact hl
theorem cell_back {n : Nat} : ∀ {cs : List V}, (∀ v ∈ cs, CellOk n v) → cellsV (cs.map cellRow) = cs
  | [], _ => rfl
  | v :: cs, h => by
    have ih := cell_back (cs := cs) fun u hu => h u (List.mem_cons_of_mem _ hu)
    have e : cellsV ((v :: cs).map cellRow) = (cellRow v).cellV ++ cellsV (cs.map cellRow) := rfl
    rw [e, ih]
    rcases h v (List.mem_cons_self ..) with ⟨i, rfl, hi⟩ | ⟨c, rfl, hc⟩
    · rfl
    · rfl
theorem one_str {s : Str} (h : s.length = 1) (ho : okS s) : ∃ c, s = ⟨#[c]⟩ ∧ c < 0x110000 := by
  obtain ⟨⟨l⟩⟩ := s
  match l, h with
  | [c], _ =>
    refine ⟨c, rfl, ?_⟩
    have h2 : (⟨#[c]⟩ : Str).cps.all (· < 0x110000) = true := ho
    rw [← Array.all_toList] at h2
    simpa using h2
theorem pf_good {n big extra : Nat} {good : List JR} {bad : Option (Nat × JR)} {cs : List V} (h : DrOk n big extra good bad cs) : PfOk cs good (st0J n cs.length extra) .none := by
  obtain ⟨ss, hg⟩ := h.g
  rw [h.z]
  exact .none (cs, ss) hg fun q _ => rfl
theorem pf_bad {n big extra k : Nat} {r : JR} {good : List JR} {cs : List V} (h : DrOk n big extra good (some (k, r)) cs) : PfOk cs (good.take k ++ [r] ++ good.drop k) (st0J n cs.length extra) (.tuple [.str "row", .int (k : Nat)]) := by
  obtain ⟨hr, hk, st, hs, hd⟩ := h.b k r rfl
  have hl : (good.take k).length = k := by rw [List.length_take]; omega
  rw [h.z]
  refine .row k r st ?_ ?_ hd
  · rw [List.append_assoc, List.getElem?_append_right (by omega), hl, Nat.sub_self]
    rfl
  · rw [List.append_assoc, List.take_left' hl]
    exact hs
theorem pf_cell {n big extra p : Nat} {good : List JR} {bad : Option (Nat × JR)} {cs : List V} {u v : V} (h : DrOk n big extra good bad cs) (hv : cs[p]? = some v) (hne : u ≠ v) : PfOk (cs.take p ++ [u] ++ cs.drop (p + 1)) good (st0J n (cs.take p ++ [u] ++ cs.drop (p + 1)).length extra) (.tuple [.str "cell", .int (p : Nat)]) := by
  obtain ⟨ss, hg⟩ := h.g
  have hp := (List.getElem?_eq_some_iff.mp hv).1
  have hl : (cs.take p).length = p := by rw [List.length_take]; omega
  have hz : (cs.take p ++ [u] ++ cs.drop (p + 1)).length = big := by
    rw [List.length_append, List.length_append, hl, List.length_drop, ← h.z]
    show p + 1 + _ = _
    omega
  rw [hz]
  refine .cell p u v (cs, ss) hg ?_ hv (fun e => hne e.symm) fun q hq => ?_
  · rw [List.append_assoc, List.getElem?_append_right (by omega), hl, Nat.sub_self]
    rfl
  · rw [List.append_assoc, List.getElem?_append_left (by omega), List.getElem?_take_of_lt hq]
theorem dpa_takeJ {K : PySem.W.Frag} {F : Hp} : ∀ {vs : List V} {ds : List PyData} (n : Nat), DpAll K F vs ds → DpAll K F (vs.take n) (ds.take n)
  | _, _, 0, _ => by rw [List.take_zero, List.take_zero]; exact .nil
  | _, _, n + 1, .nil => .nil
  | _, _, n + 1, .cons d t => .cons d (dpa_takeJ n t)
theorem dpa_dropJ {K : PySem.W.Frag} {F : Hp} : ∀ {vs : List V} {ds : List PyData} (n : Nat), DpAll K F vs ds → DpAll K F (vs.drop n) (ds.drop n)
  | _, _, 0, h => h
  | _, _, n + 1, .nil => .nil
  | _, _, n + 1, .cons d t => dpa_dropJ n t
theorem rr_good (k : Nat) : good (.tuple [.str "row", .int (k : Nat)]) = true := by
  refine good_tuple (by simp) fun d hd => ?_
  rcases List.mem_cons.mp hd with rfl | hd
  · decide +kernel
  · rw [List.mem_singleton.mp hd]; rfl
theorem rc_good (k : Nat) : good (.tuple [.str "cell", .int (k : Nat)]) = true := by
  refine good_tuple (by simp) fun d hd => ?_
  rcases List.mem_cons.mp hd with rfl | hd
  · decide +kernel
  · rw [List.mem_singleton.mp hd]; rfl
end R

namespace R
open PySem PySem.Spec PyProof.Rows L2
/-! ### who gets whom: ways and rings -/
section
variable {g : Nat → Option Nat} {N : Nat}
def it (g : Nat → Option Nat) : Nat → Nat → Option Nat
  | 0, f => some f
  | k + 1, f => (it g k f).bind g
theorem it_add (a b f : Nat) : it g (a + b) f = (it g a f).bind (it g b) := by
  induction b with
  | zero => cases it g a f <;> rfl
  | succ b ih =>
    show (it g (a + b) f).bind g = (it g a f).bind fun x => (it g b x).bind g
    rw [ih]
    cases it g a f <;> rfl
def indG (g : Nat → Option Nat) (N p : Nat) : Nat := ((List.range N).filter fun q => decide (g q = some p)).length
theorem ind_one (hN : ∀ q p, g q = some p → q < N) {p q1 q2 : Nat} (h : indG g N p = 1) (h1 : g q1 = some p) (h2 : g q2 = some p) : q1 = q2 := by
  unfold indG at h
  have m1 : q1 ∈ (List.range N).filter fun q => decide (g q = some p) := List.mem_filter.mpr ⟨List.mem_range.mpr (hN q1 p h1), decide_eq_true h1⟩
  have m2 : q2 ∈ (List.range N).filter fun q => decide (g q = some p) := List.mem_filter.mpr ⟨List.mem_range.mpr (hN q2 p h2), decide_eq_true h2⟩
  obtain ⟨x, hx⟩ := List.length_eq_one_iff.mp h
  rw [hx] at m1 m2
  rw [List.mem_singleton.mp m1, List.mem_singleton.mp m2]
/-- on a pure ring -/
def Pc (g : Nat → Option Nat) (N f : Nat) : Prop := ∃ k, it g (k + 1) f = some f ∧ ∀ j y, it g j f = some y → indG g N y = 1
def Sm (g : Nat → Option Nat) (f x : Nat) : Prop := ∃ j, it g j f = some x
theorem it_mul {K f : Nat} (h : it g K f = some f) : ∀ t, it g (K * t) f = some f
  | 0 => rfl
  | t + 1 => by
    rw [Nat.mul_succ, it_add, it_mul h t]
    exact h
theorem it_some {K f : Nat} (h : it g (K + 1) f = some f) (j : Nat) : ∃ y, it g j f = some y := by
  have h1 := it_mul h j
  have e : (K + 1) * j = j + ((K + 1) * j - j) := by
    have : j ≤ (K + 1) * j := Nat.le_mul_of_pos_left j (Nat.succ_pos K)
    omega
  rw [e, it_add] at h1
  cases h2 : it g j f with
  | none => rw [h2] at h1; cases h1
  | some y => exact ⟨y, rfl⟩
theorem Pc.back {f x : Nat} (h : Pc g N f) (hs : Sm g f x) : Sm g x f := by
  obtain ⟨k, h1, _⟩ := h
  obtain ⟨j, hj⟩ := hs
  have h2 := it_mul h1 j
  have e : (k + 1) * j = j + ((k + 1) * j - j) := by
    have : j ≤ (k + 1) * j := Nat.le_mul_of_pos_left j (Nat.succ_pos k)
    omega
  rw [e, it_add, hj] at h2
  exact ⟨_, h2⟩
theorem Sm.trans {a b c : Nat} (h1 : Sm g a b) (h2 : Sm g b c) : Sm g a c := by
  obtain ⟨i, hi⟩ := h1
  obtain ⟨j, hj⟩ := h2
  exact ⟨i + j, by rw [it_add, hi]; exact hj⟩
theorem Pc.to {f x : Nat} (h : Pc g N f) (hs : Sm g f x) : Pc g N x := by
  obtain ⟨m, hm⟩ := h.back hs
  obtain ⟨j, hj⟩ := hs
  obtain ⟨k, h1, h2⟩ := h
  refine ⟨m + k + j, ?_, fun i y hy => h2 (j + i) y (by rw [it_add, hj]; exact hy)⟩
  rw [show m + k + j + 1 = m + ((k + 1) + j) by omega, it_add, hm]
  show it g (k + 1 + j) f = some x
  rw [it_add, h1]
  exact hj
/-- who gets one of a pure ring is of the ring -/
theorem Pc.pred (hN : ∀ q p, g q = some p → q < N) {p q : Nat} (h : Pc g N p) (hq : g q = some p) : Sm g p q ∧ Pc g N q := by
  obtain ⟨k, h1, h2⟩ := id h
  have e : (it g k p).bind g = some p := h1
  cases hz : it g k p with
  | none => rw [hz] at e; cases e
  | some z =>
    rw [hz] at e
    have : z = q := ind_one hN (h2 0 p rfl) e hq
    subst this
    exact ⟨⟨k, hz⟩, h.to ⟨k, hz⟩⟩
/-- a way from f that leaves S out, up to p -/
structure WayOk (h : Nat → Option Nat) (S : Nat → Prop) (f : Nat) (way : List Nat) (p : Nat) : Prop where
  at_ : ∀ k x, way[k]? = some x → it h k f = some x
  p : it h way.length f = some p
  nd : way.Nodup
  s : ∀ x ∈ way, ¬ S x
theorem way_nil (h : Nat → Option Nat) (S : Nat → Prop) (f : Nat) : WayOk h S f [] f := ⟨(fun k x e => by simp at e), rfl, List.nodup_nil, (fun x e => nomatch e)⟩
theorem WayOk.next {h : Nat → Option Nat} {S : Nat → Prop} {f p y : Nat} {way : List Nat} (w : WayOk h S f way p) (hy : h p = some y) (hS : ¬ S p) (hp : p ∉ way) : WayOk h S f (way ++ [p]) y := by
  refine ⟨fun k x e => ?_, ?_, ?_, fun x hx => ?_⟩
  · by_cases hk : k < way.length
    · rw [List.getElem?_append_left hk] at e
      exact w.at_ k x e
    · have hl := (List.getElem?_eq_some_iff.mp e).1
      rw [List.length_append] at hl
      have : k = way.length := by
        have : k < way.length + 1 := hl
        omega
      subst this
      rw [List.getElem?_append_right (Nat.le_refl _), Nat.sub_self] at e
      cases e
      exact w.p
  · rw [List.length_append]
    show (it h way.length f).bind h = some y
    rw [w.p]
    exact hy
  · rw [List.nodup_append]
    refine ⟨w.nd, List.nodup_cons.mpr ⟨(fun z => nomatch z), List.nodup_nil⟩, fun a ha b hb e => ?_⟩
    rw [List.mem_singleton.mp hb] at e
    exact hp (e ▸ ha)
  · rcases List.mem_append.mp hx with hx | hx
    · exact w.s x hx
    · rw [List.mem_singleton.mp hx]; exact hS
/-- what has been seen of the pure rings, behind the places l -/
def SI (g : Nat → Option Nat) (N : Nat) (l : List Nat) (S : Nat → Prop) : Prop := ∀ x, Pc g N x → (S x ↔ ∃ q, q ∈ l ∧ Sm g x q)
/-- the first of its pure ring -/
def Mn (g : Nat → Option Nat) (N : Nat) (l : List Nat) (i : Nat) : Prop := Pc g N i ∧ ∀ q, q ∈ l → ¬ Sm g i q
theorem SI.min {l : List Nat} {i : Nat} {S : Nat → Prop} (h : SI g N l S) : Mn g N l i ↔ Pc g N i ∧ ¬ S i := by
  constructor
  · rintro ⟨h1, h2⟩
    exact ⟨h1, fun hs => by obtain ⟨q, hq, hs2⟩ := (h i h1).mp hs; exact h2 q hq hs2⟩
  · rintro ⟨h1, h2⟩
    exact ⟨h1, fun q hq hs => h2 ((h i h1).mpr ⟨q, hq, hs⟩)⟩
/-- a walk by h, which is g on the pure rings -/
structure WalkOk (g h : Nat → Option Nat) (N : Nat) : Prop where
  hN : ∀ q p, g q = some p → q < N
  sub : ∀ q p, h q = some p → g q = some p
  on : ∀ q, Pc g N q → h q = g q
theorem it_sub {h : Nat → Option Nat} (W : WalkOk g h N) : ∀ {k f x : Nat}, it h k f = some x → it g k f = some x
  | 0, f, x, e => e
  | k + 1, f, x, e => by
    have e1 : (it h k f).bind h = some x := e
    cases h2 : it h k f with
    | none => rw [h2] at e1; cases e1
    | some y =>
      rw [h2] at e1
      show (it g k f).bind g = some x
      rw [it_sub W h2]
      exact W.sub y x e1
theorem it_on {h : Nat → Option Nat} (W : WalkOk g h N) {f : Nat} (hp : Pc g N f) : ∀ k, it h k f = it g k f
  | 0 => rfl
  | k + 1 => by
    show (it h k f).bind h = (it g k f).bind g
    rw [it_on W hp k]
    cases e : it g k f with
    | none => rfl
    | some y => exact W.on y (hp.to ⟨k, e⟩)
/-- none of a pure ring lies on a way that starts off it -/
theorem way_off {h : Nat → Option Nat} (W : WalkOk g h N) : ∀ {k f x : Nat}, it h k f = some x → Pc g N x → Pc g N f ∧ Sm g f x
  | 0, f, x, e, hx => by cases e; exact ⟨hx, 0, rfl⟩
  | k + 1, f, x, e, hx => by
    have e1 : (it h k f).bind h = some x := e
    cases h2 : it h k f with
    | none => rw [h2] at e1; cases e1
    | some y =>
      rw [h2] at e1
      obtain ⟨h3, h4⟩ := hx.pred W.hN (W.sub y x e1)
      obtain ⟨h5, h6⟩ := way_off W h2 h4
      exact ⟨h5, h6.trans ⟨1, by show (some y).bind g = some x; exact W.sub y x e1⟩⟩
theorem it_end {h : Nat → Option Nat} {f p : Nat} {way : List Nat} {S : Nat → Prop} (w : WayOk h S f way p) {k : Nat} (hk : way[k]? = some p) (hne : k ≠ 0) : ∃ a b, a ≠ b ∧ h a = some p ∧ h b = some p := by
  have hkl := (List.getElem?_eq_some_iff.mp hk).1
  obtain ⟨a, ha⟩ : ∃ a, way[k - 1]? = some a := ⟨_, List.getElem?_eq_getElem (by omega)⟩
  obtain ⟨b, hb⟩ : ∃ b, way[way.length - 1]? = some b := ⟨_, List.getElem?_eq_getElem (by omega)⟩
  refine ⟨a, b, fun e => ?_, ?_, ?_⟩
  · subst e
    obtain ⟨q1, q2⟩ := List.getElem?_eq_some_iff.mp ha
    obtain ⟨q3, q4⟩ := List.getElem?_eq_some_iff.mp hb
    rcases Nat.lt_or_ge (k - 1) (way.length - 1) with h1 | h1
    · exact List.pairwise_iff_getElem.mp w.nd _ _ q1 q3 h1 (q2.trans q4.symm)
    · omega
  · have h1 := w.at_ _ _ ha
    have h2 := w.at_ _ _ hk
    rw [show k = k - 1 + 1 by omega] at h2
    have h3 : (it h (k - 1) f).bind h = some p := h2
    rw [h1] at h3
    exact h3
  · have h1 := w.at_ _ _ hb
    have h2 := w.p
    rw [show way.length = way.length - 1 + 1 by omega] at h2
    have h3 : (it h (way.length - 1) f).bind h = some p := h2
    rw [h1] at h3
    exact h3
/-- a way back to its start, over those that one alone gets -/
theorem ring_back {h : Nat → Option Nat} (W : WalkOk g h N) {S : Nat → Prop} {f : Nat} {way : List Nat} (w : WayOk h S f way f) (h1 : way ≠ []) (hu : ∀ x ∈ way, indG g N x = 1) : Pc g N f := by
  have hl : 0 < way.length := List.length_pos_iff.mpr h1
  have hm := it_sub W w.p
  refine ⟨way.length - 1, by rw [show way.length - 1 + 1 = way.length by omega]; exact hm, fun j y hy => ?_⟩
  have e : j = way.length * (j / way.length) + j % way.length := (Nat.div_add_mod j way.length).symm
  rw [e, it_add, it_mul hm] at hy
  have hlt := Nat.mod_lt j hl
  have h3 := it_sub W (w.at_ (j % way.length) way[j % way.length] (List.getElem?_eq_getElem hlt))
  have h4 : it g (j % way.length) f = some y := hy
  rw [h3] at h4
  cases h4
  exact hu _ (List.getElem_mem hlt)
/-- the end of a walk from the first of a pure ring -/
theorem walk_min {h : Nat → Option Nat} (W : WalkOk g h N) {S : Nat → Prop} {l : List Nat} {i p : Nat} {way : List Nat} (si : SI g N l S) (w : WayOk h S i way p) (he : h p = none ∨ S p ∨ p ∈ way) (hm : Mn g N l i) : p = i ∧ way ≠ [] ∧ (∀ x ∈ way, indG g N x = 1) ∧ ∀ x, Sm g i x → x ∈ way := by
  obtain ⟨hp, hS⟩ := si.min.mp hm
  have hsm : Sm g i p := ⟨_, it_sub W w.p⟩
  have hpp := hp.to hsm
  have hall : ∀ x ∈ way, Pc g N x := fun x hx => by
    obtain ⟨k, hk⟩ := List.mem_iff_getElem?.mp hx
    exact hp.to ⟨k, it_sub W (w.at_ k x hk)⟩
  have hpw : p ∈ way := by
    rcases he with he | he | he
    · rw [W.on p hpp] at he
      obtain ⟨k, h1, _⟩ := hpp
      obtain ⟨y, hy⟩ := it_some h1 1
      have : g p = some y := hy
      rw [he] at this
      cases this
    · obtain ⟨q, hq, hs⟩ := (si p hpp).mp he
      exact absurd (hsm.trans hs) (hm.2 q hq)
    · exact he
  obtain ⟨k, hk⟩ := List.mem_iff_getElem?.mp hpw
  have hu : ∀ x ∈ way, indG g N x = 1 := fun x hx => by
    obtain ⟨k, h1, h2⟩ := hall x hx
    exact h2 0 x rfl
  have ek : k = 0 := by
    refine Classical.byContradiction fun hne => ?_
    obtain ⟨a, b, hab, ha, hb⟩ := it_end w hk hne
    exact hab (ind_one W.hN (hu p hpw) (W.sub a p ha) (W.sub b p hb))
  subst ek
  have e0 := w.at_ 0 p hk
  cases e0
  have hne : way ≠ [] := fun e => by rw [e] at hpw; cases hpw
  have hl : 0 < way.length := List.length_pos_iff.mpr hne
  refine ⟨rfl, hne, hu, fun x hx => ?_⟩
  obtain ⟨j, hj⟩ := hx
  have hm2 := it_sub W w.p
  have e : j = way.length * (j / way.length) + j % way.length := (Nat.div_add_mod j way.length).symm
  rw [e, it_add, it_mul hm2] at hj
  have hlt := Nat.mod_lt j hl
  have h3 := it_sub W (w.at_ (j % way.length) way[j % way.length] (List.getElem?_eq_getElem hlt))
  have h4 : it g (j % way.length) i = some x := hj
  rw [h3] at h4
  cases h4
  exact List.getElem_mem hlt
/-- what is seen behind a walk -/
theorem SI.walk {h : Nat → Option Nat} (W : WalkOk g h N) {S : Nat → Prop} {l : List Nat} {i p : Nat} {way : List Nat} (si : SI g N l S) (w : WayOk h S i way p) (he : h p = none ∨ S p ∨ p ∈ way) : SI g N (l ++ [i]) fun x => S x ∨ x ∈ way := by
  intro x hx
  constructor
  · rintro (h1 | h1)
    · obtain ⟨q, hq, hs⟩ := (si x hx).mp h1
      exact ⟨q, List.mem_append_left _ hq, hs⟩
    · obtain ⟨k, hk⟩ := List.mem_iff_getElem?.mp h1
      obtain ⟨h2, h3⟩ := way_off W (w.at_ k x hk) hx
      exact ⟨i, List.mem_append_right _ (List.mem_singleton.mpr rfl), h2.back h3⟩
  · rintro ⟨q, hq, hs⟩
    rcases List.mem_append.mp hq with hq | hq
    · exact .inl ((si x hx).mpr ⟨q, hq, hs⟩)
    · have e := List.mem_singleton.mp hq
      subst e
      have hpi := hx.to hs
      by_cases hS : S q
      · obtain ⟨q2, hq2, hs2⟩ := (si q hpi).mp hS
        exact .inl ((si x hx).mpr ⟨q2, hq2, hs.trans hs2⟩)
      · exact .inr ((walk_min W si w he (si.min.mpr ⟨hpi, hS⟩)).2.2.2 x (hx.back hs))
theorem si_nil : SI g N [] fun _ => False := fun x hx => ⟨fun h => h.elim, fun ⟨q, hq, _⟩ => nomatch hq⟩
/-- how many pure rings, by their first ones -/
noncomputable def cntM (g : Nat → Option Nat) (N : Nat) : List Nat → List Nat → Nat
  | _, [] => 0
  | l, a :: r => (open Classical in if Mn g N l a then 1 else 0) + cntM g N (l ++ [a]) r
theorem mn_filt {c : Nat → Bool} (hc : ∀ q, Pc g N q → c q = true) {l : List Nat} {a : Nat} : Mn g N (l.filter c) a ↔ Mn g N l a := by
  constructor
  · rintro ⟨h1, h2⟩
    exact ⟨h1, fun q hq hs => h2 q (List.mem_filter.mpr ⟨hq, hc q (h1.to hs)⟩) hs⟩
  · rintro ⟨h1, h2⟩
    exact ⟨h1, fun q hq hs => h2 q (List.mem_filter.mp hq).1 hs⟩
theorem cnt_filt {c : Nat → Bool} (hc : ∀ q, Pc g N q → c q = true) : ∀ (r l : List Nat), cntM g N (l.filter c) (r.filter c) = cntM g N l r
  | [], _ => rfl
  | a :: r, l => by
    have ih := cnt_filt hc r (l ++ [a])
    rw [List.filter_append] at ih
    cases e : c a with
    | true =>
      rw [List.filter_cons_of_pos e] at ih ⊢
      rw [List.filter_nil] at ih
      rw [cntM, cntM, ih]
      congr 1
      by_cases h : Mn g N l a
      · rw [if_pos h, if_pos ((mn_filt hc).mpr h)]
      · rw [if_neg h, if_neg (fun z => h ((mn_filt hc).mp z))]
    | false =>
      rw [List.filter_cons_of_neg (by rw [e]; decide)] at ih ⊢
      rw [List.filter_nil, List.append_nil] at ih
      rw [cntM, ih, if_neg (fun z => by have := hc a z.1; rw [e] at this; cases this), Nat.zero_add]
theorem cntM_snoc (a : Nat) : ∀ (r l : List Nat), cntM g N l (r ++ [a]) = cntM g N l r + (open Classical in if Mn g N (l ++ r) a then 1 else 0)
  | [], l => by
    show (open Classical in if Mn g N l a then 1 else 0) + 0 = 0 + _
    rw [List.append_nil]
    omega
  | b :: r, l => by
    show _ + cntM g N (l ++ [b]) (r ++ [a]) = _ + cntM g N (l ++ [b]) r + _
    rw [cntM_snoc a r (l ++ [b]), List.append_assoc]
    show _ + (_ + (open Classical in if Mn g N (l ++ (b :: r)) a then 1 else 0)) = _
    omega
/-- the law's test -/
theorem law_test {h : Nat → Option Nat} (W : WalkOk g h N) {S : Nat → Prop} {l : List Nat} {i p : Nat} {way : List Nat} (si : SI g N l S) (w : WayOk h S i way p) (he : h p = none ∨ S p ∨ p ∈ way) (hu : ∀ q y, h q = some y → indG g N q = 1) : (way ≠ [] ∧ p = i) ↔ Mn g N l i := by
  constructor
  · rintro ⟨h1, rfl⟩
    refine si.min.mpr ⟨ring_back W w h1 fun x hx => ?_, ?_⟩
    · obtain ⟨k, hk⟩ := List.mem_iff_getElem?.mp hx
      have h2 := w.at_ k x hk
      have hkl := (List.getElem?_eq_some_iff.mp hk).1
      by_cases hk1 : k + 1 < way.length
      · have h3 := w.at_ (k + 1) way[k + 1] (List.getElem?_eq_getElem hk1)
        have h4 : (it h k p).bind h = some way[k + 1] := h3
        rw [h2] at h4
        exact hu x _ h4
      · have h3 := w.p
        rw [show way.length = k + 1 by omega] at h3
        have h4 : (it h k p).bind h = some p := h3
        rw [h2] at h4
        exact hu x _ h4
    · have hl : 0 < way.length := List.length_pos_iff.mpr h1
      have h2 := w.at_ 0 way[0] (List.getElem?_eq_getElem hl)
      have h3 : (some p : Option Nat) = some way[0] := h2
      rw [Option.some.inj h3]
      exact w.s _ (List.getElem_mem hl)
  · intro hm
    obtain ⟨h1, h2, _⟩ := walk_min W si w he hm
    exact ⟨h2, h1⟩
/-- the program's test -/
theorem prog_test {h : Nat → Option Nat} (W : WalkOk g h N) {S : Nat → Prop} {l : List Nat} {i p : Nat} {way : List Nat} (si : SI g N l S) (w : WayOk h S i way p) (he : h p = none ∨ S p ∨ p ∈ way) : (∃ k, way[k]? = some p ∧ ∀ x ∈ way.drop k, indG g N x = 1) ↔ Mn g N l i := by
  constructor
  · rintro ⟨k, hk, hu⟩
    have hkl := (List.getElem?_eq_some_iff.mp hk).1
    have hpd : p ∈ way.drop k := List.mem_iff_getElem?.mpr ⟨0, by rw [List.getElem?_drop]; exact hk⟩
    have ek : k = 0 := by
      refine Classical.byContradiction fun hne => ?_
      obtain ⟨a, b, hab, ha, hb⟩ := it_end w hk hne
      exact hab (ind_one W.hN (hu p hpd) (W.sub a p ha) (W.sub b p hb))
    subst ek
    have e0 := w.at_ 0 p hk
    cases e0
    rw [List.drop_zero] at hu
    have hne : way ≠ [] := fun e => by rw [e] at hk; cases hk
    exact si.min.mpr ⟨ring_back W w hne hu, w.s _ (List.mem_of_getElem? hk)⟩
  · intro hm
    obtain ⟨h1, h2, h3, _⟩ := walk_min W si w he hm
    have hl : 0 < way.length := List.length_pos_iff.mpr h2
    have h4 := w.at_ 0 way[0] (List.getElem?_eq_getElem hl)
    have h5 : (some i : Option Nat) = some way[0] := h4
    refine ⟨0, ?_, fun x hx => h3 x (List.mem_of_mem_drop hx)⟩
    rw [h1, Option.some.inj h5]
    exact List.getElem?_eq_getElem hl
/-! ### the rings themselves -/
structure RsI (g : Nat → Option Nat) (rs : List (List Nat)) (S : Nat → Prop) : Prop where
  ne : ∀ r ∈ rs, r ≠ []
  nd : ∀ r ∈ rs, r.Nodup
  nx : ∀ r ∈ rs, ∀ (k x : Nat), r[k]? = some x → g x = r[(k + 1) % r.length]?
  dj : rs.Pairwise fun a b => ∀ x ∈ a, x ∉ b
  sub : ∀ r ∈ rs, ∀ x ∈ r, S x
  cl : ∀ x y, S x → g x = some y → S y ∨ g y = none
  cyc : ∀ x k, S x → it g (k + 1) x = some x → ∃ r ∈ rs, x ∈ r
structure RsOk (g : Nat → Option Nat) (rs : List (List Nat)) : Prop where
  ne : ∀ r ∈ rs, r ≠ []
  nd : ∀ r ∈ rs, r.Nodup
  nx : ∀ r ∈ rs, ∀ (k x : Nat), r[k]? = some x → g x = r[(k + 1) % r.length]?
  dj : rs.Pairwise fun a b => ∀ x ∈ a, x ∉ b
  all : ∀ x k, it g (k + 1) x = some x → ∃ r ∈ rs, x ∈ r
theorem rsI_nil : RsI g [] fun _ => False := ⟨(fun _ h => nomatch h), (fun _ h => nomatch h), (fun _ h => nomatch h), .nil, (fun _ h => nomatch h), (fun _ _ h => h.elim), fun _ _ h => h.elim⟩
theorem RsI.done {rs : List (List Nat)} {S : Nat → Prop} (h : RsI g rs S) (hS : ∀ x, g x ≠ none → S x) : RsOk g rs := by
  refine ⟨h.ne, h.nd, h.nx, h.dj, fun x k hx => h.cyc x k (hS x fun e => ?_) hx⟩
  obtain ⟨y, hy⟩ := it_some hx 1
  have : g x = some y := hy
  rw [e] at this
  cases this
theorem cyc_back {C : Nat → Prop} (hC : ∀ x y, C x → g x = some y → C y ∨ g y = none) {x c k j : Nat} (hx : it g (k + 1) x = some x) (hj : it g j x = some c) (hc : C c) : C x := by
  have key : ∀ d y, it g (j + d) x = some y → C y := by
    intro d
    induction d with
    | zero =>
      intro y hy
      rw [Nat.add_zero, hj] at hy
      cases hy
      exact hc
    | succ d ih =>
      intro y hy
      have e : (it g (j + d) x).bind g = some y := hy
      cases hz : it g (j + d) x with
      | none => rw [hz] at e; cases e
      | some z =>
        rw [hz] at e
        rcases hC z y (ih z hz) e with h | h
        · exact h
        · obtain ⟨u, hu⟩ := it_some hx (j + (d + 1) + 1)
          have e2 : (it g (j + (d + 1)) x).bind g = some u := hu
          rw [hy] at e2
          have e3 : g y = some u := e2
          rw [h] at e3
          cases e3
  have h1 := it_mul hx j
  have hle : j ≤ (k + 1) * j := Nat.le_mul_of_pos_left j (Nat.succ_pos k)
  exact key ((k + 1) * j - j) x (by rw [show j + ((k + 1) * j - j) = (k + 1) * j by omega]; exact h1)
theorem way_next {h : Nat → Option Nat} {S : Nat → Prop} {f p : Nat} {way : List Nat} (w : WayOk h S f way p) {k x : Nat} (hk : way[k]? = some x) : (k + 1 < way.length ∧ h x = way[k + 1]?) ∨ (k + 1 = way.length ∧ h x = some p) := by
  have hkl := (List.getElem?_eq_some_iff.mp hk).1
  have h1 := w.at_ k x hk
  by_cases hl : k + 1 < way.length
  · refine .inl ⟨hl, ?_⟩
    have h2 := w.at_ (k + 1) way[k + 1] (List.getElem?_eq_getElem hl)
    have h3 : (it h k f).bind h = some way[k + 1] := h2
    rw [h1] at h3
    rw [List.getElem?_eq_getElem hl]
    exact h3
  · refine .inr ⟨by omega, ?_⟩
    have h2 := w.p
    rw [show way.length = k + 1 by omega] at h2
    have h3 : (it h k f).bind h = some p := h2
    rw [h1] at h3
    exact h3
theorem RsI.walk {rs : List (List Nat)} {S : Nat → Prop} {way : List Nat} {i p : Nat} (h : RsI g rs S) (w : WayOk g S i way p) (he : g p = none ∨ S p ∨ p ∈ way) :
    (p ∉ way → RsI g rs fun x => S x ∨ x ∈ way) ∧ ∀ k, way[k]? = some p → RsI g (rs ++ [way.drop k]) fun x => S x ∨ x ∈ way := by
  have ecl : ∀ x y, (S x ∨ x ∈ way) → g x = some y → (S y ∨ y ∈ way) ∨ g y = none := by
    intro x y hx hy
    rcases hx with hx | hx
    · exact (h.cl x y hx hy).imp .inl id
    · obtain ⟨k, hk⟩ := List.mem_iff_getElem?.mp hx
      rcases way_next w hk with ⟨h1, h2⟩ | ⟨h1, h2⟩
      · rw [h2] at hy
        exact .inl (.inr (List.mem_of_getElem? hy))
      · rw [h2] at hy
        cases hy
        rcases he with he | he | he
        · exact .inr he
        · exact .inl (.inl he)
        · exact .inl (.inr he)
  have reach : ∀ {k x : Nat}, way[k]? = some x → it g (way.length - k) x = some p := fun {k x} hk => by
    have hkl := (List.getElem?_eq_some_iff.mp hk).1
    have h1 := w.p
    rw [show way.length = k + (way.length - k) by omega, it_add, w.at_ k x hk] at h1
    exact h1
  constructor
  · intro hp
    refine ⟨h.ne, h.nd, h.nx, h.dj, fun r hr x hx => .inl (h.sub r hr x hx), ecl, fun x k hx hk => ?_⟩
    rcases hx with hx | hx
    · exact h.cyc x k hx hk
    · obtain ⟨j, hj⟩ := List.mem_iff_getElem?.mp hx
      have hr := reach hj
      rcases he with he | he | he
      · obtain ⟨u, hu⟩ := it_some hk (way.length - j + 1)
        have e2 : (it g (way.length - j) x).bind g = some u := hu
        rw [hr] at e2
        have e3 : g p = some u := e2
        rw [he] at e3
        cases e3
      · exact absurd (cyc_back h.cl hk hr he) (w.s x hx)
      · exact absurd he hp
  · intro k hk
    have hkl := (List.getElem?_eq_some_iff.mp hk).1
    have hsub : ∀ x ∈ way.drop k, x ∈ way := fun x hx => List.mem_of_mem_drop hx
    have hnx : ∀ (a x : Nat), (way.drop k)[a]? = some x → g x = (way.drop k)[(a + 1) % (way.drop k).length]? := by
      intro a x ha
      rw [List.getElem?_drop] at ha
      have hal := (List.getElem?_eq_some_iff.mp ha).1
      rw [List.length_drop, List.getElem?_drop]
      rcases way_next w ha with ⟨h1, h2⟩ | ⟨h1, h2⟩
      · rw [Nat.mod_eq_of_lt (by omega), h2]
        congr 1
      · rw [show a + 1 = way.length - k by omega, Nat.mod_self, Nat.add_zero, hk, h2]
    refine ⟨fun r hr => ?_, fun r hr => ?_, fun r hr => ?_, ?_, fun r hr x hx => ?_, ecl, fun x m hx hm => ?_⟩
    · rcases List.mem_append.mp hr with hr | hr
      · exact h.ne r hr
      · rw [List.mem_singleton.mp hr]
        intro e
        have := congrArg List.length e
        rw [List.length_drop] at this
        simp at this
        omega
    · rcases List.mem_append.mp hr with hr | hr
      · exact h.nd r hr
      · rw [List.mem_singleton.mp hr]
        exact w.nd.sublist (List.drop_sublist k way)
    · rcases List.mem_append.mp hr with hr | hr
      · exact h.nx r hr
      · rw [List.mem_singleton.mp hr]
        exact hnx
    · rw [List.pairwise_append]
      refine ⟨h.dj, List.pairwise_singleton _ _, fun a ha b hb x hx hxb => ?_⟩
      rw [List.mem_singleton.mp hb] at hxb
      exact w.s x (hsub x hxb) (h.sub a ha x hx)
    · rcases List.mem_append.mp hr with hr | hr
      · exact .inl (h.sub r hr x hx)
      · rw [List.mem_singleton.mp hr] at hx
        exact .inr (hsub x hx)
    · rcases hx with hx | hx
      · obtain ⟨r, h1, h2⟩ := h.cyc x m hx hm
        exact ⟨r, List.mem_append_left _ h1, h2⟩
      · obtain ⟨j, hj⟩ := List.mem_iff_getElem?.mp hx
        refine ⟨way.drop k, List.mem_append_right _ (List.mem_singleton.mpr rfl), cyc_back (C := fun x => x ∈ way.drop k) (fun a b ha hab => ?_) hm (reach hj) (List.mem_iff_getElem?.mpr ⟨0, by rw [List.getElem?_drop]; exact hk⟩)⟩
        obtain ⟨c, hc⟩ := List.mem_iff_getElem?.mp ha
        rw [hnx c a hc] at hab
        exact .inl (List.mem_of_getElem? hab)
theorem RsOk.got {rs : List (List Nat)} (h : RsOk g rs) {r : List Nat} (hr : r ∈ rs) {x : Nat} (hx : x ∈ r) : ∃ y ∈ r, g y = some x := by
  obtain ⟨k, hk⟩ := List.mem_iff_getElem?.mp hx
  have hkl := (List.getElem?_eq_some_iff.mp hk).1
  obtain ⟨j, hj, ej⟩ : ∃ j, j < r.length ∧ (j + 1) % r.length = k := by
    by_cases h0 : k = 0
    · exact ⟨r.length - 1, by omega, by rw [show r.length - 1 + 1 = r.length by omega, Nat.mod_self, h0]⟩
    · exact ⟨k - 1, by omega, by rw [show k - 1 + 1 = k by omega, Nat.mod_eq_of_lt hkl]⟩
  refine ⟨r[j], List.getElem_mem hj, ?_⟩
  rw [h.nx r hr j r[j] (List.getElem?_eq_getElem hj), ej, hk]
theorem filt_more {N : Nat} {c c' : Nat → Bool} {way : List Nat} (hn : way.Nodup) (hw : ∀ x ∈ way, x < N ∧ c x = false) (hc : ∀ x, c' x = (c x || decide (x ∈ way))) : ((List.range N).filter c').length = ((List.range N).filter c).length + way.length := by
  rw [← List.length_append]
  refine List.Perm.length_eq ((List.perm_ext_iff_of_nodup (List.Nodup.sublist List.filter_sublist List.nodup_range) (List.nodup_append.mpr ⟨List.Nodup.sublist List.filter_sublist List.nodup_range, hn, fun a ha b hb e => ?_⟩)).mpr fun x => ?_)
  · subst e
    have := (List.mem_filter.mp ha).2
    rw [(hw a hb).2] at this
    cases this
  · rw [List.mem_append, List.mem_filter, List.mem_filter, hc, List.mem_range]
    constructor
    · rintro ⟨h1, h2⟩
      rcases Bool.or_eq_true_iff.mp h2 with h | h
      · exact .inl ⟨h1, h⟩
      · exact .inr (of_decide_eq_true h)
    · rintro (⟨h1, h2⟩ | h)
      · exact ⟨h1, by rw [h2]; rfl⟩
      · exact ⟨(hw x h).1, by rw [decide_eq_true h, Bool.or_true]⟩
/-- how many places of pure rings are seen -/
noncomputable def witS (g : Nat → Option Nat) (N : Nat) (S : Nat → Prop) : Nat := ((List.range N).filter fun x => @decide (Pc g N x ∧ S x) (Classical.propDecidable _)).length
theorem wit_step {h : Nat → Option Nat} (W : WalkOk g h N) {S : Nat → Prop} {l : List Nat} {i p : Nat} {way : List Nat} (si : SI g N l S) (w : WayOk h S i way p) (he : h p = none ∨ S p ∨ p ∈ way) :
    witS g N (fun x => S x ∨ x ∈ way) = witS g N S + (open Classical in if Mn g N l i then way.length else 0) := by
  unfold witS
  by_cases hm : Mn g N l i
  · rw [if_pos hm]
    obtain ⟨h1, h2, h3, h4⟩ := walk_min W si w he hm
    have hpi := hm.1
    have hall : ∀ x ∈ way, Pc g N x := fun x hx => by
      obtain ⟨k, hk⟩ := List.mem_iff_getElem?.mp hx
      exact hpi.to ⟨k, it_sub W (w.at_ k x hk)⟩
    refine filt_more w.nd (fun x hx => ⟨?_, ?_⟩) fun x => ?_
    · obtain ⟨k, hk, _⟩ := hall x hx
      obtain ⟨y, hy⟩ := it_some hk 1
      exact W.hN x y hy
    · exact @decide_eq_false _ (Classical.propDecidable _) fun z => w.s x hx z.2
    · rw [Bool.eq_iff_iff, Bool.or_eq_true, @decide_eq_true_eq _ (Classical.propDecidable _), @decide_eq_true_eq _ (Classical.propDecidable _), decide_eq_true_eq]
      constructor
      · rintro ⟨h1, h2 | h2⟩
        · exact .inl ⟨h1, h2⟩
        · exact .inr h2
      · rintro (⟨h1, h2⟩ | h2)
        · exact ⟨h1, .inl h2⟩
        · exact ⟨hall x h2, .inr h2⟩
  · rw [if_neg hm, Nat.add_zero]
    congr 1
    refine List.filter_congr fun x hx => ?_
    rw [Bool.eq_iff_iff, @decide_eq_true_eq _ (Classical.propDecidable _), @decide_eq_true_eq _ (Classical.propDecidable _)]
    constructor
    · rintro ⟨h1, h2 | h2⟩
      · exact ⟨h1, h2⟩
      · exfalso
        obtain ⟨k, hk⟩ := List.mem_iff_getElem?.mp h2
        obtain ⟨h3, h4⟩ := way_off W (w.at_ k x hk) h1
        have hl : 0 < way.length := List.length_pos_iff.mpr fun e => by rw [e] at h2; cases h2
        have h5 := w.at_ 0 way[0] (List.getElem?_eq_getElem hl)
        have h6 : (some i : Option Nat) = some way[0] := h5
        refine hm (si.min.mpr ⟨h3, ?_⟩)
        rw [Option.some.inj h6]
        exact w.s _ (List.getElem_mem hl)
    · rintro ⟨h1, h2⟩
      exact ⟨h1, .inl h2⟩
end
end R

namespace R
open PySem PySem.Spec PyProof.Rows L2
/-! ### a change's cells as ways and rings -/
section
variable {cs : List V} {n : Nat}
/-- the place that a cell gets, when it gets another one -/
def gC (cs : List V) (p : Nat) : Option Nat := match cs[p]? with
  | some (.int i) => if i = (p : Nat) then none else some i.toNat
  | _ => none
def chgC (cs : List V) (p : Nat) : Bool := !decide (cs[p]? = some (.int (p : Nat)))
def chL (cs : List V) : List Nat := (List.range cs.length).filter (chgC cs)
theorem gC_some (hc : ∀ v ∈ cs, CellOk n v) {q p : Nat} : gC cs q = some p ↔ cs[q]? = some (.int (p : Nat)) ∧ p ≠ q := by
  unfold gC
  cases e : cs[q]? with
  | none => simp
  | some v =>
    rcases hc v (List.mem_of_getElem? e) with ⟨i, rfl, hi⟩ | ⟨c, rfl, hcc⟩
    · show (if ((i : Nat) : Int) = (q : Nat) then none else some ((i : Nat) : Int).toNat) = some p ↔ _
      by_cases h : ((i : Nat) : Int) = (q : Nat)
      · rw [if_pos h]
        constructor
        · intro z; cases z
        · rintro ⟨h1, h2⟩
          have h3 := V.int.inj (Option.some.inj h1)
          exact absurd (by omega) h2
      · rw [if_neg h, Int.toNat_natCast]
        constructor
        · intro z
          have := Option.some.inj z
          subst this
          exact ⟨rfl, fun e => h (by rw [e])⟩
        · rintro ⟨h1, h2⟩
          have h3 := V.int.inj (Option.some.inj h1)
          rw [show i = p by omega]
    · simp
theorem gC_lt (hc : ∀ v ∈ cs, CellOk n v) {q p : Nat} (h : gC cs q = some p) : q < cs.length ∧ p < n := by
  obtain ⟨h1, h2⟩ := (gC_some hc).mp h
  refine ⟨(List.getElem?_eq_some_iff.mp h1).1, ?_⟩
  rcases hc _ (List.mem_of_getElem? h1) with ⟨i, e, hi⟩ | ⟨c, e, _⟩
  · have := V.int.inj e
    omega
  · cases e
theorem gC_chg (hc : ∀ v ∈ cs, CellOk n v) {q p : Nat} (h : gC cs q = some p) : chgC cs q = true := by
  obtain ⟨h1, h2⟩ := (gC_some hc).mp h
  unfold chgC
  rw [h1]
  rw [decide_eq_false (fun z => h2 (by have := V.int.inj (Option.some.inj z); omega))]
  rfl
theorem gC_isSome {p : Nat} {v : V} (h : cs[p]? = some v) : (gC cs p).isSome = (match (generalizing := false) v with | .int i => !decide (i = (p : Nat)) | _ => false) := by
  have e : gC cs p = match some v with | some (.int i) => if i = (p : Nat) then none else some i.toNat | _ => none := by unfold gC; rw [h]
  rw [e]
  clear h
  cases v with
  | int i =>
    show (if i = (p : Nat) then (none : Option Nat) else some i.toNat).isSome = !decide (i = (p : Nat))
    by_cases e : i = (p : Nat)
    · rw [if_pos e, decide_eq_true e]; rfl
    · rw [if_neg e, decide_eq_false e]; rfl
  | _ => rfl
theorem gC_out {p : Nat} (h : cs.length ≤ p) : gC cs p = none := by
  unfold gC
  rw [List.getElem?_eq_none h]
/-- how many get each place -/
def rdT (cs : List V) (n : Nat) (l : List Nat) : List Nat := (List.range n).map fun p => (l.filter fun q => decide (gC cs q = some p)).length
def rdN (cs : List V) (n : Nat) : List Nat := (List.range n).map (indG (gC cs) cs.length)
theorem rdT_nil (cs : List V) (n : Nat) : rdT cs n [] = List.replicate n 0 := by
  unfold rdT
  rw [show (fun p => (([] : List Nat).filter fun q => decide (gC cs q = some p)).length) = fun _ => 0 from rfl, List.map_const', List.length_range]
theorem rdT_len (cs : List V) (n : Nat) (l : List Nat) : (rdT cs n l).length = n := by unfold rdT; rw [List.length_map, List.length_range]
theorem rdT_get (cs : List V) {n : Nat} (l : List Nat) {p : Nat} (h : p < n) : (rdT cs n l)[p]? = some (l.filter fun q => decide (gC cs q = some p)).length := by
  unfold rdT
  rw [List.getElem?_map, List.getElem?_range h]
  rfl
theorem rdT_no {l : List Nat} {q : Nat} (h : gC cs q = none) : rdT cs n (l ++ [q]) = rdT cs n l := by
  unfold rdT
  refine List.map_congr_left fun p hp => ?_
  rw [List.filter_append, List.length_append, List.filter_cons_of_neg (by rw [h]; simp), List.filter_nil]
  rfl
theorem rdT_yes {l : List Nat} {q p : Nat} (h : gC cs q = some p) (hp : p < n) : rdT cs n (l ++ [q]) = (rdT cs n l).set p ((l.filter fun q => decide (gC cs q = some p)).length + 1) := by
  refine List.ext_getElem? fun i => ?_
  by_cases hi : i < n
  · rw [rdT_get _ _ hi, List.getElem?_set, rdT_len]
    by_cases e : p = i
    · subst e
      rw [if_pos rfl, if_pos hp, List.filter_append, List.length_append, List.filter_cons_of_pos (by rw [h]; simp)]
      rfl
    · rw [if_neg e, rdT_get _ _ hi, List.filter_append, List.length_append, List.filter_cons_of_neg (by rw [h]; simpa using e)]
      rfl
  · rw [List.getElem?_eq_none (by rw [rdT_len]; omega), List.getElem?_eq_none (by rw [List.length_set, rdT_len]; omega)]
theorem rdT_range (cs : List V) (n : Nat) : rdT cs n (List.range cs.length) = rdN cs n := rfl
theorem rdT_chL (hc : ∀ v ∈ cs, CellOk n v) : rdT cs n (chL cs) = rdN cs n := by
  unfold rdT rdN indG chL
  refine List.map_congr_left fun p hp => ?_
  rw [List.filter_filter]
  congr 1
  refine List.filter_congr fun q hq => ?_
  rw [Bool.eq_iff_iff, Bool.and_eq_true, decide_eq_true_eq]
  exact ⟨fun h => h.1, fun h => ⟨h, gC_chg hc h⟩⟩
theorem rdN_get (cs : List V) {n p : Nat} (h : p < n) : (rdN cs n)[p]? = some (indG (gC cs) cs.length p) := by
  unfold rdN
  rw [List.getElem?_map, List.getElem?_range h]
  rfl
theorem rdN_len (cs : List V) (n : Nat) : (rdN cs n).length = n := by unfold rdN; rw [List.length_map, List.length_range]
theorem ind_le (g : Nat → Option Nat) (N p : Nat) : indG g N p ≤ N := by
  unfold indG
  have := List.length_filter_le (fun q => decide (g q = some p)) (List.range N)
  rw [List.length_range] at this
  exact this
theorem ch_len (cs : List V) : (chL cs).length ≤ cs.length := by
  have := List.length_filter_le (chgC cs) (List.range cs.length)
  rw [List.length_range] at this
  exact this
theorem ch_mem {q : Nat} : q ∈ chL cs ↔ q < cs.length ∧ chgC cs q = true := by unfold chL; rw [List.mem_filter, List.mem_range]
theorem walkG (hc : ∀ v ∈ cs, CellOk n v) : WalkOk (gC cs) (gC cs) cs.length := ⟨fun q p h => (gC_lt hc h).1, fun _ _ h => h, fun _ _ => rfl⟩
/-- the law's walk: only over those that one alone gets -/
def hC (cs : List V) (p : Nat) : Option Nat := if indG (gC cs) cs.length p = 1 then gC cs p else none
theorem walkH (hc : ∀ v ∈ cs, CellOk n v) : WalkOk (gC cs) (hC cs) cs.length := by
  refine ⟨fun q p h => (gC_lt hc h).1, fun q p h => ?_, fun q hq => ?_⟩
  · unfold hC at h
    split at h
    · exact h
    · cases h
  · obtain ⟨k, h1, h2⟩ := hq
    unfold hC
    rw [if_pos (h2 0 q rfl)]
theorem hC_one {q y : Nat} (h : hC cs q = some y) : indG (gC cs) cs.length q = 1 := by
  unfold hC at h
  split at h
  · assumption
  · cases h
noncomputable def purC (cs : List V) : Nat := cntM (gC cs) cs.length [] (List.range cs.length)
noncomputable def witC (cs : List V) : Nat := witS (gC cs) cs.length fun _ => True
theorem pur_ch (hc : ∀ v ∈ cs, CellOk n v) : cntM (gC cs) cs.length [] (chL cs) = purC cs := by
  have h : ∀ q, Pc (gC cs) cs.length q → chgC cs q = true := fun q hq => by
    obtain ⟨k, h1, _⟩ := hq
    obtain ⟨y, hy⟩ := it_some h1 1
    exact gC_chg hc hy
  exact cnt_filt h (List.range cs.length) []
def pureB (cs : List V) (r : List Nat) : Bool := r.all fun x => decide (indG (gC cs) cs.length x = 1)
structure RgsOk (cs : List V) (rs : List (List Nat)) : Prop where
  ok : RsOk (gC cs) rs
  pur : (rs.filter (pureB cs)).length = purC cs
def rgD (rs : List (List Nat)) : PyData := .list (rs.map fun r => .list (r.map fun (x : Nat) => .int (x : Nat)))
theorem RgsOk.lt {rs : List (List Nat)} (h : RgsOk cs rs) (hc : ∀ v ∈ cs, CellOk n v) {r : List Nat} (hr : r ∈ rs) {x : Nat} (hx : x ∈ r) : x < n ∧ x < cs.length := by
  obtain ⟨y, hy, hg⟩ := h.ok.got hr hx
  obtain ⟨k, hk⟩ := List.mem_iff_getElem?.mp hx
  have h1 := h.ok.nx r hr k x hk
  have hl : 0 < r.length := List.length_pos_iff.mpr (h.ok.ne r hr)
  have h2 := Nat.mod_lt (k + 1) hl
  rw [List.getElem?_eq_getElem h2] at h1
  exact ⟨(gC_lt hc hg).2, (gC_lt hc h1).1⟩
/-- the turn of the walk through all rings -/
structure RgI (cs : List V) (l : List Nat) (rs : List (List Nat)) (S : Nat → Prop) : Prop where
  r : RsI (gC cs) rs S
  si : SI (gC cs) cs.length l S
  pur : (rs.filter (pureB cs)).length = cntM (gC cs) cs.length [] l
  al : ∀ q ∈ l, gC cs q ≠ none → S q
theorem rgI_nil (cs : List V) : RgI cs [] [] fun _ => False := ⟨rsI_nil, si_nil, rfl, fun _ h => nomatch h⟩
theorem RgI.step (hc : ∀ v ∈ cs, CellOk n v) {l : List Nat} {rs : List (List Nat)} {S : Nat → Prop} {way : List Nat} {i p : Nat} (h : RgI cs l rs S) (w : WayOk (gC cs) S i way p) (he : gC cs p = none ∨ S p ∨ p ∈ way) :
    (p ∉ way → RgI cs (l ++ [i]) rs fun x => S x ∨ x ∈ way) ∧ ∀ k, way[k]? = some p → RgI cs (l ++ [i]) (rs ++ [way.drop k]) fun x => S x ∨ x ∈ way := by
  have hst := h.r.walk w he
  have hal : ∀ q ∈ l ++ [i], gC cs q ≠ none → S q ∨ q ∈ way := fun q hq hg => by
    rcases List.mem_append.mp hq with hq | hq
    · exact .inl (h.al q hq hg)
    · rw [List.mem_singleton.mp hq] at hg ⊢
      by_cases hl : 0 < way.length
      · have h5 := w.at_ 0 way[0] (List.getElem?_eq_getElem hl)
        have h6 : (some i : Option Nat) = some way[0] := h5
        rw [Option.some.inj h6]
        exact .inr (List.getElem_mem hl)
      · have h0 : way = [] := List.length_eq_zero_iff.mp (by omega)
        subst h0
        have h6 : (some i : Option Nat) = some p := w.p
        have h7 := Option.some.inj h6
        subst h7
        rcases he with he | he | he
        · exact absurd he hg
        · exact .inl he
        · cases he
  have ht := prog_test (walkG hc) h.si w he
  refine ⟨fun hp => ⟨hst.1 hp, h.si.walk (walkG hc) w he, ?_, hal⟩, fun k hk => ⟨hst.2 k hk, h.si.walk (walkG hc) w he, ?_, hal⟩⟩
  · rw [cntM_snoc, ← h.pur, List.nil_append, if_neg (fun z => by obtain ⟨k, hk, _⟩ := ht.mpr z; exact hp (List.mem_of_getElem? hk))]
    rfl
  · rw [cntM_snoc, ← h.pur, List.filter_append, List.length_append, List.nil_append]
    congr 1
    by_cases e : pureB cs (way.drop k) = true
    · rw [List.filter_cons_of_pos e, if_pos (ht.mp ⟨k, hk, fun x hx => of_decide_eq_true (List.all_eq_true.mp e x hx)⟩)]
      rfl
    · have hz : ¬ Mn (gC cs) cs.length l i := fun z => by
        obtain ⟨k2, hk2, hu⟩ := ht.mpr z
        have hkl := (List.getElem?_eq_some_iff.mp hk).1
        have hkl2 := (List.getElem?_eq_some_iff.mp hk2).1
        have : k2 = k := by
          have e1 := (List.getElem?_eq_some_iff.mp hk).2
          have e2 := (List.getElem?_eq_some_iff.mp hk2).2
          rcases Nat.lt_trichotomy k k2 with h1 | h1 | h1
          · exact absurd (e1.trans e2.symm) (List.pairwise_iff_getElem.mp w.nd _ _ hkl hkl2 h1)
          · exact h1.symm
          · exact absurd (e2.trans e1.symm) (List.pairwise_iff_getElem.mp w.nd _ _ hkl2 hkl h1)
        subst this
        exact e (List.all_eq_true.mpr fun x hx => decide_eq_true (hu x hx))
      rw [List.filter_cons_of_neg e, if_neg hz]
      rfl
theorem RgI.done (hc : ∀ v ∈ cs, CellOk n v) {rs : List (List Nat)} {S : Nat → Prop} (h : RgI cs (chL cs) rs S) : RgsOk cs rs := by
  refine ⟨h.r.done fun x hx => ?_, by rw [h.pur, pur_ch hc]⟩
  cases e : gC cs x with
  | none => exact absurd e hx
  | some y => exact h.al x (ch_mem.mpr ⟨(gC_lt hc e).1, gC_chg hc e⟩) hx
/-- the law's turns -/
structure LpI (cs : List V) (l : List Nat) (rings within : Nat) (S : Nat → Prop) : Prop where
  si : SI (gC cs) cs.length l S
  r : rings = cntM (gC cs) cs.length [] l
  w : within = witS (gC cs) cs.length S
theorem lpI_nil (cs : List V) : LpI cs [] 0 0 fun _ => False := by
  refine ⟨si_nil, rfl, ?_⟩
  unfold witS
  rw [List.filter_eq_nil_iff.mpr (fun x _ z => ((@decide_eq_true_eq _ (Classical.propDecidable _)).mp z).2)]
  rfl
theorem LpI.step (hc : ∀ v ∈ cs, CellOk n v) {l : List Nat} {rings within : Nat} {S : Nat → Prop} {way : List Nat} {i p : Nat} (h : LpI cs l rings within S) (w : WayOk (hC cs) S i way p) (he : hC cs p = none ∨ S p ∨ p ∈ way) :
    ((way ≠ [] ∧ p = i) → LpI cs (l ++ [i]) (rings + 1) (within + way.length) fun x => S x ∨ x ∈ way) ∧ (¬ (way ≠ [] ∧ p = i) → LpI cs (l ++ [i]) rings within fun x => S x ∨ x ∈ way) := by
  have ht := law_test (walkH hc) h.si w he fun q y hq => hC_one hq
  have hw := wit_step (walkH hc) h.si w he
  constructor
  · intro z
    refine ⟨h.si.walk (walkH hc) w he, ?_, ?_⟩
    · rw [cntM_snoc, h.r, List.nil_append, if_pos (ht.mp z)]
    · rw [hw, h.w, if_pos (ht.mp z)]
  · intro z
    refine ⟨h.si.walk (walkH hc) w he, ?_, ?_⟩
    · rw [cntM_snoc, h.r, List.nil_append, if_neg (fun y => z (ht.mpr y))]
      rfl
    · rw [hw, h.w, if_neg (fun y => z (ht.mpr y))]
      rfl
theorem LpI.done {rings within : Nat} {S : Nat → Prop} (hc : ∀ v ∈ cs, CellOk n v) (h : LpI cs (List.range cs.length) rings within S) : rings = purC cs ∧ within = witC cs := by
  refine ⟨h.r, ?_⟩
  rw [h.w]
  unfold witC witS
  congr 1
  refine List.filter_congr fun x hx => ?_
  rw [Bool.eq_iff_iff, @decide_eq_true_eq _ (Classical.propDecidable _), @decide_eq_true_eq _ (Classical.propDecidable _)]
  constructor
  · rintro ⟨h1, _⟩
    exact ⟨h1, trivial⟩
  · rintro ⟨h1, _⟩
    exact ⟨h1, (h.si x h1).mpr ⟨x, hx, 0, rfl⟩⟩
end
def rngD (r : List Nat) : PyData := .list (r.map fun (x : Nat) => .int (x : Nat))
/-- what a dict of places seen holds -/
structure SnOk (cs : List V) (kvs : List (Key × V)) (sl : List Nat) : Prop where
  nd : sl.Nodup
  lt : ∀ x ∈ sl, x < cs.length
  len : kvs.length ≤ sl.length
  k : ∀ x : Nat, (valV kvs (.inl (x : Int))).isSome = decide (x ∈ sl)
theorem snOk_nil (cs : List V) : SnOk cs [] [] := ⟨List.nodup_nil, (fun _ h => nomatch h), Nat.le_refl _, fun _ => rfl⟩
/-- .. and on a way -/
structure SnW (cs : List V) (kvs : List (Key × V)) (sl way : List Nat) : Prop where
  s : SnOk cs kvs (sl ++ way)
  w : ∀ k x : Nat, way[k]? = some x → valV kvs (.inl (x : Int)) = some (.int (k : Nat))
theorem SnOk.way {cs : List V} {kvs : List (Key × V)} {sl : List Nat} (h : SnOk cs kvs sl) : SnW cs kvs sl [] := ⟨by rw [List.append_nil]; exact h, fun k x e => by simp at e⟩
theorem SnOk.le {cs : List V} {kvs : List (Key × V)} {sl : List Nat} (h : SnOk cs kvs sl) : sl.length ≤ cs.length := nodup_lt _ _ h.nd h.lt
theorem SnW.next {cs : List V} {kvs : List (Key × V)} {sl way : List Nat} {p : Nat} (h : SnW cs kvs sl way) (hp : p < cs.length) (hn : p ∉ sl ++ way) : SnW cs (putK kvs (.inl (p : Int)) (.int (way.length : Nat))) sl (way ++ [p]) := by
  have hv : ∀ x : Nat, valV (putK kvs (.inl (p : Int)) (.int (way.length : Nat))) (.inl (x : Int)) = if x = p then some (.int (way.length : Nat)) else valV kvs (.inl (x : Int)) := fun x => by
    rw [valV_put]
    by_cases e : x = p
    · rw [if_pos (by rw [e]), if_pos e]
    · rw [if_neg (by intro z; exact e (by have := Sum.inl.inj z; omega)), if_neg e]
  refine ⟨⟨?_, fun x hx => ?_, ?_, fun x => ?_⟩, fun k x hk => ?_⟩
  · rw [← List.append_assoc, List.nodup_append]
    exact ⟨h.s.nd, List.nodup_cons.mpr ⟨(fun z => nomatch z), List.nodup_nil⟩, fun a ha b hb e => hn (by rw [List.mem_singleton.mp hb] at e; exact e ▸ ha)⟩
  · rw [← List.append_assoc] at hx
    rcases List.mem_append.mp hx with hx | hx
    · exact h.s.lt x hx
    · rw [List.mem_singleton.mp hx]; exact hp
  · have h1 := length_putK kvs (.inl (p : Int)) (.int (way.length : Nat))
    have h2 := h.s.len
    rw [← List.append_assoc, List.length_append]
    show _ ≤ _ + 1
    omega
  · rw [hv, ← List.append_assoc]
    by_cases e : x = p
    · rw [if_pos e, e, decide_eq_true (List.mem_append_right _ (List.mem_singleton.mpr rfl))]
      rfl
    · rw [if_neg e, h.s.k, decide_eq_decide]
      constructor
      · exact fun z => List.mem_append_left _ z
      · intro z
        rcases List.mem_append.mp z with z | z
        · exact z
        · exact absurd (List.mem_singleton.mp z) e
  · rw [hv]
    by_cases hkl : k < way.length
    · rw [List.getElem?_append_left hkl] at hk
      rw [if_neg (fun (e : x = p) => hn (List.mem_append_right _ (e ▸ List.mem_of_getElem? hk)))]
      exact h.w k x hk
    · have hl := (List.getElem?_eq_some_iff.mp hk).1
      rw [List.length_append] at hl
      have : k = way.length := by
        have : k < way.length + 1 := hl
        omega
      subst this
      rw [List.getElem?_append_right (Nat.le_refl _), Nat.sub_self] at hk
      cases hk
      rw [if_pos rfl]
theorem SnOk.put {cs : List V} {kvs : List (Key × V)} {sl : List Nat} {p : Nat} {v : V} (h : SnOk cs kvs sl) (hp : p < cs.length) (hn : p ∉ sl) : SnOk cs (putK kvs (.inl (p : Int)) v) (sl ++ [p]) := by
  refine ⟨List.nodup_append.mpr ⟨h.nd, List.nodup_cons.mpr ⟨(fun z => nomatch z), List.nodup_nil⟩, fun a ha b hb e => hn (by rw [List.mem_singleton.mp hb] at e; exact e ▸ ha)⟩, fun x hx => ?_, ?_, fun x => ?_⟩
  · rcases List.mem_append.mp hx with hx | hx
    · exact h.lt x hx
    · rw [List.mem_singleton.mp hx]; exact hp
  · have h1 := length_putK kvs (.inl (p : Int)) v
    have h2 := h.len
    rw [List.length_append]
    show _ ≤ _ + 1
    omega
  · rw [valV_put]
    by_cases e : x = p
    · rw [if_pos (by rw [e]), e, decide_eq_true (List.mem_append_right _ (List.mem_singleton.mpr rfl))]
      rfl
    · rw [if_neg (by intro z; exact e (by have := Sum.inl.inj z; omega)), h.k, decide_eq_decide]
      constructor
      · exact fun z => List.mem_append_left _ z
      · intro z
        rcases List.mem_append.mp z with z | z
        · exact z
        · exact absurd (List.mem_singleton.mp z) e
theorem hC_out {cs : List V} {n p : Nat} (hc : ∀ v ∈ cs, CellOk n v) (h : n ≤ p) : hC cs p = none := by
  unfold hC
  split
  · rename_i h1
    exfalso
    unfold indG at h1
    obtain ⟨q, hq⟩ := List.length_eq_one_iff.mp h1
    have hm : q ∈ (List.range cs.length).filter fun q => decide (gC cs q = some p) := by rw [hq]; exact List.mem_singleton.mpr rfl
    have := (gC_lt hc (of_decide_eq_true (List.mem_filter.mp hm).2)).2
    omega
  · rfl
theorem pick_nat {rs : List Nat} {i : Int} (h0 : 0 ≤ i) (h1 : i < (rs.length : Int)) : ∃ x, x ∈ rs ∧ atI (rs.map fun (k : Nat) => V.int (k : Nat)) i = some (.int (x : Nat)) := by
  obtain ⟨j, rfl⟩ : ∃ j : Nat, i = (j : Int) := ⟨i.toNat, by omega⟩
  have hj : j < rs.length := by omega
  exact ⟨rs[j], List.getElem_mem hj, atI_nat (by rw [List.getElem?_map, List.getElem?_eq_getElem hj]; rfl)⟩
theorem map_eraseN {α β : Type} (f : α → β) : ∀ (l : List α) (k : Nat), (l.map f).eraseIdx k = (l.eraseIdx k).map f
  | [], _ => rfl
  | _ :: _, 0 => rfl
  | a :: l, k + 1 => by
    show f a :: (l.map f).eraseIdx k = f a :: (l.eraseIdx k).map f
    rw [map_eraseN f l k]
theorem snoc_of {α : Type} {l : List α} (h : l ≠ []) : ∃ a x, l = a ++ [x] := ⟨l.dropLast, l.getLast h, (List.dropLast_concat_getLast h).symm⟩
theorem ixN_m1 {n : Nat} (h : 0 < n) : ixN n (-1) = some (n - 1) := by
  unfold ixN
  simp
  omega
theorem eqv_ne {d : PyData} {ds : List PyData} : PyData.eqv (.list (d :: ds)) (.list []) = false := rfl
theorem chars_cat (s t : Str) : chars (s ++ t) = chars s ++ chars t := by
  unfold chars
  rw [← List.map_append]
  congr 1
  show (s ++ t).cps.toList = _
  exact Array.toList_append
theorem set_last {α : Type} {l : List α} {x y : α} : (l ++ [x]).set ((l ++ [x]).length - 1) y = l ++ [y] := by
  rw [List.length_append, show l.length + [x].length - 1 = l.length by simp, List.set_append_right _ _ (Nat.le_refl _), Nat.sub_self]
  rfl
theorem atI_last {α : Type} {l : List α} {x : α} : atI (l ++ [x]) (-1) = some x := lastS (by rw [List.length_append, show l.length + [x].length - 1 = l.length by simp, List.getElem?_append_right (Nat.le_refl _), Nat.sub_self]; rfl)
theorem cells_snoc (rows : List CRow) (r : CRow) : cellsV (rows ++ [r]) = cellsV rows ++ r.cellV := by
  unfold cellsV
  rw [List.flatMap_append, List.flatMap_cons, List.flatMap_nil, List.append_nil]
theorem cell_one (k : Nat) : (CRow.copy k 1).cellV = [.int (k : Nat)] := rfl
theorem cell_more (a m : Nat) : (CRow.copy a (m + 1)).cellV = (CRow.copy a m).cellV ++ [.int ((a + m : Nat) : Int)] := by
  show (List.range (m + 1)).map _ = _
  rw [List.range_succ, List.map_append]
  rfl
theorem cell_char (c : Nat) : (CRow.put ⟨#[c]⟩).cellV = [.str ⟨#[c]⟩] := rfl
theorem cell_cat (s : Str) (c : Nat) : (CRow.put (s ++ ⟨#[c]⟩)).cellV = (CRow.put s).cellV ++ [.str ⟨#[c]⟩] := by
  show chars (s ++ ⟨#[c]⟩) = _
  rw [chars_cat]
  rfl
theorem one_ok {c : Nat} (h : c < 0x110000) : okS ⟨#[c]⟩ := by
  show (⟨#[c]⟩ : Str).cps.all (· < 0x110000) = true
  rw [← Array.all_toList]
  simpa using h
theorem n_dgetV {H : Hp} {Q : VK} {D : Addr} {kvs : List (Key × V)} {b : Nat} {v : V} (h : H D = some (.dK kvs)) (e : valV kvs (.inl (b : Int)) = some v) (q : Q v H) : gDGet (.ref D) (.int (b : Nat)) H Q := ⟨D, v, rfl, e ▸ DGet.k (k := .inl (b : Int)) h, q⟩
theorem way_nil0 : (fun x => x ∈ ([] : List Nat)) = fun _ => False := funext fun _ => propext ⟨(fun h => nomatch h), False.elim⟩
theorem way_seen {sl way : List Nat} : (fun x => x ∈ sl ∨ x ∈ way) = fun x => x ∈ sl ++ way := funext fun _ => propext List.mem_append.symm
/-! ### promises -/
def φgets31 (K : PySem.W.Frag) : V → V → Hp → VK → Prop := fun x y H Q => ∃ (F : Hp) (a : Addr) (cs : List V) (p : Nat), x = .ref a ∧ y = .int (p : Nat) ∧ Same F H ∧ SqL K F a cs ∧ (∀ v ∈ cs, FlatV v) ∧ cs.length ≤ 1000 ∧
  ∀ F2 H2, W [] F H F2 H2 [] → Q (.bl (gC cs p).isSome) H2
def φchanging (K : PySem.W.Frag) : V → Hp → VK → Prop := fun x H Q => ∃ (F : Hp) (a : Addr) (cs : List V), x = .ref a ∧ Same F H ∧ SqL K F a cs ∧ (∀ v ∈ cs, FlatV v) ∧ cs.length ≤ 1000 ∧
  ∀ p F2 H2, H p = none → W [] F H F2 H2 [mu p (lstN (chL cs))] → Q (.ref p) H2
def φreaders (K : PySem.W.Frag) : V → V → Hp → VK → Prop := fun x y H Q => ∃ (F : Hp) (a : Addr) (cs : List V) (n : Nat), x = .ref a ∧ y = .int (n : Nat) ∧ Same F H ∧ SqL K F a cs ∧ (∀ v ∈ cs, CellOk n v) ∧ cs.length ≤ 400 ∧ n ≤ 400 ∧
  ∀ p F2 H2, H p = none → W [] F H F2 H2 [mu p (lstN (rdN cs n))] → Q (.ref p) H2
def φrings (K : PySem.W.Frag) : V → Hp → VK → Prop := fun x H Q => ∃ (F : Hp) (a : Addr) (cs : List V) (n : Nat), x = .ref a ∧ Same F H ∧ SqL K F a cs ∧ (∀ v ∈ cs, CellOk n v) ∧ cs.length ≤ 400 ∧
  ∀ v rs F2 H2, W [] F H F2 H2 [dat K v (rgD rs)] → RgsOk cs rs → rs.length ≤ 400 → Q v H2
def φis_pure (K : PySem.W.Frag) : V → V → Hp → VK → Prop := fun x y H Q => ∃ (F : Hp) (a b : Addr) (cs : List V) (n : Nat) (r : List Nat), x = .ref a ∧ y = .ref b ∧ Same F H ∧ SqL K F a (r.map fun (k : Nat) => V.int (k : Nat)) ∧ SqL K F b ((rdN cs n).map fun (k : Nat) => V.int (k : Nat)) ∧ (∀ x ∈ r, x < n) ∧ n ≤ 400 ∧ cs.length ≤ 400 ∧ r.length ≤ 400 ∧
  ∀ F2 H2, W [] F H F2 H2 [] → Q (.bl (pureB cs r)) H2
def φpure_rings (K : PySem.W.Frag) : V → Hp → VK → Prop := fun x H Q => ∃ (F : Hp) (n : Nat) (rows : List CRow), Same F H ∧ Chg K F x n rows ∧ RowsOk n rows ∧ n ≤ 400 ∧
  ∀ F2 H2, W [] F H F2 H2 [] → Q (.int (purC (cellsV rows) : Nat)) H2
def φlpure (K : PySem.W.Frag) : V → V → Hp → VK → Prop := fun x y H Q => ∃ (F : Hp) (a : Addr) (cs : List V) (n : Nat), x = .ref a ∧ y = .int (n : Nat) ∧ Same F H ∧ SqL K F a cs ∧ (∀ v ∈ cs, CellOk n v) ∧ cs.length ≤ 400 ∧ n ≤ 400 ∧
  ∀ t F2 H2, W [] F H F2 H2 [fx t (.tup [.int ((chL cs).length : Nat), .int (purC cs : Nat), .int (witC cs : Nat)])] → Q (.ref t) H2
def φlsign (K : PySem.W.Frag) : V → V → Hp → VK → Prop := fun x y H Q => ∃ (F : Hp) (b : Addr) (few : Bool), x = .ref b ∧ y = .bl few ∧ St F H [bag K b] ∧
  ∀ (c : Nat) F2 H2, W [b] F H F2 H2 [bag K b] → c < 0x110000 → Q (.str ⟨#[c]⟩) H2
def φlringcells (K : PySem.W.Frag) : V → V → Hp → VK → Prop := fun x y H Q => ∃ (F : Hp) (b : Addr) (n : Nat), x = .ref b ∧ y = .int (n : Nat) ∧ St F H [bag K b] ∧ n ≤ 400 ∧
  ∀ p (zs : List Nat) F2 H2, H p = none → W [b] F H F2 H2 [mu p (lstN zs), bag K b] → zs.length = n → (∀ z ∈ zs, z < n ∨ z = 0) → Q (.ref p) H2
def φlcell (K : PySem.W.Frag) : V → V → V → Hp → VK → Prop := fun x y z H Q => ∃ (F : Hp) (b : Addr) (n : Nat) (few : Bool), x = .ref b ∧ y = .int (n : Nat) ∧ z = .bl few ∧ St F H [bag K b] ∧ n ≤ 400 ∧
  ∀ v F2 H2, W [b] F H F2 H2 [bag K b] → CellOk n v → Q v H2
def φlcells31 (K : PySem.W.Frag) : V → V → V → V → Hp → VK → Prop := fun x y z u H Q => ∃ (F : Hp) (b : Addr) (way n : Nat) (few : Bool), x = .ref b ∧ y = .int (way : Nat) ∧ z = .int (n : Nat) ∧ u = .bl few ∧ St F H [bag K b] ∧ way < 5 ∧ 1 ≤ n ∧ n ≤ 400 ∧
  ∀ t p (m : Nat) cs F2 H2, H p = none → W [b] F H F2 H2 [fx t (.tup [.int (m : Nat), .ref p]), mu p (.lst cs), bag K b] → m ≤ 400 → cs.length ≤ 400 → (∀ v ∈ cs, CellOk m v) → Q (.ref t) H2
def φlmany (K : PySem.W.Frag) : V → Hp → VK → Prop := fun x H Q => ∃ (F : Hp) (b : Addr), x = .ref b ∧ St F H [bag K b] ∧
  ∀ (n : Nat) F2 H2, W [b] F H F2 H2 [bag K b] → 1 ≤ n → n ≤ 400 → Q (.int (n : Nat)) H2
def φlrows31 (K : PySem.W.Frag) : V → V → Hp → VK → Prop := fun x y H Q => ∃ (F : Hp) (b a : Addr) (cs : List V) (n : Nat), x = .ref b ∧ y = .ref a ∧ St F H [bag K b] ∧ SqL K F a cs ∧ (∀ v ∈ cs, CellOk n v) ∧ cs.length ≤ 400 ∧
  ∀ p ys rows F2 H2, H p = none → W [b] F H F2 H2 [mu p (.lst ys), dpa K ys (rows.map CRow.d), bag K b] → RowsOk n rows → cellsV rows = cs → Q (.ref p) H2
/-- a case: a size, cells, rows that make them -/
structure CsOk (n : Nat) (cs : List V) (rows : List CRow) : Prop where
  s : n ≤ 400
  l : cs.length ≤ 400
  c : ∀ v ∈ cs, CellOk n v
  r : RowsOk n rows
  e : cellsV rows = cs
def casD (n : Nat) (cs : List V) (rows : List CRow) : PyData := .tuple [.int (n : Nat), .list (cs.map flatD), .list (rows.map CRow.d)]
def φcase31 (K : PySem.W.Frag) : V → V → Hp → VK → Prop := fun x y H Q => ∃ (F : Hp) (b : Addr) (few : Bool), x = .ref b ∧ y = .bl few ∧ St F H [bag K b] ∧
  ∀ v n cs rows F2 H2, W [b] F H F2 H2 [dat K v (casD n cs rows), bag K b] → CsOk n cs rows → Q v H2
theorem sig_pick {z : Str} (h : okS z) {r : Int} (h0 : 0 ≤ r) (h1 : r < (z.length : Int)) : ∃ c, atI z.cps.toList r = some c ∧ c < 0x110000 := by
  obtain ⟨j, rfl⟩ : ∃ j : Nat, r = (j : Int) := ⟨r.toNat, by omega⟩
  have hl : z.cps.toList.length = z.length := by simp [Str.length]
  have hj : j < z.cps.toList.length := by omega
  refine ⟨z.cps.toList[j], atI_nat (List.getElem?_eq_getElem hj), ?_⟩
  have h9 : z.cps.all (· < 0x110000) = true := h
  rw [← Array.all_toList] at h9
  have h8 := List.all_eq_true.mp h9 z.cps.toList[j] (List.getElem_mem hj)
  exact of_decide_eq_true h8
theorem dpa_flat {K : PySem.W.Frag} {F : Hp} : ∀ {cs us : List V}, (∀ v ∈ cs, FlatV v) → DpAll K F us (cs.map flatD) → us = cs
  | [], us, _, h => by cases h; rfl
  | c :: cs, us, hf, h => by
    cases h with
    | cons h1 h2 =>
      rw [dpa_flat (fun v hv => hf v (List.mem_cons_of_mem _ hv)) h2]
      rcases hf c (List.mem_cons_self ..) with rfl | ⟨i, rfl⟩ | ⟨z, rfl, _⟩
      · cases h1; rfl
      · cases h1; rfl
      · cases h1; rfl
/-! ### the cases and their changes -/
structure Cs where
  n : Nat
  cs : List V
  rows : List CRow
def Cs.Ok (u : Cs) : Prop := CsOk u.n u.cs u.rows
def Cs.d (u : Cs) : PyData := casD u.n u.cs u.rows
def ChA (K : PySem.W.Frag) (F : Hp) (vs : List V) (us : List Cs) : Prop := vs.length = us.length ∧ ∀ (i : Nat) (v : V) (u : Cs), vs[i]? = some v → us[i]? = some u → Chg K F v u.n u.rows
def chA (K : PySem.W.Frag) (vs : List V) (us : List Cs) : Own := pur (fun F => ChA K F vs us) fun s h => ⟨h.1, fun i v u h1 h2 => (h.2 i v u h1 h2).same s⟩
theorem chA_nil {K : PySem.W.Frag} {F : Hp} : ChA K F [] [] := ⟨rfl, fun i v u h => nomatch h⟩
theorem chA_snoc {K : PySem.W.Frag} {F : Hp} {vs : List V} {us : List Cs} {v : V} {u : Cs} (h : ChA K F vs us) (hc : Chg K F v u.n u.rows) : ChA K F (vs ++ [v]) (us ++ [u]) := by
  refine ⟨by rw [List.length_append, List.length_append, h.1]; rfl, fun i v2 u2 h1 h2 => ?_⟩
  by_cases hi : i < vs.length
  · rw [List.getElem?_append_left hi] at h1
    rw [List.getElem?_append_left (by rw [← h.1]; exact hi)] at h2
    exact h.2 i v2 u2 h1 h2
  · have e : i = vs.length := by
      have := (List.getElem?_eq_some_iff.mp h1).1
      rw [List.length_append] at this
      simp at this
      omega
    subst e
    rw [List.getElem?_append_right (Nat.le_refl _), Nat.sub_self] at h1
    rw [h.1, List.getElem?_append_right (Nat.le_refl _), Nat.sub_self] at h2
    cases h1
    cases h2
    exact hc
theorem cas_parts {K : PySem.W.Frag} {F : Hp} {v : V} {u : Cs} (hu : u.Ok) (h : Dp K F v u.d) : ∃ t pc pr ys, v = .ref t ∧ SqT K F t [.int (u.n : Nat), .ref pc, .ref pr] ∧ SqL K F pc u.cs ∧ SqL K F pr ys ∧ DpAll K F ys (u.rows.map CRow.d) := by
  obtain ⟨t, v1, v2, v3, rfl, hs, h1, h2, h3⟩ := dp_tup3 h
  have e1 := dp_int h1
  subst e1
  obtain ⟨pc, xs, rfl, hp2, hd2⟩ := dp_list h2
  obtain ⟨pr, ys, rfl, hp3, hd3⟩ := dp_list h3
  have e2 := dpa_flat (fun v hv => cell_flat (hu.c v hv)) hd2
  subst e2
  exact ⟨t, pc, pr, ys, rfl, hs, hp2, hp3, hd3⟩
theorem dpa_setL {K : PySem.W.Frag} {F : Hp} {ys : List V} {ds0 : List PyData} {d0 d : PyData} {v : V} (h : DpAll K F ys (ds0 ++ [d0])) (hd : Dp K F v d) : DpAll K F (ys.set (ys.length - 1) v) (ds0 ++ [d]) := by
  have hl := dpa_len h
  rw [List.length_append, List.length_singleton] at hl
  have h1 := dpa_takeJ ds0.length h
  rw [List.take_left] at h1
  have e : ys.set (ys.length - 1) v = ys.take ds0.length ++ [v] := by
    rw [List.set_eq_take_append_cons_drop, if_pos (by omega), show ys.length - 1 = ds0.length by omega, List.drop_of_length_le (by omega)]
  rw [e]
  exact dpa_snoc h1 hd
theorem rowok_one {n k : Nat} (h : k < n) : CRowOk n (.copy k 1) := ⟨trivial, Nat.le_refl _, h⟩
theorem rowok_more {n a m : Nat} (h : CRowOk n (.copy a m)) (hk : a + m < n) : CRowOk n (.copy a (m + 1)) := ⟨trivial, Nat.le_add_left .., hk⟩
theorem rowok_char {n c : Nat} (h : c < 0x110000) : CRowOk n (.put ⟨#[c]⟩) := ⟨⟨one_ok h, (show (1 : Nat) ≤ 1000 by decide)⟩, Nat.le_refl _, Nat.zero_le _⟩
end R

namespace Z
open PySem PySem.Spec PyProof.Rows L2 R

local macro_rules | `(tactic| walk_at "osq") => `(tactic| first
  | assumption
  | exact sqL_of upd_same
  | exact sqL_of (by assumption)
  | exact sqL_same (by assumption) (by assumption)
  | exact Mu.sq (by assumption)
  | exact sqL_same (Gr.ws (by assumption)) (by assumption)
  | exact sqL_same (Gr.fh (by assumption)) (by assumption))
local macro_rules | `(tactic| walk_at "ost") => `(tactic| first
  | assumption
  | exact sqT_of upd_same
  | exact sqT_of (by assumption)
  | exact sqT_same (by assumption) (by assumption)
  | exact sqT_same (Gr.ws (by assumption)) (by assumption)
  | exact sqT_same (Gr.fh (by assumption)) (by assumption))
local macro_rules | `(tactic| walk_at "owp") => `(tactic| dsimp only [wipe, List.map, List.set_cons_succ, List.set_cons_zero])
local macro_rules | `(tactic| walk_at "og1") => `(tactic| first
  | with_reducible refine w_seq ?_
  | with_reducible refine w_asg ?_
  | with_reducible refine w_v0 ?_ | with_reducible refine w_v1 ?_ | with_reducible refine w_v2 ?_ | with_reducible refine w_v3 ?_
  | with_reducible refine w_v4 ?_ | with_reducible refine w_v5 ?_ | with_reducible refine w_v6 ?_ | with_reducible refine w_v7 ?_
  | with_reducible refine w_v8 ?_ | with_reducible refine w_v9 ?_ | with_reducible refine w_v10 ?_ | with_reducible refine w_v11 ?_
  | with_reducible refine w_v12 ?_ | with_reducible refine w_v13 ?_
  | with_reducible refine w_n0 ?_ | with_reducible refine w_n1 ?_ | with_reducible refine w_n2 ?_ | with_reducible refine w_n3 ?_
  | with_reducible refine w_n4 ?_ | with_reducible refine w_n5 ?_ | with_reducible refine w_n6 ?_ | with_reducible refine w_n7 ?_
  | with_reducible refine w_n8 ?_ | with_reducible refine w_n9 ?_ | with_reducible refine w_n10 ?_ | with_reducible refine w_n11 ?_
  | with_reducible refine w_n12 ?_ | with_reducible refine w_n13 ?_
  | with_reducible refine w_c ?_ | with_reducible refine w_op ?_ | with_reducible refine w_un ?_
  | with_reducible refine w_add ?_ | with_reducible refine w_subt ?_
  | with_reducible refine w_lt ?_ | with_reducible refine w_le ?_ | with_reducible refine w_gt ?_ | with_reducible refine w_ge ?_
  | ((with_reducible refine w_mul ?c ?_); (case c => first | exact .inl ⟨by omega, by omega⟩ | exact .inr ⟨by omega, by omega⟩))
  | ((with_reducible refine w_mod ?c ?_); (case c => first | omega | decide))
  | ((with_reducible refine w_fdiv ?c ?_); (case c => exact divw_ok (by omega) (by omega)))
  | ((with_reducible refine w_pow ?c ?_); (case c => exact ⟨by omega, by omega, by omega⟩))
  | with_reducible refine w_neg ?_ | with_reducible refine w_bits ?_
  | with_reducible refine w_eqI ?_ | with_reducible refine w_neI ?_ | with_reducible refine w_eqS ?_ | with_reducible refine w_neS ?_
  | with_reducible refine w_eqB ?_ | with_reducible refine w_neB ?_ | with_reducible refine w_isN ?_ | with_reducible refine w_notN ?_
  | with_reducible refine w_test ?_ | with_reducible refine w_tB ?_ | with_reducible refine w_asBl ?_
  | with_reducible refine w_and ?_ | with_reducible refine w_or ?_ | with_reducible refine w_not ?_ | with_reducible refine w_if ?_
  | with_reducible refine w_truth ?_ | with_reducible refine w_yes ?_
  | with_reducible refine w_andV ?_ | with_reducible refine w_orV ?_ | with_reducible refine w_notV ?_
  | with_reducible refine w_nil ?_ | with_reducible refine w_cons ?_ | with_reducible refine w_call ?_ | with_reducible refine w_callN ?_
  | with_reducible refine w_CB ?_ | with_reducible refine w_tup ?_ | with_reducible refine w_lst ?_ | with_reducible refine w_sl ?_
  | with_reducible refine w_nop ?_ | with_reducible refine w_part ?_ | with_reducible refine w_asInt ?_
  | with_reducible refine w_BM0 ?_ | with_reducible refine w_BM ?_ | with_reducible refine w_M0 ?_ | with_reducible refine w_M1 ?_
  | with_reducible refine w_asStr ?_ | with_reducible refine w_sub ?_
  | with_reducible refine w_ret ?_ | with_reducible refine w_retN ?_ | with_reducible refine w_drop ?_ | with_reducible refine w_ifS ?_
  | with_reducible refine w_nx ?_ | with_reducible refine w_cont ?_ | with_reducible refine w_brk ?_
  | with_reducible refine w_for ?_ | with_reducible refine w_rng1 ?_ | with_reducible refine w_rng2 ?_ | with_reducible refine w_ilist ?_ | with_reducible refine w_itup ?_ | with_reducible refine w_istr ?_
  | with_reducible refine w_lc ?_
  | with_reducible refine w_tt ?_ | with_reducible refine w_ff ?_ | with_reducible refine w_ntt ?_ | with_reducible refine w_nff ?_
  | with_reducible refine w_int1 ?_ | with_reducible refine w_int1b ?_ | with_reducible refine w_abs ?_
  | with_reducible refine w_min2 ?_ | with_reducible refine w_max2 ?_ | with_reducible refine w_min3 ?_
  | ((with_reducible apply w_ixL _ _ ?c ?d); (case c => walk_at "osq"); (case d => rfl))
  | ((with_reducible apply w_b1 _ _ _ _ _ ?c); (case c => first | exact upd_same | assumption))
  | ((with_reducible apply w_b2 _ _ _ _ _ ?c); (case c => first | exact upd_same | assumption))
  | ((with_reducible apply w_b3 _ _ _ _ _ ?c); (case c => first | exact upd_same | assumption))
  | ((with_reducible apply w_b4 _ _ _ _ _ ?c); (case c => first | exact upd_same | assumption))
  | ((with_reducible apply w_setL _ _ ?c ?d); (case c => first | exact upd_same | assumption); (case d => rfl))
  | ((with_reducible apply w_lenQ _ ?c); (case c => walk_at "osq"))
  | ((with_reducible apply w_ixT _ _ ?c ?d); (case c => walk_at "ost"); (case d => rfl))
  | ((with_reducible apply w_lenS ?c); (case c => first | assumption | exact szle (by omega)))
  | ((with_reducible apply w_tgt _ ?c ?d); (case c => walk_at "ost"); (case d => rfl)) | with_reducible refine w_gc ?_ | with_reducible refine w_gn ?_
  | with_reducible refine w_self ?_ | with_reducible refine w_nself ?_
  | ((with_reducible refine w_iteF ?c ?_); (case c => decide +kernel))
  | ((with_reducible refine w_iteT ?c ?_); (case c => decide +kernel))
  | with_reducible refine w_lstRg ?_ | with_reducible refine w_rg1 ?_ | with_reducible refine w_revL ?_
  | ((with_reducible apply w_app _ ?c ?d); (case c => first | exact upd_same | assumption | exact Mu.h (by assumption)); (case d => first | exact small_lt (by omega) | assumption))
  | ((with_reducible apply w_tyL _ ?c); (case c => walk_at "osq"))
  | ((with_reducible apply w_slL _ ?c); (case c => walk_at "osq"))
  | ((with_reducible apply w_listOf _ ?c); (case c => walk_at "osq")))
local macro_rules | `(tactic| walk_at "og") => `(tactic| repeat walk_at "og1")

local macro_rules | `(tactic| walk_at "memr") => `(tactic| first | with_reducible exact List.mem_cons_self .. | ((with_reducible refine List.mem_cons_of_mem _ ?_); walk_at "memr"))
local macro_rules | `(tactic| walk_at "memd") => `(tactic| first | exact List.mem_cons_self .. | ((with_reducible refine List.mem_cons_of_mem _ ?_); walk_at "memd"))
local macro_rules | `(tactic| walk_at "mem") => `(tactic| first | walk_at "memr" | walk_at "memd")
local macro_rules | `(tactic| walk_at "rm") => `(tactic| first | with_reducible exact Rm.here | ((with_reducible apply Rm.there); walk_at "rm"))
local macro_rules | `(tactic| walk_at "rmd") => `(tactic| first | exact Rm.here | ((with_reducible apply Rm.there); walk_at "rmd"))
local macro_rules | `(tactic| walk_at "pick") => `(tactic| first | with_reducible exact Pick.nil | ((with_reducible apply Pick.cons); (first | walk_at "rm" | walk_at "rmd"); walk_at "pick"))
local macro_rules | `(tactic| walk_at "pk") => `(tactic| exact ⟨_, by walk_at "pick"⟩)
local macro_rules | `(tactic| walk_at "app") => `(tactic| first | with_reducible exact App.nil | ((with_reducible apply App.cons); walk_at "app"))
local macro_rules | `(tactic| walk_at "w") => `(tactic| first | assumption | exact W.to (by assumption) (by walk_at "pick"))
local macro_rules | `(tactic| walk_at "lb") => `(tactic| first | assumption | omega | exact szle (by simp) | exact szle (by omega) | exact szle (by simp; omega) | exact small_lt (by omega) | exact small_lt (by simp; omega))
local macro_rules | `(tactic| walk_at "sq") => `(tactic| first
  | assumption
  | exact W.sqM (by assumption) (by walk_at "mem")
  | exact W.sqF (by assumption) (by walk_at "mem")
  | exact W.sqI (by assumption) (by walk_at "mem")
  | exact W.sq0 (by assumption) (by assumption))
local macro_rules | `(tactic| walk_at "st") => `(tactic| first
  | assumption
  | exact W.stF (by assumption) (by walk_at "mem")
  | exact W.stI (by assumption) (by walk_at "mem")
  | exact W.st0 (by assumption) (by assumption))
local macro_rules | `(tactic| walk_at "at") => `(tactic| first
  | assumption
  | exact W.at_ (by assumption) (by walk_at "mem")
  | exact W.fx (by assumption) (by walk_at "mem"))
local macro_rules | `(tactic| walk_at "wp") => `(tactic| dsimp only [wipe, List.map, List.set_cons_succ, List.set_cons_zero])
local macro_rules | `(tactic| walk_at "go1") => `(tactic| first
  | with_reducible refine w_seq ?_
  | with_reducible refine w_asg ?_
  | with_reducible refine w_v0 ?_ | with_reducible refine w_v1 ?_ | with_reducible refine w_v2 ?_ | with_reducible refine w_v3 ?_
  | with_reducible refine w_v4 ?_ | with_reducible refine w_v5 ?_ | with_reducible refine w_v6 ?_ | with_reducible refine w_v7 ?_
  | with_reducible refine w_v8 ?_ | with_reducible refine w_v9 ?_ | with_reducible refine w_v10 ?_ | with_reducible refine w_v11 ?_
  | with_reducible refine w_v12 ?_ | with_reducible refine w_v13 ?_
  | with_reducible refine w_n0 ?_ | with_reducible refine w_n1 ?_ | with_reducible refine w_n2 ?_ | with_reducible refine w_n3 ?_
  | with_reducible refine w_n4 ?_ | with_reducible refine w_n5 ?_ | with_reducible refine w_n6 ?_ | with_reducible refine w_n7 ?_
  | with_reducible refine w_n8 ?_ | with_reducible refine w_n9 ?_ | with_reducible refine w_n10 ?_ | with_reducible refine w_n11 ?_
  | with_reducible refine w_n12 ?_ | with_reducible refine w_n13 ?_
  | with_reducible refine w_c ?_ | with_reducible refine w_op ?_ | with_reducible refine w_un ?_
  | with_reducible refine w_add ?_ | with_reducible refine w_subt ?_
  | with_reducible refine w_lt ?_ | with_reducible refine w_le ?_ | with_reducible refine w_gt ?_ | with_reducible refine w_ge ?_
  | ((with_reducible refine w_mul ?c ?_); (case c => first | exact .inl ⟨by omega, by omega⟩ | exact .inr ⟨by omega, by omega⟩))
  | ((with_reducible refine w_mod ?c ?_); (case c => first | omega | decide))
  | ((with_reducible refine w_fdiv ?c ?_); (case c => exact divw_ok (by omega) (by omega)))
  | ((with_reducible refine w_pow ?c ?_); (case c => exact ⟨by omega, by omega, by omega⟩))
  | with_reducible refine w_neg ?_ | with_reducible refine w_bits ?_
  | with_reducible refine w_eqI ?_ | with_reducible refine w_neI ?_ | with_reducible refine w_eqS ?_ | with_reducible refine w_neS ?_
  | with_reducible refine w_eqB ?_ | with_reducible refine w_neB ?_ | with_reducible refine w_isN ?_ | with_reducible refine w_notN ?_
  | with_reducible refine w_test ?_ | with_reducible refine w_tB ?_ | with_reducible refine w_asBl ?_
  | with_reducible refine w_and ?_ | with_reducible refine w_or ?_ | with_reducible refine w_not ?_ | with_reducible refine w_if ?_
  | with_reducible refine w_truth ?_ | with_reducible refine w_yes ?_
  | with_reducible refine w_andV ?_ | with_reducible refine w_orV ?_ | with_reducible refine w_notV ?_
  | with_reducible refine w_nil ?_ | with_reducible refine w_cons ?_ | with_reducible refine w_call ?_ | with_reducible refine w_callN ?_
  | with_reducible refine w_CB ?_ | with_reducible refine w_sl ?_
  | with_reducible refine w_nop ?_ | with_reducible refine w_part ?_ | with_reducible refine w_asInt ?_
  | with_reducible refine w_BM0 ?_ | with_reducible refine w_BM ?_ | with_reducible refine w_M0 ?_ | with_reducible refine w_M1 ?_
  | with_reducible refine w_asStr ?_ | with_reducible refine w_sub ?_
  | with_reducible refine w_ret ?_ | with_reducible refine w_retN ?_ | with_reducible refine w_drop ?_ | with_reducible refine w_ifS ?_
  | with_reducible refine w_nx ?_ | with_reducible refine w_cont ?_ | with_reducible refine w_brk ?_
 
 
  | ((with_reducible refine n_adds ?c ?_); (case c => first | exact szle (by decide +kernel) | exact szle (by omega)))
  | ((with_reducible apply x_aug ?c ?_); (case c => rfl))
  | ((with_reducible refine n_ipI ?_); (try dsimp only [List.set_cons_succ, List.set_cons_zero]))
  | with_reducible refine w_fldE ?_ | with_reducible refine w_sfldE ?_ | with_reducible refine x_meth ?_ | with_reducible refine x_make ?_
  | ((with_reducible apply n_fld ?c ?d ?a ?b); (case c => walk_at "at"); (case d => rfl); (case a => assumption); (case b => assumption))
  | ((with_reducible apply n_meth ?c ?d); (case c => walk_at "at"); (case d => rfl))
  | with_reducible refine x_tup ?_ | with_reducible refine x_lst ?_ | with_reducible refine x_for ?_ | with_reducible refine x_lc ?_ | with_reducible refine x_revL ?_ | with_reducible refine x_lstRg ?_
  | with_reducible refine w_dnewT ?_ | with_reducible refine w_dnewK ?_ | with_reducible refine w_dget ?_ | with_reducible refine w_din ?_
  | with_reducible refine w_dnotin ?_ | with_reducible refine w_dput ?_ | with_reducible refine w_dsetT ?_ | with_reducible refine w_rg2 ?_
  | with_reducible refine w_chain3 ?_ | with_reducible refine w_chain ?_
  | with_reducible refine x_rng1 ?_ | with_reducible refine x_rng2 ?_ | with_reducible refine x_il ?_ | with_reducible refine x_it ?_ | with_reducible refine x_is ?_
  | ((with_reducible refine n_rng1 ?c ?d ?_); (case c => omega); (case d => omega))
  | ((with_reducible refine n_rng2 ?c ?d ?e ?f ?_); (case c => omega); (case d => omega); (case e => omega); (case f => omega))
  | ((with_reducible apply n_il ?c ?_); (case c => walk_at "sq"))
  | ((with_reducible apply n_it ?c ?_); (case c => walk_at "st"))
  | with_reducible refine n_is ?_
  | ((with_reducible apply w_lenQT _ ?c); (case c => walk_at "st"))
  | ((with_reducible refine x_wp ?c ?_); (case c => rfl))
  | with_reducible refine w_tt ?_ | with_reducible refine w_ff ?_ | with_reducible refine w_ntt ?_ | with_reducible refine w_nff ?_
  | with_reducible refine w_int1 ?_ | with_reducible refine w_int1b ?_ | with_reducible refine w_abs ?_
  | with_reducible refine w_min2 ?_ | with_reducible refine w_max2 ?_ | with_reducible refine w_min3 ?_
  | ((with_reducible apply w_ixL _ _ ?c ?d); (case c => walk_at "sq"); (case d => rfl))
  | ((with_reducible apply w_lenQ _ ?c); (case c => walk_at "sq"))
  | ((with_reducible apply w_ixT _ _ ?c ?d); (case c => walk_at "st"); (case d => rfl))
  | ((with_reducible apply w_lenS ?c); (case c => first | assumption | exact szle (by omega)))
  | ((with_reducible apply w_tgt _ ?c ?d); (case c => walk_at "st"); (case d => rfl)) | with_reducible refine w_gc ?_ | with_reducible refine w_gn ?_
  | with_reducible refine w_self ?_ | with_reducible refine w_nself ?_
  | ((with_reducible refine w_iteF ?c ?_); (case c => decide +kernel))
  | ((with_reducible refine w_iteT ?c ?_); (case c => decide +kernel))
  | with_reducible refine w_rg1 ?_
  | ((with_reducible apply w_tyL _ ?c); (case c => walk_at "sq")))
local macro_rules | `(tactic| walk_at "go") => `(tactic| repeat walk_at "go1")

local macro_rules | `(tactic| walk_at "go1") => `(tactic| first
  | with_reducible refine x_en ?_ | with_reducible refine x_keys ?_ | with_reducible refine x_lrv ?_ | with_reducible refine x_chn ?_ | with_reducible refine x_dget2 ?_ | with_reducible refine x_augS ?_ | with_reducible refine x_lenSetI ?_)

def topS (i : Nat) : Stmt := PySem.Challenge.pw_remadehere_k31_pure_rings_counted.main.body.getD i (.Pass ⟨0, 0, 0, 0⟩)
abbrev s_gives : Stmt := topS 13
theorem sc_gives : FnScope ["row", "size"] ["row", "size"] (defScope s_gives) := ⟨rfl, rfl, rfl, by decide +kernel, rfl, by decide +kernel, by decide +kernel⟩
abbrev s_ChangeX_initX : Stmt := inClass (topS 15) 0
theorem sc_ChangeX_initX : FnScope ["self", "size", "rows", "many", "k", "more"] ["self", "size", "rows"] (defScope s_ChangeX_initX) := ⟨rfl, rfl, rfl, by decide +kernel, rfl, by decide +kernel, by decide +kernel⟩
abbrev s_Change_cells : Stmt := inClass (topS 15) 4
theorem sc_Change_cells : FnScope ["self", "found", "row"] ["self"] (defScope s_Change_cells) := ⟨rfl, rfl, rfl, by decide +kernel, rfl, by decide +kernel, by decide +kernel⟩
abbrev s_gets : Stmt := topS 5
theorem sc_gets : FnScope ["cells", "place"] ["cells", "place"] (defScope s_gets) := ⟨rfl, rfl, rfl, by decide +kernel, rfl, by decide +kernel, by decide +kernel⟩
abbrev s_changing : Stmt := topS 6
theorem sc_changing : FnScope ["cells", "place"] ["cells"] (defScope s_changing) := ⟨rfl, rfl, rfl, by decide +kernel, rfl, by decide +kernel, by decide +kernel⟩
abbrev s_readers : Stmt := topS 7
theorem sc_readers : FnScope ["cells", "size", "found", "place"] ["cells", "size"] (defScope s_readers) := ⟨rfl, rfl, rfl, by decide +kernel, rfl, by decide +kernel, by decide +kernel⟩
abbrev s_all_rings : Stmt := topS 8
theorem sc_all_rings : FnScope ["cells", "seen", "found", "first", "way", "place"] ["cells"] (defScope s_all_rings) := ⟨rfl, rfl, rfl, by decide +kernel, rfl, by decide +kernel, by decide +kernel⟩
abbrev s_is_pure : Stmt := topS 9
theorem sc_is_pure : FnScope ["ring", "reads", "place"] ["ring", "reads"] (defScope s_is_pure) := ⟨rfl, rfl, rfl, by decide +kernel, rfl, by decide +kernel, by decide +kernel⟩
abbrev s_pure_rings : Stmt := topS 10
theorem sc_pure_rings : FnScope ["change", "cells", "reads", "ring"] ["change"] (defScope s_pure_rings) := ⟨rfl, rfl, rfl, by decide +kernel, rfl, by decide +kernel, by decide +kernel⟩
abbrev s_law_bag : Stmt := topS 17
theorem sc_law_bag : FnScope ["script", "stir", "cell"] ["script"] (defScope s_law_bag) := ⟨rfl, rfl, rfl, by decide +kernel, rfl, by decide +kernel, by decide +kernel⟩
abbrev s_law_stirred : Stmt := topS 18
theorem sc_law_stirred : FnScope ["bag", "many", "got", "k"] ["bag", "many"] (defScope s_law_stirred) := ⟨rfl, rfl, rfl, by decide +kernel, rfl, by decide +kernel, by decide +kernel⟩
abbrev s_law_draw : Stmt := topS 19
theorem sc_law_draw : FnScope ["bag", "many", "got"] ["bag", "many"] (defScope s_law_draw) := ⟨rfl, rfl, rfl, by decide +kernel, rfl, by decide +kernel, by decide +kernel⟩
abbrev s_law_whole : Stmt := topS 20
theorem sc_law_whole : FnScope ["got"] ["got"] (defScope s_law_whole) := ⟨rfl, rfl, rfl, by decide +kernel, rfl, by decide +kernel, by decide +kernel⟩
abbrev s_law_sign : Stmt := topS 21
theorem sc_law_sign : FnScope ["bag", "few", "some"] ["bag", "few"] (defScope s_law_sign) := ⟨rfl, rfl, rfl, by decide +kernel, rfl, by decide +kernel, by decide +kernel⟩
abbrev s_law_ring_cells : Stmt := topS 22
theorem sc_law_ring_cells : FnScope ["bag", "n", "long", "left", "cells", "many", "ring", "k"] ["bag", "n"] (defScope s_law_ring_cells) := ⟨rfl, rfl, rfl, by decide +kernel, rfl, by decide +kernel, by decide +kernel⟩
abbrev s_law_cell : Stmt := topS 23
theorem sc_law_cell : FnScope ["bag", "size", "few"] ["bag", "size", "few"] (defScope s_law_cell) := ⟨rfl, rfl, rfl, by decide +kernel, rfl, by decide +kernel, by decide +kernel⟩
abbrev s_law_cells : Stmt := topS 24
theorem sc_law_cells : FnScope ["bag", "way", "n", "few", "size", "more", "cells", "k"] ["bag", "way", "n", "few"] (defScope s_law_cells) := ⟨rfl, rfl, rfl, by decide +kernel, rfl, by decide +kernel, by decide +kernel⟩
abbrev s_law_many : Stmt := topS 25
theorem sc_law_many : FnScope ["bag"] ["bag"] (defScope s_law_many) := ⟨rfl, rfl, rfl, by decide +kernel, rfl, by decide +kernel, by decide +kernel⟩
abbrev s_law_rows : Stmt := topS 26
theorem sc_law_rows : FnScope ["bag", "cells", "parted", "rows", "cell", "last"] ["bag", "cells"] (defScope s_law_rows) := ⟨rfl, rfl, rfl, by decide +kernel, rfl, by decide +kernel, by decide +kernel⟩
abbrev s_law_gets : Stmt := topS 27
theorem sc_law_gets : FnScope ["cells", "place"] ["cells", "place"] (defScope s_law_gets) := ⟨rfl, rfl, rfl, by decide +kernel, rfl, by decide +kernel, by decide +kernel⟩
abbrev s_law_pure : Stmt := topS 28
theorem sc_law_pure : FnScope ["cells", "size", "getters", "place", "seen", "rings", "within", "first", "many", "k"] ["cells", "size"] (defScope s_law_pure) := ⟨rfl, rfl, rfl, by decide +kernel, rfl, by decide +kernel, by decide +kernel⟩
abbrev s_law_case : Stmt := topS 29
theorem sc_law_case : FnScope ["bag", "few", "way", "size", "cells"] ["bag", "few"] (defScope s_law_case) := ⟨rfl, rfl, rfl, by decide +kernel, rfl, by decide +kernel, by decide +kernel⟩
abbrev s_law : Stmt := topS 30
theorem sc_law : FnScope ["script", "bag", "few", "named", "some", "changes", "turn", "k", "size", "cells", "rows", "got"] ["script"] (defScope s_law) := ⟨rfl, rfl, rfl, by decide +kernel, rfl, by decide +kernel, by decide +kernel⟩
structure Txt (K : PySem.W.Frag) (mg : Str → Option Value) : Prop where
  b_abs : mg "abs" = none
  b_all : mg "all" = none
  b_bool : mg "bool" = none
  b_int : mg "int" = none
  b_isinstance : mg "isinstance" = none
  b_len : mg "len" = none
  b_list : mg "list" = none
  b_min : mg "min" = none
  b_range : mg "range" = none
  b_str : mg "str" = none
  c_MOST : ∃ t, mg "MOST" = some (.int 400 t)
  k_Change : Cls K (He.ga K "Change")
  na_Change_size : NoAttr K (He.ga K "Change") "size"
  na_Change_rows : NoAttr K (He.ga K "Change") "rows"
section
variable {P : Program} {w : World} {K : PySem.W.Frag} {mg : Str → Option Value} {base : Heap}
-- gives
theorem ok_gives {f : Addr} {fd : FuncData} (F : FunD K "gives" "gives" (defArgs s_gives) (defBody s_gives) (defScope s_gives) [] [] f fd) (T : Txt K mg)  : FnOk P w K mg base CX0 1 f fd ["row", "size"] (S2 (φgives K)) := by
  refine F.ok sc_gives (fun vs H Q E h => ?_) (fun cdv A outer s H vs Q E hr h => ?_)
  · exact S2.len h
  · match vs, h with
    | [v0, v1], h =>
    have hu := hu_of hr
    refine ⟨_, PSs.nox (pss_cons (ps_if (pt_cmpR op_eq (pe_ix (ixT (K := K)) (pv 0) pe_int (fun _ _ => rfl)) pe_str (nomark _)) (pss_one (ps_ret (pe_callB clLenS (by rfl) T.b_len (by decide +kernel) (pa_cons (pe_ix (ixT (K := K)) (pv 0) pe_int (fun _ _ => rfl)) pa_nil)))) pss_nil)
      (pss_cons (ps_if (PW.pt (pw_or (pt_cmpR op_lt (pe_ix (ixT (K := K)) (pv 0) pe_int (fun _ _ => rfl)) pe_int (nomark _)) (pw_or (pt_cmpR op_lt (pe_ix (ixT (K := K)) (pv 0) pe_int (fun _ _ => rfl)) pe_int (nomark _)) (pw_or1 (pt_cmpR op_gt (pe_op op_add (pe_ix (ixT (K := K)) (pv 0) pe_int (fun _ _ => rfl)) (pe_ix (ixT (K := K)) (pv 0) pe_int (fun _ _ => rfl))) (pv 1) (nomark _)))))) (pss_one (ps_ret pe_int)) pss_nil)
      (pss_one (ps_ret (pe_ix (ixT (K := K)) (pv 0) pe_int (fun _ _ => rfl)))))), ?_⟩
    rw [show start ["row", "size"] [v0, v1] = [some v0, some v1] from rfl]
    obtain ⟨F, r, n, rfl, hw, hx, hok, q⟩ := h
    have w := W.start (M := []) hw
    cases r with
    | put s =>
      obtain ⟨a, rfl, hT⟩ := dp_cput hx
      have hl := hok.s.2
      walk_at "go"
      exact q _ _ w
    | copy a k =>
      obtain ⟨p, rfl, hT⟩ := dp_ccopy hx
      have hp : 1 ≤ k := hok.p
      have hh : a + k ≤ n := hok.h
      walk_at "go"
      refine w_iteF (by omega) ?_
      walk_at "go"
      refine w_iteF (by omega) ?_
      walk_at "go"
      refine w_iteF (by omega) ?_
      walk_at "go"
      exact q _ _ w
-- Change.__init__
theorem ok_ChangeX_initX {f : Addr} {fd : FuncData} (F : FunD K "__init__" "Change.__init__" (defArgs s_ChangeX_initX) (defBody s_ChangeX_initX) (defScope s_ChangeX_initX) [] [] f fd) (T : Txt K mg) (D_gives : DO P w K mg base 1 "gives" ["row", "size"] [] (S2 (φgives K))) : FnOk P w K mg base CX0 2 f fd ["self", "size", "rows"] (S3 (φinit K)) := by
  refine F.ok sc_ChangeX_initX (fun vs H Q E h => ?_) (fun cdv A outer s H vs Q E hr h => ?_)
  · exact S3.len h
  · match vs, h with
    | [v0, v1, v2], h =>
    have hu := hu_of hr
    refine ⟨_, PSs.nox (pss_cons (ps_if (PW.pt (pw_or (pt_cmpR op_lt (pv 1) pe_int (nomark _)) (pw_or1 (pt_cmpR op_gt (pv 1) (pe_gint (by rfl) T.c_MOST) (nomark _))))) (pss_one ps_never) pss_nil)
      (pss_cons (ps_set (i := 3) sc_ChangeX_initX.nd rfl (.inl rfl) pe_int)
      (pss_cons (ps_for PassesOwn.never rfl (pi_range1 rfl T.b_range (pa_cons (pe_callB (clLenQ (K := K)) (by rfl) T.b_len (by decide +kernel) (pa_cons (pv 2) pa_nil)) pa_nil)) (pg_name (i := 4) sc_ChangeX_initX.nd rfl (.inl rfl)) (pss_cons (ps_set (i := 5) sc_ChangeX_initX.nd rfl (.inl rfl) (pcall D_gives hr (pa_cons (pe_ix (ixL (K := K)) (pv 2) (pv 4) (fun _ _ => rfl)) (pa_cons (pv 1) pa_nil))))
      (pss_cons (ps_set (i := 3) sc_ChangeX_initX.nd rfl (.inl rfl) (pe_op op_add (pv 3) (pv 5)))
      (pss_one (ps_if (PW.pt (pw_or (pt_cmpR op_eq (pv 5) pe_int (nomark _)) (pw_or1 (pt_cmpR op_gt (pv 3) (pe_gint (by rfl) T.c_MOST) (nomark _))))) (pss_one ps_never) pss_nil)))))
      (pss_cons (psFld (K := K) (pv 0) (pv 1) rfl)
      (pss_one (psFld (K := K) (pv 0) (pe_callTy (clListOf (K := K)) (by rfl) T.b_list (by decide +kernel) (pa_cons (pv 2) pa_nil)) rfl)))))), ?_⟩
    rw [show start ["self", "size", "rows", "many", "k", "more"] [v0, v1, v2] = [some v0, some v1, some v2, none, none, none] from rfl]
    have kC := T.k_Change
    have kS := T.na_Change_size
    have kR := T.na_Change_rows
    
    obtain ⟨F, c, dx, a, vs, n, rows, rfl, rfl, rfl, s0, hS, hD, hn, hok, q⟩ := h
    have w := s0.w (M := [c])
    have hrl := hok.len
    have hvl : vs.length = rows.length := by rw [dpa_len hD, List.length_map]
    obtain ⟨tM, eM⟩ := T.c_MOST
    walk_at "go"
    refine w_iteF (by omega) ?_
    walk_at "go"
    refine w_iteF (by omega) ?_
    walk_at "go"
    refine n_forR w (fun i σ L => ∃ y4 y5, σ = [some (.ref c), some (.int (n : Nat)), some (.ref a), some (.int ((givesL (rows.take i) : Nat) : Int)), y4, y5] ∧ L = [mu c (.ins (He.ga K "Change") dx [])]) ⟨none, none, rfl, rfl⟩ (fun i σ L F' H' hi hp w => ?_) (fun σ L F' H' hp w => ?_)
    · obtain ⟨y4, y5, rfl, rfl⟩ := hp
      have hi2 : i < vs.length := by omega
      obtain ⟨r, hr, dr⟩ := dpa_at hD (getD_of hi2)
      have ro := hok.ok r (List.mem_of_getElem? hr)
      have g1 := gives_take hr
      have g2 := gives_le rows (i + 1)
      have g3 := hok.sum
      have g4 := ro.p
      walk_at "go"
      refine w_ixL _ _ (by walk_at "sq") (atI_nat (getD_of hi2)) ?_
      walk_at "go"
      refine ⟨F', r, n, rfl, w.fh, w.dp0 dr, ro, fun F2 H2 w2 => ?_⟩
      replace w := w.cal .nil w2 (by walk_at "app")
      walk_at "go"
      refine w_iteF (by omega) ?_
      walk_at "go"
      refine w_iteF (by omega) ?_
      walk_at "go"
      exact nx_mk w ⟨_, _, by rw [g1]; rfl, rfl⟩ (by walk_at "pk")
    · obtain ⟨y4, y5, rfl, rfl⟩ := hp
      walk_at "go"
      refine n_sfld w (by walk_at "pick") kC kS (by show (0 : Nat) < 1000; decide) fun H2 w => ?_
      walk_at "go"
      refine n_listOf w (by walk_at "sq") fun r F3 H3 w hr => ?_
      walk_at "go"
      refine n_sfld w (by walk_at "pick") kC kR (by show (1 : Nat) < 1000; decide) fun H4 w => ?_
      exact q r F3 H4 hr (by walk_at "w")
-- Change.cells
theorem ok_Change_cells {f : Addr} {fd : FuncData} (F : FunD K "cells" "Change.cells" (defArgs s_Change_cells) (defBody s_Change_cells) (defScope s_Change_cells) [] [] f fd) (T : Txt K mg)  : FnOk P w K mg base CX0 1 f fd ["self"] (S1 (φcells K)) := by
  refine F.ok sc_Change_cells (fun vs H Q E h => ?_) (fun cdv A outer s H vs Q E hr h => ?_)
  · exact S1.len h
  · match vs, h with
    | [v0], h =>
    have hu := hu_of hr
    refine ⟨_, PSs.nox (pss_cons (ps_set (i := 1) sc_Change_cells.nd rfl (.inl rfl) (pe_lst pa_nil))
      (pss_cons (ps_for PassesOwn.never rfl (pi_list (peFld (K := K) (pv 0))) (pg_name (i := 2) sc_Change_cells.nd rfl (.inl rfl)) (pss_one (ps_if (pt_cmpR op_eq (pe_ix (ixT (K := K)) (pv 2) pe_int (fun _ _ => rfl)) pe_str (nomark _)) (pss_one (ps_expr (peBM (K := K) PySem.F.plainAttrs_list PySem.F.slot_list_extend PySem.F.type_list_extend mt_extend (pv 1) (pa_cons (pe_callTy clListS (by rfl) T.b_list (by decide +kernel) (pa_cons (pe_ix (ixT (K := K)) (pv 2) pe_int (fun _ _ => rfl)) pa_nil)) pa_nil)))) (pss_one (ps_expr (peBM (K := K) PySem.F.plainAttrs_list PySem.F.slot_list_extend PySem.F.type_list_extend mt_extend (pv 1) (pa_cons (pe_listRg rfl (by rfl) T.b_list (prg_2 (by rfl) T.b_range (pe_ix (ixT (K := K)) (pv 2) pe_int (fun _ _ => rfl)) (pe_op op_add (pe_ix (ixT (K := K)) (pv 2) pe_int (fun _ _ => rfl)) (pe_ix (ixT (K := K)) (pv 2) pe_int (fun _ _ => rfl))))) pa_nil)))))))
      (pss_one (ps_ret (pv 1))))), ?_⟩
    rw [show start ["self", "found", "row"] [v0] = [some v0, none, none] from rfl]
    have kC := T.k_Change
    have kS := T.na_Change_size
    have kR := T.na_Change_rows
    
    obtain ⟨F, n, rows, hw, hC, hok, hn, q⟩ := h
    obtain ⟨c, dx, r, vs, rfl, hc, hr, hD⟩ := hC
    have w := ((W.start (M := []) hw).push (fx c _) hc).push (fx r (.lst vs)) hr
    unfold insC at w
    walk_at "go"
    refine n_lst w (szle (by simp)) fun f F1 H1 w hf => ?_
    walk_at "go"
    refine n_forL vs w (fun i σ L => ∃ y2, σ = [some (.ref c), some (.ref f), y2] ∧ L = [mu f (.lst (cellsV (rows.take i))), fx r (.lst vs)]) ⟨none, rfl, rfl⟩ (fun i σ L F' H' hp w => ?_) (fun i x σ L F' H' hx hp w => ?_) (fun σ L F' H' hp w => ?_)
    · obtain ⟨y2, rfl, rfl⟩ := hp
      walk_at "sq"
    · obtain ⟨y2, rfl, rfl⟩ := hp
      obtain ⟨m, hm, dm⟩ := dpa_at hD hx
      have mo := hok.ok m (List.mem_of_getElem? hm)
      have e1 : cellsV (rows.take (i + 1)) = cellsV (rows.take i) ++ m.cellV := by
        unfold cellsV
        rw [List.take_add_one, hm, List.flatMap_append]
        simp
      have l1 := cells_len (rows.take i)
      have l2 := gives_le rows i
      have l3 := hok.sum
      cases m with
      | put s =>
        obtain ⟨pm, rfl, hT⟩ := dp_cput dm
        have hT := sqT_same (K := K) w.ws hT
        have hsl := mo.s.2
        walk_at "go"
        refine n_listS w (szle (by omega)) fun p2 F2 H2 w hp2 => ?_
        walk_at "go"
        refine n_ext w (by walk_at "at") (by walk_at "pick") (szle (by rw [chars_len]; omega)) fun H3 w => ?_
        rw [show chars s = (CRow.put s).cellV from rfl] at w
        rw [← e1] at w
        exact nx_mk w ⟨_, rfl, rfl⟩ (by walk_at "pk")
      | copy a k =>
        obtain ⟨pm, rfl, hT⟩ := dp_ccopy dm
        have hT := sqT_same (K := K) w.ws hT
        have hh : a + k ≤ n := mo.h
        have hk : 1 ≤ k := mo.p
        have hk2 := gives_take hm
        have hk3 := gives_le rows (i + 1)
        replace hk2 : givesL (rows.take (i + 1)) = givesL (rows.take i) + k := hk2
        walk_at "go"
        refine ⟨_, _, rfl, rfl, ?_⟩
        refine n_lstRg w (RgOk.of_le (by omega) (by omega) (by omega) (by omega)) fun p2 F2 H2 w hp2 => ?_
        rw [show rgV (a : Int) ((a : Int) + (k : Nat)) = CRow.cellV (.copy a k) by unfold rgV CRow.cellV; rw [show ((a : Int) + (k : Nat) - (a : Int)).toNat = k by omega]; rfl] at w
        walk_at "go"
        refine n_ext w (by walk_at "at") (by walk_at "pick") (szle (by rw [cellV_len]; show _ + k ≤ _; omega)) fun H3 w => ?_
        rw [← e1] at w
        exact nx_mk w ⟨_, rfl, rfl⟩ (by walk_at "pk")
    · obtain ⟨y2, rfl, rfl⟩ := hp
      rw [List.take_of_length_le (by rw [dpa_len hD, List.length_map]; exact Nat.le_refl _)] at w
      walk_at "go"
      exact q f F' H' hf (by walk_at "w")
-- gets
theorem ok_gets {f : Addr} {fd : FuncData} (F : FunD K "gets" "gets" (defArgs s_gets) (defBody s_gets) (defScope s_gets) [] [] f fd) (T : Txt K mg)  : FnOk P w K mg base CX0 1 f fd ["cells", "place"] (S2 (φgets31 K)) := by
  refine F.ok sc_gets (fun vs H Q E h => ?_) (fun cdv A outer s H vs Q E hr h => ?_)
  · exact S2.len h
  · match vs, h with
    | [v0, v1], h =>
    have hu := hu_of hr
    refine ⟨_, PSs.nox (pss_one (ps_ret (pe_and (pe_cmpR op_lt (pv 1) (pe_callB (clLenQ (K := K)) (by rfl) T.b_len (by decide +kernel) (pa_cons (pv 0) pa_nil)) (nomark _)) (pe_and (pe_callB (clIsi (K := K)) (by rfl) T.b_isinstance (by decide +kernel) (pa_cons (pe_ix (ixL (K := K)) (pv 0) (pv 1) (fun _ _ => rfl)) (pa_cons (pe_bltn (v := .ty "int") (by rfl) T.b_int (by decide +kernel) rfl) pa_nil))) (pe_one (pe_cmpR op_ne (pe_ix (ixL (K := K)) (pv 0) (pv 1) (fun _ _ => rfl)) (pv 1) (nomark _))))))), ?_⟩
    rw [show start ["cells", "place"] [v0, v1] = [some v0, some v1] from rfl]
    obtain ⟨F, a, cs, p, rfl, rfl, hw, hS, hf, hl, q⟩ := h
    have w := (W.start (M := []) hw).push (imL K a cs) hS
    walk_at "go"
    by_cases hp : p < cs.length
    · rw [if_pos (decide_eq_true (by omega))]
      obtain ⟨v, hv⟩ : ∃ v, cs[p]? = some v := ⟨_, List.getElem?_eq_getElem hp⟩
      have he := gC_isSome hv
      rcases hf v (List.mem_of_getElem? hv) with rfl | ⟨i, rfl⟩ | ⟨z, rfl, hz⟩
      · walk_at "go"
        refine w_ixL _ _ (by walk_at "sq") (atI_nat hv) ?_
        walk_at "go"
        refine u_isi (F := H) (d := .none) .non (Same.refl _) (k_int _) ?_
        walk_at "go"
        refine w_is (c := false) rfl ?_
        walk_at "go"
        rw [he] at q
        exact q _ _ (w.to .nil)
      · walk_at "go"
        refine w_ixL _ _ (by walk_at "sq") (atI_nat hv) ?_
        walk_at "go"
        refine u_isi (F := H) (d := .int i) (.int _) (Same.refl _) (k_int _) ?_
        walk_at "go"
        refine w_is (c := true) rfl ?_
        walk_at "go"
        refine w_ixL _ _ (by walk_at "sq") (atI_nat hv) ?_
        walk_at "go"
        rw [he] at q
        exact q _ _ (w.to .nil)
      · walk_at "go"
        refine w_ixL _ _ (by walk_at "sq") (atI_nat hv) ?_
        walk_at "go"
        refine u_isi (F := H) (d := .str z) (.str _) (Same.refl _) (k_int _) ?_
        walk_at "go"
        refine w_is (c := false) rfl ?_
        walk_at "go"
        rw [he] at q
        exact q _ _ (w.to .nil)
    · rw [if_neg (fun e => hp (by have := of_decide_eq_true e; omega))]
      rw [gC_out (by omega)] at q
      exact q _ _ (w.to .nil)
-- changing
theorem ok_changing {f : Addr} {fd : FuncData} (F : FunD K "changing" "changing" (defArgs s_changing) (defBody s_changing) (defScope s_changing) [] [] f fd) (T : Txt K mg)  : FnOk P w K mg base CX0 1 f fd ["cells"] (S1 (φchanging K)) := by
  refine F.ok sc_changing (fun vs H Q E h => ?_) (fun cdv A outer s H vs Q E hr h => ?_)
  · exact S1.len h
  · match vs, h with
    | [v0], h =>
    have hu := hu_of hr
    refine ⟨_, PSs.nox (pss_one (ps_ret (pe_lc (own := [("place", 1)]) (g := gName 1) rfl sc_changing.nd (pi_range1 rfl T.b_range (pa_cons (pe_callB (clLenQ (K := K)) (by rfl) T.b_len (by decide +kernel) (pa_cons (pv 0) pa_nil)) pa_nil)) (blkOk_by (own := [("place", 1)]) (N := ["cells", "place"]) (sc := defScope s_changing) (by decide +kernel)) (fun _ _ _ _ _ => pg_name (i := 1) sc_changing.nd rfl (Or.inl rfl)) (fun _ _ _ _ _ => pts_one (pt_cmpR op_ne (pe_ix (ixL (K := K)) (pv 0) (pv 1) (fun _ _ => rfl)) (pv 1) (nomark _))) (fun _ _ _ _ _ => (pv 1))))), ?_⟩
    rw [show start ["cells", "place"] [v0] = [some v0, none] from rfl]
    obtain ⟨F, a, cs, rfl, hw, hS, hf, hl, q⟩ := h
    have w := (W.start (M := []) hw).push (imL K a cs) hS
    walk_at "go"
    refine n_lcR w (fun j ys L => ys = ((List.range j).filter (chgC cs)).map (fun (k : Nat) => V.int (k : Nat)) ∧ L = [imL K a cs]) ⟨rfl, rfl⟩ (fun j ys L F' H' D hj hp w hD => ?_) (fun D ys L F' H' hp w hD => ?_)
    · obtain ⟨rfl, rfl⟩ := hp
      have hj : j < cs.length := by omega
      obtain ⟨v, hv⟩ : ∃ v, cs[j]? = some v := ⟨_, List.getElem?_eq_getElem hj⟩
      walk_at "wp"
      walk_at "go"
      refine w_ixL _ _ (by walk_at "sq") (atI_nat hv) ?_
      walk_at "go"
      refine ⟨scal_flat (hf v (List.mem_of_getElem? hv)) (.inr (.inl ⟨_, rfl⟩)), ?_⟩
      have ec : chgC cs j = !decide (v = .int (j : Nat)) := by
        unfold chgC
        rw [hv]
        congr 1
        exact decide_eq_decide.mpr ⟨fun e => Option.some.inj e, fun e => by rw [e]⟩
      rw [← ec]
      cases e : chgC cs j with
      | true =>
        walk_at "go"
        refine n_acc _ w ⟨by rw [List.range_succ]; exact filtN_yes e, rfl⟩ (by walk_at "pk") (small_lt (by rw [List.length_map]; have := List.length_filter_le (chgC cs) (List.range j); rw [List.length_range] at this; omega))
      | false =>
        walk_at "go"
        exact ⟨_, _, _, ⟨by rw [List.range_succ]; exact filtN_no e, rfl⟩, w⟩
    · obtain ⟨rfl, rfl⟩ := hp
      walk_at "go"
      exact q D _ _ hD ((w.to (D := [mu D (lstN (chL cs))]) (by walk_at "pick")))
-- readers
theorem ok_readers {f : Addr} {fd : FuncData} (F : FunD K "readers" "readers" (defArgs s_readers) (defBody s_readers) (defScope s_readers) [] [] f fd) (T : Txt K mg) (D_changing : DO P w K mg base 1 "changing" ["cells"] [] (S1 (φchanging K))) (D_gets : DO P w K mg base 1 "gets" ["cells", "place"] [] (S2 (φgets31 K))) : FnOk P w K mg base CX0 2 f fd ["cells", "size"] (S2 (φreaders K)) := by
  refine F.ok sc_readers (fun vs H Q E h => ?_) (fun cdv A outer s H vs Q E hr h => ?_)
  · exact S2.len h
  · match vs, h with
    | [v0, v1], h =>
    have hu := hu_of hr
    refine ⟨_, PSs.nox (pss_cons (ps_set (i := 2) sc_readers.nd rfl (.inl rfl) (pe_op op_rep (pe_lst (pa_cons pe_int pa_nil)) (pv 1)))
      (pss_cons (ps_for PassesOwn.never rfl (pi_list (pcall D_changing hr (pa_cons (pv 0) pa_nil))) (pg_name (i := 3) sc_readers.nd rfl (.inl rfl)) (pss_one (ps_if (pt_val (pcall D_gets hr (pa_cons (pv 0) (pa_cons (pv 3) pa_nil)))) (pss_one (ps_augS (pv 2) (pe_ix (ixL (K := K)) (pv 0) (pv 3) (fun _ _ => rfl)) (pgL (K := K)) pe_int ip_add set_list)) pss_nil)))
      (pss_one (ps_ret (pv 2))))), ?_⟩
    rw [show start ["cells", "size", "found", "place"] [v0, v1] = [some v0, some v1, none, none] from rfl]
    obtain ⟨F, a, cs, n, rfl, rfl, hw, hS, hc, hcl, hn, q⟩ := h
    have w := (W.start (M := []) hw).push (imL K a cs) hS
    have hcf : ∀ v ∈ cs, FlatV v := fun v hv => (hc v hv).flat
    walk_at "go"
    refine n_lst w (szle (by simp)) fun p2 F1 H1 w hp2 => ?_
    walk_at "go"
    refine n_rep w (by walk_at "at") (by omega) (by omega) (szle (by show 1 * _ ≤ _; omega)) fun pf F1 H1 w hpf => ?_
    rw [show (List.replicate (((n : Nat) : Int)).toNat [V.int 0]).flatten = (rdT cs n []).map fun (k : Nat) => V.int (k : Nat) by rw [rdT_nil, Int.toNat_natCast, List.flatten_replicate_singleton, List.map_replicate]; rfl] at w
    walk_at "go"
    refine ⟨_, a, cs, rfl, w.fh, w.imL (by walk_at "mem"), hcf, by omega, fun pc F1 H1 hpc w1 => ?_⟩
    replace w := w.cal .nil w1 (by walk_at "app")
    unfold lstN at w
    walk_at "go"
    refine n_forL ((chL cs).map fun (k : Nat) => V.int (k : Nat)) w (fun i σ L => ∃ y3, σ = [some (.ref a), some (.int (n : Nat)), some (.ref pf), y3] ∧ L = [mu pc (.lst ((chL cs).map fun (k : Nat) => V.int (k : Nat))), mu pf (.lst ((rdT cs n ((chL cs).take i)).map fun (k : Nat) => V.int (k : Nat))), imL K a cs]) ⟨_, rfl, rfl⟩ (fun i σ L F' H' hp w => ?_) (fun i x σ L F' H' hx hp w => ?_) (fun σ L F' H' hp w => ?_)
    · obtain ⟨y3, rfl, rfl⟩ := hp
      walk_at "sq"
    · obtain ⟨y3, rfl, rfl⟩ := hp
      obtain ⟨c, hcc, rfl⟩ := map_at hx
      obtain ⟨hc1, hc2⟩ := ch_mem.mp (List.mem_of_getElem? hcc)
      have et : (chL cs).take (i + 1) = (chL cs).take i ++ [c] := by rw [List.take_add_one, hcc]; rfl
      have hgl := rdT_len cs n ((chL cs).take i)
      walk_at "go"
      refine ⟨H', a, cs, c, rfl, rfl, Same.refl _, by walk_at "sq", hcf, by omega, fun F2 H2 w2 => ?_⟩
      replace w := w.ro0 w2
      cases eg : gC cs c with
      | none =>
        rw [show (none : Option Nat).isSome = false from rfl]
        walk_at "go"
        refine nx_mk w ⟨_, rfl, rfl⟩ ?_
        rw [et, rdT_no eg]
        walk_at "pk"
      | some p =>
        obtain ⟨hv, hne⟩ := (gC_some hc).mp eg
        obtain ⟨_, hpn⟩ := gC_lt hc eg
        have hgp : ((rdT cs n ((chL cs).take i)).map fun (k : Nat) => V.int (k : Nat))[p]? = some (.int (((chL cs).take i).filter fun q => decide (gC cs q = some p)).length) := by rw [List.getElem?_map, rdT_get _ _ hpn]; rfl
        rw [show (some p : Option Nat).isSome = true from rfl]
        walk_at "go"
        refine w_ixL _ _ (by walk_at "sq") (atI_nat hv) ?_
        walk_at "go"
        refine w_ixL _ _ (by walk_at "sq") (atI_nat hgp) ?_
        walk_at "go"
        refine n_setL w (by walk_at "pick") p (ixNat (by rw [List.length_map]; omega)) fun H5 w => ?_
        rw [show (((((chL cs).take i).filter fun q => decide (gC cs q = some p)).length : Nat) : Int) + 1 = (((((chL cs).take i).filter fun q => decide (gC cs q = some p)).length + 1 : Nat) : Int) from rfl, ← List.map_set, ← rdT_yes eg hpn, ← et] at w
        exact nx_mk w ⟨_, rfl, rfl⟩ (by walk_at "pk")
    · obtain ⟨y3, rfl, rfl⟩ := hp
      rw [List.length_map, List.take_length, rdT_chL hc] at w
      walk_at "go"
      exact q pf _ _ (by assumption) (w.to (D := [mu pf (lstN (rdN cs n))]) (by walk_at "pick"))
-- all_rings
theorem ok_all_rings {f : Addr} {fd : FuncData} (F : FunD K "all_rings" "all_rings" (defArgs s_all_rings) (defBody s_all_rings) (defScope s_all_rings) [] [] f fd) (T : Txt K mg) (D_changing : DO P w K mg base 1 "changing" ["cells"] [] (S1 (φchanging K))) (D_gets : DO P w K mg base 1 "gets" ["cells", "place"] [] (S2 (φgets31 K))) : FnOk P w K mg base CX0 2 f fd ["cells"] (S1 (φrings K)) := by
  refine F.ok sc_all_rings (fun vs H Q E h => ?_) (fun cdv A outer s H vs Q E hr h => ?_)
  · exact S1.len h
  · match vs, h with
    | [v0], h =>
    have hu := hu_of hr
    refine ⟨_, PSs.nox (pss_cons (ps_set (i := 1) sc_all_rings.nd rfl (.inl rfl) pe_dnewK)
      (pss_cons (ps_set (i := 2) sc_all_rings.nd rfl (.inl rfl) (pe_lst pa_nil))
      (pss_cons (ps_for PassesOwn.never rfl (pi_list (pcall D_changing hr (pa_cons (pv 0) pa_nil))) (pg_name (i := 3) sc_all_rings.nd rfl (.inl rfl)) (pss_cons (ps_set (i := 4) sc_all_rings.nd rfl (.inl rfl) (pe_lst pa_nil))
      (pss_cons (ps_set (i := 5) sc_all_rings.nd rfl (.inl rfl) (pv 3))
      (pss_cons (ps_while PassesOwn.never (PW.pt (pw_and (pt_val (pcall D_gets hr (pa_cons (pv 0) (pa_cons (pv 5) pa_nil)))) (pw_and1 (pt_cmp (pc_dnotin hu (pv 5) (pv 1)))))) (pss_cons (ps_dput hu (pv 1) (pv 5) (pe_callB (clLenQ (K := K)) (by rfl) T.b_len (by decide +kernel) (pa_cons (pv 4) pa_nil)) rfl)
      (pss_cons (ps_expr (peBM (K := K) PySem.F.plainAttrs_list PySem.F.slot_list_append PySem.F.type_list_append mt_append (pv 4) (pa_cons (pv 5) pa_nil)))
      (pss_one (ps_set (i := 5) sc_all_rings.nd rfl (.inl rfl) (pe_ix (ixL (K := K)) (pv 0) (pv 5) (fun _ _ => rfl)))))))
      (pss_one (ps_if (pt_cmpR (opIn (K := K)) (pv 5) (pv 4) (by rfl)) (pss_one (ps_expr (peBM (K := K) PySem.F.plainAttrs_list PySem.F.slot_list_append PySem.F.type_list_append mt_append (pv 2) (pa_cons (pe_slice (slL (K := K)) (pv 4) (po_some (pe_dget hu (pv 1) (pv 5) (fun _ _ => rfl))) po_none) pa_nil)))) pss_nil))))))
      (pss_one (ps_ret (pv 2)))))), ?_⟩
    rw [show start ["cells", "seen", "found", "first", "way", "place"] [v0] = [some v0, none, none, none, none, none] from rfl]
    obtain ⟨F, a, cs, n, rfl, hw, hS, hc, hcl, q⟩ := h
    have w := (W.start (M := []) hw).push (imL K a cs) hS
    have hcf : ∀ v ∈ cs, FlatV v := fun v hv => (hc v hv).flat
    
    walk_at "go"
    intro D nD
    replace w := w.nw (u := .dK []) nD
    walk_at "go"
    refine n_lst w (szle (by simp)) fun fp F1 H1 w hfp' => ?_
    walk_at "go"
    refine ⟨_, a, cs, rfl, w.fh, w.imL (by walk_at "mem"), hcf, by omega, fun pc F1 H1 hpc w1 => ?_⟩
    replace w := w.cal .nil w1 (by walk_at "app")
    unfold lstN at w
    replace w := w.push (dpa K [] (([] : List (List Nat)).map rngD)) .nil
    walk_at "go"
    refine n_forL ((chL cs).map fun (k : Nat) => V.int (k : Nat)) w (fun i σ L => ∃ (rs : List (List Nat)) (sl : List Nat) (kvs : List (Key × V)) (vs : List V), ∃ y3 y4 y5, σ = [some (.ref a), some (.ref D), some (.ref fp), y3, y4, y5] ∧ RgI cs ((chL cs).take i) rs (fun x => x ∈ sl) ∧ SnOk cs kvs sl ∧ rs.length ≤ i ∧ L = [mu D (.dK kvs), mu fp (.lst vs), dpa K vs (rs.map rngD), mu pc (.lst ((chL cs).map fun (k : Nat) => V.int (k : Nat))), imL K a cs]) ⟨[], [], [], [], _, _, _, rfl, by rw [way_nil0]; exact rgI_nil cs, snOk_nil cs, Nat.le_refl _, rfl⟩ (fun i σ L F' H' hp w => ?_) (fun i x σ L F' H' hx hp w => ?_) (fun σ L F' H' hp w => ?_)
    · obtain ⟨rs, sl, kvs, vs, y3, y4, y5, rfl, hrg, hsn, hrl, rfl⟩ := hp
      walk_at "sq"
    · obtain ⟨rs, sl, kvs, vs, y3, y4, y5, rfl, hrg, hsn, hrl, rfl⟩ := hp
      obtain ⟨c, hcc, rfl⟩ := map_at hx
      obtain ⟨hc1, hc2⟩ := ch_mem.mp (List.mem_of_getElem? hcc)
      have et : (chL cs).take (i + 1) = (chL cs).take i ++ [c] := by rw [List.take_add_one, hcc]; rfl
      have hvl2 : vs.length = rs.length := by rw [dpa_len (w.dpa (K := K) (xs := vs) (ds := rs.map rngD) (by walk_at "mem")), List.length_map]
      have hil := (List.getElem?_eq_some_iff.mp hcc).1
      have hcl2 := ch_len cs
      walk_at "go"
      refine n_lst w (szle (by simp)) fun wp F3 H3 w hwp => ?_
      walk_at "go"
      refine n_while w (fun m σ L => ∃ (way : List Nat) (p : Nat) (kv2 : List (Key × V)), σ = [some (.ref a), some (.ref D), some (.ref fp), some (.int (c : Nat)), some (.ref wp), some (.int (p : Nat))] ∧ WayOk (gC cs) (fun x => x ∈ sl) c way p ∧ SnW cs kv2 sl way ∧ m + (sl ++ way).length = cs.length ∧ L = [mu wp (.lst (way.map fun (k : Nat) => V.int (k : Nat))), mu D (.dK kv2), mu fp (.lst vs), dpa K vs (rs.map rngD), mu pc (.lst ((chL cs).map fun (k : Nat) => V.int (k : Nat))), imL K a cs]) (m0 := cs.length - sl.length) ⟨[], c, kvs, rfl, way_nil _ _ _, hsn.way, by rw [List.append_nil]; have := hsn.le; omega, rfl⟩ (fun m σ L F' H' hp w => ?_)
      obtain ⟨way, p, kv2, rfl, hw2, hsw, hm, rfl⟩ := hp
      walk_at "go"
      refine ⟨H', a, cs, p, rfl, rfl, Same.refl _, by walk_at "sq", hcf, by omega, fun F2 H2 w2 => ?_⟩
      replace w := w.ro0 w2
      cases eg : gC cs p with
      | none =>
        rw [show (none : Option Nat).isSome = false from rfl]
        walk_at "go"
        have he : gC cs p = none ∨ p ∈ sl ∨ p ∈ way := .inl eg
        obtain ⟨st1, st2⟩ := hrg.step hc hw2 he
        rw [way_seen, ← et] at st1 st2
        walk_at "go"
        refine n_inN (by walk_at "sq") ?_
        by_cases e : p ∈ way
        · rw [decide_eq_true e]
          obtain ⟨k, hk⟩ := List.mem_iff_getElem?.mp e
          walk_at "go"
          refine n_dgetV (by walk_at "at") (hsw.w k p hk) ?_
          walk_at "go"
          refine n_slL w (by walk_at "sq") fun s1 F3 H3 w hs1 => ?_
          rw [cut_from, ← List.map_drop] at w
          obtain ⟨F4, w⟩ := w.fzL (p := s1) (by walk_at "pick") hs1
          walk_at "go"
          refine n_app (p := fp) w (by walk_at "pick") (small_lt (by rw [← hvl2] at hrl; omega)) fun H5 w => ?_
          have w := w.push (dpa K (vs ++ [.ref s1]) ((rs ++ [way.drop k]).map rngD)) (by
            rw [List.map_append]
            exact dpa_snoc (w.dpa (by walk_at "mem")) (.lst (sqL_of (w.i (fx s1 _) (by walk_at "mem"))) (dpa_nums _)))
          exact nx_mk w ⟨rs ++ [way.drop k], sl ++ way, kv2, vs ++ [.ref s1], _, _, _, rfl, st2 k hk, hsw.s, by rw [List.length_append]; show _ + 1 ≤ _; omega, rfl⟩ (by walk_at "pk")
        · rw [decide_eq_false e]
          walk_at "go"
          exact nx_mk w ⟨rs, sl ++ way, kv2, vs, _, _, _, rfl, st1 e, hsw.s, by omega, rfl⟩ (by walk_at "pk")
      | some y =>
        obtain ⟨hv, hne⟩ := (gC_some hc).mp eg
        rw [show (some y : Option Nat).isSome = true from rfl]
        walk_at "go"
        refine n_dnin (by walk_at "at") ?_
        rw [hsw.s.k]
        by_cases hps : p ∈ sl ++ way
        · rw [decide_eq_true hps]
          have he : gC cs p = none ∨ p ∈ sl ∨ p ∈ way := .inr (List.mem_append.mp hps)
          walk_at "go"
          obtain ⟨st1, st2⟩ := hrg.step hc hw2 he
          rw [way_seen, ← et] at st1 st2
          walk_at "go"
          refine n_inN (by walk_at "sq") ?_
          by_cases e : p ∈ way
          · rw [decide_eq_true e]
            obtain ⟨k, hk⟩ := List.mem_iff_getElem?.mp e
            walk_at "go"
            refine n_dgetV (by walk_at "at") (hsw.w k p hk) ?_
            walk_at "go"
            refine n_slL w (by walk_at "sq") fun s1 F3 H3 w hs1 => ?_
            rw [cut_from, ← List.map_drop] at w
            obtain ⟨F4, w⟩ := w.fzL (p := s1) (by walk_at "pick") hs1
            walk_at "go"
            refine n_app (p := fp) w (by walk_at "pick") (small_lt (by rw [← hvl2] at hrl; omega)) fun H5 w => ?_
            have w := w.push (dpa K (vs ++ [.ref s1]) ((rs ++ [way.drop k]).map rngD)) (by
              rw [List.map_append]
              exact dpa_snoc (w.dpa (by walk_at "mem")) (.lst (sqL_of (w.i (fx s1 _) (by walk_at "mem"))) (dpa_nums _)))
            exact nx_mk w ⟨rs ++ [way.drop k], sl ++ way, kv2, vs ++ [.ref s1], _, _, _, rfl, st2 k hk, hsw.s, by rw [List.length_append]; show _ + 1 ≤ _; omega, rfl⟩ (by walk_at "pk")
          · rw [decide_eq_false e]
            walk_at "go"
            exact nx_mk w ⟨rs, sl ++ way, kv2, vs, _, _, _, rfl, st1 e, hsw.s, by omega, rfl⟩ (by walk_at "pk")
        · rw [decide_eq_false hps]
          walk_at "go"
          refine n_turn ?_
          walk_at "go"
          have hp1 : p ∉ sl := fun z => hps (List.mem_append_left _ z)
          have hp2 : p ∉ way := fun z => hps (List.mem_append_right _ z)
          have hswn := hsw.next (gC_lt hc eg).1 hps
          have hle := hswn.s.le
          rw [List.length_append, List.length_append] at hle
          have hle : sl.length + (way.length + 1) ≤ cs.length := hle
          rw [List.length_append] at hm
          refine w_dputI (by walk_at "at") (small_lt (by have := hsw.s.len; rw [List.length_append] at this; omega)) ?_
          rw [List.length_map]
          replace w := w.wr (p := D) (u := .dK (putK kv2 (.inl (p : Int)) (.int (way.length : Nat)))) (k := by walk_at "pick")
          walk_at "go"
          refine n_app (p := wp) w (by walk_at "pick") (small_lt (by rw [List.length_map]; omega)) fun H5 w => ?_
          rw [show (way.map fun (k : Nat) => V.int (k : Nat)) ++ [V.int (p : Nat)] = (way ++ [p]).map fun (k : Nat) => V.int (k : Nat) by rw [List.map_append]; rfl] at w
          walk_at "go"
          refine w_ixL _ _ (by walk_at "sq") (atI_nat hv) ?_
          walk_at "go"
          exact nxm_mk w (m' := m - 1) (by omega) ⟨way ++ [p], y, _, rfl, hw2.next eg hp1 hp2, hswn, by rw [List.length_append, List.length_append]; show m - 1 + (_ + (way.length + 1)) = _; omega, rfl⟩ (by walk_at "pk")
    · obtain ⟨rs, sl, kvs, vs, y3, y4, y5, rfl, hrg, hsn, hrl, rfl⟩ := hp
      rw [List.length_map, List.take_length] at hrg
      rw [List.length_map] at hrl
      have hcl2 := ch_len cs
      walk_at "go"
      obtain ⟨F2, w⟩ := w.fzD (p := fp) (by walk_at "pick") hfp' (w.dpa (K := K) (ds := rs.map rngD) (by walk_at "mem"))
      exact q (.ref fp) rs _ _ (w.to (by walk_at "pick")) (hrg.done hc) (by omega)
-- is_pure
theorem ok_is_pure {f : Addr} {fd : FuncData} (F : FunD K "is_pure" "is_pure" (defArgs s_is_pure) (defBody s_is_pure) (defScope s_is_pure) [] [] f fd) (T : Txt K mg)  : FnOk P w K mg base CX0 1 f fd ["ring", "reads"] (S2 (φis_pure K)) := by
  refine F.ok sc_is_pure (fun vs H Q E h => ?_) (fun cdv A outer s H vs Q E hr h => ?_)
  · exact S2.len h
  · match vs, h with
    | [v0, v1], h =>
    have hu := hu_of hr
    refine ⟨_, PSs.nox (pss_one (ps_ret (pe_callB (clAll (K := K)) (by rfl) T.b_all (by decide +kernel) (pa_cons (pe_lc (own := [("place", 2)]) (g := gName 2) rfl sc_is_pure.nd (pi_list (pv 0)) (blkOk_by (own := [("place", 2)]) (N := ["ring", "reads", "place"]) (sc := defScope s_is_pure) (by decide +kernel)) (fun _ _ _ _ _ => pg_name (i := 2) sc_is_pure.nd rfl (Or.inl rfl)) (fun _ _ _ _ _ => pts_nil) (fun _ _ _ _ _ => (pe_cmpR op_eq (pe_ix (ixL (K := K)) (pv 1) (pv 2) (fun _ _ => rfl)) pe_int (nomark _)))) pa_nil)))), ?_⟩
    rw [show start ["ring", "reads", "place"] [v0, v1] = [some v0, some v1, none] from rfl]
    obtain ⟨F, a, b, cs, n, r, rfl, rfl, hw, hA, hB, hr, hn, hcl, hrl, q⟩ := h
    have w := ((W.start (M := []) hw).push (imL K a _) hA).push (imL K b _) hB
    have hrdl := rdN_len cs n
    walk_at "go"
    refine n_lcL (r.map fun (k : Nat) => V.int (k : Nat)) w (fun j ys L => ys = ((r.take j).map fun x => decide (indG (gC cs) cs.length x = 1)).map V.bl ∧ L = [imL K a (r.map fun (k : Nat) => V.int (k : Nat)), imL K b ((rdN cs n).map fun (k : Nat) => V.int (k : Nat))]) ⟨rfl, rfl⟩ (fun j ys L F' H' D hp w => ?_) (fun j z ys L F' H' D hz hp w hD => ?_) (fun D ys L F' H' hp w hD => ?_)
    · obtain ⟨rfl, rfl⟩ := hp
      walk_at "sq"
    · obtain ⟨rfl, rfl⟩ := hp
      obtain ⟨x, hx, rfl⟩ := map_at hz
      have hjl := (List.getElem?_eq_some_iff.mp hx).1
      have hg : ((rdN cs n).map fun (k : Nat) => V.int (k : Nat))[x]? = some (.int (indG (gC cs) cs.length x : Nat)) := by rw [List.getElem?_map, rdN_get _ (hr x (List.mem_of_getElem? hx))]; rfl
      have et : r.take (j + 1) = r.take j ++ [x] := by rw [List.take_add_one, hx]; rfl
      walk_at "wp"
      walk_at "go"
      refine w_ixL _ _ (by walk_at "sq") (atI_nat hg) ?_
      walk_at "go"
      refine n_acc _ w ⟨by rw [et, List.map_append, List.map_append, show decide (((indG (gC cs) cs.length x : Nat) : Int) = 1) = decide (indG (gC cs) cs.length x = 1) from decide_eq_decide.mpr (by omega)]; rfl, rfl⟩ (by walk_at "pk") (small_lt (by rw [List.length_map, List.length_map, List.length_take]; omega))
    · obtain ⟨rfl, rfl⟩ := hp
      rw [List.length_map, List.take_length] at w
      walk_at "go"
      refine ⟨D, r.map fun x => decide (indG (gC cs) cs.length x = 1), rfl, by walk_at "sq", ?_⟩
      rw [show (r.map fun x => decide (indG (gC cs) cs.length x = 1)).all id = pureB cs r by unfold pureB; rw [List.all_map]; rfl]
      exact q _ _ (w.to .nil)
-- pure_rings
theorem ok_pure_rings {f : Addr} {fd : FuncData} (F : FunD K "pure_rings" "pure_rings" (defArgs s_pure_rings) (defBody s_pure_rings) (defScope s_pure_rings) [] [] f fd) (T : Txt K mg) (D_all_rings : DO P w K mg base 2 "all_rings" ["cells"] [] (S1 (φrings K))) (D_is_pure : DO P w K mg base 1 "is_pure" ["ring", "reads"] [] (S2 (φis_pure K))) (D_readers : DO P w K mg base 2 "readers" ["cells", "size"] [] (S2 (φreaders K))) (DM_Change_cells : DM P w K mg base 1 "Change" "cells" ["self"] [] (S1 (φcells K))) : FnOk P w K mg base CX0 3 f fd ["change"] (S1 (φpure_rings K)) := by
  refine F.ok sc_pure_rings (fun vs H Q E h => ?_) (fun cdv A outer s H vs Q E hr h => ?_)
  · exact S1.len h
  · match vs, h with
    | [v0], h =>
    have hu := hu_of hr
    refine ⟨_, PSs.nox (pss_cons (ps_set (i := 1) sc_pure_rings.nd rfl (.inl rfl) (pmeth0 DM_Change_cells hr (pv 0)))
      (pss_cons (ps_set (i := 2) sc_pure_rings.nd rfl (.inr rfl) (pcall D_readers hr (pa_cons (pv 1) (pa_cons (peFld (K := K) (pv 0)) pa_nil))))
      (pss_one (ps_ret (pe_callB (clLenQ (K := K)) (by rfl) T.b_len (by decide +kernel) (pa_cons (pe_lc (own := [("ring", 3)]) (g := gName 3) rfl sc_pure_rings.nd (pi_list (pcall D_all_rings hr (pa_cons (pv 1) pa_nil))) (blkOk_by (own := [("ring", 3)]) (N := ["change", "cells", "reads", "ring"]) (sc := defScope s_pure_rings) (by decide +kernel)) (fun _ _ _ _ _ => pg_name (i := 3) sc_pure_rings.nd rfl (Or.inl rfl)) (fun _ _ _ _ _ => pts_one (pt_val (pcall D_is_pure hr (pa_cons (pv 3) (pa_cons (pv 2) pa_nil))))) (fun _ _ _ _ _ => (pv 3))) pa_nil)))))), ?_⟩
    rw [show start ["change", "cells", "reads", "ring"] [v0] = [some v0, none, none, none] from rfl]
    have kC := T.k_Change
    have kS := T.na_Change_size
    have kR := T.na_Change_rows
    
    obtain ⟨F, n, rows, hw, hC, hok, hn, q⟩ := h
    obtain ⟨c, dx, rr, vs0, rfl, hcc, hrr, hD0⟩ := id hC
    have w := ((W.start (M := []) hw).push (chg K (.ref c) n rows) hC).push (fx c _) hcc
    unfold insC at w
    have hcl : (cellsV rows).length ≤ 400 := by rw [cells_len]; exact hok.sum
    have hco : ∀ v ∈ cellsV rows, CellOk n v := cells_ok hok.ok
    walk_at "go"
    refine ⟨_, n, rows, w.fh, w.i (chg K (.ref c) n rows) (by walk_at "mem"), hok, by omega, fun pd F1 H1 hpd w1 => ?_⟩
    have hpd' := w.g.fresh hpd
    replace w := w.cal .nil w1 (by walk_at "app")
    obtain ⟨F1, w⟩ := w.fzL (p := pd) (by walk_at "pick") hpd'
    walk_at "go"
    refine ⟨_, pd, cellsV rows, n, rfl, rfl, w.fh, sqL_of (w.i (fx pd _) (by walk_at "mem")), hco, hcl, hn, fun pr F1 H1 hpr w1 => ?_⟩
    replace w := w.cal .nil w1 (by walk_at "app")
    walk_at "go"
    refine ⟨_, pd, cellsV rows, n, rfl, w.fh, sqL_of (w.i (fx pd _) (by walk_at "mem")), hco, hcl, fun v rs F1 H1 w1 hrs hrl => ?_⟩
    replace w := w.cal .nil w1 (by walk_at "app")
    obtain ⟨vp, us, rfl, w⟩ := w.open (ds := rs.map rngD) (w.i (dat K v (rgD rs)) (by walk_at "mem"))
    unfold lstN at w
    have hul : us.length = rs.length := by rw [dpa_len (w.dpa (K := K) (xs := us) (ds := rs.map rngD) (by walk_at "mem")), List.length_map]
    have hrdl := rdN_len (cellsV rows) n
    walk_at "go"
    refine n_lcL us w (fun j ys L => ys.length = ((rs.take j).filter (pureB (cellsV rows))).length ∧ L = [imL K vp us, dpa K us (rs.map rngD), mu pr (.lst ((rdN (cellsV rows) n).map fun (k : Nat) => V.int (k : Nat)))]) ⟨rfl, rfl⟩ (fun j ys L F' H' D hp w => ?_) (fun j z ys L F' H' D hz hp w hD => ?_) (fun D ys L F' H' hp w hD => ?_)
    · obtain ⟨hyl, rfl⟩ := hp
      walk_at "sq"
    · obtain ⟨hyl, rfl⟩ := hp
      obtain ⟨r, hr, dr⟩ := dpa_at (w.dpa (K := K) (xs := us) (ds := rs.map rngD) (by walk_at "mem")) hz
      have hrm := List.mem_of_getElem? hr
      have hjl := (List.getElem?_eq_some_iff.mp hr).1
      obtain ⟨ra, ws, rfl, hrS, hrD⟩ := dp_list dr
      obtain rfl := dpa_numsI hrD
      replace w := w.push (imL K ra _) hrS
      have et : rs.take (j + 1) = rs.take j ++ [r] := by rw [List.take_add_one, hr]; rfl
      have hnr := nodup_lt 400 r (hrs.ok.nd r hrm) fun x hx => by have := (hrs.lt hco hrm hx).2; omega
      have hyb := List.length_filter_le (pureB (cellsV rows)) (rs.take j)
      rw [List.length_take] at hyb
      walk_at "wp"
      walk_at "go"
      refine ⟨H', ra, pr, cellsV rows, n, r, rfl, rfl, Same.refl _, by walk_at "sq", by walk_at "sq", fun x hx => (hrs.lt hco hrm hx).1, hn, hcl, hnr, fun F2 H2 w2 => ?_⟩
      replace w := w.ro0 w2
      cases e : pureB (cellsV rows) r with
      | true =>
        walk_at "go"
        refine n_acc ys w ⟨by rw [et, List.filter_append, List.length_append, List.length_append, ← hyl, List.filter_cons_of_pos e]; rfl, rfl⟩ (by walk_at "pk") (small_lt (by omega))
      | false =>
        walk_at "go"
        exact ⟨ys, _, _, ⟨by rw [et, List.filter_append, List.length_append, ← hyl, List.filter_cons_of_neg (by rw [e]; decide)]; rfl, rfl⟩, w.to (by walk_at "pick")⟩
    · obtain ⟨hyl, rfl⟩ := hp
      rw [hul, List.take_length, hrs.pur] at hyl
      walk_at "go"
      rw [hyl]
      exact q _ _ (w.to .nil)
-- _law_bag
theorem ok_law_bag {f : Addr} {fd : FuncData} (F : FunD K "_law_bag" "_law_bag" (defArgs s_law_bag) (defBody s_law_bag) (defScope s_law_bag) [] [] f fd) (T : Txt K mg)  : FnOk P w K mg base CX0 1 f fd ["script"] (S1 (φbag K)) := by
  refine F.ok sc_law_bag (fun vs H Q E h => ?_) (fun cdv A outer s H vs Q E hr h => ?_)
  · exact S1.len h
  · match vs, h with
    | [v0], h =>
    have hu := hu_of hr
    refine ⟨_, PSs.nox (pss_cons (ps_set (i := 1) sc_law_bag.nd rfl (.inl rfl) pe_int)
      (pss_cons (ps_for PassesOwn.never rfl (pi_list (pe_slice (slL (K := K)) (pv 0) po_none (po_some pe_int))) (pg_name (i := 2) sc_law_bag.nd rfl (.inl rfl)) (pss_one (ps_set (i := 1) sc_law_bag.nd rfl (.inl rfl) (pe_op op_mod (pe_op op_add (pe_op op_add (pe_op op_mul (pv 1) pe_int) (pe_op op_mod (pv 2) pe_int)) pe_int) pe_int))))
      (pss_one (ps_ret (pe_lst (pa_cons (pe_lc (own := [("cell", 2)]) (g := gName 2) rfl sc_law_bag.nd (pi_list (pe_slice (slL (K := K)) (pv 0) po_none (po_some pe_int))) (blkOk_by (own := [("cell", 2)]) (N := ["script", "stir", "cell"]) (sc := defScope s_law_bag) (by decide +kernel)) (fun _ _ _ _ _ => pg_name (i := 2) sc_law_bag.nd rfl (Or.inl rfl)) (fun _ _ _ _ _ => pts_nil) (fun _ _ _ _ _ => (pe_op op_mod (pe_callB clAbs (by rfl) T.b_abs (by decide +kernel) (pa_cons (pv 2) pa_nil)) (pe_op op_pow pe_int pe_int)))) (pa_cons pe_int (pa_cons pe_int (pa_cons (pv 1) (pa_cons pe_int pa_nil)))))))))), ?_⟩
    rw [show start ["script", "stir", "cell"] [v0] = [some v0, none, none] from rfl]
    obtain ⟨a, ns, rfl, hS, hl, q⟩ := h
    walk_at "og"
    intro l nl
    rw [cut63 hl]
    refine ⟨l, rfl, ⟨_, sqL_of upd_same⟩, f_list (xs := ns.map V.int) (fun i σ H' => ∃ (st : Int) (y : Option V), σ = [some (.ref a), some (.int st), y] ∧ 0 ≤ st ∧ st < 2147483647 ∧ H' = upd H l (.lst (ns.map V.int))) ⟨19, none, rfl, by decide, by decide, rfl⟩ (fun i σ H' _ hp => ?_) (fun i x σ H' hx hp => ?_) (fun σ H' hp => ?_)⟩
    · obtain ⟨st, y, _, _, _, rfl⟩ := hp
      exact sqL_of upd_same
    · obtain ⟨st, y, rfl, s0, s1, rfl⟩ := hp
      obtain ⟨z, rfl⟩ := map_get hx
      walk_at "og"
      exact ⟨_, _, rfl, mod_nn (by decide), mod_lt (by decide), rfl⟩
    · obtain ⟨st, y, rfl, s0, s1, rfl⟩ := hp
      have hS2 : SqL K (upd H l (.lst (ns.map V.int))) a (ns.map V.int) := sqL_same (Same.new nl) hS
      walk_at "og"
      intro l2 nl2
      rw [cut63 hl]
      have g0 : Gr [] H H H (upd H l (.lst (ns.map V.int))) := .new (Same.refl H) nl
      have g1 := g0.add (o := .lst (ns.map V.int)) nl2
      refine ⟨l2, rfl, ⟨_, sqL_of upd_same⟩, fun D nD => ?_⟩
      have g2 := g1.addm (o := .lst []) nD
      refine lc_list (xs := ns.map V.int) (fun i H' => ∃ vs : List Int, Gr [] H H (upd H l2 (.lst (ns.map V.int))) H' ∧ Mu (upd H l2 (.lst (ns.map V.int))) H' D (.lst (vs.map V.int)) ∧ (∀ x ∈ vs, 0 ≤ x ∧ x < 10 ^ 60) ∧ vs.length = i) ⟨[], g2, Mu.new g1.fh nD, by simp, rfl⟩ (fun i H' _ hp => ?_) (fun i x H' hx hp => ?_) (fun H' hp => ?_)
      · obtain ⟨vs, g, _⟩ := hp
        exact sqL_same g.fh (sqL_of upd_same)
      · obtain ⟨vs, g, mu, hv, hn⟩ := hp
        obtain ⟨z, rfl⟩ := map_get hx
        have hi : i < ns.length := by
          have := (List.getElem?_eq_some_iff.mp hx).1
          rwa [List.length_map] at this
        show gName 2 _ [some (.ref a), some (.int st), none] H' _
        walk_at "og"
        refine ⟨rfl, ?_⟩
        walk_at "og"
        refine ⟨_, mu.h, small1000 (by rw [List.length_map]; omega), vs ++ [_], g.wrn mu.n (g1.fresh nD), by rw [List.map_append]; exact mu.wr, ?_, by simp [hn]⟩
        intro x hx
        rcases List.mem_append.mp hx with hx | hx
        · exact hv x hx
        · rw [List.mem_singleton.mp hx]
          exact ⟨mod_nn (by decide), mod_lt (by decide)⟩
      · obtain ⟨vs, g, mu, hv, hn⟩ := hp
        walk_at "og"
        refine ⟨le1000 (by simp), fun p np => ?_⟩
        have g5 := (g.frz (g1.fresh nD) mu).addm (o := .lst [.ref D, .int 0, .int 0, .int st, .int 0]) np
        refine q p _ _ g5 ⟨D, vs, 0, 0, st, 0, ?_, upd_same, sqL_of upd_same, by rw [hn, List.length_map]; exact hl, hv, by decide, by decide, by decide, s0, s1⟩
        have nF := g.fh.free np
        rw [upd_ne (mu.ne_new np).symm]
        exact nF
-- _law_stirred
theorem ok_law_stirred {f : Addr} {fd : FuncData} (F : FunD K "_law_stirred" "_law_stirred" (defArgs s_law_stirred) (defBody s_law_stirred) (defScope s_law_stirred) [] [] f fd) (T : Txt K mg)  : FnOk P w K mg base CX0 1 f fd ["bag", "many"] (S2 (φdraw K)) := by
  refine F.ok sc_law_stirred (fun vs H Q E h => ?_) (fun cdv A outer s H vs Q E hr h => ?_)
  · exact S2.len h
  · match vs, h with
    | [v0, v1], h =>
    have hu := hu_of hr
    refine ⟨_, PSs.nox (pss_cons (ps_set (i := 2) sc_law_stirred.nd rfl (.inl rfl) pe_int)
      (pss_cons (ps_for PassesOwn.never rfl (pi_range1 rfl T.b_range (pa_cons (pe_op op_add pe_int (pe_op op_fdivW (pe_bits (pv 1)) pe_int)) pa_nil)) (pg_name (i := 3) sc_law_stirred.nd rfl (.inl rfl)) (pss_cons (ps_asg (pe_op op_add (pe_ix (ixL (K := K)) (pv 0) pe_int (fun _ _ => rfl)) pe_int) (pg_sub (pv 0) pe_int set_list))
      (pss_cons (ps_asg (pe_op op_mod (pe_op op_add (pe_op op_add (pe_op op_add (pe_op op_pow (pe_ix (ixL (K := K)) (pv 0) pe_int (fun _ _ => rfl)) pe_int) (pe_op op_mul pe_int (pe_ix (ixL (K := K)) (pv 0) pe_int (fun _ _ => rfl)))) (pe_op op_mul pe_int (pe_ix (ixL (K := K)) (pv 0) pe_int (fun _ _ => rfl)))) pe_int) pe_int) (pg_sub (pv 0) pe_int set_list))
      (pss_one (ps_set (i := 2) sc_law_stirred.nd rfl (.inl rfl) (pe_op op_add (pe_op op_mul (pv 2) pe_int) (pe_op op_fdivW (pe_ix (ixL (K := K)) (pv 0) pe_int (fun _ _ => rfl)) pe_int)))))))
      (pss_one (ps_ret (pe_op op_mod (pv 2) (pv 1)))))), ?_⟩
    rw [show start ["bag", "many", "got", "k"] [v0, v1] = [some v0, some v1, none, none] from rfl]
    obtain ⟨b, m, F, rfl, rfl, hw, hb, h0, h1, q⟩ := h
    have hbits := bits_le h0 h1
    have hb0 : (0 : Int) ≤ (Builtin.Int.intBits m : Nat) := Int.natCast_nonneg _
    have hd0 : (0 : Int) ≤ (Builtin.Int.intBits m : Nat) / 27 := div_nn hb0 (by decide)
    have hd1 : (Builtin.Int.intBits m : Int) / 27 ≤ (Builtin.Int.intBits m : Nat) := div_le' hb0 (by decide)
    walk_at "og"
    refine ⟨_, rfl, by omega, by omega, f_range0 (fun i σ H' => ∃ (f : Int) (y : Option V) (F2 : Hp), σ = [some (.ref b), some (.int m), some (.int f), y] ∧ Gr [b] F H F2 H' ∧ Bag K F2 H' b) ⟨0, none, F, rfl, .refl hw, hb⟩ (fun i σ H' hi hp => ?_) (fun σ H' hp => ?_)⟩
    · obtain ⟨f, y, F2, rfl, g, hB⟩ := hp
      obtain ⟨c, cells, i1, cur, st, n, e1, e2, e3, e4, e5, e6, e7, e8, e9, e10⟩ := hB.ex
      walk_at "og"
      exact ⟨_, _, F2, rfl, (g.put e1 (by simp)).put e1 (by simp), ⟨c, cells, i1, cur, _, _, e1, upd_same, e3, e4, e5, e6, e7, e8, mod_nn (by decide), mod_lt (by decide)⟩⟩
    · obtain ⟨f, y, F2, rfl, g, hB⟩ := hp
      walk_at "og"
      exact q _ F2 H' g hB (mod_nn h0) (mod_lt h0)
-- _law_draw
theorem ok_law_draw {f : Addr} {fd : FuncData} (F : FunD K "_law_draw" "_law_draw" (defArgs s_law_draw) (defBody s_law_draw) (defScope s_law_draw) [] [] f fd) (T : Txt K mg) (D_law_stirred : DO P w K mg base 1 "_law_stirred" ["bag", "many"] [] (S2 (φdraw K))) : FnOk P w K mg base CX0 2 f fd ["bag", "many"] (S2 (φdraw K)) := by
  refine F.ok sc_law_draw (fun vs H Q E h => ?_) (fun cdv A outer s H vs Q E hr h => ?_)
  · exact S2.len h
  · match vs, h with
    | [v0, v1], h =>
    have hu := hu_of hr
    refine ⟨_, PSs.nox (pss_cons (ps_if (PW.pt (pw_and (pt_cmpR op_eq (pe_ix (ixL (K := K)) (pv 0) pe_int (fun _ _ => rfl)) pe_int (nomark _)) (pw_and1 (pt_cmpR op_lt (pe_ix (ixL (K := K)) (pv 0) pe_int (fun _ _ => rfl)) (pe_callB (clLenQ (K := K)) (by rfl) T.b_len (by decide +kernel) (pa_cons (pe_ix (ixL (K := K)) (pv 0) pe_int (fun _ _ => rfl)) pa_nil)) (nomark _))))) (pss_cons (ps_asg (pe_ix (ixL (K := K)) (pe_ix (ixL (K := K)) (pv 0) pe_int (fun _ _ => rfl)) (pe_ix (ixL (K := K)) (pv 0) pe_int (fun _ _ => rfl)) (fun _ _ => rfl)) (pg_sub (pv 0) pe_int set_list))
      (pss_one (ps_asg (pe_op op_add (pe_ix (ixL (K := K)) (pv 0) pe_int (fun _ _ => rfl)) pe_int) (pg_sub (pv 0) pe_int set_list)))) (pss_one (ps_if (pt_cmpR op_eq (pe_ix (ixL (K := K)) (pv 0) pe_int (fun _ _ => rfl)) pe_int (nomark _)) (pss_one (ps_ret (pcall D_law_stirred hr (pa_cons (pv 0) (pa_cons (pv 1) pa_nil))))) pss_nil)))
      (pss_cons (ps_set (i := 2) sc_law_draw.nd rfl (.inl rfl) (pe_op op_mod (pe_ix (ixL (K := K)) (pv 0) pe_int (fun _ _ => rfl)) (pv 1)))
      (pss_cons (ps_asg (pe_op op_fdivW (pe_ix (ixL (K := K)) (pv 0) pe_int (fun _ _ => rfl)) (pv 1)) (pg_sub (pv 0) pe_int set_list))
      (pss_one (ps_ret (pv 2)))))), ?_⟩
    rw [show start ["bag", "many", "got"] [v0, v1] = [some v0, some v1, none] from rfl]
    obtain ⟨b, m, F, rfl, rfl, hw, hb, h0, h1, q⟩ := h
    obtain ⟨c, cells, i1, cur, st, n, e1, e2, e3, e4, e5, e6, e7, e8, e9, e10⟩ := hb.ex
    have e3' := sqL_same hw e3
    have gr := Gr.refl (M := [b]) hw
    walk_at "og"
    refine w_ite (fun hc => ?_) (fun hc => ?_)
    · walk_at "og"
      refine w_ite (fun hd => ?_) (fun hd => ?_)
      · obtain ⟨x, hx, ex⟩ := cell_at e6 hd
        have bx := e5 x hx
        walk_at "og"
        refine w_ixL _ _ e3' ex ?_
        walk_at "og"
        exact q _ F _ (((gr.put e1 (by simp)).put e1 (by simp)).put e1 (by simp)) ⟨c, cells, i1 + 1, x / m, st, n, e1, upd_same, e3, e4, e5, by omega, div_nn bx.1 h0, Int.lt_of_le_of_lt (div_le' bx.1 h0) bx.2, e9, e10⟩ (mod_nn h0) (mod_lt h0)
      · walk_at "og"
        refine w_iteT hc ?_
        walk_at "og"
        exact ⟨b, m, F, rfl, rfl, hw, hb, h0, h1, q⟩
    · walk_at "og"
      refine w_iteF hc ?_
      walk_at "og"
      exact q _ F _ (gr.put e1 (by simp)) ⟨c, cells, i1, cur / m, st, n, e1, upd_same, e3, e4, e5, e6, div_nn e7 h0, Int.lt_of_le_of_lt (div_le' e7 h0) e8, e9, e10⟩ (mod_nn h0) (mod_lt h0)
-- _law_whole
theorem ok_law_whole {f : Addr} {fd : FuncData} (F : FunD K "_law_whole" "_law_whole" (defArgs s_law_whole) (defBody s_law_whole) (defScope s_law_whole) [] [] f fd) (T : Txt K mg)  : FnOk P w K mg base CX0 1 f fd ["got"] (S1 φwholeI) := by
  refine F.ok sc_law_whole (fun vs H Q E h => ?_) (fun cdv A outer s H vs Q E hr h => ?_)
  · exact S1.len h
  · match vs, h with
    | [v0], h =>
    have hu := hu_of hr
    refine ⟨_, PSs.nox (pss_one (ps_ret (pe_and (pe_callB (clIsi (K := K)) (by rfl) T.b_isinstance (by decide +kernel) (pa_cons (pv 0) (pa_cons (pe_bltn (v := .ty "int") (by rfl) T.b_int (by decide +kernel) rfl) pa_nil))) (pe_one (pe_not (pe_callB (clIsi (K := K)) (by rfl) T.b_isinstance (by decide +kernel) (pa_cons (pv 0) (pa_cons (pe_bltn (v := .ty "bool") (by rfl) T.b_bool (by decide +kernel) rfl) pa_nil)))))))), ?_⟩
    rw [show start ["got"] [v0] = [some v0] from rfl]
    obtain ⟨i, rfl, q⟩ := h
    walk_at "go"
    refine u_isi (F := H) (d := .int i) (.int _) (Same.refl _) (k_int _) ?_
    walk_at "go"
    refine w_is (c := true) rfl ?_
    walk_at "go"
    refine u_isi (F := H) (d := .int i) (.int _) (Same.refl _) (k_bool _) ?_
    walk_at "go"
    exact q
-- _law_sign
theorem ok_law_sign {f : Addr} {fd : FuncData} (F : FunD K "_law_sign" "_law_sign" (defArgs s_law_sign) (defBody s_law_sign) (defScope s_law_sign) [] [] f fd) (T : Txt K mg) (D_law_draw : DO P w K mg base 2 "_law_draw" ["bag", "many"] [] (S2 (φdraw K))) : FnOk P w K mg base CX0 3 f fd ["bag", "few"] (S2 (φlsign K)) := by
  refine F.ok sc_law_sign (fun vs H Q E h => ?_) (fun cdv A outer s H vs Q E hr h => ?_)
  · exact S2.len h
  · match vs, h with
    | [v0, v1], h =>
    have hu := hu_of hr
    refine ⟨_, PSs.nox (pss_cons (ps_set (i := 2) sc_law_sign.nd rfl (.inl rfl) pe_str)
      (pss_one (ps_ret (pe_ifExp (pt_val (pv 1)) (pe_ix ix_str pe_str (pcall D_law_draw hr (pa_cons (pv 0) (pa_cons pe_int pa_nil))) (fun _ _ => rfl)) (pe_ix ix_str (pv 2) (pcall D_law_draw hr (pa_cons (pv 0) (pa_cons pe_int pa_nil))) (fun _ _ => rfl)))))), ?_⟩
    rw [show start ["bag", "few", "some"] [v0, v1] = [some v0, some v1, none] from rfl]
    obtain ⟨F, b, few, rfl, rfl, s0, q⟩ := h
    have w := s0.w (M := [b])
    walk_at "go"
    cases few with
    | true =>
      walk_at "go"
      refine n_draw w (by walk_at "pick") (by decide) (by decide) fun r F1 H1 w r0 r1 => ?_
      obtain ⟨c, hc, hcc⟩ := sig_pick (z := Str.ofString "ab") (by decide +kernel) r0 (by rw [show (Str.ofString "ab").length = 2 by decide +kernel]; exact r1)
      refine w_ixS (by rw [show (Str.ofString "ab").length = 2 by decide +kernel]; decide) hc ?_
      exact q c _ _ (w.to (by walk_at "pick")) hcc
    | false =>
      walk_at "go"
      have h93 : (Str.ofString "!\"#$&'()*+,-./0123456789:;<=>?@ABCDEFGHIJKLMNOPQRSTUVWXYZ[\\]^_`abcdefghijklmnopqrstuvwxyz{|}~") = sig93 := by decide +kernel
      rw [h93]
      refine n_draw w (by walk_at "pick") (by decide) (by decide) fun r F1 H1 w r0 r1 => ?_
      obtain ⟨c, hc, hcc⟩ := sig_pick (z := sig93) sig_ok r0 (by rw [sig_len]; exact r1)
      refine w_ixS (by rw [sig_len]; decide) hc ?_
      exact q c _ _ (w.to (by walk_at "pick")) hcc
-- _law_ring_cells
theorem ok_law_ring_cells {f : Addr} {fd : FuncData} (F : FunD K "_law_ring_cells" "_law_ring_cells" (defArgs s_law_ring_cells) (defBody s_law_ring_cells) (defScope s_law_ring_cells) [] [] f fd) (T : Txt K mg) (D_law_draw : DO P w K mg base 2 "_law_draw" ["bag", "many"] [] (S2 (φdraw K))) : FnOk P w K mg base CX0 3 f fd ["bag", "n"] (S2 (φlringcells K)) := by
  refine F.ok sc_law_ring_cells (fun vs H Q E h => ?_) (fun cdv A outer s H vs Q E hr h => ?_)
  · exact S2.len h
  · match vs, h with
    | [v0, v1], h =>
    have hu := hu_of hr
    refine ⟨_, PSs.nox (pss_cons (ps_set (i := 2) sc_law_ring_cells.nd rfl (.inl rfl) (pe_ix (ixL (K := K)) (pe_lst (pa_cons pe_int (pa_cons pe_int (pa_cons pe_int (pa_cons pe_int pa_nil))))) (pcall D_law_draw hr (pa_cons (pv 0) (pa_cons pe_int pa_nil))) (fun _ _ => rfl)))
      (pss_cons (ps_set (i := 3) sc_law_ring_cells.nd rfl (.inr rfl) (pe_listRg rfl (by rfl) T.b_list (prg_1 (by rfl) T.b_range (pv 1))))
      (pss_cons (ps_set (i := 4) sc_law_ring_cells.nd rfl (.inl rfl) (pe_op op_rep (pe_lst (pa_cons pe_int pa_nil)) (pv 1)))
      (pss_cons (ps_while PassesOwn.never (pt_cmpR (opNeD (K := K) hr.units) (pv 3) (pe_lst pa_nil) (nomark _)) (pss_cons (ps_set (i := 5) sc_law_ring_cells.nd rfl (.inl rfl) (pe_op op_add pe_int (pcall D_law_draw hr (pa_cons (pv 0) (pa_cons (pe_callB clMin2 (by rfl) T.b_min (by decide +kernel) (pa_cons (pe_callB (clLenQ (K := K)) (by rfl) T.b_len (by decide +kernel) (pa_cons (pv 3) pa_nil)) (pa_cons (pv 2) pa_nil))) pa_nil)))))
      (pss_cons (ps_setLc (i := 6) (own := [("k", 7)]) (g := gName 7) rfl sc_law_ring_cells.nd rfl rfl (sw_true rfl rfl rfl (by decide +kernel)) (pi_range1 rfl T.b_range (pa_cons (pv 5) pa_nil)) (blkOk_by (own := [("k", 7)]) (N := ["bag", "n", "long", "left", "cells", "many", "ring", "k"]) (sc := defScope s_law_ring_cells) (by decide +kernel)) (fun _ _ _ _ _ => pg_name (i := 7) sc_law_ring_cells.nd rfl (Or.inl rfl)) (fun _ _ _ _ _ => pts_nil) (fun _ _ _ _ _ => (peBM (K := K) PySem.F.plainAttrs_list PySem.F.slot_list_pop PySem.F.type_list_pop mt_popAt (pv 3) (pa_cons (pcall D_law_draw hr (pa_cons (pv 0) (pa_cons (pe_callB (clLenQ (K := K)) (by rfl) T.b_len (by decide +kernel) (pa_cons (pv 3) pa_nil)) pa_nil))) pa_nil))))
      (pss_one (ps_for PassesOwn.never rfl (pi_range1 rfl T.b_range (pa_cons (pv 5) pa_nil)) (pg_name (i := 7) sc_law_ring_cells.nd rfl (.inl rfl)) (pss_one (ps_asg (pe_ix (ixL (K := K)) (pv 6) (pe_op op_mod (pe_op op_add (pv 7) pe_int) (pv 5)) (fun _ _ => rfl)) (pg_sub (pv 4) (pe_ix (ixL (K := K)) (pv 6) (pv 7) (fun _ _ => rfl)) set_list))))))))
      (pss_one (ps_ret (pv 4))))))), ?_⟩
    rw [show start ["bag", "n", "long", "left", "cells", "many", "ring", "k"] [v0, v1] = [some v0, some v1, none, none, none, none, none, none] from rfl]
    obtain ⟨F, b, n, rfl, rfl, s0, hn, q⟩ := h
    have w := s0.w (M := [b])
    walk_at "go"
    refine n_lst w (szle (by simp)) fun p1 F1 H1 w hp1 => ?_
    walk_at "go"
    refine n_draw w (by walk_at "pick") (by decide) (by decide) fun r F1 H1 w r0 r1 => ?_
    obtain ⟨wd, ew, wd0, wd1⟩ := pick_ix (ns := [2, 3, 6, 400]) (lo := 2) (hi := 400) r0 r1 (by decide)
    refine w_ixL _ _ (by walk_at "sq") ew ?_
    walk_at "go"
    refine n_lstRg w (RgOk.of_le (by omega) (by omega) (by omega) (by omega)) fun pl F1 H1 w hpl => ?_
    rw [show rgV 0 ((n : Nat) : Int) = (List.range n).map fun (k : Nat) => V.int (k : Nat) by rw [rgV0]; rfl] at w
    walk_at "go"
    refine n_lst w (szle (by simp)) fun p2 F1 H1 w hp2 => ?_
    walk_at "go"
    refine n_rep w (by walk_at "at") (by omega) (by omega) (szle (by show 1 * _ ≤ _; omega)) fun pc F1 H1 w hpc => ?_
    rw [show (List.replicate (((n : Nat) : Int)).toNat [V.int 0]).flatten = (List.replicate n 0).map fun (k : Nat) => V.int (k : Nat) by rw [Int.toNat_natCast, List.flatten_replicate_singleton, List.map_replicate]; rfl] at w
    walk_at "go"
    refine n_while w (fun m σ L => ∃ (ls zs : List Nat), ∃ y5 y6 y7, σ = [some (.ref b), some (.int (n : Nat)), some (.int wd), some (.ref pl), some (.ref pc), y5, y6, y7] ∧ zs.length = n ∧ (∀ z ∈ zs, z < n ∨ z = 0) ∧ (∀ x ∈ ls, x < n) ∧ ls.length = m ∧ m ≤ n ∧ L = [mu pl (.lst (ls.map fun (k : Nat) => V.int (k : Nat))), mu pc (.lst (zs.map fun (k : Nat) => V.int (k : Nat))), bag K b]) (m0 := n) ⟨List.range n, List.replicate n 0, _, _, _, rfl, List.length_replicate, fun z hz => .inr (List.eq_of_mem_replicate hz), fun x hx => List.mem_range.mp hx, List.length_range, Nat.le_refl _, rfl⟩ (fun m σ L F' H' hp w => ?_)
    obtain ⟨ls, zs, y5, y6, y7, rfl, hzl, hz, hls, hm, hmn, rfl⟩ := hp
    walk_at "go"
    refine n_lst w (szle (by simp)) fun p3 F1 H1 w hp3 => ?_
    walk_at "go"
    refine n_neN (ls := []) (by walk_at "sq") (by walk_at "sq") (by omega) (by decide) ?_
    by_cases h0 : ls = []
    · rw [decide_eq_true h0]
      walk_at "go"
      exact q pc zs _ _ hpc (w.to (D := [mu pc (lstN zs), bag K b]) (by walk_at "pick")) hzl hz
    · rw [decide_eq_false h0]
      have hll : 0 < ls.length := List.length_pos_iff.mpr h0
      walk_at "go"
      refine n_turn ?_
      walk_at "go"
      obtain ⟨mm, emm⟩ : ∃ mm, mm = (if wd < (((ls.map fun (k : Nat) => V.int (k : Nat)).length : Nat) : Int) then wd else (((ls.map fun (k : Nat) => V.int (k : Nat)).length : Nat) : Int)) := ⟨_, rfl⟩
      have hm1 : 0 < mm ∧ mm ≤ (ls.length : Int) := by rw [List.length_map] at emm; split at emm <;> omega
      rw [← emm]
      refine n_draw w (by walk_at "pick") (by omega) (by omega) fun r2 F1 H1 w r20 r21 => ?_
      obtain ⟨many, emy⟩ : ∃ many : Nat, (many : Int) = 1 + r2 := ⟨(1 + r2).toNat, by omega⟩
      walk_at "go"
      rw [← emy]
      refine n_lcR (n := many) w (fun j ys L => ∃ (l2 rs : List Nat), ys = rs.map (fun (k : Nat) => V.int (k : Nat)) ∧ rs.length = j ∧ (∀ x ∈ rs, x < n) ∧ (∀ x ∈ l2, x < n) ∧ l2.length + j = ls.length ∧ L = [mu pl (.lst (l2.map fun (k : Nat) => V.int (k : Nat))), mu pc (.lst (zs.map fun (k : Nat) => V.int (k : Nat))), bag K b]) ⟨ls, [], rfl, rfl, (fun _ h => nomatch h), hls, rfl, rfl⟩ (fun j ys L F' H' D hj hp w hD => ?_) (fun D ys L F' H' hp w hD => ?_)
      · obtain ⟨l2, rs, rfl, hrl, hrs, hl2, hlj, rfl⟩ := hp
        walk_at "wp"
        walk_at "go"
        rw [List.length_map]
        refine n_draw w (by walk_at "pick") (by omega) (by omega) fun r3 F1 H1 w r30 r31 => ?_
        obtain ⟨rn, rfl⟩ : ∃ rn : Nat, r3 = (rn : Int) := ⟨r3.toNat, by omega⟩
        have hrn : rn < l2.length := by omega
        have hy : (l2.map fun (k : Nat) => V.int (k : Nat))[rn]? = some (.int (l2[rn] : Nat)) := by rw [List.getElem?_map, List.getElem?_eq_getElem hrn]; rfl
        walk_at "go"
        refine n_popAt w (by walk_at "pick") rn rfl (by rw [List.length_map]; omega) hy fun H9 w => ?_
        rw [map_eraseN] at w
        have hel : (l2.eraseIdx rn).length = l2.length - 1 := List.length_eraseIdx_of_lt hrn
        refine n_acc (rs.map fun (k : Nat) => V.int (k : Nat)) w ⟨l2.eraseIdx rn, rs ++ [l2[rn]], by rw [List.map_append]; rfl, by rw [List.length_append, hrl]; rfl, fun x hx => ?_, fun x hx => hl2 x (List.mem_of_mem_eraseIdx hx), by omega, rfl⟩ (by walk_at "pk") (small_lt (by rw [List.length_map]; omega))
        rcases List.mem_append.mp hx with hx | hx
        · exact hrs x hx
        · rw [List.mem_singleton.mp hx]; exact hl2 _ (List.getElem_mem hrn)
      · obtain ⟨l2, rs, rfl, hrl, hrs, hl2, hlj, rfl⟩ := hp
        walk_at "go"
        refine n_forR (n := many) w (fun j σ L => ∃ (z2 : List Nat), ∃ y7, σ = [some (.ref b), some (.int (n : Nat)), some (.int wd), some (.ref pl), some (.ref pc), some (.int (many : Nat)), some (.ref D), y7] ∧ z2.length = n ∧ (∀ z ∈ z2, z < n ∨ z = 0) ∧ L = [mu D (.lst (rs.map fun (k : Nat) => V.int (k : Nat))), mu pl (.lst (l2.map fun (k : Nat) => V.int (k : Nat))), mu pc (.lst (z2.map fun (k : Nat) => V.int (k : Nat))), bag K b]) ⟨zs, _, rfl, hzl, hz, rfl⟩ (fun j σ L F' H' hj hp w => ?_) (fun σ L F' H' hp w => ?_)
        · obtain ⟨z2, y7, rfl, hz2l, hz2, rfl⟩ := hp
          have hj2 : j < rs.length := by omega
          have hrj : (rs.map fun (k : Nat) => V.int (k : Nat))[j]? = some (.int (rs[j] : Nat)) := by rw [List.getElem?_map, List.getElem?_eq_getElem hj2]; rfl
          have hrn := hrs _ (List.getElem_mem hj2)
          obtain ⟨x, hx, ex⟩ := pick_nat (rs := rs) (i := ((j : Int) + 1) % (many : Int)) (Int.emod_nonneg _ (by omega)) (by have := Int.emod_lt_of_pos ((j : Int) + 1) (b := (many : Int)) (by omega); omega)
          walk_at "go"
          refine w_ixL _ _ (by walk_at "sq") ex ?_
          walk_at "go"
          refine w_ixL _ _ (by walk_at "sq") (atI_nat hrj) ?_
          walk_at "go"
          refine n_setL w (by walk_at "pick") rs[j] (ixNat (by rw [List.length_map]; omega)) fun H5 w => ?_
          rw [← List.map_set] at w
          refine nx_mk w ⟨z2.set rs[j] x, _, rfl, by rw [List.length_set]; exact hz2l, fun z hz => ?_, rfl⟩ (by walk_at "pk")
          rcases List.mem_or_eq_of_mem_set hz with hz | hz
          · exact hz2 z hz
          · rw [hz]; exact .inl (hrs x hx)
        · obtain ⟨z2, y7, rfl, hz2l, hz2, rfl⟩ := hp
          exact nxm_mk w (m' := l2.length) (by omega) ⟨l2, z2, _, _, _, rfl, hz2l, hz2, hl2, rfl, by omega, rfl⟩ (by walk_at "pk")
-- _law_cell
theorem ok_law_cell {f : Addr} {fd : FuncData} (F : FunD K "_law_cell" "_law_cell" (defArgs s_law_cell) (defBody s_law_cell) (defScope s_law_cell) [] [] f fd) (T : Txt K mg) (D_law_draw : DO P w K mg base 2 "_law_draw" ["bag", "many"] [] (S2 (φdraw K))) (D_law_sign : DO P w K mg base 3 "_law_sign" ["bag", "few"] [] (S2 (φlsign K))) : FnOk P w K mg base CX0 4 f fd ["bag", "size", "few"] (S3 (φlcell K)) := by
  refine F.ok sc_law_cell (fun vs H Q E h => ?_) (fun cdv A outer s H vs Q E hr h => ?_)
  · exact S3.len h
  · match vs, h with
    | [v0, v1, v2], h =>
    have hu := hu_of hr
    refine ⟨_, PSs.nox (pss_cons (ps_if (PW.pt (pw_or (pt_cmpR op_eq (pv 1) pe_int (nomark _)) (pw_or1 (pt_cmpR op_eq (pcall D_law_draw hr (pa_cons (pv 0) (pa_cons pe_int pa_nil))) pe_int (nomark _))))) (pss_one (ps_ret (pcall D_law_sign hr (pa_cons (pv 0) (pa_cons (pv 2) pa_nil))))) pss_nil)
      (pss_one (ps_ret (pcall D_law_draw hr (pa_cons (pv 0) (pa_cons (pv 1) pa_nil)))))), ?_⟩
    rw [show start ["bag", "size", "few"] [v0, v1, v2] = [some v0, some v1, some v2] from rfl]
    obtain ⟨F, b, n, few, rfl, rfl, rfl, s0, hn, q⟩ := h
    have w := s0.w (M := [b])
    walk_at "go"
    by_cases h0 : n = 0
    · rw [decide_eq_true (show ((n : Nat) : Int) = 0 by omega)]
      walk_at "go"
      refine ⟨_, b, few, rfl, rfl, w.st (by walk_at "pick"), fun c F2 H2 w2 hc => ?_⟩
      exact q _ _ _ w2 (.inr ⟨c, rfl, hc⟩)
    · rw [decide_eq_false (show ¬ ((n : Nat) : Int) = 0 by omega)]
      walk_at "go"
      refine n_draw w (by walk_at "pick") (by decide) (by decide) fun r F1 H1 w r0 r1 => ?_
      walk_at "go"
      by_cases h3 : r = 3
      · rw [decide_eq_true h3]
        walk_at "go"
        refine ⟨_, b, few, rfl, rfl, w.st (by walk_at "pick"), fun c F2 H2 w2 hc => ?_⟩
        replace w := w.calB (by walk_at "pick") w2 (by walk_at "app")
        exact q _ _ _ (w.to (by walk_at "pick")) (.inr ⟨c, rfl, hc⟩)
      · rw [decide_eq_false h3]
        walk_at "go"
        refine n_draw w (by walk_at "pick") (by omega) (by omega) fun r2 F1 H1 w r20 r21 => ?_
        walk_at "go"
        exact q _ _ _ (w.to (by walk_at "pick")) (.inl ⟨r2.toNat, by rw [Int.toNat_of_nonneg r20], by omega⟩)
-- _law_cells
theorem ok_law_cells {f : Addr} {fd : FuncData} (F : FunD K "_law_cells" "_law_cells" (defArgs s_law_cells) (defBody s_law_cells) (defScope s_law_cells) [] [] f fd) (T : Txt K mg) (D_law_cell : DO P w K mg base 4 "_law_cell" ["bag", "size", "few"] [] (S3 (φlcell K))) (D_law_draw : DO P w K mg base 2 "_law_draw" ["bag", "many"] [] (S2 (φdraw K))) (D_law_ring_cells : DO P w K mg base 3 "_law_ring_cells" ["bag", "n"] [] (S2 (φlringcells K))) : FnOk P w K mg base CX0 5 f fd ["bag", "way", "n", "few"] (S4 (φlcells31 K)) := by
  refine F.ok sc_law_cells (fun vs H Q E h => ?_) (fun cdv A outer s H vs Q E hr h => ?_)
  · exact S4.len h
  · match vs, h with
    | [v0, v1, v2, v3], h =>
    have hu := hu_of hr
    refine ⟨_, PSs.nox (pss_cons (ps_if (pt_cmpR op_eq (pv 1) pe_int (nomark _)) (pss_cons (ps_set (i := 4) sc_law_cells.nd rfl (.inr rfl) (pcall D_law_draw hr (pa_cons (pv 0) (pa_cons (pe_op op_add (pv 2) pe_int) pa_nil))))
      (pss_one (ps_ret (pe_tup (pa_cons (pv 4) (pa_cons (pe_lc (own := [("k", 7)]) (g := gName 7) rfl sc_law_cells.nd (pi_range1 rfl T.b_range (pa_cons (pcall D_law_draw hr (pa_cons (pv 0) (pa_cons (pe_op op_add (pv 2) pe_int) pa_nil))) pa_nil)) (blkOk_by (own := [("k", 7)]) (N := ["bag", "way", "n", "few", "size", "more", "cells", "k"]) (sc := defScope s_law_cells) (by decide +kernel)) (fun _ _ _ _ _ => pg_name (i := 7) sc_law_cells.nd rfl (Or.inl rfl)) (fun _ _ _ _ _ => pts_nil) (fun _ _ _ _ _ => (pcall D_law_cell hr (pa_cons (pv 0) (pa_cons (pv 4) (pa_cons (pv 3) pa_nil)))))) pa_nil)))))) pss_nil)
      (pss_cons (ps_set (i := 5) sc_law_cells.nd rfl (.inl rfl) (pcall D_law_draw hr (pa_cons (pv 0) (pa_cons pe_int pa_nil))))
      (pss_cons (ps_set (i := 6) sc_law_cells.nd rfl (.inl rfl) (pcall D_law_ring_cells hr (pa_cons (pv 0) (pa_cons (pv 2) pa_nil))))
      (pss_cons (ps_for PassesOwn.never rfl (pi_range1 rfl T.b_range (pa_cons (pe_ix (ixL (K := K)) (pe_lst (pa_cons pe_int (pa_cons pe_int (pa_cons (pe_op op_add pe_int (pv 5)) (pa_cons (pv 5) (pa_cons (pe_op op_add (pe_op op_fdivW (pv 2) pe_int) (pv 5)) pa_nil)))))) (pv 1) (fun _ _ => rfl)) pa_nil)) (pg_name (i := 7) sc_law_cells.nd rfl (.inl rfl)) (pss_one (ps_asg (pcall D_law_cell hr (pa_cons (pv 0) (pa_cons (pv 2) (pa_cons (pv 3) pa_nil)))) (pg_sub (pv 6) (pcall D_law_draw hr (pa_cons (pv 0) (pa_cons (pv 2) pa_nil))) set_list))))
      (pss_cons (ps_if (PW.pt (pw_and (pt_cmpR op_eq (pv 1) pe_int (nomark _)) (pw_and1 (pt_cmpR op_eq (pcall D_law_draw hr (pa_cons (pv 0) (pa_cons pe_int pa_nil))) pe_int (nomark _))))) (pss_one (ps_ret (pe_tup (pa_cons (pv 2) (pa_cons (pe_slice (slL (K := K)) (pv 6) po_none (po_some (pe_op op_sub (pe_op op_sub (pv 2) pe_int) (pcall D_law_draw hr (pa_cons (pv 0) (pa_cons (pv 2) pa_nil)))))) pa_nil))))) pss_nil)
      (pss_cons (ps_if (pt_cmpR op_eq (pv 1) pe_int (nomark _)) (pss_one (ps_ret (pe_tup (pa_cons (pv 2) (pa_cons (pe_op op_cat (pv 6) (pe_lc (own := [("k", 7)]) (g := gName 7) rfl sc_law_cells.nd (pi_range1 rfl T.b_range (pa_cons (pe_callB clMin2 (by rfl) T.b_min (by decide +kernel) (pa_cons (pe_op op_add pe_int (pv 5)) (pa_cons (pe_op op_sub pe_int (pv 2)) pa_nil))) pa_nil)) (blkOk_by (own := [("k", 7)]) (N := ["bag", "way", "n", "few", "size", "more", "cells", "k"]) (sc := defScope s_law_cells) (by decide +kernel)) (fun _ _ _ _ _ => pg_name (i := 7) sc_law_cells.nd rfl (Or.inl rfl)) (fun _ _ _ _ _ => pts_nil) (fun _ _ _ _ _ => (pcall D_law_cell hr (pa_cons (pv 0) (pa_cons (pv 2) (pa_cons (pv 3) pa_nil))))))) pa_nil))))) pss_nil)
      (pss_one (ps_ret (pe_tup (pa_cons (pv 2) (pa_cons (pv 6) pa_nil))))))))))), ?_⟩
    rw [show start ["bag", "way", "n", "few", "size", "more", "cells", "k"] [v0, v1, v2, v3] = [some v0, some v1, some v2, some v3, none, none, none, none] from rfl]
    obtain ⟨F, b, way, n, few, rfl, rfl, rfl, rfl, s0, hway, hn1, hn, q⟩ := h
    have w := s0.w (M := [b])
    walk_at "go"
    by_cases h0 : way = 0
    · rw [decide_eq_true (show ((way : Nat) : Int) = 0 by omega)]
      walk_at "go"
      refine n_draw w (by walk_at "pick") (by omega) (by omega) fun r F1 H1 w r0 r1 => ?_
      obtain ⟨sz, rfl⟩ : ∃ sz : Nat, r = (sz : Int) := ⟨r.toNat, by omega⟩
      walk_at "go"
      refine n_draw w (by walk_at "pick") (by omega) (by omega) fun r2 F1 H1 w r20 r21 => ?_
      obtain ⟨cn, rfl⟩ : ∃ cn : Nat, r2 = (cn : Int) := ⟨r2.toNat, by omega⟩
      walk_at "go"
      refine n_lcR (n := cn) w (fun j ys L => ys.length = j ∧ (∀ v ∈ ys, CellOk sz v) ∧ L = [bag K b]) ⟨rfl, (fun _ h => nomatch h), rfl⟩ (fun j ys L F' H' D hj hp w hD => ?_) (fun D ys L F' H' hp w hD => ?_)
      · obtain ⟨hyl, hyc, rfl⟩ := hp
        walk_at "wp"
        walk_at "go"
        refine ⟨_, b, sz, few, rfl, rfl, rfl, w.st (by walk_at "pick"), by omega, fun v F2 H2 w2 hv => ?_⟩
        replace w := w.calB (by walk_at "pick") w2 (by walk_at "app")
        refine n_acc ys w ⟨by rw [List.length_append, hyl]; rfl, fun u hu => ?_, rfl⟩ (by walk_at "pk") (small_lt (by omega))
        rcases List.mem_append.mp hu with hu | hu
        · exact hyc u hu
        · rw [List.mem_singleton.mp hu]; exact hv
      · obtain ⟨hyl, hyc, rfl⟩ := hp
        walk_at "go"
        refine n_tup w (szle (by simp)) fun t F3 H3 w => ?_
        exact q t D sz ys _ _ hD (w.to (by walk_at "pick")) (by omega) (by omega) hyc
    · rw [decide_eq_false (show ¬ ((way : Nat) : Int) = 0 by omega)]
      walk_at "go"
      refine n_draw w (by walk_at "pick") (by decide) (by decide) fun more F1 H1 w r0 r1 => ?_
      walk_at "go"
      refine ⟨_, b, n, rfl, rfl, w.st (by walk_at "pick"), hn, fun pc zs F2 H2 hpc w2 hzl hz => ?_⟩
      have hpc' := w.g.fresh hpc
      replace w := w.cal (D := [bag K b]) (by walk_at "pick") w2 (by walk_at "app") rfl
      unfold lstN at w
      have hz3 : ∀ v ∈ zs.map (fun (k : Nat) => V.int (k : Nat)), CellOk n v := fun v hv => by
        obtain ⟨z, hz2, rfl⟩ := List.mem_map.mp hv
        exact .inl ⟨z, rfl, by rcases hz z hz2 with h | h <;> omega⟩
      have hzl3 : (zs.map fun (k : Nat) => V.int (k : Nat)).length = n := by rw [List.length_map]; exact hzl
      obtain ⟨xs0, exs⟩ : ∃ xs0, xs0 = zs.map fun (k : Nat) => V.int (k : Nat) := ⟨_, rfl⟩
      rw [← exs] at w hz3 hzl3
      walk_at "go"
      refine n_lst w (szle (by simp)) fun p1 F1 H1 w hp1 => ?_
      obtain ⟨wd, ew, wd0, wd1⟩ := pick_ix (ns := [0, 0, 1 + more, more, (n : Int) / 4 + more]) (i := (way : Nat)) (lo := 0) (hi := 500) (by omega) (by show ((way : Nat) : Int) < 5; omega) (fun x hx => by simp at hx; omega)
      walk_at "go"
      refine w_ixL _ _ (by walk_at "sq") ew ?_
      walk_at "go"
      refine n_forR w (fun i σ L => ∃ (xs : List V), ∃ y7, σ = [some (.ref b), some (.int (way : Nat)), some (.int (n : Nat)), some (.bl few), none, some (.int more), some (.ref pc), y7] ∧ xs.length = n ∧ (∀ v ∈ xs, CellOk n v) ∧ L = [mu pc (.lst xs), bag K b]) ⟨xs0, _, rfl, hzl3, hz3, rfl⟩ (fun i σ L F' H' hi hp w => ?_) (fun σ L F' H' hp w => ?_)
      · obtain ⟨xs, y7, rfl, hxl, hxc, rfl⟩ := hp
        walk_at "go"
        refine ⟨_, b, n, few, rfl, rfl, rfl, w.st (by walk_at "pick"), hn, fun v F2 H2 w2 hv => ?_⟩
        replace w := w.calB (by walk_at "pick") w2 (by walk_at "app")
        walk_at "go"
        refine n_draw w (by walk_at "pick") (by omega) (by omega) fun r F1 H1 w r0 r1 => ?_
        walk_at "go"
        refine n_setL w (by walk_at "pick") r.toNat (ixN_in r0 (by omega)) fun H5 w => ?_
        refine nx_mk w ⟨xs.set r.toNat v, _, rfl, by rw [List.length_set]; exact hxl, fun u hu => ?_, rfl⟩ (by walk_at "pk")
        rcases List.mem_or_eq_of_mem_set hu with hu | hu
        · exact hxc u hu
        · rw [hu]; exact hv
      · obtain ⟨xs, y7, rfl, hxl, hxc, rfl⟩ := hp
        have fin0 : ∀ {F1 H1 L} (pz : Addr) (ys : List V), W [b] F H F1 H1 L → Pk L [mu pz (.lst ys), bag K b] → H pz = none → ys.length ≤ 400 → (∀ v ∈ ys, CellOk n v) → mkT [.int (n : Nat), .ref pz] H1 Q := fun pz ys w k hpz hl hy => by
          obtain ⟨Rs, k⟩ := k
          exact n_tup (w.to k) (szle (by simp)) fun t F3 H3 w => q t pz n ys _ _ hpz (w.to (by walk_at "pick")) hn hl hy
        walk_at "go"
        by_cases h3 : way = 3
        · rw [decide_eq_true (show ((way : Nat) : Int) = 3 by omega)]
          walk_at "go"
          refine n_draw w (by walk_at "pick") (by decide) (by decide) fun r F1 H1 w r0 r1 => ?_
          walk_at "go"
          by_cases h4 : r = 1
          · rw [decide_eq_true h4]
            walk_at "go"
            refine n_draw w (by walk_at "pick") (by omega) (by omega) fun r F1 H1 w r0 r1 => ?_
            walk_at "go"
            obtain ⟨kn, ekn⟩ : ∃ kn : Nat, (kn : Int) = (n : Nat) - 1 - r := ⟨((n : Nat) - 1 - r : Int).toNat, by omega⟩
            rw [← ekn]
            refine n_slL w (by walk_at "sq") fun s1 F3 H3 w hs1 => ?_
            rw [cut_to] at w
            walk_at "go"
            exact fin0 s1 (xs.take kn) w (by walk_at "pk") hs1 (by rw [List.length_take]; omega) fun v hv => hxc v (List.mem_of_mem_take hv)
          · rw [decide_eq_false h4]
            walk_at "go"
            rw [decide_eq_true (show ((way : Nat) : Int) = 3 by omega)]
            walk_at "go"
            obtain ⟨mm, emm⟩ : ∃ mm : Nat, (mm : Int) = (if (400 : Int) - (n : Nat) < 1 + more then (400 : Int) - (n : Nat) else 1 + more) := ⟨(if (400 : Int) - (n : Nat) < 1 + more then (400 : Int) - (n : Nat) else 1 + more).toNat, by split <;> omega⟩
            rw [← emm]
            have hmm : mm + n ≤ 400 := by split at emm <;> omega
            refine n_lcR (n := mm) w (fun j ys L => ys.length = j ∧ (∀ v ∈ ys, CellOk n v) ∧ L = [mu pc (.lst xs), bag K b]) ⟨rfl, (fun _ h => nomatch h), rfl⟩ (fun j ys L F' H' D hj hp w hD => ?_) (fun D ys L F' H' hp w hD => ?_)
            · obtain ⟨hyl, hyc, rfl⟩ := hp
              walk_at "wp"
              walk_at "go"
              refine ⟨_, b, n, few, rfl, rfl, rfl, w.st (by walk_at "pick"), hn, fun v F2 H2 w2 hv => ?_⟩
              replace w := w.calB (by walk_at "pick") w2 (by walk_at "app")
              refine n_acc ys w ⟨by rw [List.length_append, hyl]; rfl, fun u hu => ?_, rfl⟩ (by walk_at "pk") (small_lt (by omega))
              rcases List.mem_append.mp hu with hu | hu
              · exact hyc u hu
              · rw [List.mem_singleton.mp hu]; exact hv
            · obtain ⟨hyl, hyc, rfl⟩ := hp
              walk_at "go"
              refine n_cat w (by walk_at "at") (by walk_at "at") (szle (by omega)) fun p9 F9 H9 w hp9 => ?_
              walk_at "go"
              exact fin0 p9 (xs ++ ys) w (by walk_at "pk") hp9 (by rw [List.length_append]; omega) fun v hv => (List.mem_append.mp hv).elim (hxc v) (hyc v)
        · rw [decide_eq_false (show ¬ ((way : Nat) : Int) = 3 by omega)]
          walk_at "go"
          rw [decide_eq_false (show ¬ ((way : Nat) : Int) = 3 by omega)]
          walk_at "go"
          exact fin0 pc xs w (by walk_at "pk") hpc' (by omega) hxc
-- _law_many
theorem ok_law_many {f : Addr} {fd : FuncData} (F : FunD K "_law_many" "_law_many" (defArgs s_law_many) (defBody s_law_many) (defScope s_law_many) [] [] f fd) (T : Txt K mg) (D_law_draw : DO P w K mg base 2 "_law_draw" ["bag", "many"] [] (S2 (φdraw K))) : FnOk P w K mg base CX0 3 f fd ["bag"] (S1 (φlmany K)) := by
  refine F.ok sc_law_many (fun vs H Q E h => ?_) (fun cdv A outer s H vs Q E hr h => ?_)
  · exact S1.len h
  · match vs, h with
    | [v0], h =>
    have hu := hu_of hr
    refine ⟨_, PSs.nox (pss_one (ps_ret (pe_op op_add pe_int (pcall D_law_draw hr (pa_cons (pv 0) (pa_cons (pe_ix (ixL (K := K)) (pe_lst (pa_cons pe_int (pa_cons pe_int (pa_cons pe_int (pa_cons pe_int (pa_cons pe_int (pa_cons pe_int (pa_cons pe_int (pa_cons pe_int pa_nil))))))))) (pcall D_law_draw hr (pa_cons (pv 0) (pa_cons pe_int pa_nil))) (fun _ _ => rfl)) pa_nil)))))), ?_⟩
    rw [show start ["bag"] [v0] = [some v0] from rfl]
    obtain ⟨F, b, rfl, s0, q⟩ := h
    have w := s0.w (M := [b])
    walk_at "go"
    refine n_lst w (szle (by simp)) fun p1 F1 H1 w hp1 => ?_
    walk_at "go"
    refine n_draw w (by walk_at "pick") (by decide) (by decide) fun r F1 H1 w r0 r1 => ?_
    obtain ⟨wd, ew, wd0, wd1⟩ := pick_ix (ns := [6, 6, 6, 6, 6, 30, 120, 400]) (lo := 6) (hi := 400) r0 r1 (by decide)
    refine w_ixL _ _ (by walk_at "sq") ew ?_
    walk_at "go"
    refine n_draw w (by walk_at "pick") (by omega) (by omega) fun r F1 H1 w r0 r1 => ?_
    walk_at "go"
    obtain ⟨rn, rfl⟩ : ∃ rn : Nat, r = (rn : Int) := ⟨r.toNat, by omega⟩
    rw [show (1 : Int) + (rn : Nat) = ((1 + rn : Nat) : Int) by omega]
    exact q _ _ _ (w.to (by walk_at "pick")) (by omega) (by omega)
-- _law_rows
theorem ok_law_rows {f : Addr} {fd : FuncData} (F : FunD K "_law_rows" "_law_rows" (defArgs s_law_rows) (defBody s_law_rows) (defScope s_law_rows) [] [] f fd) (T : Txt K mg) (D_law_draw : DO P w K mg base 2 "_law_draw" ["bag", "many"] [] (S2 (φdraw K))) : FnOk P w K mg base CX0 3 f fd ["bag", "cells"] (S2 (φlrows31 K)) := by
  refine F.ok sc_law_rows (fun vs H Q E h => ?_) (fun cdv A outer s H vs Q E hr h => ?_)
  · exact S2.len h
  · match vs, h with
    | [v0, v1], h =>
    have hu := hu_of hr
    refine ⟨_, PSs.nox (pss_cons (ps_set (i := 2) sc_law_rows.nd rfl (.inl rfl) (pcall D_law_draw hr (pa_cons (pv 0) (pa_cons pe_int pa_nil))))
      (pss_cons (ps_set (i := 3) sc_law_rows.nd rfl (.inl rfl) (pe_lst pa_nil))
      (pss_cons (ps_for PassesOwn.never rfl (pi_list (pv 1)) (pg_name (i := 4) sc_law_rows.nd rfl (.inl rfl)) (C8.pss_cut (ps_set (i := 5) sc_law_rows.nd rfl (.inl rfl) (pe_ifExp (PW.pt (pw_and (pt_cmpR (opNeD (K := K) hr.units) (pv 3) (pe_lst pa_nil) (nomark _)) (pw_and1 (PW.pt (pw_or (pt_cmpR op_eq (pv 2) pe_int (nomark _)) (pw_or1 (pt_cmpR op_gt (pcall D_law_draw hr (pa_cons (pv 0) (pa_cons pe_int pa_nil))) pe_int (nomark _)))))))) (pe_ix (ixL (K := K)) (pv 3) (pe_un un_neg pe_int) (fun _ _ => rfl)) (pe_tup (pa_cons pe_str (pa_cons pe_int (pa_cons pe_int pa_nil))))))
      (pss_one (ps_if (PW.pt (pw_and (pt_val (pe_callB (clIsi (K := K)) (by rfl) T.b_isinstance (by decide +kernel) (pa_cons (pv 4) (pa_cons (pe_bltn (v := .ty "str") (by rfl) T.b_str (by decide +kernel) rfl) pa_nil)))) (pw_and1 (pt_cmpR op_eq (pe_ix (ixQ (K := K)) (pv 5) pe_int (fun _ _ => rfl)) pe_str (nomark _))))) (pss_one (ps_asg (pe_tup (pa_cons pe_str (pa_cons (pe_op opAddS (pe_ix (ixQ (K := K)) (pv 5) pe_int (fun _ _ => rfl)) (pv 4)) pa_nil))) (pg_sub (pv 3) (pe_un un_neg pe_int) set_list))) (pss_one (ps_if (pt_val (pe_callB (clIsi (K := K)) (by rfl) T.b_isinstance (by decide +kernel) (pa_cons (pv 4) (pa_cons (pe_bltn (v := .ty "str") (by rfl) T.b_str (by decide +kernel) rfl) pa_nil)))) (pss_one (ps_expr (peBM (K := K) PySem.F.plainAttrs_list PySem.F.slot_list_append PySem.F.type_list_append mt_append (pv 3) (pa_cons (pe_tup (pa_cons pe_str (pa_cons (pv 4) pa_nil))) pa_nil)))) (pss_one (ps_if (PW.pt (pw_and (pt_cmpR op_eq (pe_ix (ixQ (K := K)) (pv 5) pe_int (fun _ _ => rfl)) pe_str (nomark _)) (pw_and1 (pt_cmpR op_eq (pe_op op_add (pe_ix (ixQ (K := K)) (pv 5) pe_int (fun _ _ => rfl)) (pe_ix (ixQ (K := K)) (pv 5) pe_int (fun _ _ => rfl))) (pv 4) (nomark _))))) (pss_one (ps_asg (pe_tup (pa_cons pe_str (pa_cons (pe_ix (ixQ (K := K)) (pv 5) pe_int (fun _ _ => rfl)) (pa_cons (pe_op op_add (pe_ix (ixQ (K := K)) (pv 5) pe_int (fun _ _ => rfl)) pe_int) pa_nil)))) (pg_sub (pv 3) (pe_un un_neg pe_int) set_list))) (pss_one (ps_expr (peBM (K := K) PySem.F.plainAttrs_list PySem.F.slot_list_append PySem.F.type_list_append mt_append (pv 3) (pa_cons (pe_tup (pa_cons pe_str (pa_cons (pv 4) (pa_cons pe_int pa_nil)))) pa_nil))))))))))))
      (pss_one (ps_ret (pv 3)))))), ?_⟩
    rw [show start ["bag", "cells", "parted", "rows", "cell", "last"] [v0, v1] = [some v0, some v1, none, none, none, none] from rfl]
    obtain ⟨F, b, a, cs, n, rfl, rfl, s0, hS, hc, hcl, q⟩ := h
    have w := (s0.w (M := [b])).push (imL K a cs) hS
    walk_at "go"
    refine n_draw w (by walk_at "pick") (by decide) (by decide) fun pa F1 H1 w r0 r1 => ?_
    walk_at "go"
    refine n_lst w (szle (by simp)) fun pr F1 H1 w hpr => ?_
    replace w := w.push (dpa K [] (([] : List CRow).map CRow.d)) .nil
    walk_at "go"
    refine n_forL cs w (fun i σ L => ∃ (rows : List CRow) (ys : List V), ∃ y4 y5, σ = [some (.ref b), some (.ref a), some (.int pa), some (.ref pr), y4, y5] ∧ (∀ r ∈ rows, CRowOk n r) ∧ cellsV rows = cs.take i ∧ L = [mu pr (.lst ys), dpa K ys (rows.map CRow.d), bag K b, imL K a cs]) ⟨[], [], _, _, rfl, (fun _ h => nomatch h), rfl, rfl⟩ (fun i σ L F' H' hp w => ?_) (fun i x σ L F' H' hx hp w => ?_) (fun σ L F' H' hp w => ?_)
    · obtain ⟨rows, ys, y4, y5, rfl, hro, hce, rfl⟩ := hp
      walk_at "sq"
    · obtain ⟨rows, ys, y4, y5, rfl, hro, hce, rfl⟩ := hp
      have et : cs.take (i + 1) = cs.take i ++ [x] := by rw [List.take_add_one, hx]; rfl
      have hil := (List.getElem?_eq_some_iff.mp hx).1
      have hcx := hc x (List.mem_of_getElem? hx)
      have hyl : ys.length = rows.length := by rw [dpa_len (w.dpa (K := K) (xs := ys) (ds := rows.map CRow.d) (by walk_at "mem")), List.length_map]
      have hrl : rows.length ≤ 400 := by
        have h1 := rows_len fun r hr => (hro r hr).p
        rw [← cells_len, hce, List.length_take] at h1
        omega
      walk_at "go"
      refine n_cut w (fun σ L => ∃ v, σ = [some (.ref b), some (.ref a), some (.int pa), some (.ref pr), some x, some v] ∧ ((∃ t, v = .ref t ∧ L = [fx t (.tup [.str (Str.ofString ""), .int 0, .int 0]), mu pr (.lst ys), dpa K ys (rows.map CRow.d), bag K b, imL K a cs]) ∨ ∃ r rows0, rows = rows0 ++ [r] ∧ L = [dat K v r.d, mu pr (.lst ys), dpa K ys (rows.map CRow.d), bag K b, imL K a cs])) ?_ (fun σ L F' H' hp w => ?_)
      · walk_at "go"
        refine n_lst w (szle (by simp)) fun p3 F3 H3 w hp3 => ?_
        by_cases hne : rows = []
        · subst hne
          have hy0 : ys = [] := List.length_eq_zero_iff.mp hyl
          subst hy0
          refine u_neD (Same.refl _) (d := .list []) (.lst (by walk_at "sq") .nil) (.lst (by walk_at "sq") .nil) rfl (by decide) ?_
          walk_at "go"
          refine n_tup w (szle (by simp)) fun t F3 H3 w => ?_
          walk_at "go"
          exact nx_mk w ⟨_, rfl, .inl ⟨t, rfl, rfl⟩⟩ (by walk_at "pk")
        · obtain ⟨rows0, r, hrr⟩ := snoc_of hne
          obtain ⟨ys0, v, hyv⟩ := snoc_of (l := ys) fun e => by rw [e] at hyl; exact hne (List.length_eq_zero_iff.mp hyl.symm)
          have hg := crows_good (ms := rows) (fun r hr => (hro r hr).s) (by omega)
          have hdv : ∀ {F1}, DpAll K F1 ys (rows.map CRow.d) → Dp K F1 v r.d := fun {F1} h => by
            have e1 : ys0.length = rows0.length := by
              have := hyl
              rw [hrr, hyv, List.length_append, List.length_append] at this
              simpa using this
            obtain ⟨r2, h1, h2⟩ := dpa_at h (i := ys0.length) (y := v) (by rw [hyv, List.getElem?_append_right (Nat.le_refl _), Nat.sub_self]; rfl)
            rw [hrr, e1, List.getElem?_append_right (Nat.le_refl _), Nat.sub_self] at h1
            cases h1
            exact h2
          refine ⟨.list (rows.map CRow.d), .list [], .lst (by walk_at "sq") (dpa_same w.fh _ _ (w.dpa (by walk_at "mem"))), .lst (by walk_at "sq") .nil, good_shaped hg.1 (Nat.le_trans hg.2 (by decide)), good_shaped rfl (by decide), ?_⟩
          rw [show PyData.eqv (.list (rows.map CRow.d)) (.list []) = false by cases rows with | nil => exact absurd rfl hne | cons a b => rfl]
          walk_at "go"
          by_cases hp0 : pa = 0
          · rw [decide_eq_true hp0]
            walk_at "go"
            refine w_ixL _ _ (by walk_at "sq") (by rw [hyv]; exact atI_last) ?_
            walk_at "go"
            replace w := w.push (dat K v r.d) (hdv (w.dpa (by walk_at "mem")))
            exact nx_mk w ⟨_, rfl, .inr ⟨r, rows0, hrr, rfl⟩⟩ (by walk_at "pk")
          · rw [decide_eq_false hp0]
            walk_at "go"
            refine n_draw w (by walk_at "pick") (by decide) (by decide) fun r7 F1 H1 w r70 r71 => ?_
            walk_at "go"
            by_cases hp1 : 0 < r7
            · rw [decide_eq_true hp1]
              walk_at "go"
              refine w_ixL _ _ (by walk_at "sq") (by rw [hyv]; exact atI_last) ?_
              walk_at "go"
              replace w := w.push (dat K v r.d) (hdv (w.dpa (by walk_at "mem")))
              exact nx_mk w ⟨_, rfl, .inr ⟨r, rows0, hrr, rfl⟩⟩ (by walk_at "pk")
            · rw [decide_eq_false hp1]
              walk_at "go"
              refine n_tup w (szle (by simp)) fun t F3 H3 w => ?_
              walk_at "go"
              exact nx_mk w ⟨_, rfl, .inl ⟨t, rfl, rfl⟩⟩ (by walk_at "pk")
      · obtain ⟨v, rfl, hp⟩ := hp
        rcases hcx with ⟨k, rfl, hk⟩ | ⟨c, rfl, hcc⟩
        · rcases hp with ⟨t, rfl, rfl⟩ | ⟨r, rows0, hrr, rfl⟩
          · walk_at "go"
            refine u_isi (F := H') (d := .int _) (.int _) (Same.refl _) (k_str _) ?_
            walk_at "go"
            refine w_is (c := false) rfl ?_
            walk_at "go"
            refine u_isi (F := H') (d := .int _) (.int _) (Same.refl _) (k_str _) ?_
            walk_at "go"
            refine w_is (c := false) rfl ?_
            walk_at "go"
            refine w_ixQ [.str (Str.ofString ""), .int 0, .int 0] _ (.inr (by walk_at "st")) rfl ?_
            walk_at "go"
            refine n_tup w (szle (by simp)) fun t9 F9 H9 w => ?_
            walk_at "go"
            have d9 := dpa_snoc (w.dpa (K := K) (xs := ys) (ds := rows.map CRow.d) (by walk_at "mem")) (dp_ccopy' (K := K) (a := k) (n := 1) (sqT_of (w.i (fx t9 _) (by walk_at "mem"))))
            rw [show rows.map CRow.d ++ [(CRow.copy k 1).d] = (rows ++ [CRow.copy k 1]).map CRow.d by rw [List.map_append]; rfl] at d9
            replace w := w.push (dpa K (ys ++ [V.ref t9]) ((rows ++ [CRow.copy k 1]).map CRow.d)) d9
            refine n_app w (by walk_at "pick") (small_lt (by omega)) fun H5 w => ?_
            walk_at "go"
            exact nx_mk w ⟨rows ++ [CRow.copy k 1], ys ++ [V.ref t9], _, _, rfl, fun r2 hr2 => (List.mem_append.mp hr2).elim (hro r2) fun h2 => by rw [List.mem_singleton.mp h2]; exact rowok_one hk, by rw [cells_snoc, hce, et]; rfl, rfl⟩ (by walk_at "pk")
          · cases r with
            | put s =>
              obtain ⟨pm, rfl, hT⟩ := dp_cput (w.dat (K := K) (d := CRow.d (.put s)) (by walk_at "mem"))
              replace w := w.push (imT K pm [.str "put", .str s]) hT
              walk_at "go"
              refine u_isi (F := H') (d := .int _) (.int _) (Same.refl _) (k_str _) ?_
              walk_at "go"
              refine w_is (c := false) rfl ?_
              walk_at "go"
              refine u_isi (F := H') (d := .int _) (.int _) (Same.refl _) (k_str _) ?_
              walk_at "go"
              refine w_is (c := false) rfl ?_
              walk_at "go"
              refine w_ixQ [.str "put", .str s] _ (.inr (by walk_at "st")) rfl ?_
              walk_at "go"
              refine n_tup w (szle (by simp)) fun t9 F9 H9 w => ?_
              walk_at "go"
              have d9 := dpa_snoc (w.dpa (K := K) (xs := ys) (ds := rows.map CRow.d) (by walk_at "mem")) (dp_ccopy' (K := K) (a := k) (n := 1) (sqT_of (w.i (fx t9 _) (by walk_at "mem"))))
              rw [show rows.map CRow.d ++ [(CRow.copy k 1).d] = (rows ++ [CRow.copy k 1]).map CRow.d by rw [List.map_append]; rfl] at d9
              replace w := w.push (dpa K (ys ++ [V.ref t9]) ((rows ++ [CRow.copy k 1]).map CRow.d)) d9
              refine n_app w (by walk_at "pick") (small_lt (by omega)) fun H5 w => ?_
              walk_at "go"
              exact nx_mk w ⟨rows ++ [CRow.copy k 1], ys ++ [V.ref t9], _, _, rfl, fun r2 hr2 => (List.mem_append.mp hr2).elim (hro r2) fun h2 => by rw [List.mem_singleton.mp h2]; exact rowok_one hk, by rw [cells_snoc, hce, et]; rfl, rfl⟩ (by walk_at "pk")
            | copy a0 m =>
              obtain ⟨pm, rfl, hT⟩ := dp_ccopy (w.dat (K := K) (d := CRow.d (.copy a0 m)) (by walk_at "mem"))
              replace w := w.push (imT K pm [.str "copy", .int a0, .int m]) hT
              walk_at "go"
              refine u_isi (F := H') (d := .int _) (.int _) (Same.refl _) (k_str _) ?_
              walk_at "go"
              refine w_is (c := false) rfl ?_
              walk_at "go"
              refine u_isi (F := H') (d := .int _) (.int _) (Same.refl _) (k_str _) ?_
              walk_at "go"
              refine w_is (c := false) rfl ?_
              walk_at "go"
              refine w_ixQ [.str "copy", .int a0, .int m] _ (.inr (by walk_at "st")) rfl ?_
              walk_at "go"
              refine w_ixQ [.str "copy", .int a0, .int m] _ (.inr (by walk_at "st")) rfl ?_
              walk_at "go"
              refine w_ixQ [.str "copy", .int a0, .int m] _ (.inr (by walk_at "st")) rfl ?_
              walk_at "go"
              by_cases hkk : a0 + m = k
              · rw [decide_eq_true (show ((a0 : Nat) : Int) + (m : Nat) = (k : Nat) by omega)]
                walk_at "go"
                have hdl : rows.map CRow.d = rows0.map CRow.d ++ [(CRow.copy a0 m).d] := by rw [hrr, List.map_append]; rfl
                have hy1 : 0 < ys.length := by rw [hyl, hrr, List.length_append]; exact Nat.succ_pos _
                refine w_ixQ [.str "copy", .int a0, .int m] _ (.inr (by walk_at "st")) rfl ?_
                walk_at "go"
                refine w_ixQ [.str "copy", .int a0, .int m] _ (.inr (by walk_at "st")) rfl ?_
                walk_at "go"
                refine n_tup w (szle (by simp)) fun t9 F9 H9 w => ?_
                walk_at "go"
                have d9 := dpa_setL (hdl ▸ w.dpa (K := K) (xs := ys) (ds := rows.map CRow.d) (by walk_at "mem")) (dp_ccopy' (K := K) (a := a0) (n := m + 1) (sqT_of (w.i (fx t9 _) (by walk_at "mem"))))
                rw [show rows0.map CRow.d ++ [(CRow.copy a0 (m + 1)).d] = (rows0 ++ [CRow.copy a0 (m + 1)]).map CRow.d by rw [List.map_append]; rfl] at d9
                replace w := w.push (dpa K (ys.set (ys.length - 1) (V.ref t9)) ((rows0 ++ [CRow.copy a0 (m + 1)]).map CRow.d)) d9
                refine n_setL w (by walk_at "pick") (ys.length - 1) (ixN_m1 hy1) fun H5 w => ?_
                walk_at "go"
                exact nx_mk w ⟨rows0 ++ [CRow.copy a0 (m + 1)], ys.set (ys.length - 1) (V.ref t9), _, _, rfl, fun r2 hr2 => (List.mem_append.mp hr2).elim (fun h2 => hro r2 (by rw [hrr]; exact List.mem_append_left _ h2)) fun h2 => by rw [List.mem_singleton.mp h2]; exact rowok_more (hro _ (by rw [hrr]; exact List.mem_append_right _ (List.mem_singleton.mpr rfl))) (by omega), by rw [cells_snoc, cell_more, hkk, ← List.append_assoc, ← cells_snoc, ← hrr, hce, et], rfl⟩ (by walk_at "pk")
              · rw [decide_eq_false (show ¬ ((a0 : Nat) : Int) + (m : Nat) = (k : Nat) by omega)]
                walk_at "go"
                refine n_tup w (szle (by simp)) fun t9 F9 H9 w => ?_
                walk_at "go"
                have d9 := dpa_snoc (w.dpa (K := K) (xs := ys) (ds := rows.map CRow.d) (by walk_at "mem")) (dp_ccopy' (K := K) (a := k) (n := 1) (sqT_of (w.i (fx t9 _) (by walk_at "mem"))))
                rw [show rows.map CRow.d ++ [(CRow.copy k 1).d] = (rows ++ [CRow.copy k 1]).map CRow.d by rw [List.map_append]; rfl] at d9
                replace w := w.push (dpa K (ys ++ [V.ref t9]) ((rows ++ [CRow.copy k 1]).map CRow.d)) d9
                refine n_app w (by walk_at "pick") (small_lt (by omega)) fun H5 w => ?_
                walk_at "go"
                exact nx_mk w ⟨rows ++ [CRow.copy k 1], ys ++ [V.ref t9], _, _, rfl, fun r2 hr2 => (List.mem_append.mp hr2).elim (hro r2) fun h2 => by rw [List.mem_singleton.mp h2]; exact rowok_one hk, by rw [cells_snoc, hce, et]; rfl, rfl⟩ (by walk_at "pk")
        · rcases hp with ⟨t, rfl, rfl⟩ | ⟨r, rows0, hrr, rfl⟩
          · walk_at "go"
            refine u_isi (F := H') (d := .str _) (.str _) (Same.refl _) (k_str _) ?_
            walk_at "go"
            refine w_is (c := true) rfl ?_
            walk_at "go"
            refine w_ixQ [.str (Str.ofString ""), .int 0, .int 0] _ (.inr (by walk_at "st")) rfl ?_
            walk_at "go"
            refine u_isi (F := H') (d := .str _) (.str _) (Same.refl _) (k_str _) ?_
            walk_at "go"
            refine w_is (c := true) rfl ?_
            walk_at "go"
            refine n_tup w (szle (by simp)) fun t9 F9 H9 w => ?_
            walk_at "go"
            have d9 := dpa_snoc (w.dpa (K := K) (xs := ys) (ds := rows.map CRow.d) (by walk_at "mem")) (dp_cput' (K := K) (s := ⟨#[c]⟩) (sqT_of (w.i (fx t9 _) (by walk_at "mem"))))
            rw [show rows.map CRow.d ++ [(CRow.put ⟨#[c]⟩).d] = (rows ++ [CRow.put ⟨#[c]⟩]).map CRow.d by rw [List.map_append]; rfl] at d9
            replace w := w.push (dpa K (ys ++ [V.ref t9]) ((rows ++ [CRow.put ⟨#[c]⟩]).map CRow.d)) d9
            refine n_app w (by walk_at "pick") (small_lt (by omega)) fun H5 w => ?_
            walk_at "go"
            exact nx_mk w ⟨rows ++ [CRow.put ⟨#[c]⟩], ys ++ [V.ref t9], _, _, rfl, fun r2 hr2 => (List.mem_append.mp hr2).elim (hro r2) fun h2 => by rw [List.mem_singleton.mp h2]; exact rowok_char hcc, by rw [cells_snoc, hce, et]; rfl, rfl⟩ (by walk_at "pk")
          · cases r with
            | put s =>
              obtain ⟨pm, rfl, hT⟩ := dp_cput (w.dat (K := K) (d := CRow.d (.put s)) (by walk_at "mem"))
              replace w := w.push (imT K pm [.str "put", .str s]) hT
              walk_at "go"
              refine u_isi (F := H') (d := .str _) (.str _) (Same.refl _) (k_str _) ?_
              walk_at "go"
              refine w_is (c := true) rfl ?_
              walk_at "go"
              refine w_ixQ [.str "put", .str s] _ (.inr (by walk_at "st")) rfl ?_
              walk_at "go"
              have hsl : s.length ≤ 400 := by
                have h1 : (cellsV rows).length ≤ 400 := by rw [hce, List.length_take]; omega
                rw [hrr, cells_snoc, List.length_append] at h1
                have h2 : (CRow.put s).cellV.length = s.length := chars_len s
                omega
              have hso := hro (.put s) (by rw [hrr]; exact List.mem_append_right _ (List.mem_singleton.mpr rfl))
              have hcl1 : (⟨#[c]⟩ : Str).length = 1 := rfl
              have hdl : rows.map CRow.d = rows0.map CRow.d ++ [(CRow.put s).d] := by rw [hrr, List.map_append]; rfl
              have hy1 : 0 < ys.length := by rw [hyl, hrr, List.length_append]; exact Nat.succ_pos _
              refine w_ixQ [.str "put", .str s] _ (.inr (by walk_at "st")) rfl ?_
              walk_at "go"
              walk_at "go"
              refine n_tup w (szle (by simp)) fun t9 F9 H9 w => ?_
              walk_at "go"
              have d9 := dpa_setL (hdl ▸ w.dpa (K := K) (xs := ys) (ds := rows.map CRow.d) (by walk_at "mem")) (dp_cput' (K := K) (s := s ++ ⟨#[c]⟩) (sqT_of (w.i (fx t9 _) (by walk_at "mem"))))
              rw [show rows0.map CRow.d ++ [(CRow.put (s ++ ⟨#[c]⟩)).d] = (rows0 ++ [CRow.put (s ++ ⟨#[c]⟩)]).map CRow.d by rw [List.map_append]; rfl] at d9
              replace w := w.push (dpa K (ys.set (ys.length - 1) (V.ref t9)) ((rows0 ++ [CRow.put (s ++ ⟨#[c]⟩)]).map CRow.d)) d9
              refine n_setL w (by walk_at "pick") (ys.length - 1) (ixN_m1 hy1) fun H5 w => ?_
              walk_at "go"
              exact nx_mk w ⟨rows0 ++ [CRow.put (s ++ ⟨#[c]⟩)], ys.set (ys.length - 1) (V.ref t9), _, _, rfl, fun r2 hr2 => (List.mem_append.mp hr2).elim (fun h2 => hro r2 (by rw [hrr]; exact List.mem_append_left _ h2)) fun h2 => by rw [List.mem_singleton.mp h2]; exact ⟨⟨ok_cat hso.s.1 (one_ok hcc), by rw [len_app]; omega⟩, by show 1 ≤ (s ++ (⟨#[c]⟩ : Str)).length; rw [len_app]; omega, Nat.zero_le _⟩, by rw [cells_snoc, cell_cat, ← List.append_assoc, ← cells_snoc, ← hrr, hce, et], rfl⟩ (by walk_at "pk")
            | copy a0 m =>
              obtain ⟨pm, rfl, hT⟩ := dp_ccopy (w.dat (K := K) (d := CRow.d (.copy a0 m)) (by walk_at "mem"))
              replace w := w.push (imT K pm [.str "copy", .int a0, .int m]) hT
              walk_at "go"
              refine u_isi (F := H') (d := .str _) (.str _) (Same.refl _) (k_str _) ?_
              walk_at "go"
              refine w_is (c := true) rfl ?_
              walk_at "go"
              refine w_ixQ [.str "copy", .int a0, .int m] _ (.inr (by walk_at "st")) rfl ?_
              walk_at "go"
              refine u_isi (F := H') (d := .str _) (.str _) (Same.refl _) (k_str _) ?_
              walk_at "go"
              refine w_is (c := true) rfl ?_
              walk_at "go"
              refine n_tup w (szle (by simp)) fun t9 F9 H9 w => ?_
              walk_at "go"
              have d9 := dpa_snoc (w.dpa (K := K) (xs := ys) (ds := rows.map CRow.d) (by walk_at "mem")) (dp_cput' (K := K) (s := ⟨#[c]⟩) (sqT_of (w.i (fx t9 _) (by walk_at "mem"))))
              rw [show rows.map CRow.d ++ [(CRow.put ⟨#[c]⟩).d] = (rows ++ [CRow.put ⟨#[c]⟩]).map CRow.d by rw [List.map_append]; rfl] at d9
              replace w := w.push (dpa K (ys ++ [V.ref t9]) ((rows ++ [CRow.put ⟨#[c]⟩]).map CRow.d)) d9
              refine n_app w (by walk_at "pick") (small_lt (by omega)) fun H5 w => ?_
              walk_at "go"
              exact nx_mk w ⟨rows ++ [CRow.put ⟨#[c]⟩], ys ++ [V.ref t9], _, _, rfl, fun r2 hr2 => (List.mem_append.mp hr2).elim (hro r2) fun h2 => by rw [List.mem_singleton.mp h2]; exact rowok_char hcc, by rw [cells_snoc, hce, et]; rfl, rfl⟩ (by walk_at "pk")
    · obtain ⟨rows, ys, y4, y5, rfl, hro, hce, rfl⟩ := hp
      rw [List.take_length] at hce
      walk_at "go"
      exact q pr ys rows _ _ hpr (w.to (by walk_at "pick")) ⟨hro, by rw [← cells_len, hce]; exact hcl⟩ hce
-- _law_gets
theorem ok_law_gets {f : Addr} {fd : FuncData} (F : FunD K "_law_gets" "_law_gets" (defArgs s_law_gets) (defBody s_law_gets) (defScope s_law_gets) [] [] f fd) (T : Txt K mg)  : FnOk P w K mg base CX0 1 f fd ["cells", "place"] (S2 (φgets31 K)) := by
  refine F.ok sc_law_gets (fun vs H Q E h => ?_) (fun cdv A outer s H vs Q E hr h => ?_)
  · exact S2.len h
  · match vs, h with
    | [v0, v1], h =>
    have hu := hu_of hr
    refine ⟨_, PSs.nox (pss_one (ps_ret (pe_and (pe_cmpR op_lt (pv 1) (pe_callB (clLenQ (K := K)) (by rfl) T.b_len (by decide +kernel) (pa_cons (pv 0) pa_nil)) (nomark _)) (pe_and (pe_callB (clIsi (K := K)) (by rfl) T.b_isinstance (by decide +kernel) (pa_cons (pe_ix (ixL (K := K)) (pv 0) (pv 1) (fun _ _ => rfl)) (pa_cons (pe_bltn (v := .ty "int") (by rfl) T.b_int (by decide +kernel) rfl) pa_nil))) (pe_one (pe_cmpR op_ne (pe_ix (ixL (K := K)) (pv 0) (pv 1) (fun _ _ => rfl)) (pv 1) (nomark _))))))), ?_⟩
    rw [show start ["cells", "place"] [v0, v1] = [some v0, some v1] from rfl]
    obtain ⟨F, a, cs, p, rfl, rfl, hw, hS, hf, hl, q⟩ := h
    have w := (W.start (M := []) hw).push (imL K a cs) hS
    walk_at "go"
    by_cases hp : p < cs.length
    · rw [if_pos (decide_eq_true (by omega))]
      obtain ⟨v, hv⟩ : ∃ v, cs[p]? = some v := ⟨_, List.getElem?_eq_getElem hp⟩
      have he := gC_isSome hv
      rcases hf v (List.mem_of_getElem? hv) with rfl | ⟨i, rfl⟩ | ⟨z, rfl, hz⟩
      · walk_at "go"
        refine w_ixL _ _ (by walk_at "sq") (atI_nat hv) ?_
        walk_at "go"
        refine u_isi (F := H) (d := .none) .non (Same.refl _) (k_int _) ?_
        walk_at "go"
        refine w_is (c := false) rfl ?_
        walk_at "go"
        rw [he] at q
        exact q _ _ (w.to .nil)
      · walk_at "go"
        refine w_ixL _ _ (by walk_at "sq") (atI_nat hv) ?_
        walk_at "go"
        refine u_isi (F := H) (d := .int i) (.int _) (Same.refl _) (k_int _) ?_
        walk_at "go"
        refine w_is (c := true) rfl ?_
        walk_at "go"
        refine w_ixL _ _ (by walk_at "sq") (atI_nat hv) ?_
        walk_at "go"
        rw [he] at q
        exact q _ _ (w.to .nil)
      · walk_at "go"
        refine w_ixL _ _ (by walk_at "sq") (atI_nat hv) ?_
        walk_at "go"
        refine u_isi (F := H) (d := .str z) (.str _) (Same.refl _) (k_int _) ?_
        walk_at "go"
        refine w_is (c := false) rfl ?_
        walk_at "go"
        rw [he] at q
        exact q _ _ (w.to .nil)
    · rw [if_neg (fun e => hp (by have := of_decide_eq_true e; omega))]
      rw [gC_out (by omega)] at q
      exact q _ _ (w.to .nil)
-- _law_pure
theorem ok_law_pure {f : Addr} {fd : FuncData} (F : FunD K "_law_pure" "_law_pure" (defArgs s_law_pure) (defBody s_law_pure) (defScope s_law_pure) [] [] f fd) (T : Txt K mg) (D_law_gets : DO P w K mg base 1 "_law_gets" ["cells", "place"] [] (S2 (φgets31 K))) : FnOk P w K mg base CX0 2 f fd ["cells", "size"] (S2 (φlpure K)) := by
  refine F.ok sc_law_pure (fun vs H Q E h => ?_) (fun cdv A outer s H vs Q E hr h => ?_)
  · exact S2.len h
  · match vs, h with
    | [v0, v1], h =>
    have hu := hu_of hr
    refine ⟨_, PSs.nox (pss_cons (ps_set (i := 2) sc_law_pure.nd rfl (.inl rfl) (pe_op op_rep (pe_lst (pa_cons pe_int pa_nil)) (pv 1)))
      (pss_cons (ps_for PassesOwn.never rfl (pi_range1 rfl T.b_range (pa_cons (pe_callB (clLenQ (K := K)) (by rfl) T.b_len (by decide +kernel) (pa_cons (pv 0) pa_nil)) pa_nil)) (pg_name (i := 3) sc_law_pure.nd rfl (.inl rfl)) (pss_one (ps_if (pt_val (pcall D_law_gets hr (pa_cons (pv 0) (pa_cons (pv 3) pa_nil)))) (pss_one (ps_asg (pe_op op_add (pe_ix (ixL (K := K)) (pv 2) (pe_ix (ixL (K := K)) (pv 0) (pv 3) (fun _ _ => rfl)) (fun _ _ => rfl)) pe_int) (pg_sub (pv 2) (pe_ix (ixL (K := K)) (pv 0) (pv 3) (fun _ _ => rfl)) set_list))) pss_nil)))
      (pss_cons (ps_set (i := 4) sc_law_pure.nd rfl (.inl rfl) pe_dnewK)
      (pss_cons (ps_set (i := 5) sc_law_pure.nd rfl (.inl rfl) pe_int)
      (pss_cons (ps_set (i := 6) sc_law_pure.nd rfl (.inl rfl) pe_int)
      (pss_cons (ps_for PassesOwn.never rfl (pi_range1 rfl T.b_range (pa_cons (pe_callB (clLenQ (K := K)) (by rfl) T.b_len (by decide +kernel) (pa_cons (pv 0) pa_nil)) pa_nil)) (pg_name (i := 7) sc_law_pure.nd rfl (.inl rfl)) (pss_cons (ps_set (i := 3) sc_law_pure.nd rfl (.inl rfl) (pv 7))
      (pss_cons (ps_set (i := 8) sc_law_pure.nd rfl (.inl rfl) pe_int)
      (pss_cons (ps_while PassesOwn.never (PW.pt (pw_and (pt_cmp (pc_dnotin hu (pv 3) (pv 4))) (pw_and (pt_cmpR op_lt (pv 3) (pv 1) (nomark _)) (pw_and (pt_val (pcall D_law_gets hr (pa_cons (pv 0) (pa_cons (pv 3) pa_nil)))) (pw_and1 (pt_cmpR op_eq (pe_ix (ixL (K := K)) (pv 2) (pv 3) (fun _ _ => rfl)) pe_int (nomark _))))))) (pss_cons (ps_dput hu (pv 4) (pv 3) (pv 7) rfl)
      (pss_cons (ps_set (i := 3) sc_law_pure.nd rfl (.inl rfl) (pe_ix (ixL (K := K)) (pv 0) (pv 3) (fun _ _ => rfl)))
      (pss_one (ps_set (i := 8) sc_law_pure.nd rfl (.inl rfl) (pe_op op_add (pv 8) pe_int))))))
      (pss_one (ps_if (PW.pt (pw_and (pt_cmpR op_gt (pv 8) pe_int (nomark _)) (pw_and1 (pt_cmpR op_eq (pv 3) (pv 7) (nomark _))))) (pss_cons (ps_set (i := 5) sc_law_pure.nd rfl (.inl rfl) (pe_op op_add (pv 5) pe_int))
      (pss_one (ps_set (i := 6) sc_law_pure.nd rfl (.inl rfl) (pe_op op_add (pv 6) (pv 8))))) pss_nil))))))
      (pss_one (ps_ret (pe_tup (pa_cons (pe_callB (clLenQ (K := K)) (by rfl) T.b_len (by decide +kernel) (pa_cons (pe_lc (own := [("k", 9)]) (g := gName 9) rfl sc_law_pure.nd (pi_range1 rfl T.b_range (pa_cons (pe_callB (clLenQ (K := K)) (by rfl) T.b_len (by decide +kernel) (pa_cons (pv 0) pa_nil)) pa_nil)) (blkOk_by (own := [("k", 9)]) (N := ["cells", "size", "getters", "place", "seen", "rings", "within", "first", "many", "k"]) (sc := defScope s_law_pure) (by decide +kernel)) (fun _ _ _ _ _ => pg_name (i := 9) sc_law_pure.nd rfl (Or.inl rfl)) (fun _ _ _ _ _ => pts_one (pt_cmpR op_ne (pe_ix (ixL (K := K)) (pv 0) (pv 9) (fun _ _ => rfl)) (pv 9) (nomark _))) (fun _ _ _ _ _ => (pv 9))) pa_nil)) (pa_cons (pv 5) (pa_cons (pv 6) pa_nil)))))))))))), ?_⟩
    rw [show start ["cells", "size", "getters", "place", "seen", "rings", "within", "first", "many", "k"] [v0, v1] = [some v0, some v1, none, none, none, none, none, none, none, none] from rfl]
    obtain ⟨F, a, cs, n, rfl, rfl, hw, hS, hc, hcl, hn, q⟩ := h
    have w := (W.start (M := []) hw).push (imL K a cs) hS
    have hcf : ∀ v ∈ cs, FlatV v := fun v hv => (hc v hv).flat
    walk_at "go"
    refine n_lst w (szle (by simp)) fun p2 F1 H1 w hp2 => ?_
    walk_at "go"
    refine n_rep w (by walk_at "at") (by omega) (by omega) (szle (by show 1 * _ ≤ _; omega)) fun pf F1 H1 w hpf => ?_
    rw [show (List.replicate (((n : Nat) : Int)).toNat [V.int 0]).flatten = (rdT cs n []).map fun (k : Nat) => V.int (k : Nat) by rw [rdT_nil, Int.toNat_natCast, List.flatten_replicate_singleton, List.map_replicate]; rfl] at w
    walk_at "go"
    refine n_forR w (fun i σ L => ∃ y3, σ = [some (.ref a), some (.int (n : Nat)), some (.ref pf), y3, none, none, none, none, none, none] ∧ L = [mu pf (.lst ((rdT cs n (List.range i)).map fun (k : Nat) => V.int (k : Nat))), imL K a cs]) ⟨_, rfl, rfl⟩ (fun i σ L F' H' hi hp w => ?_) (fun σ L F' H' hp w => ?_)
    · obtain ⟨y3, rfl, rfl⟩ := hp
      have hi : i < cs.length := by omega
      have hgl := rdT_len cs n (List.range i)
      walk_at "go"
      refine ⟨H', a, cs, i, rfl, rfl, Same.refl _, by walk_at "sq", hcf, by omega, fun F2 H2 w2 => ?_⟩
      replace w := w.ro0 w2
      cases eg : gC cs i with
      | none =>
        rw [show (none : Option Nat).isSome = false from rfl]
        walk_at "go"
        refine nx_mk w ⟨_, rfl, rfl⟩ ?_
        rw [List.range_succ, rdT_no eg]
        walk_at "pk"
      | some p =>
        obtain ⟨hv, hne⟩ := (gC_some hc).mp eg
        obtain ⟨_, hpn⟩ := gC_lt hc eg
        have hgp : ((rdT cs n (List.range i)).map fun (k : Nat) => V.int (k : Nat))[p]? = some (.int ((List.range i).filter fun q => decide (gC cs q = some p)).length) := by rw [List.getElem?_map, rdT_get _ _ hpn]; rfl
        rw [show (some p : Option Nat).isSome = true from rfl]
        walk_at "go"
        refine w_ixL _ _ (by walk_at "sq") (atI_nat hv) ?_
        walk_at "go"
        refine w_ixL _ _ (by walk_at "sq") (atI_nat hgp) ?_
        walk_at "go"
        refine w_ixL _ _ (by walk_at "sq") (atI_nat hv) ?_
        walk_at "go"
        refine n_setL w (by walk_at "pick") p (ixNat (by rw [List.length_map]; omega)) fun H5 w => ?_
        rw [show ((((List.range i).filter fun q => decide (gC cs q = some p)).length : Nat) : Int) + 1 = ((((List.range i).filter fun q => decide (gC cs q = some p)).length + 1 : Nat) : Int) from rfl, ← List.map_set, ← rdT_yes eg hpn, ← List.range_succ] at w
        exact nx_mk w ⟨_, rfl, rfl⟩ (by walk_at "pk")
    · obtain ⟨y3, rfl, rfl⟩ := hp
      rw [show (((cs.length : Nat) : Int)).toNat = cs.length by omega, rdT_range] at w
      have hrdl := rdN_len cs n
      walk_at "go"
      intro D nD
      replace w := w.nw (u := .dK []) nD
      walk_at "go"
      refine n_forR w (fun i σ L => ∃ (sl : List Nat) (kvs : List (Key × V)) (rings within : Nat), ∃ y3 y7 y8, σ = [some (.ref a), some (.int (n : Nat)), some (.ref pf), y3, some (.ref D), some (.int (rings : Nat)), some (.int (within : Nat)), y7, y8, none] ∧ LpI cs (List.range i) rings within (fun x => x ∈ sl) ∧ SnOk cs kvs sl ∧ L = [mu D (.dK kvs), mu pf (.lst ((rdN cs n).map fun (k : Nat) => V.int (k : Nat))), imL K a cs]) ⟨[], [], 0, 0, _, _, _, rfl, by rw [way_nil0]; exact lpI_nil cs, snOk_nil cs, rfl⟩ (fun i σ L F' H' hi hp w => ?_) (fun σ L F' H' hp w => ?_)
      · obtain ⟨sl, kvs, rings, within, y3, y7, y8, rfl, hlp, hsn, rfl⟩ := hp
        have hi : i < cs.length := by omega
        walk_at "go"
        refine n_while w (fun m σ L => ∃ (way : List Nat) (p : Nat) (kv2 : List (Key × V)), σ = [some (.ref a), some (.int (n : Nat)), some (.ref pf), some (.int (p : Nat)), some (.ref D), some (.int (rings : Nat)), some (.int (within : Nat)), some (.int (i : Nat)), some (.int (way.length : Nat)), none] ∧ WayOk (hC cs) (fun x => x ∈ sl) i way p ∧ SnOk cs kv2 (sl ++ way) ∧ m + (sl ++ way).length = cs.length ∧ L = [mu D (.dK kv2), mu pf (.lst ((rdN cs n).map fun (k : Nat) => V.int (k : Nat))), imL K a cs]) (m0 := cs.length - sl.length) ⟨[], i, kvs, rfl, way_nil _ _ _, by rw [List.append_nil]; exact hsn, by rw [List.append_nil]; have := hsn.le; omega, rfl⟩ (fun m σ L F' H' hp w => ?_)
        obtain ⟨way, p, kv2, rfl, hw2, hsw, hm, rfl⟩ := hp
        walk_at "go"
        refine n_dnin (by walk_at "at") ?_
        rw [hsw.k]
        by_cases hps : p ∈ sl ++ way
        · rw [decide_eq_true hps]
          have he : hC cs p = none ∨ p ∈ sl ∨ p ∈ way := .inr (List.mem_append.mp hps)
          walk_at "go"
          obtain ⟨st1, st2⟩ := hlp.step hc hw2 he
          rw [way_seen, ← List.range_succ] at st1 st2
          by_cases hl0 : way = []
          · subst hl0
            rw [decide_eq_false (show ¬ (0 : Int) < ((([] : List Nat).length : Nat) : Int) by simp)]
            walk_at "go"
            exact nx_mk w ⟨sl ++ [], kv2, rings, within, _, _, _, rfl, st2 fun z => z.1 rfl, hsw, rfl⟩ (by walk_at "pk")
          · have hl1 : 0 < way.length := List.length_pos_iff.mpr hl0
            rw [decide_eq_true (show (0 : Int) < ((way.length : Nat) : Int) by omega)]
            walk_at "go"
            by_cases epi : p = i
            · rw [decide_eq_true (show ((p : Nat) : Int) = (i : Nat) by omega)]
              walk_at "go"
              exact nx_mk w ⟨sl ++ way, kv2, rings + 1, within + way.length, _, _, _, rfl, st1 ⟨hl0, epi⟩, hsw, rfl⟩ (by walk_at "pk")
            · rw [decide_eq_false (show ¬ ((p : Nat) : Int) = (i : Nat) by omega)]
              walk_at "go"
              exact nx_mk w ⟨sl ++ way, kv2, rings, within, _, _, _, rfl, st2 fun z => epi z.2, hsw, rfl⟩ (by walk_at "pk")
        rw [decide_eq_false hps]
        walk_at "go"
        by_cases hpn : p < n
        · rw [decide_eq_true (show ((p : Nat) : Int) < (n : Nat) by omega)]
          walk_at "go"
          refine ⟨H', a, cs, p, rfl, rfl, Same.refl _, by walk_at "sq", hcf, by omega, fun F2 H2 w2 => ?_⟩
          replace w := w.ro0 w2
          cases eg : gC cs p with
          | none =>
            have he : hC cs p = none ∨ p ∈ sl ∨ p ∈ way := .inl (by unfold hC; rw [eg]; split <;> rfl)
            rw [show (none : Option Nat).isSome = false from rfl]
            walk_at "go"
            obtain ⟨st1, st2⟩ := hlp.step hc hw2 he
            rw [way_seen, ← List.range_succ] at st1 st2
            by_cases hl0 : way = []
            · subst hl0
              rw [decide_eq_false (show ¬ (0 : Int) < ((([] : List Nat).length : Nat) : Int) by simp)]
              walk_at "go"
              exact nx_mk w ⟨sl ++ [], kv2, rings, within, _, _, _, rfl, st2 fun z => z.1 rfl, hsw, rfl⟩ (by walk_at "pk")
            · have hl1 : 0 < way.length := List.length_pos_iff.mpr hl0
              rw [decide_eq_true (show (0 : Int) < ((way.length : Nat) : Int) by omega)]
              walk_at "go"
              by_cases epi : p = i
              · rw [decide_eq_true (show ((p : Nat) : Int) = (i : Nat) by omega)]
                walk_at "go"
                exact nx_mk w ⟨sl ++ way, kv2, rings + 1, within + way.length, _, _, _, rfl, st1 ⟨hl0, epi⟩, hsw, rfl⟩ (by walk_at "pk")
              · rw [decide_eq_false (show ¬ ((p : Nat) : Int) = (i : Nat) by omega)]
                walk_at "go"
                exact nx_mk w ⟨sl ++ way, kv2, rings, within, _, _, _, rfl, st2 fun z => epi z.2, hsw, rfl⟩ (by walk_at "pk")
          | some y =>
            obtain ⟨hv, hne⟩ := (gC_some hc).mp eg
            have hg : ((rdN cs n).map fun (k : Nat) => V.int (k : Nat))[p]? = some (.int (indG (gC cs) cs.length p : Nat)) := by rw [List.getElem?_map, rdN_get _ hpn]; rfl
            rw [show (some y : Option Nat).isSome = true from rfl]
            walk_at "go"
            refine w_ixL _ _ (by walk_at "sq") (atI_nat hg) ?_
            walk_at "go"
            by_cases h1 : indG (gC cs) cs.length p = 1
            · rw [decide_eq_true (show ((indG (gC cs) cs.length p : Nat) : Int) = 1 by omega)]
              have hh : hC cs p = some y := by unfold hC; rw [if_pos h1]; exact eg
              walk_at "go"
              refine n_turn ?_
              walk_at "go"
              have hp1 : p ∉ sl := fun z => hps (List.mem_append_left _ z)
              have hp2 : p ∉ way := fun z => hps (List.mem_append_right _ z)
              have hswn := hsw.put (v := .int (i : Nat)) (gC_lt hc eg).1 hps
              have hle := hswn.le
              rw [List.append_assoc] at hswn hle
              rw [List.length_append, List.length_append] at hle
              have hle : sl.length + (way.length + 1) ≤ cs.length := hle
              rw [List.length_append] at hm
              refine w_dputI (by walk_at "at") (small_lt (by have := hsw.len; rw [List.length_append] at this; omega)) ?_
              replace w := w.wr (p := D) (u := .dK (putK kv2 (.inl (p : Int)) (.int (i : Nat)))) (k := by walk_at "pick")
              walk_at "go"
              refine w_ixL _ _ (by walk_at "sq") (atI_nat hv) ?_
              walk_at "go"
              rw [show ((way.length : Nat) : Int) + 1 = (((way ++ [p]).length : Nat) : Int) by rw [List.length_append]; rfl]
              exact nxm_mk w (m' := m - 1) (by omega) ⟨way ++ [p], y, _, rfl, hw2.next hh hp1 hp2, hswn, by rw [List.length_append, List.length_append]; show m - 1 + (_ + (way.length + 1)) = _; omega, rfl⟩ (by walk_at "pk")
            · rw [decide_eq_false (show ¬ ((indG (gC cs) cs.length p : Nat) : Int) = 1 by omega)]
              have he : hC cs p = none ∨ p ∈ sl ∨ p ∈ way := .inl (by unfold hC; rw [if_neg h1])
              walk_at "go"
              obtain ⟨st1, st2⟩ := hlp.step hc hw2 he
              rw [way_seen, ← List.range_succ] at st1 st2
              by_cases hl0 : way = []
              · subst hl0
                rw [decide_eq_false (show ¬ (0 : Int) < ((([] : List Nat).length : Nat) : Int) by simp)]
                walk_at "go"
                exact nx_mk w ⟨sl ++ [], kv2, rings, within, _, _, _, rfl, st2 fun z => z.1 rfl, hsw, rfl⟩ (by walk_at "pk")
              · have hl1 : 0 < way.length := List.length_pos_iff.mpr hl0
                rw [decide_eq_true (show (0 : Int) < ((way.length : Nat) : Int) by omega)]
                walk_at "go"
                by_cases epi : p = i
                · rw [decide_eq_true (show ((p : Nat) : Int) = (i : Nat) by omega)]
                  walk_at "go"
                  exact nx_mk w ⟨sl ++ way, kv2, rings + 1, within + way.length, _, _, _, rfl, st1 ⟨hl0, epi⟩, hsw, rfl⟩ (by walk_at "pk")
                · rw [decide_eq_false (show ¬ ((p : Nat) : Int) = (i : Nat) by omega)]
                  walk_at "go"
                  exact nx_mk w ⟨sl ++ way, kv2, rings, within, _, _, _, rfl, st2 fun z => epi z.2, hsw, rfl⟩ (by walk_at "pk")
        · rw [decide_eq_false (show ¬ ((p : Nat) : Int) < (n : Nat) by omega)]
          have he : hC cs p = none ∨ p ∈ sl ∨ p ∈ way := .inl (hC_out hc (by omega))
          walk_at "go"
          obtain ⟨st1, st2⟩ := hlp.step hc hw2 he
          rw [way_seen, ← List.range_succ] at st1 st2
          by_cases hl0 : way = []
          · subst hl0
            rw [decide_eq_false (show ¬ (0 : Int) < ((([] : List Nat).length : Nat) : Int) by simp)]
            walk_at "go"
            exact nx_mk w ⟨sl ++ [], kv2, rings, within, _, _, _, rfl, st2 fun z => z.1 rfl, hsw, rfl⟩ (by walk_at "pk")
          · have hl1 : 0 < way.length := List.length_pos_iff.mpr hl0
            rw [decide_eq_true (show (0 : Int) < ((way.length : Nat) : Int) by omega)]
            walk_at "go"
            by_cases epi : p = i
            · rw [decide_eq_true (show ((p : Nat) : Int) = (i : Nat) by omega)]
              walk_at "go"
              exact nx_mk w ⟨sl ++ way, kv2, rings + 1, within + way.length, _, _, _, rfl, st1 ⟨hl0, epi⟩, hsw, rfl⟩ (by walk_at "pk")
            · rw [decide_eq_false (show ¬ ((p : Nat) : Int) = (i : Nat) by omega)]
              walk_at "go"
              exact nx_mk w ⟨sl ++ way, kv2, rings, within, _, _, _, rfl, st2 fun z => epi z.2, hsw, rfl⟩ (by walk_at "pk")
      · obtain ⟨sl, kvs, rings, within, y3, y7, y8, rfl, hlp, hsn, rfl⟩ := hp
        rw [show (((cs.length : Nat) : Int)).toNat = cs.length by omega] at hlp
        obtain ⟨rfl, rfl⟩ := hlp.done hc
        walk_at "go"
        refine n_lcR w (fun j ys L => ys = ((List.range j).filter (chgC cs)).map (fun (k : Nat) => V.int (k : Nat)) ∧ L = [imL K a cs]) ⟨rfl, rfl⟩ (fun j ys L F' H' D2 hj hp w hD => ?_) (fun D2 ys L F' H' hp w hD => ?_)
        · obtain ⟨rfl, rfl⟩ := hp
          have hj : j < cs.length := by omega
          obtain ⟨v, hv⟩ : ∃ v, cs[j]? = some v := ⟨_, List.getElem?_eq_getElem hj⟩
          walk_at "wp"
          walk_at "go"
          refine w_ixL _ _ (by walk_at "sq") (atI_nat hv) ?_
          walk_at "go"
          refine ⟨scal_flat (hcf v (List.mem_of_getElem? hv)) (.inr (.inl ⟨_, rfl⟩)), ?_⟩
          have ec : chgC cs j = !decide (v = .int (j : Nat)) := by
            unfold chgC
            rw [hv]
            congr 1
            exact decide_eq_decide.mpr ⟨fun e => Option.some.inj e, fun e => by rw [e]⟩
          rw [← ec]
          cases e : chgC cs j with
          | true =>
            walk_at "go"
            refine n_acc _ w ⟨by rw [List.range_succ]; exact filtN_yes e, rfl⟩ (by walk_at "pk") (small_lt (by rw [List.length_map]; have := List.length_filter_le (chgC cs) (List.range j); rw [List.length_range] at this; omega))
          | false =>
            walk_at "go"
            exact ⟨_, _, _, ⟨by rw [List.range_succ]; exact filtN_no e, rfl⟩, w⟩
        · obtain ⟨rfl, rfl⟩ := hp
          rw [show (((cs.length : Nat) : Int)).toNat = cs.length by omega] at w
          walk_at "go"
          rw [List.length_map]
          exact n_tup w (szle (by simp)) fun t F3 H3 w => q t _ _ (w.to (by walk_at "pick"))
-- _law_case
theorem ok_law_case {f : Addr} {fd : FuncData} (F : FunD K "_law_case" "_law_case" (defArgs s_law_case) (defBody s_law_case) (defScope s_law_case) [] [] f fd) (T : Txt K mg) (D_law_cells : DO P w K mg base 5 "_law_cells" ["bag", "way", "n", "few"] [] (S4 (φlcells31 K))) (D_law_draw : DO P w K mg base 2 "_law_draw" ["bag", "many"] [] (S2 (φdraw K))) (D_law_many : DO P w K mg base 3 "_law_many" ["bag"] [] (S1 (φlmany K))) (D_law_rows : DO P w K mg base 3 "_law_rows" ["bag", "cells"] [] (S2 (φlrows31 K))) : FnOk P w K mg base CX0 6 f fd ["bag", "few"] (S2 (φcase31 K)) := by
  refine F.ok sc_law_case (fun vs H Q E h => ?_) (fun cdv A outer s H vs Q E hr h => ?_)
  · exact S2.len h
  · match vs, h with
    | [v0, v1], h =>
    have hu := hu_of hr
    refine ⟨_, PSs.nox (pss_cons (ps_set (i := 2) sc_law_case.nd rfl (.inl rfl) (pcall D_law_draw hr (pa_cons (pv 0) (pa_cons pe_int pa_nil))))
      (pss_cons (ps_asg (pcall D_law_cells hr (pa_cons (pv 0) (pa_cons (pv 2) (pa_cons (pcall D_law_many hr (pa_cons (pv 0) pa_nil)) (pa_cons (pv 1) pa_nil))))) (pg_tup (by rfl) (pgs_cons (pg_name (i := 3) sc_law_case.nd rfl (.inl rfl)) (pgs_cons (pg_name (i := 4) sc_law_case.nd rfl (.inl rfl)) pgs_nil))))
      (pss_one (ps_ret (pe_tup (pa_cons (pv 3) (pa_cons (pv 4) (pa_cons (pcall D_law_rows hr (pa_cons (pv 0) (pa_cons (pv 4) pa_nil))) pa_nil)))))))), ?_⟩
    rw [show start ["bag", "few", "way", "size", "cells"] [v0, v1] = [some v0, some v1, none, none, none] from rfl]
    obtain ⟨F, b, few, rfl, rfl, s0, q⟩ := h
    have w := s0.w (M := [b])
    walk_at "go"
    refine n_draw w (by walk_at "pick") (by decide) (by decide) fun r F1 H1 w r0 r1 => ?_
    obtain ⟨way, rfl⟩ : ∃ way : Nat, r = (way : Int) := ⟨r.toNat, by omega⟩
    walk_at "go"
    refine ⟨_, b, rfl, w.st (by walk_at "pick"), fun many F2 H2 w2 hm1 hm2 => ?_⟩
    replace w := w.calB (by walk_at "pick") w2 (by walk_at "app")
    walk_at "go"
    refine ⟨_, b, way, many, few, rfl, rfl, rfl, rfl, w.st (by walk_at "pick"), by omega, hm1, hm2, fun t pc sz cs F2 H2 hpc w2 hsz hcl hc => ?_⟩
    have hpc' := w.g.fresh hpc
    replace w := w.cal (D := [bag K b]) (by walk_at "pick") w2 (by walk_at "app") rfl
    obtain ⟨F3, w⟩ := w.fzL (p := pc) (by walk_at "pick") hpc'
    walk_at "go"
    refine ⟨F3, b, pc, cs, sz, rfl, rfl, w.st (by walk_at "pick"), sqL_of (w.i (fx pc _) (by walk_at "mem")), hc, hcl, fun pr ys rows F4 H4 hpr w2 hR hE => ?_⟩
    have hpr' := w.g.fresh hpr
    replace w := w.cal (D := [bag K b]) (by walk_at "pick") w2 (by walk_at "app") rfl
    obtain ⟨F5, w⟩ := w.fzD (p := pr) (by walk_at "pick") hpr' (w.dpa (by walk_at "mem"))
    walk_at "go"
    refine n_tup w (szle (by simp)) fun t2 F6 H6 w => ?_
    have hcd : Dp K F6 (.ref t2) (casD sz cs rows) := .tup (sqT_of (w.i (fx t2 _) (by walk_at "mem"))) (.cons (.int _) (.cons (.lst (sqL_of (w.i (fx pc _) (by walk_at "mem"))) (flat_dpa fun v hv => cell_flat (hc v hv))) (.cons (w.dat (by walk_at "mem")) .nil)))
    replace w := w.push (dat K (.ref t2) (casD sz cs rows)) hcd
    exact q (.ref t2) sz cs rows _ _ (w.to (by walk_at "pick")) ⟨hsz, hcl, hc, hR, hE⟩
-- law
theorem ok_law {f : Addr} {fd : FuncData} (F : FunD K "law" "law" (defArgs s_law) (defBody s_law) (defScope s_law) [] [] f fd) (T : Txt K mg) (D_law_bag : DO P w K mg base 1 "_law_bag" ["script"] [] (S1 (φbag K))) (D_law_case : DO P w K mg base 6 "_law_case" ["bag", "few"] [] (S2 (φcase31 K))) (D_law_draw : DO P w K mg base 2 "_law_draw" ["bag", "many"] [] (S2 (φdraw K))) (D_law_pure : DO P w K mg base 2 "_law_pure" ["cells", "size"] [] (S2 (φlpure K))) (D_law_whole : DO P w K mg base 1 "_law_whole" ["got"] [] (S1 φwholeI)) (D_pure_rings : DO P w K mg base 3 "pure_rings" ["change"] [] (S1 (φpure_rings K))) (DK_pure_rings_0_change : DK P w K mg base 3 "pure_rings" ["change"] 0 ["change"] [(1, 0)] [] (S1 (φpure_rings K))) (DN_Change_2 : DN P w K mg base 2 "Change" ["self", "size", "rows"] [] (S3 (φinit K))) : FnOk P w K mg base CX0 12 f fd ["script"] (S1 (φlaw K)) := by
  refine F.ok sc_law (fun vs H Q E h => ?_) (fun cdv A outer s H vs Q E hr h => ?_)
  · exact S1.len h
  · match vs, h with
    | [v0], h =>
    have hu := hu_of hr
    refine ⟨_, PSs.nox (pss_cons (ps_set (i := 1) sc_law.nd rfl (.inr rfl) (pcall D_law_bag hr (pa_cons (pv 0) pa_nil)))
      (pss_cons (ps_set (i := 2) sc_law.nd rfl (.inr rfl) (pe_cmpR op_eq (pcall D_law_draw hr (pa_cons (pv 1) (pa_cons pe_int pa_nil))) pe_int (nomark _)))
      (pss_cons (ps_set (i := 3) sc_law.nd rfl (.inl rfl) (pe_cmpR op_eq (pcall D_law_draw hr (pa_cons (pv 1) (pa_cons pe_int pa_nil))) pe_int (nomark _)))
      (pss_cons (ps_setLc (i := 4) (own := [("k", 7)]) (g := gName 7) rfl sc_law.nd rfl rfl (sw_true rfl rfl rfl (by decide +kernel)) (pi_range1 rfl T.b_range (pa_cons (pe_op op_add pe_int (pe_callB clMin2 (by rfl) T.b_min (by decide +kernel) (pa_cons (pe_op op_fdivW (pe_callB (clLenQ (K := K)) (by rfl) T.b_len (by decide +kernel) (pa_cons (pv 0) pa_nil)) pe_int) (pa_cons pe_int pa_nil)))) pa_nil)) (blkOk_by (own := [("k", 7)]) (N := ["script", "bag", "few", "named", "some", "changes", "turn", "k", "size", "cells", "rows", "got"]) (sc := defScope s_law) (by decide +kernel)) (fun _ _ _ _ _ => pg_name (i := 7) sc_law.nd rfl (Or.inl rfl)) (fun _ _ _ _ _ => pts_nil) (fun _ _ _ _ _ => (pcall D_law_case hr (pa_cons (pv 1) (pa_cons (pv 2) pa_nil)))))
      (pss_cons (ps_setLc (i := 5) (own := [("size", 8), ("cells", 9), ("rows", 10)]) (g := gTup K 3 (gCons (gName 8) (gCons (gName 9) (gCons (gName 10) gNil)))) rfl sc_law.nd rfl rfl (sw_true rfl rfl rfl (by decide +kernel)) (pi_list (pv 4)) (blkOk_by (own := [("size", 8), ("cells", 9), ("rows", 10)]) (N := ["script", "bag", "few", "named", "some", "changes", "turn", "k", "size", "cells", "rows", "got"]) (sc := defScope s_law) (by decide +kernel)) (fun _ _ _ _ _ => pgT (K := K) (n := 3) rfl (pgs_cons (pg_name (i := 8) sc_law.nd rfl (by first | exact Or.inl rfl | exact Or.inr rfl)) (pgs_cons (pg_name (i := 9) sc_law.nd rfl (by first | exact Or.inl rfl | exact Or.inr rfl)) (pgs_cons (pg_name (i := 10) sc_law.nd rfl (by first | exact Or.inl rfl | exact Or.inr rfl)) pgs_nil)))) (fun _ _ _ _ _ => pts_nil) (fun _ _ _ _ _ => (pmakeQ DN_Change_2 hr (pa_cons (pv 8) (pa_cons (pe_callTy (clListOf (K := K)) (by rfl) T.b_list (by decide +kernel) (pa_cons (pv 10) pa_nil)) pa_nil)))))
      (pss_cons (ps_for PassesOwn.never rfl (pi_range1 rfl T.b_range (pa_cons pe_int pa_nil)) (pg_name (i := 6) sc_law.nd rfl (.inl rfl)) (pss_one (ps_for PassesOwn.never rfl (pi_range1 rfl T.b_range (pa_cons (pe_callB (clLenQ (K := K)) (by rfl) T.b_len (by decide +kernel) (pa_cons (pv 4) pa_nil)) pa_nil)) (pg_name (i := 7) sc_law.nd rfl (.inl rfl)) (pss_cons (ps_asg (pe_ix (ixL (K := K)) (pv 4) (pv 7) (fun _ _ => rfl)) (pg_tup (by rfl) (pgs_cons (pg_name (i := 8) sc_law.nd rfl (.inl rfl)) (pgs_cons (pg_name (i := 9) sc_law.nd rfl (.inl rfl)) (pgs_cons (pg_name (i := 10) sc_law.nd rfl (.inl rfl)) pgs_nil)))))
      (pss_cons (ps_set (i := 11) sc_law.nd rfl (.inl rfl) (pe_ifExp (pt_val (pv 3)) (pcallK0 DK_pure_rings_0_change hr (pk_cons (pe_ix (ixL (K := K)) (pv 5) (pv 7) (fun _ _ => rfl)) pk_nil)) (pcall D_pure_rings hr (pa_cons (pe_ix (ixL (K := K)) (pv 5) (pv 7) (fun _ _ => rfl)) pa_nil))))
      (pss_cons (ps_if (PW.pt (pw_or (pt_not (pt_val (pcall D_law_whole hr (pa_cons (pv 11) pa_nil)))) (pw_or1 (pt_cmpR op_ne (pv 11) (pe_ix (ixT (K := K)) (pcall D_law_pure hr (pa_cons (pv 9) (pa_cons (pv 8) pa_nil))) pe_int (fun _ _ => rfl)) (nomark _))))) (pss_one (ps_ret pe_bl)) pss_nil)
      (pss_one (ps_if (PW.pt (pw_or (pt_cmpR (opNeD (K := K) hr.units) (peFld (K := K) (pe_ix (ixL (K := K)) (pv 5) (pv 7) (fun _ _ => rfl))) (pv 10) (nomark _)) (pw_or1 (pt_cmpR op_ne (peFld (K := K) (pe_ix (ixL (K := K)) (pv 5) (pv 7) (fun _ _ => rfl))) (pv 8) (nomark _))))) (pss_one (ps_ret pe_bl)) pss_nil))))))))
      (pss_one (ps_ret pe_bl)))))))), ?_⟩
    rw [show start ["script", "bag", "few", "named", "some", "changes", "turn", "k", "size", "cells", "rows", "got"] [v0] = [some v0, none, none, none, none, none, none, none, none, none, none, none] from rfl]
    have kC := T.k_Change
    have kS := T.na_Change_size
    have kR := T.na_Change_rows
    
    obtain ⟨sc, ns, rfl, hS, hl, q⟩ := h
    walk_at "go"
    refine ⟨sc, ns, rfl, hS, hl, fun b F1 H1 g1 hb => ?_⟩
    have w := W.bag0 g1 hb
    walk_at "go"
    refine n_draw w (by walk_at "pick") (by decide) (by decide) fun fw F1 H1 w f0 f1 => ?_
    walk_at "go"
    refine n_draw w (by walk_at "pick") (by decide) (by decide) fun nm F1 H1 w n0 n1 => ?_
    obtain ⟨few, efew⟩ : ∃ few, few = decide (fw = 1) := ⟨_, rfl⟩
    obtain ⟨named, enamed⟩ : ∃ named, named = decide (nm = 1) := ⟨_, rfl⟩
    walk_at "go"
    rw [← efew, ← enamed]
    walk_at "go"
    obtain ⟨mm, emm⟩ : ∃ m : Nat, (m : Int) = (1 : Int) + (if 8 < (((ns.map V.int).length : Nat) : Int) / 2 then 8 else (((ns.map V.int).length : Nat) : Int) / 2) := ⟨((1 : Int) + (if 8 < (((ns.map V.int).length : Nat) : Int) / 2 then 8 else (((ns.map V.int).length : Nat) : Int) / 2)).toNat, by split <;> omega⟩
    rw [← emm]
    have hmm : mm ≤ 9 := by split at emm <;> omega
    clear emm
    walk_at "go"
    replace w := w.push (dpa K [] (([] : List Cs).map Cs.d)) .nil
    refine n_lcR (n := mm) w (fun j ys L => ∃ us : List Cs, ys.length = j ∧ (∀ u ∈ us, u.Ok) ∧ L = [dpa K ys (us.map Cs.d), bag K b]) ⟨[], rfl, (fun _ h => nomatch h), rfl⟩ (fun j ys L F' H' D hj hp w hD => ?_) (fun D ys L F' H' hp w hD => ?_)
    · obtain ⟨us, hyl, hus, rfl⟩ := hp
      walk_at "wp"
      walk_at "go"
      refine ⟨_, b, few, rfl, rfl, w.st (by walk_at "pick"), fun v n cs rows F2 H2 w2 hok => ?_⟩
      replace w := w.cal (D := [bag K b]) (by walk_at "pick") w2 (by walk_at "app") rfl
      have d2 := dpa_snoc (w.dpa (K := K) (xs := ys) (ds := us.map Cs.d) (by walk_at "mem")) (w.dat (K := K) (d := casD n cs rows) (by walk_at "mem"))
      rw [show us.map Cs.d ++ [casD n cs rows] = (us ++ [(⟨n, cs, rows⟩ : Cs)]).map Cs.d by rw [List.map_append]; rfl] at d2
      replace w := w.push (dpa K (ys ++ [v]) ((us ++ [(⟨n, cs, rows⟩ : Cs)]).map Cs.d)) d2
      walk_at "go"
      refine n_acc ys w ⟨us ++ [(⟨n, cs, rows⟩ : Cs)], by rw [List.length_append, hyl]; rfl, fun u hu => ?_, rfl⟩ (by walk_at "pk") (small_lt (by omega))
      rcases List.mem_append.mp hu with hu | hu
      · exact hus u hu
      · rw [List.mem_singleton.mp hu]; exact hok
    · obtain ⟨us, hyl, hus, rfl⟩ := hp
      have hul : us.length = mm := by rw [← hyl, dpa_len (w.dpa (K := K) (xs := ys) (ds := us.map Cs.d) (by walk_at "mem")), List.length_map]
      obtain ⟨F3, w⟩ := w.fzL (p := D) (by walk_at "pick") hD
      have hyl2 : ys.length ≤ 9 := by omega
      walk_at "go"
      replace w := w.push (chA K [] (us.take 0)) chA_nil
      refine n_lcL ys w (fun j zs L => L = [chA K zs (us.take j), fx D (.lst ys), dpa K ys (us.map Cs.d), bag K b] ∧ zs.length = j) ⟨rfl, rfl⟩ (fun j zs L F' H' D2 hp w => ?_) (fun j x zs L F' H' D2 hx hp w hD2 => ?_) (fun D2 zs L F' H' hp w hD2 => ?_)
      · obtain ⟨rfl, hzl⟩ := hp
        walk_at "sq"
      · obtain ⟨rfl, hzl⟩ := hp
        obtain ⟨u, hu, dd⟩ := dpa_at (f := Cs.d) (w.dpa (K := K) (xs := ys) (ds := us.map Cs.d) (by walk_at "mem")) hx
        have hjl := (List.getElem?_eq_some_iff.mp hx).1
        have hok := hus u (List.mem_of_getElem? hu)
        obtain ⟨t, pc, pr, rs, rfl, hst, hpc, hpr, hrd⟩ := cas_parts hok dd
        replace w := (((w.push (imT K t [.int (u.n : Nat), .ref pc, .ref pr]) hst).push (imL K pc u.cs) hpc).push (imL K pr rs) hpr).push (dpa K rs (u.rows.map CRow.d)) hrd
        walk_at "wp"
        walk_at "go"
        refine n_listOf w (by walk_at "sq") fun p1 F4 H4 w hp1 => ?_
        obtain ⟨F4, w⟩ := w.fzL (p := p1) (by walk_at "pick") hp1
        walk_at "go"
        refine n_make w fun c dx H5 w hc => ?_
        refine c_init w (by walk_at "pick") hc (sqL_of (w.i (fx p1 (.lst rs)) (by walk_at "mem"))) (w.dpa (by walk_at "mem")) hok.s hok.r fun F5 H5 w => ?_
        have hch := chA_snoc (w.i (chA K zs (us.take j)) (by walk_at "mem")) (u := u) (w.i (chg K (.ref c) u.n u.rows) (by walk_at "mem"))
        rw [show us.take j ++ [u] = us.take (j + 1) by rw [List.take_add_one, hu]; rfl] at hch
        replace w := w.push (chA K (zs ++ [V.ref c]) (us.take (j + 1))) hch
        walk_at "go"
        exact n_acc zs w ⟨rfl, by rw [List.length_append, hzl]; rfl⟩ (by walk_at "pk") (small_lt (by omega))
      · obtain ⟨rfl, hzl⟩ := hp
        rw [List.take_of_length_le (by omega)] at w
        obtain ⟨F4, w⟩ := w.fzL (p := D2) (by walk_at "pick") hD2
        walk_at "go"
        refine n_forR (n := 2) w (fun i σ L => ∃ y6 y7 y8 y9 y10 y11, σ = [some (.ref sc), some (.ref b), some (.bl few), some (.bl named), some (.ref D), some (.ref D2), y6, y7, y8, y9, y10, y11] ∧ L = [fx D2 (.lst zs), chA K zs us, fx D (.lst ys), dpa K ys (us.map Cs.d)]) ⟨_, _, _, _, _, _, rfl, rfl⟩ (fun i σ L F' H' hi hp w => ?_) (fun σ L F' H' hp w => ?_)
        · obtain ⟨y6, y7, y8, y9, y10, y11, rfl, rfl⟩ := hp
          walk_at "go"
          refine n_forR (n := ys.length) w (fun j σ L => ∃ y6 y7 y8 y9 y10 y11, σ = [some (.ref sc), some (.ref b), some (.bl few), some (.bl named), some (.ref D), some (.ref D2), y6, y7, y8, y9, y10, y11] ∧ L = [fx D2 (.lst zs), chA K zs us, fx D (.lst ys), dpa K ys (us.map Cs.d)]) ⟨_, _, _, _, _, _, rfl, rfl⟩ (fun j σ L F' H' hj hp w => ?_) (fun σ L F' H' hp w => ?_)
          · obtain ⟨y6, y7, y8, y9, y10, y11, rfl, rfl⟩ := hp
            obtain ⟨x, hx⟩ : ∃ x, ys[j]? = some x := ⟨_, List.getElem?_eq_getElem hj⟩
            obtain ⟨u, hu, dd⟩ := dpa_at (f := Cs.d) (w.dpa (K := K) (xs := ys) (ds := us.map Cs.d) (by walk_at "mem")) hx
            have hok := hus u (List.mem_of_getElem? hu)
            obtain ⟨t, pc, pr, rs, rfl, hst, hpc, hpr, hrd⟩ := cas_parts hok dd
            have hCA : ChA K F' zs us := w.i (chA K zs us) (by walk_at "mem")
            obtain ⟨z, hz⟩ : ∃ z, zs[j]? = some z := ⟨_, List.getElem?_eq_getElem (by rw [hzl]; exact hj)⟩
            have hCh := hCA.2 j z u hz hu
            obtain ⟨c', dx', r', vs', ec, hc1, hr1, hd1⟩ := id hCh
            replace w := ((((((((w.push (imT K t [.int (u.n : Nat), .ref pc, .ref pr]) hst).push (imL K pc u.cs) hpc).push (imL K pr rs) hpr).push (dpa K rs (u.rows.map CRow.d)) hrd).push (chg K z u.n u.rows) hCh).push (fx c' (insC (He.ga K "Change") dx' r' u.n)) hc1).push (fx r' (.lst vs')) hr1).push (dpa K vs' (u.rows.map CRow.d)) hd1)
            subst ec
            unfold insC at w
            have gok := crows_good (ms := u.rows) (fun r hr => (hok.r.ok r hr).s) (by have := hok.r.len; omega)
            walk_at "go"
            refine w_ixL _ _ (by walk_at "sq") (atI_nat hx) ?_
            refine w_tgt _ (by walk_at "st") rfl ?_
            walk_at "go"
            cases named with
            | true =>
              walk_at "go"
              refine w_ixL _ _ (by walk_at "sq") (atI_nat hz) ?_
              walk_at "go"
              refine ⟨rfl, rfl, F', u.n, u.rows, w.fh, w.i (chg K (.ref c') u.n u.rows) (by walk_at "mem"), hok.r, hok.s, fun F3 H3 w3 => ?_⟩
              replace w := w.cal .nil w3 (by walk_at "app")
              rw [hok.e]
              walk_at "go"
              refine ⟨_, rfl, ?_⟩
              walk_at "go"
              refine ⟨_, pc, u.cs, u.n, rfl, rfl, w.fh, w.imL (by walk_at "mem"), hok.c, hok.l, hok.s, fun t2 F4 H4 w4 => ?_⟩
              replace w := w.cal .nil w4 (by walk_at "app")
              walk_at "go"
              refine w_ixL _ _ (by walk_at "sq") (atI_nat hz) ?_
              walk_at "go"
              refine u_neD w.fh (.lst (sqL_of (w.i (fx r' (.lst vs')) (by walk_at "mem"))) (w.dpa (K := K) (xs := vs') (by walk_at "mem"))) (.lst (w.imL (p := pr) (by walk_at "mem")) (w.dpa (K := K) (xs := rs) (by walk_at "mem"))) gok.1 (Nat.le_trans gok.2 (by decide)) ?_
              walk_at "go"
              refine w_ixL _ _ (by walk_at "sq") (atI_nat hz) ?_
              walk_at "go"
              exact nx_mk w ⟨_, _, _, _, _, _, rfl, rfl⟩ (by walk_at "pk")
            | false =>
              walk_at "go"
              refine w_ixL _ _ (by walk_at "sq") (atI_nat hz) ?_
              walk_at "go"
              refine ⟨F', u.n, u.rows, w.fh, w.i (chg K (.ref c') u.n u.rows) (by walk_at "mem"), hok.r, hok.s, fun F3 H3 w3 => ?_⟩
              replace w := w.cal .nil w3 (by walk_at "app")
              rw [hok.e]
              walk_at "go"
              refine ⟨_, rfl, ?_⟩
              walk_at "go"
              refine ⟨_, pc, u.cs, u.n, rfl, rfl, w.fh, w.imL (by walk_at "mem"), hok.c, hok.l, hok.s, fun t2 F4 H4 w4 => ?_⟩
              replace w := w.cal .nil w4 (by walk_at "app")
              walk_at "go"
              refine w_ixL _ _ (by walk_at "sq") (atI_nat hz) ?_
              walk_at "go"
              refine u_neD w.fh (.lst (sqL_of (w.i (fx r' (.lst vs')) (by walk_at "mem"))) (w.dpa (K := K) (xs := vs') (by walk_at "mem"))) (.lst (w.imL (p := pr) (by walk_at "mem")) (w.dpa (K := K) (xs := rs) (by walk_at "mem"))) gok.1 (Nat.le_trans gok.2 (by decide)) ?_
              walk_at "go"
              refine w_ixL _ _ (by walk_at "sq") (atI_nat hz) ?_
              walk_at "go"
              exact nx_mk w ⟨_, _, _, _, _, _, rfl, rfl⟩ (by walk_at "pk")
          · obtain ⟨y6, y7, y8, y9, y10, y11, rfl, rfl⟩ := hp
            walk_at "go"
            exact nx_mk w ⟨_, _, _, _, _, _, rfl, rfl⟩ (by walk_at "pk")
        · obtain ⟨y6, y7, y8, y9, y10, y11, rfl, rfl⟩ := hp
          walk_at "go"
          exact q _
end

def d_gives : He.DefD := ⟨("gives", none), "gives", "gives", defArgs s_gives, defBody s_gives, defScope s_gives, [], []⟩
def d_ChangeX_initX : He.DefD := ⟨("Change", some "__init__"), "__init__", "Change.__init__", defArgs s_ChangeX_initX, defBody s_ChangeX_initX, defScope s_ChangeX_initX, [], []⟩
def d_Change_cells : He.DefD := ⟨("Change", some "cells"), "cells", "Change.cells", defArgs s_Change_cells, defBody s_Change_cells, defScope s_Change_cells, [], []⟩
def d_gets : He.DefD := ⟨("gets", none), "gets", "gets", defArgs s_gets, defBody s_gets, defScope s_gets, [], []⟩
def d_changing : He.DefD := ⟨("changing", none), "changing", "changing", defArgs s_changing, defBody s_changing, defScope s_changing, [], []⟩
def d_readers : He.DefD := ⟨("readers", none), "readers", "readers", defArgs s_readers, defBody s_readers, defScope s_readers, [], []⟩
def d_all_rings : He.DefD := ⟨("all_rings", none), "all_rings", "all_rings", defArgs s_all_rings, defBody s_all_rings, defScope s_all_rings, [], []⟩
def d_is_pure : He.DefD := ⟨("is_pure", none), "is_pure", "is_pure", defArgs s_is_pure, defBody s_is_pure, defScope s_is_pure, [], []⟩
def d_pure_rings : He.DefD := ⟨("pure_rings", none), "pure_rings", "pure_rings", defArgs s_pure_rings, defBody s_pure_rings, defScope s_pure_rings, [], []⟩
def d_law_bag : He.DefD := ⟨("_law_bag", none), "_law_bag", "_law_bag", defArgs s_law_bag, defBody s_law_bag, defScope s_law_bag, [], []⟩
def d_law_stirred : He.DefD := ⟨("_law_stirred", none), "_law_stirred", "_law_stirred", defArgs s_law_stirred, defBody s_law_stirred, defScope s_law_stirred, [], []⟩
def d_law_draw : He.DefD := ⟨("_law_draw", none), "_law_draw", "_law_draw", defArgs s_law_draw, defBody s_law_draw, defScope s_law_draw, [], []⟩
def d_law_whole : He.DefD := ⟨("_law_whole", none), "_law_whole", "_law_whole", defArgs s_law_whole, defBody s_law_whole, defScope s_law_whole, [], []⟩
def d_law_sign : He.DefD := ⟨("_law_sign", none), "_law_sign", "_law_sign", defArgs s_law_sign, defBody s_law_sign, defScope s_law_sign, [], []⟩
def d_law_ring_cells : He.DefD := ⟨("_law_ring_cells", none), "_law_ring_cells", "_law_ring_cells", defArgs s_law_ring_cells, defBody s_law_ring_cells, defScope s_law_ring_cells, [], []⟩
def d_law_cell : He.DefD := ⟨("_law_cell", none), "_law_cell", "_law_cell", defArgs s_law_cell, defBody s_law_cell, defScope s_law_cell, [], []⟩
def d_law_cells : He.DefD := ⟨("_law_cells", none), "_law_cells", "_law_cells", defArgs s_law_cells, defBody s_law_cells, defScope s_law_cells, [], []⟩
def d_law_many : He.DefD := ⟨("_law_many", none), "_law_many", "_law_many", defArgs s_law_many, defBody s_law_many, defScope s_law_many, [], []⟩
def d_law_rows : He.DefD := ⟨("_law_rows", none), "_law_rows", "_law_rows", defArgs s_law_rows, defBody s_law_rows, defScope s_law_rows, [], []⟩
def d_law_gets : He.DefD := ⟨("_law_gets", none), "_law_gets", "_law_gets", defArgs s_law_gets, defBody s_law_gets, defScope s_law_gets, [], []⟩
def d_law_pure : He.DefD := ⟨("_law_pure", none), "_law_pure", "_law_pure", defArgs s_law_pure, defBody s_law_pure, defScope s_law_pure, [], []⟩
def d_law_case : He.DefD := ⟨("_law_case", none), "_law_case", "_law_case", defArgs s_law_case, defBody s_law_case, defScope s_law_case, [], []⟩
def d_law : He.DefD := ⟨("law", none), "law", "law", defArgs s_law, defBody s_law, defScope s_law, [], []⟩
def fn : List He.DefD := [d_gives, d_ChangeX_initX, d_Change_cells, d_gets, d_changing, d_readers, d_all_rings, d_is_pure, d_pure_rings, d_law_bag, d_law_stirred, d_law_draw, d_law_whole, d_law_sign, d_law_ring_cells, d_law_cell, d_law_cells, d_law_many, d_law_rows, d_law_gets, d_law_pure, d_law_case, d_law]
def fa : List He.Fa := [.free "abs", .free "all", .free "bool", .free "int", .free "isinstance", .free "len", .free "list", .free "min", .free "range", .free "str", .int "MOST" 400, .glo "gives", .glo "gets", .glo "changing", .glo "readers", .glo "all_rings", .glo "is_pure", .glo "pure_rings", .glo "_law_bag", .glo "_law_stirred", .glo "_law_draw", .glo "_law_whole", .glo "_law_sign", .glo "_law_ring_cells", .glo "_law_cell", .glo "_law_cells", .glo "_law_many", .glo "_law_rows", .glo "_law_gets", .glo "_law_pure", .glo "_law_case", .glo "law", .glo "Change", .cls "Change", .mkr "Change", .noat "Change" "size", .noat "Change" "rows", .meth "Change" "cells"]
abbrev RR : PySem.W.OpenRow := PySem.W.OpenLaw.row PySem.Challenge.rw_remadehere_k31_pure_rings_counted
abbrev hk : PySem.W.Hook := He.hookD 4 fa fn
def ob (s : PySem.W.SharedT) : He.AlD := He.obsDG 4 fa fn (HandSHeadRun.getT s)
theorem ob_eq (s : PySem.W.SharedT) : ob s = hk.obs s.abs := He.obsDG_eq (HandSHeadRun.getT_eq s)
theorem run (w : World) : HandSHeadRun.RunEq RR (PySem.W.view RR.prog [30]) hk ob 3000 ["_wall", "BadRow", "BadSize", "gets", "changing", "readers", "all_rings", "is_pure", "pure_rings", "MOST", "gives", "row_text", "Change", "_law_bag", "_law_stirred", "_law_draw", "_law_whole", "_law_sign", "_law_ring_cells", "_law_cell", "_law_cells", "_law_many", "_law_rows", "_law_gets", "_law_pure", "_law_case"] w := by
  intro os
  kernel_rfl
theorem facts {P : Program} {w : World} {K : PySem.W.Frag} {mg : Str → Option Value} {h : Heap} {f : Addr} (X : K.In h) (G : h.Ns mainGlobals mg) (hfa : mg ("law" : Str) = some (.ref f)) (c : He.SaysD fa fn K) :
    ∃ fd : FuncData, (∀ (s : Shared) (v : Value), BindsTo s fd ⟨[v], []⟩ [("script", v)]) ∧ ∀ base : Heap, K.In base → base.Ns mainGlobals mg → FnOk P w K mg base CX0 12 f fd ["script"] (S1 (φlaw K)) := by
  have T : Txt K mg := ⟨He.free_ok X G (c.fact 0 (f := .free "abs") rfl), He.free_ok X G (c.fact 1 (f := .free "all") rfl), He.free_ok X G (c.fact 2 (f := .free "bool") rfl), He.free_ok X G (c.fact 3 (f := .free "int") rfl), He.free_ok X G (c.fact 4 (f := .free "isinstance") rfl), He.free_ok X G (c.fact 5 (f := .free "len") rfl), He.free_ok X G (c.fact 6 (f := .free "list") rfl), He.free_ok X G (c.fact 7 (f := .free "min") rfl), He.free_ok X G (c.fact 8 (f := .free "range") rfl), He.free_ok X G (c.fact 9 (f := .free "str") rfl), He.int_ok X G (c.fact 10 (f := .int "MOST" 400) rfl), He.cls_ok (c.fact 33 (f := .cls "Change") rfl), He.noat_ok (c.fact 35 (f := .noat "Change" "size") rfl), He.noat_ok (c.fact 36 (f := .noat "Change" "rows") rfl)⟩
  obtain ⟨fd_gives, F_gives⟩ := c.def_ 0 (d := d_gives) rfl
  obtain ⟨fd_ChangeX_initX, F_ChangeX_initX⟩ := c.def_ 1 (d := d_ChangeX_initX) rfl
  obtain ⟨fd_Change_cells, F_Change_cells⟩ := c.def_ 2 (d := d_Change_cells) rfl
  obtain ⟨fd_gets, F_gets⟩ := c.def_ 3 (d := d_gets) rfl
  obtain ⟨fd_changing, F_changing⟩ := c.def_ 4 (d := d_changing) rfl
  obtain ⟨fd_readers, F_readers⟩ := c.def_ 5 (d := d_readers) rfl
  obtain ⟨fd_all_rings, F_all_rings⟩ := c.def_ 6 (d := d_all_rings) rfl
  obtain ⟨fd_is_pure, F_is_pure⟩ := c.def_ 7 (d := d_is_pure) rfl
  obtain ⟨fd_pure_rings, F_pure_rings⟩ := c.def_ 8 (d := d_pure_rings) rfl
  obtain ⟨fd_law_bag, F_law_bag⟩ := c.def_ 9 (d := d_law_bag) rfl
  obtain ⟨fd_law_stirred, F_law_stirred⟩ := c.def_ 10 (d := d_law_stirred) rfl
  obtain ⟨fd_law_draw, F_law_draw⟩ := c.def_ 11 (d := d_law_draw) rfl
  obtain ⟨fd_law_whole, F_law_whole⟩ := c.def_ 12 (d := d_law_whole) rfl
  obtain ⟨fd_law_sign, F_law_sign⟩ := c.def_ 13 (d := d_law_sign) rfl
  obtain ⟨fd_law_ring_cells, F_law_ring_cells⟩ := c.def_ 14 (d := d_law_ring_cells) rfl
  obtain ⟨fd_law_cell, F_law_cell⟩ := c.def_ 15 (d := d_law_cell) rfl
  obtain ⟨fd_law_cells, F_law_cells⟩ := c.def_ 16 (d := d_law_cells) rfl
  obtain ⟨fd_law_many, F_law_many⟩ := c.def_ 17 (d := d_law_many) rfl
  obtain ⟨fd_law_rows, F_law_rows⟩ := c.def_ 18 (d := d_law_rows) rfl
  obtain ⟨fd_law_gets, F_law_gets⟩ := c.def_ 19 (d := d_law_gets) rfl
  obtain ⟨fd_law_pure, F_law_pure⟩ := c.def_ 20 (d := d_law_pure) rfl
  obtain ⟨fd_law_case, F_law_case⟩ := c.def_ 21 (d := d_law_case) rfl
  obtain ⟨fd_law, F_law⟩ := c.def_ 22 (d := d_law) rfl
  have D_gives : ∀ base, DO P w K mg base 1 "gives" ["row", "size"] [] (S2 (φgives K)) := fun base => ⟨_, _, [], ok_gives F_gives T , He.glo_ok X G (c.fact 11 (f := .glo "gives") rfl), F_gives.kp, F_gives.bindsN fun _ _ _ _ _ _ us hl => match us, hl with | [_, _], _ => rfl, .nil⟩
  have DN_Change_2 : ∀ base, DN P w K mg base 2 "Change" ["self", "size", "rows"] [] (S3 (φinit K)) := fun base => ⟨_, [], ok_ChangeX_initX F_ChangeX_initX T (D_gives base), He.mkr_ok (c.fact 34 (f := .mkr "Change") rfl), He.glo_ok X G (c.fact 32 (f := .glo "Change") rfl), F_ChangeX_initX.bindsN fun _ _ _ _ _ _ us hl => match us, hl with | [_, _, _], _ => rfl, .nil⟩
  have DM_Change_cells : ∀ base, DM P w K mg base 1 "Change" "cells" ["self"] [] (S1 (φcells K)) := fun base => ⟨_, [], ok_Change_cells F_Change_cells T , He.meth_ok (c.fact 37 (f := .meth "Change" "cells") rfl), T.k_Change, F_Change_cells.bindsN fun _ _ _ _ _ _ us hl => match us, hl with | [_], _ => rfl, .nil⟩
  have D_gets : ∀ base, DO P w K mg base 1 "gets" ["cells", "place"] [] (S2 (φgets31 K)) := fun base => ⟨_, _, [], ok_gets F_gets T , He.glo_ok X G (c.fact 12 (f := .glo "gets") rfl), F_gets.kp, F_gets.bindsN fun _ _ _ _ _ _ us hl => match us, hl with | [_, _], _ => rfl, .nil⟩
  have D_changing : ∀ base, DO P w K mg base 1 "changing" ["cells"] [] (S1 (φchanging K)) := fun base => ⟨_, _, [], ok_changing F_changing T , He.glo_ok X G (c.fact 13 (f := .glo "changing") rfl), F_changing.kp, F_changing.bindsN fun _ _ _ _ _ _ us hl => match us, hl with | [_], _ => rfl, .nil⟩
  have D_readers : ∀ base, DO P w K mg base 2 "readers" ["cells", "size"] [] (S2 (φreaders K)) := fun base => ⟨_, _, [], ok_readers F_readers T (D_changing base) (D_gets base), He.glo_ok X G (c.fact 14 (f := .glo "readers") rfl), F_readers.kp, F_readers.bindsN fun _ _ _ _ _ _ us hl => match us, hl with | [_, _], _ => rfl, .nil⟩
  have D_all_rings : ∀ base, DO P w K mg base 2 "all_rings" ["cells"] [] (S1 (φrings K)) := fun base => ⟨_, _, [], ok_all_rings F_all_rings T (D_changing base) (D_gets base), He.glo_ok X G (c.fact 15 (f := .glo "all_rings") rfl), F_all_rings.kp, F_all_rings.bindsN fun _ _ _ _ _ _ us hl => match us, hl with | [_], _ => rfl, .nil⟩
  have D_is_pure : ∀ base, DO P w K mg base 1 "is_pure" ["ring", "reads"] [] (S2 (φis_pure K)) := fun base => ⟨_, _, [], ok_is_pure F_is_pure T , He.glo_ok X G (c.fact 16 (f := .glo "is_pure") rfl), F_is_pure.kp, F_is_pure.bindsN fun _ _ _ _ _ _ us hl => match us, hl with | [_, _], _ => rfl, .nil⟩
  have D_pure_rings : ∀ base, DO P w K mg base 3 "pure_rings" ["change"] [] (S1 (φpure_rings K)) := fun base => ⟨_, _, [], ok_pure_rings F_pure_rings T (D_all_rings base) (D_is_pure base) (D_readers base) (DM_Change_cells base), He.glo_ok X G (c.fact 17 (f := .glo "pure_rings") rfl), F_pure_rings.kp, F_pure_rings.bindsN fun _ _ _ _ _ _ us hl => match us, hl with | [_], _ => rfl, .nil⟩
  have DK_pure_rings_0_change : ∀ base, DK P w K mg base 3 "pure_rings" ["change"] 0 ["change"] [(1, 0)] [] (S1 (φpure_rings K)) := fun base => ⟨_, _, [], ok_pure_rings F_pure_rings T (D_all_rings base) (D_is_pure base) (D_readers base) (DM_Change_cells base), He.glo_ok X G (c.fact 17 (f := .glo "pure_rings") rfl), F_pure_rings.kp, kbN F_pure_rings (fun _ _ _ _ _ _ us ws hu hw => match us, ws, hu, hw with | [], [_], _, _ => rfl)⟩
  have D_law_bag : ∀ base, DO P w K mg base 1 "_law_bag" ["script"] [] (S1 (φbag K)) := fun base => ⟨_, _, [], ok_law_bag F_law_bag T , He.glo_ok X G (c.fact 18 (f := .glo "_law_bag") rfl), F_law_bag.kp, F_law_bag.bindsN fun _ _ _ _ _ _ us hl => match us, hl with | [_], _ => rfl, .nil⟩
  have D_law_stirred : ∀ base, DO P w K mg base 1 "_law_stirred" ["bag", "many"] [] (S2 (φdraw K)) := fun base => ⟨_, _, [], ok_law_stirred F_law_stirred T , He.glo_ok X G (c.fact 19 (f := .glo "_law_stirred") rfl), F_law_stirred.kp, F_law_stirred.bindsN fun _ _ _ _ _ _ us hl => match us, hl with | [_, _], _ => rfl, .nil⟩
  have D_law_draw : ∀ base, DO P w K mg base 2 "_law_draw" ["bag", "many"] [] (S2 (φdraw K)) := fun base => ⟨_, _, [], ok_law_draw F_law_draw T (D_law_stirred base), He.glo_ok X G (c.fact 20 (f := .glo "_law_draw") rfl), F_law_draw.kp, F_law_draw.bindsN fun _ _ _ _ _ _ us hl => match us, hl with | [_, _], _ => rfl, .nil⟩
  have D_law_whole : ∀ base, DO P w K mg base 1 "_law_whole" ["got"] [] (S1 φwholeI) := fun base => ⟨_, _, [], ok_law_whole F_law_whole T , He.glo_ok X G (c.fact 21 (f := .glo "_law_whole") rfl), F_law_whole.kp, F_law_whole.bindsN fun _ _ _ _ _ _ us hl => match us, hl with | [_], _ => rfl, .nil⟩
  have D_law_sign : ∀ base, DO P w K mg base 3 "_law_sign" ["bag", "few"] [] (S2 (φlsign K)) := fun base => ⟨_, _, [], ok_law_sign F_law_sign T (D_law_draw base), He.glo_ok X G (c.fact 22 (f := .glo "_law_sign") rfl), F_law_sign.kp, F_law_sign.bindsN fun _ _ _ _ _ _ us hl => match us, hl with | [_, _], _ => rfl, .nil⟩
  have D_law_ring_cells : ∀ base, DO P w K mg base 3 "_law_ring_cells" ["bag", "n"] [] (S2 (φlringcells K)) := fun base => ⟨_, _, [], ok_law_ring_cells F_law_ring_cells T (D_law_draw base), He.glo_ok X G (c.fact 23 (f := .glo "_law_ring_cells") rfl), F_law_ring_cells.kp, F_law_ring_cells.bindsN fun _ _ _ _ _ _ us hl => match us, hl with | [_, _], _ => rfl, .nil⟩
  have D_law_cell : ∀ base, DO P w K mg base 4 "_law_cell" ["bag", "size", "few"] [] (S3 (φlcell K)) := fun base => ⟨_, _, [], ok_law_cell F_law_cell T (D_law_draw base) (D_law_sign base), He.glo_ok X G (c.fact 24 (f := .glo "_law_cell") rfl), F_law_cell.kp, F_law_cell.bindsN fun _ _ _ _ _ _ us hl => match us, hl with | [_, _, _], _ => rfl, .nil⟩
  have D_law_cells : ∀ base, DO P w K mg base 5 "_law_cells" ["bag", "way", "n", "few"] [] (S4 (φlcells31 K)) := fun base => ⟨_, _, [], ok_law_cells F_law_cells T (D_law_cell base) (D_law_draw base) (D_law_ring_cells base), He.glo_ok X G (c.fact 25 (f := .glo "_law_cells") rfl), F_law_cells.kp, F_law_cells.bindsN fun _ _ _ _ _ _ us hl => match us, hl with | [_, _, _, _], _ => rfl, .nil⟩
  have D_law_many : ∀ base, DO P w K mg base 3 "_law_many" ["bag"] [] (S1 (φlmany K)) := fun base => ⟨_, _, [], ok_law_many F_law_many T (D_law_draw base), He.glo_ok X G (c.fact 26 (f := .glo "_law_many") rfl), F_law_many.kp, F_law_many.bindsN fun _ _ _ _ _ _ us hl => match us, hl with | [_], _ => rfl, .nil⟩
  have D_law_rows : ∀ base, DO P w K mg base 3 "_law_rows" ["bag", "cells"] [] (S2 (φlrows31 K)) := fun base => ⟨_, _, [], ok_law_rows F_law_rows T (D_law_draw base), He.glo_ok X G (c.fact 27 (f := .glo "_law_rows") rfl), F_law_rows.kp, F_law_rows.bindsN fun _ _ _ _ _ _ us hl => match us, hl with | [_, _], _ => rfl, .nil⟩
  have D_law_gets : ∀ base, DO P w K mg base 1 "_law_gets" ["cells", "place"] [] (S2 (φgets31 K)) := fun base => ⟨_, _, [], ok_law_gets F_law_gets T , He.glo_ok X G (c.fact 28 (f := .glo "_law_gets") rfl), F_law_gets.kp, F_law_gets.bindsN fun _ _ _ _ _ _ us hl => match us, hl with | [_, _], _ => rfl, .nil⟩
  have D_law_pure : ∀ base, DO P w K mg base 2 "_law_pure" ["cells", "size"] [] (S2 (φlpure K)) := fun base => ⟨_, _, [], ok_law_pure F_law_pure T (D_law_gets base), He.glo_ok X G (c.fact 29 (f := .glo "_law_pure") rfl), F_law_pure.kp, F_law_pure.bindsN fun _ _ _ _ _ _ us hl => match us, hl with | [_, _], _ => rfl, .nil⟩
  have D_law_case : ∀ base, DO P w K mg base 6 "_law_case" ["bag", "few"] [] (S2 (φcase31 K)) := fun base => ⟨_, _, [], ok_law_case F_law_case T (D_law_cells base) (D_law_draw base) (D_law_many base) (D_law_rows base), He.glo_ok X G (c.fact 30 (f := .glo "_law_case") rfl), F_law_case.kp, F_law_case.bindsN fun _ _ _ _ _ _ us hl => match us, hl with | [_, _], _ => rfl, .nil⟩
  have e := hfa.symm.trans (He.glo_ok X G (c.fact 31 (f := .glo "law") rfl))
  cases e
  have b := FunD.bindsA (ps := ["script"]) F_law fun _ _ _ _ _ _ us hl => match us, hl with | [_], _ => rfl
  exact ⟨fd_law, fun s v => b s [v] rfl, fun base _ _ => ok_law F_law T (D_law_bag base) (D_law_case base) (D_law_draw base) (D_law_pure base) (D_law_whole base) (D_pure_rings base) (DK_pure_rings_0_change base) (DN_Change_2 base)⟩
end Z
open PySem PySem.W PySem.Calls PyProof.Rows
theorem PySem.Challenge.cw_remadehere_k31_pure_rings_counted_holds : PySem.Challenge.rw_remadehere_k31_pure_rings_counted.Holds := by
  w_on; o_law
  refine HandSHeadRun.head_any (r := OpenLaw.row PySem.Challenge.rw_remadehere_k31_pure_rings_counted) (q := view (OpenLaw.row PySem.Challenge.rw_remadehere_k31_pure_rings_counted).prog [30]) (H := Z.hk) (ob := Z.ob) (M := 3000) (loose := ["_wall", "BadRow", "BadSize", "gets", "changing", "readers", "all_rings", "is_pure", "pure_rings", "MOST", "gives", "row_text", "Change", "_law_bag", "_law_stirred", "_law_draw", "_law_whole", "_law_sign", "_law_ring_cells", "_law_cell", "_law_cells", "_law_many", "_law_rows", "_law_gets", "_law_pure", "_law_case"]) (d := HandSHeadRun.topDef (OpenLaw.row PySem.Challenge.rw_remadehere_k31_pure_rings_counted).prog 30) (kwd := []) Z.ob_eq
    (by kernel_rfl) (fun s => by kernel_rfl) Z.run (by kernel_rfl) (by kernel_rfl) (by kernel_rfl) (by rfl) (by first | assumption | decide +kernel) (by decide +kernel) ⟨rfl, rfl, rfl, rfl, rfl, by decide +kernel⟩ ?hw ?hc
  case hw => w_witness2
  case hc =>
    refine L2.walk_ofE (l := PySem.Challenge.rw_remadehere_k31_pure_rings_counted) (n := 63) (k := 12) (x := "script") (CX := L2.CX0) rfl (by decide) (by kernel_rfl) ⟨rfl, by decide, by decide⟩ ?F (fun _ _ _ _ z => z)
    intro w mg fa h Y G hmg0
    obtain ⟨K, KX, c⟩ := Y
    have hmg : mg ("law" : PySem.Str) = some (.ref fa) := by
      have e : (HandSHeadRun.topDef (OpenLaw.row PySem.Challenge.rw_remadehere_k31_pure_rings_counted).prog 30).name = ("law" : PySem.Str) := by kernel_rfl
      rw [← e]
      exact hmg0
    obtain ⟨fd, hb, hF⟩ := Z.facts (P := (PySem.Challenge.rw_remadehere_k31_pure_rings_counted).prog) (w := w) KX G hmg c
    exact ⟨K, fd, (R.S1 (R.φlaw K)), KX, hb, fun H a ns hl hO hS => R.law_start a ns hl hO hS, hF⟩
